import PyProof.Rows.All
import Wide.All
import OpenK.AllK
import Wide.FinOn
import HandS.ForMost
import HandS.IsInst
import HandS.Style
import HandS.TupAny
import HandS.TupMul
import HandS.SortInts
import HandS.Deep
import HandS.Exc
import HandS.Lambda
import HandS.Zip
import HandS.Conv
import HandS.Wide
import HandS.Strs
import HandS.Text
import PyProof.StrBlock2
import KE.GoesEnum
import KE.SortData
import KE.DataMinMax
import HandS.Dict
import HandS.TupLen
import HandS.Walk
import HandS.SetFor
import PyProof.Rows.SetFrom
import PyProof.SetRoads
import HandS.More
import HandS.WordsDict
import KE.KRevSl
import PyProof.StrLawsRepr
import PySem.Challenge.RW_shiftsame_k50_whole_words_met
set_option Elab.async false
set_option linter.all false
set_option maxRecDepth 100000
section
namespace G
open PySem PySem.Spec PyProof.Rows L2

inductive Out (α : Type) where
  | ok (a : α)
  | exc (c : Str) (v : PyData)
structure DS where
  cells : List Int
  great : List Int
  spot : Nat
abbrev Ms := Option DS
abbrev R (α : Type) := Option (Out α × Ms)
def ret {α : Type} (a : α) (m : Ms) : R α := some (.ok a, m)
def bnd {α β : Type} (x : R α) (f : α → Ms → R β) : R β := match x with
  | some (.ok a, m) => f a m
  | some (.exc c v, m) => some (.exc c v, m)
  | none => none
theorem bnd_ret {α β : Type} (a : α) (m : Ms) (f : α → Ms → R β) : bnd (ret a m) f = f a m := rfl
theorem bnd_some {α β : Type} (a : α) (m : Ms) (f : α → Ms → R β) : bnd (some (.ok a, m)) f = f a m := rfl
theorem bnd_ok {α β : Type} {x : R α} {f : α → Ms → R β} {b : β} {m' : Ms} (h : bnd x f = some (.ok b, m')) : ∃ a m, x = some (.ok a, m) ∧ f a m = some (.ok b, m') := by
  unfold bnd at h
  split at h
  · exact ⟨_, _, rfl, h⟩
  · cases h
  · cases h
def opt {α : Type} (x : Option α) (m : Ms) : R α := x.map fun a => (.ok a, m)
theorem opt_ok {α : Type} {x : Option α} {m m' : Ms} {a : α} (h : opt x m = some (.ok a, m')) : x = some a ∧ m' = m := by
  unfold opt at h
  cases x with
  | none => cases h
  | some b =>
    simp only [Option.map_some, Option.some.injEq, Prod.mk.injEq, Out.ok.injEq] at h
    exact ⟨by rw [h.1], h.2.symm⟩

inductive Val where
  | p (d : PyData)
  | drw
inductive Ow where
  | lst (l : List PyData)
  | dk (kvs : List (Int × PyData))
  | dt (kvs : List (List Int × PyData))
abbrev kdI (kvs : List (Int × PyData)) : PyData := .dict (kvs.map fun kv => (.int kv.1, kv.2))
inductive Slot where
  | fz (v : Val)
  | ow (w : Ow)
  | bd (w : Ow)
  | raw (x : V)
abbrev Slot.ol (l : List PyData) : Slot := .ow (.lst l)
abbrev Rho := List (Option Slot)
def datas : List Val → Option (List PyData)
  | [] => some []
  | .p d :: r => (datas r).map (d :: ·)
  | .drw :: _ => none
def Val.d : Val → Option PyData
  | .p d => some d
  | .drw => none
inductive Lit where
  | non | bl (b : Bool) | int (i : Int) | str (s : Str)
  deriving DecidableEq
def Lit.d : Lit → PyData
  | .non => .none
  | .bl b => .bool b
  | .int i => .int i
  | .str s => .str s

inductive Bi where
  | len | tuple | list | int | repr | all | any | sum | sorted | max | min
  deriving DecidableEq
inductive Bi2 where
  | max | min
  deriving DecidableEq
inductive Tg where
  | one (i : Nat)
  | two (i j : Nat)
  deriving DecidableEq
mutual
inductive E where
  | var (i : Nat)
  | cst (c : Lit)
  | glb (x : Str) (c : Lit)
  | tup (es : Es)
  | lst (es : Es)
  | dct
  | bin (op : Operator) (a b : E)
  | neg (a : E)
  | not (a : E)
  | cmp (op : CmpOp) (a b : E)
  | chain (o p : CmpOp) (a b c : E)
  | and (a : E) (r : Es)
  | or (a : E) (r : Es)
  | ite (c a b : E)
  | idx (a i : E)
  | slc (a : E) (lo hi : Oe)
  | rev (a : E)
  | call (f : Str) (es : Es)
  | bi (b : Bi) (a : E)
  | bi2 (b : Bi2) (a c : E)
  | rngs (tup : Bool) (it : Lp)
  | comp (e : E) (tg : Tg) (it : Lp) (c : Oe)
  | isi (a : E) (ts : List String)
  | index (l x : E)
  | srt (a : E)
  | lens (a : E)
  | bor (i : Nat) (e : E)
  | borK (i : Nat) (e : E)
  | dix (i : Nat) (k : E)
  | dget (i : Nat) (k d : E)
  | dkeys (i : Nat)
  | dlen (i : Nat)
inductive Es where
  | nil
  | cons (e : E) (r : Es)
inductive Oe where
  | no
  | yes (e : E)
inductive Lp where
  | val (e : E)
  | rng1 (b : E)
  | rng2 (a b : E)
  | rng3 (a b c : E)
  | keys (i : Nat)
  | enum (e : E)
  | zip (a b : E)
end
mutual
inductive S where
  | set (i : Nat) (e : E)
  | own (i : Nat) (e : E)
  | par2 (i j : Nat) (oi oj : Bool) (a b : E)
  | par3 (i j k : Nat) (a b c : E)
  | par3o (i j k : Nat) (oi oj ok : Bool) (a b c : E)
  | unp2 (i j : Nat) (e : E)
  | frz (i : Nat)
  | aug (i : Nat) (op : Operator) (e : E)
  | app (i : Nat) (e : E)
  | put (i : Nat) (k e : E)
  | put2 (i : Nat) (k l a b : E)
  | dput (i : Nat) (k e : E)
  | astup (i : Nat)
  | ext (i : Nat) (e : E)
  | augi (i : Nat) (op : Operator) (k e : E)
  | expr (e : E)
  | rt (e : E)
  | ite (c : E) (a b : B)
  | for (tg : Tg) (it : Lp) (b : B)
  | whl (c : E) (b : B)
  | rse (c : Str) (e : E)
inductive B where
  | nil
  | cons (s : S) (b : B)
end
structure Def where
  np : Nat
  ns : Nat
  body : B

def lim : Nat := 1000000
def wideN : Nat := 2 ^ 8000
theorem lt_wide {j : Int} {k : Nat} (h : j.natAbs < 2 ^ k) (hk : k ≤ 8000) : j.natAbs < wideN := Nat.lt_of_lt_of_le h (Nat.pow_le_pow_right (by decide) hk)
def binD : Operator → PyData → PyData → Option PyData
  | .Add, .int i, .int j => some (.int (i + j))
  | .Add, .tuple a, .tuple b => if a.length + b.length ≤ lim then some (.tuple (a ++ b)) else none
  | .Add, .list a, .list b => if a.length + b.length ≤ lim then some (.list (a ++ b)) else none
  | .Sub, .int i, .int j => some (.int (i - j))
  | .Mult, .int i, .int j => if (-(2 ^ 64) < i ∧ i < 2 ^ 64) ∨ (-(2 ^ 64) < j ∧ j < 2 ^ 64) then some (.int (i * j)) else none
  | .Mult, .list a, .int k => if -1000 ≤ k ∧ k ≤ 1000 ∧ a.length ≤ 1000 then some (.list (List.replicate k.toNat a).flatten) else none
  | .Mult, .tuple a, .int k => if -1000 ≤ k ∧ k ≤ 1000 ∧ a.length ≤ 1000 then some (.tuple (List.replicate k.toNat a).flatten) else none
  | .Mod, .int i, .int j => if 0 < j then some (.int (i % j)) else none
  | .FloorDiv, .int i, .int j => if 0 < j ∧ j.natAbs < wideN then some (.int (i / j)) else none
  | .Pow, .int i, .int j => if 0 ≤ j ∧ j ≤ 1000 ∧ i.natAbs < 2 ^ 64 then some (.int (i ^ j.toNat)) else none
  | .Add, .str a, .str b => if a.length + b.length ≤ lim then some (.str (a ++ b)) else none
  | .Mult, .str a, .int k => if 1 ≤ k ∧ k ≤ 1000 ∧ a.length ≤ 1000 then some (.str (Txt.mul a k)) else none
  | _, _, _ => none
def eqD : PyData → PyData → Option Bool
  | .str x, .str y => some (decide (x = y))
  | d, e => if SeqAt.shaped d = true ∧ SeqAt.shaped e = true then some (PyData.eqv d e) else none
def inD : PyData → PyData → Option Bool
  | d, .list ds => if SeqAt.shaped d = true ∧ SeqAt.shaped (.list ds) = true then some (ds.any fun z => PyData.eqv z d) else none
  | d, .tuple ds => if SeqAt.shaped d = true ∧ SeqAt.shaped (.tuple ds) = true then some (ds.any fun z => PyData.eqv z d) else none
  | _, _ => none
def isD : PyData → PyData → Option Bool
  | .none, .none => some true
  | .bool a, .bool b => some (decide (a = b))
  | .bool _, .none | .int _, .none | .str _, .none | .list _, .none | .tuple _, .none | .dict _, .none => some false
  | _, _ => none
def cmpD : CmpOp → PyData → PyData → Option Bool
  | .Eq, d, e => eqD d e
  | .NotEq, d, e => (eqD d e).map (!·)
  | .Lt, .int i, .int j => some (decide (i < j))
  | .LtE, .int i, .int j => some (decide (i ≤ j))
  | .Gt, .int i, .int j => some (decide (j < i))
  | .GtE, .int i, .int j => some (decide (j ≤ i))
  | .In, d, e => inD d e
  | .NotIn, d, e => (inD d e).map (!·)
  | .Is, d, e => isD d e
  | .IsNot, d, e => (isD d e).map (!·)
  | _, _, _ => none
def intsL : List PyData → Option (List Int)
  | [] => some []
  | .int i :: r => (intsL r).map (i :: ·)
  | _ :: _ => none
section
variable {κ : Type} [DecidableEq κ]
def getA (kvs : List (κ × PyData)) (k : κ) : Option PyData := (kvs.find? fun kv => decide (kv.1 = k)).map (·.2)
def putA (kvs : List (κ × PyData)) (k : κ) (v : PyData) : List (κ × PyData) :=
  if (kvs.any fun kv => decide (kv.1 = k)) = true then kvs.map (fun kv => if kv.1 = k then (kv.1, v) else kv) else kvs ++ [(k, v)]
end
def decI : List (PyData × PyData) → Option (List (Int × PyData))
  | [] => some []
  | (.int i, d) :: r => (decI r).map ((i, d) :: ·)
  | _ :: _ => none
def dictOf : Option (Option Slot) → Option Ow
  | some (some (.ow w)) => some w
  | some (some (.bd w)) => some w
  | some (some (.fz (.p (.dict kvs)))) => (decI kvs).map .dk
  | _ => none
def Ow.at : Ow → PyData → Option (Option PyData)
  | .dk kvs, .int i => some (getA kvs i)
  | .dt kvs, .tuple l => (intsL l).map fun k => getA kvs k
  | _, _ => none
def Ow.keys : Ow → Option (List PyData)
  | .dk kvs => some (kvs.map fun kv => .int kv.1)
  | .dt kvs => some (kvs.map fun kv => .tuple (kv.1.map .int))
  | _ => none
def Ow.put : Ow → PyData → PyData → Option Ow
  | .dk kvs, .int i, d => if kvs.length < lim then some (.dk (putA kvs i d)) else none
  | .dt kvs, .tuple l, d => if kvs.length < lim then (intsL l).map fun k => .dt (putA kvs k d) else none
  | _, _, _ => none
def isDct : Ow → Bool
  | .lst _ => false
  | _ => true
def idxD : PyData → PyData → Option PyData
  | .dict kvs, .int i => (decI kvs).bind fun ks => getA ks i
  | .list xs, .int i => atI xs i
  | .tuple xs, .int i => atI xs i
  | _, _ => none
def cutD (xs : List PyData) (lo hi : Option Int) : List PyData := (xs.drop (HT.sIx xs.length 0 lo)).take (HT.sIx xs.length xs.length hi - HT.sIx xs.length 0 lo)
def slcD : PyData → Option Int → Option Int → Option PyData
  | .list xs, lo, hi => some (.list (cutD xs lo hi))
  | .tuple xs, lo, hi => some (.tuple (cutD xs lo hi))
  | _, _, _ => none
def intOf : PyData → Option Int
  | .int i => some i
  | _ => none
def boolOf : PyData → Option Bool
  | .bool b => some b
  | _ => none
def bools : List PyData → Option (List Bool)
  | [] => some []
  | .bool i :: r => (bools r).map (i :: ·)
  | _ :: _ => none
def maxI : List Int → Option Int
  | [] => none
  | x :: r => some (r.foldl max x)
def minI : List Int → Option Int
  | [] => none
  | x :: r => some (r.foldl min x)
def sortI (l : List Int) : List Int := l.mergeSort (fun a b => decide (a ≤ b))
def insU (x : Int) : List Int → List Int
  | [] => [x]
  | y :: l => if x < y then x :: y :: l else if x = y then y :: l else y :: insU x l
def usort : List Int → List Int
  | [] => []
  | x :: l => insU x (usort l)
def fitsD (d : PyData) : Bool := d.showable && !d.hasDict && decide (d.depth ≤ 60) && decide (d.shown.length ≤ lim)
def alikeB (xs : List PyData) : Bool := xs.all fun x => xs.all fun y => PySem.W.alike x y
def nonN : PyData → Bool
  | .none => false
  | _ => true
def tup1 : PyData → Bool
  | .tuple (_ :: _) => true
  | _ => false
def noTup : PyData → Bool
  | .none | .tuple _ => false
  | _ => true
def srtA (xs : List PyData) : Option PyData := if alikeB xs = true ∧ (xs.all tup1 = true ∨ xs.all noTup = true) ∧ PyData.depthAll xs ≤ 20 ∧ PyData.hasDictAll xs = false then some (.list (xs.mergeSort (PySem.W.dataLe false id))) else none
def bestA (f : PyData → List PyData → PyData) : List PyData → Option PyData
  | [] => none
  | x :: xs => if alikeB (x :: xs) = true ∧ (x :: xs).all nonN = true ∧ PyData.depthAll (x :: xs) ≤ 20 ∧ PyData.hasDictAll (x :: xs) = false then some (f x xs) else none
def srtX (xs : List PyData) : Option PyData := match intsL xs with
  | some is => some (.list ((sortI is).map .int))
  | none => srtA xs
def maxX (xs : List PyData) : Option PyData := match intsL xs with
  | some is => (maxI is).map .int
  | none => bestA PySem.W.maxD xs
def minX (xs : List PyData) : Option PyData := match intsL xs with
  | some is => (minI is).map .int
  | none => bestA PySem.W.minD xs
def biD : Bi → PyData → Option PyData
  | .len, .list xs => some (.int xs.length)
  | .len, .tuple xs => some (.int xs.length)
  | .tuple, .list xs => some (.tuple xs)
  | .tuple, .tuple xs => some (.tuple xs)
  | .list, .list xs => some (.list xs)
  | .list, .tuple xs => some (.list xs)
  | .int, .int i => some (.int i)
  | .repr, d => if fitsD d = true then some (.str d.shown) else none
  | .all, .list xs => (bools xs).map fun bs => .bool (bs.all id)
  | .any, .list xs => (bools xs).map fun bs => .bool (bs.any id)
  | .sum, .list xs => (intsL xs).map fun is => .int is.sum
  | .sorted, .list xs => srtX xs
  | .max, .list xs => maxX xs
  | .max, .tuple xs => bestA PySem.W.maxD xs
  | .min, .list xs => minX xs
  | .min, .tuple xs => bestA PySem.W.minD xs
  | .int, .str a => if a.length ≤ 640 then (PySem.intText? a).map .int else none
  | .int, .bool b => some (.int (if b then 1 else 0))
  | _, _ => none
def seqI : PyData → Option (List Int)
  | .list xs => intsL xs
  | .tuple xs => intsL xs
  | _ => none
def srtD (d : PyData) : Option PyData := (seqI d).bind fun is => if is.length ≤ 1000 ∧ (usort is).length < 64 then some (.list ((usort is).map .int)) else none
def lensD (d : PyData) : Option PyData := (seqI d).bind fun is => if is.length ≤ 1000 then some (.int (usort is).length) else none
def bi2D : Bi2 → PyData → PyData → Option PyData
  | .max, .int i, .int j => some (.int (if j > i then j else i))
  | .min, .int i, .int j => some (.int (if j < i then j else i))
  | _, _, _ => none
def tyD : PyData → String
  | .none => "NoneType"
  | .bool _ => "bool"
  | .int _ => "int"
  | .str _ => "str"
  | .list _ => "list"
  | .tuple _ => "tuple"
  | .dict _ => "dict"
def isTy (a b : String) : Bool := a == b || (a == "bool" && b == "int")
def rngL (lo : Int) (n : Nat) : List PyData := (List.range n).map fun i => .int (lo + (i : Nat))
def enumL (xs : List PyData) : List PyData := (List.range xs.length).zipWith (fun i x => .tuple [.int (i : Nat), x]) xs
def zipL (xs ys : List PyData) : List PyData := xs.zipWith (fun x y => .tuple [x, y]) ys
def seqOf : PyData → Option (List PyData)
  | .list xs => some xs
  | .tuple xs => some xs
  | _ => none
def rng3L (lo : Int) (c : Int) (n : Nat) : List PyData := (List.range n).map fun i => .int (lo + (i : Nat) * c)
def rng3N (i j c : Int) : Nat := ((j - i + c - 1) / c).toNat
def rngOk (i j : Int) : Bool := decide (-1000000 ≤ i ∧ i ≤ 1000000 ∧ -1000000 ≤ j ∧ j ≤ 1000000)

def mixF (c : Int) (n : Int) : Int := ((c * (1 + 2 * n) * 48271) % 2147483647 + 7919 * n * n + 104729 * n) * 69621 % 2147483629 / 7
def drawF (d : DS) (l : Int) : Int × DS :=
  let n : Int := d.spot
  let d' : DS := { d with spot := d.spot + 1 }
  let c := d.cells.getD (d.spot % 64) 0
  let mixed := mixF (mixF (c + 31 * (n / 64)) n) (n + 7) % l
  if d.great = [] then (mixed, d')
  else
    let here := d.spot % d.great.length
    let g := d.great.getD here 0
    if 0 < g then (g % l, { d' with great := d.great.set here (g / l) }) else (mixed, d')
def drawR (m : Ms) (l : Int) : R Val := match m with
  | some d => if 0 < l ∧ l < 1073741824 ∧ d.spot < 2 ^ 40 then ret (.p (.int (drawF d l).1)) (some (drawF d l).2) else none
  | none => none

def bindT (tg : Tg) (x : PyData) (ρ : Rho) : Option Rho := match tg, x with
  | .one i, d => some (ρ.set i (some (.fz (.p d))))
  | .two i j, .tuple [a, b] => some ((ρ.set i (some (.fz (.p a)))).set j (some (.fz (.p b))))
  | _, _ => none
def Tg.slots : Tg → List Nat
  | .one i => [i]
  | .two i j => [i, j]
def wipeR (ρ : Rho) : List Nat → Rho
  | [] => ρ
  | v :: vs => (wipeR ρ vs).set v none
def compGo (f : PyData → Ms → R (Option PyData)) : List PyData → Ms → R (List PyData)
  | [], m => ret [] m
  | x :: xs, m => bnd (f x m) fun y m => bnd (compGo f xs m) fun ys m => ret (match y with | some y => y :: ys | none => ys) m
def andD (f : Ms → R Val) (x : Val) (m : Ms) : R Val := match x with
  | .p (.bool true) => f m
  | .p (.bool false) => ret (.p (.bool false)) m
  | _ => none
def orD (f : Ms → R Val) (x : Val) (m : Ms) : R Val := match x with
  | .p (.bool false) => f m
  | .p (.bool true) => ret (.p (.bool true)) m
  | _ => none
def dOf (x : R Val) : R PyData := bnd x fun v m => opt v.d m
def lk : E → Rho → Ms → R Val → R PyData
  | .var i, ρ, m, _ => match ρ[i]? with
    | some (some (.fz (.p d))) => ret d m
    | some (some (.ow (.lst l))) => ret (.list l) m
    | _ => none
  | _, _, _, r => dOf r
section
variable (cl : Str → List Val → Ms → R Val)
mutual
def ev : E → Rho → Ms → R Val
  | .var i, ρ, m => match ρ[i]? with
    | some (some (.fz v)) => ret v m
    | _ => none
  | .cst c, _, m => ret (.p c.d) m
  | .glb _ c, _, m => ret (.p c.d) m
  | .tup es, ρ, m => bnd (evs es ρ m) fun vs m => if vs.length ≤ lim then ret (.p (.tuple vs)) m else none
  | .lst es, ρ, m => bnd (evs es ρ m) fun vs m => if vs.length ≤ lim then ret (.p (.list vs)) m else none
  | .dct, _, m => ret (.p (.dict [])) m
  | .bin op a b, ρ, m => bnd (dOf (ev a ρ m)) fun x m => bnd (dOf (ev b ρ m)) fun y m => opt ((binD op x y).map .p) m
  | .neg a, ρ, m => bnd (dOf (ev a ρ m)) fun x m => opt ((intOf x).map fun i => .p (.int (-i))) m
  | .not a, ρ, m => bnd (dOf (ev a ρ m)) fun x m => opt ((boolOf x).map fun b => .p (.bool (!b))) m
  | .cmp op a b, ρ, m => bnd (dOf (ev a ρ m)) fun x m => bnd (dOf (ev b ρ m)) fun y m => opt ((cmpD op x y).map fun b => .p (.bool b)) m
  | .chain o p a b c, ρ, m => bnd (dOf (ev a ρ m)) fun x m => bnd (dOf (ev b ρ m)) fun y m => match cmpD o x y with
    | some true => bnd (dOf (ev c ρ m)) fun z m => opt ((cmpD p y z).map fun b => .p (.bool b)) m
    | some false => ret (.p (.bool false)) m
    | none => none
  | .and a r, ρ, m => bnd (ev a ρ m) fun x m => evAnd r ρ x m
  | .or a r, ρ, m => bnd (ev a ρ m) fun x m => evOr r ρ x m
  | .ite c a b, ρ, m => bnd (dOf (ev c ρ m)) fun x m => match boolOf x with
    | some true => ev a ρ m
    | some false => ev b ρ m
    | none => none
  | .idx a i, ρ, m => bnd (lk a ρ m (ev a ρ m)) fun x m => bnd (dOf (ev i ρ m)) fun y m => opt ((idxD x y).map .p) m
  | .slc a lo hi, ρ, m => bnd (dOf (ev a ρ m)) fun x m => bnd (evO lo ρ m) fun y m => bnd (evO hi ρ m) fun z m => opt ((slcD x y z).map .p) m
  | .rev a, ρ, m => bnd (dOf (ev a ρ m)) fun x m => match x with
    | .list xs => ret (.p (.list xs.reverse)) m
    | .tuple xs => ret (.p (.tuple xs.reverse)) m
    | _ => none
  | .call f es, ρ, m => bnd (eva es ρ m) fun vs m => cl f vs m
  | .bi b a, ρ, m => bnd (lk a ρ m (ev a ρ m)) fun x m => opt ((biD b x).map .p) m
  | .bi2 b a c, ρ, m => bnd (dOf (ev a ρ m)) fun x m => bnd (dOf (ev c ρ m)) fun y m => opt ((bi2D b x y).map .p) m
  | .rngs k it, ρ, m => bnd (evI it ρ m) fun xs m => ret (.p (if k then .tuple xs else .list xs)) m
  | .comp e tg it c, ρ, m => bnd (evI it ρ m) fun xs m => if xs.length ≤ lim then bnd (compGo (fun x m => match bindT tg x (wipeR ρ tg.slots) with
      | some ρ' => bnd (evC c ρ' m) fun t m => if t = true then bnd (dOf (ev e ρ' m)) fun y m => ret (some y) m else ret none m
      | none => none) xs m) fun ys m => ret (.p (.list ys)) m else none
  | .isi a ts, ρ, m => bnd (dOf (ev a ρ m)) fun x m => ret (.p (.bool (ts.any fun t => isTy (tyD x) t))) m
  | .index l x, ρ, m => bnd (dOf (ev l ρ m)) fun a m => bnd (dOf (ev x ρ m)) fun y m => match a with
    | .list xs => if SeqAt.shaped y = true ∧ SeqAt.shaped (.list xs) = true then opt ((xs.findIdx? fun z => PyData.eqv z y).map fun (j : Nat) => .p (.int j)) m else none
    | _ => none
  | .srt a, ρ, m => bnd (lk a ρ m (ev a ρ m)) fun x m => opt ((srtD x).map .p) m
  | .lens a, ρ, m => bnd (lk a ρ m (ev a ρ m)) fun x m => opt ((lensD x).map .p) m
  | .bor i e, ρ, m => match ρ[i]? with
    | some (some (.ow (.dk kvs))) => bnd (dOf (ev e (ρ.set i (some (.fz (.p (kdI kvs))))) m)) fun d m => if d.hasDict = false then ret (.p d) m else none
    | _ => none
  | .borK i e, ρ, m => match ρ[i]? with
    | some (some (.ow w)) => if isDct w = true then bnd (dOf (ev e (ρ.set i (some (.bd w))) m)) fun d m => if d.hasDict = false then ret (.p d) m else none else none
    | _ => none
  | .dix i k, ρ, m => bnd (dOf (ev k ρ m)) fun x m => opt ((dictOf ρ[i]?).bind fun w => (w.at x).bind fun o => o.map .p) m
  | .dget i k d, ρ, m => bnd (dOf (ev k ρ m)) fun x m => bnd (dOf (ev d ρ m)) fun y m => opt ((dictOf ρ[i]?).bind fun w => (w.at x).map fun o => .p (o.getD y)) m
  | .dkeys i, ρ, m => opt ((dictOf ρ[i]?).bind fun w => w.keys.map fun l => .p (.list l)) m
  | .dlen i, ρ, m => match ρ[i]? with
    | some (some (.ow (.dk kvs))) => ret (.p (.int kvs.length)) m
    | some (some (.fz (.p (.dict kvs)))) => ret (.p (.int kvs.length)) m
    | _ => none
def evs : Es → Rho → Ms → R (List PyData)
  | .nil, _, m => ret [] m
  | .cons e r, ρ, m => bnd (dOf (ev e ρ m)) fun x m => bnd (evs r ρ m) fun xs m => ret (x :: xs) m
def eva : Es → Rho → Ms → R (List Val)
  | .nil, _, m => ret [] m
  | .cons e r, ρ, m => bnd (ev e ρ m) fun x m => bnd (eva r ρ m) fun xs m => ret (x :: xs) m
def evAnd : Es → Rho → Val → Ms → R Val
  | .nil, _, x, m => match x with
    | .p (.bool b) => ret (.p (.bool b)) m
    | _ => none
  | .cons e r, ρ, x, m => andD (fun m => bnd (ev e ρ m) fun y m => evAnd r ρ y m) x m
def evOr : Es → Rho → Val → Ms → R Val
  | .nil, _, x, m => match x with
    | .p (.bool b) => ret (.p (.bool b)) m
    | _ => none
  | .cons e r, ρ, x, m => orD (fun m => bnd (ev e ρ m) fun y m => evOr r ρ y m) x m
def evO : Oe → Rho → Ms → R (Option Int)
  | .no, _, m => ret none m
  | .yes e, ρ, m => bnd (dOf (ev e ρ m)) fun x m => opt ((intOf x).map some) m
def evC : Oe → Rho → Ms → R Bool
  | .no, _, m => ret true m
  | .yes e, ρ, m => bnd (dOf (ev e ρ m)) fun x m => opt (boolOf x) m
def evI : Lp → Rho → Ms → R (List PyData)
  | .val e, ρ, m => bnd (dOf (ev e ρ m)) fun x m => opt (seqOf x) m
  | .rng1 b, ρ, m => bnd (dOf (ev b ρ m)) fun y m => match y with
    | .int j => if rngOk 0 j = true then ret (rngL 0 j.toNat) m else none
    | _ => none
  | .rng2 a b, ρ, m => bnd (dOf (ev a ρ m)) fun x m => bnd (dOf (ev b ρ m)) fun y m => match x, y with
    | .int i, .int j => if rngOk i j = true then ret (rngL i (j - i).toNat) m else none
    | _, _ => none
  | .rng3 a b c, ρ, m => bnd (dOf (ev a ρ m)) fun x m => bnd (dOf (ev b ρ m)) fun y m => bnd (dOf (ev c ρ m)) fun z m => match x, y, z with
    | .int i, .int j, .int c => if rngOk i j = true ∧ 0 < c ∧ c ≤ 1000000 then ret (rng3L i c (rng3N i j c)) m else none
    | _, _, _ => none
  | .keys i, ρ, m => match ρ[i]? with
    | some (some (.bd w)) => opt w.keys m
    | _ => none
  | .enum e, ρ, m => bnd (dOf (ev e ρ m)) fun x m => opt ((seqOf x).map enumL) m
  | .zip a b, ρ, m => bnd (dOf (ev a ρ m)) fun x m => bnd (dOf (ev b ρ m)) fun y m => match x, y with
    | .list xs, .list ys => ret (zipL xs ys) m
    | .tuple xs, .tuple ys => ret (zipL xs ys) m
    | _, _ => none
end
end

abbrev ed (cl : Str → List Val → Ms → R Val) (e : E) (ρ : Rho) (m : Ms) : R PyData := dOf (ev cl e ρ m)
inductive Fl where
  | nx (ρ : Rho)
  | rt (v : Val)
def forGo (f : PyData → Rho → Ms → R Fl) : List PyData → Rho → Ms → R Fl
  | [], ρ, m => ret (.nx ρ) m
  | x :: xs, ρ, m => bnd (f x ρ m) fun fl m => match fl with
    | .nx ρ' => forGo f xs ρ' m
    | .rt v => ret (.rt v) m
def whlGo (c : Rho → Ms → R Bool) (f : Rho → Ms → R Fl) : Nat → Rho → Ms → R Fl
  | 0, _, _ => none
  | n + 1, ρ, m => bnd (c ρ m) fun b m => if b = true then bnd (f ρ m) fun fl m => match fl with
      | .nx ρ' => whlGo c f n ρ' m
      | .rt v => ret (.rt v) m
    else ret (.nx ρ) m
def slotOf (o : Bool) (v : Val) : Option Slot := match o, v with
  | false, v => some (.fz v)
  | true, .p (.list l) => some (.ol l)
  | true, .p (.dict []) => some (.ow (.dk []))
  | true, _ => none
def augD (op : Operator) (x y : PyData) : Option PyData := match op, x, y with
  | .Add, .int i, .int j => some (.int (i + j))
  | .Sub, .int i, .int j => some (.int (i - j))
  | .Mult, .int i, .int j => if (-(2 ^ 64) < i ∧ i < 2 ^ 64) ∨ (-(2 ^ 64) < j ∧ j < 2 ^ 64) then some (.int (i * j)) else none
  | _, _, _ => none
def putL (l : List PyData) (k : PyData) (x : PyData) : Option (List PyData) := match k with
  | .int i => (ixN l.length i).map fun j => l.set j x
  | _ => none
section
variable (cl : Str → List Val → Ms → R Val) (W : Nat)
mutual
def ex : S → Rho → Ms → R Fl
  | .set i e, ρ, m => bnd (ev cl e ρ m) fun v m => ret (.nx (ρ.set i (some (.fz v)))) m
  | .own i e, ρ, m => bnd (ev cl e ρ m) fun v m => opt ((slotOf true v).map fun s => .nx (ρ.set i (some s))) m
  | .par2 i j oi oj a b, ρ, m => bnd (ev cl a ρ m) fun x m => bnd (ev cl b ρ m) fun y m => opt ((slotOf oi x).bind fun s => (slotOf oj y).map fun t => .nx ((ρ.set i (some s)).set j (some t))) m
  | .par3 i j k a b c, ρ, m => bnd (ev cl a ρ m) fun x m => bnd (ev cl b ρ m) fun y m => bnd (ev cl c ρ m) fun z m => ret (.nx (((ρ.set i (some (.fz x))).set j (some (.fz y))).set k (some (.fz z)))) m
  | .par3o i j k oi oj ok a b c, ρ, m => bnd (ev cl a ρ m) fun x m => bnd (ev cl b ρ m) fun y m => bnd (ev cl c ρ m) fun z m => opt ((slotOf oi x).bind fun s => (slotOf oj y).bind fun t => (slotOf ok z).map fun u => .nx (((ρ.set i (some s)).set j (some t)).set k (some u))) m
  | .unp2 i j e, ρ, m => bnd (ed cl e ρ m) fun x m => match x with
    | .tuple [a, b] => ret (.nx ((ρ.set i (some (.fz (.p a)))).set j (some (.fz (.p b))))) m
    | _ => none
  | .frz i, ρ, m => match ρ[i]? with
    | some (some (.ow (.lst l))) => ret (.nx (ρ.set i (some (.fz (.p (.list l)))))) m
    | some (some (.ow (.dk kvs))) => ret (.nx (ρ.set i (some (.fz (.p (kdI kvs)))))) m
    | some (some (.fz v)) => ret (.nx (ρ.set i (some (.fz v)))) m
    | _ => none
  | .aug i op e, ρ, m => match ρ[i]? with
    | some (some (.fz (.p x))) => bnd (ed cl e ρ m) fun y m => opt ((augD op x y).map fun z => .nx (ρ.set i (some (.fz (.p z))))) m
    | _ => none
  | .app i e, ρ, m => bnd (ed cl e ρ m) fun y m => match ρ[i]? with
    | some (some (.ow (.lst l))) => if l.length < lim then ret (.nx (ρ.set i (some (.ol (l ++ [y]))))) m else none
    | _ => none
  | .put i k e, ρ, m => bnd (ed cl e ρ m) fun y m => bnd (ed cl k ρ m) fun z m => match ρ[i]? with
    | some (some (.ow (.lst l))) => opt ((putL l z y).map fun l' => .nx (ρ.set i (some (.ol l')))) m
    | _ => none
  | .put2 i k l a b, ρ, m => bnd (ed cl a ρ m) fun x m => bnd (ed cl b ρ m) fun y m => bnd (ed cl k ρ m) fun z m => match ρ[i]? with
    | some (some (.ow (.lst u))) => match putL u z x with
      | some u' => bnd (ed cl l (ρ.set i (some (.ol u'))) m) fun z' m => opt ((putL u' z' y).map fun u2 => .nx (ρ.set i (some (.ol u2)))) m
      | none => none
    | _ => none
  | .dput i k e, ρ, m => bnd (ed cl e ρ m) fun y m => bnd (ed cl k ρ m) fun z m => match ρ[i]? with
    | some (some (.ow w)) => opt ((w.put z y).map fun w' => .nx (ρ.set i (some (.ow w')))) m
    | _ => none
  | .astup i, ρ, m => match ρ[i]? with
    | some (some (.ow (.dk []))) => ret (.nx (ρ.set i (some (.ow (.dt []))))) m
    | _ => none
  | .ext i e, ρ, m => bnd (ed cl e ρ m) fun y m => match ρ[i]?, y with
    | some (some (.ow (.lst l))), .list ys => if l.length + ys.length ≤ lim then ret (.nx (ρ.set i (some (.ol (l ++ ys))))) m else none
    | _, _ => none
  | .augi i op k e, ρ, m => bnd (ed cl k ρ m) fun z m => match ρ[i]? with
    | some (some (.ow (.lst l))) => match idxD (.list l) z with
      | some x => bnd (ed cl e ρ m) fun y m => opt ((augD op x y).bind fun v => (putL l z v).map fun l' => .nx (ρ.set i (some (.ol l')))) m
      | none => none
    | _ => none
  | .expr e, ρ, m => bnd (ev cl e ρ m) fun _ m => ret (.nx ρ) m
  | .rt e, ρ, m => bnd (ev cl e ρ m) fun v m => ret (.rt v) m
  | .ite c a b, ρ, m => bnd (ed cl c ρ m) fun x m => match boolOf x with
    | some true => exB a ρ m
    | some false => exB b ρ m
    | none => none
  | .for tg it b, ρ, m => bnd (evI cl it ρ m) fun xs m => forGo (fun x ρ m => match bindT tg x ρ with
    | some ρ' => exB b ρ' m
    | none => none) xs ρ m
  | .whl c b, ρ, m => whlGo (fun ρ m => bnd (ed cl c ρ m) fun x m => opt (boolOf x) m) (fun ρ m => exB b ρ m) W ρ m
  | .rse c e, ρ, m => bnd (ed cl e ρ m) fun v m => some (.exc c v, m)
def exB : B → Rho → Ms → R Fl
  | .nil, ρ, m => ret (.nx ρ) m
  | .cons s b, ρ, m => bnd (ex s ρ m) fun fl m => match fl with
    | .nx ρ' => exB b ρ' m
    | .rt v => ret (.rt v) m
end
end
def startR (ns : Nat) (vs : List Val) : Rho := vs.map (fun v => some (.fz v)) ++ List.replicate (ns - vs.length) none
def endF (fl : Fl) (m : Ms) : R Val := match fl with
  | .nx _ => ret (.p .none) m
  | .rt v => ret v m
inductive Fn where
  | code (d : Def)
  | draw
def run (Γ : Str → Option Fn) (W : Nat) : Nat → Str → List Val → Ms → R Val
  | 0, _, _, _ => none
  | n + 1, f, vs, m => match Γ f with
    | some (.code d) => if vs.length = d.np then bnd (exB (run Γ W n) W d.body (startR d.ns vs) m) endF else none
    | some .draw => match n, vs with
      | _ + 2, [.drw, .p (.int l)] => drawR m l
      | _, _ => none
    | none => none

def Bi.name : Bi → Str
  | .len => "len" | .tuple => "tuple" | .list => "list" | .int => "int" | .repr => "repr" | .all => "all" | .any => "any" | .sum => "sum" | .sorted => "sorted" | .max => "max" | .min => "min"
def Bi2.name : Bi2 → Str
  | .max => "max" | .min => "min"
def isVis (sc : Scope) (x : Str) : Bool := match sc.names.lookup x with
  | some .local | some .cell | some .free => true
  | _ => false
def isLoc (sc : Scope) (x : Str) : Bool := match sc.names.lookup x with
  | some .local | some .cell => true
  | _ => false
def isLcl (sc : Scope) (x : Str) : Bool := decide (sc.names.lookup x = some .local)
def isGl (sc : Scope) (x : Str) : Bool := decide (sc.names.lookup x = some .globalImplicit)
def litC : Lit → Const → Bool
  | .non, .none => true
  | .bl b, .bool c => b == c
  | .int i, .int j => decide (i = j)
  | .str x, .str y => decide (x = y)
  | _, _ => false
def plainN (x : Str) : Bool := decide (x ≠ ("__debug__" : Str)) && decide (x ≠ ("__classdict__" : Str)) && decide (x ≠ ("__name__" : Str))
def noSet : Expr → Bool
  | .Set _ _ _ => false
  | _ => true
def noStar : Expr → Bool
  | .Starred _ _ => false
  | _ => true
def noCall0 : Expr → Bool
  | .Call _ [] _ _ => false
  | _ => true
def plainTest : Expr → Bool
  | .UnaryOp .Not _ _ => false
  | .BoolOp _ _ _ => false
  | .IfExp _ _ _ _ => false
  | .Compare _ _ _ _ => false
  | _ => true
def noSlice : Expr → Bool
  | .Slice _ _ _ _ => false
  | _ => true
def isComp : Expr → Bool
  | .ListComp _ _ _ _ | .SetComp _ _ _ _ | .DictComp _ _ _ _ _ => true
  | _ => false
def nameAt (N : List Str) (i : Nat) (x : Str) : Bool := decide (N[i]? = some x)
def ownOf (N : List Str) (l : List Nat) : List (Str × Nat) := l.map fun i => (N.getD i "", i)
mutual
def tstE : E → Bool
  | .not a => tstE a
  | .and a r => tstE a && tstEs r
  | .or a r => tstE a && tstEs r
  | .ite _ _ _ => false
  | .bor _ _ => false
  | .borK _ _ => false
  | _ => true
def tstEs : Es → Bool
  | .nil => true
  | .cons e r => tstE e && tstEs r
end
def rng12 : Lp → Bool
  | .rng1 _ => true
  | .rng2 _ _ => true
  | _ => false
def rng3B : Lp → Bool
  | .rng3 _ _ _ => true
  | _ => false
def tgIt : Tg → Lp → Bool
  | .one _, .enum _ => false
  | .one _, .zip _ _ => false
  | _, _ => true
section
variable (T : Str → Option Lit) (N : List Str)
def chkVar (sc : Scope) (i : Nat) (x : Str) : Bool := nameAt N i x && isVis sc x && plainN x
def chkVarE (sc : Scope) (i : Nat) : Expr → Bool
  | .Name x _ => chkVar N sc i x
  | _ => false
def chkG (sc : Scope) (x : Str) (e : Expr) : Bool := match e with
  | .Name y _ => decide (y = x) && isGl sc x && plainN x
  | _ => false
def chkTg1 (sc : Scope) (own : Bool) (i : Nat) : Expr → Bool
  | .Name x _ => nameAt N i x && (if own then isLoc sc x else isLcl sc x || isLoc sc x)
  | _ => false
def chkTg (sc : Scope) : Tg → Expr → Bool
  | .one i, e => chkTg1 N sc true i e
  | .two i j, .Tuple [a, b] _ _ => chkTg1 N sc true i a && chkTg1 N sc true j b && decide (i ≠ j)
  | _, _ => false
def tyNames : List String := ["int", "bool", "list", "tuple", "str", "dict"]
def tysC (sc : Scope) : List String → Expr → Bool
  | [t], .Name x _ => decide (x = Str.ofString t) && isGl sc x && plainN x
  | ts, .Tuple es _ _ => decide (ts.length = es.length) && (ts.zip es).all fun p => match p.2 with
    | .Name x _ => decide (x = Str.ofString p.1) && isGl sc x && plainN x
    | _ => false
  | _, _ => false
mutual
def chkE : Scope → E → Expr → Bool
  | sc, .var i, .Name x _ => chkVar N sc i x
  | _, .cst c, .Constant k _ _ => litC c k
  | sc, .glb x c, e => chkG sc x e && decide (T x = some c)
  | sc, .tup es, .Tuple xs _ _ => chkEs sc es xs
  | sc, .lst es, .List xs _ => chkEs sc es xs
  | _, .dct, .Dict [] [] _ => true
  | sc, .bin op a b, .BinOp x op' y _ => decide (op = op') && chkE sc a x && chkE sc b y
  | sc, .neg a, .UnaryOp .USub x _ => chkE sc a x
  | sc, .not a, .UnaryOp .Not x _ => chkE sc a x
  | sc, .cmp op a b, .Compare x [op'] [y] _ => decide (op = op') && chkE sc a x && chkE sc b y && noSet y
  | sc, .chain o p a b c, .Compare x [o', p'] [y, z] _ => decide (o = o') && decide (p = p') && chkE sc a x && chkE sc b y && chkE sc c z && noSet y && noSet z
  | sc, .and a r, .BoolOp .And (x :: xs) _ => chkE sc a x && chkEs sc r xs
  | sc, .or a r, .BoolOp .Or (x :: xs) _ => chkE sc a x && chkEs sc r xs
  | sc, .ite c a b, .IfExp z x y _ => tstE c && chkE sc c z && chkE sc a x && chkE sc b y
  | sc, .idx a i, .Subscript x y _ => chkE sc a x && chkE sc i y && noSlice y
  | sc, .slc a lo hi, .Subscript x (.Slice l h none _) _ => chkE sc a x && chkO sc lo l && chkO sc hi h
  | sc, .rev a, .Subscript x (.Slice none none (some (.UnaryOp .USub (.Constant (.int 1) _ _) _)) _) _ => chkE sc a x
  | sc, .call f es, .Call g xs [] _ => chkG sc f g && chkEs sc es xs
  | sc, .bi b a, .Call g [x] [] _ => chkG sc b.name g && chkE sc a x && noStar x
  | sc, .bi2 b a c, .Call g [x, y] [] _ => chkG sc b.name g && chkE sc a x && chkE sc c y && noStar x && noStar y
  | sc, .rngs k it, .Call g [x] [] _ => chkG sc (if k then "tuple" else "list") g && chkI sc it x && noStar x && (rng12 it || (k && rng3B it))
  | sc, .comp e tg it c, .ListComp x [⟨t, i, ifs, z⟩] scope _ => decide (z = 0) && tgIt tg it && chkI sc it i && noSet i && blkC N sc scope (ownOf N tg.slots) && chkTg N (relS scope sc) tg t && chkTg N scope tg t
      && chkC (relS scope sc) c ifs && chkE (relS scope sc) e x
  | sc, .isi a ts, .Call g [x, y] [] _ => chkG sc "isinstance" g && chkE sc a x && tysC sc ts y && noStar x && noStar y && decide (ts.length ≤ 8) && ts.all fun t => tyNames.contains t
  | sc, .index l x, .Call (.Attribute y m ap) [z] [] cp => decide (m = ("index" : Str)) && chkE sc l y && chkE sc x z && noStar z && noCall0 y && (ap.endLine == cp.line)
  | sc, .srt a, .Call g [.Call g2 [x] [] _] [] _ => chkG sc "sorted" g && chkG sc "set" g2 && chkE sc a x && noStar x
  | sc, .lens a, .Call g [.Call g2 [x] [] _] [] _ => chkG sc "len" g && chkG sc "set" g2 && chkE sc a x && noStar x
  | sc, .bor _ e, x => chkE sc e x
  | sc, .borK _ e, x => chkE sc e x
  | sc, .dix i k, .Subscript x y _ => chkVarE N sc i x && chkE sc k y && noSlice y
  | sc, .dget i k d, .Call (.Attribute y m ap) [z, u] [] cp => decide (m = ("get" : Str)) && chkVarE N sc i y && chkE sc k z && chkE sc d u && noStar z && noStar u && (ap.endLine == cp.line)
  | sc, .dkeys i, .Call g [x] [] _ => chkG sc "list" g && chkVarE N sc i x && noStar x
  | sc, .dlen i, .Call g [x] [] _ => chkG sc "len" g && chkVarE N sc i x && noStar x
  | _, _, _ => false
def chkEs : Scope → Es → List Expr → Bool
  | _, .nil, [] => true
  | sc, .cons e r, x :: xs => chkE sc e x && chkEs sc r xs && noStar x
  | _, _, _ => false
def chkO : Scope → Oe → Option Expr → Bool
  | _, .no, none => true
  | sc, .yes e, some x => chkE sc e x
  | _, _, _ => false
def chkC : Scope → Oe → List Expr → Bool
  | _, .no, [] => true
  | sc, .yes e, [x] => tstE e && chkE sc e x
  | _, _, _ => false
def chkI : Scope → Lp → Expr → Bool
  | sc, .val e, x => chkE sc e x
  | sc, .rng1 b, .Call g [y] [] _ => chkG sc "range" g && chkE sc b y && noStar y
  | sc, .rng2 a b, .Call g [x, y] [] _ => chkG sc "range" g && chkE sc a x && chkE sc b y && noStar x && noStar y
  | sc, .rng3 a b c, .Call g [x, y, z] [] _ => chkG sc "range" g && chkE sc a x && chkE sc b y && chkE sc c z && noStar x && noStar y && noStar z
  | sc, .keys i, x => chkVarE N sc i x
  | sc, .enum e, .Call g [x] [] _ => chkG sc "enumerate" g && chkE sc e x && noStar x
  | sc, .zip a b, .Call g [x, y] [] _ => chkG sc "zip" g && chkE sc a x && chkE sc b y && noStar x && noStar y
  | _, _, _ => false
end
end
end G

end
section
namespace G
open PySem PySem.Spec PyProof.Rows L2

mutual
inductive Rp (F : Hp) : V → PyData → Prop
  | non : Rp F .non .none
  | bl (b : Bool) : Rp F (.bl b) (.bool b)
  | int (i : Int) : Rp F (.int i) (.int i)
  | str (x : Str) : Rp F (.str x) (.str x)
  | lst {a : Addr} {xs : List V} {ds : List PyData} : F a = some (.lst xs) → RpAll F xs ds → Rp F (.ref a) (.list ds)
  | tup {a : Addr} {xs : List V} {ds : List PyData} : F a = some (.tup xs) → RpAll F xs ds → Rp F (.ref a) (.tuple ds)
  | dct {a : Addr} {ks : List (Int × V)} {ds : List (Int × PyData)} : F a = some (.dK (ks.map fun kv => (.inl kv.1, kv.2))) → ks.map (·.1) = ds.map (·.1) → RpAll F (ks.map (·.2)) (ds.map (·.2)) → Rp F (.ref a) (.dict (ds.map fun kv => (.int kv.1, kv.2)))
inductive RpAll (F : Hp) : List V → List PyData → Prop
  | nil : RpAll F [] []
  | cons {v : V} {vs : List V} {d : PyData} {ds : List PyData} : Rp F v d → RpAll F vs ds → RpAll F (v :: vs) (d :: ds)
end
def Sub (F H : Hp) : Prop := ∀ b o, F b = some o → H b = some o
theorem Sub.refl (F : Hp) : Sub F F := fun _ _ h => h
theorem Sub.trans {F G H : Hp} (a : Sub F G) (b : Sub G H) : Sub F H := fun c o h => b c o (a c o h)
theorem Sub.rd {F H : Hp} (s : Sub F H) {a : Addr} {u : HO} : Rd F a u → Rd H a u
  | .inl h => .inl (s _ _ h)
  | .inr ⟨o, h⟩ => .inr ⟨o, s _ _ h⟩
section
variable {F F' H : Hp}
mutual
theorem Rp.mono (s : Sub F F') : ∀ {d : PyData} {v : V}, Rp F v d → Rp F' v d
  | _, _, .non => .non
  | _, _, .bl b => .bl b
  | _, _, .int i => .int i
  | _, _, .str x => .str x
  | _, _, .lst h r => .lst (s _ _ h) (RpAll.mono s r)
  | _, _, .tup h r => .tup (s _ _ h) (RpAll.mono s r)
  | _, _, .dct h e r => .dct (s _ _ h) e (RpAll.mono s r)
theorem RpAll.mono (s : Sub F F') : ∀ {ds : List PyData} {vs : List V}, RpAll F vs ds → RpAll F' vs ds
  | _, _, .nil => .nil
  | _, _, .cons h r => .cons (Rp.mono s h) (RpAll.mono s r)
end
mutual
theorem Rp.dp {K : PySem.W.Frag} (s : Sub F H) : ∀ {d : PyData} {v : V}, Rp F v d → d.hasDict = false → Dp K H v d
  | _, _, .non, _ => .non
  | _, _, .bl b, _ => .bl b
  | _, _, .int i, _ => .int i
  | _, _, .str x, _ => .str x
  | _, _, .lst h r, e => .lst (SqL.of (s _ _ h)) (RpAll.dp s r (by simpa [PyData.hasDict] using e))
  | _, _, .tup h r, e => .tup (SqT.of (s _ _ h)) (RpAll.dp s r (by simpa [PyData.hasDict] using e))
  | _, _, .dct _ _ _, e => by simp [PyData.hasDict] at e
theorem RpAll.dp {K : PySem.W.Frag} (s : Sub F H) : ∀ {ds : List PyData} {vs : List V}, RpAll F vs ds → PyData.hasDictAll ds = false → DpAll K H vs ds
  | _, _, .nil, _ => .nil
  | _, _, .cons h r, e => by
    simp only [PyData.hasDictAll, Bool.or_eq_false_iff] at e
    exact .cons (Rp.dp s h e.1) (RpAll.dp s r e.2)
end
theorem RpAll.length : ∀ {vs : List V} {ds : List PyData}, RpAll F vs ds → vs.length = ds.length
  | _, _, .nil => rfl
  | _, _, .cons _ r => by rw [List.length_cons, List.length_cons, RpAll.length r]
theorem RpAll.get : ∀ {vs : List V} {ds : List PyData} {i : Nat} {d : PyData}, RpAll F vs ds → ds[i]? = some d → ∃ v, vs[i]? = some v ∧ Rp F v d
  | _, _, _, _, .nil, h => by simp at h
  | _, _, 0, d, .cons h r, e => by simp at e; subst e; exact ⟨_, rfl, h⟩
  | _, _, i + 1, d, .cons h r, e => by
    obtain ⟨v, h1, h2⟩ := RpAll.get (i := i) r (by simpa using e)
    exact ⟨v, by simpa using h1, h2⟩
theorem RpAll.app : ∀ {vs ws : List V} {ds es : List PyData}, RpAll F vs ds → RpAll F ws es → RpAll F (vs ++ ws) (ds ++ es)
  | _, _, _, _, .nil, s => s
  | _, _, _, _, .cons h r, s => .cons h (RpAll.app r s)
theorem RpAll.take : ∀ {vs : List V} {ds : List PyData} (n : Nat), RpAll F vs ds → RpAll F (vs.take n) (ds.take n)
  | _, _, 0, _ => by simpa using RpAll.nil
  | _, _, _ + 1, .nil => .nil
  | _, _, n + 1, .cons h r => .cons h (RpAll.take n r)
theorem RpAll.drop : ∀ {vs : List V} {ds : List PyData} (n : Nat), RpAll F vs ds → RpAll F (vs.drop n) (ds.drop n)
  | _, _, 0, r => r
  | _, _, _ + 1, .nil => .nil
  | _, _, n + 1, .cons _ r => RpAll.drop n r
theorem RpAll.rev : ∀ {vs : List V} {ds : List PyData}, RpAll F vs ds → RpAll F vs.reverse ds.reverse
  | _, _, .nil => .nil
  | _, _, .cons h r => by
    rw [List.reverse_cons, List.reverse_cons]
    exact RpAll.app (RpAll.rev r) (.cons h .nil)
theorem RpAll.set {v : V} {d : PyData} (h : Rp F v d) : ∀ {vs : List V} {ds : List PyData} (i : Nat), RpAll F vs ds → RpAll F (vs.set i v) (ds.set i d)
  | _, _, _, .nil => .nil
  | _, _, 0, .cons _ r => .cons h r
  | _, _, i + 1, .cons q r => .cons q (RpAll.set h i r)
theorem RpAll.rep {vs : List V} {ds : List PyData} (h : RpAll F vs ds) : ∀ n : Nat, RpAll F (List.replicate n vs).flatten (List.replicate n ds).flatten
  | 0 => .nil
  | n + 1 => by
    rw [List.replicate_succ, List.replicate_succ, List.flatten_cons, List.flatten_cons]
    exact RpAll.app h (RpAll.rep h n)
theorem RpAll.ints : ∀ {vs : List V} {ds : List PyData} {is : List Int}, RpAll F vs ds → intsL ds = some is → vs = is.map V.int
  | _, _, _, .nil, h => by cases h; rfl
  | _, d :: _, _, .cons h r, e => by
    cases h with
    | int i =>
      simp only [intsL] at e
      cases q : intsL _ with
      | none => rw [q] at e; cases e
      | some js => rw [q] at e; cases e; rw [RpAll.ints r q]; rfl
    | _ => simp only [intsL] at e; cases e
theorem RpAll.bools : ∀ {vs : List V} {ds : List PyData} {is : List Bool}, RpAll F vs ds → G.bools ds = some is → vs = is.map V.bl
  | _, _, _, .nil, h => by cases h; rfl
  | _, d :: _, _, .cons h r, e => by
    cases h with
    | bl i =>
      simp only [G.bools] at e
      cases q : G.bools _ with
      | none => rw [q] at e; cases e
      | some js => rw [q] at e; cases e; rw [RpAll.bools r q]; rfl
    | _ => simp only [G.bools] at e; cases e
theorem RpAll.of_ints : ∀ is : List Int, RpAll F (is.map V.int) (is.map PyData.int)
  | [] => .nil
  | i :: r => .cons (.int i) (RpAll.of_ints r)
end

abbrev Dw := Option (Addr × Addr × Addr)
def isDr : Dw → Addr → Prop
  | none, _ => False
  | some (a, c, g), b => b = a ∨ b = c ∨ b = g
def VR (dw : Dw) (F : Hp) (x : V) : Val → Prop
  | .p d => Rp F x d
  | .drw => ∃ a c g, dw = some (a, c, g) ∧ x = .ref a
theorem VR.mono {dw : Dw} {F F' : Hp} (s : Sub F F') {x : V} : ∀ {v : Val}, VR dw F x v → VR dw F' x v
  | .p d, h => Rp.mono s h
  | .drw, h => h
inductive VRs (dw : Dw) (F : Hp) : List V → List Val → Prop
  | nil : VRs dw F [] []
  | cons {x : V} {v : Val} {xs : List V} {vs : List Val} : VR dw F x v → VRs dw F xs vs → VRs dw F (x :: xs) (v :: vs)
theorem VRs.mono {dw : Dw} {F F' : Hp} (s : Sub F F') : ∀ {xs : List V} {vs : List Val}, VRs dw F xs vs → VRs dw F' xs vs
  | _, _, .nil => .nil
  | _, _, .cons h r => .cons (h.mono s) (VRs.mono s r)
theorem VRs.length {dw : Dw} {F : Hp} : ∀ {xs : List V} {vs : List Val}, VRs dw F xs vs → xs.length = vs.length
  | _, _, .nil => rfl
  | _, _, .cons _ r => by rw [List.length_cons, List.length_cons, VRs.length r]
def Wf (d : DS) : Prop := d.cells.length = 64 ∧ d.great.length ≤ 63
def DrOk (F H : Hp) : Dw → Ms → Prop
  | none, none => True
  | some (a, c, g), some d => H a = some (.dK [(.inr "cells", .ref c), (.inr "great", .ref g), (.inr "spot", .int d.spot)]) ∧ H c = some (.lst (d.cells.map V.int)) ∧ H g = some (.lst (d.great.map V.int)) ∧
      F a = none ∧ F c = none ∧ F g = none ∧ c ≠ g ∧ Wf d
  | _, _ => False
structure Gr (dw : Dw) (F H : Hp) (m : Ms) : Prop where
  sub : Sub F H
  dr : DrOk F H dw m
structure Ext (dw : Dw) (F H F' H' : Hp) : Prop where
  fs : Sub F F'
  kp : ∀ b o, H b = some o → ¬ isDr dw b → H' b = some o
  nw : ∀ b o, F' b = some o → F b = some o ∨ H b = none ∨ ∃ xs, H b = some (.tup xs) ∧ ¬ isDr dw b
  al : ∀ b, H' b = none → H b = none
theorem Ext.refl (dw : Dw) (F H : Hp) : Ext dw F H F H := ⟨Sub.refl _, fun _ _ h _ => h, fun _ _ h => .inl h, fun _ h => h⟩
theorem Ext.trans {dw : Dw} {F H F1 H1 F2 H2 : Hp} (a : Ext dw F H F1 H1) (b : Ext dw F1 H1 F2 H2) : Ext dw F H F2 H2 := by
  refine ⟨a.fs.trans b.fs, fun c o h n => b.kp c o (a.kp c o h n) n, fun c o h => ?_, fun c h => a.al c (b.al c h)⟩
  rcases b.nw c o h with q | q | ⟨xs, q, nd⟩
  · exact a.nw c o q
  · exact .inr (.inl (a.al c q))
  · cases e : H c with
    | none => exact .inr (.inl rfl)
    | some u =>
      have := a.kp c u e nd
      rw [q] at this
      cases this
      exact .inr (.inr ⟨xs, rfl, nd⟩)
theorem Ext.stay {dw : Dw} {F H F' H' : Hp} (e : Ext dw F H F' H') {a : Addr} {o : HO} (h : F a = none) (n : H a = some o) (nt : ∀ xs, o ≠ .tup xs) : F' a = none := by
  cases q : F' a with
  | none => rfl
  | some u =>
    rcases e.nw _ _ q with z | z | ⟨xs, z, _⟩
    · rw [h] at z; cases z
    · rw [n] at z; cases z
    · rw [n] at z; cases z; exact absurd rfl (nt xs)
theorem DrOk.free {dw : Dw} {F H : Hp} {m : Ms} (h : DrOk F H dw m) {b : Addr} (n : H b = none) : ¬ isDr dw b := by
  cases dw with
  | none => exact fun z => z
  | some t =>
    obtain ⟨a, c, g⟩ := t
    cases m with
    | none => exact h.elim
    | some d =>
      obtain ⟨h1, h2, h3, _⟩ := h
      rintro (e | e | e) <;> (subst e; rw [n] at *; first | cases h1 | cases h2 | cases h3)
theorem DrOk.keep {dw : Dw} {F H F' H' : Hp} {m : Ms} (h : DrOk F H dw m) (k : ∀ b o, H b = some o → H' b = some o) (n : ∀ b, isDr dw b → F b = none → F' b = none) : DrOk F' H' dw m := by
  cases dw with
  | none => cases m with
    | none => trivial
    | some d => exact h.elim
  | some t =>
    obtain ⟨a, c, g⟩ := t
    cases m with
    | none => exact h.elim
    | some d =>
      obtain ⟨h1, h2, h3, h4, h5, h6, h7⟩ := h
      exact ⟨k _ _ h1, k _ _ h2, k _ _ h3, n a (.inl rfl) h4, n c (.inr (.inl rfl)) h5, n g (.inr (.inr rfl)) h6, h7⟩
theorem DrOk.keepD {dw : Dw} {F H : Hp} {m : Ms} {D : Addr} {o : HO} (h : DrOk F H dw m) (n : ¬ isDr dw D) : DrOk F (upd H D o) dw m := by
  cases dw with
  | none => cases m with
    | none => trivial
    | some d => exact h.elim
  | some t =>
    obtain ⟨a, c, g⟩ := t
    cases m with
    | none => exact h.elim
    | some d =>
      obtain ⟨h1, h2, h3, h4⟩ := h
      refine ⟨?_, ?_, ?_, h4⟩
      · rw [upd_ne (fun z => n (.inl z.symm))]; exact h1
      · rw [upd_ne (fun z => n (.inr (.inl z.symm)))]; exact h2
      · rw [upd_ne (fun z => n (.inr (.inr z.symm)))]; exact h3
section
variable {dw : Dw} {F H : Hp} {m : Ms} {p : Addr} {o : HO}
theorem Gr.laidF (g : Gr dw F H m) (n : H p = none) : Gr dw (upd F p o) (upd H p o) m ∧ Ext dw F H (upd F p o) (upd H p o) := by
  have nF : F p = none := by
    cases q : F p with
    | none => rfl
    | some u => rw [g.sub _ _ q] at n; cases n
  have nd := g.dr.free n
  refine ⟨⟨fun b u e => ?_, g.dr.keep (fun b u e => ?_) fun b d e => ?_⟩, ⟨fun b u e => ?_, fun b u e _ => ?_, fun b u e => ?_, fun b e => ?_⟩⟩
  · by_cases h : b = p
    · subst h; rw [upd_same] at e ⊢; exact e
    · rw [upd_ne h] at e ⊢; exact g.sub _ _ e
  · rw [upd_ne (ne_of_none e n)]; exact e
  · rw [upd_ne (fun z => nd (by rw [← z]; exact d))]; exact e
  · rw [upd_ne (ne_of_none e nF)]; exact e
  · rw [upd_ne (ne_of_none e n)]; exact e
  · by_cases h : b = p
    · subst h; exact .inr (.inl n)
    · rw [upd_ne h] at e; exact .inl e
  · by_cases h : b = p
    · subst h; exact n
    · rw [upd_ne h] at e; exact e
theorem Gr.laid (g : Gr dw F H m) (n : H p = none) : Gr dw F (upd H p o) m ∧ Ext dw F H F (upd H p o) := by
  refine ⟨⟨fun b u e => ?_, g.dr.keep (fun b u e => ?_) fun b d e => e⟩, ⟨Sub.refl _, fun b u e _ => ?_, fun b u e => .inl e, fun b e => ?_⟩⟩
  · have e := g.sub _ _ e
    rw [upd_ne (ne_of_none e n)]; exact e
  · rw [upd_ne (ne_of_none e n)]; exact e
  · rw [upd_ne (ne_of_none e n)]; exact e
  · by_cases h : b = p
    · subst h; exact n
    · rw [upd_ne h] at e; exact e
theorem Gr.freeze (g : Gr dw F H m) (hp : H p = some o) (fp : F p = none) (nd : ¬ isDr dw p) : Gr dw (upd F p o) H m ∧ Sub F (upd F p o) := by
  refine ⟨⟨fun b u e => ?_, g.dr.keep (fun _ _ e => e) fun b d e => ?_⟩, fun b u e => ?_⟩
  · by_cases h : b = p
    · subst h; rw [upd_same] at e; cases e; exact hp
    · rw [upd_ne h] at e; exact g.sub _ _ e
  · rw [upd_ne (fun z => nd (by rw [← z]; exact d))]; exact e
  · rw [upd_ne (ne_of_none e fp)]; exact e
theorem Ext.freeze {F' H' : Hp} (g0 : Gr dw F H m) (e : Ext dw F H F' H') (n : H p = none) : Ext dw F H (upd F' p o) H' := by
  refine ⟨fun b u q => ?_, e.kp, fun b u q => ?_, e.al⟩
  · rw [upd_ne (ne_of_none (g0.sub _ _ q) n)]; exact e.fs _ _ q
  · by_cases h : b = p
    · subst h; exact .inr (.inl n)
    · rw [upd_ne h] at q; exact e.nw _ _ q
end

inductive OR (F : Hp) : HO → Ow → Prop
  | lst {xs : List V} {l : List PyData} : RpAll F xs l → OR F (.lst xs) (.lst l)
  | dk {js : List (Int × V)} {ds : List (Int × PyData)} : js.map (·.1) = ds.map (·.1) → RpAll F (js.map (·.2)) (ds.map (·.2)) → OR F (.dK (js.map fun kv => (.inl kv.1, kv.2))) (.dk ds)
  | dt {js : List (List Int × V)} {ds : List (List Int × PyData)} : js.map (·.1) = ds.map (·.1) → RpAll F (js.map (·.2)) (ds.map (·.2)) → OR F (.dT (js.map fun kv => (kv.1.map .inl, kv.2))) (.dt ds)
theorem OR.mono {F F' : Hp} (s : Sub F F') {o : HO} {w : Ow} : OR F o w → OR F' o w
  | .lst h => .lst (h.mono s)
  | .dk e h => .dk e (h.mono s)
  | .dt e h => .dt e (h.mono s)
theorem OR.nt {F : Hp} {o : HO} {w : Ow} (h : OR F o w) : ∀ xs, o ≠ .tup xs := by
  intro xs e
  subst e
  cases h
def SlR (dw : Dw) (F H : Hp) (x : Option (Option V)) : Slot → Prop
  | .fz v => ∃ y, x = some (some y) ∧ VR dw F y v
  | .ow w => ∃ a o, x = some (some (.ref a)) ∧ H a = some o ∧ F a = none ∧ ¬ isDr dw a ∧ OR F o w
  | .bd w => ∃ a o u, x = some (some (.ref a)) ∧ F a = some (.frz o u) ∧ OR F u w
  | .raw v => x = some (some v)
theorem SlR.ol {dw : Dw} {F H : Hp} {x : Option (Option V)} {l : List PyData} (h : SlR dw F H x (.ol l)) : ∃ a xs, x = some (some (.ref a)) ∧ H a = some (.lst xs) ∧ F a = none ∧ ¬ isDr dw a ∧ RpAll F xs l := by
  obtain ⟨a, o, h1, h2, h3, h4, h5⟩ := h
  cases h5 with
  | lst h6 => exact ⟨a, _, h1, h2, h3, h4, h6⟩
structure Er (dw : Dw) (σ : L2.St) (F H : Hp) (ρ : Rho) (m : Ms) : Prop where
  gr : Gr dw F H m
  len : σ.length = ρ.length
  sl : ∀ (i : Nat) s, ρ[i]? = some (some s) → SlR dw F H σ[i]? s
  ap : ∀ (i j : Nat) l k a, ρ[i]? = some (some (.ow l)) → ρ[j]? = some (some (.ow k)) → σ[i]? = some (some (.ref a)) → σ[j]? = some (some (.ref a)) → i = j
theorem SlR.ext {dw : Dw} {F H F' H' : Hp} (e : Ext dw F H F' H') {x : Option (Option V)} : ∀ {s : Slot}, SlR dw F H x s → SlR dw F' H' x s
  | .fz v, ⟨y, h1, h2⟩ => ⟨y, h1, h2.mono e.fs⟩
  | .ow w, ⟨a, o, h1, h2, h3, h4, h5⟩ => ⟨a, o, h1, e.kp _ _ h2 h4, e.stay h3 h2 h5.nt, h4, h5.mono e.fs⟩
  | .bd w, ⟨a, o, u, h1, h2, h3⟩ => ⟨a, o, u, h1, e.fs _ _ h2, h3.mono e.fs⟩
  | .raw v, h => h
theorem Er.ext {dw : Dw} {σ : L2.St} {F H F' H' : Hp} {ρ : Rho} {m m' : Ms} (r : Er dw σ F H ρ m) (e : Ext dw F H F' H') (g : Gr dw F' H' m') : Er dw σ F' H' ρ m' :=
  ⟨g, r.len, fun i s h => (r.sl i s h).ext e, r.ap⟩

section
variable (X : Cx)
def WE (e : Expr) : TE := fun σ H Q => ∀ pins s, Inv X pins σ H s → wpAny (model X.prog X.w) X.A (eval e X.env) (EP X pins σ Q) X.xe s
def WT (e : Expr) : TT := fun σ H Q => ∀ pins s, Inv X pins σ H s → wpAny (model X.prog X.w) X.A (isTrue e X.env (eval e X.env)) (TP X pins σ Q) X.xe s
def WA (es : List Expr) : TA := fun σ H Q => ∀ pos pins s, Inv X pins σ H s → wpAny (model X.prog X.w) X.A (spliced (backTo pos (starEach es X.env))) (AP X pins σ Q) X.xe s
def WS (st : Stmt) : TS := fun D σ H => ∀ pins s, Inv X pins σ H s → wpAny (model X.prog X.w) X.A (exec st X.env) (SP X pins D) X.xe s
def WB (st : List Stmt) : TS := fun D σ H => ∀ pins s, Inv X pins σ H s → wpAny (model X.prog X.w) X.A (execs st X.env) (SP X pins D) X.xe s
def WI (tg iter : Expr) : TI := fun σ H R => ∀ pins s, Inv X pins σ H s → wpAny (model X.prog X.w) X.A (eval iter X.env) (fun v s1 => wpAny (model X.prog X.w) X.A (pyIter v) (PIE X pins σ tg R) X.xe s1) X.xe s
end
section
variable {X : Cx}
theorem pe_we {e : Expr} : PE X e (WE X e) := ⟨fun pins s _ _ _ I h => h pins s I⟩
theorem pt_wt {e : Expr} : PT X e (WT X e) := ⟨fun pins s _ _ _ I h => h pins s I⟩
theorem pa_wa {es : List Expr} : PA X es (WA X es) := ⟨fun pos pins s _ _ _ I h => h pos pins s I⟩
theorem ps_ws {e : Stmt} : PS X e (WS X e) := ⟨fun pins s _ _ _ I h => h pins s I⟩
theorem pss_wb {e : List Stmt} : PSs X e (WB X e) := ⟨fun pins s _ _ _ I h => h pins s I⟩
theorem pi_wi {tg e : Expr} : PI X tg e (WI X tg e) := ⟨fun pins s _ _ _ I h => h pins s I⟩
theorem we_of {e : Expr} {t : TE} (h : PE X e t) {σ : L2.St} {H : Hp} {Q : VK} (q : t σ H Q) : WE X e σ H Q := fun pins s I => h.run pins s σ H Q I q
theorem wt_of {e : Expr} {t : TT} (h : PT X e t) {σ : L2.St} {H : Hp} {Q : Bool → Hp → Prop} (q : t σ H Q) : WT X e σ H Q := fun pins s I => h.run pins s σ H Q I q
theorem wa_of {e : List Expr} {t : TA} (h : PA X e t) {σ : L2.St} {H : Hp} {Q : List V → Hp → Prop} (q : t σ H Q) : WA X e σ H Q := fun pos pins s I => h.run pos pins s σ H Q I q
theorem ws_of {e : Stmt} {t : TS} (h : PS X e t) {σ : L2.St} {H : Hp} {D : Ends} (q : t D σ H) : WS X e D σ H := fun pins s I => h.run pins s σ H D I q
theorem wb_of {e : List Stmt} {t : TS} (h : PSs X e t) {σ : L2.St} {H : Hp} {D : Ends} (q : t D σ H) : WB X e D σ H := fun pins s I => h.run pins s σ H D I q
theorem wi_of {tg e : Expr} {t : TI} (h : PI X tg e t) {σ : L2.St} {H : Hp} {R : L2.It → Hp → Prop} (q : t σ H R) : WI X tg e σ H R := fun pins s I => h.run pins s σ H R I q
end
end G

end
section
set_option maxHeartbeats 4000000
namespace G
open PySem PySem.Spec PyProof.Rows L2
theorem mul_same_raw (l : Addr) (its : Array Value) (n : Nat) (dd : Option Addr) (sl : Array (Option Value)) (x : Int) (u : Tok) (c0 : (decide (x < -(2 ^ 63)) || decide (x ≥ 2 ^ 63)) = false) (c1 : (its.isEmpty || x == 1) = true) :
    Meets (Builtin.«tuple.__mul__» ⟨[.ref l, .int x u], []⟩) (fun _ R s => s.heap.get? l = some { cls := .type "tuple", dict := dd, data := .seq its n, slots := sl } ∧ R (.ok (.ret (Value.ref l))) s) :=
  .of_wp fun prog w A R s h => by
    obtain ⟨hp, g, d, tk, os⟩ := s
    obtain ⟨hl, h⟩ := h
    have f1 := AutoSeq1.idx_int
    wp_walk using wpAny_loadPart' hl
    refine wpAny_ite_false (decide_eq_false (by rw [c0]; exact Bool.false_ne_true)) ?_
    wp_walk using wpAny_loadPart' hl
    exact ⟨_, rfl, h⟩
theorem mul_none_raw (l : Addr) (its : Array Value) (n : Nat) (dd : Option Addr) (sl : Array (Option Value)) (x : Int) (u : Tok) (c0 : (decide (x < -(2 ^ 63)) || decide (x ≥ 2 ^ 63)) = false) (c1 : (its.isEmpty || x == 1) = false) (c2 : (decide (x ≤ 0) || its.isEmpty) = true) :
    Meets (Builtin.«tuple.__mul__» ⟨[.ref l, .int x u], []⟩) (fun _ R s => s.heap.get? l = some { cls := .type "tuple", dict := dd, data := .seq its n, slots := sl } ∧
      R (.ok (.ret (Value.ref s.heap.objs.size))) { s with heap := s.heap.push { cls := Value.type "tuple", data := Data.seq #[] }, toks := s.toks }) :=
  .of_wp fun prog w A R s h => by
    obtain ⟨hp, g, d, tk, os⟩ := s
    obtain ⟨hl, h⟩ := h
    have f1 := AutoSeq1.idx_int
    wp_walk using wpAny_loadPart' hl
    refine wpAny_ite_false (decide_eq_false (by rw [c0]; exact Bool.false_ne_true)) ?_
    wp_walk using wpAny_loadPart' hl
    repeat (first
      | (refine wpAny_ite_false (decide_eq_false (by rw [c1]; simp)) ?_; wp_walk using wpAny_loadPart' hl)
      | (refine wpAny_ite_true (decide_eq_true c2) ?_; wp_walk using wpAny_loadPart' hl))
    exact ⟨_, rfl, h⟩
def rMulS (K : PySem.W.Frag) : R2 := fun x y H Q => ∃ l k xs, x = .ref l ∧ y = .int k ∧ SqT K H l xs ∧ -1000 ≤ k ∧ k ≤ 1000 ∧ ((k = 1 ∨ xs = []) ∧ Q (.ref l) H ∨ k ≤ 0 ∧ xs ≠ [] ∧ ∀ p, H p = none → Q (.ref p) (upd H p (.tup [])))
section
variable {X : Cx}
theorem op_mulS : OpR X (binaryOp .Mult) (rMulS X.K) := by
  intro pins s σ H x y v u Q I rx ry h
  obtain ⟨l, k, xs, rfl, rfl, hT, b1, b2, hq⟩ := h
  cases rx
  obtain ⟨t, rfl⟩ := ry
  obtain ⟨its, r, ⟨⟨cls, dd, data, sl⟩, ho, hc, n, hd⟩, hs⟩ := I.tuple hT
  simp only at hc hd
  subst hc hd
  have hle : its.length = xs.length := r.length.symm
  have c0 : (decide (k < -(2 ^ 63)) || decide (k ≥ 2 ^ 63)) = false := by
    rw [decide_eq_false (by omega), decide_eq_false (by omega)] <;> rfl
  refine wpAny_binaryOp_repeat_ref (T := "tuple") (U := "int") (by decide) ⟨_, ho, rfl⟩ (fun s' => typeIs_int s' k t) noFill_tuple_mul F.fills_int_mul F.slot_int_rmul repeat_tuple F.slot_int_index.lookup
    (call_meets F.slot_int_rmul (typeIs_int s k t) F.entry_int_rmul (F.args_int_rmul_2 _ _) (int_rmul_tuple k t l its.toArray n dd sl) ⟨ho, rfl, ⟨_, ho, rfl⟩, ?_⟩)
  rcases hq with ⟨c, q⟩ | ⟨c, ne, q⟩
  · have c1 : (its.toArray.isEmpty || k == 1) = true := by
      rcases c with c | c
      · simp [c]
      · subst c
        have : its = [] := List.eq_nil_of_length_eq_zero hle
        subst this; rfl
    exact call_meets F.slot_tuple_mul ⟨_, ho, rfl⟩ F.entry_tuple_mul (F.args_tuple_mul_2 _ _) (mul_same_raw l its.toArray n dd sl k t c0 c1) ⟨ho, .ref l, H, I, rfl, q⟩
  · have hi : its.toArray.isEmpty = false := by
      cases its with
      | nil => exact absurd (List.eq_nil_of_length_eq_zero hle.symm) ne
      | cons a b => rfl
    have c1 : (its.toArray.isEmpty || k == 1) = false := by
      rw [hi, Bool.false_or]; exact beq_eq_false_iff_ne.mpr (by omega)
    have c2 : (decide (k ≤ 0) || its.toArray.isEmpty) = true := by simp [c]
    refine call_meets F.slot_tuple_mul ⟨_, ho, rfl⟩ F.entry_tuple_mul (F.args_tuple_mul_2 _ _) (mul_none_raw l its.toArray n dd sl k t c0 c1 c2) ⟨ho, ?_⟩
    exact ⟨.ref s.heap.objs.size, _, I.laid (t' := s.toks) (o := .tup []) (fun b ob q => Heap.get?_push_of_some _ q) (Nat.le_refl _) ⟨Nat.zero_le _, [], .nil, IsTup.new _ _⟩, rfl, q _ (I.hok.fresh (Nat.le_refl _))⟩
end
end G

end
section
namespace G
open PySem PySem.Spec PyProof.Rows L2

def Lit.v : Lit → V
  | .non => .non
  | .bl b => .bl b
  | .int i => .int i
  | .str s => .str s
theorem Lit.rp {F : Hp} : ∀ c : Lit, Rp F c.v c.d
  | .non => .non
  | .bl b => .bl b
  | .int i => .int i
  | .str s => .str s
theorem lim_line {n : Nat} (h : n ≤ lim) : n ≤ sizeLine := Nat.le_trans h (by decide)
theorem lim_lt {n : Nat} (h : n < lim) : n < sizeLine := Nat.lt_of_lt_of_le h (by decide)

section
variable (P : Program) (w : World) (K : PySem.W.Frag) (mg : Str → Option Value) (base : Heap) (k : Nat)
def CallOk (f : Str) (vs : List Val) (m : Ms) (v : Val) (m' : Ms) : Prop :=
  ∃ (fa : Addr) (fd : FuncData) (ps : List Str), mg f = some (.ref fa) ∧ PySem.W.keepIn K (.ref fa) = true ∧ Binds K fd ps [] ∧ ps.length = vs.length ∧
    ∀ (dw : Dw) (A : Around) (outer : List Env) (s : Shared) (F H : Hp) (args : Args) (us : List Value) (xs : List V), Room k A → A.guards = some [] → Env0 P w K mg base A outer s H → BindsTo s fd args (ps.zip us) → Vals xs us →
      Gr dw F H m → VRs dw F xs vs → codeAny (model P w) A (.call (.ref fa) args) (fun r s' => ∃ u, r = .ok (.ret u) ∧ CE outer P w H s (fun x H' => ∃ F', Ext dw F H F' H' ∧ Gr dw F' H' m' ∧ VR dw F' x v) u s') s
end
def bnames : List Str := ["len", "tuple", "list", "int", "str", "bool", "repr", "all", "any", "sum", "max", "min", "sorted", "set", "range", "enumerate", "zip", "isinstance", "dict"]
structure Cok (T : Str → Option Lit) (N : List Str) (cl : Str → List Val → Ms → R Val) (k : Nat) (X : Cx) (sc : Scope) : Prop where
  sce : X.env.scope = sc
  nn : X.N = N
  nd : N.Nodup
  calm : X.calm = true
  room : Room k X.A
  gd : X.A.guards = some []
  bn : ∀ x ∈ bnames, X.mg x = none
  gl : ∀ x c, T x = some c → ∃ u, X.mg x = some u ∧ RelV c.v u
  call : ∀ f vs m v m', cl f vs m = some (.ok v, m') → CallOk X.prog X.w X.K X.mg X.base k f vs m v m'

section
variable (X : Cx) (dw : Dw)
def Snd (e : Expr) (f : Rho → Ms → R Val) : Prop := ∀ (σ : L2.St) (F H : Hp) (ρ : Rho) (m : Ms) (v : Val) (m' : Ms), Er dw σ F H ρ m → f ρ m = some (.ok v, m') →
  ∀ Q : VK, (∀ x F' H', Ext dw F H F' H' → Gr dw F' H' m' → VR dw F' x v → Q x H') → WE X e σ H Q
def SndD (e : Expr) (f : Rho → Ms → R PyData) : Prop := ∀ (σ : L2.St) (F H : Hp) (ρ : Rho) (m : Ms) (d : PyData) (m' : Ms), Er dw σ F H ρ m → f ρ m = some (.ok d, m') →
  ∀ Q : VK, (∀ x F' H', Ext dw F H F' H' → Gr dw F' H' m' → Rp F' x d → Q x H') → WE X e σ H Q
def SndO (e : Expr) (f : Rho → Ms → R Val) : Prop := ∀ (σ : L2.St) (F H : Hp) (ρ : Rho) (m : Ms) (l : List PyData) (m' : Ms), Er dw σ F H ρ m → f ρ m = some (.ok (.p (.list l)), m') →
  ∀ Q : VK, (∀ p xs F' H', Ext dw F H F' H' → Gr dw F' H' m' → H p = none → H' p = some (.lst xs) → F' p = none → ¬ isDr dw p → RpAll F' xs l → Q (.ref p) H') → WE X e σ H Q
def SndL (e : Expr) (f : Rho → Ms → R PyData) : Prop := ∀ (σ : L2.St) (F H : Hp) (ρ : Rho) (m : Ms) (d : PyData) (m' : Ms), Er dw σ F H ρ m → f ρ m = some (.ok d, m') →
  ∀ Q : VK, (∀ x F' H', Ext dw F H F' H' → Gr dw F' H' m' → (Rp F' x d ∨ ∃ a xs l, x = .ref a ∧ d = .list l ∧ H' a = some (.lst xs) ∧ F' a = none ∧ ¬ isDr dw a ∧ RpAll F' xs l) → Q x H') → WE X e σ H Q
def SndEs (es : List Expr) (f : Rho → Ms → R (List PyData)) : Prop := ∀ (σ : L2.St) (F H : Hp) (ρ : Rho) (m : Ms) (d : List PyData) (m' : Ms), Er dw σ F H ρ m → f ρ m = some (.ok d, m') →
  ∀ Q : List V → Hp → Prop, (∀ x F' H', Ext dw F H F' H' → Gr dw F' H' m' → RpAll F' x d → Q x H') → WA X es σ H Q
def SndAs (es : List Expr) (f : Rho → Ms → R (List Val)) : Prop := ∀ (σ : L2.St) (F H : Hp) (ρ : Rho) (m : Ms) (d : List Val) (m' : Ms), Er dw σ F H ρ m → f ρ m = some (.ok d, m') →
  ∀ Q : List V → Hp → Prop, (∀ x F' H', Ext dw F H F' H' → Gr dw F' H' m' → VRs dw F' x d → Q x H') → WA X es σ H Q
def SndT (e : Expr) (f : Rho → Ms → R Bool) : Prop := ∀ (σ : L2.St) (F H : Hp) (ρ : Rho) (m : Ms) (b : Bool) (m' : Ms), Er dw σ F H ρ m → f ρ m = some (.ok b, m') →
  ∀ Q : Bool → Hp → Prop, (∀ F' H', Ext dw F H F' H' → Gr dw F' H' m' → Q b H') → WT X e σ H Q
end
section
variable {X : Cx} {dw : Dw}
theorem dOf_ok {x : R Val} {d : PyData} {m' : Ms} (h : dOf x = some (.ok d, m')) : x = some (.ok (.p d), m') := by
  obtain ⟨v, m1, hx, h⟩ := bnd_ok h
  obtain ⟨h1, rfl⟩ := opt_ok h
  cases v with
  | p d' =>
    cases h1
    exact hx
  | drw => cases h1
theorem Snd.d {e : Expr} {f : Rho → Ms → R Val} (h : Snd X dw e f) : SndD X dw e (fun ρ m => dOf (f ρ m)) := fun σ F H ρ m d m' er hf Q q =>
  h σ F H ρ m (.p d) m' er (dOf_ok hf) Q q
theorem SndO.p {e : Expr} {f : Rho → Ms → R Val} (h : SndO X dw e f) {σ : L2.St} {F H : Hp} {ρ : Rho} {m : Ms} {l : List PyData} {m' : Ms} (er : Er dw σ F H ρ m) (hf : f ρ m = some (.ok (.p (.list l)), m')) {Q : VK}
    (q : ∀ x F' H', Ext dw F H F' H' → Gr dw F' H' m' → VR dw F' x (.p (.list l)) → Q x H') : WE X e σ H Q :=
  h σ F H ρ m l m' er hf Q fun p xs F' H' e g n hp fp nd r => by
    obtain ⟨g2, e2⟩ := g.freeze hp fp nd
    exact q _ _ _ (Ext.freeze er.gr e n) g2 (.lst upd_same (r.mono e2))
theorem newO {F H F2 H2 : Hp} {m m2 : Ms} {p : Addr} {xs : List V} {l : List PyData} {Q : VK} (g0 : Gr dw F H m) (e : Ext dw F H F2 H2) (g : Gr dw F2 H2 m2) (hp : H2 p = none)
    (q : ∀ p xs F' H', Ext dw F H F' H' → Gr dw F' H' m2 → H p = none → H' p = some (.lst xs) → F' p = none → ¬ isDr dw p → RpAll F' xs l → Q (.ref p) H') (r : RpAll F2 xs l) : Q (.ref p) (upd H2 p (.lst xs)) := by
  obtain ⟨g2, e2⟩ := g.laid (o := .lst xs) hp
  refine q p xs F2 _ (e.trans e2) g2 (e.al p hp) upd_same ?_ (g.dr.free hp) r
  cases h : F2 p with
  | none => rfl
  | some u => rw [g.sub _ _ h] at hp; cases hp
theorem two {a b : Expr} {fa fb : Rho → Ms → R PyData} (ha : SndD X dw a fa) (hb : SndD X dw b fb) {σ : L2.St} {F H : Hp} {ρ : Rho} {m m1 m2 : Ms} {d1 d2 : PyData} (er : Er dw σ F H ρ m)
    (h1 : fa ρ m = some (.ok d1, m1)) (h2 : fb ρ m1 = some (.ok d2, m2)) {T : V → V → Hp → Prop} (fin : ∀ x y F' H', Ext dw F H F' H' → Gr dw F' H' m2 → Rp F' x d1 → Rp F' y d2 → T x y H') :
    WE X a σ H fun x H1 => WE X b σ H1 fun y H2 => T x y H2 :=
  ha σ F H ρ m d1 m1 er h1 _ fun x F1 H1 e1 g1 r1 => hb σ F1 H1 ρ m1 d2 m2 (er.ext e1 g1) h2 _ fun y F2 H2 e2 g2 r2 => fin x y F2 H2 (e1.trans e2) g2 (r1.mono e2.fs) r2

section
variable {a b : Expr} {fa fb : Rho → Ms → R PyData} {op : Operator} {pos : Pos}
def binF (op : Operator) (fa fb : Rho → Ms → R PyData) : Rho → Ms → R Val := fun ρ m => bnd (fa ρ m) fun x m => bnd (fb ρ m) fun y m => opt ((binD op x y).map .p) m
theorem binF_ok {ρ : Rho} {m m' : Ms} {v : Val} (h : binF op fa fb ρ m = some (.ok v, m')) : ∃ x y d m1, fa ρ m = some (.ok x, m1) ∧ fb ρ m1 = some (.ok y, m') ∧ binD op x y = some d ∧ v = .p d := by
  obtain ⟨x, m1, h1, h⟩ := bnd_ok h
  obtain ⟨y, m2, h2, h⟩ := bnd_ok h
  obtain ⟨h3, rfl⟩ := opt_ok h
  cases q : binD op x y with
  | none => rw [q] at h3; cases h3
  | some d => rw [q] at h3; cases h3; exact ⟨x, y, d, m1, h1, h2, q, rfl⟩
theorem op_mul_str : OpR X (binaryOp .Mult) (fun x y H Q => ∃ z n, x = .str z ∧ y = .int n ∧ MulOk z n ∧ Q (.str (Txt.mul z n)) H) := by
  intro pins s σ H x y v u Q I rx ry h
  obtain ⟨z, n, rfl, rfl, hz, q⟩ := h
  obtain ⟨t, rfl⟩ := rx
  obtain ⟨t', rfl⟩ := ry
  exact SB.mul hz (fun t' tk => ⟨.str (Txt.mul z n), H, I.tok _, ⟨_, rfl⟩, q⟩)
theorem mulOk_of {z : Str} {n : Int} (h : 1 ≤ n ∧ n ≤ 1000 ∧ z.length ≤ 1000) : MulOk z n := by
  obtain ⟨h1, h2, h3⟩ := h
  refine ⟨?_, fun _ _ => ?_, fun _ _ => ?_⟩
  · simp only [Bool.or_eq_false_iff, decide_eq_false_iff_not]
    omega
  · have : (2 ^ 63 - 1 : Int) / 1000 ≤ (2 ^ 63 - 1) / n := by
      refine Int.le_ediv_of_mul_le (by omega) ?_
      have e : (2 ^ 63 - 1 : Int) / 1000 = 9223372036854775 := by decide
      rw [e]
      have := Int.mul_le_mul_of_nonneg_left h2 (show (0 : Int) ≤ 9223372036854775 by decide)
      omega
    have e : (2 ^ 63 - 1 : Int) / 1000 = 9223372036854775 := by decide
    omega
  · have h4 : n.toNat ≤ 1000 := by omega
    have := Nat.mul_le_mul h3 h4
    have h5 : 1000 * 1000 ≤ sizeLine := by decide
    show decide _ = false
    simp only [decide_eq_false_iff_not]
    omega
theorem sndO_bin (ha : SndD X dw a fa) (hb : SndD X dw b fb) : SndO X dw (.BinOp a op b pos) (binF op fa fb) := by
  intro σ F H ρ m l m' er hf Q q
  obtain ⟨x, y, d, m1, h1, h2, h3, h4⟩ := binF_ok hf
  cases h4
  unfold binD at h3
  split at h3 <;> first | (split at h3 <;> cases h3) | cases h3
  · rename_i u v hl
    refine we_of (pe_op op_cat pe_we pe_we) (two ha hb er h1 h2 fun x y F2 H2 e g r1 r2 => ?_)
    cases r1 with
    | lst p1 s1 =>
      cases r2 with
      | lst p2 s2 => exact ⟨_, _, _, _, rfl, rfl, g.sub _ _ p1, g.sub _ _ p2, lim_line (by rw [s1.length, s2.length]; exact hl), fun p hp => newO er.gr e g hp q (s1.app s2)⟩
  · rename_i u k hl
    refine we_of (pe_op op_rep pe_we pe_we) (two ha hb er h1 h2 fun x y F2 H2 e g r1 r2 => ?_)
    cases r1 with
    | lst p1 s1 =>
      cases r2 with
      | int _ =>
        refine ⟨_, _, _, rfl, rfl, g.sub _ _ p1, by omega, by omega, lim_line ?_, fun p hp => newO er.gr e g hp q (s1.rep _)⟩
        rw [s1.length]
        have := Nat.mul_le_mul hl.2.2 (show k.toNat ≤ 1000 by omega)
        exact this
theorem snd_bin (ha : SndD X dw a fa) (hb : SndD X dw b fb) : Snd X dw (.BinOp a op b pos) (binF op fa fb) := by
  intro σ F H ρ m v m' er hf Q q
  obtain ⟨x, y, d, m1, h1, h2, h3, rfl⟩ := binF_ok hf
  have lis : ∀ l, d = .list l → WE X (.BinOp a op b pos) σ H Q := fun l e => by
    subst e
    exact (sndO_bin ha hb).p er hf q
  unfold binD at h3
  split at h3 <;> first | (split at h3 <;> first | cases h3 | skip) | cases h3
  · exact we_of (pe_op op_add pe_we pe_we) (two ha hb er h1 h2 fun x y F2 H2 e g r1 r2 => by cases r1; cases r2; exact ⟨_, _, rfl, rfl, q _ _ _ e g (.int _)⟩)
  · rename_i u v hl
    refine we_of (pe_op op_catA pe_we pe_we) (two ha hb er h1 h2 fun x y F2 H2 e g r1 r2 => ?_)
    cases r1 with
    | tup p1 s1 =>
      cases r2 with
      | tup p2 s2 =>
        refine ⟨_, _, _, _, rfl, rfl, SqT.of (g.sub _ _ p1), SqT.of (g.sub _ _ p2), lim_line (by rw [s1.length, s2.length]; exact hl), fun z => ?_, fun _ z => ?_, fun _ _ p hp => ?_⟩
        · subst z; cases s1; exact q _ _ _ e g (.tup p2 s2)
        · subst z; cases s2; exact q _ _ _ e g (by show Rp _ _ (.tuple (_ ++ [])); rw [List.append_nil]; exact .tup p1 s1)
        · obtain ⟨g2, e2⟩ := g.laidF (o := .tup (_ ++ _)) hp
          exact q _ _ _ (e.trans e2) g2 (.tup upd_same ((s1.app s2).mono e2.fs))
  · exact lis _ rfl
  · exact we_of (pe_op op_sub pe_we pe_we) (two ha hb er h1 h2 fun x y F2 H2 e g r1 r2 => by cases r1; cases r2; exact ⟨_, _, rfl, rfl, q _ _ _ e g (.int _)⟩)
  · rename_i hl
    exact we_of (pe_op op_mul pe_we pe_we) (two ha hb er h1 h2 fun x y F2 H2 e g r1 r2 => by cases r1; cases r2; exact ⟨_, _, rfl, rfl, hl, q _ _ _ e g (.int _)⟩)
  · exact lis _ rfl
  · rename_i u k hl
    by_cases hc : 2 ≤ k ∧ u ≠ []
    · refine we_of (pe_op op_repT pe_we pe_we) (two ha hb er h1 h2 fun x y F2 H2 e g r1 r2 => ?_)
      cases r1 with
      | tup p1 s1 =>
        cases r2 with
        | int _ =>
          refine ⟨_, _, _, rfl, rfl, SqT.of (g.sub _ _ p1), fun z => ?_, hc.1, hl.2.1, by rw [s1.length]; exact hl.2.2, fun p hp => ?_⟩
          · subst z; cases s1; exact hc.2 rfl
          · obtain ⟨g2, e2⟩ := g.laidF (o := .tup _) hp
            exact q _ _ _ (e.trans e2) g2 (.tup upd_same ((s1.rep _).mono e2.fs))
    · refine we_of (pe_op op_mulS pe_we pe_we) (two ha hb er h1 h2 fun x y F2 H2 e g r1 r2 => ?_)
      cases r1 with
      | tup p1 s1 =>
        cases r2 with
        | int _ =>
          refine ⟨_, _, _, rfl, rfl, SqT.of (g.sub _ _ p1), hl.1, hl.2.1, ?_⟩
          by_cases hu : u = []
          · subst hu
            cases s1
            refine .inl ⟨.inr rfl, ?_⟩
            have z : (List.replicate k.toNat ([] : List PyData)).flatten = [] := by simp
            rw [z] at q
            exact q _ _ _ e g (.tup p1 .nil)
          · by_cases h1 : k = 1
            · subst h1
              have z : (List.replicate (1 : Int).toNat u).flatten = u := by simp
              rw [z] at q
              exact .inl ⟨.inl rfl, q _ _ _ e g (.tup p1 s1)⟩
            · have hk : k ≤ 0 := by
                refine Classical.byContradiction fun c => hc ⟨by omega, hu⟩
              refine .inr ⟨hk, fun z => by subst z; cases s1; exact hu rfl, fun p hp => ?_⟩
              have z : (List.replicate k.toNat u).flatten = [] := by rw [show k.toNat = 0 by omega]; rfl
              rw [z] at q
              obtain ⟨g2, e2⟩ := g.laidF (o := .tup []) hp
              exact q _ _ _ (e.trans e2) g2 (.tup upd_same .nil)
  · rename_i hl
    exact we_of (pe_op op_mod pe_we pe_we) (two ha hb er h1 h2 fun x y F2 H2 e g r1 r2 => by cases r1; cases r2; exact ⟨_, _, rfl, rfl, hl, q _ _ _ e g (.int _)⟩)
  · rename_i hl
    exact we_of (pe_op op_fdivW pe_we pe_we) (two ha hb er h1 h2 fun x y F2 H2 e g r1 r2 => by cases r1; cases r2; exact ⟨_, _, rfl, rfl, wide_div hl.1 hl.2 (by decide) (by decide), q _ _ _ e g (.int _)⟩)
  · rename_i hl
    exact we_of (pe_op op_pow pe_we pe_we) (two ha hb er h1 h2 fun x y F2 H2 e g r1 r2 => by cases r1; cases r2; exact ⟨_, _, rfl, rfl, ⟨hl.1, by omega, hl.2.2⟩, q _ _ _ e g (.int _)⟩)
  · rename_i hl
    exact we_of (pe_op op_add_str pe_we pe_we) (two ha hb er h1 h2 fun x y F2 H2 e g r1 r2 => by cases r1; cases r2; exact ⟨_, _, rfl, rfl, lim_line hl, q _ _ _ e g (.str _)⟩)
  · rename_i hl
    exact we_of (pe_op op_mul_str pe_we pe_we) (two ha hb er h1 h2 fun x y F2 H2 e g r1 r2 => by cases r1; cases r2; exact ⟨_, _, rfl, rfl, mulOk_of hl, q _ _ _ e g (.str _)⟩)

theorem shaped_nd {d : PyData} (h : SeqAt.shaped d = true) : d.hasDict = false := PyData.hasDict_of_canLay d (SeqAt.canLay_of_shaped h)
theorem op_inT (hu : X.A.units + 65 < cLine) : OpR X (compareOp .In) (fun x y H Q => ∃ d ds, Dp X.K H x d ∧ Dp X.K H y (.tuple ds) ∧ SeqAt.shaped d = true ∧ SeqAt.shaped (.tuple ds) = true ∧ Q (.bl (ds.any fun z => PyData.eqv z d)) H) := by
  intro pins s σ H x y v u Q I rx ry h
  obtain ⟨d, ds, hd, he, sd, se, q⟩ := h
  obtain ⟨as, r1⟩ := Dp.reads I d x v hd rx
  obtain ⟨bs, r2⟩ := Dp.reads I (.tuple ds) y u he ry
  exact SeqAt.in_tuple_reads r2 r1 (by simpa [PyData.canLay0] using SeqAt.canLay_of_shaped se) (SeqAt.canLay_of_shaped sd) (room_in_shaped sd hu) ⟨.bl _, H, I, rfl, q⟩
theorem op_notInT (hu : X.A.units + 65 < cLine) : OpR X (compareOp .NotIn) (fun x y H Q => ∃ d ds, Dp X.K H x d ∧ Dp X.K H y (.tuple ds) ∧ SeqAt.shaped d = true ∧ SeqAt.shaped (.tuple ds) = true ∧ Q (.bl (!ds.any fun z => PyData.eqv z d)) H) := by
  intro pins s σ H x y v u Q I rx ry h
  obtain ⟨d, ds, hd, he, sd, se, q⟩ := h
  obtain ⟨as, r1⟩ := Dp.reads I d x v hd rx
  obtain ⟨bs, r2⟩ := Dp.reads I (.tuple ds) y u he ry
  exact SeqAt.notIn_tuple_reads r2 r1 (by simpa [PyData.canLay0] using SeqAt.canLay_of_shaped se) (SeqAt.canLay_of_shaped sd) (room_in_shaped sd hu) ⟨.bl _, H, I, rfl, q⟩

theorem cmp_rule {k : Nat} (hr : Room k X.A) {op : CmpOp} {d1 d2 : PyData} {c : Bool} (h : cmpD op d1 d2 = some c) :
    ∃ r : R2, OpR X (compareOp op) r ∧ ∀ (x y : V) (F H : Hp) (Q : VK), Sub F H → Rp F x d1 → Rp F y d2 → Q (.bl c) H → r x y H Q := by
  have hu : X.A.units + 64 < cLine := hr.units
  have hu5 : X.A.units + 65 < cLine := by have := hr.un; omega
  have eq : ∀ {e}, eqD d1 d2 = some e → ∃ r : R2, OpR X (compareOp .Eq) r ∧ ∀ (x y : V) (F H : Hp) (Q : VK), Sub F H → Rp F x d1 → Rp F y d2 → Q (.bl e) H → r x y H Q := by
    intro e h
    unfold eqD at h
    split at h
    · cases h
      refine ⟨_, op_eq, fun x y F H Q s r1 r2 q => ?_⟩
      cases r1; cases r2
      refine ⟨rfl, ?_⟩
      simpa using q
    · split at h <;> cases h
      rename_i hh
      exact ⟨_, op_eqD hu, fun x y F H Q s r1 r2 q => ⟨_, _, r1.dp s (shaped_nd hh.1), r2.dp s (shaped_nd hh.2), hh.1, hh.2, q⟩⟩
  have ne : ∀ {e}, eqD d1 d2 = some e → ∃ r : R2, OpR X (compareOp .NotEq) r ∧ ∀ (x y : V) (F H : Hp) (Q : VK), Sub F H → Rp F x d1 → Rp F y d2 → Q (.bl (!e)) H → r x y H Q := by
    intro e h
    unfold eqD at h
    split at h
    · cases h
      refine ⟨_, op_ne, fun x y F H Q s r1 r2 q => ?_⟩
      cases r1; cases r2
      refine ⟨rfl, ?_⟩
      simpa using q
    · split at h <;> cases h
      rename_i hh
      exact ⟨_, op_neD hu, fun x y F H Q s r1 r2 q => ⟨_, _, r1.dp s (shaped_nd hh.1), r2.dp s (shaped_nd hh.2), hh.1, hh.2, q⟩⟩
  have inn : ∀ {e}, inD d1 d2 = some e → ∃ r : R2, OpR X (compareOp .In) r ∧ ∀ (x y : V) (F H : Hp) (Q : VK), Sub F H → Rp F x d1 → Rp F y d2 → Q (.bl e) H → r x y H Q := by
    intro e h
    unfold inD at h
    split at h
    · split at h <;> cases h
      rename_i hh
      exact ⟨_, op_inD hu5, fun x y F H Q s r1 r2 q => ⟨_, _, r1.dp s (shaped_nd hh.1), r2.dp s (shaped_nd hh.2), hh.1, hh.2, q⟩⟩
    · split at h <;> cases h
      rename_i hh
      exact ⟨_, op_inT hu5, fun x y F H Q s r1 r2 q => ⟨_, _, r1.dp s (shaped_nd hh.1), r2.dp s (shaped_nd hh.2), hh.1, hh.2, q⟩⟩
    · cases h
  have nin : ∀ {e}, inD d1 d2 = some e → ∃ r : R2, OpR X (compareOp .NotIn) r ∧ ∀ (x y : V) (F H : Hp) (Q : VK), Sub F H → Rp F x d1 → Rp F y d2 → Q (.bl (!e)) H → r x y H Q := by
    intro e h
    unfold inD at h
    split at h
    · split at h <;> cases h
      rename_i hh
      exact ⟨_, op_notInD hu5, fun x y F H Q s r1 r2 q => ⟨_, _, r1.dp s (shaped_nd hh.1), r2.dp s (shaped_nd hh.2), hh.1, hh.2, q⟩⟩
    · split at h <;> cases h
      rename_i hh
      exact ⟨_, op_notInT hu5, fun x y F H Q s r1 r2 q => ⟨_, _, r1.dp s (shaped_nd hh.1), r2.dp s (shaped_nd hh.2), hh.1, hh.2, q⟩⟩
    · cases h
  have iss : ∀ {e}, isD d1 d2 = some e → ∃ r : R2, OpR X (compareOp .Is) r ∧ ∀ (x y : V) (F H : Hp) (Q : VK), Sub F H → Rp F x d1 → Rp F y d2 → Q (.bl e) H → r x y H Q := by
    intro e h
    unfold isD at h
    split at h <;> cases h
    · exact ⟨_, op_isN, fun x y F H Q s r1 r2 q => by cases r1; cases r2; exact ⟨rfl, q⟩⟩
    · exact ⟨_, op_isBl, fun x y F H Q s r1 r2 q => by cases r1; cases r2; exact ⟨_, _, rfl, rfl, q⟩⟩
    all_goals exact ⟨_, op_isN, fun x y F H Q s r1 r2 q => by cases r1 <;> (cases r2; exact ⟨rfl, q⟩)⟩
  have nis : ∀ {e}, isD d1 d2 = some e → ∃ r : R2, OpR X (compareOp .IsNot) r ∧ ∀ (x y : V) (F H : Hp) (Q : VK), Sub F H → Rp F x d1 → Rp F y d2 → Q (.bl (!e)) H → r x y H Q := by
    intro e h
    unfold isD at h
    split at h <;> cases h
    · exact ⟨_, op_notN, fun x y F H Q s r1 r2 q => by cases r1; cases r2; exact ⟨rfl, q⟩⟩
    · exact ⟨_, op_notBl, fun x y F H Q s r1 r2 q => by cases r1; cases r2; exact ⟨_, _, rfl, rfl, q⟩⟩
    all_goals exact ⟨_, op_notN, fun x y F H Q s r1 r2 q => by cases r1 <;> (cases r2; exact ⟨rfl, q⟩)⟩
  have mp : ∀ {z : Option Bool}, z.map (!·) = some c → ∃ e, z = some e ∧ c = !e := by
    intro z hz
    cases z with
    | none => cases hz
    | some e => cases hz; exact ⟨e, rfl, rfl⟩
  unfold cmpD at h
  split at h
  · exact eq h
  · obtain ⟨e, h1, rfl⟩ := mp h; exact ne h1
  · cases h; exact ⟨_, op_lt, fun x y F H Q s r1 r2 q => by cases r1; cases r2; exact ⟨_, _, rfl, rfl, q⟩⟩
  · cases h; exact ⟨_, op_le, fun x y F H Q s r1 r2 q => by cases r1; cases r2; exact ⟨_, _, rfl, rfl, q⟩⟩
  · cases h; exact ⟨_, op_gt, fun x y F H Q s r1 r2 q => by cases r1; cases r2; exact ⟨_, _, rfl, rfl, q⟩⟩
  · cases h; exact ⟨_, op_ge, fun x y F H Q s r1 r2 q => by cases r1; cases r2; exact ⟨_, _, rfl, rfl, q⟩⟩
  · exact inn h
  · obtain ⟨e, h1, rfl⟩ := mp h; exact nin h1
  · exact iss h
  · obtain ⟨e, h1, rfl⟩ := mp h; exact nis h1
  · cases h
end
end
end G

end
section
namespace G
open PySem PySem.Spec PyProof.Rows L2
abbrev tIt (l : Addr) : Obj := { cls := .type "tuple_iterator", data := .fields #[.ref l, .int 0 0] }
abbrev eOb (i : Addr) : Obj := { cls := .type "enumerate", data := .fields #[.none, .bool false, .ref i, rawInt 0, .none, .none] }
theorem enumT_new (l : Addr) (items : Array Value) (n : Nat) (dct : Option Addr) (sl : Array (Option Value)) :
    Meets (Builtin.«enumerate.__new__» ⟨[.type "enumerate", .ref l], []⟩)
      (fun _ R s => s.heap.get? l = some { cls := .type "tuple", dict := dct, data := .seq items n, slots := sl } ∧ R (.ok (.ret (.ref (s.heap.push (tIt l)).objs.size))) { s with heap := (s.heap.push (tIt l)).push (eOb s.heap.objs.size) }) :=
  .of_wp fun prog w A R s h => by
    obtain ⟨hp, g, d, tk, os⟩ := s
    obtain ⟨hl, h⟩ := h
    have hsub := sub_enumerate
    have ht : Heap.IsTuple (Shared.heap ⟨hp, g, d, tk, os⟩) l items := ⟨_, hl, rfl, n, rfl⟩
    wp_walk using AutoSeq1.wpAny_loadPart' hl
    refine wpAny_stack_any fun st => wpAny_pure ?_
    split
    · rename_i c _ _ _ _ _
      cases (c == Value.type "enumerate")
      · wp_walk using AutoSeq1.wpAny_loadPart' hl, wpAny_pyIter_tuple ht
        exact ⟨_, rfl, h⟩
      · wp_walk using AutoSeq1.wpAny_loadPart' hl, wpAny_pyIter_tuple ht
        exact ⟨_, rfl, h⟩
    · wp_walk using AutoSeq1.wpAny_loadPart' hl, wpAny_pyIter_tuple ht
      exact ⟨_, rfl, h⟩
theorem enumT_call {prog : Program} {w : World} {A : Around} {E : Value → Shared → Prop} {s : Shared} {l : Addr} {items : Array Value} {Q : Value → Shared → Prop} (ht : s.heap.IsTuple l items)
    (h : ∀ h', IsEnum h' (s.heap.objs.size + 1) s.heap.objs.size 0 .none → h'.IsTupleIter s.heap.objs.size l 0 → (∀ b o, s.heap.get? b = some o → h'.get? b = some o) → Q (.ref (s.heap.objs.size + 1)) { s with heap := h' }) :
    wpAny (model prog w) A (call (.type "enumerate") [.ref l]) Q E s := by
  obtain ⟨⟨c, dct, dt, sl⟩, hl, hc, n, hd⟩ := ht
  have hc : c = .type "tuple" := hc
  have hd : dt = .seq items n := hd
  subst hc hd
  refine callType_new F.called_enumerate (by decide) (F.typeCall_enumerate_1 _) (F.newCall_enumerate_1 _) (fun obj => F.args_object_init_2 obj _) F.entry_enumerate_new (enumT_new l items n dct sl) ⟨hl, ?_⟩
  have hz : (s.heap.push (tIt l)).objs.size = s.heap.objs.size + 1 := Heap.size_push ..
  show _ ∧ _
  rw [hz]
  have he : IsEnum ((s.heap.push (tIt l)).push (eOb s.heap.objs.size)) (s.heap.objs.size + 1) s.heap.objs.size 0 .none := by
    have q := Heap.get?_push_size (s.heap.push (tIt l)) (o := eOb s.heap.objs.size) rfl
    rw [hz] at q
    exact q
  exact ⟨⟨_, he, rfl⟩, h _ he ⟨_, Heap.get?_push_of_some _ (Heap.get?_push_size _ rfl), rfl, rfl⟩ fun b o x => Heap.get?_push_of_some _ (Heap.get?_push_of_some _ x)⟩
theorem enumT_end {prog : Program} {w : World} {A : Around} {E : Value → Shared → Prop} {s : Shared} {e it l : Addr} {i : Nat} {items : Array Value} {old : Value} {Q : Option Value → Shared → Prop} (hh : A.handled = none)
    (he : IsEnum s.heap e it (i : Int) old) (hit : s.heap.IsTupleIter it l i) (hl : s.heap.IsTuple l items) (hx : items[i]? = none) (q : ∀ h', Heap.ExtBut it s.heap h' → Q none { s with heap := h' }) : wpAny (model prog w) A (pyNext (.ref e)) Q E s := by
  have ht : s.TypeIs (.ref e) "enumerate" := ⟨_, he, rfl⟩
  unfold pyNext
  refine wpAny_bind (wpAny_attempt (wpAny_callSpecial?_slot (name := Str.ofString "__next__") ht F.slot_enumerate_next (wpAny_call_entry F.slot_enumerate_next ht F.entry_enumerate_next ?_ (F.args_enumerate_next_1 _))))
  show wpAny _ _ (field (.ref e) 2 >>= _) _ _ _
  refine wpAny_bind (wpAny_field he rfl (x := .ref it) rfl (wpAny_bind (wpAny_nextOf_tuple_end hh hit hl hx fun h' x eb hs => ?_)))
  obtain ⟨o, ho, hc⟩ := hs
  exact wpAny_bind (wpAny_isInstance (T := "StopIteration") (b := true) ⟨o, ho, hc⟩ isSubtype_stop (wpAny_pure (q _ eb)))
def Iet (K : PySem.W.Frag) (a : Addr) : L2.It :=
  ⟨fun i H => ∃ (xs : List V) (x : V), SqT K H a xs ∧ xs[i]? = some x, fun i H v H' => ∃ U x, v = .ref U ∧ H U = none ∧ H' = upd H U (.tup [.int (i : Nat), x]) ∧ ∀ xs, SqT K H a xs → xs[i]? = some x, fun i H => ∃ xs : List V, SqT K H a xs ∧ xs.length ≤ i⟩
theorem tup_is {h : Heap} {a : Addr} {its : Array Value} (p : IsTup h a its) : h.IsTuple a its := p
theorem turn_enumT {P : Program} {w : World} {K : PySem.W.Frag} {elts : List Expr} {kk : Nat} {tpos : Pos} (a e it : Addr) :
    Turn P w K (.Tuple elts kk tpos) (Iet K a) [e, it] e (fun i h => (∃ old, IsEnum h e it ((i : Nat) : Int) old) ∧ h.IsTupleIter it a i ∧ e ≠ it ∧ a ≠ it ∧ a ≠ e) where
  mem := by simp
  obj := fun i h st b hb => by
    obtain ⟨⟨old, he⟩, ⟨o, ho, hc, hd⟩, _⟩ := st
    rcases (show b = e ∨ b = it by simpa using hb) with z | z
    · rw [z]; exact ⟨_, he, fun v q => nomatch q⟩
    · rw [z]; exact ⟨o, ho, fun v q => by rw [hd] at q; cases q⟩
  keep := fun i h h' st k => let ⟨⟨old, he⟩, hi, hne⟩ := st; ⟨⟨old, k e (by simp) _ he⟩, hi.at fun o q => k it (by simp) o q, hne⟩
  item := by
    intro X hP hw hK hc i pins s σ H E I hf st hg
    subst hP hw hK
    obtain ⟨⟨old, he⟩, hit, hne, hai, hae⟩ := st
    obtain ⟨xs, x, hq, hx⟩ := hg
    obtain ⟨its, rv, p, hz⟩ := I.tuple hq
    obtain ⟨u, hu, ru⟩ := rv.get hx
    have hel : e < s.heap.objs.size := Heap.lt_size he
    have hil : it < s.heap.objs.size := by obtain ⟨_, q, _⟩ := hit; exact Heap.lt_size q
    have hlt : i < its.toArray.size := by
      have := (List.getElem?_eq_some_iff.mp hu).1
      simpa using this
    refine wpAny_pyNext_enum_itemC (fp := [it, a]) (Draws.tuple (A := X.A.in1) (I.ok.hd hc) it a hai its.toArray) he ⟨hit, tup_is p⟩ hlt hne (by simp [hne, Ne.symm hae]) fun y h' tk hy ho hst hT hsz hk => ?_
    have ey : y = u := by
      have q : its[i]? = some y := by simpa using hy
      rw [hu] at q; exact (Option.some.inj q).symm
    subst ey
    refine ⟨_, rfl, wpAny_letOwnedTupleGo_enum (s := { s with heap := h', toks := tk + 1 }) ho fun h'' he' sb => ?_⟩
    have hT2 : h''.get? s.heap.objs.size = some { cls := .type "tuple", data := .seq #[.int i tk, y] } := (sb.2 _ (Nat.ne_of_gt hel)).trans hT
    have new : ObjOk X.prog X.w (upd H s.heap.objs.size (.tup [.int (i : Nat), x])) h'' s.heap.objs.size (.tup [.int (i : Nat), x]) :=
      ⟨by show 2 ≤ sizeLine; decide, [.int i tk, y], .cons ⟨_, rfl⟩ (.cons ru .nil), ⟨_, hT2, rfl, _, rfl⟩⟩
    have I1 : Inv X pins σ (upd H s.heap.objs.size (.tup [.int (i : Nat), x])) { s with heap := h'', toks := tk + 1 } :=
      I.turnedNew (ch := [e, it]) (fun b ob hb q => (sb.2 b (fun z => hb (by simp [z]))).trans (hk b ob (fun z => hb (by simp [z])) (fun z => hb (by simp [z])) q)) hf (Nat.le_refl _) new
    refine ⟨.ref s.heap.objs.size, _, I1, rfl, ⟨_, x, rfl, I.hok.fresh (Nat.le_refl _), rfl, fun ys hy => by rw [I.tuple_inj hy hq]; exact hx⟩, ⟨⟨y, ?_⟩, hst.1.at fun o q => (sb.2 it (Ne.symm hne)).trans q, hne, hai, hae⟩, fun b hb => ?_⟩
    · have e1 : ((i + 1 : Nat) : Int) = (i : Int) + 1 := by omega
      rw [e1]; exact he'
    · have hb' : b < s.heap.objs.size := by
        rcases (show b = e ∨ b = it by simpa using hb) with z | z
        · rw [z]; exact hel
        · rw [z]; exact hil
      rw [upd_ne (Nat.ne_of_lt hb')]
      exact (hf b hb).1
  done := by
    intro X hP hw hK hc i pins s σ H E I hf st hg
    subst hP hw hK
    obtain ⟨⟨old, he⟩, hit, hne, hai, hae⟩ := st
    obtain ⟨xs, hq, hx⟩ := hg
    obtain ⟨its, rv, p, hz⟩ := I.tuple hq
    obtain ⟨f0, f1, f2, f3, f4, f5⟩ := hf it (by simp)
    have hl := rv.length
    exact enumT_end (I.ok.hd hc) he hit (tup_is p) (by simp; omega) fun h' eb => ⟨rfl, I.turned (t' := s.toks) (fun b o hb q => eb b o hb q) f0 f1 f3 f4 f5⟩
  self := fun A i s Q E st h => let ⟨⟨_, he⟩, _⟩ := st; wpAny_pyIter_enum he h
def iEnumT (K : PySem.W.Frag) (ta : TA) : TI := fun σ H R => ta σ H fun vs H1 => ∃ a xs, vs = [.ref a] ∧ SqT K H1 a xs ∧ R (Iet K a) H1
theorem pi_enumT {X : Cx} {e : Expr} {ta : TA} {p pos tpos : Pos} {elts : List Expr} {kk : Nat} (hg : Gl X "enumerate") (hm : X.mg "enumerate" = none) (ha : PA X [e] ta) (hs : starEach [e] X.env = [(false, eval e X.env)]) :
    PI X (.Tuple elts kk tpos) (.Call (.Name "enumerate" p) [e] [] pos) (iEnumT X.K ta) := by
  refine ⟨fun pins s σ H R I h => ?_⟩
  refine Call_ (ld_blt I hg hm boot_enumerate (PyProof.Rows.callWith_type1 (thn (ha.run pos pins s σ H _ I h) fun us s1 ⟨vs, H1, I1, r1, q1⟩ => ?_) hs rfl))
  obtain ⟨a, xs, ex, hq, q⟩ := q1
  subst ex
  cases r1 with
  | cons r rr =>
    cases rr
    cases r
    obtain ⟨its, rv, p', hz⟩ := I1.tuple hq
    have ht : s1.heap.IsTuple a its.toArray := p'
    have hla : a < s1.heap.objs.size := by obtain ⟨o, q, _⟩ := ht; exact Heap.lt_size q
    refine enumT_call ht fun h' he hit hk => wpAny_pyIter_enum he ?_
    have I2 : Inv X pins σ H1 { s1 with heap := h' } := I1.kept (t' := s1.toks) hk
    refine ⟨s1.heap.objs.size + 1, [s1.heap.objs.size + 1, s1.heap.objs.size], _, _, H1, rfl, I2, turn_enumT a (s1.heap.objs.size + 1) s1.heap.objs.size, ⟨⟨.none, he⟩, hit, Nat.succ_ne_self _, Nat.ne_of_lt hla, Nat.ne_of_lt (Nat.lt_succ_of_lt hla)⟩, fun b hb => ?_, q⟩
    have hle : s1.heap.objs.size ≤ b := by
      rcases (show b = s1.heap.objs.size + 1 ∨ b = s1.heap.objs.size by simpa using hb) with z | z
      · rw [z]; exact Nat.le_add_right _ _
      · rw [z]; exact Nat.le_refl _
    exact I1.fpOk hle (I1.hok.fresh hle)
end G

end
section
set_option maxHeartbeats 4000000
namespace G
open PySem PySem.Spec PyProof.Rows L2
open PySem.W (EachIs AllAlike Sortable AlikeAll dataLe dataLt alike maxD minD)
theorem each_of {F : Hp} : ∀ {xs : List V} {ds : List PyData}, RpAll F xs ds → EachIs (Rp F) xs ds
  | _, _, .nil => .nil
  | _, _, .cons r rs => .cons r (each_of rs)
theorem of_each {F : Hp} : ∀ {xs : List V} {ds : List PyData}, EachIs (Rp F) xs ds → RpAll F xs ds
  | _, _, .nil => .nil
  | _, _, .cons r rs => .cons r (of_each rs)
theorem each_vals {R : V → PyData → Prop} : ∀ {xs : List V} {us : List Value} {ds : List PyData}, Vals xs us → EachIs R xs ds → EachIs (fun u d => ∃ x, RelV x u ∧ R x d) us ds
  | _, _, _, .nil, .nil => .nil
  | _, _, _, .cons r rs, .cons e es => .cons ⟨_, r, e⟩ (each_vals rs es)
theorem vals_each {R : V → PyData → Prop} : ∀ {us : List Value} {ds : List PyData}, EachIs (fun u d => ∃ x, RelV x u ∧ R x d) us ds → ∃ ys, Vals ys us ∧ EachIs R ys ds
  | _, _, .nil => ⟨[], .nil, .nil⟩
  | _, _, .cons ⟨x, r, e⟩ es => by
    obtain ⟨ys, h1, h2⟩ := vals_each es
    exact ⟨x :: ys, .cons r h1, .cons e h2⟩
theorem reads_each {h : Heap} : ∀ {us : List Value} {ds : List PyData} {as : List Addr}, ReadsAll h us ds as → EachIs (fun u d => ∃ as, Reads h u (id d) as) us ds
  | _, _, _, .nil => .nil
  | _, _, _, .cons r rs => .cons ⟨_, r⟩ (reads_each rs)
theorem depth_mem {d : PyData} : ∀ {ds : List PyData}, d ∈ ds → d.depth ≤ PyData.depthAll ds
  | e :: ds, h => by
    rw [PyData.depthAll]
    rcases List.mem_cons.mp h with rfl | h
    · exact Nat.le_max_left _ _
    · exact Nat.le_trans (depth_mem h) (Nat.le_max_right _ _)
theorem fold_mem {α : Type} (f : α → α → Bool) : ∀ (xs : List α) (x : α), xs.foldl (fun a y => if f a y = true then y else a) x ∈ x :: xs
  | [], x => by simp
  | y :: xs, x => by
    rw [List.foldl_cons]
    have := fold_mem f xs (if f x y = true then y else x)
    rcases List.mem_cons.mp this with e | h
    · rw [e]; split <;> simp
    · exact List.mem_cons_of_mem _ (List.mem_cons_of_mem _ h)
theorem maxD_mem (x : PyData) (xs : List PyData) : maxD x xs ∈ x :: xs := fold_mem (fun a y => dataLt a y) xs x
theorem minD_mem (x : PyData) (xs : List PyData) : minD x xs ∈ x :: xs := fold_mem (fun a y => dataLt y a) xs x
section
variable {X : Cx}
theorem cr_sortedA (hu : X.A.units + 64 < cLine) : CallR X (.builtin "sorted") (fun vs H Q => ∃ (a : Addr) (xs : List V) (ds : List PyData) (R : V → PyData → Prop), vs = [V.ref a] ∧ SqL X.K H a xs ∧ DpAll X.K H xs ds ∧ EachIs R xs ds ∧ AllAlike ds ∧ Sortable ds ∧ PyData.depthAll ds ≤ 20 ∧
    ∀ (p : Addr) (ys : List V), H p = none → EachIs R ys (ds.mergeSort (dataLe false id)) → Q (.ref p) (upd H p (.lst ys))) := by
  intro pins s σ H vs us Q I r h
  obtain ⟨a, xs, ds, R, rfl, hs, hd, hR, h1, h2, h3, q⟩ := h
  obtain ⟨its, rv, hl, hz⟩ := I.list hs
  rw [Vals.ref1 r]
  obtain ⟨as, rd⟩ := Dp.readsAll I ds xs its hd rv
  have hlen := hR.length
  refine PySem.W.sorted_data (vs := its) (bs := ds) (enc := id) (R := fun u d => ∃ x, RelV x u ∧ R x d) hl.isList (each_vals rv hR) (reads_each rd) (by rw [List.map_id]; exact h1) (by rw [List.map_id]; exact h2) (by rw [← hlen]; exact hz) (fun d hd => ?_) fun out h4 h5 => ?_
  · have := depth_mem hd
    show X.A.units + 2 + d.depth < _
    omega
  · obtain ⟨ys, h6, h7⟩ := vals_each h5
    obtain ⟨ep, he'⟩ := PyProof.Rows.sortedAll_at s.heap its out.toArray
    have hsz : ys.length ≤ sizeLine := by rw [h6.length, h4, ← hlen]; exact hz
    exact ⟨.ref _, upd H (s.heap.objs.size + 1) (.lst ys), I.laid (t' := s.toks) (fun _ _ => PyProof.Rows.sortedAll_old) (Nat.le_succ _) ⟨hsz, out, ep, h6, he'⟩, rfl, q _ _ (I.hok.fresh (Nat.le_succ _)) h7⟩
def BestR (K : PySem.W.Frag) (f : PyData → List PyData → PyData) : List V → Hp → VK → Prop := fun vs H Q => ∃ (a : Addr) (xs : List V) (d : PyData) (ds : List PyData), vs = [V.ref a] ∧ (SqL K H a xs ∨ SqT K H a xs) ∧ DpAll K H xs (d :: ds) ∧ AlikeAll (d :: ds) ∧ PyData.depthAll (d :: ds) ≤ 20 ∧
  ∀ (i : Nat) x, xs[i]? = some x → (d :: ds)[i]? = some (f d ds) → Q x H
theorem best_fin {pins : List (Addr × Obj)} {σ : L2.St} {H : Hp} {s : Shared} {Q : VK} {f : PyData → List PyData → PyData} (hf : ∀ x xs, f x xs ∈ x :: xs) {its : List Value} {xs : List V} {d : PyData} {ds : List PyData} {as : List Addr} (I : Inv X pins σ H s) (rv : Vals xs its) (rd : ReadsAll s.heap its (d :: ds) as) (ha : AlikeAll (d :: ds))
    (q : ∀ (i : Nat) x, xs[i]? = some x → (d :: ds)[i]? = some (f d ds) → Q x H) (i : Nat) (v : Value) (h' : Heap) (tk : Tok) (bs : List Addr) (hv : its.toArray[i]? = some v) (hr : Reads h' v (f d ds) bs) (k : ∀ b o, s.heap.get? b = some o → h'.get? b = some o) : EP X pins σ Q v { s with heap := h', toks := tk } := by
  have hv' : its[i]? = some v := by simpa using hv
  obtain ⟨bs', r', hi, hm, _⟩ := PySem.W.readsAll_atA (vs := its.toArray) rd i v hv
  have e : (d :: ds).getD i .none = f d ds := PySem.W.alike_unique _ _ v bs' bs (ha.1 _ hm _ (hf d ds)) (PyProof.Rows.Reads.keeps k r') hr
  have hx : ∃ x, xs[i]? = some x ∧ RelV x v := by
    have : ∀ {xs : List V} {us : List Value} {i : Nat}, Vals xs us → us[i]? = some v → ∃ x, xs[i]? = some x ∧ RelV x v := by
      intro xs us i h
      induction h generalizing i with
      | nil => intro h; simp at h
      | cons r _ ih =>
        cases i with
        | zero => intro h; simp at h; subst h; exact ⟨_, rfl, r⟩
        | succ i => intro h; simpa using ih (by simpa using h)
    exact this rv hv'
  obtain ⟨x, hx, rx⟩ := hx
  refine ⟨x, H, I.kept (t' := tk) k, rx, q i x hx ?_⟩
  rw [List.getD_eq_getElem?_getD] at e
  rw [List.getElem?_eq_getElem hi] at e ⊢
  exact congrArg some e
theorem cr_maxA (hc : X.calm = true) (hu : X.A.units + 64 < cLine) : CallR X (.builtin "max") (BestR X.K maxD) := by
  intro pins s σ H vs us Q I r h
  obtain ⟨a, xs, d, ds, rfl, hs, hd, ha, h3, q⟩ := h
  rw [Vals.ref1 r]
  rcases hs with hs | hs
  · obtain ⟨its, rv, hl, hz⟩ := I.list hs
    obtain ⟨as, rd⟩ := Dp.readsAll I _ xs its hd rv
    exact PySem.W.max_list_data (I.ok.hd hc) hl.isList rd ha (by omega) (best_fin maxD_mem I rv rd ha q)
  · obtain ⟨its, rv, hl, hz⟩ := I.tuple hs
    obtain ⟨as, rd⟩ := Dp.readsAll I _ xs its hd rv
    exact PySem.W.max_tuple_data (I.ok.hd hc) hl rd ha (by omega) (best_fin maxD_mem I rv rd ha q)
theorem cr_minA (hc : X.calm = true) (hu : X.A.units + 64 < cLine) : CallR X (.builtin "min") (BestR X.K minD) := by
  intro pins s σ H vs us Q I r h
  obtain ⟨a, xs, d, ds, rfl, hs, hd, ha, h3, q⟩ := h
  rw [Vals.ref1 r]
  rcases hs with hs | hs
  · obtain ⟨its, rv, hl, hz⟩ := I.list hs
    obtain ⟨as, rd⟩ := Dp.readsAll I _ xs its hd rv
    exact PySem.W.min_list_data (I.ok.hd hc) hl.isList rd ha (by omega) (best_fin minD_mem I rv rd ha q)
  · obtain ⟨its, rv, hl, hz⟩ := I.tuple hs
    obtain ⟨as, rd⟩ := Dp.readsAll I _ xs its hd rv
    exact PySem.W.min_tuple_data (I.ok.hd hc) hl rd ha (by omega) (best_fin minD_mem I rv rd ha q)
end
end G

end
section
namespace G
open PySem PySem.Spec PyProof.Rows L2

theorem atI_rel {F : Hp} {xs : List V} {ds : List PyData} (r : RpAll F xs ds) {i : Int} {d : PyData} (h : atI ds i = some d) : ∃ v, atI xs i = some v ∧ Rp F v d := by
  unfold atI at h ⊢
  rw [r.length]
  cases q : ixN ds.length i with
  | none => rw [q] at h; cases h
  | some j =>
    rw [q] at h
    exact r.get h
theorem cut_rel {F : Hp} {xs : List V} {ds : List PyData} (r : RpAll F xs ds) (lo hi : Option Int) : RpAll F (cutV xs lo hi) (cutD ds lo hi) := by
  unfold cutV cutD
  rw [r.length]
  exact (r.drop _).take _
theorem cut_len (ds : List PyData) (lo hi : Option Int) : (cutD ds lo hi).length ≤ ds.length := by
  unfold cutD
  rw [List.length_take, List.length_drop]
  omega
theorem foldl_max_mem : ∀ (l : List Int) (a : Int), l.foldl max a ∈ a :: l ∧ ∀ y ∈ a :: l, y ≤ l.foldl max a
  | [], a => by simp
  | b :: l, a => by
    obtain ⟨h1, h2⟩ := foldl_max_mem l (max a b)
    refine ⟨?_, fun y hy => ?_⟩
    · rcases List.mem_cons.mp h1 with e | h
      · rw [List.foldl_cons, e]
        rcases (show max a b = a ∨ max a b = b by omega) with z | z <;> rw [z] <;> simp
      · exact List.mem_cons_of_mem _ (List.mem_cons_of_mem _ h)
    · have hm := h2 (max a b) List.mem_cons_self
      rcases List.mem_cons.mp hy with e | hy
      · subst e; exact Int.le_trans (by omega) hm
      · rcases List.mem_cons.mp hy with e | hy
        · subst e; exact Int.le_trans (by omega) hm
        · exact h2 y (List.mem_cons_of_mem _ hy)
theorem foldl_min_mem : ∀ (l : List Int) (a : Int), l.foldl min a ∈ a :: l ∧ ∀ y ∈ a :: l, l.foldl min a ≤ y
  | [], a => by simp
  | b :: l, a => by
    obtain ⟨h1, h2⟩ := foldl_min_mem l (min a b)
    refine ⟨?_, fun y hy => ?_⟩
    · rcases List.mem_cons.mp h1 with e | h
      · rw [List.foldl_cons, e]
        rcases (show min a b = a ∨ min a b = b by omega) with z | z <;> rw [z] <;> simp
      · exact List.mem_cons_of_mem _ (List.mem_cons_of_mem _ h)
    · have hm := h2 (min a b) List.mem_cons_self
      rcases List.mem_cons.mp hy with e | hy
      · subst e; exact Int.le_trans hm (by omega)
      · rcases List.mem_cons.mp hy with e | hy
        · subst e; exact Int.le_trans hm (by omega)
        · exact h2 y (List.mem_cons_of_mem _ hy)
theorem sortI_perm (l : List Int) : (sortI l).Perm l := List.mergeSort_perm l _
theorem sortI_sorted (l : List Int) : (sortI l).Pairwise (· ≤ ·) :=
  (List.pairwise_mergeSort (le := fun a b => decide (a ≤ b)) (fun a b c h1 h2 => by simp only [decide_eq_true_eq] at *; omega) (fun a b => by simp only [Bool.or_eq_true, decide_eq_true_eq]; omega) l).imp fun h => of_decide_eq_true h
theorem sortI_eq {l l' : List Int} (p : l'.Perm l) (s : l'.Pairwise (· ≤ ·)) : l' = sortI l :=
  List.Perm.eq_of_pairwise (le := fun a b => a ≤ b) (fun a b _ _ h1 h2 => by omega) s (sortI_sorted l) (p.trans (sortI_perm l).symm)
section
variable {X : Cx} {dw : Dw}
theorem star_cons {e : Expr} {es : List Expr} {env : Env} (h : noStar e = true) : starEach (e :: es) env = (false, eval e env) :: starEach es env := by
  cases e <;> first | rfl | cases h
theorem star_nil {pos : Pos} {env : Env} : (backTo pos (starEach [] env)).any (·.1) = false := rfl
theorem star_one {e : Expr} {pos : Pos} {env : Env} (h : noStar e = true) : (backTo pos (starEach [e] env)).any (·.1) = false := by
  rw [star_cons h]; rfl
theorem star_all {pos : Pos} {env : Env} : ∀ {es : List Expr}, es.all noStar = true → (backTo pos (starEach es env)).any (·.1) = false
  | [], _ => rfl
  | e :: es, h => by
    simp only [List.all_cons, Bool.and_eq_true] at h
    rw [star_cons h.1]
    show (false || (backTo pos (starEach es env)).any (·.1)) = false
    rw [star_all h.2]; rfl
theorem isGl_gl {sc : Scope} {x : Str} (hs : X.env.scope = sc) (h : isGl sc x = true) : Gl X x := by
  unfold isGl at h
  subst hs
  show X.env.scope.names.lookup x = some .globalImplicit
  exact of_decide_eq_true h
theorem isVis_vis {sc : Scope} {x : Str} (hs : X.env.scope = sc) (h : isVis sc x = true) : Vis X.env.scope x := by
  subst hs
  unfold isVis at h
  split at h
  · exact .inl (by assumption)
  · exact .inr (.inl (by assumption))
  · exact .inr (.inr (by assumption))
  · cases h
theorem isLoc_loc {sc : Scope} {x : Str} (h : isLoc sc x = true) : Loc sc x := by
  unfold isLoc at h
  split at h
  · exact .inl (by assumption)
  · exact .inr (by assumption)
  · cases h
theorem plain3 {x : Str} (h : plainN x = true) : (x == ("__debug__" : Str)) = false ∧ (x == ("__classdict__" : Str)) = false ∧ x ≠ ("__name__" : Str) := by
  unfold plainN at h
  simp only [Bool.and_eq_true, decide_eq_true_eq] at h
  exact ⟨beq_eq_false_iff_ne.mpr h.1.1, beq_eq_false_iff_ne.mpr h.1.2, h.2⟩

def LV (dw : Dw) (F H : Hp) (x : V) (d : PyData) : Prop := Rp F x d ∨ ∃ a xs l, x = .ref a ∧ d = .list l ∧ H a = some (.lst xs) ∧ F a = none ∧ ¬ isDr dw a ∧ RpAll F xs l
theorem LV.list {dw : Dw} {F H : Hp} {m : Ms} {x : V} {l : List PyData} (g : Gr dw F H m) (h : LV dw F H x (.list l)) : ∃ a xs, x = .ref a ∧ H a = some (.lst xs) ∧ RpAll F xs l := by
  rcases h with h | ⟨a, xs, l', rfl, e, h1, _, _, h2⟩
  · cases h with
    | lst h1 h2 => exact ⟨_, _, rfl, g.sub _ _ h1, h2⟩
  · cases e; exact ⟨a, xs, rfl, h1, h2⟩
theorem LV.other {dw : Dw} {F H : Hp} {x : V} {d : PyData} (h : LV dw F H x d) (n : ∀ l, d ≠ .list l) : Rp F x d := by
  rcases h with h | ⟨a, xs, l', rfl, e, _⟩
  · exact h
  · exact absurd e (n l')
def biV : Bi → Value
  | .len => .builtin "len" | .tuple => .type "tuple" | .list => .type "list" | .int => .type "int" | .repr => .builtin "repr" | .all => .builtin "all" | .any => .builtin "any" | .sum => .builtin "sum" | .sorted => .builtin "sorted" | .max => .builtin "max" | .min => .builtin "min"
theorem bi_boot : ∀ b : Bi, bootBuiltins b.name = some (biV b)
  | .len => boot_len | .tuple => boot_tuple | .list => boot_list | .int => boot_int | .repr => boot_repr | .all => boot_all | .any => boot_any | .sum => boot_sum | .sorted => boot_sorted | .max => boot_max | .min => boot_min
theorem bi_in (b : Bi) : b.name ∈ bnames := by cases b <;> decide
theorem we_bi {b : Bi} {r : List V → Hp → VK → Prop} (hc : CallR X (biV b) r) {a : Expr} {p pos : Pos} (hg : Gl X b.name) (hm : X.mg b.name = none) (hs : noStar a = true) {σ : L2.St} {H : Hp} {Q : VK} (h : WE X a σ H fun x H1 => r [x] H1 Q) :
    WE X (.Call (.Name b.name p) [a] [] pos) σ H Q := by
  have hn : b.name ≠ "__name__" := by cases b <;> decide
  have hd : (b.name == ("__debug__" : Str)) = false := by cases b <;> decide
  have hv := bi_boot b
  have hpa := pa_cons (pe_we (X := X) (e := a)) pa_nil (star_cons (es := []) (env := X.env) hs)
  cases b <;> first
    | exact we_of (pe_callB hc hg hm hv hpa hn hd (star_cons hs) star_nil) h
    | exact we_of (pe_callTy hc hg hm hv hpa hn hd (star_cons hs) star_nil) h
theorem call_reprD (hg : X.A.guards = some []) (hu : X.A.units + 64 < cLine) : CallR X (.builtin "repr") (fun xs H Q => ∃ x d, xs = [x] ∧ Dp X.K H x d ∧ fitsD d = true ∧ Q (.str d.shown) H) := by
  intro pins s σ H xs us Q I r h
  obtain ⟨x, d, rfl, hd, hf, q⟩ := h
  obtain ⟨u, rfl, rx⟩ := vals1 r
  obtain ⟨as, rd⟩ := Dp.reads I d x u hd rx
  unfold fitsD at hf
  simp only [Bool.and_eq_true, decide_eq_true_eq, Bool.not_eq_true'] at hf
  obtain ⟨⟨⟨f1, f2⟩, f3⟩, f4⟩ := hf
  have sz := lim_line f4
  have fin : ∀ h' u tk, (∀ b o, s.heap.get? b = some o → h'.get? b = some o) → EP X pins σ Q (.str d.shown u) { s with heap := h', toks := tk } := fun h' u tk k => ⟨.str d.shown, H, I.kept (t' := tk) k, ⟨_, rfl⟩, q⟩
  have id' : ∀ b o, s.heap.get? b = some o → s.heap.get? b = some o := fun _ _ e => e
  have hsm : d.hasDict = true → sysModules ∉ as := fun e => by rw [f2] at e; cases e
  cases rd with
  | none => exact P.repr_of_none (by simpa only [PyData.shown] using fin s.heap _ _ id')
  | bool b => exact P.repr_of_bool (by simpa only [PyData.shown] using fin s.heap _ _ id')
  | int i t => exact P.repr_of_int (by simpa [PyData.showable] using f1) (by simpa only [PyData.shown] using fin s.heap _ _ id')
  | str y t => exact P.repr_of_str (by simpa only [PyData.shown] using fin s.heap _ _ id') (by simpa only [PyData.shown] using sz)
  | list h1 h2 h3 h4 => exact repr_of_reads' (.list h1 h2 h3 h4) f1 hsm hg (by omega) id' fin sz
  | tuple h1 h2 h3 h4 => exact repr_of_reads' (.tuple h1 h2 h3 h4) f1 hsm hg (by omega) id' fin sz
  | dict h1 h2 h3 h4 h5 => simp [PyData.hasDict] at f2
theorem alikeB_ok {xs : List PyData} (h : alikeB xs = true) : PySem.W.AllAlike xs := by
  unfold alikeB at h
  simp only [List.all_eq_true] at h
  exact h
theorem sortable_ok {xs : List PyData} (h : xs.all tup1 = true ∨ xs.all noTup = true) : PySem.W.Sortable xs := by
  rcases h with h | h
  · refine .inl fun d hd => ?_
    have := List.all_eq_true.mp h d hd
    unfold tup1 at this
    split at this
    · exact ⟨_, _, rfl⟩
    · cases this
  · refine .inr fun d hd => ?_
    have := List.all_eq_true.mp h d hd
    unfold noTup at this
    split at this
    · cases this
    · cases this
    · rename_i h1 h2
      exact ⟨fun e => h1 e, fun xs e => h2 xs e⟩
theorem alike_ok {x : PyData} {xs : List PyData} (h : alikeB (x :: xs) = true) (q : (x :: xs).all nonN = true) : PySem.W.AlikeAll (x :: xs) := by
  refine ⟨alikeB_ok h, fun d hd e => ?_⟩
  have := List.all_eq_true.mp q d hd
  rw [e] at this; cases this
theorem best_at {f : PyData → List PyData → PyData} {xs : List PyData} {d : PyData} (h : bestA f xs = some d) : ∃ y ys, xs = y :: ys ∧ d = f y ys ∧ PySem.W.AlikeAll (y :: ys) ∧ PyData.depthAll (y :: ys) ≤ 20 ∧ PyData.hasDictAll (y :: ys) = false := by
  cases xs with
  | nil => cases h
  | cons y ys =>
    have h : (if alikeB (y :: ys) = true ∧ (y :: ys).all nonN = true ∧ PyData.depthAll (y :: ys) ≤ 20 ∧ PyData.hasDictAll (y :: ys) = false then some (f y ys) else none) = some d := h
    by_cases hh : alikeB (y :: ys) = true ∧ (y :: ys).all nonN = true ∧ PyData.depthAll (y :: ys) ≤ 20 ∧ PyData.hasDictAll (y :: ys) = false
    · rw [if_pos hh] at h
      cases h
      exact ⟨y, ys, rfl, rfl, alike_ok hh.1 hh.2.1, hh.2.2.1, hh.2.2.2⟩
    · rw [if_neg hh] at h; cases h
theorem best_read {f : PyData → List PyData → PyData} {d d' : PyData} {xs : List PyData} (hs : seqOf d = some xs) (h : bestA f xs = some d') {x : V} {F H : Hp} {m : Ms} {Q : VK} (g : Gr dw F H m) (lv : LV dw F H x d) (q : ∀ y F' H', Ext dw F H F' H' → Gr dw F' H' m → Rp F' y d' → Q y H') : BestR X.K f [x] H Q := by
  obtain ⟨y, ys, rfl, rfl, h1, h2, h3⟩ := best_at h
  have fin : ∀ {zs : List V}, RpAll F zs (y :: ys) → ∀ (i : Nat) u, zs[i]? = some u → (y :: ys)[i]? = some (f y ys) → Q u H := fun r i u e1 e2 => by
    obtain ⟨v, e3, e4⟩ := r.get e2
    rw [e1] at e3; cases e3
    exact q _ _ _ (Ext.refl ..) g e4
  unfold seqOf at hs
  split at hs <;> cases hs
  · obtain ⟨a, zs, rfl, k1, k2⟩ := lv.list g
    exact ⟨a, zs, y, ys, rfl, .inl (SqL.of k1), k2.dp g.sub h3, h1, h2, fin k2⟩
  · cases lv.other (fun l e => by cases e) with
    | tup k1 k2 => exact ⟨_, _, y, ys, rfl, .inr (SqT.of (g.sub _ _ k1)), k2.dp g.sub h3, h1, h2, fin k2⟩
theorem bi_rule {k : Nat} (hr : Room k X.A) (hc : X.calm = true) (hg : X.A.guards = some []) {b : Bi} {d d' : PyData} (h : biD b d = some d') :
    ∃ r : List V → Hp → VK → Prop, CallR X (biV b) r ∧
      (∀ (x : V) (F H : Hp) (m : Ms) (Q : VK), Gr dw F H m → LV dw F H x d → (∀ y F' H', Ext dw F H F' H' → Gr dw F' H' m → Rp F' y d' → Q y H') → r [x] H Q) ∧
      (b = .list ∨ b = .sorted → ∀ l, d' = .list l → ∀ (x : V) (F H : Hp) (m : Ms) (Q : VK), Gr dw F H m → LV dw F H x d → (∀ p xs, H p = none → RpAll F xs l → Q (.ref p) (upd H p (.lst xs))) → r [x] H Q) := by
  have hu : X.A.units + 64 < cLine := hr.units
  have frz : ∀ {F H : Hp} {m : Ms} {Q : VK} {l : List PyData}, Gr dw F H m → (∀ y F' H', Ext dw F H F' H' → Gr dw F' H' m → Rp F' y (.list l) → Q y H') → ∀ p xs, H p = none → RpAll F xs l → Q (.ref p) (upd H p (.lst xs)) := by
    intro F H m Q l g q p xs hp r
    obtain ⟨g2, e2⟩ := g.laidF (o := .lst xs) hp
    exact q _ _ _ e2 g2 (.lst upd_same (r.mono e2.fs))
  unfold biD at h
  split at h
  · cases h
    refine ⟨_, call_len_seq, fun x F H m Q g lv q => ?_, fun _ l e => by cases e⟩
    obtain ⟨a, ys, rfl, h1, h2⟩ := lv.list g
    exact ⟨a, ys, rfl, .inl (SqL.of h1), by rw [h2.length]; exact q _ _ _ (Ext.refl ..) g (.int _)⟩
  · cases h
    refine ⟨_, call_len_seq, fun x F H m Q g lv q => ?_, fun _ l e => by cases e⟩
    cases lv.other (fun l e => by cases e) with
    | tup h1 h2 => exact ⟨_, _, rfl, .inr (SqT.of (g.sub _ _ h1)), by rw [h2.length]; exact q _ _ _ (Ext.refl ..) g (.int _)⟩
  · cases h
    refine ⟨_, call_tuple_of, fun x F H m Q g lv q => ?_, fun _ l e => by cases e⟩
    obtain ⟨a, ys, rfl, h1, h2⟩ := lv.list g
    refine ⟨a, ys, rfl, .inl ⟨SqL.of h1, fun p hp => ?_⟩⟩
    obtain ⟨g2, e2⟩ := g.laidF (o := .tup ys) hp
    exact q _ _ _ e2 g2 (.tup upd_same (h2.mono e2.fs))
  · cases h
    refine ⟨_, call_tuple_of, fun x F H m Q g lv q => ?_, fun _ l e => by cases e⟩
    cases lv.other (fun l e => by cases e) with
    | tup h1 h2 => exact ⟨_, _, rfl, .inr ⟨SqT.of (g.sub _ _ h1), q _ _ _ (Ext.refl ..) g (.tup h1 h2)⟩⟩
  · cases h
    refine ⟨_, call_list_of, fun x F H m Q g lv q => ?_, fun _ l e x F H m Q g lv q => ?_⟩
    · obtain ⟨a, ys, rfl, h1, h2⟩ := lv.list g
      exact ⟨a, ys, rfl, .inl (SqL.of h1), fun p hp => frz g q p ys hp h2⟩
    · cases e
      obtain ⟨a, ys, rfl, h1, h2⟩ := lv.list g
      exact ⟨a, ys, rfl, .inl (SqL.of h1), fun p hp => q p ys hp h2⟩
  · cases h
    refine ⟨_, call_list_of, fun x F H m Q g lv q => ?_, fun _ l e x F H m Q g lv q => ?_⟩
    · cases lv.other (fun l e => by cases e) with
      | tup h1 h2 => exact ⟨_, _, rfl, .inr (SqT.of (g.sub _ _ h1)), fun p hp => frz g q p _ hp h2⟩
    · cases e
      cases lv.other (fun l e => by cases e) with
      | tup h1 h2 => exact ⟨_, _, rfl, .inr (SqT.of (g.sub _ _ h1)), fun p hp => q p _ hp h2⟩
  · cases h
    refine ⟨_, call_int1, fun x F H m Q g lv q => ?_, fun _ l e => by cases e⟩
    cases lv.other (fun l e => by cases e)
    exact .inl ⟨_, rfl, q _ _ _ (Ext.refl ..) g (.int _)⟩
  · split at h <;> cases h
    rename_i hf
    refine ⟨_, call_reprD hg hu, fun x F H m Q g lv q => ?_, fun _ l e => by cases e⟩
    have nd : d.hasDict = false := by
      unfold fitsD at hf
      simp only [Bool.and_eq_true, Bool.not_eq_true'] at hf
      exact hf.1.1.2
    refine ⟨x, _, rfl, ?_, hf, q _ _ _ (Ext.refl ..) g (.str _)⟩
    rcases lv with lv | ⟨a, xs, l, rfl, rfl, h1, _, _, h2⟩
    · exact lv.dp g.sub nd
    · exact .lst (SqL.of h1) (h2.dp g.sub (by simpa [PyData.hasDict] using nd))
  · rename_i xs
    cases e : bools xs with
    | none => rw [e] at h; cases h
    | some bs =>
      rw [e] at h; cases h
      refine ⟨_, cr_all hc, fun x F H m Q g lv q => ?_, fun _ l e => by cases e⟩
      obtain ⟨a, ys, rfl, h1, h2⟩ := lv.list g
      exact ⟨a, bs, rfl, SqL.of (by rw [← h2.bools e]; exact h1), q _ _ _ (Ext.refl ..) g (.bl _)⟩
  · rename_i xs
    cases e : bools xs with
    | none => rw [e] at h; cases h
    | some bs =>
      rw [e] at h; cases h
      refine ⟨_, cr_any hc, fun x F H m Q g lv q => ?_, fun _ l e => by cases e⟩
      obtain ⟨a, ys, rfl, h1, h2⟩ := lv.list g
      exact ⟨a, bs, rfl, SqL.of (by rw [← h2.bools e]; exact h1), q _ _ _ (Ext.refl ..) g (.bl _)⟩
  · rename_i xs
    cases e : intsL xs with
    | none => rw [e] at h; cases h
    | some is =>
      rw [e] at h; cases h
      refine ⟨_, cr_sum hc, fun x F H m Q g lv q => ?_, fun _ l e => by cases e⟩
      obtain ⟨a, ys, rfl, h1, h2⟩ := lv.list g
      exact ⟨a, is, rfl, SqL.of (by rw [← h2.ints e]; exact h1), q _ _ _ (Ext.refl ..) g (.int _)⟩
  · rename_i xs
    unfold srtX at h
    cases e : intsL xs with
    | none =>
      rw [e] at h
      have h : srtA xs = some d' := h
      unfold srtA at h
      by_cases hh : alikeB xs = true ∧ (xs.all tup1 = true ∨ xs.all noTup = true) ∧ PyData.depthAll xs ≤ 20 ∧ PyData.hasDictAll xs = false
      case neg => rw [if_neg hh] at h; cases h
      rw [if_pos hh] at h
      cases h
      obtain ⟨a1, a2, a3, a4⟩ := hh
      refine ⟨_, cr_sortedA hu, fun x F H m Q g lv q => ?_, fun _ l e' x F H m Q g lv q => ?_⟩
      · obtain ⟨a, ys, rfl, h1, h2⟩ := lv.list g
        exact ⟨a, ys, xs, Rp F, rfl, SqL.of h1, h2.dp g.sub a4, each_of h2, alikeB_ok a1, sortable_ok a2, a3, fun p zs hp ez => frz g q p _ hp (by have := of_each ez; exact this)⟩
      · cases e'
        obtain ⟨a, ys, rfl, h1, h2⟩ := lv.list g
        exact ⟨a, ys, xs, Rp F, rfl, SqL.of h1, h2.dp g.sub a4, each_of h2, alikeB_ok a1, sortable_ok a2, a3, fun p zs hp ez => q p _ hp (of_each ez)⟩
    | some is =>
      rw [e] at h; cases h
      refine ⟨_, cr_sortedI, fun x F H m Q g lv q => ?_, fun _ l e' x F H m Q g lv q => ?_⟩
      · obtain ⟨a, ys, rfl, h1, h2⟩ := lv.list g
        refine ⟨a, is, rfl, SqL.of (by rw [← h2.ints e]; exact h1), fun ns' p pm so hp => ?_⟩
        rw [sortI_eq pm so]
        exact frz g q p _ hp (RpAll.of_ints _)
      · cases e'
        obtain ⟨a, ys, rfl, h1, h2⟩ := lv.list g
        refine ⟨a, is, rfl, SqL.of (by rw [← h2.ints e]; exact h1), fun ns' p pm so hp => ?_⟩
        rw [sortI_eq pm so]
        exact q p _ hp (RpAll.of_ints _)
  · rename_i xs
    unfold maxX at h
    cases e : intsL xs with
    | none =>
      rw [e] at h
      exact ⟨_, cr_maxA hc hu, fun x F H m Q g lv q => best_read rfl h g lv q, fun hb => by rcases hb with hb | hb <;> cases hb⟩
    | some is =>
      rw [e] at h
      cases is with
      | nil => cases h
      | cons y r =>
        cases h
        refine ⟨_, cr_max hc, fun x F H m Q g lv q => ?_, fun _ l e => by cases e⟩
        obtain ⟨a, ys, rfl, h1, h2⟩ := lv.list g
        refine ⟨a, y :: r, rfl, SqL.of (by rw [← h2.ints e]; exact h1), Nat.succ_pos _, fun m' hm hle => ?_⟩
        obtain ⟨k1, k2⟩ := foldl_max_mem r y
        have : m' = r.foldl max y := Int.le_antisymm (k2 m' hm) (hle _ k1)
        subst this
        exact q _ _ _ (Ext.refl ..) g (.int _)
  · exact ⟨_, cr_maxA hc hu, fun x F H m Q g lv q => best_read rfl h g lv q, fun hb => by rcases hb with hb | hb <;> cases hb⟩
  · rename_i xs
    unfold minX at h
    cases e : intsL xs with
    | none =>
      rw [e] at h
      exact ⟨_, cr_minA hc hu, fun x F H m Q g lv q => best_read rfl h g lv q, fun hb => by rcases hb with hb | hb <;> cases hb⟩
    | some is =>
      rw [e] at h
      cases is with
      | nil => cases h
      | cons y r =>
        cases h
        refine ⟨_, cr_min hc, fun x F H m Q g lv q => ?_, fun _ l e => by cases e⟩
        obtain ⟨a, ys, rfl, h1, h2⟩ := lv.list g
        refine ⟨a, y :: r, rfl, SqL.of (by rw [← h2.ints e]; exact h1), Nat.succ_pos _, fun m' hm hle => ?_⟩
        obtain ⟨k1, k2⟩ := foldl_min_mem r y
        have : m' = r.foldl min y := Int.le_antisymm (hle _ k1) (k2 m' hm)
        subst this
        exact q _ _ _ (Ext.refl ..) g (.int _)
  · exact ⟨_, cr_minA hc hu, fun x F H m Q g lv q => best_read rfl h g lv q, fun hb => by rcases hb with hb | hb <;> cases hb⟩
  · split at h
    · rename_i a hl
      cases e : PySem.intText? a with
      | none => rw [e] at h; cases h
      | some n =>
        rw [e] at h; cases h
        refine ⟨_, call_int_str, fun x F H m Q g lv q => ?_, fun _ l e => by cases e⟩
        cases lv.other (fun l e => by cases e)
        exact ⟨_, _, rfl, e, hl, q _ _ _ (Ext.refl ..) g (.int _)⟩
    · cases h
  · cases h
    refine ⟨_, call_int1, fun x F H m Q g lv q => ?_, fun _ l e => by cases e⟩
    cases lv.other (fun l e => by cases e)
    exact .inr ⟨_, rfl, q _ _ _ (Ext.refl ..) g (.int _)⟩
  · cases h
end
end G

end
section
namespace G
open PySem PySem.Spec PyProof.Rows L2

section
variable {dw : Dw} {σ : L2.St} {F H : Hp} {ρ : Rho} {m : Ms}
theorem get_set {α : Type} {l : List α} {i j : Nat} {a b : α} (h : (l.set i a)[j]? = some b) : (i = j ∧ b = a ∧ i < l.length) ∨ (i ≠ j ∧ l[j]? = some b) := by
  by_cases e : i = j
  · subst e
    by_cases hl : i < l.length
    · rw [List.getElem?_set_self hl] at h
      exact .inl ⟨rfl, (Option.some.inj h).symm, hl⟩
    · rw [List.getElem?_eq_none (by simpa using hl)] at h; cases h
  · rw [List.getElem?_set_ne e] at h
    exact .inr ⟨e, h⟩
theorem Er.setF (r : Er dw σ F H ρ m) {x : V} {v : Val} (h : VR dw F x v) (i : Nat) : Er dw (σ.set i (some x)) F H (ρ.set i (some (.fz v))) m := by
  refine ⟨r.gr, by rw [List.length_set, List.length_set, r.len], fun j s hs => ?_, fun j k l l' a h1 h2 h3 h4 => ?_⟩
  · rcases get_set hs with ⟨rfl, e, hl⟩ | ⟨ne, hs⟩
    · cases e
      exact ⟨x, by rw [List.getElem?_set_self (by rw [r.len]; exact hl)], h⟩
    · rw [List.getElem?_set_ne ne]; exact r.sl j s hs
  · rcases get_set h1 with ⟨_, e, _⟩ | ⟨n1, h1⟩
    · cases e
    · rcases get_set h2 with ⟨_, e, _⟩ | ⟨n2, h2⟩
      · cases e
      · rw [List.getElem?_set_ne n1] at h3
        rw [List.getElem?_set_ne n2] at h4
        exact r.ap j k l l' a h1 h2 h3 h4
theorem Er.setO (r : Er dw σ F H ρ m) {p : Addr} {o : HO} {w : Ow} (hp : H p = some o) (fp : F p = none) (nd : ¬ isDr dw p) (ra : OR F o w) (i : Nat)
    (ne : ∀ (j : Nat) k, j ≠ i → ρ[j]? = some (some (.ow k)) → σ[j]? ≠ some (some (.ref p))) : Er dw (σ.set i (some (.ref p))) F H (ρ.set i (some (.ow w))) m := by
  refine ⟨r.gr, by rw [List.length_set, List.length_set, r.len], fun j s hs => ?_, fun j k l l' a h1 h2 h3 h4 => ?_⟩
  · rcases get_set hs with ⟨rfl, e, hl⟩ | ⟨n, hs⟩
    · cases e
      exact ⟨p, o, by rw [List.getElem?_set_self (by rw [r.len]; exact hl)], hp, fp, nd, ra⟩
    · rw [List.getElem?_set_ne n]; exact r.sl j s hs
  · rcases get_set h1 with ⟨e1, _, _⟩ | ⟨n1, h1⟩
    · rcases get_set h2 with ⟨e2, _, _⟩ | ⟨n2, h2⟩
      · exact e1.symm.trans e2
      · subst e1
        rw [List.getElem?_set_ne n2] at h4
        rcases get_set h3 with ⟨_, e, _⟩ | ⟨n3, _⟩
        · cases e; exact absurd h4 (ne k _ (Ne.symm n2) h2)
        · exact absurd rfl n3
    · rcases get_set h2 with ⟨e2, _, _⟩ | ⟨n2, h2⟩
      · subst e2
        rw [List.getElem?_set_ne n1] at h3
        rcases get_set h4 with ⟨_, e, _⟩ | ⟨n3, _⟩
        · cases e; exact absurd h3 (ne j _ (Ne.symm n1) h1)
        · exact absurd rfl n3
      · rw [List.getElem?_set_ne n1] at h3
        rw [List.getElem?_set_ne n2] at h4
        exact r.ap j k _ _ a h1 h2 h3 h4
theorem Er.wipe1 (r : Er dw σ F H ρ m) (i : Nat) : Er dw (σ.set i none) F H (ρ.set i none) m := by
  refine ⟨r.gr, by rw [List.length_set, List.length_set, r.len], fun j s hs => ?_, fun j k l l' a h1 h2 h3 h4 => ?_⟩
  · rcases get_set hs with ⟨_, e, _⟩ | ⟨n, hs⟩
    · cases e
    · rw [List.getElem?_set_ne n]; exact r.sl j s hs
  · rcases get_set h1 with ⟨_, e, _⟩ | ⟨n1, h1⟩
    · cases e
    · rcases get_set h2 with ⟨_, e, _⟩ | ⟨n2, h2⟩
      · cases e
      · rw [List.getElem?_set_ne n1] at h3
        rw [List.getElem?_set_ne n2] at h4
        exact r.ap j k l l' a h1 h2 h3 h4
theorem Er.wipe (r : Er dw σ F H ρ m) : ∀ vs : List Nat, Er dw (L2.wipe σ vs) F H (wipeR ρ vs) m
  | [] => r
  | v :: vs => (Er.wipe r vs).wipe1 v
end
theorem wipe_set (σ : L2.St) (x : Option V) : ∀ (vs : List Nat) (i : Nat), i ∈ vs → L2.wipe (σ.set i x) vs = L2.wipe σ vs
  | [], i, h => by simp at h
  | v :: vs, i, h => by
    show (L2.wipe (σ.set i x) vs).set v none = (L2.wipe σ vs).set v none
    by_cases hv : i ∈ vs
    · rw [wipe_set σ x vs i hv]
    · rcases List.mem_cons.mp h with e | e
      · subst e
        have : ∀ vs : List Nat, i ∉ vs → L2.wipe (σ.set i x) vs = (L2.wipe σ vs).set i x := by
          intro vs
          induction vs with
          | nil => intro _; rfl
          | cons u us ih =>
            intro hn
            have h1 : u ≠ i := fun e => hn (by simp [e])
            have h2 : i ∉ us := fun e => hn (List.mem_cons_of_mem _ e)
            show (L2.wipe (σ.set i x) us).set u none = ((L2.wipe σ us).set u none).set i x
            rw [ih h2, List.set_comm _ _ h1]
        rw [this vs hv, List.set_set]
      · exact absurd e hv
theorem wipe_idem (σ : L2.St) : ∀ vs : List Nat, L2.wipe (L2.wipe σ vs) vs = L2.wipe σ vs := by
  have step : ∀ (vs us : List Nat), (∀ u ∈ us, u ∈ vs) → L2.wipe (L2.wipe σ us) vs = L2.wipe σ vs := by
    intro vs us
    induction us with
    | nil => intro _; rfl
    | cons u us ih =>
      intro h
      show L2.wipe ((L2.wipe σ us).set u none) vs = _
      rw [wipe_set _ _ vs u (h u List.mem_cons_self)]
      exact ih fun v hv => h v (List.mem_cons_of_mem _ hv)
  exact fun vs => step vs vs fun _ h => h

theorem DrOk.ntup {dw : Dw} {F H : Hp} {m : Ms} (h : DrOk F H dw m) {b : Addr} {xs : List V} (e : H b = some (.tup xs)) : ¬ isDr dw b := by
  cases dw with
  | none => exact fun z => z
  | some t =>
    obtain ⟨a, c, g⟩ := t
    cases m with
    | none => exact h.elim
    | some d =>
      obtain ⟨h1, h2, h3, _⟩ := h
      rintro (z | z | z) <;> (subst z; rw [e] at *; first | cases h1 | cases h2 | cases h3)
theorem Gr.tups {dw : Dw} {F H : Hp} {m : Ms} (g : Gr dw F H m) (bs : List Addr) (hb : ∀ b ∈ bs, ∃ xs, H b = some (.tup xs)) : ∃ F', Gr dw F' H m ∧ Ext dw F H F' H ∧ ∀ b ∈ bs, F' b = H b := by
  refine ⟨fun b => if b ∈ bs then H b else F b, ⟨fun b o e => ?_, g.dr.keep (fun _ _ e => e) fun b d e => ?_⟩, ⟨fun b o e => ?_, fun _ _ h _ => h, fun b o e => ?_, fun _ h => h⟩, fun b h => if_pos h⟩
  · by_cases q : b ∈ bs
    · rw [if_pos q] at e; exact e
    · rw [if_neg q] at e; exact g.sub _ _ e
  · by_cases q : b ∈ bs
    · obtain ⟨xs, z⟩ := hb b q
      exact absurd d (g.dr.ntup z)
    · show (if b ∈ bs then H b else F b) = none
      rw [if_neg q]; exact e
  · show (if b ∈ bs then H b else F b) = some o
    by_cases q : b ∈ bs
    · rw [if_pos q]; exact g.sub _ _ e
    · rw [if_neg q]; exact e
  · by_cases q : b ∈ bs
    · obtain ⟨xs, z⟩ := hb b q
      exact .inr (.inr ⟨xs, z, g.dr.ntup z⟩)
    · rw [if_neg q] at e; exact .inl e
structure ItOk (F : Hp) (J : L2.It) (items : List PyData) : Prop where
  go : ∀ i Hc, i < items.length → Sub F Hc → J.go i Hc
  stop : ∀ Hc, Sub F Hc → J.stop items.length Hc
  yld : ∀ i Hc x H' d, items[i]? = some d → Sub F Hc → J.yld i Hc x H' → (H' = Hc ∧ Rp F x d) ∨ ∃ (U : Addr) (ys : List V) (ds : List PyData), ((Hc U = none ∧ H' = upd Hc U (.tup ys)) ∨ (Hc U = some (.tup ys) ∧ H' = Hc)) ∧ x = .ref U ∧ d = .tuple ds ∧ RpAll F ys ds
theorem ItOk.turn {dw : Dw} {F0 : Hp} {J : L2.It} {items : List PyData} (o : ItOk F0 J items) {i : Nat} {F H H' : Hp} {x : V} {d : PyData} {m : Ms} (hd : items[i]? = some d) (s : Sub F0 F) (g : Gr dw F H m) (y : J.yld i H x H') :
    ∃ F', Ext dw F H F' H' ∧ Gr dw F' H' m ∧ Rp F' x d := by
  rcases o.yld i H x H' d hd (s.trans g.sub) y with ⟨rfl, r⟩ | ⟨U, ys, ds, ⟨hU, rfl⟩ | ⟨hU, rfl⟩, rfl, rfl, r⟩
  · exact ⟨F, Ext.refl .., g, r.mono s⟩
  · obtain ⟨g2, e2⟩ := g.laidF (o := .tup ys) hU
    exact ⟨_, e2, g2, .tup upd_same ((r.mono s).mono e2.fs)⟩
  · obtain ⟨F', g2, e2, hb⟩ := g.tups [U] fun b q => by rw [List.mem_singleton.mp q]; exact ⟨_, hU⟩
    exact ⟨F', e2, g2, .tup (by rw [hb U (by simp), hU]) ((r.mono s).mono e2.fs)⟩
section
variable {K : PySem.W.Frag} {F : Hp} {a : Addr} {xs : List V} {ds : List PyData}
theorem it_list (h : F a = some (.lst xs)) (r : RpAll F xs ds) : ItOk F (Itl K a) ds where
  go := fun i Hc hi s => ⟨xs, xs[i]'(by rw [r.length]; exact hi), SqL.of (s _ _ h), by simp⟩
  stop := fun Hc s => ⟨xs, SqL.of (s _ _ h), by rw [r.length]; exact Nat.le_refl _⟩
  yld := fun i Hc x H' d hd s y => by
    obtain ⟨e, y⟩ := y
    obtain ⟨v, hv, rv⟩ := r.get hd
    have q := y xs (SqL.of (s _ _ h))
    rw [hv] at q; cases q
    exact .inl ⟨e, rv⟩
theorem it_tup (h : F a = some (.tup xs)) (r : RpAll F xs ds) : ItOk F (Itt K a) ds where
  go := fun i Hc hi s => ⟨xs, xs[i]'(by rw [r.length]; exact hi), SqT.of (s _ _ h), by simp⟩
  stop := fun Hc s => ⟨xs, SqT.of (s _ _ h), by rw [r.length]; exact Nat.le_refl _⟩
  yld := fun i Hc x H' d hd s y => by
    obtain ⟨e, y⟩ := y
    obtain ⟨v, hv, rv⟩ := r.get hd
    have q := y xs (SqT.of (s _ _ h))
    rw [hv] at q; cases q
    exact .inl ⟨e, rv⟩
theorem rngL_length (lo : Int) (n : Nat) : (rngL lo n).length = n := by unfold rngL; rw [List.length_map, List.length_range]
theorem rngL_get {lo : Int} {n i : Nat} {d : PyData} (h : (rngL lo n)[i]? = some d) : i < n ∧ d = .int (lo + (i : Nat)) := by
  unfold rngL at h
  rw [List.getElem?_map] at h
  by_cases hi : i < n
  · rw [List.getElem?_range hi] at h
    cases h
    exact ⟨hi, rfl⟩
  · rw [List.getElem?_eq_none (by rw [List.length_range]; omega)] at h; cases h
theorem it_rng (lo : Int) (n : Nat) : ItOk F (Itr lo n) (rngL lo n) where
  go := fun i Hc hi s => by rw [rngL_length] at hi; exact hi
  stop := fun Hc s => by rw [rngL_length]; exact Nat.le_refl _
  yld := fun i Hc x H' d hd s y => by
    obtain ⟨hi, rfl⟩ := rngL_get hd
    obtain ⟨e, rfl⟩ := y
    exact .inl ⟨e, .int _⟩
theorem enumL_get : ∀ {xs : List PyData} {i : Nat} {d : PyData}, (enumL xs)[i]? = some d → ∃ e, xs[i]? = some e ∧ d = .tuple [.int (i : Nat), e] := by
  intro xs i d h
  unfold enumL at h
  rw [List.getElem?_zipWith] at h
  cases q : xs[i]? with
  | none => rw [q] at h; cases h' : (List.range xs.length)[i]? <;> rw [h'] at h <;> cases h
  | some e =>
    have hi := (List.getElem?_eq_some_iff.mp q).1
    rw [q, List.getElem?_range hi] at h
    cases h
    exact ⟨e, rfl, rfl⟩
theorem enumL_length (xs : List PyData) : (enumL xs).length = xs.length := by
  unfold enumL
  rw [List.length_zipWith, List.length_range, Nat.min_self]
theorem it_enum (h : F a = some (.lst xs)) (r : RpAll F xs ds) : ItOk F (Ite K a) (enumL ds) where
  go := fun i Hc hi s => ⟨xs, xs[i]'(by rw [r.length]; rw [enumL_length] at hi; exact hi), SqL.of (s _ _ h), by simp⟩
  stop := fun Hc s => ⟨xs, SqL.of (s _ _ h), by rw [r.length, enumL_length]; exact Nat.le_refl _⟩
  yld := fun i Hc x H' d hd s y => by
    obtain ⟨e, he, rfl⟩ := enumL_get hd
    obtain ⟨U, z, rfl, hU, rfl, y⟩ := y
    obtain ⟨v, hv, rv⟩ := r.get he
    have q := y xs (SqL.of (s _ _ h))
    rw [hv] at q; cases q
    exact .inr ⟨U, _, _, .inl ⟨hU, rfl⟩, rfl, rfl, .cons (.int _) (.cons rv .nil)⟩
theorem it_enumT (h : F a = some (.tup xs)) (r : RpAll F xs ds) : ItOk F (Iet K a) (enumL ds) where
  go := fun i Hc hi s => ⟨xs, xs[i]'(by rw [r.length]; rw [enumL_length] at hi; exact hi), SqT.of (s _ _ h), by simp⟩
  stop := fun Hc s => ⟨xs, SqT.of (s _ _ h), by rw [r.length, enumL_length]; exact Nat.le_refl _⟩
  yld := fun i Hc x H' d hd s y => by
    obtain ⟨e, he, rfl⟩ := enumL_get hd
    obtain ⟨U, z, rfl, hU, rfl, y⟩ := y
    obtain ⟨v, hv, rv⟩ := r.get he
    have q := y xs (SqT.of (s _ _ h))
    rw [hv] at q; cases q
    exact .inr ⟨U, _, _, .inl ⟨hU, rfl⟩, rfl, rfl, .cons (.int _) (.cons rv .nil)⟩
theorem zipL_get {xs ys : List PyData} {i : Nat} {d : PyData} (h : (zipL xs ys)[i]? = some d) : ∃ e f, xs[i]? = some e ∧ ys[i]? = some f ∧ d = .tuple [e, f] := by
  unfold zipL at h
  rw [List.getElem?_zipWith] at h
  cases q : xs[i]? with
  | none => rw [q] at h; cases h
  | some e =>
    cases q2 : ys[i]? with
    | none => rw [q, q2] at h; cases h
    | some f => rw [q, q2] at h; cases h; exact ⟨e, f, rfl, rfl, rfl⟩
theorem zipL_length (xs ys : List PyData) : (zipL xs ys).length = min xs.length ys.length := by
  unfold zipL
  rw [List.length_zipWith]
variable {b : Addr} {ys : List V} {es : List PyData}
theorem it_zip (h : F a = some (.lst xs)) (r : RpAll F xs ds) (h' : F b = some (.lst ys)) (r' : RpAll F ys es) : ItOk F (Itz K a b) (zipL ds es) where
  go := fun i Hc hi s => by
    rw [zipL_length] at hi
    exact ⟨xs, ys, xs[i]'(by rw [r.length]; omega), ys[i]'(by rw [r'.length]; omega), SqL.of (s _ _ h), SqL.of (s _ _ h'), by simp, by simp⟩
  stop := fun Hc s => ⟨xs, ys, SqL.of (s _ _ h), SqL.of (s _ _ h'), by rw [zipL_length, r.length, r'.length]; omega⟩
  yld := fun i Hc x H' d hd s y => by
    obtain ⟨e, f, he, hf, rfl⟩ := zipL_get hd
    obtain ⟨U, z, z', rfl, hU, rfl, y, y'⟩ := y
    obtain ⟨v, hv, rv⟩ := r.get he
    obtain ⟨v', hv', rv'⟩ := r'.get hf
    have q := y xs (SqL.of (s _ _ h))
    rw [hv] at q; cases q
    have q := y' ys (SqL.of (s _ _ h'))
    rw [hv'] at q; cases q
    exact .inr ⟨U, _, _, .inl ⟨hU, rfl⟩, rfl, rfl, .cons rv (.cons rv' .nil)⟩
theorem it_zipT (h : F a = some (.tup xs)) (r : RpAll F xs ds) (h' : F b = some (.tup ys)) (r' : RpAll F ys es) : ItOk F (RZ.ItzT K a b) (zipL ds es) where
  go := fun i Hc hi s => by
    rw [zipL_length] at hi
    exact ⟨xs, ys, xs[i]'(by rw [r.length]; omega), ys[i]'(by rw [r'.length]; omega), SqT.of (s _ _ h), SqT.of (s _ _ h'), by simp, by simp⟩
  stop := fun Hc s => ⟨xs, ys, SqT.of (s _ _ h), SqT.of (s _ _ h'), by rw [zipL_length, r.length, r'.length]; omega⟩
  yld := fun i Hc x H' d hd s y => by
    obtain ⟨e, f, he, hf, rfl⟩ := zipL_get hd
    obtain ⟨U, z, z', rfl, hU, rfl, y, y'⟩ := y
    obtain ⟨v, hv, rv⟩ := r.get he
    obtain ⟨v', hv', rv'⟩ := r'.get hf
    have q := y xs (SqT.of (s _ _ h))
    rw [hv] at q; cases q
    have q := y' ys (SqT.of (s _ _ h'))
    rw [hv'] at q; cases q
    exact .inr ⟨U, _, _, .inl ⟨hU, rfl⟩, rfl, rfl, .cons rv (.cons rv' .nil)⟩
end
def SndI (X : Cx) (dw : Dw) (tg iter : Expr) (f : Rho → Ms → R (List PyData)) : Prop := ∀ (σ : L2.St) (F H : Hp) (ρ : Rho) (m : Ms) (xs : List PyData) (m' : Ms), Er dw σ F H ρ m → f ρ m = some (.ok xs, m') →
  ∀ Rr : L2.It → Hp → Prop, (∀ J F' H', Ext dw F H F' H' → Gr dw F' H' m' → ItOk F' J xs → Rr J H') → WI X tg iter σ H Rr
end G

end
section
namespace G
open PySem PySem.Spec PyProof.Rows L2

def Blk (X : Cx) (scope : Scope) (X' : Cx) : Prop := ∃ (s : Shared) (H : Hp) (C : Addr) (cl : List (Str × Addr)) (fp : List Addr), X' = X.blk s H scope (compEnvC scope cl C X.env) fp
theorem Cok.blk {T : Str → Option Lit} {N : List Str} {cl : Str → List Val → Ms → R Val} {k : Nat} {X X' : Cx} {sc scope : Scope} (c : Cok T N cl k X sc) (b : Blk X scope X') : Cok T N cl k X' (relS scope sc) := by
  obtain ⟨s, H, C, cl', fp, rfl⟩ := b
  refine ⟨?_, c.nn, c.nd, c.calm, c.room, c.gd, c.bn, c.gl, c.call⟩
  rw [← c.sce]; rfl
def WC (X : Cx) (ifs : List Expr) : TT := fun σ H Q => ∀ pins s, Inv X pins σ H s →
  wpAny (model X.prog X.w) X.A (forIn ifs true fun c r => if r = true then do let ok ← isTrue c X.env (eval c X.env); pure (ForInStep.yield ok) else pure (ForInStep.yield r)) (TP X pins σ Q) X.xe s
theorem pts_wc {X : Cx} {ifs : List Expr} : PTs X ifs (WC X ifs) := ⟨fun pins s _ _ _ I h => h pins s I⟩
theorem wc_of {X : Cx} {ifs : List Expr} {t : TT} (h : PTs X ifs t) {σ : L2.St} {H : Hp} {Q : Bool → Hp → Prop} (q : t σ H Q) : WC X ifs σ H Q := fun pins s I => h.run pins s σ H Q I q
def SndC (X : Cx) (dw : Dw) (ifs : List Expr) (f : Rho → Ms → R Bool) : Prop := ∀ (σ : L2.St) (F H : Hp) (ρ : Rho) (m : Ms) (b : Bool) (m' : Ms), Er dw σ F H ρ m → f ρ m = some (.ok b, m') →
  ∀ Q : Bool → Hp → Prop, (∀ F' H', Ext dw F H F' H' → Gr dw F' H' m' → Q b H') → WC X ifs σ H Q
def tgRead (K : PySem.W.Frag) : Tg → TG
  | .one i => gName i
  | .two i j => gTup K 2 (gCons (gName i) (gCons (gName j) gNil))
theorem bindT_two {i j : Nat} {d : PyData} {ρ ρ' : Rho} (h : bindT (.two i j) d ρ = some ρ') : ∃ a b, d = .tuple [a, b] ∧ ρ' = (ρ.set i (some (.fz (.p a)))).set j (some (.fz (.p b))) := by
  cases d with
  | tuple l =>
    match l, h with
    | [a, b], h => cases h; exact ⟨a, b, rfl, rfl⟩
  | _ => cases h
theorem tg_bind {K : PySem.W.Frag} {dw : Dw} {σ : L2.St} {F H : Hp} {ρ ρ' : Rho} {m : Ms} {x : V} {d : PyData} {Q : L2.St → Hp → Prop} {tg : Tg} (hb : bindT tg d ρ = some ρ') (er : Er dw σ F H ρ m) (r : Rp F x d)
    (q : ∀ σ', Er dw σ' F H ρ' m → L2.wipe σ' tg.slots = L2.wipe σ tg.slots → Q σ' H) : tgRead K tg x σ H Q := by
  cases tg with
  | one i =>
    cases hb
    exact q _ (er.setF (v := .p d) r i) (wipe_set _ _ _ i (by simp [Tg.slots]))
  | two i j =>
    obtain ⟨a, b, rfl, rfl⟩ := bindT_two hb
    cases r with
    | tup h1 h2 =>
      cases h2 with
      | cons r1 h2 =>
        cases h2 with
        | cons r2 h2 =>
          cases h2
          refine ⟨_, _, rfl, SqT.of (er.gr.sub _ _ h1), rfl, _, _, rfl, _, _, rfl, rfl, ?_⟩
          refine q _ ((er.setF (v := .p _) r1 i).setF (v := .p _) r2 j) ?_
          rw [wipe_set _ _ _ j (by simp [Tg.slots]), wipe_set _ _ _ i (by simp [Tg.slots])]
section
variable {X X' : Cx} {sc scope : Scope} {N : List Str}
theorem pg_one (hn : X'.N = N) (nd : N.Nodup) (hsc : X'.env.scope = sc) {i : Nat} {e : Expr} (h : chkTg1 N sc true i e = true) (hf : ∀ x, isLoc sc x = true → nameAt N i x = true → X'.fn x = true ∨ X'.env.scope.names.lookup x = some .local) : PG X' e (gName i) := by
  unfold chkTg1 at h
  split at h
  · rename_i x pos
    simp only [Bool.and_eq_true, if_true] at h
    have h1 : X'.N[i]? = some x := by rw [hn]; exact of_decide_eq_true h.1
    exact pg_name (by rw [hn]; exact nd) h1 (by rw [hsc]; exact isLoc_loc h.2) (hf x h.2 h.1)
  · cases h
end
theorem assign_nil2 {a b : Expr} {env : Env} (ha : ∃ x p, a = .Name x p) (hb : ∃ x p, b = .Name x p) : (assignEach [a, b] env).length = 2 ∧ (assignEach [a, b] env).findIdx? (·.1) = none ∧
    (assignEach [a, b] env).map (·.2) = assign a env :: (assignEach [b] env).map (·.2) ∧ (assignEach [b] env).map (·.2) = assign b env :: (assignEach [] env).map (·.2) := by
  obtain ⟨x, p, rfl⟩ := ha
  obtain ⟨y, q, rfl⟩ := hb
  exact ⟨rfl, rfl, rfl, rfl⟩
theorem tg1_name {N : List Str} {sc : Scope} {b : Bool} {i : Nat} {e : Expr} (h : chkTg1 N sc b i e = true) : ∃ x p, e = .Name x p := by
  unfold chkTg1 at h
  split at h
  · exact ⟨_, _, rfl⟩
  · cases h
theorem chkTg_two {N : List Str} {sc : Scope} {i j : Nat} {e : Expr} (h : chkTg N sc (.two i j) e = true) : ∃ a b k p, e = .Tuple [a, b] k p ∧ (chkTg1 N sc true i a = true ∧ chkTg1 N sc true j b = true) ∧ i ≠ j := by
  cases e with
  | Tuple l k p =>
    match l, h with
    | [a, b], h =>
      simp only [chkTg, Bool.and_eq_true, decide_eq_true_eq] at h
      exact ⟨a, b, k, p, rfl, h⟩
  | _ => cases h
theorem pg_tg {X' : Cx} {sc : Scope} {N : List Str} (hc : X'.calm = true) (hn : X'.N = N) (nd : N.Nodup) (hsc : X'.env.scope = sc) {tg : Tg} {e : Expr} (h : chkTg N sc tg e = true)
    (hf : ∀ i ∈ tg.slots, ∀ x, isLoc sc x = true → nameAt N i x = true → X'.fn x = true ∨ X'.env.scope.names.lookup x = some .local) : PG X' e (tgRead X'.K tg) := by
  cases tg with
  | one i =>
    unfold chkTg at h
    exact pg_one hn nd hsc h (hf i (by simp [Tg.slots]))
  | two i j =>
    obtain ⟨a, b, kk, pp, rfl, hh⟩ := chkTg_two h
    · obtain ⟨a1, a2, a3, a4⟩ := assign_nil2 (env := X'.env) (tg1_name hh.1.1) (tg1_name hh.1.2)
      exact pg_tup hc (pgs_cons (pg_one hn nd hsc hh.1.1 (hf i (by simp [Tg.slots]))) (pgs_cons (pg_one hn nd hsc hh.1.2 (hf j (by simp [Tg.slots]))) pgs_nil a4) a3) a1 a2

theorem compGo_cons {f : PyData → Ms → R (Option PyData)} {x : PyData} {xs : List PyData} {m m' : Ms} {ys : List PyData} (h : compGo f (x :: xs) m = some (.ok ys, m')) :
    ∃ y m1 zs, f x m = some (.ok y, m1) ∧ compGo f xs m1 = some (.ok zs, m') ∧ ys = (match y with | some y => y :: zs | none => zs) := by
  obtain ⟨y, m1, h1, h⟩ := bnd_ok h
  obtain ⟨zs, m2, h2, h⟩ := bnd_ok h
  cases h
  exact ⟨y, m1, zs, h1, h2, rfl⟩
def turnF (tg : Tg) (fc : Rho → Ms → R Bool) (fe : Rho → Ms → R PyData) (ρ : Rho) : PyData → Ms → R (Option PyData) := fun x m => match bindT tg x (wipeR ρ tg.slots) with
  | some ρ' => bnd (fc ρ' m) fun t m => if t = true then bnd (fe ρ' m) fun y m => ret (some y) m else ret none m
  | none => none
def compF (fi : Rho → Ms → R (List PyData)) (tg : Tg) (fc : Rho → Ms → R Bool) (fe : Rho → Ms → R PyData) : Rho → Ms → R Val := fun ρ m => bnd (fi ρ m) fun xs m => if xs.length ≤ lim then bnd (compGo (turnF tg fc fe ρ) xs m) fun ys m => ret (.p (.list ys)) m else none

section
variable {T : Str → Option Lit} {N : List Str} {cl : Str → List Val → Ms → R Val} {k : Nat} {dw : Dw} {X : Cx} {sc scope : Scope}
theorem blk_tg (c : Cok T N cl k X sc) {tg : Tg} {t : Expr} (h1 : chkTg N (relS scope sc) tg t = true) (h2 : chkTg N scope tg t = true) {X' : Cx} (b : Blk X scope X') : PG X' t (tgRead X.K tg) := by
  have c' := c.blk b
  have hk : X'.K = X.K := by obtain ⟨s, H, C, cl', fp, rfl⟩ := b; rfl
  rw [← hk]
  refine pg_tg c'.calm c'.nn c'.nd c'.sce h1 fun i hi x hl hna => ?_
  have hl2 : isLoc scope x = true := by
    have one : ∀ {i : Nat} {e : Expr}, chkTg1 N scope true i e = true → nameAt N i x = true → isLoc scope x = true := by
      intro i e h hna
      unfold chkTg1 at h
      split at h
      · rename_i y p
        simp only [Bool.and_eq_true, if_true] at h
        have e1 := of_decide_eq_true h.1
        have e2 := of_decide_eq_true hna
        rw [e1] at e2; cases e2
        exact h.2
      · cases h
    cases tg with
    | one j =>
      have : i = j := by simpa [Tg.slots] using hi
      subst this
      unfold chkTg at h2
      exact one h2 hna
    | two j l =>
      obtain ⟨a, b, kk, pp, rfl, hh⟩ := chkTg_two h2
      rcases (show i = j ∨ i = l by simpa [Tg.slots] using hi) with e | e
      · subst e; exact one hh.1.1 hna
      · subst e; exact one hh.1.2 hna
  obtain ⟨s, H, C, cl', fp, rfl⟩ := b
  unfold isLoc at hl2
  split at hl2
  · rename_i e
    exact .inr (lookup_relS_keep (by decide) e)
  · rename_i e
    refine .inl ?_
    show (scope.names.lookup x == some .cell) = true
    rw [e]; rfl
  · cases hl2
theorem set_iter {X : Cx} {iter : Expr} (h : noSet iter = true) : ∀ x, foldedSetIterable iter X.env x = pure x := by
  intro x
  cases iter <;> first | rfl | cases h
abbrev TTc (X : Cx) (scope : Scope) (ifs : List Expr) : TT := fun σ H Q => ∀ X', Blk X scope X' → WC X' ifs σ H Q
abbrev TEc (X : Cx) (scope : Scope) (elt : Expr) : TE := fun σ H Q => ∀ X', Blk X scope X' → WE X' elt σ H Q
theorem lc_at (c : Cok T N cl k X sc) {elt tgt iter : Expr} {ifs : List Expr} {tg : Tg} {fc : Rho → Ms → R Bool} {fe : Rho → Ms → R PyData}
    (hc : ∀ X', Blk X scope X' → SndC X' dw ifs fc) (he : ∀ X', Blk X scope X' → SndD X' dw elt fe)
    {σ : L2.St} {F H : Hp} {ρ : Rho} {m m1 m' : Ms} {l xs : List PyData} (er : Er dw σ F H ρ m) (hi : ∀ Rr : L2.It → Hp → Prop, (∀ J F' H', Ext dw F H F' H' → Gr dw F' H' m1 → ItOk F' J xs → Rr J H') → WI X tgt iter σ H Rr) (hlim : xs.length ≤ lim) (hgo : compGo (turnF tg fc fe ρ) xs m1 = some (.ok l, m')) {Q : VK}
    (q : ∀ p xs F' H', Ext dw F H F' H' → Gr dw F' H' m' → H p = none → H' p = some (.lst xs) → F' p = none → ¬ isDr dw p → RpAll F' xs l → Q (.ref p) H') :
    tLc (WI X tgt iter) (tgRead X.K tg) (TTc X scope ifs) (TEc X scope elt) ((ownOf N tg.slots).map (·.2)) σ H Q := by
  have hvs : (ownOf N tg.slots).map (·.2) = tg.slots := by
    unfold ownOf
    rw [List.map_map]
    exact (List.map_congr_left (g := fun i => i) fun i _ => rfl).trans (List.map_id _)
  show WI X tgt iter σ H _
  rw [hvs]
  refine hi _ fun J F1 H1 e1 g1 io D hD => ?_
  refine ⟨fun i mm Hc => mm = xs.length - i ∧ i ≤ xs.length ∧ ∃ Fc mc acc zs ws, Gr dw Fc Hc mc ∧ Ext dw F1 H1 Fc Hc ∧ Hc D = some (.lst acc) ∧ Fc D = none ∧ RpAll Fc acc zs ∧ acc.length ≤ i ∧
    compGo (turnF tg fc fe ρ) (xs.drop i) mc = some (.ok ws, m') ∧ zs ++ ws = l, ⟨xs.length, by simp, Nat.zero_le _, ?_⟩, ?_⟩
  · obtain ⟨g2, e2⟩ := g1.laid (o := .lst []) hD
    refine ⟨F1, m1, [], [], l, g2, e2, upd_same, ?_, .nil, Nat.le_refl _, hgo, rfl⟩
    cases z : F1 D with
    | none => rfl
    | some u => rw [g1.sub _ _ z] at hD; cases hD
  · rintro i mm Hc ⟨rfl, hi', Fc, mc, acc, zs, ws, gc, ec, hDc, fDc, rc, hac, hgc, htot⟩
    have ndD : ¬ isDr dw D := g1.dr.free hD
    by_cases hlt : i < xs.length
    · refine .inr ⟨io.go i Hc hlt (ec.fs.trans gc.sub), fun Hn => i + 1 ≤ xs.length ∧ ∃ Fc mc acc zs ws, Gr dw Fc Hn mc ∧ Ext dw F1 H1 Fc Hn ∧ Hn D = some (.lst acc) ∧ Fc D = none ∧ RpAll Fc acc zs ∧ acc.length ≤ i + 1 ∧
        compGo (turnF tg fc fe ρ) (xs.drop (i + 1)) mc = some (.ok ws, m') ∧ zs ++ ws = l, fun Hn hN => ⟨xs.length - (i + 1), by omega, rfl, hN⟩, fun x H' hy => ?_⟩
      have hd : xs[i]? = some xs[i] := by simp [hlt]
      rw [List.drop_eq_getElem_cons hlt] at hgc
      obtain ⟨y, mt, vs, hturn, hrest, hws⟩ := compGo_cons hgc
      obtain ⟨F', e', g', r'⟩ := io.turn hd ec.fs gc hy
      unfold turnF at hturn
      split at hturn
      · rename_i ρ' hb
        obtain ⟨b, mb, hcb, hturn⟩ := bnd_ok hturn
        have er' : Er dw (L2.wipe σ tg.slots) F' H' (wipeR ρ tg.slots) mc := ⟨g', (er.wipe tg.slots).len, fun j s hs => (((((er.ext e1 g1).ext ec (gc)).ext e' g').wipe tg.slots).sl j s hs), (er.wipe tg.slots).ap⟩
        refine tg_bind (K := X.K) hb er' r' fun σ2 er2 hw => ⟨by rw [hw, wipe_idem], fun X' bX => ?_⟩
        refine hc X' bX σ2 F' H' ρ' mc b mb er2 hcb _ fun F2 H2 e2 g2 => ?_
        have hD2 : H2 D = some (.lst acc) := e2.kp _ _ (e'.kp _ _ hDc ndD) ndD
        have fD2 : F2 D = none := (e'.trans e2).stay fDc hDc (fun _ z => by cases z)
        cases b with
        | false =>
          rw [if_neg (by decide)] at hturn
          cases hturn
          refine (if_neg (by decide)).mpr ?_
          exact ⟨hlt, F2, _, acc, zs, vs, g2, ec.trans (e'.trans e2), hD2, fD2, rc.mono (e'.trans e2).fs, Nat.le_succ_of_le hac, hrest, by rw [← htot, hws]⟩
        | true =>
          rw [if_pos rfl] at hturn
          obtain ⟨v, mv, hev, hturn⟩ := bnd_ok hturn
          cases hturn
          refine (if_pos rfl).mpr fun X2 bX2 => ?_
          refine he X2 bX2 σ2 F2 H2 ρ' _ v _ (er2.ext e2 g2) hev _ fun z F3 H3 e3 g3 r3 => ?_
          have hD3 : H3 D = some (.lst acc) := e3.kp _ _ hD2 ndD
          have fD3 : F3 D = none := e3.stay fD2 hD2 (fun _ z => by cases z)
          have eA := ec.trans ((e'.trans e2).trans e3)
          refine ⟨acc, hD3, Nat.lt_of_le_of_lt hac (lim_lt (Nat.lt_of_lt_of_le hlt hlim)), hlt, F3, _, acc ++ [z], zs ++ [v], vs, ?_, ?_, upd_same, fD3, (rc.mono ((e'.trans e2).trans e3).fs).app (.cons r3 .nil), ?_, hrest, ?_⟩
          · refine ⟨fun b u e => ?_, g3.dr.keepD ndD⟩
            rw [upd_ne (fun z => by rw [z, fD3] at e; cases e)]
            exact g3.sub _ _ e
          · refine ⟨eA.fs, fun b u e nd => ?_, eA.nw, fun b e => ?_⟩
            · rw [upd_ne (ne_of_none e hD)]; exact eA.kp _ _ e nd
            · by_cases hb' : b = D
              · subst hb'; exact hD
              · rw [upd_ne hb'] at e; exact eA.al _ e
          · rw [List.length_append]; exact Nat.succ_le_succ hac
          · rw [← htot, hws, List.append_assoc]; rfl
      · cases hturn
    · have hil : i = xs.length := by omega
      subst hil
      rw [List.drop_length] at hgc
      cases hgc
      refine .inl ⟨io.stop Hc (ec.fs.trans gc.sub), ?_⟩
      refine q D acc Fc Hc (e1.trans ec) gc (e1.al D hD) hDc fDc ndD ?_
      rw [← htot, List.append_nil]; exact rc
theorem lc_read (c : Cok T N cl k X sc) {elt tgt iter : Expr} {ifs : List Expr} {tg : Tg} {fi : Rho → Ms → R (List PyData)} {fc : Rho → Ms → R Bool} {fe : Rho → Ms → R PyData}
    (hi : SndI X dw tgt iter fi) (hc : ∀ X', Blk X scope X' → SndC X' dw ifs fc) (he : ∀ X', Blk X scope X' → SndD X' dw elt fe)
    {σ : L2.St} {F H : Hp} {ρ : Rho} {m m' : Ms} {l : List PyData} (er : Er dw σ F H ρ m) (hf : compF fi tg fc fe ρ m = some (.ok (.p (.list l)), m')) {Q : VK}
    (q : ∀ p xs F' H', Ext dw F H F' H' → Gr dw F' H' m' → H p = none → H' p = some (.lst xs) → F' p = none → ¬ isDr dw p → RpAll F' xs l → Q (.ref p) H') :
    tLc (WI X tgt iter) (tgRead X.K tg) (TTc X scope ifs) (TEc X scope elt) ((ownOf N tg.slots).map (·.2)) σ H Q := by
  obtain ⟨xs, m1, hxs, hf⟩ := bnd_ok hf
  split at hf
  · rename_i hlim
    obtain ⟨ys, m2, hgo, hf⟩ := bnd_ok hf
    cases hf
    exact lc_at c hc he er (fun Rr q => hi σ F H ρ m xs m1 er hxs Rr q) hlim hgo q
  · cases hf
theorem sndO_comp (c : Cok T N cl k X sc) {elt tgt iter : Expr} {ifs : List Expr} {pos : Pos} {tg : Tg} {fi : Rho → Ms → R (List PyData)} {fc : Rho → Ms → R Bool} {fe : Rho → Ms → R PyData}
    (hi : SndI X dw tgt iter fi) (hset : noSet iter = true) (hblk : blkC N sc scope (ownOf N tg.slots) = true) (h1 : chkTg N (relS scope sc) tg tgt = true) (h2 : chkTg N scope tg tgt = true)
    (hc : ∀ X', Blk X scope X' → SndC X' dw ifs fc) (he : ∀ X', Blk X scope X' → SndD X' dw elt fe) : SndO X dw (.ListComp elt [⟨tgt, iter, ifs, 0⟩] scope pos) (compF fi tg fc fe) := by
  intro σ F H ρ m l m' er hf Q q
  have bk : BlkOk X.N X.env.scope scope (ownOf N tg.slots) := by rw [c.nn, c.sce]; exact blkOk_by hblk
  refine we_of (pe_lc c.calm (by rw [c.nn]; exact c.nd) pi_wi bk (fun s H C cl fp => blk_tg c h1 h2 ⟨s, H, C, cl, fp, rfl⟩)
      (tt := TTc X scope ifs) (fun s H C cl fp => ⟨fun pins s' σ H' Q I h => (h _ ⟨s, H, C, cl, fp, rfl⟩) pins s' I⟩)
      (te := TEc X scope elt) (fun s H C cl fp => ⟨fun pins s' σ H' Q I h => (h _ ⟨s, H, C, cl, fp, rfl⟩) pins s' I⟩) (set_iter hset)) ?_
  exact lc_read c hi hc he er hf q
theorem ws_comp (c : Cok T N cl k X sc) {elt tgt iter : Expr} {ifs : List Expr} {pos spos py : Pos} {tg : Tg} {fi : Rho → Ms → R (List PyData)} {fc : Rho → Ms → R Bool} {fe : Rho → Ms → R PyData} {i : Nat} {y : Str}
    (hi : SndI X dw tgt iter fi) (hset : noSet iter = true) (hblk : blkC N sc scope (ownOf N tg.slots) = true) (h1 : chkTg N (relS scope sc) tg tgt = true) (h2 : chkTg N scope tg tgt = true)
    (hc : ∀ X', Blk X scope X' → SndC X' dw ifs fc) (he : ∀ X', Blk X scope X' → SndD X' dw elt fe)
    (hn : nameAt N i y = true) (hyl : X.env.scope.names.lookup y = some .local) (hsw : swapsWith (.ListComp elt [⟨tgt, iter, ifs, 0⟩] scope pos) (some (.Name y py)) spos.line X.env = pure true)
    {σ : L2.St} {F H : Hp} {ρ : Rho} {m m' : Ms} {l : List PyData} (er : Er dw σ F H ρ m) (hf : compF fi tg fc fe ρ m = some (.ok (.p (.list l)), m')) {D : Ends}
    (q : ∀ p xs F' H', Ext dw F H F' H' → Gr dw F' H' m' → H p = none → H' p = some (.lst xs) → F' p = none → ¬ isDr dw p → RpAll F' xs l → D.nx (σ.set i (some (.ref p))) H') :
    WS X (.Assign [.Name y py] (.ListComp elt [⟨tgt, iter, ifs, 0⟩] scope pos) spos) D σ H := by
  have bk : BlkOk X.N X.env.scope scope (ownOf N tg.slots) := by rw [c.nn, c.sce]; exact blkOk_by hblk
  refine ws_of (ps_setLc c.calm (by rw [c.nn]; exact c.nd) (by rw [c.nn]; exact of_decide_eq_true hn) hyl hsw pi_wi bk (fun s H C cl fp => blk_tg c h1 h2 ⟨s, H, C, cl, fp, rfl⟩)
      (tt := TTc X scope ifs) (fun s H C cl fp => ⟨fun pins s' σ H' Q I h => (h _ ⟨s, H, C, cl, fp, rfl⟩) pins s' I⟩)
      (te := TEc X scope elt) (fun s H C cl fp => ⟨fun pins s' σ H' Q I h => (h _ ⟨s, H, C, cl, fp, rfl⟩) pins s' I⟩) (set_iter hset)) ?_
  exact lc_read (Q := fun x H1 => gName i x σ H1 D.nx) c hi hc he er hf q
end
end G

end
section
namespace G
open PySem PySem.Spec PyProof.Rows L2
section
variable {T : Str → Option Lit} {N : List Str} {cl : Str → List Val → Ms → R Val} {k : Nat} {dw : Dw} {X : Cx} {sc : Scope}

theorem chkG_name {x : Str} {e : Expr} (h : chkG sc x e = true) : ∃ p, e = .Name x p ∧ isGl sc x = true ∧ plainN x = true := by
  unfold chkG at h
  split at h
  · rename_i y p
    simp only [Bool.and_eq_true, decide_eq_true_eq] at h
    exact ⟨p, by rw [h.1.1], h.1.2, h.2⟩
  · cases h
theorem run_call (c : Cok T N cl k X sc) {vs : List Val} {m m' : Ms} {v : Val} {fa : Addr} {fd : FuncData} {ps : List Str} (hb : Binds X.K fd ps []) (hl : ps.length = vs.length)
    (hrun : ∀ (dw : Dw) (A : Around) (outer : List Env) (s : Shared) (F H : Hp) (args : Args) (us : List Value) (xs : List V), Room k A → A.guards = some [] → Env0 X.prog X.w X.K X.mg X.base A outer s H → BindsTo s fd args (ps.zip us) → Vals xs us →
      Gr dw F H m → VRs dw F xs vs → codeAny (model X.prog X.w) A (.call (.ref fa) args) (fun r s' => ∃ u, r = .ok (.ret u) ∧ CE outer X.prog X.w H s (fun x H' => ∃ F', Ext dw F H F' H' ∧ Gr dw F' H' m' ∧ VR dw F' x v) u s') s)
    {pins : List (Addr × Obj)} {σ : L2.St} {Q : VK} {us : List Value} {s1 : Shared} {xs : List V} {F1 H1 : Hp} (I1 : Inv X pins σ H1 s1) (r : Vals xs us) (g1 : Gr dw F1 H1 m) (rv : VRs dw F1 xs vs)
    (q : ∀ y F' H', Ext dw F1 H1 F' H' → Gr dw F' H' m' → VR dw F' y v → Q y H') : wpAny (model X.prog X.w) X.A (call (.ref fa) us) (EP X pins σ Q) X.xe s1 := by
  have hl2 : (us ++ []).length = ps.length := by rw [List.append_nil, ← r.length, rv.length]; exact hl.symm
  have hbt := hb s1 us I1.kIn hl2
  rw [List.append_nil] at hbt
  refine wpAny_call (codeAny_mono (hrun dw X.A X.stack s1 F1 H1 ⟨us, []⟩ us xs c.room c.gd I1.env0 hbt r g1 rv) fun rr s' hq => ?_)
  obtain ⟨u, rfl, hce⟩ := hq
  obtain ⟨y, H', I2, ry, F', e', g', ry'⟩ := I1.after hce
  exact ⟨y, H', I2, ry, q y F' H' e' g' ry'⟩
theorem we_call (c : Cok T N cl k X sc) {f : Str} {vs : List Val} {m m' : Ms} {v : Val} (hcl : cl f vs m = some (.ok v, m')) {p pos : Pos} {e : Expr} {es : List Expr} (hgl : isGl sc f = true) (hpl : plainN f = true) (hst : (e :: es).all noStar = true) {σ : L2.St} {H : Hp} {Q : VK}
    (h : WA X (e :: es) σ H fun xs H1 => ∃ F1, Gr dw F1 H1 m ∧ VRs dw F1 xs vs ∧ ∀ y F' H', Ext dw F1 H1 F' H' → Gr dw F' H' m' → VR dw F' y v → Q y H') : WE X (.Call (.Name f p) (e :: es) [] pos) σ H Q := by
  intro pins s I
  obtain ⟨fa, fd, ps, hm, hk, hb, hl, hrun⟩ := c.call f vs m v m' hcl
  refine wpAny_Call_Name_kw (ld_glob I (isGl_gl c.sce hgl) hm ?_ (plain3 hpl).1)
  simp only [List.all_cons, Bool.and_eq_true] at hst
  refine PySem.W.callWith_K (h₀ := X.base) I.ok.mod.kin hk (thn (h pos pins s I) fun us s1 ⟨xs, H1, I1, r, F1, g1, rv, q⟩ => ⟨I1.kIn, ?_⟩) (star_cons hst.1) (star_all hst.2)
  exact run_call c hb hl hrun I1 r g1 rv q
theorem we_call0 (c : Cok T N cl k X sc) {f : Str} {m m' : Ms} {v : Val} (hcl : cl f [] m = some (.ok v, m')) {p pos : Pos} (hgl : isGl sc f = true) (hpl : plainN f = true) {σ : L2.St} {F H : Hp} {Q : VK} (g : Gr dw F H m)
    (q : ∀ y F' H', Ext dw F H F' H' → Gr dw F' H' m' → VR dw F' y v → Q y H') : WE X (.Call (.Name f p) [] [] pos) σ H Q := by
  intro pins s I
  obtain ⟨fa, fd, ps, hm, hk, hb, hl, hrun⟩ := c.call f [] m v m' hcl
  refine wpAny_Call_Name_kw (ld_glob I (isGl_gl c.sce hgl) hm ?_ (plain3 hpl).1)
  exact PySem.W.callWith_K0 I.kIn hk (run_call (us := []) (xs := []) c hb hl hrun I .nil g .nil q)

theorem ty_boot : ∀ t ∈ tyNames, bootBuiltins (Str.ofString t) = some (.type t) := by
  intro t h
  simp only [tyNames, List.mem_cons, List.not_mem_nil, or_false] at h
  rcases h with rfl | rfl | rfl | rfl | rfl | rfl <;> decide +kernel
theorem ty_all : ∀ a ∈ ["NoneType", "bool", "int", "str", "list", "tuple", "dict"], ∀ b ∈ tyNames, kitB a b = some (isTy a b) := by decide +kernel
theorem ty_kit (t : String) (h : t ∈ tyNames) (d : PyData) : PySem.W.kitOne X.K (.type (tyD d)) (.type t) = some (isTy (tyD d) t) := by
  refine kit_ty (ty_all _ ?_ t h)
  cases d <;> simp [tyD]
theorem ty_kitAny {d : PyData} : ∀ ts : List String, (∀ t ∈ ts, t ∈ tyNames) → PySem.W.kitAny X.K (.type (tyD d)) (ts.map Value.type) = some (ts.any fun t => isTy (tyD d) t)
  | [], _ => rfl
  | t :: ts, h => by
    have h1 := ty_kit (X := X) t (h t List.mem_cons_self) d
    have h2 := ty_kitAny (d := d) ts fun u hu => h u (List.mem_cons_of_mem _ hu)
    rw [List.map_cons, List.any_cons]
    cases e : isTy (tyD d) t with
    | true => exact kitAny_cons (h1.trans (by rw [e])) (fun z => by cases z) fun _ => by simp
    | false => exact kitAny_cons (h1.trans (by rw [e])) (fun _ => by simpa using h2) fun z => by cases z
theorem rp_tyx {K : PySem.W.Frag} {F H : Hp} (s : Sub F H) {x : V} {d : PyData} (h : Rp F x d) : TyX K H x (.type (tyD d)) := by
  cases h with
  | non => exact .base .non
  | bl b => exact .base (.bl b)
  | int i => exact .base (.int i)
  | str y => exact .base (.str y)
  | lst h1 _ => exact .base (.lst (s _ _ h1))
  | tup h1 _ => exact .base (.tup (s _ _ h1))
  | dct h1 _ _ => exact .base (.dK (s _ _ h1))
theorem in_bn (c : Cok T N cl k X sc) {x : Str} (h : x ∈ bnames) : X.mg x = none := c.bn x h
theorem pe_tyn (c : Cok T N cl k X sc) {t : String} (ht : t ∈ tyNames) {pos : Pos} (hg : isGl sc (Str.ofString t) = true) (hp : plainN (Str.ofString t) = true) : PE X (.Name (Str.ofString t) pos) (tC (.ty t)) := by
  obtain ⟨h1, _, h3⟩ := plain3 hp
  refine pe_bltn (isGl_gl c.sce hg) (c.bn _ ?_) (ty_boot t ht) rfl h3 h1
  simp only [tyNames, List.mem_cons, List.not_mem_nil, or_false] at ht
  rcases ht with rfl | rfl | rfl | rfl | rfl | rfl <;> decide
theorem pa_tys (c : Cok T N cl k X sc) : ∀ (ts : List String) (es : List Expr), ts.length = es.length → (∀ t ∈ ts, t ∈ tyNames) →
    ((ts.zip es).all fun p => match p.2 with
    | .Name x _ => decide (x = Str.ofString p.1) && isGl sc x && plainN x
    | _ => false) = true → ∃ t, PA X es t ∧ ∀ σ H Q, Q (ts.map V.ty) H → t σ H Q
  | [], [], _, _, _ => ⟨_, pa_nil, fun _ _ _ q => q⟩
  | t :: ts, e :: es, hl, ht, h => by
    simp only [List.zip_cons_cons, List.all_cons, Bool.and_eq_true] at h
    obtain ⟨tt, h1, h2⟩ := pa_tys c ts es (by simpa using hl) (fun u hu => ht u (List.mem_cons_of_mem _ hu)) h.2
    have h0 := h.1
    split at h0
    · rename_i x p
      simp only [Bool.and_eq_true, decide_eq_true_eq] at h0
      obtain ⟨⟨e3, hg⟩, hp⟩ := h0
      subst e3
      exact ⟨_, pa_cons (pe_tyn c (ht t List.mem_cons_self) hg hp) h1 rfl, fun σ H Q q => h2 σ H _ q⟩
    · cases h0
theorem clsv_all : ∀ ts : List String, Paired ClsV (ts.map V.ty) (ts.map Value.type)
  | [] => .nil
  | t :: ts => .cons (.ty t) (clsv_all ts)
theorem le_ty (ts : List String) (h : ts.length ≤ 8) : ts.length ≤ sizeLine := Nat.le_trans h (by decide)
theorem we_isi (c : Cok T N cl k X sc) {a y : Expr} {p pos : Pos} {fa : Rho → Ms → R PyData} (ha : SndD X dw a fa) {ts : List String} (hts : ts.length ≤ 8) (ht : ∀ t ∈ ts, t ∈ tyNames) (hty : tysC sc ts y = true) (hg : isGl sc "isinstance" = true) (sa : noStar a = true) (sy : noStar y = true) :
    Snd X dw (.Call (.Name "isinstance" p) [a, y] [] pos) (fun ρ m => bnd (fa ρ m) fun x m => ret (.p (.bool (ts.any fun t => isTy (tyD x) t))) m) := by
  intro σ F H ρ m v m' er hf Q q
  obtain ⟨d, m1, h1, hf⟩ := bnd_ok hf
  cases hf
  have hm := c.bn "isinstance" (by decide)
  have gl := isGl_gl c.sce hg
  have s1 := star_cons (es := [y]) (env := X.env) sa
  have tup : ∀ es k2 p2, y = .Tuple es k2 p2 → ts.length = es.length ∧ ((ts.zip es).all fun p => match p.2 with
    | .Name x _ => decide (x = Str.ofString p.1) && isGl sc x && plainN x
    | _ => false) = true → WE X (.Call (.Name "isinstance" p) [a, y] [] pos) σ H Q := by
    intro es k2 p2 e h
    subst e
    obtain ⟨tt, h2, h3⟩ := pa_tys c ts es h.1 ht h.2
    refine we_of (pe_callB call_isiT gl hm boot_isinstance (pa_cons pe_we (pa_cons (pe_tup h2) pa_nil rfl) s1) (by decide) (by decide) s1 (star_one rfl)) ?_
    refine ha σ F H ρ m d _ er h1 _ fun x F1 H1 e1 g1 r1 => h3 _ _ _ ?_
    refine ⟨by rw [List.length_map]; exact le_ty ts hts, fun tp htp => ?_⟩
    obtain ⟨g2, e2⟩ := g1.laid (o := .tup (ts.map V.ty)) htp
    exact ⟨x, tp, _, _, _, _, rfl, upd_same, clsv_all ts, rp_tyx g2.sub r1, ty_kitAny ts ht, q _ _ _ (e1.trans e2) g2 (.bl _)⟩
  unfold tysC at hty
  split at hty
  · rename_i t x pos'
    simp only [Bool.and_eq_true, decide_eq_true_eq] at hty
    obtain ⟨⟨e3, hg2⟩, hp⟩ := hty
    subst e3
    refine we_of (pe_callB call_isi gl hm boot_isinstance (pa_cons pe_we (pa_cons (pe_tyn c (ht t List.mem_cons_self) hg2 hp) pa_nil rfl) s1) (by decide) (by decide) s1 (star_one rfl)) ?_
    refine ha σ F H ρ m d _ er h1 _ fun x F1 H1 e1 g1 r1 => ?_
    refine ⟨x, .ty t, _, _, _, rfl, .ty t, rp_tyx g1.sub r1, ty_kit t (ht t List.mem_cons_self) d, ?_⟩
    have e4 : isTy (tyD d) t = [t].any fun t => isTy (tyD d) t := by simp
    rw [e4]
    exact q _ _ _ e1 g1 (.bl _)
  · simp only [Bool.and_eq_true, decide_eq_true_eq] at hty
    exact tup _ _ _ rfl hty
  · cases hty
end
end G

end
section
namespace G
open PySem PySem.Spec PyProof.Rows L2
theorem decI_map : ∀ ds : List (Int × PyData), decI (ds.map fun kv => (PyData.int kv.1, kv.2)) = some ds
  | [] => rfl
  | (i, d) :: ds => by rw [List.map_cons, decI, decI_map ds]; rfl
section
variable {κ κ' : Type} [DecidableEq κ] [DecidableEq κ'] {F : Hp}
theorem getA_cons (i : κ) (d : PyData) (ds : List (κ × PyData)) (k : κ) : getA ((i, d) :: ds) k = if i = k then some d else getA ds k := by
  unfold getA
  rw [List.find?_cons]
  by_cases e : i = k <;> simp [e]
theorem getA_rel (f : κ → κ') (hf : ∀ a b, f a = f b → a = b) : ∀ {js : List (κ × V)} {ds : List (κ × PyData)}, js.map (·.1) = ds.map (·.1) → RpAll F (js.map (·.2)) (ds.map (·.2)) → ∀ k : κ,
    (∃ d v, getA ds k = some d ∧ valV (js.map fun kv => (f kv.1, kv.2)) (f k) = some v ∧ Rp F v d) ∨ (getA ds k = none ∧ valV (js.map fun kv => (f kv.1, kv.2)) (f k) = none)
  | [], [], _, _, k => .inr ⟨rfl, rfl⟩
  | (i, v) :: js, (j, d) :: ds, e, r, k => by
    rw [List.map_cons, List.map_cons, List.cons.injEq] at e
    obtain ⟨rfl, e⟩ := e
    cases r with
    | cons r1 r2 =>
      rw [getA_cons, List.map_cons]
      by_cases q : i = k
      · subst q
        exact .inl ⟨d, v, if_pos rfl, valV_pos rfl, r1⟩
      · rw [if_neg q, valV_neg (fun z => q (hf _ _ z))]
        exact getA_rel f hf e r2 k
  | [], _ :: _, e, _, _ => by cases e
  | _ :: _, [], e, _, _ => by cases e
theorem any_rel (f : κ → κ') (hf : ∀ a b, f a = f b → a = b) : ∀ {js : List (κ × V)} {ds : List (κ × PyData)}, js.map (·.1) = ds.map (·.1) → ∀ k : κ,
    ((js.map fun kv => (f kv.1, kv.2)).any fun kv => decide (kv.1 = f k)) = ds.any fun kv => decide (kv.1 = k)
  | [], [], _, k => rfl
  | (i, v) :: js, (j, d) :: ds, e, k => by
    rw [List.map_cons, List.map_cons, List.cons.injEq] at e
    obtain ⟨rfl, e⟩ := e
    rw [List.map_cons, List.any_cons, List.any_cons, any_rel f hf e k]
    congr 1
    exact decide_eq_decide.mpr ⟨fun z => hf _ _ z, fun z => by rw [z]⟩
  | [], _ :: _, e, _ => by cases e
  | _ :: _, [], e, _ => by cases e
theorem putA_rel (f : κ → κ') (hf : ∀ a b, f a = f b → a = b) {js : List (κ × V)} {ds : List (κ × PyData)} (e : js.map (·.1) = ds.map (·.1)) (r : RpAll F (js.map (·.2)) (ds.map (·.2))) (k : κ) {v : V} {d : PyData} (rv : Rp F v d) :
    ∃ ks : List (κ × V), putK (js.map fun kv => (f kv.1, kv.2)) (f k) v = ks.map (fun kv => (f kv.1, kv.2)) ∧ ks.map (·.1) = (putA ds k d).map (·.1) ∧ RpAll F (ks.map (·.2)) ((putA ds k d).map (·.2)) := by
  have h := any_rel f hf e k
  unfold putK putA
  rw [h]
  by_cases q : (ds.any fun kv => decide (kv.1 = k)) = true
  · rw [if_pos q, if_pos q]
    refine ⟨js.map fun kv => if kv.1 = k then (kv.1, v) else kv, ?_, ?_, ?_⟩
    · rw [List.map_map, List.map_map]
      refine List.map_congr_left fun kv _ => ?_
      by_cases z : kv.1 = k
      · simp [z]
      · have : ¬ f kv.1 = f k := fun y => z (hf _ _ y)
        simp [z, this]
    · have a1 : (js.map fun kv => if kv.1 = k then (kv.1, v) else kv).map (·.1) = js.map (·.1) := by
        rw [List.map_map]
        refine List.map_congr_left fun kv _ => ?_
        by_cases z : kv.1 = k <;> simp [z]
      have a2 : (ds.map fun kv => if kv.1 = k then (kv.1, d) else kv).map (·.1) = ds.map (·.1) := by
        rw [List.map_map]
        refine List.map_congr_left fun kv _ => ?_
        by_cases z : kv.1 = k <;> simp [z]
      rw [a1, a2, e]
    · clear h q
      induction js generalizing ds with
      | nil =>
        cases ds with
        | nil => exact .nil
        | cons y ds => cases e
      | cons x js ih =>
        cases ds with
        | nil => cases e
        | cons y ds =>
          obtain ⟨i, u⟩ := x
          obtain ⟨j, c⟩ := y
          rw [List.map_cons, List.map_cons, List.cons.injEq] at e
          obtain ⟨e1, e⟩ := e
          have e1 : i = j := e1
          subst e1
          cases r with
          | cons r1 r2 =>
            by_cases z : i = k
            · simp only [List.map_cons, z, if_true]
              exact .cons rv (ih e r2)
            · simp only [List.map_cons, z, if_false]
              exact .cons r1 (ih e r2)
  · rw [if_neg q, if_neg q]
    refine ⟨js ++ [(k, v)], by simp, by simp [e], ?_⟩
    rw [List.map_append, List.map_append]
    exact r.app (.cons rv .nil)
end
theorem inl_inj (a b : Int) (h : (Sum.inl a : Key) = .inl b) : a = b := by cases h; rfl
theorem inls_inj (a b : List Int) (h : (a.map Sum.inl : List Key) = b.map .inl) : a = b := by
  induction a generalizing b with
  | nil => cases b with
    | nil => rfl
    | cons y b => cases h
  | cons x a ih => cases b with
    | nil => cases h
    | cons y b =>
      rw [List.map_cons, List.map_cons, List.cons.injEq] at h
      rw [inl_inj _ _ h.1, ih b h.2]
theorem tup_key {F : Hp} {y : V} {l : List PyData} {is : List Int} (r : Rp F y (.tuple l)) (h : intsL l = some is) : ∃ b, y = .ref b ∧ F b = some (.tup ((is.map Sum.inl : List Key).map kV)) := by
  cases r with
  | tup h1 h2 =>
    have e := h2.ints h
    subst e
    exact ⟨_, rfl, by rw [h1, List.map_map]; rfl⟩
theorem no_sl {b : Expr} (hs : noSlice b = true) : NoSl b := by
  intro o i
  cases b <;> first | rfl | cases hs
end G

end
section
namespace G
open PySem PySem.Spec PyProof.Rows L2
section
variable {T : Str → Option Lit} {N : List Str} {cl : Str → List Val → Ms → R Val} {k : Nat} {dw : Dw} {X : Cx} {sc : Scope}
variable {a b e y z : Expr} {pos : Pos} {fa fb fe : Rho → Ms → R PyData}

theorem snd_cmp (c : Cok T N cl k X sc) (ha : SndD X dw a fa) (hb : SndD X dw b fb) {op : CmpOp} (hs : noSet b = true) : Snd X dw (.Compare a [op] [b] pos) (fun ρ m => bnd (fa ρ m) fun x m => bnd (fb ρ m) fun y m => opt ((cmpD op x y).map fun b => .p (.bool b)) m) := by
  intro σ F H ρ m v m' er hf Q q
  obtain ⟨x, m1, h1, hf⟩ := bnd_ok hf
  obtain ⟨y, m2, h2, hf⟩ := bnd_ok hf
  obtain ⟨h3, rfl⟩ := opt_ok hf
  cases hc : cmpD op x y with
  | none => rw [hc] at h3; cases h3
  | some r =>
    rw [hc] at h3; cases h3
    obtain ⟨rr, ho, hr⟩ := cmp_rule c.room hc
    have hm : behindInMarks op b = false := by cases b <;> first | rfl | cases hs
    exact we_of (pe_cmpR ho pe_we pe_we hm) (two ha hb er h1 h2 fun x y F2 H2 e g r1 r2 => hr x y F2 H2 Q g.sub r1 r2 (q _ _ _ e g (.bl _)))
theorem sndT_cmp (c : Cok T N cl k X sc) (ha : SndD X dw a fa) (hb : SndD X dw b fb) {op : CmpOp} (hs : noSet b = true) : SndT X dw (.Compare a [op] [b] pos) (fun ρ m => bnd (fa ρ m) fun x m => bnd (fb ρ m) fun y m => opt (cmpD op x y) m) := by
  intro σ F H ρ m v m' er hf Q q
  obtain ⟨x, m1, h1, hf⟩ := bnd_ok hf
  obtain ⟨y, m2, h2, hf⟩ := bnd_ok hf
  obtain ⟨h3, rfl⟩ := opt_ok hf
  obtain ⟨rr, ho, hr⟩ := cmp_rule c.room h3
  have hm : behindInMarks op b = false := by cases b <;> first | rfl | cases hs
  exact wt_of (pt_cmpR ho pe_we pe_we hm) (two ha hb er h1 h2 fun x y F2 H2 e g r1 r2 => hr x y F2 H2 _ g.sub r1 r2 ⟨v, rfl, q _ _ e g⟩)
theorem snd_chain (c : Cok T N cl k X sc) (ha : SndD X dw a fa) (hb : SndD X dw b fb) (he : SndD X dw e fe) {o p : CmpOp} (hs : noSet b = true) (hs2 : noSet e = true) : Snd X dw (.Compare a [o, p] [b, e] pos)
    (fun ρ m => bnd (fa ρ m) fun x m => bnd (fb ρ m) fun y m => match cmpD o x y with
      | some true => bnd (fe ρ m) fun z m => opt ((cmpD p y z).map fun b => .p (.bool b)) m
      | some false => ret (.p (.bool false)) m
      | none => none) := by
  intro σ F H ρ m v m' er hf Q q
  obtain ⟨x, m1, h1, hf⟩ := bnd_ok hf
  obtain ⟨y, m2, h2, hf⟩ := bnd_ok hf
  have hm : behindInMarks o b = false := by cases b <;> first | rfl | cases hs
  have hm2 : behindInMarks p e = false := by cases e <;> first | rfl | cases hs2
  split at hf
  · rename_i hc
    obtain ⟨z, m3, h3, hf⟩ := bnd_ok hf
    obtain ⟨h4, rfl⟩ := opt_ok hf
    cases hc2 : cmpD p y z with
    | none => rw [hc2] at h4; cases h4
    | some r =>
      rw [hc2] at h4; cases h4
      obtain ⟨rr, ho, hr⟩ := cmp_rule c.room hc
      obtain ⟨rr2, ho2, hr2⟩ := cmp_rule c.room hc2
      refine we_of (pe_chain ho ho2 pe_we pe_we (pe_we (e := e)) hm2) (two ha hb er h1 h2 fun x y F2 H2 e g r1 r2 => hr x y F2 H2 _ g.sub r1 r2 ⟨true, rfl, (if_pos rfl).mpr ?_⟩)
      refine he σ F2 H2 ρ m2 z _ (er.ext e g) h3 _ fun u F3 H3 e3 g3 r3 => ?_
      exact hr2 y u F3 H3 Q g3.sub (r2.mono e3.fs) r3 (q _ _ _ (e.trans e3) g3 (.bl _))
  · rename_i hc
    cases hf
    obtain ⟨rr, ho, hr⟩ := cmp_rule c.room hc
    refine we_of (pe_chain ho (r' := fun _ _ _ _ => False) (op' := p) (fun _ _ _ _ _ _ _ _ _ _ _ _ h => h.elim) pe_we pe_we (pe_we (e := e)) hm2) (two ha hb er h1 h2 fun x y F2 H2 e g r1 r2 => hr x y F2 H2 _ g.sub r1 r2 ⟨false, rfl, (if_neg (by decide)).mpr (q _ _ _ e g (.bl _))⟩)
  · cases hf

theorem snd_neg (ha : SndD X dw a fa) : Snd X dw (.UnaryOp .USub a pos) (fun ρ m => bnd (fa ρ m) fun x m => opt ((intOf x).map fun i => .p (.int (-i))) m) := by
  intro σ F H ρ m v m' er hf Q q
  obtain ⟨x, m1, h1, hf⟩ := bnd_ok hf
  obtain ⟨h3, rfl⟩ := opt_ok hf
  cases x <;> simp only [intOf] at h3 <;> cases h3
  exact we_of (pe_un un_neg pe_we) (ha σ F H ρ m _ _ er h1 _ fun x F1 H1 e1 g1 r1 => by cases r1; exact ⟨_, rfl, q _ _ _ e1 g1 (.int _)⟩)
theorem snd_not (ha : SndD X dw a fa) : Snd X dw (.UnaryOp .Not a pos) (fun ρ m => bnd (fa ρ m) fun x m => opt ((boolOf x).map fun b => .p (.bool (!b))) m) := by
  intro σ F H ρ m v m' er hf Q q
  obtain ⟨x, m1, h1, hf⟩ := bnd_ok hf
  obtain ⟨h3, rfl⟩ := opt_ok hf
  cases x <;> simp only [boolOf] at h3 <;> cases h3
  exact we_of (pe_not pe_we) (ha σ F H ρ m _ _ er h1 _ fun x F1 H1 e1 g1 r1 => by cases r1; exact ⟨_, rfl, q _ _ _ e1 g1 (.bl _)⟩)
theorem sndT_not {ta : Rho → Ms → R Bool} (ha : SndT X dw a ta) : SndT X dw (.UnaryOp .Not a pos) (fun ρ m => bnd (ta ρ m) fun x m => ret (!x) m) := by
  intro σ F H ρ m v m' er hf Q q
  obtain ⟨x, m1, h1, hf⟩ := bnd_ok hf
  cases hf
  exact wt_of (pt_not pt_wt) (ha σ F H ρ m _ _ er h1 _ fun F1 H1 e1 g1 => q _ _ e1 g1)
theorem snd_ite {tc : Rho → Ms → R Bool} {fx fy : Rho → Ms → R Val} (hc : SndT X dw e tc) (ha : Snd X dw a fx) (hb : Snd X dw b fy) : Snd X dw (.IfExp e a b pos) (fun ρ m => bnd (tc ρ m) fun t m => if t = true then fx ρ m else fy ρ m) := by
  intro σ F H ρ m v m' er hf Q q
  obtain ⟨t, m1, h1, hf⟩ := bnd_ok hf
  refine we_of (pe_ifExp pt_wt pe_we pe_we) (hc σ F H ρ m t m1 er h1 _ fun F1 H1 e1 g1 => ?_)
  cases t with
  | true => exact (if_pos rfl).mpr (ha σ F1 H1 ρ m1 v m' (er.ext e1 g1) hf Q fun x F2 H2 e2 g2 r2 => q x F2 H2 (e1.trans e2) g2 r2)
  | false => exact (if_neg (by decide)).mpr (hb σ F1 H1 ρ m1 v m' (er.ext e1 g1) hf Q fun x F2 H2 e2 g2 r2 => q x F2 H2 (e1.trans e2) g2 r2)
theorem snd_idx (c : Cok T N cl k X sc) {la : Rho → Ms → R PyData} (ha : SndL X dw a la) (hb : SndD X dw b fb) (hs : noSlice b = true) : Snd X dw (.Subscript a b pos) (fun ρ m => bnd (la ρ m) fun x m => bnd (fb ρ m) fun y m => opt ((idxD x y).map .p) m) := by
  intro σ F H ρ m v m' er hf Q q
  obtain ⟨x, m1, h1, hf⟩ := bnd_ok hf
  obtain ⟨y, m2, h2, hf⟩ := bnd_ok hf
  obtain ⟨h3, rfl⟩ := opt_ok hf
  have pl : PlainIx b := by
    intro o i
    cases b <;> first | rfl | cases hs
  cases hx : idxD x y with
  | none => rw [hx] at h3; cases h3
  | some d =>
    rw [hx] at h3; cases h3
    unfold idxD at hx
    split at hx
    · rename_i kvs i hh
      have hu : X.A.units + 1 < cLine := by have := c.room.un; omega
      refine we_of (pe_dget hu pe_we pe_we (no_sl hs)) (ha σ F H ρ m _ m1 er h1 _ fun u F1 H1 e1 g1 lv => ?_)
      refine hb σ F1 H1 ρ m1 _ _ (er.ext e1 g1) h2 _ fun w F2 H2 e2 g2 r2 => ?_
      cases r2
      cases LV.other lv (fun l e => by cases e) with
      | dct k1 k2 k3 =>
        rw [decI_map] at hx
        rcases getA_rel Sum.inl inl_inj k2 k3 i with ⟨d', v, q1, q2, q3⟩ | ⟨q1, _⟩
        · have hx : getA _ i = some d := hx
          rw [q1] at hx
          cases hx
          exact ⟨_, v, rfl, q2 ▸ DGet.k (k := .inl i) (g2.sub _ _ (e2.fs _ _ k1)), q _ _ _ (e1.trans e2) g2 (q3.mono e2.fs)⟩
        · have hx : getA _ i = some d := hx
          rw [q1] at hx
          cases hx
    · rename_i xs i
      refine we_of (pe_ix ix_list pe_we pe_we pl) (ha σ F H ρ m _ m1 er h1 _ fun u F1 H1 e1 g1 lv => ?_)
      refine hb σ F1 H1 ρ m1 _ _ (er.ext e1 g1) h2 _ fun w F2 H2 e2 g2 r2 => ?_
      cases r2
      rcases lv with lv | ⟨ad, us, l, rfl, e, k1, k2, k3, k4⟩
      · cases lv with
        | lst k1 k2 =>
          obtain ⟨vv, hv, rv⟩ := atI_rel k2 hx
          exact ⟨_, _, _, vv, rfl, rfl, SqL.of (g2.sub _ _ (e2.fs _ _ k1)), hv, q _ _ _ (e1.trans e2) g2 (rv.mono e2.fs)⟩
      · cases e
        obtain ⟨vv, hv, rv⟩ := atI_rel k4 hx
        exact ⟨_, _, _, vv, rfl, rfl, SqL.of (e2.kp _ _ k1 k3), hv, q _ _ _ (e1.trans e2) g2 (rv.mono e2.fs)⟩
    · rename_i xs i
      refine we_of (pe_ix ix_tup pe_we pe_we pl) (ha σ F H ρ m _ m1 er h1 _ fun u F1 H1 e1 g1 lv => ?_)
      refine hb σ F1 H1 ρ m1 _ _ (er.ext e1 g1) h2 _ fun w F2 H2 e2 g2 r2 => ?_
      cases r2
      cases LV.other lv (fun l e => by cases e) with
      | tup k1 k2 =>
        obtain ⟨vv, hv, rv⟩ := atI_rel k2 hx
        exact ⟨_, _, _, vv, rfl, rfl, SqT.of (g2.sub _ _ (e2.fs _ _ k1)), hv, q _ _ _ (e1.trans e2) g2 (rv.mono e2.fs)⟩
    · cases hx
theorem cut_whole {xs : List V} {ds : List PyData} {lo hi : Option Int} (hl : xs.length = ds.length) (h : HT.sIx xs.length 0 lo = 0 ∧ HT.sIx xs.length xs.length hi = xs.length) : cutD ds lo hi = ds := by
  unfold cutD
  rw [← hl, h.1, h.2, List.drop_zero, Nat.sub_zero, hl, List.take_length]
def WO (X : Cx) (e : Option Expr) : TO := fun σ H Q => ∀ pins s, Inv X pins σ H s → wpAny (model X.prog X.w) X.A (evalPart e X.env) (fun u s' => ∃ o H', Inv X pins σ H' s' ∧ IsPart u o ∧ Q o H') X.xe s
theorem po_wo {e : Option Expr} : PO X e (WO X e) := ⟨fun pins s _ _ _ I h => h pins s I⟩
def SndP (X : Cx) (dw : Dw) (e : Option Expr) (f : Rho → Ms → R (Option Int)) : Prop := ∀ (σ : L2.St) (F H : Hp) (ρ : Rho) (m : Ms) (o : Option Int) (m' : Ms), Er dw σ F H ρ m → f ρ m = some (.ok o, m') →
  ∀ Q : Option Int → Hp → Prop, (∀ F' H', Ext dw F H F' H' → Gr dw F' H' m' → Q o H') → WO X e σ H Q
theorem sndP_no : SndP X dw none (fun _ m => ret none m) := by
  intro σ F H ρ m v m' er hf Q q
  cases hf
  exact fun pins s I => po_none.run pins s σ H Q I (q F H (Ext.refl ..) er.gr)
theorem sndP_yes (ha : SndD X dw a fa) : SndP X dw (some a) (fun ρ m => bnd (fa ρ m) fun x m => opt ((intOf x).map some) m) := by
  intro σ F H ρ m v m' er hf Q q
  obtain ⟨x, m1, h1, hf⟩ := bnd_ok hf
  obtain ⟨h3, rfl⟩ := opt_ok hf
  cases x <;> simp only [intOf] at h3 <;> cases h3
  exact fun pins s I => (po_some pe_we).run pins s σ H Q I (ha σ F H ρ m _ _ er h1 _ fun x F1 H1 e1 g1 r1 => by cases r1; exact ⟨_, rfl, q _ _ e1 g1⟩)
theorem snd_slc {lo hi : Option Expr} {p2 : Pos} {fl fh : Rho → Ms → R (Option Int)} (ha : SndD X dw a fa) (hl : SndP X dw lo fl) (hh : SndP X dw hi fh) :
    Snd X dw (.Subscript a (.Slice lo hi none p2) pos) (fun ρ m => bnd (fa ρ m) fun x m => bnd (fl ρ m) fun y m => bnd (fh ρ m) fun z m => opt ((slcD x y z).map .p) m) := by
  intro σ F H ρ m v m' er hf Q q
  obtain ⟨x, m1, h1, hf⟩ := bnd_ok hf
  obtain ⟨y, m2, h2, hf⟩ := bnd_ok hf
  obtain ⟨z, m3, h3, hf⟩ := bnd_ok hf
  obtain ⟨h4, rfl⟩ := opt_ok hf
  have go : ∀ {r : V → Option Int → Option Int → Hp → VK → Prop}, L2.SlR X r → (∀ u F3 H3, Ext dw F H F3 H3 → Gr dw F3 H3 m' → Rp F3 u x → r u y z H3 Q) → WE X (.Subscript a (.Slice lo hi none p2) pos) σ H Q := by
    intro r hr fin
    refine we_of (pe_slice hr pe_we po_wo po_wo) (ha σ F H ρ m _ m1 er h1 _ fun u F1 H1 e1 g1 r1 => ?_)
    refine hl σ F1 H1 ρ m1 _ _ (er.ext e1 g1) h2 _ fun F2 H2 e2 g2 => ?_
    refine hh σ F2 H2 ρ m2 _ _ (er.ext (e1.trans e2) g2) h3 _ fun F3 H3 e3 g3 => ?_
    exact fin u F3 H3 ((e1.trans e2).trans e3) g3 (r1.mono (e2.trans e3).fs)
  unfold slcD at h4
  split at h4
  · cases h4
    refine go sl_list fun u F3 H3 e3 g3 r3 => ?_
    cases r3 with
    | lst k1 k2 =>
      refine ⟨_, _, rfl, SqL.of (g3.sub _ _ k1), fun p hp => ?_⟩
      obtain ⟨g4, e4⟩ := g3.laidF (o := .lst _) hp
      exact q _ _ _ (e3.trans e4) g4 (.lst upd_same ((cut_rel k2 _ _).mono e4.fs))
  · cases h4
    refine go sl_tupA fun u F3 H3 e3 g3 r3 => ?_
    cases r3 with
    | tup k1 k2 =>
      refine ⟨_, _, rfl, SqT.of (g3.sub _ _ k1), fun hw => ?_, fun _ p hp => ?_⟩
      · refine q _ _ _ e3 g3 (.tup k1 ?_)
        have : cutD _ y z = _ := cut_whole k2.length hw
        rw [this]; exact k2
      · obtain ⟨g4, e4⟩ := g3.laidF (o := .tup _) hp
        exact q _ _ _ (e3.trans e4) g4 (.tup upd_same ((cut_rel k2 _ _).mono e4.fs))
  · cases h4
theorem snd_rev {kk : Nat} {p1 p2 p3 : Pos} (ha : SndD X dw a fa) : Snd X dw (.Subscript a (.Slice none none (some (.UnaryOp .USub (.Constant (.int 1) kk p1) p2)) p3) pos) (fun ρ m => bnd (fa ρ m) fun x m => match x with
    | .list xs => ret (.p (.list xs.reverse)) m
    | _ => none) := by
  intro σ F H ρ m v m' er hf Q q
  obtain ⟨x, m1, h1, hf⟩ := bnd_ok hf
  split at hf
  · cases hf
    refine we_of (pe_revL pe_we) (ha σ F H ρ m _ _ er h1 _ fun u F1 H1 e1 g1 r1 => ?_)
    cases r1 with
    | lst k1 k2 =>
      refine ⟨_, _, rfl, SqL.of (g1.sub _ _ k1), fun p hp => ?_⟩
      obtain ⟨g4, e4⟩ := g1.laidF (o := .lst _) hp
      exact q _ _ _ (e1.trans e4) g4 (.lst upd_same (k2.rev.mono e4.fs))
  · cases hf
theorem snd_bi (c : Cok T N cl k X sc) {bb : Bi} {la : Rho → Ms → R PyData} {p : Pos} (ha : SndL X dw a la) (hg : isGl sc bb.name = true) (hs : noStar a = true) : Snd X dw (.Call (.Name bb.name p) [a] [] pos) (fun ρ m => bnd (la ρ m) fun x m => opt ((biD bb x).map .p) m) := by
  intro σ F H ρ m v m' er hf Q q
  obtain ⟨x, m1, h1, hf⟩ := bnd_ok hf
  obtain ⟨h3, rfl⟩ := opt_ok hf
  cases hx : biD bb x with
  | none => rw [hx] at h3; cases h3
  | some d =>
    rw [hx] at h3; cases h3
    obtain ⟨r, hc, hr, _⟩ := bi_rule (dw := dw) c.room c.calm c.gd hx
    exact we_bi hc (isGl_gl c.sce hg) (c.bn _ (bi_in bb)) hs (ha σ F H ρ m x _ er h1 _ fun u F1 H1 e1 g1 lv => hr u F1 H1 _ Q g1 lv fun y F2 H2 e2 g2 r2 => q y F2 H2 (e1.trans e2) g2 r2)
theorem sndO_bi (c : Cok T N cl k X sc) {bb : Bi} {la : Rho → Ms → R PyData} {p : Pos} (ha : SndL X dw a la) (hg : isGl sc bb.name = true) (hs : noStar a = true) (hb : bb = .list ∨ bb = .sorted) : SndO X dw (.Call (.Name bb.name p) [a] [] pos) (fun ρ m => bnd (la ρ m) fun x m => opt ((biD bb x).map .p) m) := by
  intro σ F H ρ m l m' er hf Q q
  obtain ⟨x, m1, h1, hf⟩ := bnd_ok hf
  obtain ⟨h3, rfl⟩ := opt_ok hf
  cases hx : biD bb x with
  | none => rw [hx] at h3; cases h3
  | some d =>
    rw [hx] at h3; cases h3
    obtain ⟨r, hc, _, hr⟩ := bi_rule (dw := dw) c.room c.calm c.gd hx
    exact we_bi hc (isGl_gl c.sce hg) (c.bn _ (bi_in bb)) hs (ha σ F H ρ m x _ er h1 _ fun u F1 H1 e1 g1 lv => hr hb l rfl u F1 H1 _ Q g1 lv fun p xs hp rr => newO er.gr e1 g1 hp q rr)
theorem snd_bi2 (c : Cok T N cl k X sc) {bb : Bi2} {p : Pos} (ha : SndD X dw a fa) (hb : SndD X dw b fb) (hg : isGl sc bb.name = true) (hs : noStar a = true) (hs2 : noStar b = true) :
    Snd X dw (.Call (.Name bb.name p) [a, b] [] pos) (fun ρ m => bnd (fa ρ m) fun x m => bnd (fb ρ m) fun y m => opt ((bi2D bb x y).map .p) m) := by
  intro σ F H ρ m v m' er hf Q q
  obtain ⟨x, m1, h1, hf⟩ := bnd_ok hf
  obtain ⟨y, m2, h2, hf⟩ := bnd_ok hf
  obtain ⟨h3, rfl⟩ := opt_ok hf
  have s1 := star_cons (es := [b]) (env := X.env) hs
  have s2 := star_cons (es := []) (env := X.env) hs2
  have gl := isGl_gl c.sce hg
  have hpa := pa_cons (pe_we (X := X) (e := a)) (pa_cons (pe_we (X := X) (e := b)) pa_nil s2) s1
  cases bb
  all_goals
    cases x <;> cases y <;> simp only [bi2D] at h3 <;> cases h3
    first
      | exact we_of (pe_callB (call_max2 c.calm) gl (c.bn _ (by decide)) boot_max hpa (by decide) (by decide) s1 (star_one hs2)) (two ha hb er h1 h2 fun x y F2 H2 e g r1 r2 => by cases r1; cases r2; exact ⟨_, _, rfl, q _ _ _ e g (.int _)⟩)
      | exact we_of (pe_callB (call_min2 c.calm) gl (c.bn _ (by decide)) boot_min hpa (by decide) (by decide) s1 (star_one hs2)) (two ha hb er h1 h2 fun x y F2 H2 e g r1 r2 => by cases r1; cases r2; exact ⟨_, _, rfl, q _ _ _ e g (.int _)⟩)
end
end G

end
section
namespace G
open PySem PySem.Spec PyProof.Rows L2
section
variable {T : Str → Option Lit} {N : List Str} {cl : Str → List Val → Ms → R Val} {k : Nat} {dw : Dw} {X : Cx} {sc : Scope}
variable {a b e y z : Expr} {pos : Pos} {fa fb fe : Rho → Ms → R PyData}

theorem rg_rel {F : Hp} (lo : Int) : ∀ l : List Nat, RpAll F (l.map fun i => V.int (lo + (i : Nat))) (l.map fun i => PyData.int (lo + (i : Nat)))
  | [] => .nil
  | _ :: r => .cons (.int _) (rg_rel lo r)
theorem rg_all {F : Hp} (i j : Int) : RpAll F (rgV i j) (rngL i (j - i).toNat) := rg_rel i _
theorem rng_ok {i j : Int} (h : rngOk i j = true) : RgOk i j := by
  have h := of_decide_eq_true h
  exact ⟨by omega, by omega, by omega, by omega, by omega⟩
theorem rng_inv {x y : PyData} {m m' : Ms} {xs : List PyData} (h : (match x, y with
    | .int i, .int j => if rngOk i j = true then ret (rngL i (j - i).toNat) m else none
    | _, _ => none) = some (.ok xs, m')) : ∃ i j, x = .int i ∧ y = .int j ∧ rngOk i j = true ∧ ret (rngL i (j - i).toNat) m = some (.ok xs, m') := by
  cases x with
  | int i =>
    cases y with
    | int j =>
      have h : (if rngOk i j = true then ret (rngL i (j - i).toNat) m else none) = some (.ok xs, m') := h
      by_cases hr : rngOk i j = true
      · rw [if_pos hr] at h; exact ⟨i, j, rfl, rfl, hr, h⟩
      · rw [if_neg hr] at h; cases h
    | _ => cases h
  | _ => cases h
def WR (X : Cx) (e : Expr) : L2.St → Hp → (Int → Int → Hp → Prop) → Prop := fun σ H Q => ∀ pins s, Inv X pins σ H s →
  wpAny (model X.prog X.w) X.A (eval e X.env) (fun x s' => ∃ r a b t u v H', x = .ref r ∧ IsRange s'.heap r a b 1 t u v ∧ Inv X pins σ H' s' ∧ Q a b H') X.xe s
def SndR (X : Cx) (dw : Dw) (e : Expr) (f : Rho → Ms → R (List PyData)) : Prop := ∀ (σ : L2.St) (F H : Hp) (ρ : Rho) (m : Ms) (xs : List PyData) (m' : Ms), Er dw σ F H ρ m → f ρ m = some (.ok xs, m') →
  ∀ Q : Int → Int → Hp → Prop, (∀ i j F' H', Ext dw F H F' H' → Gr dw F' H' m' → RgOk i j → xs = rngL i (j - i).toNat → Q i j H') → WR X e σ H Q
theorem sndR_1 (c : Cok T N cl k X sc) {p : Pos} (ha : SndD X dw a fa) (hg : isGl sc "range" = true) (hs : noStar a = true) : SndR X dw (.Call (.Name "range" p) [a] [] pos) (fun ρ m => bnd (fa ρ m) fun y m => match y with
    | .int j => if rngOk 0 j = true then ret (rngL 0 j.toNat) m else none
    | _ => none) := by
  intro σ F H ρ m xs m' er hf Q q
  obtain ⟨x, m1, h1, hf⟩ := bnd_ok hf
  split at hf
  · split at hf <;> cases hf
    rename_i j hr
    refine fun pins s I => prg_1 (isGl_gl c.sce hg) (c.bn _ (by decide)) pe_we (star_cons hs) pins s σ H Q I ?_
    refine ha σ F H ρ m _ _ er h1 _ fun u F1 H1 e1 g1 r1 => ?_
    cases r1
    exact ⟨_, rfl, q 0 j F1 H1 e1 g1 (rng_ok hr) (by rw [Int.sub_zero])⟩
  · cases hf
theorem sndR_2 (c : Cok T N cl k X sc) {p : Pos} (ha : SndD X dw a fa) (hb : SndD X dw b fb) (hg : isGl sc "range" = true) (hs : noStar a = true) (hs2 : noStar b = true) : SndR X dw (.Call (.Name "range" p) [a, b] [] pos) (fun ρ m => bnd (fa ρ m) fun x m => bnd (fb ρ m) fun y m => match x, y with
    | .int i, .int j => if rngOk i j = true then ret (rngL i (j - i).toNat) m else none
    | _, _ => none) := by
  intro σ F H ρ m xs m' er hf Q q
  obtain ⟨x, m1, h1, hf⟩ := bnd_ok hf
  obtain ⟨y, m2, h2, hf⟩ := bnd_ok hf
  obtain ⟨i, j, rfl, rfl, hr, hf⟩ := rng_inv hf
  · cases hf
    refine fun pins s I => prg_2 (isGl_gl c.sce hg) (c.bn _ (by decide)) pe_we pe_we (star_cons hs) (star_cons hs2) (star_one hs2) pins s σ H Q I ?_
    refine two ha hb er h1 h2 fun x y F2 H2 e g r1 r2 => ?_
    cases r1; cases r2
    exact ⟨_, _, rfl, rfl, q _ _ F2 H2 e g (rng_ok hr) rfl⟩
theorem sndO_rngs (c : Cok T N cl k X sc) {p : Pos} {f : Rho → Ms → R (List PyData)} (h : SndR X dw e f) (hg : isGl sc "list" = true) (hs : noStar e = true) : SndO X dw (.Call (.Name "list" p) [e] [] pos) (fun ρ m => bnd (f ρ m) fun xs m => ret (.p (.list xs)) m) := by
  intro σ F H ρ m l m' er hf Q q
  obtain ⟨xs, m1, h1, hf⟩ := bnd_ok hf
  cases hf
  refine we_of (pe_listRg c.calm (isGl_gl c.sce hg) (c.bn _ (by decide)) (te := WR X e) (fun pins s σ H Q I h => h pins s I) (star_cons hs)) ?_
  refine h σ F H ρ m _ _ er h1 _ fun i j F1 H1 e1 g1 hr hx => ⟨hr, fun p hp => ?_⟩
  subst hx
  exact newO er.gr e1 g1 hp q (rg_all i j)
theorem snd_rngs (c : Cok T N cl k X sc) {p : Pos} {f : Rho → Ms → R (List PyData)} (h : SndR X dw e f) (hg : isGl sc "list" = true) (hs : noStar e = true) : Snd X dw (.Call (.Name "list" p) [e] [] pos) (fun ρ m => bnd (f ρ m) fun xs m => ret (.p (.list xs)) m) := by
  intro σ F H ρ m l m' er hf Q q
  have hf0 := hf
  obtain ⟨xs, m1, h1, hf⟩ := bnd_ok hf
  cases hf
  exact (sndO_rngs c h hg hs).p er hf0 q
theorem snd_rngt (c : Cok T N cl k X sc) {p : Pos} {f : Rho → Ms → R (List PyData)} (h : SndR X dw e f) (hg : isGl sc "tuple" = true) (hs : noStar e = true) : Snd X dw (.Call (.Name "tuple" p) [e] [] pos) (fun ρ m => bnd (f ρ m) fun xs m => ret (.p (.tuple xs)) m) := by
  intro σ F H ρ m l m' er hf Q q
  obtain ⟨xs, m1, h1, hf⟩ := bnd_ok hf
  cases hf
  refine we_of (pe_tupRg c.calm (isGl_gl c.sce hg) (c.bn _ (by decide)) (te := WR X e) (fun pins s σ H Q I h => h pins s I) (star_cons hs)) ?_
  refine h σ F H ρ m _ _ er h1 _ fun i j F1 H1 e1 g1 hr hx => ⟨hr, fun p hp => ?_⟩
  subst hx
  obtain ⟨g4, e4⟩ := g1.laidF (o := .tup _) hp
  exact q _ _ _ (e1.trans e4) g4 (.tup upd_same ((rg_all i j).mono e4.fs))

theorem base_ok {o : Expr} {n : Str} {env : Env} {w : Sem Value} (h : noCall0 o = true) : attributeBase o n env w = w := by
  unfold attributeBase
  split
  · cases h
  · rfl
theorem snd_index (c : Cok T N cl k X sc) {ap : Pos} (ha : SndD X dw a fa) (hb : SndD X dw b fb) (hs : noStar b = true) (h0 : noCall0 a = true) (hl : (ap.endLine == pos.line) = true) :
    Snd X dw (.Call (.Attribute a "index" ap) [b] [] pos) (fun ρ m => bnd (fa ρ m) fun x m => bnd (fb ρ m) fun y m => match x with
    | .list xs => if SeqAt.shaped y = true ∧ SeqAt.shaped (.list xs) = true then opt ((xs.findIdx? fun z => PyData.eqv z y).map fun (j : Nat) => .p (.int j)) m else none
    | _ => none) := by
  intro σ F H ρ m v m' er hf Q q
  obtain ⟨x, m1, h1, hf⟩ := bnd_ok hf
  obtain ⟨y, m2, h2, hf⟩ := bnd_ok hf
  cases x with
  | list xs =>
    have hf : (if SeqAt.shaped y = true ∧ SeqAt.shaped (.list xs) = true then opt ((xs.findIdx? fun z => PyData.eqv z y).map fun (j : Nat) => Val.p (.int j)) m2 else none) = some (.ok v, m') := hf
    split at hf
    · rename_i hsh
      obtain ⟨h3, rfl⟩ := opt_ok hf
      cases hj : xs.findIdx? fun z => PyData.eqv z y with
      | none => rw [hj] at h3; cases h3
      | some j =>
        rw [hj] at h3; cases h3
        have s1 := star_cons (es := []) (env := X.env) hs
        have hu : X.A.units + 65 < cLine := by have := c.room.un; omega
        refine we_of (pe_bm PySem.F.plainAttrs_list PySem.F.slot_list_index PySem.F.type_list_index (mt_indexD hu) pe_we (pa_cons pe_we pa_nil s1) (base_ok h0) (by rw [s1]; rfl) hl s1 star_nil) ?_
        refine ha σ F H ρ m _ m1 er h1 _ fun u F1 H1 e1 g1 r1 => ?_
        cases r1 with
        | lst k1 k2 =>
          refine ⟨.inl ⟨rfl, _, SqL.of (g1.sub _ _ k1)⟩, ?_⟩
          refine hb σ F1 H1 ρ m1 _ _ (er.ext e1 g1) h2 _ fun w F2 H2 e2 g2 r2 => ?_
          obtain ⟨hj1, hj2, hj3⟩ := List.findIdx?_eq_some_iff_getElem.mp hj
          refine ⟨_, _, y, xs, j, xs[j], rfl, rfl, (Rp.lst (e2.fs _ _ k1) (k2.mono e2.fs)).dp g2.sub (shaped_nd hsh.2), r2.dp g2.sub (shaped_nd hsh.1), hsh.2, hsh.1, by simp [hj1], hj2, fun i z hi hz => ?_, q _ _ _ (e1.trans e2) g2 (.int _)⟩
          have hlt : i < xs.length := by omega
          have e3 : xs[i] = z := by simpa [hlt] using hz
          have := hj3 i hi
          rw [e3] at this
          simpa using this
    · cases hf
  | _ => cases hf

theorem sndI_seq {tg : Expr} (ha : SndD X dw a fa) : SndI X dw tg a (fun ρ m => bnd (fa ρ m) fun x m => opt (seqOf x) m) := by
  intro σ F H ρ m xs m' er hf Q q
  obtain ⟨x, m1, h1, hf⟩ := bnd_ok hf
  obtain ⟨h3, rfl⟩ := opt_ok hf
  unfold seqOf at h3
  split at h3
  · cases h3
    refine wi_of (pi_list pe_we) (ha σ F H ρ m _ _ er h1 _ fun u F1 H1 e1 g1 r1 => ?_)
    cases r1 with
    | lst k1 k2 => exact ⟨_, rfl, ⟨_, SqL.of (g1.sub _ _ k1)⟩, q _ F1 H1 e1 g1 (it_list k1 k2)⟩
  · cases h3
    refine wi_of (pi_tup pe_we) (ha σ F H ρ m _ _ er h1 _ fun u F1 H1 e1 g1 r1 => ?_)
    cases r1 with
    | tup k1 k2 => exact ⟨_, rfl, ⟨_, SqT.of (g1.sub _ _ k1)⟩, q _ F1 H1 e1 g1 (it_tup k1 k2)⟩
  · cases h3
theorem sndI_r1 (c : Cok T N cl k X sc) {tg : Expr} {p : Pos} (ha : SndD X dw a fa) (hg : isGl sc "range" = true) (hs : noStar a = true) : SndI X dw tg (.Call (.Name "range" p) [a] [] pos) (fun ρ m => bnd (fa ρ m) fun y m => match y with
    | .int j => if rngOk 0 j = true then ret (rngL 0 j.toNat) m else none
    | _ => none) := by
  intro σ F H ρ m xs m' er hf Q q
  obtain ⟨x, m1, h1, hf⟩ := bnd_ok hf
  split at hf
  · split at hf <;> cases hf
    rename_i j hr
    have hr := of_decide_eq_true hr
    refine wi_of (pi_range1 (isGl_gl c.sce hg) (c.bn _ (by decide)) (pa_cons pe_we pa_nil (star_cons hs)) (by rw [star_cons hs]; rfl)) (ha σ F H ρ m _ _ er h1 _ fun u F1 H1 e1 g1 r1 => ?_)
    cases r1
    exact ⟨_, rfl, by omega, by omega, q _ F1 H1 e1 g1 (it_rng 0 _)⟩
  · cases hf
theorem sndI_r2 (c : Cok T N cl k X sc) {tg : Expr} {p : Pos} (ha : SndD X dw a fa) (hb : SndD X dw b fb) (hg : isGl sc "range" = true) (hs : noStar a = true) (hs2 : noStar b = true) : SndI X dw tg (.Call (.Name "range" p) [a, b] [] pos) (fun ρ m => bnd (fa ρ m) fun x m => bnd (fb ρ m) fun y m => match x, y with
    | .int i, .int j => if rngOk i j = true then ret (rngL i (j - i).toNat) m else none
    | _, _ => none) := by
  intro σ F H ρ m xs m' er hf Q q
  obtain ⟨x, m1, h1, hf⟩ := bnd_ok hf
  obtain ⟨y, m2, h2, hf⟩ := bnd_ok hf
  obtain ⟨i, j, rfl, rfl, hr, hf⟩ := rng_inv hf
  · cases hf
    have hr := of_decide_eq_true hr
    have s1 := star_cons (es := [b]) (env := X.env) hs
    have s2 := star_cons (es := []) (env := X.env) hs2
    refine wi_of (pi_range2 (isGl_gl c.sce hg) (c.bn _ (by decide)) (pa_cons pe_we (pa_cons pe_we pa_nil s2) s1) (by rw [s1, s2]; rfl) (by rw [s2]; rfl)) (two ha hb er h1 h2 fun x y F2 H2 e g r1 r2 => ?_)
    cases r1; cases r2
    exact ⟨_, _, rfl, ⟨by omega, by omega, by omega, by omega⟩, q _ F2 H2 e g (it_rng _ _)⟩
theorem sndI_enum (c : Cok T N cl k X sc) {els : List Expr} {kk : Nat} {tp p : Pos} (ha : SndD X dw a fa) (hg : isGl sc "enumerate" = true) (hs : noStar a = true) :
    SndI X dw (.Tuple els kk tp) (.Call (.Name "enumerate" p) [a] [] pos) (fun ρ m => bnd (fa ρ m) fun x m => opt ((seqOf x).map enumL) m) := by
  intro σ F H ρ m xs m' er hf Q q
  obtain ⟨x, m1, h1, hf⟩ := bnd_ok hf
  obtain ⟨h3, rfl⟩ := opt_ok hf
  have s1 := star_cons (es := []) (env := X.env) hs
  unfold seqOf at h3
  split at h3
  · cases h3
    refine wi_of (pi_enum (isGl_gl c.sce hg) (c.bn _ (by decide)) (pa_cons pe_we pa_nil s1) (by rw [s1]; rfl)) (ha σ F H ρ m _ _ er h1 _ fun u F1 H1 e1 g1 r1 => ?_)
    cases r1 with
    | lst k1 k2 => exact ⟨_, _, rfl, SqL.of (g1.sub _ _ k1), q _ F1 H1 e1 g1 (it_enum k1 k2)⟩
  · cases h3
    refine wi_of (pi_enumT (isGl_gl c.sce hg) (c.bn _ (by decide)) (pa_cons pe_we pa_nil s1) (by rw [s1]; rfl)) (ha σ F H ρ m _ _ er h1 _ fun u F1 H1 e1 g1 r1 => ?_)
    cases r1 with
    | tup k1 k2 => exact ⟨_, _, rfl, SqT.of (g1.sub _ _ k1), q _ F1 H1 e1 g1 (it_enumT k1 k2)⟩
  · cases h3
theorem sndI_zip (c : Cok T N cl k X sc) {els : List Expr} {kk : Nat} {tp p : Pos} (ha : SndD X dw a fa) (hb : SndD X dw b fb) (hg : isGl sc "zip" = true) (hs : noStar a = true) (hs2 : noStar b = true) :
    SndI X dw (.Tuple els kk tp) (.Call (.Name "zip" p) [a, b] [] pos) (fun ρ m => bnd (fa ρ m) fun x m => bnd (fb ρ m) fun y m => match x, y with
    | .list xs, .list ys => ret (zipL xs ys) m
    | .tuple xs, .tuple ys => ret (zipL xs ys) m
    | _, _ => none) := by
  intro σ F H ρ m xs m' er hf Q q
  obtain ⟨x, m1, h1, hf⟩ := bnd_ok hf
  obtain ⟨y, m2, h2, hf⟩ := bnd_ok hf
  have s1 := star_cons (es := [b]) (env := X.env) hs
  have s2 := star_cons (es := []) (env := X.env) hs2
  split at hf
  · cases hf
    refine wi_of (RZ.pi_zipA (isGl_gl c.sce hg) (c.bn _ (by decide)) (pa_cons pe_we (pa_cons pe_we pa_nil s2) s1) s1 (star_one hs2)) (two ha hb er h1 h2 fun x y F2 H2 e g r1 r2 => ?_)
    cases r1 with
    | lst k1 k2 =>
      cases r2 with
      | lst k3 k4 => exact ⟨_, _, _, _, rfl, .inl ⟨SqL.of (g.sub _ _ k1), SqL.of (g.sub _ _ k3), q _ F2 H2 e g (it_zip k1 k2 k3 k4)⟩⟩
  · cases hf
    refine wi_of (RZ.pi_zipA (isGl_gl c.sce hg) (c.bn _ (by decide)) (pa_cons pe_we (pa_cons pe_we pa_nil s2) s1) s1 (star_one hs2)) (two ha hb er h1 h2 fun x y F2 H2 e g r1 r2 => ?_)
    cases r1 with
    | tup k1 k2 =>
      cases r2 with
      | tup k3 k4 => exact ⟨_, _, _, _, rfl, .inr ⟨SqT.of (g.sub _ _ k1), SqT.of (g.sub _ _ k3), q _ F2 H2 e g (it_zipT k1 k2 k3 k4)⟩⟩
  · cases hf
end
end G

end
section
namespace G
open PySem PySem.Spec PyProof.Rows L2
def ΓL (table : List (Str × Def)) : Str → Option Fn := fun f => if f = ("_law_draw" : Str) then some .draw else (table.lookup f).map Fn.code
end G

end
section
namespace G
open PySem PySem.Spec PyProof.Rows L2
theorem mem_insU {x y : Int} : ∀ {l : List Int}, y ∈ insU x l ↔ y = x ∨ y ∈ l
  | [] => by simp [insU]
  | z :: l => by
    rw [insU]
    split
    · simp
    · split
      · rename_i e; subst e; simp
      · rw [List.mem_cons, mem_insU, List.mem_cons]
        exact ⟨fun h => by rcases h with h | h | h <;> simp [h], fun h => by rcases h with h | h | h <;> simp [h]⟩
theorem mem_usort {y : Int} : ∀ {l : List Int}, y ∈ usort l ↔ y ∈ l
  | [] => by simp [usort]
  | x :: l => by rw [usort, mem_insU, mem_usort, List.mem_cons]
theorem insU_pair (x : Int) : ∀ {l : List Int}, l.Pairwise (· < ·) → (insU x l).Pairwise (· < ·)
  | [], _ => List.pairwise_singleton ..
  | y :: l, h => by
    have ⟨h1, h2⟩ := List.pairwise_cons.mp h
    rw [insU]
    split
    · rename_i q
      refine List.pairwise_cons.mpr ⟨fun z hz => ?_, h⟩
      rcases List.mem_cons.mp hz with rfl | hz
      · exact q
      · exact Int.lt_trans q (h1 z hz)
    · split
      · exact h
      · refine List.pairwise_cons.mpr ⟨fun z hz => ?_, insU_pair x h2⟩
        rcases mem_insU.mp hz with rfl | hz
        · omega
        · exact h1 z hz
theorem usort_pair : ∀ l : List Int, (usort l).Pairwise (· < ·)
  | [] => .nil
  | x :: l => insU_pair x (usort_pair l)
theorem usort_eq {l ns : List Int} (h : ns.Pairwise (· < ·)) (m : ∀ k : Int, k ∈ ns ↔ k ∈ l) : ns = usort l := by
  have n1 : ns.Nodup := h.imp fun h => by omega
  have n2 : (usort l).Nodup := (usort_pair l).imp fun h => by omega
  exact List.Perm.eq_of_pairwise (le := fun a b : Int => a < b) (fun a b _ _ h1 h2 => by omega) h (usort_pair l) ((List.perm_ext_iff_of_nodup n1 n2).mpr fun k => by rw [m, mem_usort])
theorem usort_card {l ks : List Int} (h : ks.Nodup) (m : ∀ k : Int, k ∈ ks ↔ k ∈ l) : ks.length = (usort l).length := by
  have n2 : (usort l).Nodup := (usort_pair l).imp fun h => by omega
  exact ((List.perm_ext_iff_of_nodup h n2).mpr fun k => by rw [m, mem_usort]).length_eq
theorem insU_len (x : Int) : ∀ l : List Int, (insU x l).length ≤ l.length + 1
  | [] => Nat.le_refl _
  | y :: l => by
    have := insU_len x l
    rw [insU]
    split
    · simp
    · split
      · simp
      · simp; omega
theorem usort_len : ∀ l : List Int, (usort l).length ≤ l.length
  | [] => Nat.le_refl _
  | x :: l => by
    have := insU_len x (usort l)
    have := usort_len l
    rw [usort, List.length_cons]; omega
end G

end
section
set_option maxHeartbeats 4000000
namespace G
open PySem PySem.Spec PyProof.Rows L2
abbrev nst (w : World) : Obj := { cls := .type "set", dict := none, data := .set #[] 0 (.fresh 0 0 (!w.params.followText "set-order")) }
section
variable {P : Program} {w : World} {A : Around} {E : Value → Shared → Prop} {s : Shared}
theorem set_of_list {l : Addr} {its : Array Value} (ns : List Int) {Q : Value → Shared → Prop} (hd : A.handled = none) (hL : s.heap.IsList l its) (hI : IntsAre its.toList ns) (hB : ns.length + 1 < scanBound)
    (fin : ∀ (h' : Heap) (tk c : Nat), SetR w h' s.heap.objs.size (fun j => decide (j ∈ ns)) c → c ≤ ns.length → (∀ b o, s.heap.get? b = some o → h'.get? b = some o) → Q (.ref s.heap.objs.size) { s with heap := h', toks := tk }) :
    wpAny (model P w) A (call (.type "set") [.ref l]) Q E s := by
  have sz : its.size = ns.length := (Array.length_toList (xs := its)).symm.trans (IntsAre.length hI)
  obtain ⟨cc, tt, mm⟩ := F.called_set.mro
  have q1 := F.called_set.made
  have q2 := F.called_set.sub
  refine wpAny_call (codeAny_of_tree ?_)
  show wpAny _ _ (callAny (.type "set") _) _ _ _
  refine wpAny_pure ⟨Code.quiet_builtin _ (by decide +kernel), codeAny_builtin F.entry_type_call ?_⟩
  rw [Around.under_plain (weight_type_call_type "set" [.ref l] []) rfl]
  have q3 := F.called_set.notType
  have q4 := F.called_set.canCreate
  have q5 := F.typeCall_set_1 (.ref l)
  repeat (any_goals (first | assumption | wp_step))
  refine codeAny_mono (code_set_led1 (.ref l) (E := E) (Q₁ := fun u z => u = .ref s.heap.objs.size ∧ z = { s with heap := s.heap.push (nst w) }) ⟨rfl, rfl⟩) fun r z hz => ?_
  cases r with
  | error e => exact hz
  | ok fl =>
    cases fl with
    | ret u =>
      obtain ⟨rfl, rfl⟩ := hz
      have at0 : (s.heap.push (nst w)).get? s.heap.objs.size = some (nst w) := Heap.get?_push_size _ rfl
      have ty0 : Shared.TypeIs { s with heap := s.heap.push (nst w) } (.ref s.heap.objs.size) "set" := ⟨_, at0, rfl⟩
      have q6 := F.called_set.init.lookup
      have q7 := F.called_set.init.bind (.ref s.heap.objs.size)
      repeat (any_goals (first | assumption | wp_step))
      refine codeAny_mono (codeAny_call_builtin (R := wants (fun r z => r = .none ∧ ∃ h' tk c, z = { s with heap := h', toks := tk } ∧ SetR w h' s.heap.objs.size (fun j => decide (j ∈ ns)) c ∧ c ≤ ns.length ∧ (∀ b o, s.heap.get? b = some o → h'.get? b = some o)) E)
        F.called_set.init.plain F.entry_set_init (check_set_init_1 ty0 ?_)) fun r z hz => ?_
      · obtain ⟨⟨oc, od, ob, os⟩, ho, hc, en, hdt⟩ := hL
        simp only at hc hdt
        subst hc; subst hdt
        have ho' : (s.heap.push (nst w)).get? l = some { cls := .type "list", dict := od, data := .seq its en, slots := os } := Heap.get?_push_of_some _ ho
        have q8 := F.sub_list_set
        have q9 := F.sub_list_frozenset
        have q0 : (Value.type "list" == Value.type "dict") = false := by decide
        have hL' : (s.heap.push (nst w)).IsList l its := ⟨_, ho', rfl, en, rfl⟩
        unfold Builtin.«set.__init__» noKeywords Builtin.Frozenset.updateFrom
        generalize hPI : pyIter = PI
        wp_walk
        subst hPI
        refine wpAny_pyIter_list hL' (wpAny_bind (wpAny_runValue ?_))
        have lS : l < s.heap.objs.size := Heap.lt_size ho
        have hd3 : A.in1.in1.in1.handled = none := by simp [hd]
        have zp : (s.heap.push (nst w)).objs.size = s.heap.objs.size + 1 := Heap.size_push ..
        have nI : l ≠ (s.heap.push (nst w)).objs.size := by rw [zp]; exact Nat.ne_of_lt (Nat.lt_succ_of_lt lS)
        have nS : s.heap.objs.size ∉ [(s.heap.push (nst w)).objs.size, l] := by
          rw [zp]
          intro m
          rcases List.mem_cons.mp m with e | m
          · exact Nat.ne_of_lt (Nat.lt_succ_self _) e
          · exact Nat.ne_of_gt lS (List.mem_singleton.mp m)
        have vals : ∀ (i : Nat) (v : Value), its[i]? = some v → ∃ k t, ns[i]? = some k ∧ v = .int k t := fun i v hv => by
          have hi : i < ns.length := by rw [← sz]; exact (Array.getElem?_eq_some_iff.mp hv).1
          obtain ⟨t, e⟩ := IntsAre.int_at hI i v (by rw [Array.getElem?_toList]; exact hv)
          exact ⟨ns[i], t, List.getElem?_eq_getElem hi, by rw [e, List.getD_eq_getElem?_getD, List.getElem?_eq_getElem hi]; rfl⟩
        refine set_update_ints ((Walks.list hd3 _ l nI its).toS) s.heap.objs.size nS ns sz hB vals (its.size - 0) 0 _ (by omega) (Nat.zero_le _) ⟨⟨_, Heap.get?_push_size _ rfl, rfl, rfl⟩, (hL'.push _)⟩ ?c0 ?c1
        case c0 =>
          exact ⟨0, Nat.le_refl 0, setR_new_at (Heap.get?_push_of_some _ at0)⟩
        case c1 =>
          intro z c mv hc hS
          obtain ⟨h', g', d', tk', os'⟩ := z
          obtain rfl : g' = s.gens := mv.gens
          obtain rfl : d' = s.drawn := mv.drawn
          obtain rfl : os' = s.os := mv.os
          show wpAny _ _ _ _ _ _
          refine wpAny_pure ?_
          show wpAny _ _ (PySem.ret Value.none) _ _ _
          rw [sz] at hc
          refine wpAny_pure ⟨rfl, h', tk', c, rfl, hS, hc, fun b o e => mv.heap b o (fun m => ?_) (Heap.get?_push_of_some _ (Heap.get?_push_of_some _ e))⟩
          have hb := Heap.lt_size e
          rcases List.mem_cons.mp m with z | m
          · exact Nat.ne_of_lt hb z
          · have := List.mem_singleton.mp m
            rw [zp] at this
            exact Nat.ne_of_lt (Nat.lt_succ_of_lt hb) this
      · cases r with
        | error e => exact hz
        | ok fl =>
          cases fl with
          | ret u =>
            obtain ⟨rfl, h', tk, c, rfl, a1, a2, a3⟩ := hz
            repeat (any_goals (first | assumption | wp_step))
            exact fin _ _ _ a1 a2 a3
          | _ => exact hz.elim
    | _ => exact hz.elim
end
section
variable {X : Cx}
theorem cr_setI (hc : X.calm = true) : CallR X (.type "set") (fun vs H Q => ∃ (l : Addr) (ns : List Int), vs = [V.ref l] ∧ (SqL X.K H l (ns.map V.int) ∨ SqT X.K H l (ns.map V.int)) ∧ ns.length ≤ 1000 ∧ ∀ p, H p = none → Q (.ref p) (upd H p (SetO X.w p (fun j => decide (j ∈ ns)) (usort ns).length))) := by
  intro pins s σ H vs us Q I r h
  obtain ⟨l, ns, rfl, hs, hl, q⟩ := h
  rw [Vals.ref1 r]
  have fin : ∀ (h' : Heap) (tk c : Nat), SetR X.w h' s.heap.objs.size (fun j => decide (j ∈ ns)) c → c ≤ ns.length → (∀ b o, s.heap.get? b = some o → h'.get? b = some o) → EP X pins σ Q (.ref s.heap.objs.size) { s with heap := h', toks := tk } := fun h' tk c hS hle hk => by
    have ec : c = (usort ns).length := by
      obtain ⟨o, es, ep, t, _, _, _, _, nd, mem, _, _, hn, _⟩ := hS
      rw [← hn, ← usort_card nd fun k => by rw [← mem k, decide_eq_true_eq], List.length_map, Array.length_toList]
    subst ec
    exact ⟨.ref _, _, I.laid (t' := tk) hk (Nat.le_refl _) (setO_new hS), rfl, q _ (I.hok.fresh (Nat.le_refl _))⟩
  have hB : ns.length + 1 < scanBound := by unfold scanBound; omega
  rcases hs with hs | hs
  · obtain ⟨its, rv, hL, hz⟩ := I.list hs
    exact set_of_list ns (I.ok.hd hc) hL.isList (by simpa using rv.ints) hB fin
  · obtain ⟨its, rv, hL, hz⟩ := I.tuple hs
    exact call_set_tupI ns (I.ok.hd hc) hL (by simpa using rv.ints) hB fin
end
end G

end
section
set_option maxHeartbeats 4000000
namespace G
open PySem PySem.Spec PyProof.Rows L2
theorem seqI_ok {dw : Dw} {F H : Hp} {m : Ms} {K : PySem.W.Frag} {x : V} {d : PyData} {is : List Int} (g : Gr dw F H m) (lv : LV dw F H x d) (h : seqI d = some is) : ∃ a, x = .ref a ∧ (SqL K H a (is.map V.int) ∨ SqT K H a (is.map V.int)) := by
  unfold seqI at h
  split at h
  · obtain ⟨a, ys, rfl, h1, h2⟩ := lv.list g
    exact ⟨a, rfl, .inl (SqL.of (by rw [← h2.ints h]; exact h1))⟩
  · cases lv.other (fun l e => by cases e) with
    | tup h1 h2 => exact ⟨_, rfl, .inr (SqT.of (by rw [← h2.ints h]; exact g.sub _ _ h1))⟩
  · cases h
section
variable {X : Cx}
theorem we_set (hc : X.calm = true) {a : Expr} {p pos : Pos} (hg : Gl X "set") (hm : X.mg "set" = none) (hs : noStar a = true) {σ : L2.St} {H : Hp} {Q : VK}
    (h : WE X a σ H fun x H1 => ∃ (l : Addr) (ns : List Int), [x] = [V.ref l] ∧ (SqL X.K H1 l (ns.map V.int) ∨ SqT X.K H1 l (ns.map V.int)) ∧ ns.length ≤ 1000 ∧ ∀ p, H1 p = none → Q (.ref p) (upd H1 p (SetO X.w p (fun j => decide (j ∈ ns)) (usort ns).length))) :
    WE X (.Call (.Name "set" p) [a] [] pos) σ H Q := by
  have hpa := pa_cons (pe_we (X := X) (e := a)) pa_nil (star_cons (es := []) (env := X.env) hs)
  exact we_of (pe_callTy (cr_setI hc) hg hm boot_set hpa (by decide) (by decide) (star_cons hs) star_nil) h
theorem cr_lenSet : CallR X (.builtin "len") (fun vs H Q => ∃ (a : Addr) (ns : List Int) (n : Nat), vs = [V.ref a] ∧ H a = some (SetO X.w a (fun j => decide (j ∈ ns)) n) ∧ ns.length ≤ 1000 ∧ Q (.int (usort ns).length) H) := by
  intro pins s σ H vs us Q I r h
  obtain ⟨a, ns, n, rfl, ha, hl, q⟩ := h
  rw [Vals.ref1 r]
  obtain ⟨o, es, ep, t, ho, hex, hd, _, nd, mem, sz, hf, hn, _⟩ := setO_get I ha
  have e : es.size = (usort ns).length := by
    rw [← usort_card nd fun k => by rw [← mem k, decide_eq_true_eq], List.length_map, Array.length_toList]
  refine call_len_set ho hex hd hf (by unfold scanBound at sz; omega) ⟨.int (usort ns).length, H, I.tok _, ⟨_, by rw [e]⟩, q⟩
variable {T : Str → Option Lit} {N : List Str} {cl : Str → List Val → Ms → R Val} {k : Nat} {dw : Dw} {sc : Scope}
theorem in_bnames {x : Str} (c : Cok T N cl k X sc) (h : x ∈ bnames) : X.mg x = none := c.bn x h
theorem snd_srt (c : Cok T N cl k X sc) {a : Expr} {p p2 q pos : Pos} {la : Rho → Ms → R PyData} (ha : SndL X dw a la) (h1 : isGl sc "sorted" = true) (h2 : isGl sc "set" = true) (hs : noStar a = true) :
    SndO X dw (.Call (.Name "sorted" p) [.Call (.Name "set" p2) [a] [] q] [] pos) (fun ρ m => bnd (la ρ m) fun x m => opt ((srtD x).map .p) m) := by
  intro σ F H ρ m l m' er hf Q q
  obtain ⟨x, m1, g1, hf⟩ := bnd_ok hf
  obtain ⟨g2, rfl⟩ := opt_ok hf
  cases hx : srtD x with
  | none => rw [hx] at g2; cases g2
  | some d =>
    rw [hx] at g2
    have e : d = .list l := by cases g2; rfl
    subst e
    unfold srtD at hx
    cases hi : seqI x with
    | none => rw [hi] at hx; cases hx
    | some is =>
      rw [hi] at hx
      by_cases z : is.length ≤ 1000 ∧ (usort is).length < 64
      · simp only [Option.bind_some, if_pos z] at hx
        cases hx
        refine we_of (pe_callB (cr_sortedSet c.calm) (isGl_gl c.sce h1) (c.bn _ (by decide)) boot_sorted (pa_cons pe_we pa_nil rfl) (by decide) (by decide) rfl rfl) ?_
        refine we_set c.calm (isGl_gl c.sce h2) (c.bn _ (by decide)) hs ?_
        refine ha σ F H ρ m x _ er g1 _ fun u F1 H1 e1 gr1 lv => ?_
        obtain ⟨ad, rfl, hq⟩ := seqI_ok (K := X.K) gr1 lv hi
        refine ⟨ad, is, rfl, hq, z.1, fun pp hpp => ?_⟩
        obtain ⟨gr2, e2⟩ := gr1.laid (o := SetO X.w pp (fun j => decide (j ∈ is)) (usort is).length) hpp
        refine ⟨pp, _, _, rfl, upd_same, z.2, fun ns p3 so mem hlen hp3 => ?_⟩
        · have es : ns = usort is := usort_eq so fun k => by rw [mem k, decide_eq_true_eq]
          subst es
          exact newO er.gr (e1.trans e2) gr2 hp3 q (RpAll.of_ints _)
      · simp only [Option.bind_some, if_neg z] at hx
        cases hx
theorem snd_lens (c : Cok T N cl k X sc) {a : Expr} {p p2 q pos : Pos} {la : Rho → Ms → R PyData} (ha : SndL X dw a la) (h1 : isGl sc "len" = true) (h2 : isGl sc "set" = true) (hs : noStar a = true) :
    Snd X dw (.Call (.Name "len" p) [.Call (.Name "set" p2) [a] [] q] [] pos) (fun ρ m => bnd (la ρ m) fun x m => opt ((lensD x).map .p) m) := by
  intro σ F H ρ m v m' er hf Q q
  obtain ⟨x, m1, g1, hf⟩ := bnd_ok hf
  obtain ⟨g2, rfl⟩ := opt_ok hf
  cases hx : lensD x with
  | none => rw [hx] at g2; cases g2
  | some d =>
    rw [hx] at g2
    cases g2
    unfold lensD at hx
    cases hi : seqI x with
    | none => rw [hi] at hx; cases hx
    | some is =>
      rw [hi] at hx
      by_cases z : is.length ≤ 1000
      · simp only [Option.bind_some, if_pos z] at hx
        cases hx
        refine we_of (pe_callB cr_lenSet (isGl_gl c.sce h1) (c.bn _ (by decide)) boot_len (pa_cons pe_we pa_nil rfl) (by decide) (by decide) rfl rfl) ?_
        refine we_set c.calm (isGl_gl c.sce h2) (c.bn _ (by decide)) hs ?_
        refine ha σ F H ρ m x _ er g1 _ fun u F1 H1 e1 gr1 lv => ?_
        obtain ⟨ad, rfl, hq⟩ := seqI_ok (K := X.K) gr1 lv hi
        refine ⟨ad, is, rfl, hq, z, fun pp hpp => ?_⟩
        obtain ⟨gr2, e2⟩ := gr1.laid (o := SetO X.w pp (fun j => decide (j ∈ is)) (usort is).length) hpp
        exact ⟨pp, is, _, rfl, upd_same, z, q _ _ _ (e1.trans e2) gr2 (.int _)⟩
      · simp only [Option.bind_some, if_neg z] at hx
        cases hx
end
end G

end
section
namespace G
open PySem PySem.Spec PyProof.Rows L2
section
variable {T : Str → Option Lit} {N : List Str} {cl : Str → List Val → Ms → R Val} {k : Nat} {dw : Dw}

theorem pe_v {X : Cx} {sc : Scope} (c : Cok T N cl k X sc) {i : Nat} {x : Str} {p : Pos} (h : chkVar N sc i x = true) : PE X (.Name x p) (tVar i) := by
  unfold chkVar at h
  simp only [Bool.and_eq_true] at h
  obtain ⟨h1, h2, _⟩ := plain3 h.2
  exact pe_var (by rw [c.nn]; exact of_decide_eq_true h.1.1) (isVis_vis c.sce h.1.2) h1 h2
theorem snd_var {X : Cx} {sc : Scope} (c : Cok T N cl k X sc) {i : Nat} {x : Str} {p : Pos} (h : chkVar N sc i x = true) : Snd X dw (.Name x p) (ev cl (.var i)) := by
  intro σ F H ρ m v m' er hf Q q
  have hf : (match ρ[i]? with | some (some (.fz v)) => ret v m | _ => none) = some (.ok v, m') := hf
  split at hf
  · rename_i hs
    cases hf
    obtain ⟨y, h1, h2⟩ := er.sl i _ hs
    exact we_of (pe_v c h) ⟨y, h1, q y F H (Ext.refl ..) er.gr h2⟩
  · cases hf
theorem sndL_of {X : Cx} {sc : Scope} (c : Cok T N cl k X sc) {a : E} {e : Expr} (h : chkE T N sc a e = true) (ha : Snd X dw e (ev cl a)) : SndL X dw e (fun ρ m => lk a ρ m (ev cl a ρ m)) := by
  have gen : (∀ ρ m, lk a ρ m (ev cl a ρ m) = dOf (ev cl a ρ m)) → SndL X dw e (fun ρ m => lk a ρ m (ev cl a ρ m)) := by
    intro hh σ F H ρ m d m' er hf Q q
    have hf : lk a ρ m (ev cl a ρ m) = some (.ok d, m') := hf
    rw [hh] at hf
    exact ha.d σ F H ρ m d m' er hf Q fun x F' H' e1 g1 r1 => q x F' H' e1 g1 (.inl r1)
  cases a with
  | var i =>
    cases e with
    | Name x p =>
      have hv : chkVar N sc i x = true := h
      intro σ F H ρ m d m' er hf Q q
      have hf : (match ρ[i]? with
        | some (some (.fz (.p d))) => ret d m
        | some (some (.ow (.lst l))) => ret (.list l) m
        | _ => none) = some (.ok d, m') := hf
      split at hf
      · rename_i hs
        cases hf
        obtain ⟨y, h1, h2⟩ := er.sl i _ hs
        exact we_of (pe_v c hv) ⟨y, h1, q y F H (Ext.refl ..) er.gr (.inl h2)⟩
      · rename_i hs
        cases hf
        obtain ⟨a, xs, h1, h2, h3, h4, h5⟩ := (er.sl i _ hs).ol
        exact we_of (pe_v c hv) ⟨_, h1, q _ F H (Ext.refl ..) er.gr (.inr ⟨a, xs, _, rfl, rfl, h2, h3, h4, h5⟩)⟩
      · cases hf
    | _ => cases h
  | _ => exact gen fun _ _ => rfl

def BOK (cl : Str → List Val → Ms → R Val) (X : Cx) (dw : Dw) (r : Es) (xs : List Expr) : Prop := ∀ pos (x : Expr) (fa : Rho → Ms → R Val), Snd X dw x fa →
  Snd X dw (.BoolOp .And (x :: xs) pos) (fun ρ m => bnd (fa ρ m) fun v m => evAnd cl r ρ v m) ∧ Snd X dw (.BoolOp .Or (x :: xs) pos) (fun ρ m => bnd (fa ρ m) fun v m => evOr cl r ρ v m)
theorem bok_nil {X : Cx} : BOK cl X dw .nil [] := by
  intro pos x fa ha
  refine ⟨fun σ F H ρ m v m' er hf Q q => ?_, fun σ F H ρ m v m' er hf Q q => ?_⟩
  all_goals
    obtain ⟨u, m1, h1, hf⟩ := bnd_ok hf
    have e : (match u with
      | .p (.bool b) => ret (.p (.bool b)) m1
      | _ => none) = some (.ok v, m') := hf
    split at e
    · cases e
      exact we_of (pe_one pe_we) (ha σ F H ρ m _ _ er h1 _ fun y F1 H1 e1 g1 r1 => q y F1 H1 e1 g1 r1)
    · cases e
theorem bok_cons {X : Cx} {r : Es} {xs : List Expr} {e : E} {x' : Expr} (he : Snd X dw x' (ev cl e)) (ih : BOK cl X dw r xs) : BOK cl X dw (.cons e r) (x' :: xs) := by
  intro pos x fa ha
  refine ⟨fun σ F H ρ m v m' er hf Q q => ?_, fun σ F H ρ m v m' er hf Q q => ?_⟩
  · obtain ⟨u, m1, h1, hf⟩ := bnd_ok hf
    have e2 : andD (fun m => bnd (ev cl e ρ m) fun y m => evAnd cl r ρ y m) u m1 = some (.ok v, m') := hf
    unfold andD at e2
    split at e2
    · refine we_of (pe_and pe_we pe_we) (ha σ F H ρ m _ m1 er h1 _ fun y F1 H1 e1 g1 r1 => ?_)
      cases r1
      refine ⟨true, rfl, (if_pos rfl).mpr ?_⟩
      exact (ih pos x' _ he).1 σ F1 H1 ρ m1 v m' (er.ext e1 g1) e2 Q fun z F2 H2 e2 g2 r2 => q z F2 H2 (e1.trans e2) g2 r2
    · cases e2
      refine we_of (pe_and pe_we pe_we) (ha σ F H ρ m _ _ er h1 _ fun y F1 H1 e1 g1 r1 => ?_)
      cases r1
      exact ⟨false, rfl, (if_neg (by decide)).mpr (q _ F1 H1 e1 g1 (.bl false))⟩
    · cases e2
  · obtain ⟨u, m1, h1, hf⟩ := bnd_ok hf
    have e2 : orD (fun m => bnd (ev cl e ρ m) fun y m => evOr cl r ρ y m) u m1 = some (.ok v, m') := hf
    unfold orD at e2
    split at e2
    · refine we_of (pe_or pe_we pe_we) (ha σ F H ρ m _ m1 er h1 _ fun y F1 H1 e1 g1 r1 => ?_)
      cases r1
      refine ⟨false, rfl, (if_neg (by decide)).mpr ?_⟩
      exact (ih pos x' _ he).2 σ F1 H1 ρ m1 v m' (er.ext e1 g1) e2 Q fun z F2 H2 e2 g2 r2 => q z F2 H2 (e1.trans e2) g2 r2
    · cases e2
      refine we_of (pe_or pe_we pe_we) (ha σ F H ρ m _ _ er h1 _ fun y F1 H1 e1 g1 r1 => ?_)
      cases r1
      exact ⟨true, rfl, (if_pos rfl).mpr (q _ F1 H1 e1 g1 (.bl true))⟩
    · cases e2
def WW (X : Cx) (e : Expr) : TT := fun σ H Q => ∀ whole pins s, Inv X pins σ H s → wpAny (model X.prog X.w) X.A (isTrue e X.env whole) (TP X pins σ Q) X.xe s
theorem pw_ww {X : Cx} {e : Expr} : PW X e (WW X e) := ⟨fun w pins s _ _ _ I h => h w pins s I⟩
theorem ww_of {X : Cx} {e : Expr} {t : TT} (h : PW X e t) {σ : L2.St} {H : Hp} {Q : Bool → Hp → Prop} (q : t σ H Q) : WW X e σ H Q := fun w pins s I => h.run w pins s σ H Q I q
def SndW (X : Cx) (dw : Dw) (e : Expr) (f : Rho → Ms → R Bool) : Prop := ∀ (σ : L2.St) (F H : Hp) (ρ : Rho) (m : Ms) (b : Bool) (m' : Ms), Er dw σ F H ρ m → f ρ m = some (.ok b, m') →
  ∀ Q : Bool → Hp → Prop, (∀ F' H', Ext dw F H F' H' → Gr dw F' H' m' → Q b H') → WW X e σ H Q
theorem SndW.t {X : Cx} {e : Expr} {f : Rho → Ms → R Bool} (h : SndW X dw e f) : SndT X dw e f := fun σ F H ρ m b m' er hf Q q => wt_of pw_ww.pt (h σ F H ρ m b m' er hf Q q)
abbrev tst (cl : Str → List Val → Ms → R Val) (a : E) : Rho → Ms → R Bool := fun ρ m => bnd (dOf (ev cl a ρ m)) fun x m => opt (boolOf x) m
def boolV (f : Rho → Ms → R Val) : Rho → Ms → R Bool := fun ρ m => bnd (dOf (f ρ m)) fun x m => opt (boolOf x) m
theorem boolV_ok {f : Rho → Ms → R Val} {ρ : Rho} {m m' : Ms} {b : Bool} (h : boolV f ρ m = some (.ok b, m')) : f ρ m = some (.ok (.p (.bool b)), m') := by
  obtain ⟨d, m1, h1, h⟩ := bnd_ok h
  obtain ⟨h2, rfl⟩ := opt_ok h
  cases d <;> simp only [boolOf] at h2 <;> cases h2
  exact dOf_ok h1
def TOK (cl : Str → List Val → Ms → R Val) (X : Cx) (dw : Dw) (r : Es) (xs : List Expr) : Prop := ∀ pos (x : Expr) (fa : Rho → Ms → R Val), SndT X dw x (boolV fa) →
  SndW X dw (.BoolOp .And (x :: xs) pos) (boolV fun ρ m => bnd (fa ρ m) fun v m => evAnd cl r ρ v m) ∧ SndW X dw (.BoolOp .Or (x :: xs) pos) (boolV fun ρ m => bnd (fa ρ m) fun v m => evOr cl r ρ v m)
theorem boolV_of {f : Rho → Ms → R Val} {ρ : Rho} {m m' : Ms} {b : Bool} (h : f ρ m = some (.ok (.p (.bool b)), m')) : boolV f ρ m = some (.ok b, m') := by
  unfold boolV dOf
  rw [h]; rfl
theorem tok_nil {X : Cx} : TOK cl X dw .nil [] := by
  intro pos x fa ha
  refine ⟨fun σ F H ρ m b m' er hf Q q => ?_, fun σ F H ρ m b m' er hf Q q => ?_⟩
  all_goals
    obtain ⟨u, m1, h1, hf⟩ := bnd_ok (boolV_ok hf)
    have e : (match u with
      | .p (.bool b) => ret (Val.p (.bool b)) m1
      | _ => none) = some (.ok (.p (.bool b)), m') := hf
    split at e
    · cases e
      first
        | exact ww_of (pw_and1 pt_wt) (ha σ F H ρ m _ _ er (boolV_of h1) _ q)
        | exact ww_of (pw_or1 pt_wt) (ha σ F H ρ m _ _ er (boolV_of h1) _ q)
    · cases e
theorem tok_cons {X : Cx} {r : Es} {xs : List Expr} {e : E} {x' : Expr} (he : SndT X dw x' (boolV (ev cl e))) (ih : TOK cl X dw r xs) : TOK cl X dw (.cons e r) (x' :: xs) := by
  intro pos x fa ha
  refine ⟨fun σ F H ρ m b m' er hf Q q => ?_, fun σ F H ρ m b m' er hf Q q => ?_⟩
  · obtain ⟨u, m1, h1, hf⟩ := bnd_ok (boolV_ok hf)
    have e2 : andD (fun m => bnd (ev cl e ρ m) fun y m => evAnd cl r ρ y m) u m1 = some (.ok (.p (.bool b)), m') := hf
    unfold andD at e2
    split at e2
    · refine ww_of (pw_and pt_wt pw_ww) (ha σ F H ρ m true m1 er (boolV_of h1) _ fun F1 H1 e1 g1 => (if_pos rfl).mpr ?_)
      exact (ih pos x' _ he).1 σ F1 H1 ρ m1 b m' (er.ext e1 g1) (boolV_of e2) Q fun F2 H2 e2 g2 => q F2 H2 (e1.trans e2) g2
    · cases e2
      exact ww_of (pw_and pt_wt pw_ww) (ha σ F H ρ m false _ er (boolV_of h1) _ fun F1 H1 e1 g1 => (if_neg (by decide)).mpr (q F1 H1 e1 g1))
    · cases e2
  · obtain ⟨u, m1, h1, hf⟩ := bnd_ok (boolV_ok hf)
    have e2 : orD (fun m => bnd (ev cl e ρ m) fun y m => evOr cl r ρ y m) u m1 = some (.ok (.p (.bool b)), m') := hf
    unfold orD at e2
    split at e2
    · refine ww_of (pw_or pt_wt pw_ww) (ha σ F H ρ m false m1 er (boolV_of h1) _ fun F1 H1 e1 g1 => (if_neg (by decide)).mpr ?_)
      exact (ih pos x' _ he).2 σ F1 H1 ρ m1 b m' (er.ext e1 g1) (boolV_of e2) Q fun F2 H2 e2 g2 => q F2 H2 (e1.trans e2) g2
    · cases e2
      exact ww_of (pw_or pt_wt pw_ww) (ha σ F H ρ m true _ er (boolV_of h1) _ fun F1 H1 e1 g1 => (if_pos rfl).mpr (q F1 H1 e1 g1))
    · cases e2
theorem sndT_val {X : Cx} {e : Expr} {f : Rho → Ms → R Val} (h : Snd X dw e f) (hp : plainTest e = true) : SndT X dw e (boolV f) := by
  intro σ F H ρ m b m' er hf Q q
  have he : ∀ whole, isTrue e X.env whole = (do let v ← whole; standAt e.pos; holding [v] (truthy v)) := by
    intro whole
    cases e with
    | UnaryOp op a p => cases op <;> first | rfl | cases hp
    | _ => first | rfl | cases hp
  exact wt_of (pt_val pe_we he) (h σ F H ρ m _ m' er (boolV_ok hf) _ fun x F1 H1 e1 g1 r1 => by cases r1; exact ⟨b, rfl, q F1 H1 e1 g1⟩)
theorem sndT_chain {X : Cx} {sc : Scope} (c : Cok T N cl k X sc) {a b e : Expr} {pos : Pos} {fa fb fe : Rho → Ms → R PyData} (ha : SndD X dw a fa) (hb : SndD X dw b fb) (he : SndD X dw e fe) {o p : CmpOp} (hs : noSet b = true) (hs2 : noSet e = true) : SndT X dw (.Compare a [o, p] [b, e] pos)
    (boolV fun ρ m => bnd (fa ρ m) fun x m => bnd (fb ρ m) fun y m => match cmpD o x y with
      | some true => bnd (fe ρ m) fun z m => opt ((cmpD p y z).map fun b => Val.p (.bool b)) m
      | some false => ret (Val.p (.bool false)) m
      | none => none) := by
  intro σ F H ρ m r m' er hf Q q
  obtain ⟨x, m1, h1, hf⟩ := bnd_ok (boolV_ok hf)
  obtain ⟨y, m2, h2, hf⟩ := bnd_ok hf
  have hm2 : behindInMarks p e = false := by cases e <;> first | rfl | cases hs2
  split at hf
  · rename_i hc
    obtain ⟨z, m3, h3, hf⟩ := bnd_ok hf
    obtain ⟨h4, rfl⟩ := opt_ok hf
    cases hc2 : cmpD p y z with
    | none => rw [hc2] at h4; cases h4
    | some r =>
      rw [hc2] at h4; cases h4
      obtain ⟨rr, ho, hr⟩ := cmp_rule c.room hc
      obtain ⟨rr2, ho2, hr2⟩ := cmp_rule c.room hc2
      refine wt_of (pt_chain ho ho2 pe_we pe_we (pe_we (e := e)) hm2) (two ha hb er h1 h2 fun x y F2 H2 e g r1 r2 => hr x y F2 H2 _ g.sub r1 r2 ⟨true, rfl, (if_pos rfl).mpr ?_⟩)
      refine he σ F2 H2 ρ m2 z _ (er.ext e g) h3 _ fun u F3 H3 e3 g3 r3 => ?_
      exact hr2 y u F3 H3 _ g3.sub (r2.mono e3.fs) r3 ⟨_, rfl, q _ _ (e.trans e3) g3⟩
  · rename_i hc
    cases hf
    obtain ⟨rr, ho, hr⟩ := cmp_rule c.room hc
    refine wt_of (pt_chain ho (r' := fun _ _ _ _ => False) (op' := p) (fun _ _ _ _ _ _ _ _ _ _ _ _ h => h.elim) pe_we pe_we (pe_we (e := e)) hm2) (two ha hb er h1 h2 fun x y F2 H2 e g r1 r2 => hr x y F2 H2 _ g.sub r1 r2 ⟨false, rfl, (if_neg (by decide)).mpr ⟨_, rfl, q _ _ e g⟩⟩)
  · cases hf
end
end G

end
section
set_option maxHeartbeats 2000000
namespace G
open PySem PySem.Spec PyProof.Rows L2
def unF (F : Hp) (a : Addr) : Hp := fun b => if b = a then none else F b
theorem unF_ne {F : Hp} {a b : Addr} (h : b ≠ a) : unF F a b = F b := by unfold unF; rw [if_neg h]
theorem unF_some {F : Hp} {a b : Addr} {o : HO} (h : unF F a b = some o) : b ≠ a ∧ F b = some o := by
  by_cases e : b = a
  · subst e; unfold unF at h; rw [if_pos rfl] at h; cases h
  · rw [unF_ne e] at h; exact ⟨e, h⟩
section
variable {F : Hp} {a : Addr} {o : HO}
mutual
theorem Rp.unf (h : F a = some o) (n1 : ∀ xs, o ≠ .lst xs) (n2 : ∀ xs, o ≠ .tup xs) : ∀ {d : PyData} {v : V}, Rp F v d → d.hasDict = false → Rp (unF F a) v d
  | _, _, .non, _ => .non
  | _, _, .bl b, _ => .bl b
  | _, _, .int i, _ => .int i
  | _, _, .str x, _ => .str x
  | _, _, .lst e r, q => .lst (by rw [unF_ne (fun z => by rw [z, h] at e; cases e; exact n1 _ rfl)]; exact e) (RpAll.unf h n1 n2 r (by simpa [PyData.hasDict] using q))
  | _, _, .tup e r, q => .tup (by rw [unF_ne (fun z => by rw [z, h] at e; cases e; exact n2 _ rfl)]; exact e) (RpAll.unf h n1 n2 r (by simpa [PyData.hasDict] using q))
  | _, _, .dct _ _ _, q => by simp [PyData.hasDict] at q
theorem RpAll.unf (h : F a = some o) (n1 : ∀ xs, o ≠ .lst xs) (n2 : ∀ xs, o ≠ .tup xs) : ∀ {ds : List PyData} {vs : List V}, RpAll F vs ds → PyData.hasDictAll ds = false → RpAll (unF F a) vs ds
  | _, _, .nil, _ => .nil
  | _, _, .cons e r, q => by
    simp only [PyData.hasDictAll, Bool.or_eq_false_iff] at q
    exact .cons (Rp.unf h n1 n2 e q.1) (RpAll.unf h n1 n2 r q.2)
end
end
theorem upd_self {H : Hp} {a : Addr} {o : HO} (h : H a = some o) : upd H a o = H := by
  funext b
  by_cases e : b = a
  · subst e; rw [upd_same, h]
  · rw [upd_ne e]
section
variable {dw : Dw} {σ : L2.St} {F H : Hp} {ρ : Rho} {m : Ms}
theorem Er.lend (er : Er dw σ F H ρ m) {i : Nat} {w : Ow} {a : Addr} {q : HO} {s : Slot} (hρ : ρ[i]? = some (some (.ow w))) (ha : σ[i]? = some (some (.ref a))) (hF : F a = none) (nd : ¬ isDr dw a) (ns : ∀ w, s ≠ .ow w)
    (hs : SlR dw (upd F a q) (upd H a q) σ[i]? s) : Er dw σ (upd F a q) (upd H a q) (ρ.set i (some s)) m := by
  have sb : Sub F (upd F a q) := fun b u e => by rw [upd_ne (ne_of_none e hF)]; exact e
  refine ⟨⟨fun b u e => ?_, (er.gr.dr.keepD nd).keep (fun _ _ e => e) fun b d e => ?_⟩, by rw [List.length_set]; exact er.len, fun j t ht => ?_, fun j k v u b e1 e2 e3 e4 => ?_⟩
  · by_cases z : b = a
    · subst z; rw [upd_same] at e ⊢; exact e
    · rw [upd_ne z] at e ⊢; exact er.gr.sub _ _ e
  · rw [upd_ne (fun z => nd (by rw [← z]; exact d))]; exact e
  · rcases get_set ht with ⟨rfl, e, _⟩ | ⟨ne, ht⟩
    · cases e; exact hs
    · have r := er.sl j t ht
      cases t with
      | fz v => obtain ⟨y, r1, r2⟩ := r; exact ⟨y, r1, r2.mono sb⟩
      | raw v => exact r
      | bd u => obtain ⟨c, ob, x, r1, r2, r3⟩ := r; exact ⟨c, ob, x, r1, sb _ _ r2, r3.mono sb⟩
      | ow u =>
        obtain ⟨c, x, r1, r2, r3, r4, r5⟩ := r
        have nc : c ≠ a := fun z => by subst z; exact ne (er.ap i j _ _ c hρ ht ha r1)
        exact ⟨c, x, r1, by rw [upd_ne nc]; exact r2, by rw [upd_ne nc]; exact r3, r4, r5.mono sb⟩
  · rcases get_set e1 with ⟨_, e, _⟩ | ⟨_, e1⟩
    · exact absurd (by cases e; rfl) (ns v)
    · rcases get_set e2 with ⟨_, e, _⟩ | ⟨_, e2⟩
      · exact absurd (by cases e; rfl) (ns u)
      · exact er.ap j k v u b e1 e2 e3 e4
theorem Ext.back {F' H' : Hp} {a : Addr} {o q : HO} {m' : Ms} (hF : F a = none) (hH : H a = some o) (nd : ¬ isDr dw a) (e : Ext dw (upd F a q) (upd H a q) F' H') (g : Gr dw F' H' m') : Ext dw F H (unF F' a) (upd H' a o) ∧ Gr dw (unF F' a) (upd H' a o) m' := by
  refine ⟨⟨fun b u h => ?_, fun b u h n => ?_, fun b u h => ?_, fun b h => ?_⟩, ⟨fun b u h => ?_, (g.dr.keepD nd).keep (fun _ _ h => h) fun b _ h => ?_⟩⟩
  · have z : b ≠ a := ne_of_none h hF
    rw [unF_ne z]
    exact e.fs _ _ (by rw [upd_ne z]; exact h)
  · by_cases z : b = a
    · subst z; rw [upd_same]; rw [hH] at h; exact h
    · rw [upd_ne z]; exact e.kp _ _ (by rw [upd_ne z]; exact h) n
  · obtain ⟨z, h⟩ := unF_some h
    have := e.nw _ _ h
    rw [upd_ne z, upd_ne z] at this
    exact this
  · by_cases z : b = a
    · subst z; rw [upd_same] at h; cases h
    · rw [upd_ne z] at h
      have := e.al _ h
      rw [upd_ne z] at this
      exact this
  · obtain ⟨z, h⟩ := unF_some h
    rw [upd_ne z]; exact g.sub _ _ h
  · unfold unF; split
    · rfl
    · exact h
end
section
variable {X : Cx} {dw : Dw} {e : Expr} {f : Rho → Ms → R Val} {i : Nat}
theorem OR.nl {F : Hp} {o : HO} {w : Ow} (h : OR F o w) (d : isDct w = true) : ∀ xs, o ≠ .lst xs := by
  intro xs z
  subst z
  cases h
  cases d
theorem OR.mut {F : Hp} {o : HO} {w : Ow} (h : OR F o w) : Mut (some o) := by
  cases h <;> exact True.intro
theorem snd_bor (h : Snd X dw e f) : Snd X dw e (fun ρ m => match ρ[i]? with
    | some (some (.ow (.dk kvs))) => bnd (dOf (f (ρ.set i (some (.fz (.p (kdI kvs))))) m)) fun d m => if d.hasDict = false then ret (.p d) m else none
    | _ => none) := by
  intro σ F H ρ m v m' er hf Q q
  dsimp only at hf
  split at hf
  · rename_i kvs hρ
    obtain ⟨d, m1, h1, hf⟩ := bnd_ok hf
    by_cases hd : d.hasDict = false
    case neg => rw [if_neg hd] at hf; cases hf
    rw [if_pos hd] at hf
    cases hf
    obtain ⟨a, o, ha, hH, hF, nd, hr⟩ := er.sl i _ hρ
    have hs : SlR dw (upd F a o) (upd H a o) σ[i]? (.fz (.p (kdI kvs))) := by
      have sb : Sub F (upd F a o) := fun b u z => by rw [upd_ne (ne_of_none z hF)]; exact z
      cases hr with
      | dk e1 e2 => exact ⟨_, ha, .dct upd_same e1 (e2.mono sb)⟩
    have er' := er.lend hρ ha hF nd (s := .fz (.p (kdI kvs))) (fun w z => by cases z) hs
    have hn := hr.nl rfl
    have ht := hr.nt
    rw [upd_self hH] at er'
    refine h σ _ H _ m (.p d) _ er' (dOf_ok h1) _ fun x F' H' e1 g1 r1 => ?_
    have e1' : Ext dw (upd F a o) (upd H a o) F' H' := by rw [upd_self hH]; exact e1
    obtain ⟨e2, g2⟩ := Ext.back hF hH nd e1' g1
    have hF' : F' a = some o := e1.fs _ _ upd_same
    have := upd_self (e1.kp _ _ hH nd)
    rw [this] at e2 g2
    exact q x _ H' e2 g2 (Rp.unf hF' hn ht r1 hd)
  · cases hf
theorem snd_borK (h : Snd X dw e f) : Snd X dw e (fun ρ m => match ρ[i]? with
    | some (some (.ow w)) => if isDct w = true then bnd (dOf (f (ρ.set i (some (.bd w))) m)) fun d m => if d.hasDict = false then ret (.p d) m else none else none
    | _ => none) := by
  intro σ F H ρ m v m' er hf Q q
  dsimp only at hf
  split at hf
  · rename_i w hρ
    by_cases hw : isDct w = true
    case neg => rw [if_neg hw] at hf; cases hf
    rw [if_pos hw] at hf
    obtain ⟨d, m1, h1, hf⟩ := bnd_ok hf
    by_cases hd : d.hasDict = false
    case neg => rw [if_neg hd] at hf; cases hf
    rw [if_pos hd] at hf
    cases hf
    obtain ⟨a, o, ha, hH, hF, nd, hr⟩ := er.sl i _ hρ
    refine we_of (pe_lock pe_we) ⟨a, o, hH, hr.mut, fun od => ?_⟩
    have sb : Sub F (upd F a (.frz od o)) := fun b u z => by rw [upd_ne (ne_of_none z hF)]; exact z
    have hs : SlR dw (upd F a (.frz od o)) (upd H a (.frz od o)) σ[i]? (.bd w) := ⟨a, od, o, ha, upd_same, hr.mono sb⟩
    have er' := er.lend hρ ha hF nd (s := .bd w) (fun w z => by cases z) hs
    refine h σ _ _ _ m (.p d) _ er' (dOf_ok h1) _ fun x F' H' e1 g1 r1 => ?_
    obtain ⟨e2, g2⟩ := Ext.back hF hH nd e1 g1
    have hF' : F' a = some (.frz od o) := e1.fs _ _ upd_same
    exact ⟨g1.sub _ _ hF', q x _ _ e2 g2 (Rp.unf hF' (fun _ z => by cases z) (fun _ z => by cases z) r1 hd)⟩
  · cases hf
end
section
variable {T : Str → Option Lit} {N : List Str} {cl : Str → List Val → Ms → R Val} {k : Nat} {dw : Dw} {X : Cx} {sc : Scope} {i : Nat}
theorem dict_read {σ : L2.St} {F H : Hp} {ρ : Rho} {m : Ms} {w : Ow} (er : Er dw σ F H ρ m) (h : dictOf ρ[i]? = some w) : ∃ a o, σ[i]? = some (some (.ref a)) ∧ OR F o w ∧ ∀ F' H' m', Ext dw F H F' H' → Gr dw F' H' m' → Rd H' a o := by
  unfold dictOf at h
  split at h
  · rename_i hρ
    cases h
    obtain ⟨a, o, h1, h2, h3, h4, h5⟩ := er.sl i _ hρ
    exact ⟨a, o, h1, h5, fun F' H' m' e g => .inl (e.kp _ _ h2 h4)⟩
  · rename_i hρ
    cases h
    obtain ⟨a, o, u, h1, h2, h3⟩ := er.sl i _ hρ
    exact ⟨a, u, h1, h3, fun F' H' m' e g => .inr ⟨o, g.sub _ _ (e.fs _ _ h2)⟩⟩
  · rename_i hρ
    obtain ⟨y, h1, h2⟩ := er.sl i _ hρ
    cases h2 with
    | dct k1 k2 k3 =>
      rw [decI_map] at h
      cases h
      exact ⟨_, _, h1, .dk k2 k3, fun F' H' m' e g => .inl (g.sub _ _ (e.fs _ _ k1))⟩
  · cases h
theorem varE_inv' {y : Expr} (h : chkVarE N sc i y = true) : ∃ x p, y = .Name x p ∧ chkVar N sc i x = true := by
  cases y with
  | Name x p => exact ⟨x, p, rfl, h⟩
  | _ => cases h
theorem dict_at {F H : Hp} {a : Addr} {o : HO} {w : Ow} {y : V} {z : PyData} {r : Option PyData} (hr : OR F o w) (hd : Rd H a o) (s : Sub F H) (ry : Rp F y z) (h : w.at z = some r) :
    ∃ v, DGet H a y v ∧ ((r = none ∧ v = none) ∨ ∃ d u, r = some d ∧ v = some u ∧ Rp F u d) := by
  cases hr with
  | lst _ => cases h
  | dk e1 e2 =>
    cases z with
    | int j =>
      cases ry
      have h : some (getA _ j) = some r := h
      cases h
      refine ⟨_, .inl ⟨_, .inl j, hd, rfl, rfl⟩, ?_⟩
      rcases getA_rel Sum.inl inl_inj e1 e2 j with ⟨d, v, q1, q2, q3⟩ | ⟨q1, q2⟩
      · exact .inr ⟨d, v, q1, q2, q3⟩
      · exact .inl ⟨q1, q2⟩
    | _ => cases h
  | dt e1 e2 =>
    cases z with
    | tuple l =>
      have h : (intsL l).map (fun k => getA _ k) = some r := h
      cases hi : intsL l with
      | none => rw [hi] at h; cases h
      | some is =>
        rw [hi] at h
        cases h
        obtain ⟨b, rfl, hb⟩ := tup_key ry hi
        refine ⟨_, .inr ⟨_, is.map Sum.inl, b, hd, rfl, s _ _ hb, rfl⟩, ?_⟩
        rcases getA_rel (fun k : List Int => (k.map Sum.inl : List Key)) inls_inj e1 e2 is with ⟨d, v, q1, q2, q3⟩ | ⟨q1, q2⟩
        · exact .inr ⟨d, v, q1, q2, q3⟩
        · exact .inl ⟨q1, q2⟩
    | _ => cases h
theorem dict_is {F H : Hp} {a : Addr} {o : HO} {w : Ow} {z : PyData} {r : Option PyData} (hr : OR F o w) (hd : Rd H a o) (h : w.at z = some r) : IsD H a := by
  cases hr with
  | lst _ => cases h
  | dk _ _ => exact .inl ⟨_, hd⟩
  | dt _ _ => exact .inr ⟨_, hd⟩
theorem snd_dix (c : Cok T N cl k X sc) {fk : Rho → Ms → R PyData} {a b : Expr} {pos : Pos} (hv : chkVarE N sc i a = true) (hb : SndD X dw b fk) (hs : noSlice b = true) :
    Snd X dw (.Subscript a b pos) (fun ρ m => bnd (fk ρ m) fun x m => opt ((dictOf ρ[i]?).bind fun w => (w.at x).bind fun o => o.map .p) m) := by
  intro σ F H ρ m v m' er hf Q q
  obtain ⟨z, m1, h1, hf⟩ := bnd_ok hf
  obtain ⟨h2, rfl⟩ := opt_ok hf
  obtain ⟨x, p, rfl, hv⟩ := varE_inv' hv
  have hu : X.A.units + 1 < cLine := by have := c.room.un; omega
  cases hw : dictOf ρ[i]? with
  | none => rw [hw] at h2; cases h2
  | some w =>
    rw [hw] at h2
    cases hz : w.at z with
    | none => have h2 : ((w.at z).bind fun o => o.map Val.p) = some v := h2; rw [hz] at h2; cases h2
    | some r =>
      have h2 : ((w.at z).bind fun o => o.map Val.p) = some v := h2
      rw [hz] at h2
      obtain ⟨ad, o, ha, hr, hd⟩ := dict_read er hw
      refine we_of (pe_dget hu (pe_v c hv) pe_we (no_sl hs)) ⟨_, ha, ?_⟩
      refine hb σ F H ρ m z _ er h1 _ fun y F1 H1 e1 g1 r1 => ?_
      obtain ⟨u, q1, q2⟩ := dict_at (hr.mono e1.fs) (hd _ _ _ e1 g1) g1.sub r1 hz
      rcases q2 with ⟨rfl, rfl⟩ | ⟨d, t, rfl, rfl, q3⟩
      · cases h2
      · cases h2
        exact ⟨_, _, rfl, q1, q _ _ _ e1 g1 q3⟩
theorem snd_dget (c : Cok T N cl k X sc) {fk fd : Rho → Ms → R PyData} {a b e : Expr} {ap pos : Pos} (hv : chkVarE N sc i a = true) (hb : SndD X dw b fk) (he : SndD X dw e fd) (s1 : noStar b = true) (s2 : noStar e = true) (hl : (ap.endLine == pos.line) = true) :
    Snd X dw (.Call (.Attribute a "get" ap) [b, e] [] pos) (fun ρ m => bnd (fk ρ m) fun x m => bnd (fd ρ m) fun y m => opt ((dictOf ρ[i]?).bind fun w => (w.at x).map fun o => .p (o.getD y)) m) := by
  intro σ F H ρ m v m' er hf Q q
  obtain ⟨z, m1, h1, hf⟩ := bnd_ok hf
  obtain ⟨t, m2, h3, hf⟩ := bnd_ok hf
  obtain ⟨h2, rfl⟩ := opt_ok hf
  obtain ⟨x, p, rfl, hv⟩ := varE_inv' hv
  have hu : X.A.units + 1 < cLine := by have := c.room.un; omega
  cases hw : dictOf ρ[i]? with
  | none => rw [hw] at h2; cases h2
  | some w =>
    rw [hw] at h2
    cases hz : w.at z with
    | none => have h2 : ((w.at z).map fun o => Val.p (o.getD t)) = some v := h2; rw [hz] at h2; cases h2
    | some r =>
      have h2 : ((w.at z).map fun o => Val.p (o.getD t)) = some v := h2
      rw [hz] at h2
      cases h2
      obtain ⟨ad, o, ha, hr, hd⟩ := dict_read er hw
      have x1 := star_cons (es := [e]) (env := X.env) s1
      have x2 := star_cons (es := []) (env := X.env) s2
      have mm : M2 X (.Name x p) "get" ap b e pos := ⟨rfl, by rw [x1, x2]; rfl, hl, by rw [x1, x2]; rfl⟩
      refine we_of (pe_dget2 hu (pe_v c hv) pe_we pe_we mm) ⟨_, ha, _, rfl, dict_is hr (hd _ _ _ (Ext.refl ..) er.gr) hz, ?_⟩
      refine hb σ F H ρ m z _ er h1 _ fun y F1 H1 e1 g1 r1 => ?_
      refine he σ F1 H1 ρ m1 t _ (er.ext e1 g1) h3 _ fun y2 F2 H2 e2 g2 r2 => ?_
      obtain ⟨u, q1, q2⟩ := dict_at (hr.mono (e1.trans e2).fs) (hd _ _ _ (e1.trans e2) g2) g2.sub (r1.mono e2.fs) hz
      refine ⟨u, q1, ?_⟩
      rcases q2 with ⟨rfl, rfl⟩ | ⟨d, t', rfl, rfl, q3⟩
      · exact q _ _ _ (e1.trans e2) g2 r2
      · exact q _ _ _ (e1.trans e2) g2 q3
end
end G

end
section
set_option maxHeartbeats 2000000
namespace G
open PySem PySem.Spec PyProof.Rows L2
theorem keys_rp {F : Hp} {js : List (Int × V)} {ds : List (Int × PyData)} (e : js.map (·.1) = ds.map (·.1)) : RpAll F ((js.map fun kv => ((Sum.inl kv.1 : Key), kv.2)).map fun kv => kV kv.1) (ds.map fun kv => PyData.int kv.1) := by
  have h := RpAll.of_ints (F := F) (ds.map (·.1))
  rw [← e] at h
  rw [e] at h
  have a : (js.map fun kv => ((Sum.inl kv.1 : Key), kv.2)).map (fun kv => kV kv.1) = (ds.map (·.1)).map V.int := by
    rw [← e, List.map_map, List.map_map]; rfl
  rw [a, show (ds.map fun kv => PyData.int kv.1) = (ds.map (·.1)).map PyData.int by rw [List.map_map]; rfl]
  exact h
theorem tkey_rp {F : Hp} {b : Addr} {is : List Int} (h : F b = some (.tup ((is.map Sum.inl : List Key).map kV))) : Rp F (.ref b) (.tuple (is.map .int)) := by
  refine .tup h ?_
  rw [List.map_map]
  exact RpAll.of_ints is
theorem tkeys_rp {F H : Hp} : ∀ {js : List (List Int × V)} {ds : List (List Int × PyData)} {bs : List Addr}, js.map (·.1) = ds.map (·.1) → IsKeys H (js.map fun kv => ((kv.1.map Sum.inl : List Key), kv.2)) bs → (∀ b ∈ bs, F b = H b) →
    RpAll F (bs.map V.ref) (ds.map fun kv => PyData.tuple (kv.1.map .int))
  | [], [], _, _, .nil, _ => .nil
  | (i, v) :: js, (j, d) :: ds, _, e, .cons h t, hb => by
    rw [List.map_cons, List.map_cons, List.cons.injEq] at e
    obtain ⟨rfl, e⟩ := e
    exact .cons (tkey_rp (by rw [hb _ (by simp)]; exact h)) (tkeys_rp e t fun b q => hb b (by simp [q]))
  | [], _ :: _, _, e, _, _ => by cases e
  | _ :: _, [], _, e, _, _ => by cases e
theorem keys_tup {H : Hp} : ∀ {kvs : List (List Key × V)} {bs : List Addr}, IsKeys H kvs bs → ∀ b ∈ bs, ∃ xs, H b = some (.tup xs)
  | _, _, .nil, _, h => nomatch h
  | _, _, .cons h t, b, q => by
    rcases List.mem_cons.mp q with rfl | q
    · exact ⟨_, h⟩
    · exact keys_tup t b q
section
variable {T : Str → Option Lit} {N : List Str} {cl : Str → List Val → Ms → R Val} {k : Nat} {dw : Dw} {X : Cx} {sc : Scope} {i : Nat}
theorem sndO_dkeys (c : Cok T N cl k X sc) {a : Expr} {p pos : Pos} (hv : chkVarE N sc i a = true) (hg : isGl sc "list" = true) (hs : noStar a = true) :
    SndO X dw (.Call (.Name "list" p) [a] [] pos) (fun ρ m => opt ((dictOf ρ[i]?).bind fun w => w.keys.map fun l => .p (.list l)) m) := by
  intro σ F H ρ m l m' er hf Q q
  obtain ⟨h2, rfl⟩ := opt_ok hf
  obtain ⟨x, px, rfl, hv⟩ := varE_inv' hv
  cases hw : dictOf ρ[i]? with
  | none => rw [hw] at h2; cases h2
  | some w =>
    rw [hw] at h2
    obtain ⟨ad, o, ha, hr, hd⟩ := dict_read er hw
    have hd := hd _ _ _ (Ext.refl ..) er.gr
    have gl := isGl_gl c.sce hg
    cases hr with
    | lst _ => cases h2
    | dk e1 e2 =>
      cases h2
      refine we_bi (b := .list) (call_listD c.calm) gl (c.bn _ (by decide)) hs (we_of (pe_v c hv) ⟨_, ha, ?_⟩)
      exact ⟨ad, _, rfl, hd, fun p hp => newO er.gr (Ext.refl ..) er.gr hp q (keys_rp e1)⟩
    | dt e1 e2 =>
      cases h2
      refine we_bi (b := .list) (call_list_dT c.calm) gl (c.bn _ (by decide)) hs (we_of (pe_v c hv) ⟨_, ha, ?_⟩)
      refine ⟨ad, _, rfl, hd, fun p bs hp hk => ?_⟩
      obtain ⟨F2, g2, x2, hb⟩ := er.gr.tups bs (keys_tup hk)
      exact newO er.gr x2 g2 hp q (tkeys_rp e1 hk hb)
theorem snd_dlen (c : Cok T N cl k X sc) {a : Expr} {p pos : Pos} (hv : chkVarE N sc i a = true) (hg : isGl sc "len" = true) (hs : noStar a = true) :
    Snd X dw (.Call (.Name "len" p) [a] [] pos) (fun ρ m => match ρ[i]? with
    | some (some (.ow (.dk kvs))) => ret (.p (.int kvs.length)) m
    | some (some (.fz (.p (.dict kvs)))) => ret (.p (.int kvs.length)) m
    | _ => none) := by
  intro σ F H ρ m v m' er hf Q q
  obtain ⟨x, px, rfl, hv⟩ := varE_inv' hv
  have gl := isGl_gl c.sce hg
  dsimp only at hf
  split at hf
  · rename_i kvs hρ
    cases hf
    obtain ⟨ad, o, ha, hH, hF, nd, hr⟩ := er.sl i _ hρ
    cases hr with
    | dk e1 e2 =>
      refine we_bi (b := .len) call_lenD gl (c.bn _ (by decide)) hs (we_of (pe_v c hv) ⟨_, ha, ad, _, rfl, hH, ?_⟩)
      have z : ∀ {js : List (Int × V)} {ds : List (Int × PyData)}, js.map (·.1) = ds.map (·.1) → (js.map fun kv => ((Sum.inl kv.1 : Key), kv.2)).length = ds.length := fun e => by have := congrArg List.length e; simpa using this
      rw [z e1]
      exact q _ _ _ (Ext.refl ..) er.gr (.int _)
  · rename_i kvs hρ
    cases hf
    obtain ⟨y, ha, hr⟩ := er.sl i _ hρ
    cases hr with
    | dct k1 e1 e2 =>
      refine we_bi (b := .len) call_lenD gl (c.bn _ (by decide)) hs (we_of (pe_v c hv) ⟨_, ha, _, _, rfl, er.gr.sub _ _ k1, ?_⟩)
      have : ∀ {js : List (Int × V)} {ds : List (Int × PyData)}, js.map (·.1) = ds.map (·.1) → (js.map fun kv => ((Sum.inl kv.1 : Key), kv.2)).length = (ds.map fun kv => (PyData.int kv.1, kv.2)).length := fun e => by have := congrArg List.length e; simpa using this
      rw [this e1]
      exact q _ _ _ (Ext.refl ..) er.gr (.int _)
  · cases hf
theorem it_keys {F : Hp} {a : Addr} {o : Obj} {js : List (Int × V)} {ds : List (Int × PyData)} (h : F a = some (.frz o (.dK (js.map fun kv => (.inl kv.1, kv.2))))) (e : js.map (·.1) = ds.map (·.1)) :
    ItOk F (Itk a o (js.map fun kv => (.inl kv.1, kv.2))) (ds.map fun kv => .int kv.1) where
  go := fun i Hc hi s => ⟨s _ _ h, by have := congrArg List.length e; simp at this hi ⊢; omega⟩
  stop := fun Hc s => ⟨s _ _ h, by have := congrArg List.length e; simp at this ⊢; omega⟩
  yld := fun i Hc x H' d hd s y => by
    obtain ⟨e1, kk, v, e2, rfl⟩ := y
    rw [List.getElem?_map] at hd e2
    obtain ⟨p1, q1, rfl⟩ := Option.map_eq_some_iff.mp hd
    obtain ⟨p2, q2, e3⟩ := Option.map_eq_some_iff.mp e2
    cases e3
    have := congrArg (fun l => l[i]?) e
    simp only [List.getElem?_map, q1, q2, Option.map_some, Option.some.injEq] at this
    refine .inl ⟨e1, ?_⟩
    rw [← this]
    exact .int _
theorem it_keysT {F : Hp} {a : Addr} {o : Obj} {js : List (List Int × V)} {ds : List (List Int × PyData)} (h : F a = some (.frz o (.dT (js.map fun kv => (kv.1.map .inl, kv.2))))) (e : js.map (·.1) = ds.map (·.1)) :
    ItOk F (Itkt a o (js.map fun kv => (kv.1.map .inl, kv.2))) (ds.map fun kv => .tuple (kv.1.map .int)) where
  go := fun i Hc hi s => ⟨s _ _ h, by have := congrArg List.length e; simp at this hi ⊢; omega⟩
  stop := fun Hc s => ⟨s _ _ h, by have := congrArg List.length e; simp at this ⊢; omega⟩
  yld := fun i Hc x H' d hd s y => by
    obtain ⟨e1, kk, v, U, e2, rfl, hU⟩ := y
    rw [List.getElem?_map] at hd e2
    obtain ⟨p1, q1, rfl⟩ := Option.map_eq_some_iff.mp hd
    obtain ⟨p2, q2, e3⟩ := Option.map_eq_some_iff.mp e2
    cases e3
    have := congrArg (fun l => l[i]?) e
    simp only [List.getElem?_map, q1, q2, Option.map_some, Option.some.injEq] at this
    refine .inr ⟨U, _, _, .inr ⟨hU, e1⟩, rfl, rfl, ?_⟩
    rw [← this, List.map_map]
    exact RpAll.of_ints p2.1
theorem sndI_keys (c : Cok T N cl k X sc) {tg a : Expr} (hv : chkVarE N sc i a = true) : SndI X dw tg a (fun ρ m => match ρ[i]? with
    | some (some (.bd w)) => opt w.keys m
    | _ => none) := by
  intro σ F H ρ m xs m' er hf Q q
  obtain ⟨x, px, rfl, hv⟩ := varE_inv' hv
  dsimp only at hf
  split at hf
  · rename_i w hρ
    obtain ⟨h2, rfl⟩ := opt_ok hf
    obtain ⟨ad, ob, u, ha, hF, hr⟩ := er.sl i _ hρ
    refine wi_of (pi_keys (pe_v c hv)) ⟨_, ha, ad, ob, rfl, ?_⟩
    cases hr with
    | lst _ => cases h2
    | dk e1 e2 =>
      cases h2
      exact .inl ⟨_, er.gr.sub _ _ hF, q _ F H (Ext.refl ..) er.gr (it_keys hF e1)⟩
    | dt e1 e2 =>
      cases h2
      exact .inr ⟨_, er.gr.sub _ _ hF, q _ F H (Ext.refl ..) er.gr (it_keysT hF e1)⟩
  · cases hf
end
end G

end
section
set_option maxHeartbeats 4000000
namespace G
open PySem PySem.Spec PyProof.Rows L2
section
variable {prog : Program} {w : World} {A : Around} {E : Value → Shared → Prop} {s : Shared}
theorem places_back (n : Nat) : Builtin.Slice.slicePlaces ((n : Int) - 1) (-1) (-1) = n := by
  unfold Builtin.Slice.slicePlaces
  have h1 : ¬ ((-1 : Int) > 0) := by omega
  have e : (-(-1) : Int) = 1 := rfl
  simp only [h1, if_false, e, Int.ediv_one]
  split <;> omega
theorem pick_back (xs : Array Value) : ((List.range xs.size).filterMap fun (m : Nat) => xs[(((xs.size : Int) - 1) + (m : Int) * (-1)).toNat]?).toArray = xs.toList.reverse.toArray := by
  rw [← PySem.W.krv_pick, slicePick, PySem.W.krv_bounds]
  show _ = ((sliceRange ((xs.size : Int) - 1) (-1) (-1)).filterMap (xs[·]?)).toArray
  rw [PySem.W.krv_sliceRange, List.filterMap_map]
  congr 2
  funext m
  show _ = xs[xs.size - 1 - m]?
  congr 1
  omega
theorem applied_back {sl : Addr} {vs : Value} {n : Nat} {Q : Int × Int × Nat → Shared → Prop} (hs : s.heap.IsSliceOf sl .none .none vs) (ps : IsPart vs (some (-1)))
    (h : Q ((n : Int) - 1, -1, n) s) : wpAny (model prog w) A (Builtin.Slice.sliceApplied (.ref sl) (pure (n : Int))) Q E s := by
  obtain ⟨os, hos, hcs, hds⟩ := id hs
  unfold Builtin.Slice.sliceApplied Builtin.Slice.sliceFields
  refine wpAny_bind (wpAny_bind (wpAny_field hos hds (x := .none) rfl (wpAny_bind (wpAny_field hos hds (x := .none) rfl (wpAny_bind (wpAny_field hos hds (x := vs) rfl (wpAny_pure ?_)))))))
  refine wpAny_bind (HT.slicePart_ ps ?_)
  show wpAny _ _ (if ((-1 : Int) == 0) = true then _ else _) _ _ s
  rw [if_neg (by decide)]
  refine wpAny_bind (PyProof.Rows.slicePart_none (wpAny_bind (PyProof.Rows.slicePart_none (wpAny_bind (wpAny_pure ?_)))))
  show wpAny _ _ (pure ((n : Int) - 1, (-1 : Int), Builtin.Slice.slicePlaces ((n : Int) - 1) (-1) (-1))) _ _ s
  rw [places_back]
  exact wpAny_pure h
theorem getItem_tuple_back {t sl : Addr} {items : Array Value} {vs : Value} {Q : Value → Shared → Prop} (ht : IsTup s.heap t items) (hs : s.heap.IsSliceOf sl .none .none vs) (ps : IsPart vs (some (-1)))
    (h : Q (.ref s.heap.objs.size) { s with heap := s.heap.push { cls := .type "tuple", data := .seq items.toList.reverse.toArray } }) (hsz : items.size ≤ sizeLine) : wpAny (model prog w) A (getItem (.ref t) (.ref sl)) Q E s := by
  have htake : sizeOk (.seq items.toList.reverse.toArray) := by
    show items.toList.reverse.toArray.size ≤ sizeLine
    rw [List.size_toArray, List.length_reverse, Array.length_toList]
    exact hsz
  obtain ⟨os, hos, hcs, hds⟩ := id hs
  have hTs : s.TypeIs (.ref sl) "slice" := ⟨os, hos, hcs⟩
  unfold getItem
  try with_reducible refine wpAny_holding ?_
  first | refine wpAny_bind (wpAny_pure ?_) | skip
  refine wpAny_bind (wpAny_sequenceKey ht.typeIs (by decide) ?_)
  refine wpAny_bind (wpAny_callSpecial?_slot (name := Str.ofString "__getitem__") ht.typeIs PyProof.Rows.slot_tuple_getitem
    (wpAny_call_entry PyProof.Rows.slot_tuple_getitem ht.typeIs entry_tuple_getitem ?_ (args_tuple_getitem _ _)))
  show wpAny _ _ (Builtin.Tuple.tupleItemsOf (.ref t) >>= _) _ _ s
  refine wpAny_bind (PyProof.Rows.tupleItemsOf_ ht ?_)
  refine wpAny_bind (wpAny_typeOf hTs ?_)
  rw [if_pos (by decide)]
  refine wpAny_bind (applied_back hs ps ?_)
  have hno : ¬ ((((items.size : Int) - 1) == 0 && (-1 : Int) == 1 && items.size == items.size) = true) := by
    rw [show ((-1 : Int) == 1) = false from rfl, Bool.and_false, Bool.false_and]
    exact Bool.false_ne_true
  show wpAny _ _ (if (((items.size : Int) - 1) == 0 && (-1 : Int) == 1 && items.size == items.size) = true then _ else _) _ _ s
  rw [if_neg hno, pick_back]
  first
    | exact wpAny_bind (m := Builtin.Tuple.tupleExact _) (wpAny_newObj_type (wpAny_pure ⟨_, rfl, wpAny_pure h⟩) htake)
    | exact wpAny_bind (m := Builtin.Tuple.tupleExact _) (wpAny_newObj_type (wpAny_bind (wpAny_pure (wpAny_pure ⟨_, rfl, wpAny_pure h⟩))) htake)
    | exact wpAny_bind (wpAny_bind (m := Builtin.Tuple.tupleExact _) (wpAny_newObj_type (wpAny_pure (wpAny_pure ⟨_, rfl, wpAny_pure h⟩)) htake))
    | exact wpAny_bind (wpAny_bind (m := Builtin.Tuple.tupleExact _) (wpAny_newObj_type (wpAny_pure ⟨_, rfl, wpAny_pure h⟩) htake))
end
section
variable {X : Cx}
def tRevT (K : PySem.W.Frag) (te : TE) : TE := fun σ H Q => te σ H fun x H1 => ∃ a xs, x = .ref a ∧ SqT K H1 a xs ∧ ∀ p, H1 p = none → Q (.ref p) (upd H1 p (.tup xs.reverse))
theorem pe_revT {e : Expr} {te : TE} {k : Nat} {p1 p2 p3 pos : Pos} (he : PE X e te) : PE X (.Subscript e (.Slice none none (some (.UnaryOp .USub (.Constant (.int 1) k p1) p2)) p3) pos) (tRevT X.K te) := by
  refine ⟨fun pins s σ H Q I h => ?_⟩
  refine Subscript_ (thn (he.run pins s σ H _ I h) fun v s1 ⟨x, H1, I1, r1, q1⟩ => ?_)
  obtain ⟨a, xs, ex, hx, q⟩ := q1
  subst ex
  cases r1
  have hst : PO X (some (.UnaryOp .USub (.Constant (.int 1) k p1) p2)) (tPart (tUn (rU fun i => .int (-i)) (tC (.int 1)))) := po_some (pe_un un_neg pe_int)
  refine wpAny_Slice ?_
  rw [evalPart_none]
  refine wpAny_pure (wpAny_pure ?_)
  refine thn (hst.run pins s1 σ H1 (fun o H4 => o = some (-1) ∧ H4 = H1) I1 ⟨1, rfl, -1, rfl, rfl, rfl⟩) fun vs s4 ⟨o, H4, I4, ps, eo, e4⟩ => ?_
  subst eo e4
  have I5 : Inv X pins σ H4 { s4 with heap := s4.heap.push { cls := .type "slice", data := .fields #[.none, .none, vs] } } := I4.kept (t' := s4.toks) fun b ob q => Heap.get?_push_of_some _ q
  obtain ⟨its, r, ht, hz⟩ := I5.tuple hx
  have hlen := r.length
  have hT : Shared.TypeIs { s4 with heap := s4.heap.push { cls := .type "slice", data := .fields #[.none, .none, vs] } } (.ref a) "tuple" := ht.typeIs
  show wpAny (model X.prog X.w) X.A (subscriptTail e (.Slice none none (some (.UnaryOp .USub (.Constant (.int 1) k p1) p2)) p3) (.ref a) (.ref s4.heap.objs.size)) (EP X pins σ Q) X.xe { s4 with heap := s4.heap.push { cls := .type "slice", data := .fields #[.none, .none, vs] } }
  refine tail_any (ops := [.ref a, .ref s4.heap.objs.size]) hT (PyProof.Rows.slot_tuple_getitem.lookup) ?_ (by with_unfolding_all rfl)
  refine getItem_tuple_back ht (Heap.IsSliceOf.new _ .none .none vs) ps ?_ (by rw [List.size_toArray]; omega)
  refine ⟨.ref _, _, I5.laid (t' := s4.toks) (o := .tup xs.reverse) (fun b ob q => Heap.get?_push_of_some _ q) (Nat.le_refl _) ?_, rfl, q _ (I5.hok.fresh (Nat.le_refl _))⟩
  exact ⟨by rw [List.length_reverse]; exact hz, _, r.reverse, IsTup.new _ _⟩

theorem rsize_up {i j c : Int} (hc : 0 < c) : Builtin.Range.rangeSize i j c = (rng3N i j c : Int) := by
  unfold Builtin.Range.rangeSize rng3N
  rw [if_pos hc]
  have e : j - i + c - 1 = (j - i - 1) + 1 * c := by omega
  rw [e, Int.add_mul_ediv_right _ _ (by omega)]
  by_cases h : i < j
  · rw [if_pos h]
    have := Int.ediv_nonneg (a := j - i - 1) (b := c) (by omega) (by omega)
    omega
  · rw [if_neg h]
    have := Int.ediv_neg_of_neg_of_pos (a := j - i - 1) (b := c) (by omega) hc
    omega
theorem rng3N_le {i j c : Int} (h : rngOk i j = true) (hc : 0 < c) : rng3N i j c ≤ 2000000 := by
  have h := of_decide_eq_true h
  have e := rsize_up (i := i) (j := j) hc
  unfold Builtin.Range.rangeSize at e
  rw [if_pos hc] at e
  split at e
  · have := Int.ediv_le_self c (show (0 : Int) ≤ j - i - 1 by omega)
    omega
  · omega
theorem small_up {i j c : Int} (h : rngOk i j = true) (hc : 0 < c) (hc2 : c ≤ 1000000) : Builtin.Range.small i j c = true := by
  have hn := rng3N_le h hc
  have h := of_decide_eq_true h
  unfold Builtin.Range.small
  rw [rsize_up hc]
  simp only [Builtin.Range.rangeFitsLong, Bool.and_eq_true, Bool.or_eq_true, decide_eq_true_eq, beq_iff_eq, show c > 0 from hc, if_true]
  refine ⟨⟨⟨⟨?_, ?_⟩, ?_⟩, ?_⟩, .inr ?_⟩ <;> omega
def WR3 (X : Cx) (e : Expr) : L2.St → Hp → (Int → Int → Int → Hp → Prop) → Prop := fun σ H Q => ∀ pins s, Inv X pins σ H s →
  wpAny (model X.prog X.w) X.A (eval e X.env) (fun x s' => ∃ r a b c t u v H', x = .ref r ∧ IsRange s'.heap r a b c t u v ∧ Inv X pins σ H' s' ∧ Q a b c H') X.xe s
theorem wr3_of {a b c : Expr} {ta : TA} {p pos : Pos} (hg : Gl X "range") (hm : X.mg "range" = none) (ha : PA X [a, b, c] ta)
    (hs : starEach [a, b, c] X.env = (false, eval a X.env) :: starEach [b, c] X.env) (hpl : (backTo pos (starEach [b, c] X.env)).any (·.1) = false) {σ : L2.St} {H : Hp} {Q : Int → Int → Int → Hp → Prop}
    (h : ta σ H fun vs H1 => ∃ (i j k : Int), vs = [.int i, .int j, .int k] ∧ 0 < k ∧ k ≤ 1000000 ∧ Q i j k H1) : WR3 X (.Call (.Name "range" p) [a, b, c] [] pos) σ H Q := by
  intro pins s I
  refine Call_ (ld_blt I hg hm boot_range (PyProof.Rows.callWith_type1 (thn (ha.run pos pins s σ H _ I h) fun us s1 ⟨vs, H1, I1, r1, q1⟩ => ?_) hs hpl))
  obtain ⟨i, j, k, e, c0, c1, q⟩ := q1
  subst e
  cases r1 with
  | cons r rr =>
    cases rr with
    | cons r' rr =>
      cases rr with
      | cons r'' rr =>
        cases rr
        obtain ⟨t, rfl⟩ := r
        obtain ⟨t', rfl⟩ := r'
        obtain ⟨t'', rfl⟩ := r''
        refine call_range_3 (by omega) ?_ (.inl (PyProof.noPylong_small (by omega)))
        have I2 : Inv X pins σ H1 { s1 with heap := s1.heap.push { cls := .type "range", data := .fields #[.int i t, .int j t', .int k t''] } } := I1.kept (t' := s1.toks) fun b o e => Heap.get?_push_of_some _ e
        exact ⟨_, i, j, k, _, _, _, H1, rfl, IsRange.new _ _ _ _ _ _ _, I2, q⟩
def rg3V (a c : Int) (n : Nat) : List V := (List.range n).map fun i => V.int (a + (i : Nat) * c)
theorem vals_rg3 {a c : Int} {n : Nat} {acc : Array Value} (h : ItemsOf (fun i v => ∃ t, v = .int (a + i * c) t) acc n) : Vals (rg3V a c n) acc.toList := by
  have e : acc.toList.length = n := by rw [Array.length_toList]; exact h.1
  unfold rg3V
  rw [← e]
  refine vals_of_get acc.toList _ fun j u hj => ?_
  obtain ⟨t, rfl⟩ := h.2 j u (by rw [← hj, Array.getElem?_toList])
  exact ⟨t, rfl⟩
theorem we_tupRg3 {e : Expr} {p pos : Pos} (hc : X.calm = true) (hg : Gl X "tuple") (hm : X.mg "tuple" = none) (na : starEach [e] X.env = (false, eval e X.env) :: starEach [] X.env) {σ : L2.St} {H : Hp} {Q : VK}
    (h : WR3 X e σ H fun a b c H1 => 0 < c ∧ c ≤ 1000000 ∧ rngOk a b = true ∧ ∀ q, H1 q = none → Q (.ref q) (upd H1 q (.tup (rg3V a c (rng3N a b c))))) : WE X (.Call (.Name "tuple" p) [e] [] pos) σ H Q := by
  intro pins s I
  refine Call_ (ld_blt I hg hm boot_tuple (PyProof.Rows.callWith_type1 (args_cons (thn (h pins s I) fun x s1 ⟨r, a, b, c, t, u, v, H1, ex, hr, I1, c0, c1, ok, q⟩ => args_nil ?_) na) na))
  subst ex
  have hn := rng3N_le ok c0
  refine call_tuple_range (n := rng3N a b c) (I1.ok.hd hc) hr (small_up ok c0 c1) (rsize_up c0) (Nat.le_trans hn (by decide)) fun h' tk acc hk hi => ?_
  have I2 : Inv X pins σ H1 { s1 with heap := h', toks := tk } := I1.kept hk
  refine ⟨.ref h'.objs.size, upd H1 h'.objs.size (.tup (rg3V a c (rng3N a b c))), I2.laid (t' := tk) (fun c o e => Heap.get?_push_of_some _ e) (Nat.le_refl _) (show ObjOk X.prog X.w _ _ _ (.tup (rg3V a c (rng3N a b c))) from ⟨?_, acc.toList, vals_rg3 hi, ?_⟩), rfl, q _ (I2.hok.fresh (Nat.le_refl _))⟩
  · unfold rg3V
    rw [List.length_map, List.length_range]
    exact Nat.le_trans hn (by decide)
  · rw [Array.toArray_toList]; exact IsTup.new _ _
end
theorem rg3_rel {F : Hp} (lo c : Int) : ∀ l : List Nat, RpAll F (l.map fun i => V.int (lo + (i : Nat) * c)) (l.map fun i => PyData.int (lo + (i : Nat) * c))
  | [] => .nil
  | _ :: r => .cons (.int _) (rg3_rel lo c r)
theorem it_rng3 {F : Hp} (lo c : Int) (n : Nat) : ItOk F (Itc lo c n) (rng3L lo c n) where
  go := fun i Hc hi s => by unfold rng3L at hi; rw [List.length_map, List.length_range] at hi; exact hi
  stop := fun Hc s => by unfold rng3L; rw [List.length_map, List.length_range]; exact Nat.le_refl _
  yld := fun i Hc x H' d hd s y => by
    obtain ⟨e, rfl⟩ := y
    unfold rng3L at hd
    rw [List.getElem?_map] at hd
    obtain ⟨k, q1, rfl⟩ := Option.map_eq_some_iff.mp hd
    have : k = i := by
      have := List.getElem?_eq_some_iff.mp q1
      obtain ⟨_, q2⟩ := this
      rw [List.getElem_range] at q2
      exact q2.symm
    subst this
    exact .inl ⟨e, .int _⟩
section
variable {T : Str → Option Lit} {N : List Str} {cl : Str → List Val → Ms → R Val} {k : Nat} {dw : Dw} {X : Cx} {sc : Scope}
variable {a b e : Expr} {pos : Pos} {fa fb fe : Rho → Ms → R PyData}
theorem rng3_inv {x y z : PyData} {m m' : Ms} {xs : List PyData} (h : (match x, y, z with
    | .int i, .int j, .int c => if rngOk i j = true ∧ 0 < c ∧ c ≤ 1000000 then ret (rng3L i c (rng3N i j c)) m else none
    | _, _, _ => none) = some (.ok xs, m')) : ∃ i j c, x = .int i ∧ y = .int j ∧ z = .int c ∧ rngOk i j = true ∧ 0 < c ∧ c ≤ 1000000 ∧ m' = m ∧ xs = rng3L i c (rng3N i j c) := by
  split at h
  · rename_i i j c
    by_cases hr : rngOk i j = true ∧ 0 < c ∧ c ≤ 1000000
    · rw [if_pos hr] at h; cases h; exact ⟨i, j, c, rfl, rfl, rfl, hr.1, hr.2.1, hr.2.2, rfl, rfl⟩
    · rw [if_neg hr] at h; cases h
  · cases h
theorem three (ha : SndD X dw a fa) (hb : SndD X dw b fb) (he : SndD X dw e fe) {σ : L2.St} {F H : Hp} {ρ : Rho} {m m1 m2 m3 : Ms} {d1 d2 d3 : PyData} (er : Er dw σ F H ρ m)
    (h1 : fa ρ m = some (.ok d1, m1)) (h2 : fb ρ m1 = some (.ok d2, m2)) (h3 : fe ρ m2 = some (.ok d3, m3)) {T : V → V → V → Hp → Prop} (fin : ∀ x y z F' H', Ext dw F H F' H' → Gr dw F' H' m3 → Rp F' x d1 → Rp F' y d2 → Rp F' z d3 → T x y z H') :
    WE X a σ H fun x H1 => WE X b σ H1 fun y H2 => WE X e σ H2 fun z H3 => T x y z H3 :=
  two ha hb er h1 h2 fun x y F2 H2 e2 g2 r1 r2 => he σ F2 H2 ρ m2 d3 m3 (er.ext e2 g2) h3 _ fun z F3 H3 e3 g3 r3 => fin x y z F3 H3 (e2.trans e3) g3 (r1.mono e3.fs) (r2.mono e3.fs) r3
def rng3F (fa fb fe : Rho → Ms → R PyData) : Rho → Ms → R (List PyData) := fun ρ m => bnd (fa ρ m) fun x m => bnd (fb ρ m) fun y m => bnd (fe ρ m) fun z m => match x, y, z with
    | .int i, .int j, .int c => if rngOk i j = true ∧ 0 < c ∧ c ≤ 1000000 then ret (rng3L i c (rng3N i j c)) m else none
    | _, _, _ => none
theorem sndI_r3 (c : Cok T N cl k X sc) {tg : Expr} {p : Pos} (ha : SndD X dw a fa) (hb : SndD X dw b fb) (he : SndD X dw e fe) (hg : isGl sc "range" = true) (hs : noStar a = true) (hs2 : noStar b = true) (hs3 : noStar e = true) :
    SndI X dw tg (.Call (.Name "range" p) [a, b, e] [] pos) (rng3F fa fb fe) := by
  intro σ F H ρ m xs m' er hf Q q
  obtain ⟨x, m1, h1, hf⟩ := bnd_ok hf
  obtain ⟨y, m2, h2, hf⟩ := bnd_ok hf
  obtain ⟨z, m3, h3, hf⟩ := bnd_ok hf
  obtain ⟨i, j, cc, rfl, rfl, rfl, hr, c0, c1, rfl, rfl⟩ := rng3_inv hf
  have s1 := star_cons (es := [b, e]) (env := X.env) hs
  have s2 := star_cons (es := [e]) (env := X.env) hs2
  have s3 := star_cons (es := []) (env := X.env) hs3
  refine wi_of (pi_range3 (isGl_gl c.sce hg) (c.bn _ (by decide)) (pa_cons pe_we (pa_cons pe_we (pa_cons pe_we pa_nil s3) s2) s1) s1 (by rw [s2, s3]; rfl)) (three ha hb he er h1 h2 h3 fun x y z F2 H2 e g r1 r2 r3 => ?_)
  cases r1; cases r2; cases r3
  exact ⟨i, j, cc, _, rfl, ⟨by omega, by omega, small_up hr c0 c1, rsize_up c0⟩, q _ F2 H2 e g (it_rng3 _ _ _)⟩
theorem snd_rngt3 (c : Cok T N cl k X sc) {p p2 q2 : Pos} (ha : SndD X dw a fa) (hb : SndD X dw b fb) (he : SndD X dw e fe) (hg : isGl sc "range" = true) (hgt : isGl sc "tuple" = true) (hs : noStar a = true) (hs2 : noStar b = true) (hs3 : noStar e = true) :
    Snd X dw (.Call (.Name "tuple" p2) [.Call (.Name "range" p) [a, b, e] [] q2] [] pos) (fun ρ m => bnd (rng3F fa fb fe ρ m) fun xs m => ret (.p (.tuple xs)) m) := by
  intro σ F H ρ m v m' er hf Q q
  obtain ⟨xs, m0, h0, hf⟩ := bnd_ok hf
  cases hf
  obtain ⟨x, m1, h1, h0⟩ := bnd_ok h0
  obtain ⟨y, m2, h2, h0⟩ := bnd_ok h0
  obtain ⟨z, m3, h3, h0⟩ := bnd_ok h0
  obtain ⟨i, j, cc, rfl, rfl, rfl, hr, c0, c1, rfl, rfl⟩ := rng3_inv h0
  have s1 := star_cons (es := [b, e]) (env := X.env) hs
  have s2 := star_cons (es := [e]) (env := X.env) hs2
  have s3 := star_cons (es := []) (env := X.env) hs3
  refine we_tupRg3 c.calm (isGl_gl c.sce hgt) (c.bn _ (by decide)) rfl ?_
  refine wr3_of (isGl_gl c.sce hg) (c.bn _ (by decide)) (pa_cons pe_we (pa_cons pe_we (pa_cons pe_we pa_nil s3) s2) s1) s1 (by rw [s2, s3]; rfl) (three ha hb he er h1 h2 h3 fun x y z F2 H2 e g r1 r2 r3 => ?_)
  cases r1; cases r2; cases r3
  refine ⟨i, j, cc, rfl, c0, c1, c0, c1, hr, fun p hp => ?_⟩
  obtain ⟨g4, e4⟩ := g.laidF (o := .tup _) hp
  exact q _ _ _ (e.trans e4) g4 (.tup upd_same ((rg3_rel i cc _).mono e4.fs))
theorem snd_rev' {kk : Nat} {p1 p2 p3 : Pos} (ha : SndD X dw a fa) : Snd X dw (.Subscript a (.Slice none none (some (.UnaryOp .USub (.Constant (.int 1) kk p1) p2)) p3) pos) (fun ρ m => bnd (fa ρ m) fun x m => match x with
    | .list xs => ret (.p (.list xs.reverse)) m
    | .tuple xs => ret (.p (.tuple xs.reverse)) m
    | _ => none) := by
  intro σ F H ρ m v m' er hf Q q
  obtain ⟨x, m1, h1, hf⟩ := bnd_ok hf
  split at hf
  · cases hf
    refine we_of (pe_revL pe_we) (ha σ F H ρ m _ _ er h1 _ fun u F1 H1 e1 g1 r1 => ?_)
    cases r1 with
    | lst k1 k2 =>
      refine ⟨_, _, rfl, SqL.of (g1.sub _ _ k1), fun p hp => ?_⟩
      obtain ⟨g4, e4⟩ := g1.laidF (o := .lst _) hp
      exact q _ _ _ (e1.trans e4) g4 (.lst upd_same (k2.rev.mono e4.fs))
  · cases hf
    refine we_of (pe_revT pe_we) (ha σ F H ρ m _ _ er h1 _ fun u F1 H1 e1 g1 r1 => ?_)
    cases r1 with
    | tup k1 k2 =>
      refine ⟨_, _, rfl, SqT.of (g1.sub _ _ k1), fun p hp => ?_⟩
      obtain ⟨g4, e4⟩ := g1.laidF (o := .tup _) hp
      exact q _ _ _ (e1.trans e4) g4 (.tup upd_same (k2.rev.mono e4.fs))
  · cases hf
end
section
variable {X : Cx}
theorem mt_tindexD (hu : X.A.units + 65 < cLine) : MtR X "tuple.index" (fun x xs H Q => ∃ (a : Addr) (y : V) (d : PyData) (ds : List PyData) (j : Nat) (z : PyData), x = V.ref a ∧ xs = [y] ∧ Dp X.K H (V.ref a) (.tuple ds) ∧ Dp X.K H y d ∧
    SeqAt.shaped (.tuple ds) = true ∧ SeqAt.shaped d = true ∧ ds[j]? = some z ∧ PyData.eqv z d = true ∧ (∀ (m : Nat) (z' : PyData), m < j → ds[m]? = some z' → PyData.eqv z' d = false) ∧ Q (.int (j : Nat)) H) := by
  intro pins s σ H x xs v us Q I rx rxs h
  obtain ⟨a, y, d, ds, j, z, rfl, rfl, hl, hy, sl, sd, hz, hzj, hno, q⟩ := h
  cases rx
  cases rxs with
  | cons ry rt =>
    rename_i uy ut
    cases rt
    obtain ⟨bs, r1⟩ := Dp.reads I d y uy hy ry
    have hxs : PyData.canLayAll0 ds = true := by
      have := SeqAt.canLay_of_shaped sl
      simpa [PyData.canLay0] using this
    have hroom : X.A.units + 1 + min (PyData.depthAll ds) d.depth < cLine := room_in_shaped sd hu
    cases hl with
    | tup hs ha =>
      obtain ⟨its, rv, ⟨⟨cls, dd, data, sls⟩, ho, hc, n, hdt⟩, hlen⟩ := I.tuple hs
      simp only at hc hdt
      subst hc hdt
      obtain ⟨as, h4⟩ := Dp.readsAll I ds _ its ha rv
      have hn : its.length = ds.length := SeqAt.ReadsAll.length ds its as h4
      have hmap : its.map (SeqAt.readOf s.heap) = ds := SeqAt.readsAll_map ds its as hxs h4
      have hvl := rv.length
      obtain ⟨hjd, _⟩ := List.getElem?_eq_some_iff.mp hz
      have hjl : j < its.length := by omega
      have hj : j < its.toArray.size := by simpa using hjl
      have at_ : ∀ (m : Nat) (hm : m < its.toArray.size) (z' : PyData), ds[m]? = some z' → SeqAt.readOf s.heap its.toArray[m] = z' := by
        intro m hm z' hz'
        have hml : m < its.length := by simpa using hm
        rw [← hmap, List.getElem?_map, List.getElem?_eq_getElem hml] at hz'
        have e1 : SeqAt.readOf s.heap its[m] = z' := Option.some.inj (show some (SeqAt.readOf s.heap its[m]) = some z' from hz')
        simpa using e1
      refine call_meets PySem.F.slot_tuple_index ⟨_, ho, rfl⟩ PySem.F.entry_tuple_index (PySem.F.args_tuple_index_2 _ _)
        (TI.tuple_indexAt a its.toArray n dd sls uy (fun u => PyData.eqv (SeqAt.readOf s.heap u) d) j hj ?_ ?_) ⟨ho, SeqAt.items_eqAt (vs := its.toArray) (show ReadsAll s.heap its.toArray.toList ds as from h4) r1 hxs (SeqAt.canLay_of_shaped sd) hroom, ?_⟩
      · show PyData.eqv (SeqAt.readOf s.heap its.toArray[j]) d = true
        rw [at_ j hj z hz]
        exact hzj
      · intro m hm hmj
        have hmd : m < ds.length := by
          have : m < its.length := by simpa using hm
          omega
        have hz' : ds[m]? = some ds[m] := List.getElem?_eq_getElem hmd
        show PyData.eqv (SeqAt.readOf s.heap its.toArray[m]) d = false
        rw [at_ m hm _ hz']
        exact hno m _ hmj hz'
      · exact ⟨.int (j : Nat), H, I.tok _, ⟨_, rfl⟩, q⟩
end
section
variable {T : Str → Option Lit} {N : List Str} {cl : Str → List Val → Ms → R Val} {k : Nat} {dw : Dw} {X : Cx} {sc : Scope}
variable {a b e : Expr} {pos : Pos} {fa fb fe : Rho → Ms → R PyData}
end
end G

end
section
set_option maxHeartbeats 8000000
namespace G
open PySem PySem.Spec PyProof.Rows L2
section
variable {T : Str → Option Lit} {N : List Str} {cl : Str → List Val → Ms → R Val} {k : Nat} {dw : Dw}
theorem litC_pe {X : Cx} : ∀ {c : Lit} {kk : Const} {n : Nat} {p : Pos}, litC c kk = true → PE X (.Constant kk n p) (tC c.v)
  | .non, .none, _, _, _ => pe_non
  | .bl b, .bool b', _, _, h => by
    have : b = b' := by simpa [litC] using h
    subst this; exact pe_bl
  | .int i, .int j, _, _, h => by
    have : i = j := by simpa [litC] using h
    subst this; exact pe_int
  | .str x, .str y, _, _, h => by
    have : x = y := by simpa [litC] using h
    subst this; exact pe_str
theorem snd_lit {X : Cx} {e : Expr} {c : Lit} (h : PE X e (tC c.v)) : Snd X dw e (fun _ m => ret (.p c.d) m) := by
  intro σ F H ρ m v m' er hf Q q
  cases hf
  exact we_of h (q _ F H (Ext.refl ..) er.gr c.rp)
theorem snd_seqs {X : Cx} {es : List Expr} {f : Rho → Ms → R (List PyData)} (h : SndEs X dw es f) {n : Nat} {p : Pos} : Snd X dw (.Tuple es n p) (fun ρ m => bnd (f ρ m) fun vs m => if vs.length ≤ lim then ret (.p (.tuple vs)) m else none) ∧
    SndO X dw (.List es p) (fun ρ m => bnd (f ρ m) fun vs m => if vs.length ≤ lim then ret (.p (.list vs)) m else none) := by
  refine ⟨fun σ F H ρ m v m' er hf Q q => ?_, fun σ F H ρ m l m' er hf Q q => ?_⟩
  · obtain ⟨vs, m1, h1, hf⟩ := bnd_ok hf
    split at hf <;> cases hf
    rename_i hl
    refine we_of (pe_tup pa_wa) (h σ F H ρ m vs _ er h1 _ fun xs F1 H1 e1 g1 r1 => ⟨lim_line (by rw [r1.length]; exact hl), fun p hp => ?_⟩)
    obtain ⟨g4, e4⟩ := g1.laidF (o := .tup _) hp
    exact q _ _ _ (e1.trans e4) g4 (.tup upd_same (r1.mono e4.fs))
  · obtain ⟨vs, m1, h1, hf⟩ := bnd_ok hf
    split at hf <;> cases hf
    rename_i hl
    refine we_of (pe_lst pa_wa) (h σ F H ρ m _ _ er h1 _ fun xs F1 H1 e1 g1 r1 => ⟨lim_line (by rw [r1.length]; exact hl), fun p hp => newO er.gr e1 g1 hp q r1⟩)
theorem SndO.snd {X : Cx} {e : Expr} {f : Rho → Ms → R Val} (h : SndO X dw e f) (hl : ∀ ρ m v m', f ρ m = some (.ok v, m') → ∃ l, v = .p (.list l)) : Snd X dw e f := by
  intro σ F H ρ m v m' er hf Q q
  obtain ⟨l, rfl⟩ := hl _ _ _ _ hf
  exact h.p er hf q
theorem lst_list {f : Rho → Ms → R (List PyData)} {ρ : Rho} {m m' : Ms} {v : Val} (h : (bnd (f ρ m) fun vs m => if vs.length ≤ lim then ret (Val.p (.list vs)) m else none) = some (.ok v, m')) : ∃ l, v = .p (.list l) := by
  obtain ⟨vs, m1, _, h⟩ := bnd_ok h
  split at h <;> cases h
  exact ⟨_, rfl⟩
theorem compF_list {fi : Rho → Ms → R (List PyData)} {tg : Tg} {fc : Rho → Ms → R Bool} {fe : Rho → Ms → R PyData} {ρ : Rho} {m m' : Ms} {v : Val} (h : compF fi tg fc fe ρ m = some (.ok v, m')) : ∃ l, v = .p (.list l) := by
  obtain ⟨xs, m1, _, h⟩ := bnd_ok h
  split at h
  · obtain ⟨ys, m2, _, h⟩ := bnd_ok h
    cases h; exact ⟨_, rfl⟩
  · cases h
theorem sndEs_nil {X : Cx} : SndEs X dw [] (fun _ m => ret [] m) := by
  intro σ F H ρ m d m' er hf Q q
  cases hf
  exact wa_of pa_nil (q _ F H (Ext.refl ..) er.gr .nil)
theorem sndEs_cons {X : Cx} {e : Expr} {es : List Expr} {fe : Rho → Ms → R PyData} {f : Rho → Ms → R (List PyData)} (he : SndD X dw e fe) (h : SndEs X dw es f) (hs : noStar e = true) : SndEs X dw (e :: es) (fun ρ m => bnd (fe ρ m) fun x m => bnd (f ρ m) fun xs m => ret (x :: xs) m) := by
  intro σ F H ρ m d m' er hf Q q
  obtain ⟨x, m1, h1, hf⟩ := bnd_ok hf
  obtain ⟨xs, m2, h2, hf⟩ := bnd_ok hf
  cases hf
  refine wa_of (pa_cons pe_we pa_wa (star_cons hs)) (he σ F H ρ m x m1 er h1 _ fun u F1 H1 e1 g1 r1 => ?_)
  exact h σ F1 H1 ρ m1 xs _ (er.ext e1 g1) h2 _ fun us F2 H2 e2 g2 r2 => q _ F2 H2 (e1.trans e2) g2 (.cons (r1.mono e2.fs) r2)
theorem sndAs_nil {X : Cx} : SndAs X dw [] (fun _ m => ret [] m) := by
  intro σ F H ρ m d m' er hf Q q
  cases hf
  exact wa_of pa_nil (q _ F H (Ext.refl ..) er.gr .nil)
theorem sndAs_cons {X : Cx} {e : Expr} {es : List Expr} {fe : Rho → Ms → R Val} {f : Rho → Ms → R (List Val)} (he : Snd X dw e fe) (h : SndAs X dw es f) (hs : noStar e = true) : SndAs X dw (e :: es) (fun ρ m => bnd (fe ρ m) fun x m => bnd (f ρ m) fun xs m => ret (x :: xs) m) := by
  intro σ F H ρ m d m' er hf Q q
  obtain ⟨x, m1, h1, hf⟩ := bnd_ok hf
  obtain ⟨xs, m2, h2, hf⟩ := bnd_ok hf
  cases hf
  refine wa_of (pa_cons pe_we pa_wa (star_cons hs)) (he σ F H ρ m x m1 er h1 _ fun u F1 H1 e1 g1 r1 => ?_)
  exact h σ F1 H1 ρ m1 xs _ (er.ext e1 g1) h2 _ fun us F2 H2 e2 g2 r2 => q _ F2 H2 (e1.trans e2) g2 (.cons (r1.mono e2.fs) r2)
theorem snd_call {X : Cx} {sc : Scope} (c : Cok T N cl k X sc) {f : Str} {p pos : Pos} {es : List Expr} {fs : Rho → Ms → R (List Val)} (h : SndAs X dw es fs) (hes : es = [] → ∀ ρ m vs m', fs ρ m = some (.ok vs, m') → vs = [] ∧ m' = m) (hgl : isGl sc f = true) (hpl : plainN f = true) (hst : es.all noStar = true) :
    Snd X dw (.Call (.Name f p) es [] pos) (fun ρ m => bnd (fs ρ m) fun vs m => cl f vs m) := by
  intro σ F H ρ m v m' er hf Q q
  obtain ⟨vs, m1, h1, hf2⟩ := bnd_ok hf
  cases es with
  | nil =>
    obtain ⟨e1, e2⟩ := hes rfl _ _ _ _ h1
    rw [e1, e2] at hf2
    exact we_call0 c hf2 hgl hpl er.gr q
  | cons e es => exact we_call c hf2 hgl hpl hst (h σ F H ρ m vs m1 er h1 _ fun xs F1 H1 e1 g1 r1 => ⟨F1, g1, r1, fun y F2 H2 e2 g2 r2 => q y F2 H2 (e1.trans e2) g2 r2⟩)
theorem sndC_no {X : Cx} : SndC X dw [] (fun _ m => ret true m) := by
  intro σ F H ρ m b m' er hf Q q
  cases hf
  exact wc_of pts_nil (q F H (Ext.refl ..) er.gr)
theorem sndC_yes {X : Cx} {e : Expr} {f : Rho → Ms → R Bool} (h : SndT X dw e f) : SndC X dw [e] f := by
  intro σ F H ρ m b m' er hf Q q
  exact wc_of (pts_one pt_wt) (h σ F H ρ m b m' er hf _ q)
theorem snd_dct {X : Cx} {p : Pos} : Snd X dw (.Dict [] [] p) (fun _ m => ret (.p (.dict [])) m) := by
  intro σ F H ρ m v m' er hf Q q
  cases hf
  refine we_of pe_dnewK (fun d hd => ?_)
  obtain ⟨g4, e4⟩ := er.gr.laidF (o := .dK []) hd
  exact q _ _ _ e4 g4 (.dct (ks := []) (ds := []) upd_same rfl .nil)
theorem es_star : ∀ {es : Es} {xs : List Expr} {sc : Scope}, chkEs T N sc es xs = true → xs.all noStar = true
  | .nil, [], _, _ => rfl
  | .cons e r, x :: xs, sc, h => by
    simp only [chkEs, Bool.and_eq_true] at h
    rw [List.all_cons, h.2, es_star h.1.2]; rfl
  | .nil, _ :: _, _, h => by cases h
  | .cons _ _, [], _, h => by cases h
theorem es_nil {es : Es} {sc : Scope} (h : chkEs T N sc es [] = true) : es = .nil := by
  cases es with
  | nil => rfl
  | cons e r => cases h

theorem snd_ite' {X : Cx} {e a b : Expr} {p : Pos} {fc fx fy : Rho → Ms → R Val} (hc : SndT X dw e (boolV fc)) (ha : Snd X dw a fx) (hb : Snd X dw b fy) : Snd X dw (.IfExp e a b p) (fun ρ m => bnd (dOf (fc ρ m)) fun x m => match boolOf x with
    | some true => fx ρ m
    | some false => fy ρ m
    | none => none) := by
  intro σ F H ρ m v m' er hf Q q
  refine snd_ite hc ha hb σ F H ρ m v m' er ?_ Q q
  obtain ⟨d, m1, h1, hf⟩ := bnd_ok hf
  show bnd (boolV fc ρ m) _ = _
  unfold boolV
  rw [h1, bnd_some]
  cases hb' : boolOf d with
  | none => rw [hb'] at hf; cases hf
  | some t => rw [hb'] at hf; cases t <;> exact hf
theorem sndT_not' {X : Cx} {a : Expr} {p : Pos} {f : Rho → Ms → R Val} (ha : SndT X dw a (boolV f)) : SndT X dw (.UnaryOp .Not a p) (boolV fun ρ m => bnd (dOf (f ρ m)) fun x m => opt ((boolOf x).map fun b => .p (.bool (!b))) m) := by
  intro σ F H ρ m b m' er hf Q q
  refine sndT_not ha σ F H ρ m b m' er ?_ Q q
  obtain ⟨d, m1, h1, hf⟩ := bnd_ok (boolV_ok hf)
  obtain ⟨h2, rfl⟩ := opt_ok hf
  show bnd (boolV f ρ m) _ = _
  unfold boolV
  rw [h1, bnd_some]
  cases hb' : boolOf d with
  | none => rw [hb'] at h2; cases h2
  | some t => rw [hb'] at h2; cases h2; rfl
theorem sndT_cmp' {X : Cx} {sc : Scope} (c : Cok T N cl k X sc) {a b : Expr} {p : Pos} {fa fb : Rho → Ms → R PyData} (ha : SndD X dw a fa) (hb : SndD X dw b fb) {op : CmpOp} (hs : noSet b = true) :
    SndT X dw (.Compare a [op] [b] p) (boolV fun ρ m => bnd (fa ρ m) fun x m => bnd (fb ρ m) fun y m => opt ((cmpD op x y).map fun b => .p (.bool b)) m) := by
  intro σ F H ρ m r m' er hf Q q
  refine sndT_cmp c ha hb hs σ F H ρ m r m' er ?_ Q q
  obtain ⟨x, m1, h1, hf⟩ := bnd_ok (boolV_ok hf)
  obtain ⟨y, m2, h2, hf⟩ := bnd_ok hf
  obtain ⟨h3, rfl⟩ := opt_ok hf
  show bnd (fa ρ m) _ = _
  rw [h1, bnd_some, h2, bnd_some]
  cases hc : cmpD op x y with
  | none => rw [hc] at h3; cases h3
  | some t => rw [hc] at h3; cases h3; rfl
theorem rev_inv {sc : Scope} {a : E} {e : Expr} (h : chkE T N sc (.rev a) e = true) : ∃ x kk p1 p2 p3 p4, e = .Subscript x (.Slice none none (some (.UnaryOp .USub (.Constant (.int 1) kk p1) p2)) p3) p4 ∧ chkE T N sc a x = true := by
  cases e with
  | Subscript x y p =>
    cases y with
    | Slice l u st p3 =>
      cases l with
      | some _ => cases h
      | none =>
        cases u with
        | some _ => cases h
        | none =>
          cases st with
          | none => cases h
          | some z =>
            cases z with
            | UnaryOp op w p2 =>
              cases op with
              | USub =>
                cases w with
                | Constant c kk p1 =>
                  cases c with
                  | int i =>
                    by_cases hi : i = 1
                    · subst hi; exact ⟨_, _, _, _, _, _, rfl, h⟩
                    · exfalso
                      unfold chkE at h
                      split at h <;> simp_all
                  | _ => cases h
                | _ => cases h
              | _ => cases h
            | _ => cases h
    | _ => cases h
  | _ => cases h
theorem set_inv {sc : Scope} {a : E} {e : Expr} {f : Str} (h : (match e with
    | .Call g [.Call g2 [x] [] _] [] _ => chkG sc f g && chkG sc "set" g2 && chkE T N sc a x && noStar x
    | _ => false) = true) : ∃ p p2 q pos x, e = .Call (.Name f p) [.Call (.Name "set" p2) [x] [] q] [] pos ∧ isGl sc f = true ∧ isGl sc "set" = true ∧ chkE T N sc a x = true ∧ noStar x = true := by
  split at h
  · simp only [Bool.and_eq_true] at h
    obtain ⟨⟨⟨h0, h1⟩, h2⟩, h3⟩ := h
    obtain ⟨p, rfl, k1, _⟩ := chkG_name h0
    obtain ⟨p2, rfl, k2, _⟩ := chkG_name h1
    exact ⟨_, _, _, _, _, rfl, k1, k2, h2, h3⟩
  · cases h
theorem srt_inv {sc : Scope} {a : E} {e : Expr} (h : chkE T N sc (.srt a) e = true) : ∃ p p2 q pos x, e = .Call (.Name "sorted" p) [.Call (.Name "set" p2) [x] [] q] [] pos ∧ isGl sc "sorted" = true ∧ isGl sc "set" = true ∧ chkE T N sc a x = true ∧ noStar x = true := by
  refine set_inv (T := T) (N := N) (a := a) ?_
  unfold chkE at h
  split at h <;> first | exact h | simp_all
theorem lens_inv {sc : Scope} {a : E} {e : Expr} (h : chkE T N sc (.lens a) e = true) : ∃ p p2 q pos x, e = .Call (.Name "len" p) [.Call (.Name "set" p2) [x] [] q] [] pos ∧ isGl sc "len" = true ∧ isGl sc "set" = true ∧ chkE T N sc a x = true ∧ noStar x = true := by
  refine set_inv (T := T) (N := N) (a := a) ?_
  unfold chkE at h
  split at h <;> first | exact h | simp_all
theorem srt_list {f : Rho → Ms → R PyData} {ρ : Rho} {m m' : Ms} {v : Val} (h : (bnd (f ρ m) fun x m => opt ((srtD x).map .p) m) = some (.ok v, m')) : ∃ l, v = .p (.list l) := by
  obtain ⟨x, m1, _, h⟩ := bnd_ok h
  obtain ⟨h, _⟩ := opt_ok h
  unfold srtD at h
  cases q : seqI x with
  | none => rw [q] at h; cases h
  | some is =>
    rw [q] at h
    by_cases z : is.length ≤ 1000 ∧ (usort is).length < 64
    · simp only [Option.bind_some, if_pos z] at h
      cases h; exact ⟨_, rfl⟩
    · simp only [Option.bind_some, if_neg z] at h
      cases h
theorem chkTg_tup {sc : Scope} {tg : Tg} {t : Expr} (h : chkTg N sc tg t = true) : ∀ a b, tg = .two a b → ∃ els n p, t = .Tuple els n p := by
  intro a b e
  subst e
  obtain ⟨x, y, n, p, rfl, _⟩ := chkTg_two h
  exact ⟨_, _, _, rfl⟩
theorem dkeys_list {o : Option Ow} {m m' : Ms} {v : Val} (h : opt (o.bind fun w => w.keys.map fun l => Val.p (.list l)) m = some (.ok v, m')) : ∃ l, v = .p (.list l) := by
  obtain ⟨h2, _⟩ := opt_ok h
  cases o with
  | none => cases h2
  | some w =>
    have h2 : (w.keys.map fun l => Val.p (.list l)) = some v := h2
    cases e : w.keys with
    | none => rw [e] at h2; cases h2
    | some l => rw [e] at h2; cases h2; exact ⟨_, rfl⟩
mutual
theorem snd : ∀ (t : E) (X : Cx) (sc : Scope) (e : Expr), Cok T N cl k X sc → chkE T N sc t e = true → Snd X dw e (ev cl t)
  | .var i, X, sc, e, c, h => by
    cases e with
    | Name x p => exact snd_var c h
    | _ => cases h
  | .cst l, X, sc, e, c, h => by
    cases e with
    | Constant kk n p => exact snd_lit (litC_pe h)
    | _ => cases h
  | .glb x l, X, sc, e, c, h => by
    have h : (chkG sc x e && decide (T x = some l)) = true := by cases e <;> exact h
    simp only [Bool.and_eq_true, decide_eq_true_eq] at h
    obtain ⟨p, rfl, h1, h2⟩ := chkG_name h.1
    obtain ⟨u, h3, h4⟩ := c.gl x l h.2
    exact snd_lit (pe_glob (isGl_gl c.sce h1) h3 h4 (plain3 h2).1)
  | .tup es, X, sc, e, c, h => by
    cases e with
    | Tuple xs n p => exact (snd_seqs (sndEs es X sc xs c h)).1
    | _ => cases h
  | .lst es, X, sc, e, c, h => by
    cases e with
    | List xs p => exact (snd_seqs (n := 0) (sndEs es X sc xs c h)).2.snd fun ρ m v m' hh => lst_list hh
    | _ => cases h
  | .dct, X, sc, e, c, h => by
    cases e with
    | Dict ks vs p =>
      cases ks with
      | nil =>
        cases vs with
        | nil => exact snd_dct
        | cons _ _ => cases h
      | cons _ _ => cases h
    | _ => cases h
  | .bin op a b, X, sc, e, c, h => by
    cases e with
    | BinOp x op' y p =>
      simp only [chkE, Bool.and_eq_true, decide_eq_true_eq] at h
      obtain ⟨⟨rfl, h1⟩, h2⟩ := h
      exact snd_bin (snd a X sc x c h1).d (snd b X sc y c h2).d
    | _ => cases h
  | .neg a, X, sc, e, c, h => by
    cases e with
    | UnaryOp op x p =>
      cases op with
      | USub => exact snd_neg (snd a X sc x c h).d
      | _ => cases h
    | _ => cases h
  | .not a, X, sc, e, c, h => by
    cases e with
    | UnaryOp op x p =>
      cases op with
      | Not => exact snd_not (snd a X sc x c h).d
      | _ => cases h
    | _ => cases h
  | .cmp op a b, X, sc, e, c, h => by
    cases e with
    | Compare x ops ys p =>
      match ops, ys, h with
      | [op'], [y], h =>
        simp only [chkE, Bool.and_eq_true, decide_eq_true_eq] at h
        obtain ⟨⟨⟨rfl, h1⟩, h2⟩, h3⟩ := h
        exact snd_cmp c (snd a X sc x c h1).d (snd b X sc y c h2).d h3
    | _ => cases h
  | .chain o q a b d, X, sc, e, c, h => by
    cases e with
    | Compare x ops ys p =>
      match ops, ys, h with
      | [o', q'], [y, z], h =>
        simp only [chkE, Bool.and_eq_true, decide_eq_true_eq] at h
        obtain ⟨⟨⟨⟨⟨⟨rfl, rfl⟩, h1⟩, h2⟩, h3⟩, h4⟩, h5⟩ := h
        exact snd_chain c (snd a X sc x c h1).d (snd b X sc y c h2).d (snd d X sc z c h3).d h4 h5
    | _ => cases h
  | .and a r, X, sc, e, c, h => by
    cases e with
    | BoolOp op xs p =>
      cases op with
      | And =>
        cases xs with
        | nil => cases h
        | cons x xs =>
          simp only [chkE, Bool.and_eq_true] at h
          exact (bok r X sc xs c h.2 p x _ (snd a X sc x c h.1)).1
      | _ => cases h
    | _ => cases h
  | .or a r, X, sc, e, c, h => by
    cases e with
    | BoolOp op xs p =>
      cases op with
      | Or =>
        cases xs with
        | nil => cases h
        | cons x xs =>
          simp only [chkE, Bool.and_eq_true] at h
          exact (bok r X sc xs c h.2 p x _ (snd a X sc x c h.1)).2
      | _ => cases h
    | _ => cases h
  | .ite d a b, X, sc, e, c, h => by
    cases e with
    | IfExp z x y p =>
      simp only [chkE, Bool.and_eq_true] at h
      obtain ⟨⟨⟨h0, h1⟩, h2⟩, h3⟩ := h
      exact snd_ite' (sndT d X sc z c h0 h1) (snd a X sc x c h2) (snd b X sc y c h3)
    | _ => cases h
  | .idx a i, X, sc, e, c, h => by
    cases e with
    | Subscript x y p =>
      simp only [chkE, Bool.and_eq_true] at h
      obtain ⟨⟨h1, h2⟩, h3⟩ := h
      exact snd_idx c (sndL_of c h1 (snd a X sc x c h1)) (snd i X sc y c h2).d h3
    | _ => cases h
  | .slc a lo hi, X, sc, e, c, h => by
    cases e with
    | Subscript x y p =>
      cases y with
      | Slice l u s p2 =>
        cases s with
        | none =>
          simp only [chkE, Bool.and_eq_true] at h
          obtain ⟨⟨h1, h2⟩, h3⟩ := h
          exact snd_slc (snd a X sc x c h1).d (sndO' lo X sc l c h2) (sndO' hi X sc u c h3)
        | some _ => cases h
      | _ => cases h
    | _ => cases h
  | .rev a, X, sc, e, c, h => by
    obtain ⟨x, kk, p1, p2, p3, p4, rfl, h⟩ := rev_inv h
    exact snd_rev' (snd a X sc x c h).d
  | .call f es, X, sc, e, c, h => by
    cases e with
    | Call g xs ks p =>
      cases ks with
      | nil =>
        simp only [chkE, Bool.and_eq_true] at h
        obtain ⟨q, rfl, h1, h2⟩ := chkG_name h.1
        refine snd_call c (sndAs es X sc xs c h.2) (fun hx => ?_) h1 h2 (es_star h.2)
        subst hx
        cases es_nil h.2
        intro ρ m vs m' hh
        cases hh
        exact ⟨rfl, rfl⟩
      | cons _ _ => cases h
    | _ => cases h
  | .bi b a, X, sc, e, c, h => by
    cases e with
    | Call g xs ks p =>
      match xs, ks, h with
      | [x], [], h =>
        simp only [chkE, Bool.and_eq_true] at h
        obtain ⟨⟨h0, h1⟩, h2⟩ := h
        obtain ⟨q, rfl, h3, _⟩ := chkG_name h0
        exact snd_bi c (sndL_of c h1 (snd a X sc x c h1)) h3 h2
    | _ => cases h
  | .bi2 b a d, X, sc, e, c, h => by
    cases e with
    | Call g xs ks p =>
      match xs, ks, h with
      | [x, y], [], h =>
        simp only [chkE, Bool.and_eq_true] at h
        obtain ⟨⟨⟨⟨h0, h1⟩, h2⟩, h3⟩, h4⟩ := h
        obtain ⟨q, rfl, h5, _⟩ := chkG_name h0
        exact snd_bi2 c (snd a X sc x c h1).d (snd d X sc y c h2).d h5 h3 h4
    | _ => cases h
  | .rngs kk it, X, sc, e, c, h => by
    cases e with
    | Call g xs ks p =>
      match xs, ks, h with
      | [x], [], h =>
        simp only [chkE, Bool.and_eq_true] at h
        obtain ⟨⟨⟨h0, h1⟩, h2⟩, h3⟩ := h
        obtain ⟨q, rfl, h4, _⟩ := chkG_name h0
        by_cases h5 : rng12 it = true
        · have hr := sndR it X sc x c h1 h5
          cases kk with
          | true => exact snd_rngt c hr h4 h2
          | false => exact snd_rngs c hr h4 h2
        · cases kk with
          | false => simp [h5] at h3
          | true =>
            cases it with
            | rng3 a b d =>
              cases x with
              | Call g xs ks p =>
                match xs, ks, h1 with
                | [x, y, z], [], hh =>
                  simp only [chkI, Bool.and_eq_true] at hh
                  obtain ⟨⟨⟨⟨⟨⟨k0, k1⟩, k2⟩, k3⟩, k6⟩, k7⟩, k8⟩ := hh
                  obtain ⟨q, rfl, k9, _⟩ := chkG_name k0
                  exact snd_rngt3 c (snd a X sc x c k1).d (snd b X sc y c k2).d (snd d X sc z c k3).d k9 h4 k6 k7 k8
              | _ => cases h1
            | _ => simp [h5, rng3B] at h3
    | _ => cases h
  | .comp t tg it d, X, sc, e, c, h => by
    cases e with
    | ListComp x gs scope p =>
      match gs, h with
      | [⟨t', i, ifs, z⟩], h =>
        simp only [chkE, Bool.and_eq_true, decide_eq_true_eq] at h
        obtain ⟨⟨⟨⟨⟨⟨⟨⟨rfl, h0⟩, h1⟩, h2⟩, h3⟩, h4⟩, h5⟩, h6⟩, h7⟩ := h
        exact (sndO_comp c (sndI it X sc tg t' i c h0 (chkTg_tup h4) h1) h2 h3 h4 h5 (fun X' b => sndC d X' _ ifs (c.blk b) h6) (fun X' b => (snd t X' _ x (c.blk b) h7).d)).snd fun ρ m v m' hh => compF_list hh
    | _ => cases h
  | .isi a ts, X, sc, e, c, h => by
    cases e with
    | Call g xs ks p =>
      match xs, ks, h with
      | [x, y], [], h =>
        simp only [chkE, Bool.and_eq_true, decide_eq_true_eq, List.all_eq_true] at h
        obtain ⟨⟨⟨⟨⟨⟨h0, h1⟩, h2⟩, h3⟩, h4⟩, h5⟩, h6⟩ := h
        obtain ⟨q, rfl, h7, _⟩ := chkG_name h0
        exact we_isi c (snd a X sc x c h1).d h5 (fun t ht => by simpa using h6 t ht) h2 h7 h3 h4
    | _ => cases h
  | .index l a, X, sc, e, c, h => by
    cases e with
    | Call g xs ks p =>
      cases g with
      | Attribute y m ap =>
        match xs, ks, h with
        | [z], [], h =>
          simp only [chkE, Bool.and_eq_true, decide_eq_true_eq] at h
          obtain ⟨⟨⟨⟨⟨rfl, h1⟩, h2⟩, h3⟩, h4⟩, h5⟩ := h
          exact snd_index c (snd l X sc y c h1).d (snd a X sc z c h2).d h3 h4 h5
      | _ => cases h
    | _ => cases h
  | .srt a, X, sc, e, c, h => by
    obtain ⟨p, p2, q, pos, x, rfl, h1, h2, h3, h4⟩ := srt_inv h
    exact (snd_srt c (sndL_of c h3 (snd a X sc x c h3)) h1 h2 h4).snd fun ρ m v m' hh => srt_list (f := fun ρ m => lk a ρ m (ev cl a ρ m)) hh
  | .lens a, X, sc, e, c, h => by
    obtain ⟨p, p2, q, pos, x, rfl, h1, h2, h3, h4⟩ := lens_inv h
    exact snd_lens c (sndL_of c h3 (snd a X sc x c h3)) h1 h2 h4
  | .bor i d, X, sc, e, c, h => snd_bor (snd d X sc e c (by cases e <;> exact h))
  | .borK i d, X, sc, e, c, h => snd_borK (snd d X sc e c (by cases e <;> exact h))
  | .dix i a, X, sc, e, c, h => by
    cases e with
    | Subscript x y p =>
      simp only [chkE, Bool.and_eq_true] at h
      exact snd_dix c h.1.1 (snd a X sc y c h.1.2).d h.2
    | _ => cases h
  | .dget i a d, X, sc, e, c, h => by
    cases e with
    | Call g xs ks p =>
      cases g with
      | Attribute y m ap =>
        match xs, ks, h with
        | [z, u], [], h =>
          simp only [chkE, Bool.and_eq_true, decide_eq_true_eq] at h
          obtain ⟨⟨⟨⟨⟨⟨rfl, h1⟩, h2⟩, h3⟩, h4⟩, h5⟩, h6⟩ := h
          exact snd_dget c h1 (snd a X sc z c h2).d (snd d X sc u c h3).d h4 h5 h6
      | _ => cases h
    | _ => cases h
  | .dkeys i, X, sc, e, c, h => by
    cases e with
    | Call g xs ks p =>
      match xs, ks, h with
      | [x], [], h =>
        simp only [chkE, Bool.and_eq_true] at h
        obtain ⟨q, rfl, h3, _⟩ := chkG_name h.1.1
        exact (sndO_dkeys c h.1.2 h3 h.2).snd fun ρ m v m' hh => dkeys_list hh
    | _ => cases h
  | .dlen i, X, sc, e, c, h => by
    cases e with
    | Call g xs ks p =>
      match xs, ks, h with
      | [x], [], h =>
        simp only [chkE, Bool.and_eq_true] at h
        obtain ⟨q, rfl, h3, _⟩ := chkG_name h.1.1
        exact snd_dlen c h.1.2 h3 h.2
    | _ => cases h
theorem sndEs : ∀ (es : Es) (X : Cx) (sc : Scope) (xs : List Expr), Cok T N cl k X sc → chkEs T N sc es xs = true → SndEs X dw xs (evs cl es)
  | .nil, X, sc, xs, c, h => by
    cases xs with
    | nil => exact sndEs_nil
    | cons _ _ => cases h
  | .cons e r, X, sc, xs, c, h => by
    cases xs with
    | nil => cases h
    | cons x xs =>
      simp only [chkEs, Bool.and_eq_true] at h
      exact sndEs_cons (snd e X sc x c h.1.1).d (sndEs r X sc xs c h.1.2) h.2
theorem sndAs : ∀ (es : Es) (X : Cx) (sc : Scope) (xs : List Expr), Cok T N cl k X sc → chkEs T N sc es xs = true → SndAs X dw xs (eva cl es)
  | .nil, X, sc, xs, c, h => by
    cases xs with
    | nil => exact sndAs_nil
    | cons _ _ => cases h
  | .cons e r, X, sc, xs, c, h => by
    cases xs with
    | nil => cases h
    | cons x xs =>
      simp only [chkEs, Bool.and_eq_true] at h
      exact sndAs_cons (snd e X sc x c h.1.1) (sndAs r X sc xs c h.1.2) h.2
theorem bok : ∀ (es : Es) (X : Cx) (sc : Scope) (xs : List Expr), Cok T N cl k X sc → chkEs T N sc es xs = true → BOK cl X dw es xs
  | .nil, X, sc, xs, c, h => by
    cases xs with
    | nil => exact bok_nil
    | cons _ _ => cases h
  | .cons e r, X, sc, xs, c, h => by
    cases xs with
    | nil => cases h
    | cons x xs =>
      simp only [chkEs, Bool.and_eq_true] at h
      exact bok_cons (snd e X sc x c h.1.1) (bok r X sc xs c h.1.2)
theorem tok : ∀ (es : Es) (X : Cx) (sc : Scope) (xs : List Expr), Cok T N cl k X sc → tstEs es = true → chkEs T N sc es xs = true → TOK cl X dw es xs
  | .nil, X, sc, xs, c, _, h => by
    cases xs with
    | nil => exact tok_nil
    | cons _ _ => cases h
  | .cons e r, X, sc, xs, c, ht, h => by
    cases xs with
    | nil => cases h
    | cons x xs =>
      simp only [chkEs, Bool.and_eq_true] at h
      simp only [tstEs, Bool.and_eq_true] at ht
      exact tok_cons (sndT e X sc x c ht.1 h.1.1) (tok r X sc xs c ht.2 h.1.2)
theorem sndO' : ∀ (o : Oe) (X : Cx) (sc : Scope) (e : Option Expr), Cok T N cl k X sc → chkO T N sc o e = true → SndP X dw e (evO cl o)
  | .no, X, sc, e, c, h => by
    cases e with
    | none => exact sndP_no
    | some _ => cases h
  | .yes a, X, sc, e, c, h => by
    cases e with
    | none => cases h
    | some x => exact sndP_yes (snd a X sc x c h).d
theorem sndC : ∀ (o : Oe) (X : Cx) (sc : Scope) (ifs : List Expr), Cok T N cl k X sc → chkC T N sc o ifs = true → SndC X dw ifs (evC cl o)
  | .no, X, sc, e, c, h => by
    cases e with
    | nil => exact sndC_no
    | cons _ _ => cases h
  | .yes a, X, sc, e, c, h => by
    match e, h with
    | [x], h =>
      simp only [chkC, Bool.and_eq_true] at h
      exact sndC_yes (sndT a X sc x c h.1 h.2)
theorem sndI : ∀ (it : Lp) (X : Cx) (sc : Scope) (tg : Tg) (t i : Expr), Cok T N cl k X sc → tgIt tg it = true → (∀ a b, tg = .two a b → ∃ els n p, t = .Tuple els n p) → chkI T N sc it i = true → SndI X dw t i (evI cl it)
  | .val a, X, sc, tg, t, i, c, _, _, h => sndI_seq (snd a X sc i c h).d
  | .keys j, X, sc, tg, t, i, c, _, _, h => sndI_keys c h
  | .rng3 a b d, X, sc, tg, t, i, c, _, _, h => by
    cases i with
    | Call g xs ks p =>
      match xs, ks, h with
      | [x, y, z], [], h =>
        simp only [chkI, Bool.and_eq_true] at h
        obtain ⟨⟨⟨⟨⟨⟨h0, h1⟩, h2⟩, h3⟩, h4⟩, h5⟩, h6⟩ := h
        obtain ⟨q, rfl, h7, _⟩ := chkG_name h0
        exact sndI_r3 c (snd a X sc x c h1).d (snd b X sc y c h2).d (snd d X sc z c h3).d h7 h4 h5 h6
    | _ => cases h
  | .rng1 b, X, sc, tg, t, i, c, _, _, h => by
    cases i with
    | Call g xs ks p =>
      match xs, ks, h with
      | [x], [], h =>
        simp only [chkI, Bool.and_eq_true] at h
        obtain ⟨q, rfl, h3, _⟩ := chkG_name h.1.1
        exact sndI_r1 c (snd b X sc x c h.1.2).d h3 h.2
    | _ => cases h
  | .rng2 a b, X, sc, tg, t, i, c, _, _, h => by
    cases i with
    | Call g xs ks p =>
      match xs, ks, h with
      | [x, y], [], h =>
        simp only [chkI, Bool.and_eq_true] at h
        obtain ⟨⟨⟨⟨h0, h1⟩, h2⟩, h4⟩, h5⟩ := h
        obtain ⟨q, rfl, h3, _⟩ := chkG_name h0
        exact sndI_r2 c (snd a X sc x c h1).d (snd b X sc y c h2).d h3 h4 h5
    | _ => cases h
  | .enum a, X, sc, tg, t, i, c, ht, htt, h => by
    cases tg with
    | one _ => cases ht
    | two u v =>
      obtain ⟨els, n, p, rfl⟩ := htt u v rfl
      cases i with
      | Call g xs ks p =>
        match xs, ks, h with
        | [x], [], h =>
          simp only [chkI, Bool.and_eq_true] at h
          obtain ⟨q, rfl, h3, _⟩ := chkG_name h.1.1
          exact sndI_enum c (snd a X sc x c h.1.2).d h3 h.2
      | _ => cases h
  | .zip a b, X, sc, tg, t, i, c, ht, htt, h => by
    cases tg with
    | one _ => cases ht
    | two u v =>
      obtain ⟨els, n, p, rfl⟩ := htt u v rfl
      cases i with
      | Call g xs ks p =>
        match xs, ks, h with
        | [x, y], [], h =>
          simp only [chkI, Bool.and_eq_true] at h
          obtain ⟨⟨⟨⟨h0, h1⟩, h2⟩, h4⟩, h5⟩ := h
          obtain ⟨q, rfl, h3, _⟩ := chkG_name h0
          exact sndI_zip c (snd a X sc x c h1).d (snd b X sc y c h2).d h3 h4 h5
      | _ => cases h
theorem sndR : ∀ (it : Lp) (X : Cx) (sc : Scope) (i : Expr), Cok T N cl k X sc → chkI T N sc it i = true → rng12 it = true → SndR X dw i (evI cl it)
  | .rng1 b, X, sc, i, c, h, _ => by
    cases i with
    | Call g xs ks p =>
      match xs, ks, h with
      | [x], [], h =>
        simp only [chkI, Bool.and_eq_true] at h
        obtain ⟨q, rfl, h3, _⟩ := chkG_name h.1.1
        exact sndR_1 c (snd b X sc x c h.1.2).d h3 h.2
    | _ => cases h
  | .rng2 a b, X, sc, i, c, h, _ => by
    cases i with
    | Call g xs ks p =>
      match xs, ks, h with
      | [x, y], [], h =>
        simp only [chkI, Bool.and_eq_true] at h
        obtain ⟨⟨⟨⟨h0, h1⟩, h2⟩, h4⟩, h5⟩ := h
        obtain ⟨q, rfl, h3, _⟩ := chkG_name h0
        exact sndR_2 c (snd a X sc x c h1).d (snd b X sc y c h2).d h3 h4 h5
    | _ => cases h
  | .val _, _, _, _, _, _, h => by cases h
  | .rng3 _ _ _, _, _, _, _, _, h => by cases h
  | .keys _, _, _, _, _, _, h => by cases h
  | .enum _, _, _, _, _, _, h => by cases h
  | .zip _ _, _, _, _, _, _, h => by cases h
theorem sndT : ∀ (t : E) (X : Cx) (sc : Scope) (e : Expr), Cok T N cl k X sc → tstE t = true → chkE T N sc t e = true → SndT X dw e (boolV (ev cl t))
  | .not a, X, sc, e, c, ht, h => by
    cases e with
    | UnaryOp op x p =>
      cases op with
      | Not => exact sndT_not' (sndT a X sc x c ht h)
      | _ => cases h
    | _ => cases h
  | .cmp op a b, X, sc, e, c, _, h => by
    cases e with
    | Compare x ops ys p =>
      match ops, ys, h with
      | [op'], [y], h =>
        simp only [chkE, Bool.and_eq_true, decide_eq_true_eq] at h
        obtain ⟨⟨⟨rfl, h1⟩, h2⟩, h3⟩ := h
        exact sndT_cmp' c (snd a X sc x c h1).d (snd b X sc y c h2).d h3
    | _ => cases h
  | .chain o q a b d, X, sc, e, c, _, h => by
    cases e with
    | Compare x ops ys p =>
      match ops, ys, h with
      | [o', q'], [y, z], h =>
        simp only [chkE, Bool.and_eq_true, decide_eq_true_eq] at h
        obtain ⟨⟨⟨⟨⟨⟨rfl, rfl⟩, h1⟩, h2⟩, h3⟩, h4⟩, h5⟩ := h
        exact sndT_chain c (snd a X sc x c h1).d (snd b X sc y c h2).d (snd d X sc z c h3).d h4 h5
    | _ => cases h
  | .and a r, X, sc, e, c, ht, h => by
    cases e with
    | BoolOp op xs p =>
      cases op with
      | And =>
        cases xs with
        | nil => cases h
        | cons x xs =>
          simp only [chkE, Bool.and_eq_true] at h
          simp only [tstE, Bool.and_eq_true] at ht
          exact (tok r X sc xs c ht.2 h.2 p x _ (sndT a X sc x c ht.1 h.1)).1.t
      | _ => cases h
    | _ => cases h
  | .or a r, X, sc, e, c, ht, h => by
    cases e with
    | BoolOp op xs p =>
      cases op with
      | Or =>
        cases xs with
        | nil => cases h
        | cons x xs =>
          simp only [chkE, Bool.and_eq_true] at h
          simp only [tstE, Bool.and_eq_true] at ht
          exact (tok r X sc xs c ht.2 h.2 p x _ (sndT a X sc x c ht.1 h.1)).2.t
      | _ => cases h
    | _ => cases h
  | .ite _ _ _, _, _, _, _, ht, _ => by cases ht
  | .var i, X, sc, e, c, _, h => sndT_val (snd (.var i) X sc e c h) (by cases e <;> first | rfl | cases h)
  | .cst l, X, sc, e, c, _, h => sndT_val (snd (.cst l) X sc e c h) (by cases e <;> first | rfl | cases h)
  | .glb x l, X, sc, e, c, _, h => sndT_val (snd (.glb x l) X sc e c h) (by cases e <;> first | rfl | cases h)
  | .tup es, X, sc, e, c, _, h => sndT_val (snd (.tup es) X sc e c h) (by cases e <;> first | rfl | cases h)
  | .lst es, X, sc, e, c, _, h => sndT_val (snd (.lst es) X sc e c h) (by cases e <;> first | rfl | cases h)
  | .dct, X, sc, e, c, _, h => sndT_val (snd .dct X sc e c h) (by cases e <;> first | rfl | cases h)
  | .bin op a b, X, sc, e, c, _, h => sndT_val (snd (.bin op a b) X sc e c h) (by cases e <;> first | rfl | cases h)
  | .neg a, X, sc, e, c, _, h => sndT_val (snd (.neg a) X sc e c h) (by
      cases e with
      | UnaryOp op x p => cases op <;> first | rfl | cases h
      | _ => first | rfl | cases h)
  | .idx a i, X, sc, e, c, _, h => sndT_val (snd (.idx a i) X sc e c h) (by cases e <;> first | rfl | cases h)
  | .slc a lo hi, X, sc, e, c, _, h => sndT_val (snd (.slc a lo hi) X sc e c h) (by cases e <;> first | rfl | cases h)
  | .rev a, X, sc, e, c, _, h => sndT_val (snd (.rev a) X sc e c h) (by cases e <;> first | rfl | cases h)
  | .call f es, X, sc, e, c, _, h => sndT_val (snd (.call f es) X sc e c h) (by cases e <;> first | rfl | cases h)
  | .bi b a, X, sc, e, c, _, h => sndT_val (snd (.bi b a) X sc e c h) (by cases e <;> first | rfl | cases h)
  | .bi2 b a d, X, sc, e, c, _, h => sndT_val (snd (.bi2 b a d) X sc e c h) (by cases e <;> first | rfl | cases h)
  | .rngs kk it, X, sc, e, c, _, h => sndT_val (snd (.rngs kk it) X sc e c h) (by cases e <;> first | rfl | cases h)
  | .comp t tg it d, X, sc, e, c, _, h => sndT_val (snd (.comp t tg it d) X sc e c h) (by cases e <;> first | rfl | cases h)
  | .isi a ts, X, sc, e, c, _, h => sndT_val (snd (.isi a ts) X sc e c h) (by cases e <;> first | rfl | cases h)
  | .srt a, X, sc, e, c, _, h => sndT_val (snd (.srt a) X sc e c h) (by cases e <;> first | rfl | cases h)
  | .bor _ _, _, _, _, _, ht, _ => by cases ht
  | .borK _ _, _, _, _, _, ht, _ => by cases ht
  | .dix i a, X, sc, e, c, _, h => sndT_val (snd (.dix i a) X sc e c h) (by cases e <;> first | rfl | cases h)
  | .dget i a d, X, sc, e, c, _, h => sndT_val (snd (.dget i a d) X sc e c h) (by cases e <;> first | rfl | cases h)
  | .dkeys i, X, sc, e, c, _, h => sndT_val (snd (.dkeys i) X sc e c h) (by cases e <;> first | rfl | cases h)
  | .dlen i, X, sc, e, c, _, h => sndT_val (snd (.dlen i) X sc e c h) (by cases e <;> first | rfl | cases h)
  | .lens a, X, sc, e, c, _, h => sndT_val (snd (.lens a) X sc e c h) (by cases e <;> first | rfl | cases h)
  | .index l a, X, sc, e, c, _, h => sndT_val (snd (.index l a) X sc e c h) (by cases e <;> first | rfl | cases h)
end
end
end G

end
section
set_option maxHeartbeats 8000000
namespace G
open PySem PySem.Spec PyProof.Rows L2

def isCompE : Expr → Bool
  | .ListComp _ _ _ _ | .SetComp _ _ _ _ | .DictComp _ _ _ _ _ => true
  | _ => false
def noSwap : Expr → Bool
  | .Tuple vs _ _ => vs.all (foldedForSure 8)
  | _ => true
def mayFold (vs : List Expr) : Bool := vs.all (foldedForSure 8) || vs.all (constantsAlone 8)
section
variable (T : Str → Option Lit) (N : List Str)
def loc1 (sc : Scope) (i : Nat) : Expr → Bool
  | .Name x _ => nameAt N i x && isLcl sc x
  | _ => false
def locA (sc : Scope) (i : Nat) : Expr → Bool
  | .Name x _ => nameAt N i x && isLoc sc x
  | _ => false
def isLclE (sc : Scope) : Expr → Bool
  | .Name x _ => isLcl sc x
  | _ => false
def noSD : Expr → Bool
  | .SetComp _ _ _ _ | .DictComp _ _ _ _ _ => false
  | _ => true
def ownE : E → Bool
  | .lst _ => true
  | .bin _ _ _ => true
  | .bi .list _ => true
  | .bi .sorted _ => true
  | .srt _ => true
  | .comp _ _ _ _ => true
  | .rngs false _ => true
  | .dct => true
  | .dkeys _ => true
  | _ => false
def lineOf : Expr → Nat
  | .Name _ p => p.line
  | _ => 0
def sameLine : List Expr → Bool
  | .Name _ p :: r => r.all fun t => lineOf t == p.line
  | _ => false
def slLcl (sc : Scope) (i : Nat) : Bool := match N[i]? with
  | some x => isLcl sc x
  | none => false
def plE : E → Bool
  | .bor _ _ | .borK _ _ => false
  | _ => true
def wOwn (o : Bool) (e : E) : Bool := !o || ownE e
mutual
def chkS : Scope → S → Stmt → Bool
  | sc, .set i e, .Assign [t] v _ => locA N sc i t && chkE T N sc e v && noSD v && (plE e || !isCompE v)
  | sc, .own i e, .Assign [t] v _ => locA N sc i t && chkE T N sc e v && noSD v && (plE e || !isCompE v) && ownE e
  | sc, .par2 i j oi oj a b, .Assign [.Tuple [t, u] _ _] (.Tuple [x, y] _ _) _ => locA N sc i t && locA N sc j u && chkE T N sc a x && chkE T N sc b y && wOwn oi a && wOwn oj b && decide (i ≠ j) && noStar x && noStar y && decide (sc.kind = .function) &&
      ((isLclE sc t && isLclE sc u && sameLine [t, u] && !mayFold [x, y]) || !(isLclE sc t && isLclE sc u))
  | sc, .par3 i j k a b c, .Assign [.Tuple [t, u, w] _ _] (.Tuple [x, y, z] _ _) _ => locA N sc i t && locA N sc j u && locA N sc k w && chkE T N sc a x && chkE T N sc b y && chkE T N sc c z && decide (i ≠ j) && decide (i ≠ k) && decide (j ≠ k) &&
      noStar x && noStar y && noStar z && decide (sc.kind = .function) && ((isLclE sc t && isLclE sc u && isLclE sc w && sameLine [t, u, w] && !mayFold [x, y, z]) || !(isLclE sc t && isLclE sc u && isLclE sc w))
  | sc, .par3o i j k oi oj ok a b c, .Assign [.Tuple [t, u, w] _ _] (.Tuple [x, y, z] _ _) _ => locA N sc i t && locA N sc j u && locA N sc k w && chkE T N sc a x && chkE T N sc b y && chkE T N sc c z && wOwn oi a && wOwn oj b && wOwn ok c && decide (i ≠ j) && decide (i ≠ k) && decide (j ≠ k) &&
      noStar x && noStar y && noStar z && decide (sc.kind = .function) && ((isLclE sc t && isLclE sc u && isLclE sc w && sameLine [t, u, w] && !mayFold [x, y, z]) || !(isLclE sc t && isLclE sc u && isLclE sc w))
  | sc, .unp2 i j e, .Assign [.Tuple [t, u] _ _] v _ => locA N sc i t && locA N sc j u && decide (i ≠ j) && chkE T N sc e v && (noSwap v || !(isLclE sc t && isLclE sc u)) && !isCompE v
  | sc, .aug i op e, .AugAssign t op' v _ => locA N sc i t && decide (op = op') && chkE T N sc e v
  | sc, .app i e, .Expr (.Call (.Attribute y f ap) [z] [] cp) _ => chkVarE N sc i y && decide (f = ("append" : Str)) && chkE T N sc e z && noStar z && (ap.endLine == cp.line)
  | sc, .put i k e, .Assign [.Subscript y l _] v _ => chkVarE N sc i y && chkE T N sc k l && noSlice l && chkE T N sc e v && !isCompE v && noSwap v
  | sc, .dput i k e, .Assign [.Subscript y l _] v _ => chkVarE N sc i y && chkE T N sc k l && noSlice l && chkE T N sc e v && !isCompE v && noSwap v
  | sc, .ext i e, .Expr (.Call (.Attribute y f ap) [z] [] cp) _ => chkVarE N sc i y && decide (f = ("extend" : Str)) && chkE T N sc e z && noStar z && (ap.endLine == cp.line)
  | sc, .augi i op k e, .AugAssign (.Subscript y l _) op' v _ => chkVarE N sc i y && decide (op = op') && chkE T N sc k l && noSlice l && chkE T N sc e v
  | sc, .put2 i k l a b, .Assign [.Tuple [.Subscript y p _, .Subscript z q _] _ _] (.Tuple [u, w] _ _) _ => chkVarE N sc i y && chkVarE N sc i z && chkE T N sc k p && chkE T N sc l q && noSlice p && noSlice q && chkE T N sc a u && chkE T N sc b w && noStar u && noStar w
  | sc, .expr e, .Expr v _ => (chkE T N sc e v && !isCompE v) || (match e, v with
      | .cst .non, .Constant (.str _) _ _ => true
      | _, _ => false)
  | _, .expr (.cst .non), .Pass _ => true
  | sc, .rt e, .Return (some v) _ => chkE T N sc e v
  | _, .rse _ _, .Raise _ _ _ => true
  | _, .rt (.cst .non), .Return none _ => true
  | sc, .ite c a b, .If z x y _ => tstE c && chkE T N sc c z && chkB sc a x && chkB sc b y
  | sc, .for tg it b, .For t i body [] _ => tgIt tg it && chkI T N sc it i && noSet i && chkTg N sc tg t && chkB sc b body
  | sc, .whl c b, .While z body [] _ => tstE c && chkE T N sc c z && chkB sc b body
  | _, _, _ => false
def chkB : Scope → B → List Stmt → Bool
  | _, .nil, [] => true
  | sc, .cons (.frz _) b, sts => chkB sc b sts
  | sc, .cons (.astup _) b, sts => chkB sc b sts
  | sc, .cons s b, st :: sts => chkS sc s st && chkB sc b sts
  | _, _, _ => false
end
end
end G

end
section
set_option maxHeartbeats 8000000
namespace G
open PySem PySem.Spec PyProof.Rows L2

structure St0 (dw : Dw) (F0 H0 : Hp) (σ : L2.St) (F H : Hp) (ρ : Rho) (m : Ms) : Prop where
  er : Er dw σ F H ρ m
  ex : Ext dw F0 H0 F H
  fr : ∀ (i : Nat) l a, ρ[i]? = some (some (.ow l)) → σ[i]? = some (some (.ref a)) → H0 a = none
def NewS (dw : Dw) (Hb F H : Hp) (x : V) : Slot → Prop
  | .fz v => VR dw F x v
  | .ow l => ∃ p o, x = .ref p ∧ Hb p = none ∧ H p = some o ∧ F p = none ∧ ¬ isDr dw p ∧ OR F o l
  | .bd _ => False
  | .raw _ => False
section
variable {dw : Dw} {F0 H0 F H F' H' Hb : Hp} {σ : L2.St} {ρ : Rho} {m m' : Ms} {x : V}
theorem NewS.ext (e : Ext dw F H F' H') : ∀ {s : Slot}, NewS dw Hb F H x s → NewS dw Hb F' H' x s
  | .fz v, h => VR.mono e.fs h
  | .ow l, ⟨p, o, h1, h2, h3, h4, h5, h6⟩ => ⟨p, o, h1, h2, e.kp _ _ h3 h5, e.stay h4 h3 h6.nt, h5, h6.mono e.fs⟩
  | .bd _, h => h.elim
  | .raw _, h => h.elim
theorem St0.ext (t : St0 dw F0 H0 σ F H ρ m) (e : Ext dw F H F' H') (g : Gr dw F' H' m') : St0 dw F0 H0 σ F' H' ρ m' := ⟨t.er.ext e g, t.ex.trans e, t.fr⟩
theorem St0.held (t : St0 dw F0 H0 σ F H ρ m) (j : Nat) (k : Ow) (a : Addr) (h : ρ[j]? = some (some (.ow k))) (h' : σ[j]? = some (some (.ref a))) : H a ≠ none := by
  obtain ⟨b, xs, h1, h2, _⟩ := t.er.sl j _ h
  rw [h'] at h1; cases h1
  rw [h2]; intro z; cases z
theorem St0.store (t : St0 dw F0 H0 σ F H ρ m) {s : Slot} (n : NewS dw Hb F H x s) (hb : ∀ (j : Nat) k a, ρ[j]? = some (some (.ow k)) → σ[j]? = some (some (.ref a)) → Hb a ≠ none) (h0 : ∀ p, Hb p = none → H0 p = none) (i : Nat) :
    St0 dw F0 H0 (σ.set i (some x)) F H (ρ.set i (some s)) m := by
  refine ⟨?_, t.ex, fun j l a h h' => ?_⟩
  · cases s with
    | fz v => exact t.er.setF n i
    | raw _ => exact n.elim
    | bd _ => exact n.elim
    | ow l =>
      obtain ⟨p, xs, rfl, h2, h3, h4, h5, h6⟩ := n
      exact t.er.setO h3 h4 h5 h6 i fun j k _ hj hs => hb j k p hj hs h2
  · rcases get_set h with ⟨rfl, e, hl⟩ | ⟨ne, h⟩
    · cases e
      obtain ⟨p, xs, rfl, h2, _⟩ := n
      rw [List.getElem?_set_self (by rw [t.er.len]; exact hl)] at h'
      cases h'
      exact h0 _ h2
    · rw [List.getElem?_set_ne ne] at h'
      exact t.fr j l a h h'
theorem St0.upd (t : St0 dw F0 H0 σ F H ρ m) {i : Nat} {l l' : Ow} {a : Addr} {o : HO} (h : ρ[i]? = some (some (.ow l))) (h' : σ[i]? = some (some (.ref a))) (r : OR F o l') :
    St0 dw F0 H0 σ F (L2.upd H a o) (ρ.set i (some (.ow l'))) m := by
  obtain ⟨b, ys, h1, h2, h3, h4, h5⟩ := t.er.sl i _ h
  rw [h'] at h1; cases h1
  have hn := t.fr i l a h h'
  have hlt : i < ρ.length := (List.getElem?_eq_some_iff.mp h).1
  refine ⟨⟨⟨fun b u e => ?_, t.er.gr.dr.keepD h4⟩, by rw [List.length_set]; exact t.er.len, fun j s hs => ?_, fun j k l1 l2 c e1 e2 e3 e4 => ?_⟩, ⟨t.ex.fs, fun b u e nd => ?_, t.ex.nw, fun b e => ?_⟩, fun j k c e1 e2 => ?_⟩
  · rw [upd_ne (fun z => by rw [z, h3] at e; cases e)]
    exact t.er.gr.sub _ _ e
  · rcases get_set hs with ⟨rfl, e, _⟩ | ⟨ne, hs⟩
    · cases e
      exact ⟨a, o, h', upd_same, h3, h4, r⟩
    · have q := t.er.sl j s hs
      cases s with
      | fz v => exact q
      | raw v => exact q
      | bd v => exact q
      | ow k =>
        obtain ⟨c, zs, q1, q2, q3, q4, q5⟩ := q
        refine ⟨c, zs, q1, ?_, q3, q4, q5⟩
        rw [upd_ne]
        · exact q2
        · intro z
          subst z
          exact ne (t.er.ap i j l k c h hs h' q1)
  · have lk : ∀ {j : Nat} {k : Ow}, (ρ.set i (some (.ow l')))[j]? = some (some (.ow k)) → ∃ k', ρ[j]? = some (some (.ow k')) := fun {j k} e => by
      rcases get_set e with ⟨rfl, _, _⟩ | ⟨_, e⟩
      · exact ⟨l, h⟩
      · exact ⟨k, e⟩
    obtain ⟨_, e1⟩ := lk e1
    obtain ⟨_, e2⟩ := lk e2
    exact t.er.ap j k _ _ c e1 e2 e3 e4
  · rw [upd_ne (ne_of_none e hn)]; exact t.ex.kp _ _ e nd
  · by_cases hb : b = a
    · subst hb; exact hn
    · rw [upd_ne hb] at e; exact t.ex.al _ e
  · rcases get_set e1 with ⟨rfl, _, _⟩ | ⟨_, e1⟩
    · exact t.fr i l c h e2
    · exact t.fr j k c e1 e2
end

section
variable (X : Cx) (dw : Dw)
def SndV (o : Bool) (e : Expr) (f : Rho → Ms → R Val) : Prop := ∀ (σ : L2.St) (F H : Hp) (ρ : Rho) (m : Ms) (v : Val) (m' : Ms) (s : Slot), Er dw σ F H ρ m → f ρ m = some (.ok v, m') → slotOf o v = some s →
  ∀ Q : VK, (∀ x F' H', Ext dw F H F' H' → Gr dw F' H' m' → NewS dw H F' H' x s → Q x H') → WE X e σ H Q
def SndG (W : TS) (f : Rho → Ms → R Fl) : Prop := ∀ (F0 H0 : Hp) (σ : L2.St) (F H : Hp) (ρ : Rho) (m : Ms) (fl : Fl) (m' : Ms), St0 dw F0 H0 σ F H ρ m → f ρ m = some (.ok fl, m') →
  ∀ D : Ends, (∀ ρ', fl = .nx ρ' → ∀ σ' F' H', Sub F F' → St0 dw F0 H0 σ' F' H' ρ' m' → D.nx σ' H') → (∀ v, fl = .rt v → ∀ x F' H', Ext dw F0 H0 F' H' → Gr dw F' H' m' → VR dw F' x v → D.rt x H') → W D σ H
def SndS (st : Stmt) (f : Rho → Ms → R Fl) : Prop := SndG dw (WS X st) f
def SndB (sts : List Stmt) (f : Rho → Ms → R Fl) : Prop := SndG dw (WB X sts) f
end
section
variable {X : Cx} {dw : Dw}
theorem slotOf_false (v : Val) : slotOf false v = some (.fz v) := rfl
theorem Snd.v {e : Expr} {f : Rho → Ms → R Val} (h : Snd X dw e f) : SndV X dw false e f := by
  intro σ F H ρ m v m' s er hf hs Q q
  cases hs
  exact h σ F H ρ m v m' er hf Q fun x F' H' e g r => q x F' H' e g r
theorem slotOf_true {v : Val} {s : Slot} (h : slotOf true v = some s) : (∃ l, v = .p (.list l) ∧ s = .ol l) ∨ (v = .p (.dict []) ∧ s = .ow (.dk [])) := by
  cases v with
  | drw => cases h
  | p d =>
    cases d with
    | list l => cases h; exact .inl ⟨l, rfl, rfl⟩
    | dict l =>
      cases l with
      | nil => cases h; exact .inr ⟨rfl, rfl⟩
      | cons _ _ => cases h
    | _ => cases h
theorem SndO.v {e : Expr} {f : Rho → Ms → R Val} (h : SndO X dw e f) (nd : ∀ ρ m m', f ρ m = some (.ok (.p (.dict [])), m') → False) : SndV X dw true e f := by
  intro σ F H ρ m v m' s er hf hs Q q
  rcases slotOf_true hs with ⟨l, rfl, rfl⟩ | ⟨rfl, _⟩
  · exact h σ F H ρ m l m' er hf Q fun p xs F' H' e g n hp fp nd r => q _ F' H' e g ⟨p, _, rfl, n, hp, fp, nd, .lst r⟩
  · exact (nd _ _ _ hf).elim
theorem sndV_dct {p : Pos} : SndV X dw true (.Dict [] [] p) (fun _ m => ret (.p (.dict [])) m) := by
  intro σ F H ρ m v m' s er hf hs Q q
  cases hf
  cases hs
  refine we_of pe_dnewK (fun d hd => ?_)
  obtain ⟨g4, e4⟩ := er.gr.laid (o := .dK []) hd
  refine q _ _ _ e4 g4 ⟨d, _, rfl, hd, upd_same, ?_, er.gr.dr.free hd, .dk (js := []) (ds := []) rfl .nil⟩
  cases z : F d with
  | none => rfl
  | some u => rw [er.gr.sub _ _ z] at hd; cases hd
end
section
variable {T : Str → Option Lit} {N : List Str} {cl : Str → List Val → Ms → R Val} {k : Nat} {dw : Dw} {X : Cx} {sc : Scope}
theorem chk_comp {e : E} {x : Expr} {gs : List Comprehension} {scope : Scope} {p : Pos} (hpl : plE e = true) (h : chkE T N sc e (.ListComp x gs scope p) = true) : ∃ d tg it c t i ifs, e = .comp d tg it c ∧ gs = [⟨t, i, ifs, 0⟩] ∧
    tgIt tg it = true ∧ chkI T N sc it i = true ∧ noSet i = true ∧ blkC N sc scope (ownOf N tg.slots) = true ∧ chkTg N (relS scope sc) tg t = true ∧ chkTg N scope tg t = true ∧ chkC T N (relS scope sc) c ifs = true ∧ chkE T N (relS scope sc) d x = true := by
  cases e with
  | comp d tg it c =>
    match gs, h with
    | [⟨t', i, ifs, z⟩], h =>
      simp only [chkE, Bool.and_eq_true, decide_eq_true_eq] at h
      obtain ⟨⟨⟨⟨⟨⟨⟨⟨rfl, h0⟩, h1⟩, h2⟩, h3⟩, h4⟩, h5⟩, h6⟩, h7⟩ := h
      exact ⟨d, tg, it, c, t', i, ifs, rfl, rfl, h0, h1, h2, h3, h4, h5, h6, h7⟩
  | glb y l =>
    have h : (chkG sc y (.ListComp x gs scope p) && decide (T y = some l)) = true := h
    rw [Bool.and_eq_true] at h
    cases h.1
  | bor _ _ => cases hpl
  | borK _ _ => cases hpl
  | _ => cases h
theorem sndO : ∀ (t : E) (e : Expr), Cok T N cl k X sc → chkE T N sc t e = true → ownE t = true → t ≠ .dct → SndO X dw e (ev cl t)
  | .dct, _, _, _, _, hd => absurd rfl hd
  | .dkeys i, e, c, h, _, _ => by
    cases e with
    | Call g xs ks p =>
      match xs, ks, h with
      | [x], [], h =>
        simp only [chkE, Bool.and_eq_true] at h
        obtain ⟨q, rfl, h3, _⟩ := chkG_name h.1.1
        exact sndO_dkeys c h.1.2 h3 h.2
    | _ => cases h
  | .lst es, e, c, h, _, _ => by
    cases e with
    | List xs p => exact (snd_seqs (n := 0) (sndEs es X sc xs c h)).2
    | _ => cases h
  | .bin op a b, e, c, h, _, _ => by
    cases e with
    | BinOp x op' y p =>
      simp only [chkE, Bool.and_eq_true, decide_eq_true_eq] at h
      obtain ⟨⟨rfl, h1⟩, h2⟩ := h
      exact sndO_bin (snd a X sc x c h1).d (snd b X sc y c h2).d
    | _ => cases h
  | .bi b a, e, c, h, ho, _ => by
    cases e with
    | Call g xs ks p =>
      match xs, ks, h with
      | [x], [], h =>
        simp only [chkE, Bool.and_eq_true] at h
        obtain ⟨⟨h0, h1⟩, h2⟩ := h
        obtain ⟨q, rfl, h3, _⟩ := chkG_name h0
        exact sndO_bi c (sndL_of c h1 (snd a X sc x c h1)) h3 h2 (by cases b <;> first | exact .inl rfl | exact .inr rfl | cases ho)
    | _ => cases h
  | .rngs kk it, e, c, h, ho, _ => by
    cases kk with
    | true => cases ho
    | false =>
      cases e with
      | Call g xs ks p =>
        match xs, ks, h with
        | [x], [], h =>
          simp only [chkE, Bool.and_eq_true] at h
          obtain ⟨⟨⟨h0, h1⟩, h2⟩, h3⟩ := h
          obtain ⟨q, rfl, h4, _⟩ := chkG_name h0
          exact sndO_rngs c (sndR it X sc x c h1 (by simpa using h3)) h4 h2
      | _ => cases h
  | .comp d tg it c', e, c, h, _, _ => by
    cases e with
    | ListComp x gs scope p =>
      obtain ⟨_, _, _, _, t, i, ifs, e1, rfl, h0, h1, h2, h3, h4, h5, h6, h7⟩ := chk_comp rfl h
      cases e1
      exact sndO_comp c (sndI it X sc tg t i c h0 (chkTg_tup h4) h1) h2 h3 h4 h5 (fun X' b => sndC c' X' _ ifs (c.blk b) h6) (fun X' b => (snd d X' _ x (c.blk b) h7).d)
    | _ => cases h
  | .srt a, e, c, h, _, _ => by
    obtain ⟨p, p2, q, pos, x, rfl, h1, h2, h3, h4⟩ := srt_inv h
    exact snd_srt c (sndL_of c h3 (snd a X sc x c h3)) h1 h2 h4
theorem binD_nd (op : Operator) (x y : PyData) : binD op x y ≠ some (.dict []) := by
  intro h
  unfold binD at h
  split at h <;> first | (split at h <;> cases h) | cases h
theorem own_nd : ∀ (t : E), ownE t = true → t ≠ .dct → ∀ ρ m m', ev cl t ρ m = some (.ok (.p (.dict [])), m') → False
  | .lst es, _, _, ρ, m, m', h => by
    rw [ev] at h
    obtain ⟨l, e⟩ := lst_list (f := evs cl es) h
    cases e
  | .bin op a b, _, _, ρ, m, m', h => by
    rw [ev] at h
    obtain ⟨x, m1, _, h⟩ := bnd_ok h
    obtain ⟨y, m2, _, h⟩ := bnd_ok h
    obtain ⟨h, _⟩ := opt_ok h
    cases e : binD op x y with
    | none => rw [e] at h; cases h
    | some d => rw [e] at h; cases h; exact binD_nd op x y e
  | .bi .list a, _, _, ρ, m, m', h => by
    rw [ev] at h
    obtain ⟨x, m1, _, h⟩ := bnd_ok h
    obtain ⟨h, _⟩ := opt_ok h
    cases x <;> first | (simp only [biD] at h; cases h; done) | cases h
  | .bi .sorted a, _, _, ρ, m, m', h => by
    rw [ev] at h
    obtain ⟨x, m1, _, h⟩ := bnd_ok h
    obtain ⟨h, _⟩ := opt_ok h
    cases x with
    | list xs =>
      have h : (srtX xs).map Val.p = some (.p (.dict [])) := h
      unfold srtX at h
      split at h
      · cases h
      · unfold srtA at h
        split at h <;> cases h
    | _ => cases h
  | .srt a, _, _, ρ, m, m', h => by
    rw [ev] at h
    obtain ⟨l, e⟩ := srt_list (f := fun ρ m => lk a ρ m (ev cl a ρ m)) h
    cases e
  | .comp e tg it c, _, _, ρ, m, m', h => by
    rw [ev] at h
    obtain ⟨l, e⟩ := compF_list (tg := tg) (fi := evI cl it) (fc := evC cl c) (fe := ed cl e) h
    cases e
  | .rngs false it, _, _, ρ, m, m', h => by
    rw [ev] at h
    obtain ⟨xs, m1, _, h⟩ := bnd_ok h
    cases h
  | .dkeys i, _, _, ρ, m, m', h => by
    rw [ev] at h
    obtain ⟨l, e⟩ := dkeys_list h
    cases e
  | .dct, _, h, _, _, _, _ => absurd rfl h
theorem sndV_own (c : Cok T N cl k X sc) (t : E) (e : Expr) (h : chkE T N sc t e = true) (hw : ownE t = true) : SndV X dw true e (ev cl t) := by
  by_cases hd : t = .dct
  · subst hd
    cases e with
    | Dict ks vs p =>
      cases ks with
      | nil =>
        cases vs with
        | nil => exact sndV_dct
        | cons _ _ => cases h
      | cons _ _ => cases h
    | _ => cases h
  · exact (sndO t e c h hw hd).v (own_nd t hw hd)
theorem sndV_of (c : Cok T N cl k X sc) {o : Bool} {t : E} {e : Expr} (h : chkE T N sc t e = true) (hw : wOwn o t = true) : SndV X dw o e (ev cl t) := by
  cases o with
  | false => exact (snd t X sc e c h).v
  | true => exact sndV_own c t e h hw
theorem loc1_inv {i : Nat} {t : Expr} (h : loc1 N sc i t = true) : ∃ x p, t = .Name x p ∧ nameAt N i x = true ∧ isLcl sc x = true := by
  cases t with
  | Name x p =>
    simp only [loc1, Bool.and_eq_true] at h
    exact ⟨x, p, rfl, h.1, h.2⟩
  | _ => cases h
theorem Cok.lcl (c : Cok T N cl k X sc) {x : Str} (h : isLcl sc x = true) : X.env.scope.names.lookup x = some .local := by rw [c.sce]; exact of_decide_eq_true h
theorem Cok.at (c : Cok T N cl k X sc) {i : Nat} {x : Str} (h : nameAt N i x = true) : X.N[i]? = some x := by rw [c.nn]; exact of_decide_eq_true h
theorem Cok.nodup (c : Cok T N cl k X sc) : X.N.Nodup := by rw [c.nn]; exact c.nd
theorem sw_false {v : Expr} (h : isCompE v = false) (t : Option Expr) (l : Nat) (env : Env) : swapsWith v t l env = pure false := by
  cases v <;> first | rfl | cases h
structure Bod (X : Cx) : Prop where
  po : PassesOwn (model X.prog X.w) X.A X.env X.xe
  fn : ∀ x, X.fn x = true
theorem locA_inv {i : Nat} {t : Expr} (h : locA N sc i t = true) : ∃ x p, t = .Name x p ∧ nameAt N i x = true ∧ isLoc sc x = true := by
  cases t with
  | Name x p =>
    simp only [locA, Bool.and_eq_true] at h
    exact ⟨x, p, rfl, h.1, h.2⟩
  | _ => cases h
theorem Cok.loc (c : Cok T N cl k X sc) {x : Str} (h : isLoc sc x = true) : Loc X.env.scope x := by rw [c.sce]; exact isLoc_loc h
theorem sw_lc {elt : Expr} {gs : List Comprehension} {scope : Scope} {pos py : Pos} {y : Str} {l : Nat} {env : Env} : swapsWith (.ListComp elt gs scope pos) (some (.Name y py)) l env =
    pure (env.blockKind == .function && env.kindOf y == some .local && py.line == pos.line && !(scope.names.any fun (n, k) => n == y && (k == .local || k == .cell))) := by
  unfold swapsWith
  rfl
theorem sndS_set (c : Cok T N cl k X sc) (hp : Bod X) {o : Bool} {i : Nat} {e : E} {t v : Expr} {pos : Pos} (hl : locA N sc i t = true) (h : chkE T N sc e v = true) (hs : noSD v = true) (hpl : (plE e || !isCompE v) = true) (hw : wOwn o e = true) :
    SndS X dw (.Assign [t] v pos) (fun ρ m => bnd (ev cl e ρ m) fun v m => opt ((slotOf o v).map fun s => .nx (ρ.set i (some s))) m) := by
  obtain ⟨x, p, rfl, hn, hx⟩ := locA_inv hl
  intro F0 H0 σ F H ρ m fl m' t hf D q _
  obtain ⟨v', m1, h1, hf⟩ := bnd_ok hf
  obtain ⟨h2, rfl⟩ := opt_ok hf
  cases hso : slotOf o v' with
  | none => rw [hso] at h2; cases h2
  | some s =>
    rw [hso] at h2; cases h2
    have fin : ∀ (y : V) (F' H' : Hp), Ext dw F H F' H' → Gr dw F' H' m' → NewS dw H F' H' y s → D.nx (σ.set i (some y)) H' := fun y F' H' e1 g1 n1 =>
      q _ rfl _ F' H' e1.fs ((t.ext e1 g1).store n1 t.held (fun p hp => t.ex.al p hp) i)
    by_cases hc : swapsWith v (some (.Name x p)) pos.line X.env = pure false
    · refine ws_of (ps_set c.nodup (c.at hn) (c.loc hx) pe_we hc (.inl (hp.fn x))) ?_
      exact sndV_of c h hw σ F H ρ m v' m' s t.er h1 hso _ fin
    · cases v with
      | ListComp z gs scope cp =>
        rw [sw_lc] at hc
        obtain ⟨d, tg, it, c', tt, ii, ifs, rfl, rfl, h0, h1', h2', h3, h4, h5, h6, h7⟩ := chk_comp (by simpa [isCompE] using hpl) h
        obtain ⟨l, rfl⟩ := compF_list (tg := tg) (fi := evI cl it) (fc := evC cl c') (fe := ed cl d) h1
        have hb : (X.env.blockKind == .function && X.env.kindOf x == some .local && p.line == cp.line && !(scope.names.any fun (n, k) => n == x && (k == .local || k == .cell))) = true := by
          cases hb : (X.env.blockKind == .function && X.env.kindOf x == some .local && p.line == cp.line && !(scope.names.any fun (n, k) => n == x && (k == .local || k == .cell))) with
          | true => rfl
          | false => rw [hb] at hc; exact absurd rfl hc
        have hyl : X.env.scope.names.lookup x = some .local := by
          simp only [Bool.and_eq_true] at hb
          exact eq_of_beq hb.1.1.2
        refine ws_comp c (sndI it X sc tg tt ii c h0 (chkTg_tup h4) h1') h2' h3 h4 h5 (fun X' b => sndC c' X' _ ifs (c.blk b) h6) (fun X' b => (snd d X' _ z (c.blk b) h7).d) hn hyl (by rw [sw_lc, hb]) t.er h1 fun p xs F' H' e g n hp fp nd r => ?_
        cases o with
        | true => cases hso; exact fin _ F' H' e g ⟨p, _, rfl, n, hp, fp, nd, .lst r⟩
        | false =>
          cases hso
          obtain ⟨g2, e2⟩ := g.freeze hp fp nd
          exact fin _ _ _ (Ext.freeze t.er.gr e n) g2 (.lst upd_same (r.mono e2))
      | SetComp _ _ _ _ => cases hs
      | DictComp _ _ _ _ _ => cases hs
      | _ => exact absurd rfl hc
end
end G

end
section
set_option maxHeartbeats 8000000
namespace G
open PySem PySem.Spec PyProof.Rows L2
theorem swap2 {env : Env} {x y : Str} {px py pt pt2 : Pos} {kt k2 : Nat} {a b : Expr} (hk : env.scope.kind = .function) (hx : env.scope.names.lookup x = some .local) (hy : env.scope.names.lookup y = some .local) (hxy : x ≠ y)
    (hl : (py.line == px.line) = true) (ha : noStar a = true) (hb : noStar b = true) (hf : mayFold [a, b] = false) :
    swappedStores [.Tuple [.Name x px, .Name y py] kt pt] (.Tuple [a, b] k2 pt2) env = pure (some [x, y]) := by
  have kx : env.kindOf x = some .local := hx
  have ky : env.kindOf y = some .local := hy
  have hb' : env.blockKind = .function := by unfold Env.blockKind; rw [hk]; rfl
  simp only [mayFold, Bool.or_eq_false_iff] at hf
  unfold swappedStores
  simp only [hb', kx, ky, hl, hf.1, hf.2, Expr.pos, List.head?_cons, Option.map_some, Option.getD_some, List.filterMap_cons, List.filterMap_nil]
  have hl' : py.line = px.line := by simpa using hl
  have e1 : [x, y].eraseDups = [x, y] := by
    have : (y == x) = false := by simpa using fun e => hxy e.symm
    simp [List.eraseDups_cons, List.filter_cons, this]
  simp [kx, ky, hl', e1]
  intro h
  exfalso
  rcases h with h | h
  · cases a with
    | Starred _ _ => simp [noStar] at ha
    | _ => simp at h
  · cases b with
    | Starred _ _ => simp [noStar] at hb
    | _ => simp at h
theorem swap3 {env : Env} {x y z : Str} {px py pz pt pt2 : Pos} {kt k2 : Nat} {a b c : Expr} (hk : env.scope.kind = .function) (hx : env.scope.names.lookup x = some .local) (hy : env.scope.names.lookup y = some .local) (hz : env.scope.names.lookup z = some .local) (hxy : x ≠ y) (hxz : x ≠ z) (hyz : y ≠ z)
    (hl : (py.line == px.line) = true) (hl2 : (pz.line == px.line) = true) (ha : noStar a = true) (hb : noStar b = true) (hc : noStar c = true) (hf : mayFold [a, b, c] = false) :
    swappedStores [.Tuple [.Name x px, .Name y py, .Name z pz] kt pt] (.Tuple [a, b, c] k2 pt2) env = pure (some [x, y, z]) := by
  have kx : env.kindOf x = some .local := hx
  have ky : env.kindOf y = some .local := hy
  have kz : env.kindOf z = some .local := hz
  have hb' : env.blockKind = .function := by unfold Env.blockKind; rw [hk]; rfl
  simp only [mayFold, Bool.or_eq_false_iff] at hf
  unfold swappedStores
  simp only [hb', kx, ky, kz, hl, hl2, hf.1, hf.2, Expr.pos, List.head?_cons, Option.map_some, Option.getD_some, List.filterMap_cons, List.filterMap_nil]
  have hl' : py.line = px.line := by simpa using hl
  have hl2' : pz.line = px.line := by simpa using hl2
  have e1 : [x, y, z].eraseDups = [x, y, z] := by
    have h1 : (y == x) = false := by simpa using fun e => hxy e.symm
    have h2 : (z == x) = false := by simpa using fun e => hxz e.symm
    have h3 : (z == y) = false := by simpa using fun e => hyz e.symm
    simp [List.eraseDups_cons, List.filter_cons, h1, h2, h3]
  simp [kx, ky, kz, hl', hl2', e1]
  intro h
  exfalso
  rcases h with h | h | h
  · cases a with
    | Starred _ _ => simp [noStar] at ha
    | _ => simp at h
  · cases b with
    | Starred _ _ => simp [noStar] at hb
    | _ => simp at h
  · cases c with
    | Starred _ _ => simp [noStar] at hc
    | _ => simp at h
theorem noswapC {env : Env} {x y : Str} {px py pt : Pos} {kt : Nat} {v : Expr} (h : ¬ (env.kindOf x = some .local ∧ env.kindOf y = some .local)) : swappedStores [.Tuple [.Name x px, .Name y py] kt pt] v env = pure none := by
  unfold swappedStores
  cases v with
  | Tuple vs k p =>
    by_cases hx : env.kindOf x = some .local
    · have hy : env.kindOf y ≠ some .local := fun z => h ⟨hx, z⟩
      simp [hx, hy, Expr.pos, List.filterMap_cons]
    · by_cases hy : env.kindOf y = some .local
      · by_cases hl : py.line = px.line <;> simp [hx, hy, hl, Expr.pos, List.filterMap_cons]
      · simp [hx, hy, Expr.pos, List.filterMap_cons]
  | _ => rfl
theorem noswapC3 {env : Env} {x y z : Str} {px py pz pt : Pos} {kt : Nat} {v : Expr} (h : ¬ (env.kindOf x = some .local ∧ env.kindOf y = some .local ∧ env.kindOf z = some .local)) : swappedStores [.Tuple [.Name x px, .Name y py, .Name z pz] kt pt] v env = pure none := by
  unfold swappedStores
  cases v with
  | Tuple vs k p =>
    by_cases hx : env.kindOf x = some .local <;> by_cases hy : env.kindOf y = some .local <;> by_cases hz : env.kindOf z = some .local <;> by_cases hl : py.line = px.line <;> by_cases hl2 : pz.line = px.line <;>
      simp only [hx, hy, hz, true_and, and_true, not_true_eq_false] at h <;> simp [hx, hy, hz, hl, hl2, Expr.pos, List.filterMap_cons]
  | _ => rfl
theorem noswap {tg v : Expr} {env : Env} (h : noSwap v = true) : swappedStores [tg] v env = pure none := by
  unfold swappedStores
  cases v with
  | Tuple vs k p =>
    have h : vs.all (foldedForSure 8) = true := h
    cases tg <;> first | rfl | skip
    all_goals
      simp only [h]
      simp
  | _ => cases tg <;> rfl

section
variable {T : Str → Option Lit} {N : List Str} {cl : Str → List Val → Ms → R Val} {k : Nat} {dw : Dw} {X : Cx} {sc : Scope}
theorem at_ne (c : Cok T N cl k X sc) {i j : Nat} {x y : Str} (hx : nameAt N i x = true) (hy : nameAt N j y = true) (h : i ≠ j) : x ≠ y := by
  have hx := c.at hx
  have hy := c.at hy
  intro e
  subst e
  have h1 := List.getElem?_eq_some_iff.mp hx
  have h2 := List.getElem?_eq_some_iff.mp hy
  obtain ⟨l1, e1⟩ := h1
  obtain ⟨l2, e2⟩ := h2
  exact h ((List.getElem_inj c.nodup).mp (e1.trans e2.symm))
theorem sameLine2 {x y : Str} {p q : Pos} (h : sameLine [.Name x p, .Name y q] = true) : (q.line == p.line) = true := by
  simpa [sameLine, lineOf] using h
theorem sameLine3 {x y z : Str} {p q r : Pos} (h : sameLine [.Name x p, .Name y q, .Name z r] = true) : (q.line == p.line) = true ∧ (r.line == p.line) = true := by
  simpa [sameLine, lineOf] using h
theorem sole {t v : Expr} {l : Nat} {env : Env} (h : isCompE v = false) : swapsWithSole [t] v l env = pure false := by
  unfold swapsWithSole
  exact sw_false h (some t) l env
theorem lclE {x : Str} {p : Pos} (c : Cok T N cl k X sc) (h : isLclE sc (.Name x p) = true) : X.env.scope.names.lookup x = some .local := c.lcl h
theorem St0.laid {F0 H0 F H : Hp} {σ : L2.St} {ρ : Rho} {m : Ms} {p : Addr} {o : HO} (t : St0 dw F0 H0 σ F H ρ m) (hp : H p = none) : St0 dw F0 H0 σ F (L2.upd H p o) ρ m :=
  t.ext (t.er.gr.laid hp).2 (t.er.gr.laid hp).1
theorem sndS_par2 (c : Cok T N cl k X sc) (hp : Bod X) {i j : Nat} {oi oj : Bool} {a b : E} {t u x y : Expr} {kt k2 : Nat} {pt pt2 pos : Pos} (hi : locA N sc i t = true) (hj : locA N sc j u = true) (ha : chkE T N sc a x = true) (hb : chkE T N sc b y = true) (wa : wOwn oi a = true) (wb : wOwn oj b = true)
    (hij : i ≠ j) (sa : noStar x = true) (sb : noStar y = true) (hk : sc.kind = .function) (hl : ((isLclE sc t && isLclE sc u && sameLine [t, u] && !mayFold [x, y]) || !(isLclE sc t && isLclE sc u)) = true) :
    SndS X dw (.Assign [.Tuple [t, u] kt pt] (.Tuple [x, y] k2 pt2) pos) (fun ρ m => bnd (ev cl a ρ m) fun x m => bnd (ev cl b ρ m) fun y m => opt ((slotOf oi x).bind fun s => (slotOf oj y).map fun t => .nx ((ρ.set i (some s)).set j (some t))) m) := by
  obtain ⟨x1, p1, rfl, n1, l1⟩ := locA_inv hi
  obtain ⟨x2, p2, rfl, n2, l2⟩ := locA_inv hj
  intro F0 H0 σ F H ρ m fl m' t0 hf' D q _
  obtain ⟨v1, m1, h1, hf'⟩ := bnd_ok hf'
  obtain ⟨v2, m2, h2, hf'⟩ := bnd_ok hf'
  obtain ⟨h3, rfl⟩ := opt_ok hf'
  cases e1 : slotOf oi v1 with
  | none => rw [e1] at h3; cases h3
  | some s1 =>
    cases e2 : slotOf oj v2 with
    | none => rw [e1, e2] at h3; cases h3
    | some s2 =>
      rw [e1, e2] at h3; cases h3
      have core : ∀ (y1 : V) (F1 H1 : Hp), Ext dw F H F1 H1 → Gr dw F1 H1 m1 → NewS dw H F1 H1 y1 s1 → ∀ (y2 : V) (F2 H2 : Hp), Ext dw F1 H1 F2 H2 → Gr dw F2 H2 m' → NewS dw H1 F2 H2 y2 s2 →
          St0 dw F0 H0 ((σ.set i (some y1)).set j (some y2)) F2 H2 ((ρ.set i (some s1)).set j (some s2)) m' := by
        intro y1 F1 H1 x1 g1 r1 y2 F2 H2 x2 g2 r2
        have ta := ((t0.ext x1 g1).ext x2 g2).store (r1.ext x2) t0.held (fun p hp => t0.ex.al p hp) i
        refine ta.store r2 (fun l kk p hl hs => ?_) (fun p hp => t0.ex.al p (x1.al p hp)) j
        have tb := (t0.ext x1 g1).store r1 t0.held (fun p hp => t0.ex.al p hp) i
        exact tb.held l kk p hl hs
      rcases (Bool.or_eq_true _ _).mp hl with hl | hl
      · simp only [Bool.and_eq_true, Bool.not_eq_true'] at hl
        refine ws_of (ps_par c.calm c.nodup (c.at n1) (c.at n2) hij (lclE c hl.1.1.1) (lclE c hl.1.1.2) (pa_cons pe_we (pa_cons pe_we pa_nil (star_cons sb)) (star_cons sa)) (swap2 (by rw [c.sce]; exact hk) (lclE c hl.1.1.1) (lclE c hl.1.1.2) (at_ne c n1 n2 hij) (sameLine2 hl.1.2) sa sb hl.2)) ?_
        refine sndV_of c ha wa σ F H ρ m v1 m1 s1 t0.er h1 e1 _ fun y1 F1 H1 x1 g1 r1 => ?_
        refine sndV_of c hb wb σ F1 H1 ρ m1 v2 _ s2 (t0.er.ext x1 g1) h2 e2 _ fun y2 F2 H2 x2 g2 r2 => ?_
        exact ⟨_, _, rfl, q _ rfl _ F2 H2 (x1.trans x2).fs (core y1 F1 H1 x1 g1 r1 y2 F2 H2 x2 g2 r2)⟩
      · have hn : ¬ (X.env.kindOf x1 = some .local ∧ X.env.kindOf x2 = some .local) := fun ⟨z1, z2⟩ => by
          have z1 : X.env.scope.names.lookup x1 = some .local := z1
          have z2 : X.env.scope.names.lookup x2 = some .local := z2
          rw [c.sce] at z1 z2
          simp [isLclE, isLcl, z1, z2] at hl
        obtain ⟨a1, a2, a3, a4⟩ := assign_nil2 (env := X.env) ⟨x1, p1, rfl⟩ ⟨x2, p2, rfl⟩
        refine ws_of (ps_asg (pe_tup (pa_cons pe_we (pa_cons pe_we pa_nil (star_cons sb)) (star_cons sa))) (pg_tup c.calm (pgs_cons (pg_name c.nodup (c.at n1) (c.loc l1) (.inl (hp.fn _))) (pgs_cons (pg_name c.nodup (c.at n2) (c.loc l2) (.inl (hp.fn _))) pgs_nil a4) a3) a1 a2) (by exact sole rfl) (by exact noswapC hn)) ?_
        refine sndV_of c ha wa σ F H ρ m v1 m1 s1 t0.er h1 e1 _ fun y1 F1 H1 x1 g1 r1 => ?_
        refine sndV_of c hb wb σ F1 H1 ρ m1 v2 _ s2 (t0.er.ext x1 g1) h2 e2 _ fun y2 F2 H2 x2 g2 r2 => ?_
        refine ⟨lim_line (show 2 ≤ lim by decide), fun P hP => ?_⟩
        exact ⟨_, _, rfl, SqT.of upd_same, rfl, _, _, rfl, _, _, rfl, rfl, q _ rfl _ F2 _ (x1.trans x2).fs ((core y1 F1 H1 x1 g1 r1 y2 F2 H2 x2 g2 r2).laid hP)⟩
theorem VRs3 {a b c : V} {u v w : Val} {F : Hp} (h1 : VR dw F a u) (h2 : VR dw F b v) (h3 : VR dw F c w) : VRs dw F [a, b, c] [u, v, w] := .cons h1 (.cons h2 (.cons h3 .nil))
theorem assign_nil3 {a b c : Expr} {env : Env} (ha : ∃ x p, a = .Name x p) (hb : ∃ x p, b = .Name x p) (hc : ∃ x p, c = .Name x p) : (assignEach [a, b, c] env).length = 3 ∧ (assignEach [a, b, c] env).findIdx? (·.1) = none ∧
    (assignEach [a, b, c] env).map (·.2) = assign a env :: (assignEach [b, c] env).map (·.2) ∧ (assignEach [b, c] env).map (·.2) = assign b env :: (assignEach [c] env).map (·.2) ∧ (assignEach [c] env).map (·.2) = assign c env :: (assignEach [] env).map (·.2) := by
  obtain ⟨x, p, rfl⟩ := ha
  obtain ⟨y, q, rfl⟩ := hb
  obtain ⟨z, r, rfl⟩ := hc
  exact ⟨rfl, rfl, rfl, rfl, rfl⟩
theorem sndS_par3 (c : Cok T N cl k X sc) (hp : Bod X) {i j l : Nat} {a b d : E} {t u w x y z : Expr} {kt k2 : Nat} {pt pt2 pos : Pos} (hi : locA N sc i t = true) (hj : locA N sc j u = true) (hl' : locA N sc l w = true) (ha : chkE T N sc a x = true) (hb : chkE T N sc b y = true) (hd : chkE T N sc d z = true)
    (hij : i ≠ j) (hil : i ≠ l) (hjl : j ≠ l) (sa : noStar x = true) (sb : noStar y = true) (sd : noStar z = true) (hk : sc.kind = .function) (hl : ((isLclE sc t && isLclE sc u && isLclE sc w && sameLine [t, u, w] && !mayFold [x, y, z]) || !(isLclE sc t && isLclE sc u && isLclE sc w)) = true) :
    SndS X dw (.Assign [.Tuple [t, u, w] kt pt] (.Tuple [x, y, z] k2 pt2) pos) (fun ρ m => bnd (ev cl a ρ m) fun x m => bnd (ev cl b ρ m) fun y m => bnd (ev cl d ρ m) fun z m => ret (.nx (((ρ.set i (some (.fz x))).set j (some (.fz y))).set l (some (.fz z)))) m) := by
  obtain ⟨x1, p1, rfl, n1, l1⟩ := locA_inv hi
  obtain ⟨x2, p2, rfl, n2, l2⟩ := locA_inv hj
  obtain ⟨x3, p3, rfl, n3, l3⟩ := locA_inv hl'
  intro F0 H0 σ F H ρ m fl m' t0 hf' D q _
  obtain ⟨v1, m1, h1, hf'⟩ := bnd_ok hf'
  obtain ⟨v2, m2, h2, hf'⟩ := bnd_ok hf'
  obtain ⟨v3, m3, h3, hf'⟩ := bnd_ok hf'
  cases hf'
  have no : ∀ {σ : L2.St} {ρ : Rho} {F H : Hp} {m : Ms} {y : V} {v : Val} (i : Nat), St0 dw F0 H0 σ F H ρ m → VR dw F y v → St0 dw F0 H0 (σ.set i (some y)) F H (ρ.set i (some (.fz v))) m := fun i t r => t.store (Hb := _) (s := .fz _) r t.held (fun p hp => t.ex.al p hp) i
  have core : ∀ (y1 : V) (F1 H1 : Hp), Ext dw F H F1 H1 → Gr dw F1 H1 m1 → VR dw F1 y1 v1 → ∀ (y2 : V) (F2 H2 : Hp), Ext dw F1 H1 F2 H2 → Gr dw F2 H2 m2 → VR dw F2 y2 v2 → ∀ (y3 : V) (F3 H3 : Hp), Ext dw F2 H2 F3 H3 → Gr dw F3 H3 m' → VR dw F3 y3 v3 →
      St0 dw F0 H0 (((σ.set i (some y1)).set j (some y2)).set l (some y3)) F3 H3 (((ρ.set i (some (.fz v1))).set j (some (.fz v2))).set l (some (.fz v3))) m' := by
    intro y1 F1 H1 x1 g1 r1 y2 F2 H2 x2 g2 r2 y3 F3 H3 x3 g3 r3
    have ta := ((t0.ext x1 g1).ext x2 g2).ext x3 g3
    exact no l (no j (no i ta ((r1.mono x2.fs).mono x3.fs)) (r2.mono x3.fs)) r3
  rcases (Bool.or_eq_true _ _).mp hl with hl | hl
  · simp only [Bool.and_eq_true, Bool.not_eq_true'] at hl
    refine ws_of (ps_par3 c.calm c.nodup (c.at n1) (c.at n2) (c.at n3) hij hil hjl (lclE c hl.1.1.1.1) (lclE c hl.1.1.1.2) (lclE c hl.1.1.2) (pa_cons pe_we (pa_cons pe_we (pa_cons pe_we pa_nil (star_cons sd)) (star_cons sb)) (star_cons sa))
      (swap3 (by rw [c.sce]; exact hk) (lclE c hl.1.1.1.1) (lclE c hl.1.1.1.2) (lclE c hl.1.1.2) (at_ne c n1 n2 hij) (at_ne c n1 n3 hil) (at_ne c n2 n3 hjl) (sameLine3 hl.1.2).1 (sameLine3 hl.1.2).2 sa sb sd hl.2)) ?_
    refine snd a X sc x c ha σ F H ρ m v1 m1 t0.er h1 _ fun y1 F1 H1 x1 g1 r1 => ?_
    refine snd b X sc y c hb σ F1 H1 ρ m1 v2 m2 (t0.er.ext x1 g1) h2 _ fun y2 F2 H2 x2 g2 r2 => ?_
    refine snd d X sc z c hd σ F2 H2 ρ m2 v3 _ ((t0.er.ext x1 g1).ext x2 g2) h3 _ fun y3 F3 H3 x3 g3 r3 => ?_
    exact ⟨_, _, _, rfl, q _ rfl _ F3 H3 (x1.trans (x2.trans x3)).fs (core y1 F1 H1 x1 g1 r1 y2 F2 H2 x2 g2 r2 y3 F3 H3 x3 g3 r3)⟩
  · have hn : ¬ (X.env.kindOf x1 = some .local ∧ X.env.kindOf x2 = some .local ∧ X.env.kindOf x3 = some .local) := fun ⟨z1, z2, z3⟩ => by
      have z1 : X.env.scope.names.lookup x1 = some .local := z1
      have z2 : X.env.scope.names.lookup x2 = some .local := z2
      have z3 : X.env.scope.names.lookup x3 = some .local := z3
      rw [c.sce] at z1 z2 z3
      simp [isLclE, isLcl, z1, z2, z3] at hl
    obtain ⟨a1, a2, a3, a4, a5⟩ := assign_nil3 (env := X.env) ⟨x1, p1, rfl⟩ ⟨x2, p2, rfl⟩ ⟨x3, p3, rfl⟩
    refine ws_of (ps_asg (pe_tup (pa_cons pe_we (pa_cons pe_we (pa_cons pe_we pa_nil (star_cons sd)) (star_cons sb)) (star_cons sa))) (pg_tup c.calm (pgs_cons (pg_name c.nodup (c.at n1) (c.loc l1) (.inl (hp.fn _))) (pgs_cons (pg_name c.nodup (c.at n2) (c.loc l2) (.inl (hp.fn _))) (pgs_cons (pg_name c.nodup (c.at n3) (c.loc l3) (.inl (hp.fn _))) pgs_nil a5) a4) a3) a1 a2) (by exact sole rfl) (by exact noswapC3 hn)) ?_
    refine snd a X sc x c ha σ F H ρ m v1 m1 t0.er h1 _ fun y1 F1 H1 x1 g1 r1 => ?_
    refine snd b X sc y c hb σ F1 H1 ρ m1 v2 m2 (t0.er.ext x1 g1) h2 _ fun y2 F2 H2 x2 g2 r2 => ?_
    refine snd d X sc z c hd σ F2 H2 ρ m2 v3 _ ((t0.er.ext x1 g1).ext x2 g2) h3 _ fun y3 F3 H3 x3 g3 r3 => ?_
    refine ⟨lim_line (show 3 ≤ lim by decide), fun P hP => ?_⟩
    exact ⟨_, _, rfl, SqT.of upd_same, rfl, _, _, rfl, _, _, rfl, _, _, rfl, rfl, q _ rfl _ F3 _ (x1.trans (x2.trans x3)).fs ((core y1 F1 H1 x1 g1 r1 y2 F2 H2 x2 g2 r2 y3 F3 H3 x3 g3 r3).laid hP)⟩
theorem sndS_par3o (c : Cok T N cl k X sc) (hp : Bod X) {i j l : Nat} {oi oj ol : Bool} {a b d : E} {t u w x y z : Expr} {kt k2 : Nat} {pt pt2 pos : Pos} (hi : locA N sc i t = true) (hj : locA N sc j u = true) (hl' : locA N sc l w = true) (ha : chkE T N sc a x = true) (hb : chkE T N sc b y = true) (hd : chkE T N sc d z = true)
    (wa : wOwn oi a = true) (wb : wOwn oj b = true) (wd : wOwn ol d = true)
    (hij : i ≠ j) (hil : i ≠ l) (hjl : j ≠ l) (sa : noStar x = true) (sb : noStar y = true) (sd : noStar z = true) (hk : sc.kind = .function) (hl : ((isLclE sc t && isLclE sc u && isLclE sc w && sameLine [t, u, w] && !mayFold [x, y, z]) || !(isLclE sc t && isLclE sc u && isLclE sc w)) = true) :
    SndS X dw (.Assign [.Tuple [t, u, w] kt pt] (.Tuple [x, y, z] k2 pt2) pos) (fun ρ m => bnd (ev cl a ρ m) fun x m => bnd (ev cl b ρ m) fun y m => bnd (ev cl d ρ m) fun z m => opt ((slotOf oi x).bind fun s => (slotOf oj y).bind fun t => (slotOf ol z).map fun u => .nx (((ρ.set i (some s)).set j (some t)).set l (some u))) m) := by
  obtain ⟨x1, p1, rfl, n1, l1⟩ := locA_inv hi
  obtain ⟨x2, p2, rfl, n2, l2⟩ := locA_inv hj
  obtain ⟨x3, p3, rfl, n3, l3⟩ := locA_inv hl'
  intro F0 H0 σ F H ρ m fl m' t0 hf' D q _
  obtain ⟨v1, m1, h1, hf'⟩ := bnd_ok hf'
  obtain ⟨v2, m2, h2, hf'⟩ := bnd_ok hf'
  obtain ⟨v3, m3, h3, hf'⟩ := bnd_ok hf'
  obtain ⟨h4, rfl⟩ := opt_ok hf'
  cases e1 : slotOf oi v1 with
  | none => rw [e1] at h4; cases h4
  | some s1 =>
    cases e2 : slotOf oj v2 with
    | none => rw [e1, e2] at h4; cases h4
    | some s2 =>
      cases e3 : slotOf ol v3 with
      | none => rw [e1, e2, e3] at h4; cases h4
      | some s3 =>
        rw [e1, e2, e3] at h4; cases h4
        have core : ∀ (y1 : V) (F1 H1 : Hp), Ext dw F H F1 H1 → Gr dw F1 H1 m1 → NewS dw H F1 H1 y1 s1 → ∀ (y2 : V) (F2 H2 : Hp), Ext dw F1 H1 F2 H2 → Gr dw F2 H2 m2 → NewS dw H1 F2 H2 y2 s2 → ∀ (y3 : V) (F3 H3 : Hp), Ext dw F2 H2 F3 H3 → Gr dw F3 H3 m' → NewS dw H2 F3 H3 y3 s3 →
            St0 dw F0 H0 (((σ.set i (some y1)).set j (some y2)).set l (some y3)) F3 H3 (((ρ.set i (some s1)).set j (some s2)).set l (some s3)) m' := by
          intro y1 F1 H1 x1 g1 r1 y2 F2 H2 x2 g2 r2 y3 F3 H3 x3 g3 r3
          have tb1 := (t0.ext x1 g1).store r1 t0.held (fun p hp => t0.ex.al p hp) i
          have tb2 := (tb1.ext x2 g2).store r2 tb1.held (fun p hp => t0.ex.al p (x1.al p hp)) j
          exact (tb2.ext x3 g3).store r3 tb2.held (fun p hp => t0.ex.al p (x1.al p (x2.al p hp))) l
        rcases (Bool.or_eq_true _ _).mp hl with hl | hl
        · simp only [Bool.and_eq_true, Bool.not_eq_true'] at hl
          refine ws_of (ps_par3 c.calm c.nodup (c.at n1) (c.at n2) (c.at n3) hij hil hjl (lclE c hl.1.1.1.1) (lclE c hl.1.1.1.2) (lclE c hl.1.1.2) (pa_cons pe_we (pa_cons pe_we (pa_cons pe_we pa_nil (star_cons sd)) (star_cons sb)) (star_cons sa))
            (swap3 (by rw [c.sce]; exact hk) (lclE c hl.1.1.1.1) (lclE c hl.1.1.1.2) (lclE c hl.1.1.2) (at_ne c n1 n2 hij) (at_ne c n1 n3 hil) (at_ne c n2 n3 hjl) (sameLine3 hl.1.2).1 (sameLine3 hl.1.2).2 sa sb sd hl.2)) ?_
          refine sndV_of c ha wa σ F H ρ m v1 m1 s1 t0.er h1 e1 _ fun y1 F1 H1 x1 g1 r1 => ?_
          refine sndV_of c hb wb σ F1 H1 ρ m1 v2 m2 s2 (t0.er.ext x1 g1) h2 e2 _ fun y2 F2 H2 x2 g2 r2 => ?_
          refine sndV_of c hd wd σ F2 H2 ρ m2 v3 _ s3 ((t0.er.ext x1 g1).ext x2 g2) h3 e3 _ fun y3 F3 H3 x3 g3 r3 => ?_
          exact ⟨_, _, _, rfl, q _ rfl _ F3 H3 (x1.trans (x2.trans x3)).fs (core y1 F1 H1 x1 g1 r1 y2 F2 H2 x2 g2 r2 y3 F3 H3 x3 g3 r3)⟩
        · have hn : ¬ (X.env.kindOf x1 = some .local ∧ X.env.kindOf x2 = some .local ∧ X.env.kindOf x3 = some .local) := fun ⟨z1, z2, z3⟩ => by
            have z1 : X.env.scope.names.lookup x1 = some .local := z1
            have z2 : X.env.scope.names.lookup x2 = some .local := z2
            have z3 : X.env.scope.names.lookup x3 = some .local := z3
            rw [c.sce] at z1 z2 z3
            simp [isLclE, isLcl, z1, z2, z3] at hl
          obtain ⟨a1, a2, a3, a4, a5⟩ := assign_nil3 (env := X.env) ⟨x1, p1, rfl⟩ ⟨x2, p2, rfl⟩ ⟨x3, p3, rfl⟩
          refine ws_of (ps_asg (pe_tup (pa_cons pe_we (pa_cons pe_we (pa_cons pe_we pa_nil (star_cons sd)) (star_cons sb)) (star_cons sa))) (pg_tup c.calm (pgs_cons (pg_name c.nodup (c.at n1) (c.loc l1) (.inl (hp.fn _))) (pgs_cons (pg_name c.nodup (c.at n2) (c.loc l2) (.inl (hp.fn _))) (pgs_cons (pg_name c.nodup (c.at n3) (c.loc l3) (.inl (hp.fn _))) pgs_nil a5) a4) a3) a1 a2) (by exact sole rfl) (by exact noswapC3 hn)) ?_
          refine sndV_of c ha wa σ F H ρ m v1 m1 s1 t0.er h1 e1 _ fun y1 F1 H1 x1 g1 r1 => ?_
          refine sndV_of c hb wb σ F1 H1 ρ m1 v2 m2 s2 (t0.er.ext x1 g1) h2 e2 _ fun y2 F2 H2 x2 g2 r2 => ?_
          refine sndV_of c hd wd σ F2 H2 ρ m2 v3 _ s3 ((t0.er.ext x1 g1).ext x2 g2) h3 e3 _ fun y3 F3 H3 x3 g3 r3 => ?_
          refine ⟨lim_line (show 3 ≤ lim by decide), fun P hP => ?_⟩
          exact ⟨_, _, rfl, SqT.of upd_same, rfl, _, _, rfl, _, _, rfl, _, _, rfl, rfl, q _ rfl _ F3 _ (x1.trans (x2.trans x3)).fs ((core y1 F1 H1 x1 g1 r1 y2 F2 H2 x2 g2 r2 y3 F3 H3 x3 g3 r3).laid hP)⟩
theorem St0.fz {F0 H0 F H : Hp} {σ : L2.St} {ρ : Rho} {m : Ms} {y : V} {v : Val} (t : St0 dw F0 H0 σ F H ρ m) (r : VR dw F y v) (i : Nat) : St0 dw F0 H0 (σ.set i (some y)) F H (ρ.set i (some (.fz v))) m := t.store (Hb := H) (s := .fz _) r t.held (fun p hp => t.ex.al p hp) i
theorem sndS_unp2 (c : Cok T N cl k X sc) (hp : Bod X) {i j : Nat} {e : E} {t u v : Expr} {kt : Nat} {pt pos : Pos} (hi : locA N sc i t = true) (hj : locA N sc j u = true) (he : chkE T N sc e v = true) (hn : (noSwap v || !(isLclE sc t && isLclE sc u)) = true) (hc : isCompE v = false) :
    SndS X dw (.Assign [.Tuple [t, u] kt pt] v pos) (fun ρ m => bnd (ed cl e ρ m) fun x m => match x with
    | .tuple [a, b] => ret (.nx ((ρ.set i (some (.fz (.p a)))).set j (some (.fz (.p b))))) m
    | _ => none) := by
  obtain ⟨x1, p1, rfl, n1, l1⟩ := locA_inv hi
  obtain ⟨x2, p2, rfl, n2, l2⟩ := locA_inv hj
  intro F0 H0 σ F H ρ m fl m' t0 hf D q _
  obtain ⟨d, m1, h1, hf⟩ := bnd_ok hf
  have : ∃ a b, d = .tuple [a, b] ∧ fl = .nx ((ρ.set i (some (.fz (.p a)))).set j (some (.fz (.p b)))) ∧ m1 = m' := by
    cases d with
    | tuple l =>
      match l, hf with
      | [a, b], hf => cases hf; exact ⟨a, b, rfl, rfl, rfl⟩
    | _ => cases hf
  obtain ⟨a, b, rfl, rfl, rfl⟩ := this
  have hsw : swappedStores [.Tuple [.Name x1 p1, .Name x2 p2] kt pt] v X.env = pure none := by
    rcases (Bool.or_eq_true _ _).mp hn with hn | hn
    · exact noswap hn
    · refine noswapC fun ⟨z1, z2⟩ => ?_
      have z1 : X.env.scope.names.lookup x1 = some .local := z1
      have z2 : X.env.scope.names.lookup x2 = some .local := z2
      rw [c.sce] at z1 z2
      simp [isLclE, isLcl, z1, z2] at hn
  obtain ⟨a1, a2, a3, a4⟩ := assign_nil2 (env := X.env) ⟨x1, p1, rfl⟩ ⟨x2, p2, rfl⟩
  refine ws_of (ps_asg pe_we (pg_tup c.calm (pgs_cons (pg_name c.nodup (c.at n1) (c.loc l1) (.inl (hp.fn _))) (pgs_cons (pg_name c.nodup (c.at n2) (c.loc l2) (.inl (hp.fn _))) pgs_nil a4) a3) a1 a2) (by exact sole hc) (by exact hsw)) ?_
  refine (snd e X sc v c he).d σ F H ρ m _ _ t0.er h1 _ fun y F1 H1 e1 g1 r1 => ?_
  cases r1 with
  | tup k1 k2 =>
    cases k2 with
    | cons ra k2 =>
      cases k2 with
      | cons rb k2 =>
        cases k2
        refine ⟨_, _, rfl, SqT.of (g1.sub _ _ k1), rfl, _, _, rfl, _, _, rfl, rfl, ?_⟩
        exact q _ rfl _ F1 H1 e1.fs (((t0.ext e1 g1).fz (v := .p a) ra i).fz (v := .p b) rb j)
theorem ip_of {op : Operator} {x y z : PyData} (h : augD op x y = some z) : ∃ (f : Int → Int → Int) (i j : Int), PIp X op (fun x y H Q => ∃ i j : Int, x = .int i ∧ y = .int j ∧ (op = .Mult → (-(2 ^ 64) < i ∧ i < 2 ^ 64) ∨ (-(2 ^ 64) < j ∧ j < 2 ^ 64)) ∧ Q (.int (f i j)) H) ∧ x = .int i ∧ y = .int j ∧ z = .int (f i j) ∧ (op = .Mult → (-(2 ^ 64) < i ∧ i < 2 ^ 64) ∨ (-(2 ^ 64) < j ∧ j < 2 ^ 64)) := by
  unfold augD at h
  split at h
  · cases h
    exact ⟨(· + ·), _, _, fun pins s σ H x y v u Q I r1 r2 ⟨i, j, e1, e2, _, q⟩ => ip_add pins s σ H x y v u Q I r1 r2 ⟨i, j, e1, e2, q⟩, rfl, rfl, rfl, fun e => by cases e⟩
  · cases h
    exact ⟨(· - ·), _, _, fun pins s σ H x y v u Q I r1 r2 ⟨i, j, e1, e2, _, q⟩ => ip_sub pins s σ H x y v u Q I r1 r2 ⟨i, j, e1, e2, q⟩, rfl, rfl, rfl, fun e => by cases e⟩
  · split at h <;> cases h
    rename_i hb
    refine ⟨(· * ·), _, _, ?_, rfl, rfl, rfl, fun _ => hb⟩
    exact fun pins s σ H x y v u Q I r1 r2 ⟨i, j, e1, e2, hc, q⟩ => iop_mul pins s σ H x y v u Q I r1 r2 ⟨i, j, e1, e2, hc rfl, q⟩
  · cases h
theorem sndS_aug (c : Cok T N cl k X sc) (hp : Bod X) {i : Nat} {e : E} {t v : Expr} {op : Operator} {pos : Pos} (hi : locA N sc i t = true) (he : chkE T N sc e v = true) :
    SndS X dw (.AugAssign t op v pos) (fun ρ m => match ρ[i]? with
    | some (some (.fz (.p x))) => bnd (ed cl e ρ m) fun y m => opt ((augD op x y).map fun z => .nx (ρ.set i (some (.fz (.p z))))) m
    | _ => none) := by
  obtain ⟨x1, p1, rfl, n1, l1⟩ := locA_inv hi
  intro F0 H0 σ F H ρ m fl m' t0 hf D q _
  have hf : (match ρ[i]? with
    | some (some (.fz (.p x))) => bnd (ed cl e ρ m) fun y m => opt ((augD op x y).map fun z => Fl.nx (ρ.set i (some (.fz (.p z))))) m
    | _ => none) = some (.ok fl, m') := hf
  split at hf
  · rename_i x hx
    obtain ⟨y, m1, h1, hf⟩ := bnd_ok hf
    obtain ⟨h2, rfl⟩ := opt_ok hf
    cases hz : augD op x y with
    | none => rw [hz] at h2; cases h2
    | some z =>
      rw [hz] at h2; cases h2
      obtain ⟨f, ii, jj, hip, rfl, rfl, rfl, hm⟩ := ip_of (X := X) hz
      refine ws_of (ps_aug c.nodup (c.at n1) (c.loc l1) pe_we hip (.inl (hp.fn _))) ?_
      obtain ⟨w, hw, rw'⟩ := t0.er.sl i _ hx
      cases rw'
      refine ⟨_, hw, ?_⟩
      refine (snd e X sc v c he).d σ F H ρ m _ _ t0.er h1 _ fun u F1 H1 e1 g1 r1 => ?_
      cases r1
      exact ⟨_, _, rfl, rfl, hm, q _ rfl _ F1 H1 e1.fs ((t0.ext e1 g1).fz (v := .p _) (.int _) i)⟩
  · cases hf
theorem base_name {x : Str} {p : Pos} {a : Str} {env : Env} : attributeBase (.Name x p) a env (eval (.Name x p) env) = eval (.Name x p) env := rfl
theorem varE_inv {i : Nat} {y : Expr} (h : chkVarE N sc i y = true) : ∃ x p, y = .Name x p ∧ chkVar N sc i x = true := by
  cases y with
  | Name x p => exact ⟨x, p, rfl, h⟩
  | _ => cases h
theorem sndS_app (c : Cok T N cl k X sc) {i : Nat} {e : E} {y z : Expr} {ap cp pos : Pos} (hy : chkVarE N sc i y = true) (he : chkE T N sc e z = true) (hs : noStar z = true) (hl : (ap.endLine == cp.line) = true) :
    SndS X dw (.Expr (.Call (.Attribute y "append" ap) [z] [] cp) pos) (fun ρ m => bnd (ed cl e ρ m) fun y m => match ρ[i]? with
    | some (some (.ow (.lst l))) => if l.length < lim then ret (.nx (ρ.set i (some (.ol (l ++ [y]))))) m else none
    | _ => none) := by
  obtain ⟨x1, p1, rfl, hv⟩ := varE_inv hy
  intro F0 H0 σ F H ρ m fl m' t0 hf D q _
  obtain ⟨d, m1, h1, hf⟩ := bnd_ok hf
  split at hf
  · rename_i l hρ
    by_cases hlt : l.length < lim
    case neg => rw [if_neg hlt] at hf; cases hf
    rw [if_pos hlt] at hf
    cases hf
    obtain ⟨a, xs, ha, hH, hF, hnd, hr⟩ := (t0.er.sl i _ hρ).ol
    have s1 := star_cons (es := []) (env := X.env) hs
    refine ws_of (ps_expr (pe_bm PySem.F.plainAttrs_list PySem.F.slot_list_append PySem.F.type_list_append mt_append (pe_v c hv) (pa_cons pe_we pa_nil s1) base_name (by rw [s1]; rfl) hl s1 star_nil)) ?_
    refine ⟨_, ha, .inl ⟨rfl, _, SqL.of hH⟩, ?_⟩
    refine (snd e X sc z c he).d σ F H ρ m d _ t0.er h1 _ fun u F1 H1 e1 g1 r1 => ?_
    have t1 := t0.ext e1 g1
    have hH1 := e1.kp _ _ hH hnd
    have hr1 := hr.mono e1.fs
    refine ⟨_, _, _, rfl, rfl, hH1, by rw [hr1.length]; exact lim_lt hlt, q _ rfl _ F1 _ e1.fs (t1.upd hρ ha (.lst (hr1.app (.cons r1 .nil))))⟩
  · cases hf
theorem sub_ha {o i : Expr} {pos : Pos} {env : Env} (h : noSlice i = true) : ∀ v, assign (.Subscript o i pos) env v = (do
      let ov ← holding [v] (eval o env)
      let iv ← holding [v, ov] (eval i env)
      standAt pos
      holding [v, ov, iv] (setItem ov iv v)
      release [v, ov, iv] []) := by
  intro v
  cases i with
  | Slice _ _ _ _ => simp [noSlice] at h
  | _ => rfl
theorem putL_inv {l l' : List PyData} {z d : PyData} (h : putL l z d = some l') : ∃ i j, z = .int i ∧ ixN l.length i = some j ∧ l' = l.set j d := by
  cases z with
  | int i =>
    have h : (ixN l.length i).map (fun j => l.set j d) = some l' := h
    cases e : ixN l.length i with
    | none => rw [e] at h; cases h
    | some j => rw [e] at h; cases h; exact ⟨i, j, rfl, e, rfl⟩
  | _ => cases h
theorem sndS_put (c : Cok T N cl k X sc) {i : Nat} {e f : E} {y l v : Expr} {tp pos : Pos} (hy : chkVarE N sc i y = true) (hk : chkE T N sc f l = true) (hns : noSlice l = true) (he : chkE T N sc e v = true) (hc : isCompE v = false) (hn : noSwap v = true) :
    SndS X dw (.Assign [.Subscript y l tp] v pos) (fun ρ m => bnd (ed cl e ρ m) fun y m => bnd (ed cl f ρ m) fun z m => match ρ[i]? with
    | some (some (.ow (.lst l))) => opt ((putL l z y).map fun l' => .nx (ρ.set i (some (.ol l')))) m
    | _ => none) := by
  obtain ⟨x1, p1, rfl, hv⟩ := varE_inv hy
  intro F0 H0 σ F H ρ m fl m' t0 hf D q _
  obtain ⟨d, m1, h1, hf⟩ := bnd_ok hf
  obtain ⟨z, m2, h2, hf⟩ := bnd_ok hf
  split at hf
  · rename_i u hρ
    obtain ⟨h3, rfl⟩ := opt_ok hf
    cases hp : putL u z d with
    | none => rw [hp] at h3; cases h3
    | some u' =>
      rw [hp] at h3; cases h3
      obtain ⟨ii, j, rfl, hj, rfl⟩ := putL_inv hp
      obtain ⟨a, xs, ha, hH, hF, hnd, hr⟩ := (t0.er.sl i _ hρ).ol
      refine ws_of (ps_asg pe_we (pg_sub (pe_v c hv) pe_we set_list (sub_ha hns)) (by exact sole hc) (by exact noswap hn)) ?_
      refine (snd e X sc v c he).d σ F H ρ m d _ t0.er h1 _ fun w F1 H1 e1 g1 r1 => ?_
      refine ⟨_, ha, ?_⟩
      have t1 := t0.ext e1 g1
      refine (snd f X sc l c hk).d σ F1 H1 ρ m1 _ _ t1.er h2 _ fun w2 F2 H2 e2 g2 r2 => ?_
      cases r2
      have hr2 := (hr.mono e1.fs).mono e2.fs
      have hH2 := e2.kp _ _ (e1.kp _ _ hH hnd) hnd
      refine ⟨_, _, _, j, rfl, rfl, hH2, by rw [hr2.length]; exact hj, q _ rfl _ F2 _ (e1.trans e2).fs ((t1.ext e2 g2).upd hρ ha (.lst (hr2.set (r1.mono e2.fs) j)))⟩
  · cases hf
theorem noswap2 {o1 i1 o2 i2 : Expr} {p1 p2 pt : Pos} {kt : Nat} {v : Expr} {env : Env} : swappedStores [.Tuple [.Subscript o1 i1 p1, .Subscript o2 i2 p2] kt pt] v env = pure none := by
  unfold swappedStores
  cases v with
  | Tuple vs _ _ => simp
  | _ => rfl
theorem sndS_put2 (c : Cok T N cl k X sc) {i : Nat} {a b f g : E} {y z p r u w : Expr} {kt k2 : Nat} {tp1 tp2 pt pt2 pos : Pos} (hy : chkVarE N sc i y = true) (hz : chkVarE N sc i z = true) (hf' : chkE T N sc f p = true) (hg : chkE T N sc g r = true) (hp : noSlice p = true) (hr : noSlice r = true)
    (ha : chkE T N sc a u = true) (hb : chkE T N sc b w = true) (su : noStar u = true) (sw : noStar w = true) :
    SndS X dw (.Assign [.Tuple [.Subscript y p tp1, .Subscript z r tp2] kt pt] (.Tuple [u, w] k2 pt2) pos) (fun ρ m => bnd (ed cl a ρ m) fun x m => bnd (ed cl b ρ m) fun y m => bnd (ed cl f ρ m) fun z m => match ρ[i]? with
    | some (some (.ow (.lst u))) => match putL u z x with
      | some u' => bnd (ed cl g (ρ.set i (some (.ol u'))) m) fun z' m => opt ((putL u' z' y).map fun u2 => .nx (ρ.set i (some (.ol u2)))) m
      | none => none
    | _ => none) := by
  obtain ⟨x1, p1, rfl, hv1⟩ := varE_inv hy
  obtain ⟨x2, p2, rfl, hv2⟩ := varE_inv hz
  intro F0 H0 σ F H ρ m fl m' t0 hf D q _
  obtain ⟨d1, m1, h1, hf⟩ := bnd_ok hf
  obtain ⟨d2, m2, h2, hf⟩ := bnd_ok hf
  obtain ⟨z1, m3, h3, hf⟩ := bnd_ok hf
  split at hf
  · rename_i v hρ
    split at hf
    · rename_i v' hv'
      obtain ⟨z2, m4, h4, hf⟩ := bnd_ok hf
      obtain ⟨h5, rfl⟩ := opt_ok hf
      cases hp2 : putL v' z2 d2 with
      | none => rw [hp2] at h5; cases h5
      | some v2 =>
        rw [hp2] at h5; cases h5
        obtain ⟨ii, j, rfl, hj, rfl⟩ := putL_inv hv'
        obtain ⟨ii2, j2, rfl, hj2, rfl⟩ := putL_inv hp2
        obtain ⟨al, xs, hal, hH, hF, hnd, hrr⟩ := (t0.er.sl i _ hρ).ol
        have hlt : i < ρ.length := (List.getElem?_eq_some_iff.mp hρ).1
        have ht : evs cl (.cons a (.cons b .nil)) ρ m = some (.ok [d1, d2], m2) := by
          show bnd (ed cl a ρ m) _ = _
          rw [h1, bnd_some]
          show bnd (bnd (ed cl b ρ m1) _) _ = _
          rw [h2, bnd_some]
          rfl
        have s1 := star_cons (es := [w]) (env := X.env) su
        have s2 := star_cons (es := []) (env := X.env) sw
        refine ws_of (ps_asg (pe_tup pa_wa) (pg_tup c.calm (pgs_cons (pg_sub (pe_v c hv1) pe_we set_list (sub_ha hp)) (pgs_cons (pg_sub (pe_v c hv2) pe_we set_list (sub_ha hr)) pgs_nil))) (by exact sole rfl) (by exact noswap2)) ?_
        refine sndEs_cons (snd a X sc u c ha).d (sndEs_cons (snd b X sc w c hb).d sndEs_nil sw) su σ F H ρ m _ _ t0.er ht _ fun ys F1 H1 e1 g1 r1 => ?_
        refine ⟨by rw [r1.length]; exact lim_line (show 2 ≤ lim by decide), fun P hP => ?_⟩
        obtain ⟨va, vb, rfl, ra, rb⟩ : ∃ va vb, ys = [va, vb] ∧ Rp F1 va d1 ∧ Rp F1 vb d2 := by
          cases r1 with
          | cons ra r1 =>
            cases r1 with
            | cons rb r1 =>
              cases r1
              exact ⟨_, _, rfl, ra, rb⟩
        obtain ⟨g2, e2⟩ := g1.laidF (o := .tup [va, vb]) hP
        have eA := e1.trans e2
        have t1 := t0.ext eA g2
        refine ⟨_, _, rfl, SqT.of upd_same, rfl, _, _, rfl, ?_⟩
        refine ⟨_, hal, ?_⟩
        refine (snd f X sc p c hf').d σ _ _ ρ m2 _ _ t1.er h3 _ fun w2 F3 H3 e3 g3 r3 => ?_
        cases r3
        have t2 := t1.ext e3 g3
        have hr3 := (hrr.mono eA.fs).mono e3.fs
        have hH3 := e3.kp _ _ (eA.kp _ _ hH hnd) hnd
        refine ⟨_, _, _, j, rfl, rfl, hH3, by rw [hr3.length]; exact hj, ?_⟩
        have t3 := t2.upd hρ hal (.lst (hr3.set ((ra.mono e2.fs).mono e3.fs) j))
        refine ⟨_, _, rfl, ?_⟩
        refine ⟨_, hal, ?_⟩
        refine (snd g X sc r c hg).d σ _ _ _ m3 _ _ t3.er h4 _ fun w4 F4 H4 e4 g4 r4 => ?_
        cases r4
        have t4 := t3.ext e4 g4
        have hH4 := e4.kp _ _ (upd_same (H := H3)) hnd
        have hr4 := (hr3.set ((ra.mono e2.fs).mono e3.fs) j).mono e4.fs
        refine ⟨_, _, _, j2, rfl, rfl, hH4, by rw [hr4.length]; exact hj2, rfl, ?_⟩
        have t5 := t4.upd (i := i) (by rw [List.getElem?_set_self hlt]) hal (.lst (hr4.set (((rb.mono e2.fs).mono e3.fs).mono e4.fs) j2))
        rw [List.set_set] at t5
        exact q _ rfl _ F4 _ ((eA.trans e3).fs.trans e4.fs) t5
    · cases hf
  · cases hf
theorem sndS_dput (c : Cok T N cl k X sc) {i : Nat} {e f : E} {y l v : Expr} {tp pos : Pos} (hy : chkVarE N sc i y = true) (hk : chkE T N sc f l = true) (hns : noSlice l = true) (he : chkE T N sc e v = true) (hc : isCompE v = false) (hn : noSwap v = true) :
    SndS X dw (.Assign [.Subscript y l tp] v pos) (fun ρ m => bnd (ed cl e ρ m) fun y m => bnd (ed cl f ρ m) fun z m => match ρ[i]? with
    | some (some (.ow w)) => opt ((w.put z y).map fun w' => .nx (ρ.set i (some (.ow w')))) m
    | _ => none) := by
  obtain ⟨x1, p1, rfl, hv⟩ := varE_inv hy
  intro F0 H0 σ F H ρ m fl m' t0 hf D q _
  obtain ⟨d, m1, h1, hf⟩ := bnd_ok hf
  obtain ⟨z, m2, h2, hf⟩ := bnd_ok hf
  have hu : X.A.units + 1 < cLine := by have := c.room.un; omega
  split at hf
  · rename_i w hρ
    obtain ⟨h3, rfl⟩ := opt_ok hf
    cases hp : w.put z d with
    | none => rw [hp] at h3; cases h3
    | some w' =>
      rw [hp] at h3; cases h3
      obtain ⟨a, o, ha, hH, hF, hnd, hr⟩ := t0.er.sl i _ hρ
      refine ws_of (ps_dput hu (pe_v c hv) pe_we pe_we (sw_false hc _ _ _)) ?_
      refine (snd e X sc v c he).d σ F H ρ m d _ t0.er h1 _ fun w1 F1 H1 e1 g1 r1 => ?_
      refine ⟨_, ha, ?_⟩
      have t1 := t0.ext e1 g1
      refine (snd f X sc l c hk).d σ F1 H1 ρ m1 _ _ t1.er h2 _ fun w2 F2 H2 e2 g2 r2 => ?_
      have hr2 := (hr.mono e1.fs).mono e2.fs
      have hH2 := e2.kp _ _ (e1.kp _ _ hH hnd) hnd
      have t2 := t1.ext e2 g2
      have r1 := r1.mono e2.fs
      cases hr2 with
      | lst _ => cases hp
      | dk k1 k2 =>
        cases z with
        | int ii =>
          cases r2
          have hp : (if _ then some (Ow.dk (putA _ ii d)) else none) = some w' := hp
          split at hp
          case isFalse => cases hp
          rename_i hl
          cases hp
          have hlen := congrArg List.length k1
          rw [List.length_map, List.length_map] at hlen
          obtain ⟨ks, q1, q2, q3⟩ := putA_rel (Sum.inl : Int → Key) inl_inj k1 k2 ii r1
          refine ⟨a, _, rfl, DPut.k (k := .inl ii) hH2 (by rw [List.length_map, hlen]; exact lim_lt hl), q _ rfl _ F2 _ (e1.trans e2).fs ?_⟩
          rw [q1]
          exact t2.upd hρ ha (.dk q2 q3)
        | _ => cases hp
      | dt k1 k2 =>
        cases z with
        | tuple tl =>
          have hp : (if _ then (intsL tl).map (fun k => Ow.dt (putA _ k d)) else none) = some w' := hp
          split at hp
          · rename_i hl
            cases hi : intsL tl with
            | none => rw [hi] at hp; cases hp
            | some is =>
              rw [hi] at hp
              cases hp
              obtain ⟨b, rfl, hb⟩ := tup_key r2 hi
              have hlen := congrArg List.length k1
              rw [List.length_map, List.length_map] at hlen
              obtain ⟨ks, q1, q2, q3⟩ := putA_rel (fun k : List Int => (k.map Sum.inl : List Key)) inls_inj k1 k2 is r1
              refine ⟨a, _, rfl, DPut.t hH2 (g2.sub _ _ hb) (by rw [List.length_map, hlen]; exact lim_lt hl), q _ rfl _ F2 _ (e1.trans e2).fs ?_⟩
              rw [q1]
              exact t2.upd hρ ha (.dt q2 q3)
          · cases hp
        | _ => cases hp
  · cases hf
theorem sndS_ext (c : Cok T N cl k X sc) {i : Nat} {e : E} {y z : Expr} {ap cp pos : Pos} (hy : chkVarE N sc i y = true) (he : chkE T N sc e z = true) (hs : noStar z = true) (hl : (ap.endLine == cp.line) = true) :
    SndS X dw (.Expr (.Call (.Attribute y "extend" ap) [z] [] cp) pos) (fun ρ m => bnd (ed cl e ρ m) fun y m => match ρ[i]?, y with
    | some (some (.ow (.lst l))), .list ys => if l.length + ys.length ≤ lim then ret (.nx (ρ.set i (some (.ol (l ++ ys))))) m else none
    | _, _ => none) := by
  obtain ⟨x1, p1, rfl, hv⟩ := varE_inv hy
  intro F0 H0 σ F H ρ m fl m' t0 hf D q _
  obtain ⟨d, m1, h1, hf⟩ := bnd_ok hf
  split at hf
  · rename_i l ys hρ
    by_cases hlt : l.length + ys.length ≤ lim
    case neg => rw [if_neg hlt] at hf; cases hf
    rw [if_pos hlt] at hf
    cases hf
    obtain ⟨a, xs, ha, hH, hF, hnd, hr⟩ := (t0.er.sl i _ hρ).ol
    have s1 := star_cons (es := []) (env := X.env) hs
    refine ws_of (ps_expr (pe_bm PySem.F.plainAttrs_list PySem.F.slot_list_extend PySem.F.type_list_extend mt_extend (pe_v c hv) (pa_cons pe_we pa_nil s1) base_name (by rw [s1]; rfl) hl s1 star_nil)) ?_
    refine ⟨_, ha, .inl ⟨rfl, _, SqL.of hH⟩, ?_⟩
    refine (snd e X sc z c he).d σ F H ρ m _ _ t0.er h1 _ fun u F1 H1 e1 g1 r1 => ?_
    have t1 := t0.ext e1 g1
    have hH1 := e1.kp _ _ hH hnd
    have hr1 := hr.mono e1.fs
    cases r1 with
    | lst k1 k2 =>
      refine ⟨_, _, _, _, rfl, rfl, hH1, g1.sub _ _ k1, by rw [hr1.length, k2.length]; exact lim_line hlt, q _ rfl _ F1 _ e1.fs (t1.upd hρ ha (.lst (hr1.app k2)))⟩
  · cases hf
theorem get_list : PGet X (fun x y H Q => ∃ p xs i v, x = .ref p ∧ y = .int i ∧ SqL X.K H p xs ∧ atI xs i = some v ∧ Q v H) := by
  intro pins s σ H x y v u Q I rx ry h
  obtain ⟨p, xs, i, z, rfl, rfl, hq, he, q⟩ := h
  cases rx
  obtain ⟨t, rfl⟩ := ry
  obtain ⟨its, r, pl, hz⟩ := I.list hq
  obtain ⟨j, h1, h2, h3, h4, h5⟩ := atI_get he
  obtain ⟨w, ew, rw'⟩ := r.get h2
  have hl := r.length
  have hn := line63
  have fin : EP X pins σ Q w s := ⟨z, H, I, rw', q⟩
  by_cases h0 : 0 ≤ i
  · have hj : i.toNat = j := by
      rw [seqIndex_of h0 h5] at h1
      exact Option.some.inj h1
    exact wpAny_getItem_list pl.isList h0 (by omega) (by rw [hj]; simpa using ew) fin
  · have hj : (i + (its.toArray.size : Int)).toNat = j := by
      rw [seqIndex_neg (by omega) h4] at h1
      rw [List.size_toArray, ← hl]
      exact Option.some.inj h1
    exact wpAny_getItem_list_neg pl.isList (by omega) (by rw [List.size_toArray] <;> omega) (by omega) (by rw [hj]; simpa using ew) fin
theorem sndS_augi (c : Cok T N cl k X sc) {i : Nat} {e f : E} {y l v : Expr} {op : Operator} {tp pos : Pos} (hy : chkVarE N sc i y = true) (hk : chkE T N sc f l = true) (hns : noSlice l = true) (he : chkE T N sc e v = true) :
    SndS X dw (.AugAssign (.Subscript y l tp) op v pos) (fun ρ m => bnd (ed cl f ρ m) fun z m => match ρ[i]? with
    | some (some (.ow (.lst l))) => match idxD (.list l) z with
      | some x => bnd (ed cl e ρ m) fun y m => opt ((augD op x y).bind fun v => (putL l z v).map fun l' => .nx (ρ.set i (some (.ol l')))) m
      | none => none
    | _ => none) := by
  obtain ⟨x1, p1, rfl, hv⟩ := varE_inv hy
  intro F0 H0 σ F H ρ m fl m' t0 hf D q _
  obtain ⟨z, m1, h1, hf⟩ := bnd_ok hf
  split at hf
  · rename_i u hρ
    split at hf
    · rename_i x hx
      obtain ⟨d, m2, h2, hf⟩ := bnd_ok hf
      obtain ⟨h3, rfl⟩ := opt_ok hf
      cases hz : augD op x d with
      | none => rw [hz] at h3; cases h3
      | some v1 =>
        rw [hz] at h3
        cases hp : putL u z v1 with
        | none => have h3 : ((putL u z v1).map _) = some fl := h3; rw [hp] at h3; cases h3
        | some u' =>
          have h3 : ((putL u z v1).map fun l' => Fl.nx (ρ.set i (some (.ol l')))) = some fl := h3
          rw [hp] at h3; cases h3
          obtain ⟨ii, j, rfl, hj, rfl⟩ := putL_inv hp
          obtain ⟨g, i1, i2, hip, rfl, rfl, rfl, hm⟩ := ip_of (X := X) hz
          obtain ⟨a, xs, ha, hH, hF, hnd, hr⟩ := (t0.er.sl i _ hρ).ol
          refine ws_of (ps_augS (pe_v c hv) pe_we get_list pe_we hip set_list (fun ov iv new => by cases l <;> first | rfl | cases hns)) ?_
          refine ⟨_, ha, ?_⟩
          refine (snd f X sc l c hk).d σ F H ρ m _ _ t0.er h1 _ fun w1 F1 H1 e1 g1 r1 => ?_
          cases r1
          have t1 := t0.ext e1 g1
          have hH1 := e1.kp _ _ hH hnd
          have hr1 := hr.mono e1.fs
          obtain ⟨vv, hvv, rv⟩ := atI_rel hr1 (show atI u ii = some _ from hx)
          refine ⟨_, _, _, vv, rfl, rfl, SqL.of hH1, hvv, ?_⟩
          cases rv
          refine (snd e X sc v c he).d σ F1 H1 ρ m1 _ _ t1.er h2 _ fun w2 F2 H2 e2 g2 r2 => ?_
          cases r2
          have hr2 := hr1.mono e2.fs
          have hH2 := e2.kp _ _ hH1 hnd
          refine ⟨_, _, rfl, rfl, hm, ?_⟩
          refine ⟨_, _, _, j, rfl, rfl, hH2, by rw [hr2.length]; exact hj, q _ rfl _ F2 _ (e1.trans e2).fs ((t1.ext e2 g2).upd hρ ha (.lst (hr2.set (.int _) j)))⟩
    · cases hf
  · cases hf
end
end G

end
section
set_option maxHeartbeats 8000000
namespace G
open PySem PySem.Spec PyProof.Rows L2
section
variable {T : Str → Option Lit} {N : List Str} {cl : Str → List Val → Ms → R Val} {k : Nat} {dw : Dw} {X : Cx} {sc : Scope}
theorem sndS_expr (c : Cok T N cl k X sc) {e : E} {v : Expr} {pos : Pos} (he : chkE T N sc e v = true) (hc : isCompE v = false) : SndS X dw (.Expr v pos) (fun ρ m => bnd (ev cl e ρ m) fun _ m => ret (.nx ρ) m) := by
  intro F0 H0 σ F H ρ m fl m' t0 hf D q _
  obtain ⟨d, m1, h1, hf⟩ := bnd_ok hf
  cases hf
  refine ws_of (ps_expr pe_we (by exact sw_false hc _ _ _)) ?_
  exact snd e X sc v c he σ F H ρ m d _ t0.er h1 _ fun u F1 H1 e1 g1 r1 => q _ rfl _ F1 H1 e1.fs (t0.ext e1 g1)
theorem sndS_skip {st : Stmt} (h : PS X st tNext) : SndS X dw st (fun ρ m => ret (.nx ρ) m) := by
  intro F0 H0 σ F H ρ m fl m' t0 hf D q _
  cases hf
  exact ws_of h (q _ rfl _ F H (Sub.refl _) t0)
theorem sndS_rt (c : Cok T N cl k X sc) {e : E} {v : Expr} {pos : Pos} (he : chkE T N sc e v = true) : SndS X dw (.Return (some v) pos) (fun ρ m => bnd (ev cl e ρ m) fun v m => ret (.rt v) m) := by
  intro F0 H0 σ F H ρ m fl m' t0 hf D _ q
  obtain ⟨d, m1, h1, hf⟩ := bnd_ok hf
  cases hf
  refine ws_of (ps_ret pe_we) ?_
  exact snd e X sc v c he σ F H ρ m d _ t0.er h1 _ fun u F1 H1 e1 g1 r1 => q _ rfl u F1 H1 (t0.ex.trans e1) g1 r1
theorem sndS_rtN {pos : Pos} : SndS X dw (.Return none pos) (fun ρ m => ret (.rt (.p .none)) m) := by
  intro F0 H0 σ F H ρ m fl m' t0 hf D _ q
  cases hf
  exact ws_of ps_retN (q _ rfl _ F H t0.ex t0.er.gr .non)
theorem sndS_ite (c : Cok T N cl k X sc) {e : E} {z : Expr} {x y : List Stmt} {pos : Pos} {fa fb : Rho → Ms → R Fl} (ht : tstE e = true) (he : chkE T N sc e z = true) (ha : SndB X dw x fa) (hb : SndB X dw y fb) :
    SndS X dw (.If z x y pos) (fun ρ m => bnd (ed cl e ρ m) fun x m => match boolOf x with
    | some true => fa ρ m
    | some false => fb ρ m
    | none => none) := by
  intro F0 H0 σ F H ρ m fl m' t0 hf D q1 q2
  obtain ⟨d, m1, h1, hf⟩ := bnd_ok hf
  refine ws_of (ps_if pt_wt pss_wb pss_wb) ?_
  cases hb' : boolOf d with
  | none => rw [hb'] at hf; cases hf
  | some b =>
    have hT : boolV (ev cl e) ρ m = some (.ok b, m1) := by
      show bnd (ed cl e ρ m) _ = _
      rw [h1, bnd_some, hb']
      rfl
    refine sndT e X sc z c ht he σ F H ρ m b m1 t0.er hT _ fun F1 H1 e1 g1 => ?_
    rw [hb'] at hf
    cases b with
    | true => exact (if_pos rfl).mpr (ha F0 H0 σ F1 H1 ρ m1 fl m' (t0.ext e1 g1) hf D (fun ρ' e σ' F' H' s t => q1 ρ' e σ' F' H' (e1.fs.trans s) t) q2)
    | false => exact (if_neg (by decide)).mpr (hb F0 H0 σ F1 H1 ρ m1 fl m' (t0.ext e1 g1) hf D (fun ρ' e σ' F' H' s t => q1 ρ' e σ' F' H' (e1.fs.trans s) t) q2)
theorem sndS_whl (c : Cok T N cl k X sc) (hp : Bod X) {e : E} {z : Expr} {x : List Stmt} {pos : Pos} {fa : Rho → Ms → R Fl} {W : Nat} (ht : tstE e = true) (he : chkE T N sc e z = true) (ha : SndB X dw x fa) :
    SndS X dw (.While z x [] pos) (fun ρ m => whlGo (fun ρ m => bnd (ed cl e ρ m) fun x m => opt (boolOf x) m) fa W ρ m) := by
  intro F0 H0 σ F H ρ m fl m' t0 hf D q1 q2
  refine ws_of (ps_while hp.po pt_wt pss_wb) ?_
  refine ⟨fun n σ1 H1 => ∃ F1 ρ1 m1, St0 dw F0 H0 σ1 F1 H1 ρ1 m1 ∧ Sub F F1 ∧ whlGo (fun ρ m => bnd (ed cl e ρ m) fun x m => opt (boolOf x) m) fa n ρ1 m1 = some (.ok fl, m'), ⟨W, F, ρ, m, t0, Sub.refl _, hf⟩, ?_⟩
  rintro n σ1 H1 ⟨F1, ρ1, m1, t1, s1, h1⟩
  cases n with
  | zero => cases h1
  | succ n =>
    obtain ⟨b, m2, h2, h1⟩ := bnd_ok h1
    refine sndT e X sc z c ht he σ1 F1 H1 ρ1 m1 b m2 t1.er h2 _ fun F2 H2 e2 g2 => ?_
    have t2 := t1.ext e2 g2
    cases b with
    | false =>
      rw [if_neg (by decide)] at h1
      cases h1
      exact (if_neg (by decide)).mpr (q1 _ rfl _ F2 H2 (s1.trans e2.fs) t2)
    | true =>
      rw [if_pos rfl] at h1
      obtain ⟨fl3, m3, h3, h1⟩ := bnd_ok h1
      refine (if_pos rfl).mpr ⟨fun σ' H' => ∃ F1 ρ1 m1, St0 dw F0 H0 σ' F1 H' ρ1 m1 ∧ Sub F F1 ∧ whlGo (fun ρ m => bnd (ed cl e ρ m) fun x m => opt (boolOf x) m) fa n ρ1 m1 = some (.ok fl, m'), fun σ' H' hh => ⟨n, Nat.lt_succ_self _, hh⟩, ?_⟩
      refine ha F0 H0 σ1 F2 H2 ρ1 m2 fl3 m3 t2 h3 _ (fun ρ' e σ' F' H' s t => ?_) (fun v e x' F' H' ex g r => ?_)
      · subst e
        exact ⟨F', ρ', m3, t, s1.trans (e2.fs.trans s), h1⟩
      · subst e
        cases h1
        exact q2 _ rfl x' F' H' ex g r
theorem tg_bind0 {K : PySem.W.Frag} {F0 H0 F H : Hp} {σ : L2.St} {ρ ρ' : Rho} {m : Ms} {x : V} {d : PyData} {Q : L2.St → Hp → Prop} {tg : Tg} (hb : bindT tg d ρ = some ρ') (t : St0 dw F0 H0 σ F H ρ m) (r : Rp F x d)
    (q : ∀ σ', St0 dw F0 H0 σ' F H ρ' m → Q σ' H) : tgRead K tg x σ H Q := by
  cases tg with
  | one i =>
    cases hb
    exact q _ (t.fz (v := .p d) r i)
  | two i j =>
    obtain ⟨a, b, rfl, rfl⟩ := bindT_two hb
    cases r with
    | tup h1 h2 =>
      cases h2 with
      | cons r1 h2 =>
        cases h2 with
        | cons r2 h2 =>
          cases h2
          exact ⟨_, _, rfl, SqT.of (t.er.gr.sub _ _ h1), rfl, _, _, rfl, _, _, rfl, rfl, q _ ((t.fz (v := .p _) r1 i).fz (v := .p _) r2 j)⟩
theorem for_at (c : Cok T N cl k X sc) (hp : Bod X) {tg : Tg} {t i : Expr} {x : List Stmt} {pos : Pos} {fa : Rho → Ms → R Fl} (h2 : noSet i = true) (h3 : chkTg N sc tg t = true) (ha : SndB X dw x fa)
    {F0 H0 : Hp} {σ : L2.St} {F H : Hp} {ρ : Rho} {m m1 m' : Ms} {fl : Fl} {xs : List PyData} (t0 : St0 dw F0 H0 σ F H ρ m) (hi : ∀ Rr : L2.It → Hp → Prop, (∀ J F' H', Ext dw F H F' H' → Gr dw F' H' m1 → ItOk F' J xs → Rr J H') → WI X t i σ H Rr)
    (hf : forGo (fun x ρ m => match bindT tg x ρ with
    | some ρ' => fa ρ' m
    | none => none) xs ρ m1 = some (.ok fl, m')) {D : Ends}
    (q1 : ∀ ρ', fl = .nx ρ' → ∀ σ' F' H', Sub F F' → St0 dw F0 H0 σ' F' H' ρ' m' → D.nx σ' H') (q2 : ∀ v, fl = .rt v → ∀ x F' H', Ext dw F0 H0 F' H' → Gr dw F' H' m' → VR dw F' x v → D.rt x H') : WS X (.For t i x [] pos) D σ H := by
  have hpg : PG X t (tgRead X.K tg) := pg_tg c.calm c.nn c.nd c.sce h3 fun j hj y _ hy => .inl (hp.fn y)
  refine ws_of (ps_for hp.po c.calm pi_wi hpg pss_wb (set_iter h2)) ?_
  refine hi _ fun J F1 H1 e1 g1 io => ?_
  refine ⟨fun i n σ' H' => n = xs.length - i ∧ i ≤ xs.length ∧ ∃ F' ρ' mm, St0 dw F0 H0 σ' F' H' ρ' mm ∧ Sub F1 F' ∧ forGo (fun x ρ m => match bindT tg x ρ with
    | some ρ' => fa ρ' m
    | none => none) (xs.drop i) ρ' mm = some (.ok fl, m'), ⟨xs.length, rfl, Nat.zero_le _, F1, ρ, m1, t0.ext e1 g1, Sub.refl _, hf⟩, ?_⟩
  rintro j n σ' H' ⟨rfl, hj, F', ρ', mm, t', s', hg⟩
  by_cases hlt : j < xs.length
  · refine .inr ⟨io.go j H' hlt (s'.trans t'.er.gr.sub), fun σ2 H2 => j + 1 ≤ xs.length ∧ ∃ F' ρ' mm, St0 dw F0 H0 σ2 F' H2 ρ' mm ∧ Sub F1 F' ∧ forGo (fun x ρ m => match bindT tg x ρ with
      | some ρ' => fa ρ' m
      | none => none) (xs.drop (j + 1)) ρ' mm = some (.ok fl, m'), fun σ2 H2 hh => ⟨xs.length - (j + 1), by omega, rfl, hh⟩, fun y H2 hy => ?_⟩
    have hd : xs[j]? = some xs[j] := by simp [hlt]
    rw [List.drop_eq_getElem_cons hlt] at hg
    obtain ⟨fl2, m2, hx, hg⟩ := bnd_ok hg
    obtain ⟨F2, e2, g2, r2⟩ := io.turn hd s' t'.er.gr hy
    dsimp only at hx
    split at hx
    · rename_i ρ2 hb
      refine tg_bind0 hb (t'.ext e2 g2) r2 fun σ2 t2 => ?_
      refine ha F0 H0 σ2 F2 H2 ρ2 mm fl2 m2 t2 hx _ (fun ρ3 e σ3 F3 H3 s t => ?_) (fun v e x' F3 H3 ex g r => ?_)
      · subst e
        exact ⟨hlt, F3, ρ3, m2, t, s'.trans (e2.fs.trans s), hg⟩
      · subst e
        cases hg
        exact q2 _ rfl x' F3 H3 ex g r
    · cases hx
  · have hil : j = xs.length := by omega
    subst hil
    rw [List.drop_length] at hg
    cases hg
    exact .inl ⟨io.stop H' (s'.trans t'.er.gr.sub), q1 _ rfl _ F' H' (e1.fs.trans s') t'⟩
theorem sndS_for (c : Cok T N cl k X sc) (hp : Bod X) {tg : Tg} {it : Lp} {t i : Expr} {x : List Stmt} {pos : Pos} {fa : Rho → Ms → R Fl} (h0 : tgIt tg it = true) (h1 : chkI T N sc it i = true) (h2 : noSet i = true) (h3 : chkTg N sc tg t = true) (ha : SndB X dw x fa) :
    SndS X dw (.For t i x [] pos) (fun ρ m => bnd (evI cl it ρ m) fun xs m => forGo (fun x ρ m => match bindT tg x ρ with
    | some ρ' => fa ρ' m
    | none => none) xs ρ m) := by
  intro F0 H0 σ F H ρ m fl m' t0 hf D q1 q2
  obtain ⟨xs, m1, hi, hf⟩ := bnd_ok hf
  exact for_at c hp h2 h3 ha t0 (fun Rr q => sndI it X sc tg t i c h0 (chkTg_tup h3) h1 σ F H ρ m xs m1 t0.er hi Rr q) hf q1 q2
theorem set_self {α : Type} {l : List α} {i : Nat} {a : α} (h : l[i]? = some a) : l.set i a = l := by
  obtain ⟨hl, rfl⟩ := List.getElem?_eq_some_iff.mp h
  exact List.set_getElem_self hl
theorem sndB_nil : SndB X dw [] (fun ρ m => ret (.nx ρ) m) := by
  intro F0 H0 σ F H ρ m fl m' t0 hf D q _
  cases hf
  exact wb_of pss_nil (q _ rfl _ F H (Sub.refl _) t0)
theorem sndB_cons {st : Stmt} {rest : List Stmt} {f g : Rho → Ms → R Fl} (h1 : SndS X dw st f) (h2 : SndB X dw rest g) : SndB X dw (st :: rest) (fun ρ m => bnd (f ρ m) fun fl m => match fl with
    | .nx ρ' => g ρ' m
    | .rt v => ret (.rt v) m) := by
  intro F0 H0 σ F H ρ m fl m' t0 hf D q1 q2
  obtain ⟨fl1, m1, hf1, hf⟩ := bnd_ok hf
  refine wb_of (pss_cons ps_ws pss_wb) ?_
  refine h1 F0 H0 σ F H ρ m fl1 m1 t0 hf1 _ (fun ρ' e σ' F' H' s t => ?_) (fun v e x F' H' ex g r => ?_)
  · subst e
    exact h2 F0 H0 σ' F' H' ρ' m1 fl m' t hf D (fun ρ2 e2 σ2 F2 H2 s2 t2 => q1 ρ2 e2 σ2 F2 H2 (s.trans s2) t2) q2
  · subst e
    cases hf
    exact q2 _ rfl x F' H' ex g r
theorem St0.give {F0 H0 F H : Hp} {σ : L2.St} {ρ : Rho} {m : Ms} {i : Nat} {w : Ow} {v : Val} {a : Addr} {o : HO} (t0 : St0 dw F0 H0 σ F H ρ m) (hρ : ρ[i]? = some (some (.ow w))) (ha : σ[i]? = some (some (.ref a))) (hH : H a = some o) (hF : F a = none) (hnd : ¬ isDr dw a)
    (hv : ∀ F', Sub F F' → F' a = some o → VR dw F' (.ref a) v) : Sub F (L2.upd F a o) ∧ St0 dw F0 H0 σ (L2.upd F a o) H (ρ.set i (some (.fz v))) m := by
  obtain ⟨g2, s2⟩ := t0.er.gr.freeze hH hF hnd
  have hn := t0.fr i w a hρ ha
  refine ⟨s2, ⟨g2, by rw [List.length_set]; exact t0.er.len, fun j s hs => ?_, fun j j' l1 l2 b e1 e2 e3 e4 => ?_⟩, ⟨fun b u e => ?_, t0.ex.kp, fun b u e => ?_, t0.ex.al⟩, fun j l1 b e1 e2 => ?_⟩
  · rcases get_set hs with ⟨rfl, e, hl⟩ | ⟨ne, hs⟩
    · cases e
      exact ⟨_, ha, hv _ s2 upd_same⟩
    · have q := t0.er.sl j s hs
      cases s with
      | fz v => obtain ⟨y, q1, q2⟩ := q; exact ⟨y, q1, q2.mono s2⟩
      | raw v => exact q
      | bd k => obtain ⟨b, ob, u, q1, q2, q3⟩ := q; exact ⟨b, ob, u, q1, s2 _ _ q2, q3.mono s2⟩
      | ow k =>
        obtain ⟨b, zs, q1, q2, q3, q4, q5⟩ := q
        refine ⟨b, zs, q1, q2, ?_, q4, q5.mono s2⟩
        rw [upd_ne]
        · exact q3
        · intro z
          subst z
          exact ne (t0.er.ap i j _ k b hρ hs ha q1)
  · rcases get_set e1 with ⟨_, e, _⟩ | ⟨_, e1⟩
    · cases e
    · rcases get_set e2 with ⟨_, e, _⟩ | ⟨_, e2⟩
      · cases e
      · exact t0.er.ap j j' l1 l2 b e1 e2 e3 e4
  · exact s2 _ _ (t0.ex.fs _ _ e)
  · by_cases hb : b = a
    · subst hb; exact .inr (.inl hn)
    · rw [upd_ne hb] at e; exact t0.ex.nw _ _ e
  · rcases get_set e1 with ⟨_, e, _⟩ | ⟨_, e1⟩
    · cases e
    · exact t0.fr j l1 b e1 e2
theorem sndB_frz {i : Nat} {rest : List Stmt} {g : Rho → Ms → R Fl} (h2 : SndB X dw rest g) : SndB X dw rest (fun ρ m => bnd (match ρ[i]? with
    | some (some (.ow (.lst l))) => ret (Fl.nx (ρ.set i (some (.fz (.p (.list l)))))) m
    | some (some (.ow (.dk kvs))) => ret (Fl.nx (ρ.set i (some (.fz (.p (kdI kvs)))))) m
    | some (some (.fz v)) => ret (Fl.nx (ρ.set i (some (.fz v)))) m
    | _ => none) fun fl m => match fl with
    | .nx ρ' => g ρ' m
    | .rt v => ret (.rt v) m) := by
  intro F0 H0 σ F H ρ m fl m' t0 hf D q1 q2
  obtain ⟨fl1, m1, hf1, hf⟩ := bnd_ok hf
  split at hf1
  · rename_i l hρ
    cases hf1
    obtain ⟨a, xs, ha, hH, hF, hnd, hr⟩ := (t0.er.sl i _ hρ).ol
    obtain ⟨s2, t1⟩ := t0.give (v := .p (.list l)) hρ ha hH hF hnd fun F' s e => Rp.lst e (hr.mono s)
    exact h2 F0 H0 σ _ H _ _ fl m' t1 hf D (fun ρ2 e2 σ2 F2 H2 s3 t2 => q1 ρ2 e2 σ2 F2 H2 (s2.trans s3) t2) q2
  · rename_i kvs hρ
    cases hf1
    obtain ⟨a, o, ha, hH, hF, hnd, hr⟩ := t0.er.sl i _ hρ
    cases hr with
    | dk k1 k2 =>
      obtain ⟨s2, t1⟩ := t0.give (v := .p (kdI kvs)) hρ ha hH hF hnd fun F' s e => Rp.dct e k1 (k2.mono s)
      exact h2 F0 H0 σ _ H _ _ fl m' t1 hf D (fun ρ2 e2 σ2 F2 H2 s3 t2 => q1 ρ2 e2 σ2 F2 H2 (s2.trans s3) t2) q2
  · rename_i v hρ
    cases hf1
    have : ρ.set i (some (.fz v)) = ρ := set_self hρ
    rw [this] at hf
    exact h2 F0 H0 σ F H ρ _ fl m' t0 hf D q1 q2
  · cases hf1
theorem inv_dT {pins : List (Addr × Obj)} {σ : L2.St} {H : Hp} {s : Shared} {a : Addr} (I : Inv X pins σ H s) (h : H a = some (.dK [])) : Inv X pins σ (L2.upd H a (.dT [])) s := by
  obtain ⟨z, hd, vs, rel, dd⟩ := dk_of I.hok h
  obtain ⟨q, es, ep, hq, hx, hdt, hk, hp, hn⟩ := dd
  cases rel
  have he : es.toList = [] := by
    generalize es.toList = l at hp
    cases hp
    rfl
  exact d_write (t' := s.toks) (h' := s.heap) I (by rw [h]; exact True.intro) ⟨rfl, fun _ _ => rfl⟩ ⟨q, hq⟩ ⟨Nat.zero_le _, hd, [], .nil, q, es, ep, hq, hx, hdt, by rw [he]; rfl, List.nodup_nil⟩
theorem sndB_astup {i : Nat} {rest : List Stmt} {g : Rho → Ms → R Fl} (h2 : SndB X dw rest g) : SndB X dw rest (fun ρ m => bnd (match ρ[i]? with
    | some (some (.ow (.dk []))) => ret (Fl.nx (ρ.set i (some (.ow (.dt []))))) m
    | _ => none) fun fl m => match fl with
    | .nx ρ' => g ρ' m
    | .rt v => ret (.rt v) m) := by
  intro F0 H0 σ F H ρ m fl m' t0 hf D q1 q2
  obtain ⟨fl1, m1, hf1, hf⟩ := bnd_ok hf
  split at hf1
  · rename_i hρ
    cases hf1
    obtain ⟨a, o, ha, hH, hF, hnd, hr⟩ := t0.er.sl i _ hρ
    have ho : o = .dK [] := by
      cases hr with
      | @dk js ds k1 k2 =>
        cases js with
        | nil => rfl
        | cons _ _ => cases k1
    subst ho
    have t1 := t0.upd hρ ha (o := .dT []) (l' := .dt []) (.dt (js := []) (ds := []) rfl .nil)
    have := h2 F0 H0 σ _ _ _ _ fl m' t1 hf D q1 q2
    exact fun pins s I => this pins s (inv_dT I hH)
  · cases hf1
variable {W : Nat}
mutual
theorem sndS : ∀ (s : S) (X : Cx) (sc : Scope) (st : Stmt), Cok T N cl k X sc → Bod X → chkS T N sc s st = true → SndS X dw st (ex cl W s)
  | .set i e, X, sc, st, c, hp, h => by
    cases st with
    | Assign ts v p =>
      match ts, h with
      | [t], h =>
        simp only [chkS, Bool.and_eq_true] at h
        exact sndS_set (o := false) c hp h.1.1.1 h.1.1.2 h.1.2 (by simpa using h.2) rfl
    | _ => cases h
  | .own i e, X, sc, st, c, hp, h => by
    cases st with
    | Assign ts v p =>
      match ts, h with
      | [t], h =>
        simp only [chkS, Bool.and_eq_true] at h
        exact sndS_set (o := true) c hp h.1.1.1.1 h.1.1.1.2 h.1.1.2 (by simpa using h.1.2) h.2
    | _ => cases h
  | .par2 i j oi oj a b, X, sc, st, c, hp, h => by
    cases st with
    | Assign ts v p =>
      match ts, v, h with
      | [.Tuple [t, u] _ _], .Tuple [x, y] _ _, h =>
        rw [chkS, Bool.and_eq_true] at h
        obtain ⟨h, h11⟩ := h
        simp only [Bool.and_eq_true, decide_eq_true_eq] at h
        obtain ⟨⟨⟨⟨⟨⟨⟨⟨⟨h1, h2⟩, h3⟩, h4⟩, h5⟩, h6⟩, h7⟩, h8⟩, h9⟩, h10⟩ := h
        exact sndS_par2 c hp h1 h2 h3 h4 h5 h6 h7 h8 h9 h10 h11
    | _ => cases h
  | .par3 i j l a b d, X, sc, st, c, hp, h => by
    cases st with
    | Assign ts v p =>
      match ts, v, h with
      | [.Tuple [t, u, w] _ _], .Tuple [x, y, z] _ _, h =>
        rw [chkS, Bool.and_eq_true] at h
        obtain ⟨h, h14⟩ := h
        simp only [Bool.and_eq_true, decide_eq_true_eq] at h
        obtain ⟨⟨⟨⟨⟨⟨⟨⟨⟨⟨⟨⟨h1, h2⟩, h3⟩, h4⟩, h5⟩, h6⟩, h7⟩, h8⟩, h9⟩, h10⟩, h11⟩, h12⟩, h13⟩ := h
        exact sndS_par3 c hp h1 h2 h3 h4 h5 h6 h7 h8 h9 h10 h11 h12 h13 h14
    | _ => cases h
  | .par3o i j l oi oj ol a b d, X, sc, st, c, hp, h => by
    cases st with
    | Assign ts v p =>
      match ts, v, h with
      | [.Tuple [t, u, w] _ _], .Tuple [x, y, z] _ _, h =>
        rw [chkS, Bool.and_eq_true] at h
        obtain ⟨h, h14⟩ := h
        simp only [Bool.and_eq_true, decide_eq_true_eq] at h
        obtain ⟨⟨⟨⟨⟨⟨⟨⟨⟨⟨⟨⟨⟨⟨⟨h1, h2⟩, h3⟩, h4⟩, h5⟩, h6⟩, w1⟩, w2⟩, w3⟩, h7⟩, h8⟩, h9⟩, h10⟩, h11⟩, h12⟩, h13⟩ := h
        exact sndS_par3o c hp h1 h2 h3 h4 h5 h6 w1 w2 w3 h7 h8 h9 h10 h11 h12 h13 h14
    | _ => cases h
  | .unp2 i j e, X, sc, st, c, hp, h => by
    cases st with
    | Assign ts v p =>
      match ts, h with
      | [.Tuple [t, u] _ _], h =>
        rw [chkS, Bool.and_eq_true, Bool.and_eq_true] at h
        obtain ⟨⟨h, h5⟩, h6⟩ := h
        simp only [Bool.and_eq_true, decide_eq_true_eq] at h
        obtain ⟨⟨⟨h1, h2⟩, h3⟩, h4⟩ := h
        exact sndS_unp2 c hp h1 h2 h4 h5 (by simpa using h6)
    | _ => cases h
  | .frz _, _, _, _, _, _, h => by cases h
  | .astup _, _, _, _, _, _, h => by cases h
  | .dput i kk e, X, sc, st, c, _, h => by
    cases st with
    | Assign ts v p =>
      match ts, h with
      | [.Subscript y l _], h =>
        simp only [chkS, Bool.and_eq_true, decide_eq_true_eq, Bool.not_eq_true'] at h
        obtain ⟨⟨⟨⟨⟨h1, h2⟩, h3⟩, h4⟩, h5⟩, h6⟩ := h
        exact sndS_dput c h1 h2 h3 h4 h5 h6
    | _ => cases h
  | .ext i e, X, sc, st, c, _, h => by
    cases st with
    | Expr v p =>
      cases v with
      | Call g xs ks cp =>
        cases g with
        | Attribute y f ap =>
          match xs, ks, h with
          | [z], [], h =>
            simp only [chkS, Bool.and_eq_true, decide_eq_true_eq] at h
            obtain ⟨⟨⟨⟨h1, rfl⟩, h2⟩, h3⟩, h4⟩ := h
            exact sndS_ext c h1 h2 h3 h4
        | _ => cases h
      | _ => cases h
    | _ => cases h
  | .augi i op kk e, X, sc, st, c, _, h => by
    cases st with
    | AugAssign t op' v p =>
      cases t with
      | Subscript y l tp =>
        simp only [chkS, Bool.and_eq_true, decide_eq_true_eq] at h
        obtain ⟨⟨⟨⟨h1, rfl⟩, h2⟩, h3⟩, h4⟩ := h
        exact sndS_augi c h1 h2 h3 h4
      | _ => cases h
    | _ => cases h
  | .aug i op e, X, sc, st, c, hp, h => by
    cases st with
    | AugAssign t op' v p =>
      simp only [chkS, Bool.and_eq_true, decide_eq_true_eq] at h
      obtain ⟨⟨h1, rfl⟩, h2⟩ := h
      exact sndS_aug c hp h1 h2
    | _ => cases h
  | .app i e, X, sc, st, c, _, h => by
    cases st with
    | Expr v p =>
      cases v with
      | Call g xs ks cp =>
        cases g with
        | Attribute y f ap =>
          match xs, ks, h with
          | [z], [], h =>
            simp only [chkS, Bool.and_eq_true, decide_eq_true_eq] at h
            obtain ⟨⟨⟨⟨h1, rfl⟩, h2⟩, h3⟩, h4⟩ := h
            exact sndS_app c h1 h2 h3 h4
        | _ => cases h
      | _ => cases h
    | _ => cases h
  | .put i kk e, X, sc, st, c, _, h => by
    cases st with
    | Assign ts v p =>
      match ts, h with
      | [.Subscript y l _], h =>
        simp only [chkS, Bool.and_eq_true, decide_eq_true_eq, Bool.not_eq_true'] at h
        obtain ⟨⟨⟨⟨⟨h1, h2⟩, h3⟩, h4⟩, h5⟩, h6⟩ := h
        exact sndS_put c h1 h2 h3 h4 h5 h6
    | _ => cases h
  | .put2 i kk l a b, X, sc, st, c, _, h => by
    cases st with
    | Assign ts v p =>
      match ts, v, h with
      | [.Tuple [.Subscript y p _, .Subscript z q _] _ _], .Tuple [u, w] _ _, h =>
        simp only [chkS, Bool.and_eq_true, decide_eq_true_eq] at h
        obtain ⟨⟨⟨⟨⟨⟨⟨⟨⟨h1, h2⟩, h3⟩, h4⟩, h5⟩, h6⟩, h7⟩, h8⟩, h9⟩, h10⟩ := h
        exact sndS_put2 c h1 h2 h3 h4 h5 h6 h7 h8 h9 h10
    | _ => cases h
  | .expr e, X, sc, st, c, _, h => by
    cases st with
    | Expr v p =>
      simp only [chkS, Bool.or_eq_true, Bool.and_eq_true, Bool.not_eq_true'] at h
      rcases h with h | h
      · exact sndS_expr c h.1 h.2
      · split at h
        · exact sndS_skip ps_doc
        · cases h
    | Pass p =>
      cases e with
      | cst l =>
        cases l with
        | non => exact sndS_skip ps_pass
        | _ => cases h
      | _ => cases h
    | _ => cases h
  | .rt e, X, sc, st, c, _, h => by
    cases st with
    | Return v p =>
      cases v with
      | some v => exact sndS_rt c h
      | none =>
        cases e with
        | cst l =>
          cases l with
          | non => exact sndS_rtN
          | _ => cases h
        | _ => cases h
    | _ => cases h
  | .ite e a b, X, sc, st, c, hp, h => by
    cases st with
    | If z x y p =>
      simp only [chkS, Bool.and_eq_true] at h
      obtain ⟨⟨⟨h1, h2⟩, h3⟩, h4⟩ := h
      exact sndS_ite c h1 h2 (sndBk a X sc x c hp h3) (sndBk b X sc y c hp h4)
    | _ => cases h
  | .for tg it b, X, sc, st, c, hp, h => by
    cases st with
    | For t i body orelse p =>
      cases orelse with
      | nil =>
        simp only [chkS, Bool.and_eq_true] at h
        obtain ⟨⟨⟨⟨h1, h2⟩, h3⟩, h4⟩, h6⟩ := h
        exact sndS_for c hp h1 h2 h3 h4 (sndBk b X sc body c hp h6)
      | cons _ _ => cases h
    | _ => cases h
  | .whl e b, X, sc, st, c, hp, h => by
    cases st with
    | While z body orelse p =>
      cases orelse with
      | nil =>
        simp only [chkS, Bool.and_eq_true] at h
        obtain ⟨⟨h1, h2⟩, h3⟩ := h
        exact sndS_whl c hp h1 h2 (sndBk b X sc body c hp h3)
      | cons _ _ => cases h
    | _ => cases h
  | .rse x e, X, sc, st, c, _, h => by
    intro F0 H0 σ F H ρ m fl m' t0 hf D q1 q2
    obtain ⟨d, m1, _, hf⟩ := bnd_ok hf
    cases hf
theorem sndBk : ∀ (b : B) (X : Cx) (sc : Scope) (sts : List Stmt), Cok T N cl k X sc → Bod X → chkB T N sc b sts = true → SndB X dw sts (exB cl W b)
  | .nil, X, sc, sts, c, _, h => by
    cases sts with
    | nil => exact sndB_nil
    | cons _ _ => cases h
  | .cons s b, X, sc, sts, c, hp, h => by
    by_cases hs : ∃ i, s = .frz i
    · obtain ⟨i, rfl⟩ := hs
      exact sndB_frz (sndBk b X sc sts c hp h)
    · by_cases hs2 : ∃ i, s = .astup i
      · obtain ⟨i, rfl⟩ := hs2
        exact sndB_astup (sndBk b X sc sts c hp h)
      · cases sts with
        | nil => cases s <;> first | cases h | exact absurd ⟨_, rfl⟩ hs | exact absurd ⟨_, rfl⟩ hs2
        | cons st rest =>
          have h : (chkS T N sc s st && chkB T N sc b rest) = true := by cases s <;> first | exact h | exact absurd ⟨_, rfl⟩ hs | exact absurd ⟨_, rfl⟩ hs2
          rw [Bool.and_eq_true] at h
          exact sndB_cons (sndS s X sc st c hp h.1) (sndBk b X sc rest c hp h.2)
end
end
end G

end
section
set_option maxHeartbeats 8000000
namespace G
open PySem PySem.Spec PyProof.Rows L2
def FnAt (K : PySem.W.Frag) (mg : Str → Option Value) (T : Str → Option Lit) (f : Str) (d : Def) : Prop :=
  ∃ (fa : Addr) (name qual : Str) (params : Arguments) (body : List Stmt) (scope : Scope) (dV kV doc pm cdv ct oc : Value) (an od : Option Addr) (osl : Array (Option Value)) (N ps : List Str),
    mg f = some (.ref fa) ∧ PySem.W.keepIn K (.ref fa) = true ∧ K.lookup fa = some ⟨oc, od, .func (PySem.W.fnOf name qual params body scope dV kV doc pm an cdv ct), osl⟩ ∧ PySem.W.codeIn K cdv qual = true ∧ FnScope N ps scope ∧
      Binds K (PySem.W.fnOf name qual params body scope dV kV doc pm an cdv ct) ps [] ∧ ps.length = d.np ∧ N.length = d.ns ∧ chkB T N scope d.body body = true
structure TabOk (P : Program) (w : World) (K : PySem.W.Frag) (mg : Str → Option Value) (base : Heap) (T : Str → Option Lit) (Γ : Str → Option Fn) : Prop where
  bn : ∀ x ∈ bnames, mg x = none
  gl : ∀ x c, T x = some c → ∃ u, mg x = some u ∧ RelV c.v u
  code : ∀ f d, Γ f = some (.code d) → FnAt K mg T f d
  draw : ∀ f, Γ f = some .draw → ∀ (n : Nat) (l : Int) (m : Ms) (v : Val) (m' : Ms), drawR m l = some (.ok v, m') → CallOk P w K mg base (n + 3) f [.drw, .p (.int l)] m v m'
theorem vrs_get {dw : Dw} {F : Hp} : ∀ {xs : List V} {vs : List Val} {i : Nat} {v : Val}, VRs dw F xs vs → vs[i]? = some v → ∃ x, xs[i]? = some x ∧ VR dw F x v
  | _, _, _, _, .nil, h => by simp at h
  | _, _, 0, v, .cons h r, e => by simp at e; subst e; exact ⟨_, rfl, h⟩
  | _, _, i + 1, v, .cons h r, e => by
    obtain ⟨x, h1, h2⟩ := vrs_get (i := i) r (by simpa using e)
    exact ⟨x, by simpa using h1, h2⟩
theorem startR_get {ns : Nat} {vs : List Val} {i : Nat} {s : Slot} (h : (startR ns vs)[i]? = some (some s)) : ∃ v, vs[i]? = some v ∧ s = .fz v := by
  unfold startR at h
  by_cases hi : i < vs.length
  · rw [List.getElem?_append_left (by simpa using hi), List.getElem?_map] at h
    cases e : vs[i]? with
    | none => rw [e] at h; cases h
    | some v => rw [e] at h; cases h; exact ⟨v, rfl, rfl⟩
  · rw [List.getElem?_append_right (by simpa using hi), List.getElem?_replicate] at h
    split at h <;> cases h
theorem start_er {dw : Dw} {F H : Hp} {m : Ms} {N : List Str} {ns : Nat} {xs : List V} {vs : List Val} (g : Gr dw F H m) (r : VRs dw F xs vs) (hn : N.length = ns) : St0 dw F H (L2.start N xs) F H (startR ns vs) m := by
  refine ⟨⟨g, ?_, fun i s h => ?_, fun i j l k a h1 h2 _ _ => ?_⟩, Ext.refl .., fun i l a h _ => ?_⟩
  · unfold L2.start startR
    rw [List.length_append, List.length_append, List.length_map, List.length_map, List.length_replicate, List.length_replicate, r.length, hn]
  · obtain ⟨v, h1, rfl⟩ := startR_get h
    obtain ⟨x, h2, h3⟩ := vrs_get r h1
    refine ⟨x, ?_, h3⟩
    have hi := (List.getElem?_eq_some_iff.mp h2).1
    unfold L2.start
    rw [List.getElem?_append_left (by simpa using hi), List.getElem?_map, h2]
    rfl
  · obtain ⟨v, _, e⟩ := startR_get h1
    cases e
  · obtain ⟨v, _, e⟩ := startR_get h
    cases e
section
variable {P : Program} {w : World} {K : PySem.W.Frag} {mg : Str → Option Value} {base : Heap} {T : Str → Option Lit} {Γ : Str → Option Fn} {W : Nat}
theorem endF_ok {fl : Fl} {m m' : Ms} {v : Val} (h : endF fl m = some (.ok v, m')) : m' = m ∧ ((∃ ρ, fl = .nx ρ ∧ v = .p .none) ∨ fl = .rt v) := by
  cases fl with
  | nx ρ => cases h; exact ⟨rfl, .inl ⟨ρ, rfl, rfl⟩⟩
  | rt v => cases h; exact ⟨rfl, .inr rfl⟩
theorem cok_of (t : TabOk P w K mg base T Γ) {n : Nat} (ih : ∀ f vs m v m', run Γ W n f vs m = some (.ok v, m') → CallOk P w K mg base n f vs m v m') {N ps : List Str} {qual : Str} {scope : Scope} {f : Addr} {cd : Value} {A : Around} {outer : List Env} {s : Shared} {H : Hp} (S : FnScope N ps scope)
    (hr : Room n (A.deeper (envOfC qual scope s.heap.objs.size f cd))) (hg : A.guards = some []) : Cok T N (run Γ W n) n (cxOf C8.CX0 P w K mg base N qual scope f cd A outer s H C8.E0).nox scope :=
  ⟨rfl, rfl, S.nd, rfl, hr, hg, t.bn, t.gl, ih⟩
theorem callOk (t : TabOk P w K mg base T Γ) : ∀ (n : Nat) (f : Str) (vs : List Val) (m : Ms) (v : Val) (m' : Ms), run Γ W n f vs m = some (.ok v, m') → CallOk P w K mg base n f vs m v m'
  | 0, _, _, _, _, _, h => by cases h
  | n + 1, f, vs, m, v, m', h => by
    unfold run at h
    split at h
    · rename_i d hd
      split at h
      · rename_i hl
        obtain ⟨fl, m1, h1, h2⟩ := bnd_ok h
        obtain ⟨rfl, h3⟩ := endF_ok h2
        obtain ⟨fa, name, qual, params, body, scope, dV, kV, doc, pm, cdv, ct, oc, an, od, osl, N, ps, e1, e2, lk, hcd, S, hb, e3, e4, hc⟩ := t.code f d hd
        refine ⟨fa, _, ps, e1, e2, hb, by rw [hl, e3], fun dw A outer s F H args us xs hr hg e0 hbt hv g rv => ?_⟩
        refine codeAny_mono (LamX.run_ofS (CX := C8.CX0) (E := C8.E0) (Q := fun x H' => ∃ F', Ext dw F H F' H' ∧ Gr dw F' H' m' ∧ VR dw F' x v) lk hcd S hr e0 hbt hv (by rw [rv.length, hl, e3]) fun hr' => ⟨_, PSs.nox pss_wb, ?_⟩) fun r s' hq => ?_
        · have c := cok_of (outer := outer) (H := H) t (callOk t n) S hr' hg
          refine sndBk d.body _ scope body c ⟨PassesOwn.never, fun _ => rfl⟩ hc F H _ F H _ m fl m' (start_er g rv e4) h1 _ (fun ρ' e σ' F' H' s' t' => ?_) (fun v' e x F' H' ex g' r' => ?_)
          · rcases h3 with ⟨ρ2, e5, rfl⟩ | e5
            · exact ⟨F', t'.ex, t'.er.gr, .non⟩
            · rw [e] at e5; cases e5
          · rcases h3 with ⟨ρ2, e5, _⟩ | e5
            · rw [e] at e5; cases e5
            · rw [e] at e5; cases e5
              exact ⟨F', ex, g', r'⟩
        · cases r with
          | error e => exact False.elim hq
          | ok fl =>
            cases fl with
            | ret u => exact ⟨u, rfl, hq⟩
            | next => exact False.elim hq
            | brk => exact False.elim hq
            | cont => exact False.elim hq
      · cases h
    · rename_i hd
      split at h
      · exact t.draw f hd _ _ _ _ _ h
      · cases h
    · cases h
end
end G

end
section
set_option maxHeartbeats 8000000
namespace G
open PySem PySem.Spec PyProof.Rows L2
theorem ret_def {α : Type} (a : α) (m : Ms) : ret a m = some (.ok a, m) := rfl
theorem opt_some {α : Type} (a : α) (m : Ms) : opt (some a) m = some (.ok a, m) := rfl
theorem dOf_p (d : PyData) (m : Ms) : dOf (some (.ok (.p d), m)) = some (.ok d, m) := rfl
theorem dOf_ret (d : PyData) (m : Ms) : dOf (ret (.p d) m) = ret d m := rfl
theorem binD_add (i j : Int) : binD .Add (.int i) (.int j) = some (.int (i + j)) := rfl
theorem binD_sub (i j : Int) : binD .Sub (.int i) (.int j) = some (.int (i - j)) := rfl
def smI (i : Int) : Prop := -(2 ^ 64) < i ∧ i < 2 ^ 64
theorem binD_mulR (i j : Int) (h : smI j) : binD .Mult (.int i) (.int j) = some (.int (i * j)) := if_pos (.inr h)
theorem binD_mulL (i j : Int) (h : smI i) : binD .Mult (.int i) (.int j) = some (.int (i * j)) := if_pos (.inl h)
theorem binD_mod (i j : Int) (h : 0 < j) : binD .Mod (.int i) (.int j) = some (.int (i % j)) := if_pos h
theorem binD_div (i j : Int) (h : 0 < j) (h2 : j < 1073741824) : binD .FloorDiv (.int i) (.int j) = some (.int (i / j)) := if_pos ⟨h, lt_wide (k := 30) (by omega) (by decide)⟩
theorem biD_int (i : Int) : biD .int (.int i) = some (.int i) := rfl
theorem omap {α β : Type} (f : α → β) (a : α) : Option.map f (some a) = some (f a) := rfl
abbrev vI (i : Int) : E := .cst (.int i)
def mixedDef : Def := ⟨2, 3, .cons (.set 2 (.bin .Add (.bin .Add (.bin .Mod (.bi .int (.bin .Mult (.bin .Mult (.var 0) (.bin .Add (vI 1) (.bin .Mult (vI 2) (.var 1)))) (vI 48271))) (vI 2147483647)) (.bin .Mult (.bin .Mult (vI 7919) (.var 1)) (.var 1))) (.bin .Mult (vI 104729) (.var 1))))
  (.cons (.rt (.bin .FloorDiv (.bin .Mod (.bi .int (.bin .Mult (.var 2) (vI 69621))) (vI 2147483629)) (vI 7))) .nil)⟩
def ΓM : Str → Option Fn := fun f => if f = ("_law_mixed" : Str) then some (.code mixedDef) else none
section
variable {cl : Str → List Val → Ms → R Val} {ρ : Rho} {m m1 m2 : Ms}
theorem ev_bin {op : Operator} {a b : E} {x y d : PyData} (ha : ev cl a ρ m = some (.ok (.p x), m1)) (hb : ev cl b ρ m1 = some (.ok (.p y), m2)) (h : binD op x y = some d) : ev cl (.bin op a b) ρ m = some (.ok (.p d), m2) := by
  show bnd (dOf (ev cl a ρ m)) _ = _
  rw [ha, dOf_p, bnd_some, hb, dOf_p, bnd_some, h]
  rfl
theorem ev_int {i : Int} : ev cl (vI i) ρ m = some (.ok (.p (.int i)), m) := rfl
theorem ev_var {i : Nat} {v : Val} (h : ρ[i]? = some (some (.fz v))) : ev cl (.var i) ρ m = some (.ok v, m) := by
  show (match ρ[i]? with
    | some (some (.fz v)) => ret v m
    | _ => none) = _
  rw [h]; rfl
theorem lk_of {a : E} {d : PyData} (h : ev cl a ρ m = some (.ok (.p d), m1)) : lk a ρ m (ev cl a ρ m) = some (.ok d, m1) := by
  cases a with
  | var i =>
    have h : (match ρ[i]? with
      | some (some (.fz v)) => ret v m
      | _ => none) = some (.ok (.p d), m1) := h
    show (match ρ[i]? with
      | some (some (.fz (.p d))) => ret d m
      | some (some (.ow (.lst l))) => ret (.list l) m
      | _ => none) = _
    split at h
    · rename_i v e
      cases h
      rw [e]; rfl
    · cases h
  | _ => exact (congrArg dOf h).trans (dOf_p ..)
theorem lk_ol {i : Nat} {l : List PyData} {r : R Val} (h : ρ[i]? = some (some (.ol l))) : lk (.var i) ρ m r = some (.ok (.list l), m) := by
  show (match ρ[i]? with
      | some (some (.fz (.p d))) => ret d m
      | some (some (.ow (.lst l))) => ret (.list l) m
      | _ => none) = _
  rw [h]; rfl
theorem ev_bi {b : Bi} {a : E} {x d : PyData} (ha : lk a ρ m (ev cl a ρ m) = some (.ok x, m1)) (h : biD b x = some d) : ev cl (.bi b a) ρ m = some (.ok (.p d), m1) := by
  show bnd (lk a ρ m (ev cl a ρ m)) _ = _
  rw [ha, bnd_some, h]; rfl
theorem ev_idx {a i : E} {x y d : PyData} (ha : lk a ρ m (ev cl a ρ m) = some (.ok x, m1)) (hi : ev cl i ρ m1 = some (.ok (.p y), m2)) (h : idxD x y = some d) : ev cl (.idx a i) ρ m = some (.ok (.p d), m2) := by
  show bnd (lk a ρ m (ev cl a ρ m)) _ = _
  rw [ha, bnd_some, hi, dOf_p, bnd_some, h]; rfl
end
theorem run_mixed {W n : Nat} {c k : Int} {m : Ms} (h0 : 0 ≤ k) (h1 : k < 2 ^ 60) : run ΓM W (n + 1) "_law_mixed" [.p (.int c), .p (.int k)] m = some (.ok (.p (.int (mixF c k))), m) := by
  have a1 : smI (1 + 2 * k) := by unfold smI; omega
  have a2 : smI k := by unfold smI; omega
  have s : ∀ i : Int, (-100000000000 < i ∧ i < 100000000000) → smI i := fun i h => by unfold smI; omega
  have hv : ∀ cl, ev cl (.bin .Add (.bin .Add (.bin .Mod (.bi .int (.bin .Mult (.bin .Mult (.var 0) (.bin .Add (vI 1) (.bin .Mult (vI 2) (.var 1)))) (vI 48271))) (vI 2147483647)) (.bin .Mult (.bin .Mult (vI 7919) (.var 1)) (.var 1))) (.bin .Mult (vI 104729) (.var 1))) [some (.fz (.p (.int c))), some (.fz (.p (.int k))), none] m
      = some (.ok (.p (.int ((c * (1 + 2 * k) * 48271) % 2147483647 + 7919 * k * k + 104729 * k))), m) := fun cl =>
    ev_bin (ev_bin (ev_bin (ev_bi (lk_of (ev_bin (ev_bin (ev_var rfl) (ev_bin ev_int (ev_bin ev_int (ev_var rfl) (binD_mulR _ _ a2)) (binD_add _ _)) (binD_mulR _ _ a1)) ev_int (binD_mulR _ _ (s _ (by decide))))) (biD_int _)) ev_int (binD_mod _ _ (by decide)))
      (ev_bin (ev_bin ev_int (ev_var rfl) (binD_mulR _ _ a2)) (ev_var rfl) (binD_mulR _ _ a2)) (binD_add _ _)) (ev_bin ev_int (ev_var rfl) (binD_mulR _ _ a2)) (binD_add _ _)
  have hr : ∀ cl (b : Int), ev cl (.bin .FloorDiv (.bin .Mod (.bi .int (.bin .Mult (.var 2) (vI 69621))) (vI 2147483629)) (vI 7)) [some (.fz (.p (.int c))), some (.fz (.p (.int k))), some (.fz (.p (.int b)))] m = some (.ok (.p (.int (b * 69621 % 2147483629 / 7))), m) := fun cl b =>
    ev_bin (ev_bin (ev_bi (lk_of (ev_bin (ev_var rfl) ev_int (binD_mulR _ _ (s _ (by decide))))) (biD_int _)) ev_int (binD_mod _ _ (by decide))) ev_int (binD_div _ _ (by decide) (by decide))
  show bnd (bnd (bnd (ev _ _ [some (.fz (.p (.int c))), some (.fz (.p (.int k))), none] m) _) _) endF = _
  rw [hv, bnd_some]
  show bnd (bnd (bnd (ev _ _ [some (.fz (.p (.int c))), some (.fz (.p (.int k))), some _] m) _) _) endF = _
  rw [hr]
  rfl

def ND : List Str := ["_law_m", "_law_limit", "_law_n", "_law_lot", "_law_here", "_law_cell"]
def noT : Str → Option Lit := fun _ => none
def irE2 : E := .bin .Add (.var 2) (vI 1)
def irE5 : E := .bin .Mod (.bi .int (.var 2)) (.bi .len (.var 3))
def irE6 : E := .idx (.var 3) (.var 4)
def irC7 : E := .cmp .Gt (.var 5) (vI 0)
def irE8 : E := .bin .FloorDiv (.var 5) (.var 1)
def irE9 : E := .bin .Mod (.bi .int (.var 5)) (.var 1)
def irE11 : E := .bin .Mod (.bi .int (.call "_law_mixed" (.cons (.call "_law_mixed" (.cons (.bin .Add (.idx (.var 3) (.bin .Mod (.bi .int (.var 2)) (vI 64))) (.bin .Mult (vI 31) (.bin .FloorDiv (.var 2) (vI 64)))) (.cons (.var 2) .nil))) (.cons (.bin .Add (.var 2) (vI 7)) .nil)))) (.var 1)
def isKey (k : String) : Expr → Bool
  | .Constant (.str x) _ _ => decide (x = Str.ofString k)
  | _ => false
def isNm (sc : Scope) (i : Nat) : Expr → Bool := chkVarE ND sc i
def chkDraw (sc : Scope) : List Stmt → Bool
  | [.Assign [t1] (.Subscript o1 k1 _) _, .Assign [.Subscript o2 k2 _] e2 _, .If (.Compare (.Subscript o3 k3 _) [op] [.List [] _] _) [.Assign [t4] (.Subscript o4 k4 _) _, .Assign [t5] e5 _, .Assign [t6] e6 _, .If c7 [.Assign [.Subscript o8 k8 _] e8 _, .Return (some e9) _] [] _] [] _, .Assign [t10] (.Subscript o10 k10 _) _, .Return (some e11) _] =>
    (loc1 ND sc 2 t1 && isNm sc 0 o1 && isKey "spot" k1) && (isNm sc 0 o2 && isKey "spot" k2 && chkE noT ND sc irE2 e2 && !isCompE e2) && (isNm sc 0 o3 && isKey "great" k3 && decide (op = .NotEq)) && (loc1 ND sc 3 t4 && isNm sc 0 o4 && isKey "great" k4) &&
      (loc1 ND sc 4 t5 && chkE noT ND sc irE5 e5 && !isCompE e5) && (loc1 ND sc 5 t6 && chkE noT ND sc irE6 e6 && !isCompE e6) && chkE noT ND sc irC7 c7 &&
      (isNm sc 3 o8 && chkE noT ND sc (.var 4) k8 && noSlice k8 && chkE noT ND sc irE8 e8 && !isCompE e8 && noSwap e8) && chkE noT ND sc irE9 e9 && (loc1 ND sc 3 t10 && isNm sc 0 o10 && isKey "cells" k10) && chkE noT ND sc irE11 e11
  | _ => false
theorem key_inv {k : String} {e : Expr} (h : isKey k e = true) : ∃ n p, e = .Constant (.str (Str.ofString k)) n p := by
  cases e with
  | Constant c n p =>
    cases c with
    | str x => exact ⟨n, p, by rw [show x = Str.ofString k from of_decide_eq_true h]⟩
    | _ => cases h
  | _ => cases h
theorem Ext.out {dw : Dw} {F H Fx F' H' : Hp} (e : Ext none Fx H F' H') : Ext dw F H F H' := ⟨Sub.refl _, fun b o h _ => e.kp b o h (fun z => z), fun b o h => .inl h, e.al⟩
theorem Gr.out {dw : Dw} {F H Fx F' H' : Hp} {m : Ms} (g : Gr dw F H m) (e : Ext none Fx H F' H') : Gr dw F H' m :=
  ⟨g.sub.trans (fun b o h => e.kp b o h (fun z => z)), g.dr.keep (fun b o h => e.kp b o h (fun z => z)) (fun _ _ h => h)⟩
end G

end
section
set_option maxHeartbeats 8000000
namespace G
open PySem PySem.Spec PyProof.Rows L2
section
def dkOf (c g : Addr) (n : Nat) : List (Key × V) := [(.inr "cells", .ref c), (.inr "great", .ref g), (.inr "spot", .int n)]
theorem get_spot {H : Hp} {a c g : Addr} {n : Nat} (h : H a = some (.dK (dkOf c g n))) : DGet H a (.str (Str.ofString "spot")) (some (.int n)) := DGet.k (k := .inr "spot") h
theorem get_great {H : Hp} {a c g : Addr} {n : Nat} (h : H a = some (.dK (dkOf c g n))) : DGet H a (.str (Str.ofString "great")) (some (.ref g)) := DGet.k (k := .inr "great") h
theorem get_cells {H : Hp} {a c g : Addr} {n : Nat} (h : H a = some (.dK (dkOf c g n))) : DGet H a (.str (Str.ofString "cells")) (some (.ref c)) := DGet.k (k := .inr "cells") h
theorem put_spot {H : Hp} {a c g : Addr} {n : Nat} (h : H a = some (.dK (dkOf c g n))) : DPut H a (.str (Str.ofString "spot")) (.int ((n : Int) + 1)) (upd H a (.dK (dkOf c g (n + 1)))) := DPut.k (k := .inr "spot") (v := .int ((n : Int) + 1)) h (lim_lt (show 3 < lim by decide))
variable {X : Cx} {sc : Scope} {k W n : Nat}
theorem dget_ws (c : Cok noT ND (run ΓM W n) k X sc) {i : Nat} {t o e : Expr} {p pos : Pos} {key : String} (ht : loc1 ND sc i t = true) (ho : isNm sc 0 o = true) (he : isKey key e = true) {σ : L2.St} {H : Hp} {a : Addr} {v : V} (h0 : σ[0]? = some (some (.ref a))) (hg : DGet H a (.str (Str.ofString key)) (some v)) {D : Ends} (q : D.nx (σ.set i (some v)) H) :
    WS X (.Assign [t] (.Subscript o e p) pos) D σ H := by
  obtain ⟨x, p1, rfl, n1, l1⟩ := loc1_inv ht
  obtain ⟨y, p2, rfl, hv⟩ := varE_inv ho
  obtain ⟨n2, p3, rfl⟩ := key_inv he
  have hu : X.A.units + 1 < cLine := by have := c.room.un; omega
  exact ws_of (ps_set c.nodup (c.at n1) (.inl (c.lcl l1)) (pe_dget hu (pe_v c hv) pe_str fun _ _ => rfl) rfl (.inr (c.lcl l1))) ⟨_, h0, _, _, rfl, hg, q⟩
theorem shaped_ints : ∀ gs : List Int, SeqAt.shaped (.list (gs.map PyData.int)) = true
  | [] => by decide
  | i :: r => by
    have := shaped_ints r
    simp [SeqAt.shaped] at this ⊢
    exact this
theorem great_wt (c : Cok noT ND (run ΓM W n) k X sc) {o e : Expr} {p p1 p2 : Pos} {key : String} (ho : isNm sc 0 o = true) (he : isKey key e = true) {σ : L2.St} {H : Hp} {a g : Addr} {gs : List Int} (h0 : σ[0]? = some (some (.ref a))) (hg : DGet H a (.str (Str.ofString key)) (some (.ref g))) (hH : H g = some (.lst (gs.map V.int)))
    {Q : Bool → Hp → Prop} (q : ∀ P, H P = none → Q (decide (gs ≠ [])) (upd H P (.lst []))) : WT X (.Compare (.Subscript o e p) [.NotEq] [.List [] p1] p2) σ H Q := by
  obtain ⟨y, p2, rfl, hv⟩ := varE_inv ho
  obtain ⟨n2, p3, rfl⟩ := key_inv he
  have hu : X.A.units + 1 < cLine := by have := c.room.un; omega
  have hd : cmpD .NotEq (.list (gs.map PyData.int)) (.list []) = some (decide (gs ≠ [])) := by
    show (eqD _ _).map _ = _
    have sh : SeqAt.shaped (.list (gs.map PyData.int)) = true ∧ SeqAt.shaped (.list []) = true := ⟨shaped_ints gs, by decide⟩
    have e1 : eqD (.list (gs.map PyData.int)) (.list []) = some (PyData.eqv (.list (gs.map PyData.int)) (.list [])) := if_pos sh
    rw [e1]
    cases gs with
    | nil => rfl
    | cons i r => rfl
  obtain ⟨r, hr, hr2⟩ := cmp_rule (X := X) c.room hd
  refine wt_of (pt_cmpR hr (pe_dget hu (pe_v c hv) pe_str fun _ _ => rfl) (pe_lst pa_nil) rfl) ?_
  refine ⟨_, h0, _, _, rfl, hg, by exact Nat.zero_le _, fun P hP => ?_⟩
  have h1 : upd H P (.lst []) g = some (.lst (gs.map V.int)) := by rw [upd_ne (ne_of_none hH hP)]; exact hH
  exact hr2 _ _ (upd H P (.lst [])) _ _ (Sub.refl _) (.lst h1 (RpAll.of_ints gs)) (.lst upd_same .nil) ⟨_, rfl, q P hP⟩
theorem cells_at {cells : List Int} {j : Nat} (h : j < cells.length) : idxD (.list (cells.map PyData.int)) (.int (j : Int)) = some (.int (cells.getD j 0)) := by
  show atI _ _ = _
  refine atI_nat ?_
  rw [List.getElem?_map, List.getD_eq_getElem?_getD, List.getElem?_eq_getElem h]
  rfl
theorem ev_mixed {m : Ms} {a b : E} {ρ : Rho} {c k : Int} (ha : ev (run ΓM W (n + 1)) a ρ m = some (.ok (.p (.int c)), m)) (hb : ev (run ΓM W (n + 1)) b ρ m = some (.ok (.p (.int k)), m)) (h0 : 0 ≤ k) (h1 : k < 2 ^ 60) :
    ev (run ΓM W (n + 1)) (.call "_law_mixed" (.cons a (.cons b .nil))) ρ m = some (.ok (.p (.int (mixF c k))), m) := by
  show bnd (bnd (ev _ a ρ m) fun x m => bnd (bnd (ev _ b ρ m) fun x m => bnd (ret [] m) fun xs m => ret (x :: xs) m) fun xs m => ret (x :: xs) m) _ = _
  rw [ha, bnd_some, hb]
  exact run_mixed h0 h1
theorem ev_e11 {m : Ms} {ρ : Rho} {cells : List Int} {l : Int} {N : Nat} (h1 : ρ[1]? = some (some (.fz (.p (.int l))))) (h2 : ρ[2]? = some (some (.fz (.p (.int N))))) (h3 : ρ[3]? = some (some (.fz (.p (.list (cells.map PyData.int)))))) (hc : cells.length = 64) (hl : 0 < l) (hN : N < 2 ^ 40) :
    ev (run ΓM W (n + 1)) irE11 ρ m = some (.ok (.p (.int (mixF (mixF (cells.getD (N % 64) 0 + 31 * ((N : Int) / 64)) N) (N + 7) % l))), m) := by
  have hj : N % 64 < cells.length := by omega
  have e : (N : Int) % 64 = ((N % 64 : Nat) : Int) := by omega
  refine ev_bin (ev_bi (lk_of (ev_mixed (ev_mixed (ev_bin (ev_idx (lk_of (ev_var h3)) (ev_bin (ev_bi (lk_of (ev_var h2)) (biD_int _)) ev_int (binD_mod _ _ (by decide))) ?_) (ev_bin ev_int (ev_bin (ev_var h2) ev_int (binD_div _ _ (by decide) (by decide))) (binD_mulL _ _ (by unfold smI; omega))) (binD_add _ _)) (ev_var h2) (by omega) (by omega)) (ev_bin (ev_var h2) ev_int (binD_add _ _)) (by omega) (by omega))) (biD_int _)) (ev_var h1) (binD_mod _ _ hl)
  rw [e]
  exact cells_at hj
theorem dr_next {F H H1 F1 : Hp} {d : DS} {a c g : Addr} (G0 : Gr (some (a, c, g)) F H (some d)) (e : Ext none H H F1 H1) : Gr (some (a, c, g)) F (upd H1 a (.dK (dkOf c g (d.spot + 1)))) (some { d with spot := d.spot + 1 }) ∧ Ext (some (a, c, g)) F H F (upd H1 a (.dK (dkOf c g (d.spot + 1)))) := by
  obtain ⟨h1, h2, h3, h4, h5, h6, h7, h8⟩ := G0.dr
  have ca : c ≠ a := fun z => by rw [z, h1] at h2; cases h2
  have ga : g ≠ a := fun z => by rw [z, h1] at h3; cases h3
  have kp : ∀ b o, H b = some o → H1 b = some o := fun b o h => e.kp b o h (fun z => z)
  refine ⟨⟨fun b o h => ?_, upd_same, ?_, ?_, h4, h5, h6, h7, h8⟩, ⟨Sub.refl _, fun b o h nd => ?_, fun b o h => .inl h, fun b h => ?_⟩⟩
  · rw [upd_ne (fun z => by rw [z, h4] at h; cases h)]; exact kp _ _ (G0.sub _ _ h)
  · rw [upd_ne ca]; exact kp _ _ h2
  · rw [upd_ne ga]; exact kp _ _ h3
  · rw [upd_ne (fun z => nd (.inl z))]; exact kp _ _ h
  · by_cases hb : b = a
    · subst hb; rw [upd_same] at h; cases h
    · rw [upd_ne hb] at h; exact e.al _ h
theorem fz1 {dw : Dw} {F H : Hp} {σ : L2.St} {i : Nat} {v : V} {d : PyData} (h : σ[i]? = some (some v)) (r : Rp F v d) : SlR dw F H σ[i]? (.fz (.p d)) := ⟨v, h, r⟩
def slI : Option Int → Option Slot
  | some i => some (.fz (.p (.int i)))
  | none => none
def ρ6 (l N : Int) (gs : Option (List Int)) (h e : Option Int) : Rho := [none, some (.fz (.p (.int l))), some (.fz (.p (.int N))), gs.map (fun gs => .fz (.p (.list (gs.map PyData.int)))), slI h, slI e]
theorem er6 {σ : L2.St} {H : Hp} {l N : Int} {gs : Option (List Int)} {h e : Option Int} (hσ : σ.length = 6) (s1 : σ[1]? = some (some (.int l))) (s2 : σ[2]? = some (some (.int N))) (s3 : ∀ g, gs = some g → ∃ a, σ[3]? = some (some (.ref a)) ∧ H a = some (.lst (g.map V.int)))
    (s4 : ∀ i, h = some i → σ[4]? = some (some (.int i))) (s5 : ∀ i, e = some i → σ[5]? = some (some (.int i))) : Er none σ H H (ρ6 l N gs h e) none := by
  refine ⟨⟨Sub.refl _, trivial⟩, by rw [hσ]; rfl, fun i s hh => ?_, fun i j l1 l2 b e1 _ _ _ => ?_⟩
  · match i, hh with
    | 1, hh => cases hh; exact ⟨_, s1, .int _⟩
    | 2, hh => cases hh; exact ⟨_, s2, .int _⟩
    | 3, hh =>
      cases gs with
      | none => cases hh
      | some g =>
        cases hh
        obtain ⟨a, q1, q2⟩ := s3 _ rfl
        exact ⟨_, q1, .lst q2 (RpAll.of_ints _)⟩
    | 4, hh =>
      cases h with
      | none => cases hh
      | some i => cases hh; exact ⟨_, s4 _ rfl, .int _⟩
    | 5, hh =>
      cases e with
      | none => cases hh
      | some i => cases hh; exact ⟨_, s5 _ rfl, .int _⟩
    | 0, hh => cases hh
    | i + 6, hh => cases hh
  · match i, e1 with
    | 1, hh => cases hh
    | 2, hh => cases hh
    | 3, hh => cases gs <;> cases hh
    | 4, hh => cases h <;> cases hh
    | 5, hh => cases e <;> cases hh
    | 0, hh => cases hh
    | i + 6, hh => cases hh
theorem draw_tail (c : Cok noT ND (run ΓM W (n + 1)) k X sc) {t o e e11 : Expr} {p pos pos2 : Pos} (ht : loc1 ND sc 3 t = true) (ho : isNm sc 0 o = true) (he : isKey "cells" e = true) (he11 : chkE noT ND sc irE11 e11 = true)
    {F H : Hp} {d : DS} {a cc g : Addr} {l : Int} {N : Nat} {σ : L2.St} (g0 : Gr (some (a, cc, g)) F H (some d)) (hs : d.spot = N + 1) (hσ : σ.length = 6) (s0 : σ[0]? = some (some (.ref a))) (s1 : σ[1]? = some (some (.int l))) (s2 : σ[2]? = some (some (.int N))) (hl : 0 < l) (hN : N < 2 ^ 40)
    {D : Ends} (q : ∀ H', Ext (some (a, cc, g)) F H F H' → Gr (some (a, cc, g)) F H' (some d) → D.rt (.int (mixF (mixF (d.cells.getD (N % 64) 0 + 31 * ((N : Int) / 64)) N) (N + 7) % l)) H') :
    WB X [.Assign [t] (.Subscript o e p) pos, .Return (some e11) pos2] D σ H := by
  obtain ⟨h1, h2, h3, h4, h5, h6, h7, h8⟩ := g0.dr
  refine wb_of (pss_cons ps_ws pss_wb) ?_
  refine dget_ws c ht ho he s0 (get_cells (n := d.spot) h1) ?_
  refine wb_of (pss_one (ps_ret pe_we)) ?_
  have er : Er none (σ.set 3 (some (.ref cc))) H H (ρ6 l N (some d.cells) none none) none :=
    er6 (by rw [List.length_set]; exact hσ) (by rw [List.getElem?_set_ne (by decide)]; exact s1) (by rw [List.getElem?_set_ne (by decide)]; exact s2) (fun gs e => by cases e; exact ⟨cc, by rw [List.getElem?_set_self (by rw [hσ]; decide)], h2⟩) (fun _ e => by cases e) (fun _ e => by cases e)
  refine snd irE11 X sc e11 c he11 _ H H _ none _ none er (ev_e11 rfl rfl rfl h8.1 hl hN) _ fun x F' H' e g' r => ?_
  cases r
  exact q H' e.out (g0.out e)
theorem setI_ws (c : Cok noT ND (run ΓM W (n + 1)) k X sc) {i : Nat} {t v : Expr} {pos : Pos} {e : E} (ht : loc1 ND sc i t = true) (he : chkE noT ND sc e v = true) (hc : isCompE v = false) {σ : L2.St} {H : Hp} {ρ : Rho} {j : Int} (er : Er none σ H H ρ none) (hev : ev (run ΓM W (n + 1)) e ρ none = some (.ok (.p (.int j)), none))
    {D : Ends} (q : ∀ F' H', Ext none H H F' H' → D.nx (σ.set i (some (.int j))) H') : WS X (.Assign [t] v pos) D σ H := by
  obtain ⟨x, p, rfl, n1, l1⟩ := loc1_inv ht
  refine ws_of (ps_set c.nodup (c.at n1) (.inl (c.lcl l1)) pe_we (sw_false hc _ _ _) (.inr (c.lcl l1))) ?_
  refine snd e X sc v c he σ H H ρ none _ none er hev _ fun x F' H' e g' r => ?_
  cases r
  exact q F' H' e
theorem ev_e5 {ρ : Rho} {gs : List Int} {N : Nat} {m : Ms} (h2 : ρ[2]? = some (some (.fz (.p (.int N))))) (h3 : ρ[3]? = some (some (.fz (.p (.list (gs.map PyData.int)))))) (hg : gs ≠ []) : ev (run ΓM W (n + 1)) irE5 ρ m = some (.ok (.p (.int ((N % gs.length : Nat) : Int))), m) := by
  have hl : 0 < gs.length := List.length_pos_iff.mpr hg
  refine (ev_bin (d := .int ((N : Int) % (gs.length : Int))) (ev_bi (lk_of (ev_var h2)) (biD_int _)) (ev_bi (d := .int (gs.length : Int)) (lk_of (ev_var h3)) (by show some (PyData.int _) = _; rw [List.length_map])) (binD_mod _ _ (by omega))).trans ?_
  rw [← Int.natCast_emod]
theorem ev_e6 {ρ : Rho} {gs : List Int} {j : Nat} {m : Ms} (h3 : ρ[3]? = some (some (.fz (.p (.list (gs.map PyData.int)))))) (h4 : ρ[4]? = some (some (.fz (.p (.int (j : Int)))))) (hj : j < gs.length) : ev (run ΓM W (n + 1)) irE6 ρ m = some (.ok (.p (.int (gs.getD j 0))), m) :=
  ev_idx (lk_of (ev_var h3)) (ev_var h4) (cells_at hj)
end
end G

end
section
set_option maxHeartbeats 8000000
namespace G
open PySem PySem.Spec PyProof.Rows L2
section
variable {X : Cx} {sc : Scope} {k W n : Nat}
theorem dr_great {F H H1 F1 : Hp} {d : DS} {a c g : Addr} {j : Nat} {x : Int} (G0 : Gr (some (a, c, g)) F H (some d)) (e : Ext none H H F1 H1) : Gr (some (a, c, g)) F (upd H1 g (.lst ((d.great.set j x).map V.int))) (some { d with great := d.great.set j x }) ∧ Ext (some (a, c, g)) F H F (upd H1 g (.lst ((d.great.set j x).map V.int))) := by
  obtain ⟨h1, h2, h3, h4, h5, h6, h7, h8, h9⟩ := G0.dr
  have ag : a ≠ g := fun z => by rw [← z, h1] at h3; cases h3
  have kp : ∀ b o, H b = some o → H1 b = some o := fun b o h => e.kp b o h (fun z => z)
  refine ⟨⟨fun b o h => ?_, ?_, ?_, upd_same, h4, h5, h6, h7, h8, by rw [List.length_set]; exact h9⟩, ⟨Sub.refl _, fun b o h nd => ?_, fun b o h => .inl h, fun b h => ?_⟩⟩
  · rw [upd_ne (fun z => by rw [z, h6] at h; cases h)]; exact kp _ _ (G0.sub _ _ h)
  · rw [upd_ne ag]; exact kp _ _ h1
  · rw [upd_ne h7]; exact kp _ _ h2
  · rw [upd_ne (fun z => nd (.inr (.inr z)))]; exact kp _ _ h
  · by_cases hb : b = g
    · subst hb; rw [upd_same] at h; cases h
    · rw [upd_ne hb] at h; exact e.al _ h
theorem ixn {n j : Nat} (hj : j < n) : ixN n (j : Int) = some j := by
  unfold ixN
  rw [if_pos (by omega), if_pos (by omega), Int.toNat_natCast]
theorem nn {α : Type} {σ : List α} {i j : Nat} {a : α} {v : α} (h : σ[j]? = some v) (ne : i ≠ j) : (σ.set i a)[j]? = some v := by rw [List.getElem?_set_ne ne]; exact h
theorem ss {α : Type} {σ : List α} {i : Nat} {a : α} {n : Nat} (h : σ.length = n) (hi : i < n) : (σ.set i a)[i]? = some a := List.getElem?_set_self (by rw [h]; exact hi)
theorem draw_great (c : Cok noT ND (run ΓM W (n + 1)) k X sc) {t4 o4 k4 t5 e5 t6 e6 c7 o8 k8 e8 e9 : Expr} {a1 a2 a3 a4 a5 a6 a7 a8 : Pos} (h4 : (loc1 ND sc 3 t4 = true ∧ isNm sc 0 o4 = true) ∧ isKey "great" k4 = true) (h5 : (loc1 ND sc 4 t5 = true ∧ chkE noT ND sc irE5 e5 = true) ∧ isCompE e5 = false) (h6 : (loc1 ND sc 5 t6 = true ∧ chkE noT ND sc irE6 e6 = true) ∧ isCompE e6 = false) (h7 : chkE noT ND sc irC7 c7 = true)
    (h8 : ((((isNm sc 3 o8 = true ∧ chkE noT ND sc (.var 4) k8 = true) ∧ noSlice k8 = true) ∧ chkE noT ND sc irE8 e8 = true) ∧ isCompE e8 = false) ∧ noSwap e8 = true) (h9 : chkE noT ND sc irE9 e9 = true)
    {F H : Hp} {d : DS} {a cc g : Addr} {l : Int} {N : Nat} {σ : L2.St} (g0 : Gr (some (a, cc, g)) F H (some d)) (hσ : σ.length = 6) (s0 : σ[0]? = some (some (.ref a))) (s1 : σ[1]? = some (some (.int l))) (s2 : σ[2]? = some (some (.int N))) (hl : 0 < l) (hl2 : l < 1073741824) (hg : d.great ≠ [])
    {D : Ends} (qn : ¬ 0 < d.great.getD (N % d.great.length) 0 → ∀ σ' H', Ext (some (a, cc, g)) F H F H' → Gr (some (a, cc, g)) F H' (some d) → σ'.length = 6 → σ'[0]? = some (some (.ref a)) → σ'[1]? = some (some (.int l)) → σ'[2]? = some (some (.int N)) → D.nx σ' H')
    (qr : 0 < d.great.getD (N % d.great.length) 0 → ∀ H', Ext (some (a, cc, g)) F H F H' → Gr (some (a, cc, g)) F H' (some { d with great := d.great.set (N % d.great.length) (d.great.getD (N % d.great.length) 0 / l) }) → D.rt (.int (d.great.getD (N % d.great.length) 0 % l)) H') :
    WB X [.Assign [t4] (.Subscript o4 k4 a1) a2, .Assign [t5] e5 a3, .Assign [t6] e6 a4, .If c7 [.Assign [.Subscript o8 k8 a5] e8 a6, .Return (some e9) a7] [] a8] D σ H := by
  obtain ⟨d1, d2, d3, d4, d5, d6, d7, d8, d9⟩ := g0.dr
  have hlen : 0 < d.great.length := List.length_pos_iff.mpr hg
  have hj : N % d.great.length < d.great.length := Nat.mod_lt _ hlen
  refine wb_of (pss_cons ps_ws pss_wb) ?_
  refine dget_ws c h4.1.1 h4.1.2 h4.2 s0 (get_great (n := d.spot) d1) ?_
  refine wb_of (pss_cons ps_ws pss_wb) ?_
  have l3 : (σ.set 3 (some (.ref g))).length = 6 := by rw [List.length_set]; exact hσ
  have er1 : Er none (σ.set 3 (some (.ref g))) H H (ρ6 l N (some d.great) none none) none :=
    er6 l3 (nn s1 (by decide)) (nn s2 (by decide)) (fun gs e => by cases e; exact ⟨g, ss hσ (by decide), d3⟩) (fun _ e => by cases e) (fun _ e => by cases e)
  refine setI_ws c h5.1.1 h5.1.2 h5.2 er1 (ev_e5 rfl rfl hg) fun F1 H1 e1 => ?_
  have k1 : ∀ b o, H b = some o → H1 b = some o := fun b o h => e1.kp b o h (fun z => z)
  refine wb_of (pss_cons ps_ws pss_wb) ?_
  have l4 : ((σ.set 3 (some (.ref g))).set 4 (some (.int ((N % d.great.length : Nat) : Int)))).length = 6 := by rw [List.length_set]; exact l3
  have er2 : Er none ((σ.set 3 (some (.ref g))).set 4 (some (.int ((N % d.great.length : Nat) : Int)))) H1 H1 (ρ6 l N (some d.great) (some ((N % d.great.length : Nat) : Int)) none) none :=
    er6 l4 (nn (nn s1 (by decide)) (by decide)) (nn (nn s2 (by decide)) (by decide)) (fun gs e => by cases e; exact ⟨g, nn (ss hσ (by decide)) (by decide), k1 _ _ d3⟩) (fun _ e => by cases e; exact ss l3 (by decide)) (fun _ e => by cases e)
  refine setI_ws c h6.1.1 h6.1.2 h6.2 er2 (ev_e6 rfl rfl hj) fun F2 H2 e2 => ?_
  have k2 : ∀ b o, H b = some o → H2 b = some o := fun b o h => e2.kp b o (k1 b o h) (fun z => z)
  generalize hcell : d.great.getD (N % d.great.length) 0 = cell at *
  generalize hσ3 : (((σ.set 3 (some (.ref g))).set 4 (some (.int ((N % d.great.length : Nat) : Int)))).set 5 (some (.int cell)) : L2.St) = σ3
  have l5 : σ3.length = 6 := by rw [← hσ3, List.length_set]; exact l4
  have t0 : σ3[0]? = some (some (.ref a)) := by rw [← hσ3]; exact nn (nn (nn s0 (by decide)) (by decide)) (by decide)
  have t1 : σ3[1]? = some (some (.int l)) := by rw [← hσ3]; exact nn (nn (nn s1 (by decide)) (by decide)) (by decide)
  have t2 : σ3[2]? = some (some (.int N)) := by rw [← hσ3]; exact nn (nn (nn s2 (by decide)) (by decide)) (by decide)
  have t3 : σ3[3]? = some (some (.ref g)) := by rw [← hσ3]; exact nn (nn (ss hσ (by decide)) (by decide)) (by decide)
  have t4 : σ3[4]? = some (some (.int ((N % d.great.length : Nat) : Int))) := by rw [← hσ3]; exact nn (ss l3 (by decide)) (by decide)
  have t5 : σ3[5]? = some (some (.int cell)) := by rw [← hσ3]; exact ss l4 (by decide)
  have er3 : ∀ H', (∀ b o, H b = some o → H' b = some o) → Er none σ3 H' H' (ρ6 l N (some d.great) (some ((N % d.great.length : Nat) : Int)) (some cell)) none := fun H' kk =>
    er6 l5 t1 t2 (fun gs e => by cases e; exact ⟨g, t3, kk _ _ d3⟩) (fun _ e => by cases e; exact t4) (fun _ e => by cases e; exact t5)
  have ex2 : Ext none H H H2 H2 := ⟨fun b o h => k2 b o h, fun b o h _ => k2 b o h, fun b o h => by
    by_cases z : H b = none
    · exact .inr (.inl z)
    · cases y : H b with
      | none => exact .inr (.inl rfl)
      | some u => rw [k2 _ _ y] at h; cases h; exact .inl rfl, fun b h => e1.al _ (e2.al _ h)⟩
  refine wb_of (pss_one (ps_if pt_wt pss_wb pss_wb)) ?_
  have hT : boolV (ev (run ΓM W (n + 1)) irC7) (ρ6 l N (some d.great) (some ((N % d.great.length : Nat) : Int)) (some cell)) none = some (.ok (decide (0 < cell)), none) := rfl
  refine sndT irC7 X sc c7 c rfl h7 σ3 H2 H2 _ none _ none (er3 H2 k2) hT _ fun F3 H3 e3 g3 => ?_
  have k3 : ∀ b o, H2 b = some o → H3 b = some o := fun b o h => e3.kp b o h (fun z => z)
  have ex3 : Ext none H H H3 H3 := ⟨fun b o h => k3 _ _ (k2 b o h), fun b o h _ => k3 _ _ (k2 b o h), fun b o h => by
    cases y : H b with
    | none => exact .inr (.inl rfl)
    | some u => rw [k3 _ _ (k2 _ _ y)] at h; cases h; exact .inl rfl, fun b h => ex2.al _ (e3.al _ h)⟩
  by_cases hpos : 0 < cell
  · rw [decide_eq_true hpos]
    refine (if_pos rfl).mpr ?_
    obtain ⟨⟨⟨⟨⟨p1, p2⟩, p3⟩, p4⟩, p5⟩, p6⟩ := h8
    obtain ⟨x1, q1, rfl, hv⟩ := varE_inv p1
    refine wb_of (pss_cons ps_ws pss_wb) ?_
    refine ws_of (ps_asg pe_we (pg_sub (pe_v c hv) pe_we set_list (sub_ha p3)) (by exact sole p5) (by exact noswap p6)) ?_
    have hE8 : ev (run ΓM W (n + 1)) irE8 (ρ6 l N (some d.great) (some ((N % d.great.length : Nat) : Int)) (some cell)) none = some (.ok (.p (.int (cell / l))), none) := ev_bin (ev_var rfl) (ev_var rfl) (binD_div _ _ hl hl2)
    refine snd irE8 X sc e8 c p4 σ3 H3 H3 _ none _ none (er3 H3 (fun b o h => k3 _ _ (k2 b o h))) hE8 _ fun y F4 H4 e4 g4 r4 => ?_
    cases r4
    have k4' : ∀ b o, H3 b = some o → H4 b = some o := fun b o h => e4.kp b o h (fun z => z)
    refine ⟨_, t3, ?_⟩
    refine snd (.var 4) X sc k8 c p2 σ3 H4 H4 _ none _ none (er3 H4 (fun b o h => k4' _ _ (k3 _ _ (k2 b o h)))) (ev_var rfl) _ fun y F5 H5 e5' g5 r5 => ?_
    cases r5
    have k5 : ∀ b o, H b = some o → H5 b = some o := fun b o h => e5'.kp _ _ (k4' _ _ (k3 _ _ (k2 b o h))) (fun z => z)
    have ex5 : Ext none H H H5 H5 := ⟨fun b o h => k5 b o h, fun b o h _ => k5 b o h, fun b o h => by
      cases y : H b with
      | none => exact .inr (.inl rfl)
      | some u => rw [k5 _ _ y] at h; cases h; exact .inl rfl, fun b h => ex3.al _ (e4.al _ (e5'.al _ h))⟩
    refine ⟨_, _, _, N % d.great.length, rfl, rfl, k5 _ _ d3, by rw [List.length_map]; exact ixn hj, ?_⟩
    rw [← List.map_set]
    obtain ⟨gG, eG⟩ := dr_great (j := N % d.great.length) (x := cell / l) g0 ex5
    refine wb_of (pss_one (ps_ret pe_we)) ?_
    have er6' : Er none σ3 (upd H5 g (.lst ((d.great.set (N % d.great.length) (cell / l)).map V.int))) (upd H5 g (.lst ((d.great.set (N % d.great.length) (cell / l)).map V.int))) (ρ6 l N none (some ((N % d.great.length : Nat) : Int)) (some cell)) none :=
      er6 l5 t1 t2 (fun gs e => by cases e) (fun _ e => by cases e; exact t4) (fun _ e => by cases e; exact t5)
    have hE9 : ev (run ΓM W (n + 1)) irE9 (ρ6 l N none (some ((N % d.great.length : Nat) : Int)) (some cell)) none = some (.ok (.p (.int (cell % l))), none) := ev_bin (ev_bi (lk_of (ev_var rfl)) (biD_int _)) (ev_var rfl) (binD_mod _ _ hl)
    refine snd irE9 X sc e9 c h9 σ3 _ _ _ none _ none er6' hE9 _ fun y F6 H6 e6' g6 r6 => ?_
    cases r6
    exact qr hpos H6 (eG.trans e6'.out) (gG.out e6')
  · rw [decide_eq_false hpos]
    refine (if_neg (by decide)).mpr ?_
    exact wb_of pss_nil (qn hpos σ3 H3 ex3.out (g0.out ex3) l5 t0 t1 t2)
theorem draw_body (c : Cok noT ND (run ΓM W (n + 1)) k X sc) {b : List Stmt} (hb : chkDraw sc b = true) {F H : Hp} {d : DS} {a cc g : Addr} {l r : Int} {m' : Ms} (g0 : Gr (some (a, cc, g)) F H (some d)) (hr : drawR (some d) l = some (.ok (.p (.int r)), m')) {D : Ends}
    (q : ∀ H', Ext (some (a, cc, g)) F H F H' → Gr (some (a, cc, g)) F H' m' → D.rt (.int r) H') : WB X b D (L2.start ND [.ref a, .int l]) H := by
  unfold drawR at hr
  dsimp only at hr
  split at hr
  · rename_i hl
    obtain ⟨hl0, hl1, hN⟩ := hl
    unfold chkDraw at hb
    split at hb
    · rename_i t1 o1 k1 _ _ o2 k2 _ e2 _ o3 k3 _ op _ _ t4 o4 k4 _ _ t5 e5 _ t6 e6 _ c7 o8 k8 _ e8 _ e9 _ _ _ t10 o10 k10 _ _ e11 _
      simp only [Bool.and_eq_true, Bool.not_eq_true', decide_eq_true_eq] at hb
      obtain ⟨⟨⟨⟨⟨⟨⟨⟨⟨⟨h1, h2⟩, h3⟩, h4⟩, h5⟩, h6⟩, h7⟩, h8⟩, h9⟩, h10⟩, h11⟩ := hb
      obtain ⟨d1, d2, d3, d4, d5, d6, d7, d8, d9⟩ := g0.dr
      have hu : X.A.units + 1 < cLine := by have := c.room.un; omega
      refine wb_of (pss_cons ps_ws pss_wb) ?_
      refine dget_ws c h1.1.1 h1.1.2 h1.2 rfl (get_spot (n := d.spot) d1) ?_
      generalize hσ : ((L2.start ND [.ref a, .int l]).set 2 (some (.int d.spot)) : L2.St) = σ
      have l0 : σ.length = 6 := by rw [← hσ]; rfl
      have s0 : σ[0]? = some (some (.ref a)) := by rw [← hσ]; rfl
      have s1 : σ[1]? = some (some (.int l)) := by rw [← hσ]; rfl
      have s2 : σ[2]? = some (some (.int d.spot)) := by rw [← hσ]; rfl
      refine wb_of (pss_cons ps_ws pss_wb) ?_
      obtain ⟨⟨⟨p1, p2⟩, p3⟩, p4⟩ := h2
      obtain ⟨y, z1, rfl, hv⟩ := varE_inv p1
      obtain ⟨z2, z3, rfl⟩ := key_inv p2
      refine ws_of (ps_dput hu (pe_v c hv) pe_str pe_we (by exact sw_false p4 _ _ _)) ?_
      have er0 : Er none σ H H (ρ6 l d.spot none none none) none := er6 l0 s1 s2 (fun _ e => by cases e) (fun _ e => by cases e) (fun _ e => by cases e)
      refine snd irE2 X sc e2 c p3 σ H H _ none _ none er0 (ev_bin (ev_var rfl) ev_int (binD_add _ _)) _ fun x F1 H1 e1 g1 r1 => ?_
      cases r1
      obtain ⟨G1, E1⟩ := dr_next g0 e1
      refine ⟨_, s0, ⟨a, _, rfl, put_spot (e1.kp _ _ d1 (fun z => z)), ?_⟩⟩
      generalize hH2 : upd H1 a (.dK (dkOf cc g (d.spot + 1))) = H2 at *
      obtain ⟨w1, w2, w3, w4, w5, w6, w7, w8, w9⟩ := G1.dr
      generalize hpl : t10 = tt at *
      refine wb_of (pss_cons ps_ws pss_wb) ?_
      obtain ⟨⟨x1, x2⟩, rfl⟩ := h3
      refine ws_of (ps_if pt_wt pss_wb pss_wb) ?_
      refine great_wt c x1 x2 s0 (get_great (n := d.spot + 1) w1) w3 fun P hP => ?_
      have G2 := (G1.laid (o := .lst []) hP).1
      have E2 := E1.trans (G1.laid (o := .lst []) hP).2
      have fin : drawF d l = (mixF (mixF (d.cells.getD (d.spot % 64) 0 + 31 * ((d.spot : Int) / 64)) d.spot) (d.spot + 7) % l, { d with spot := d.spot + 1 }) → ∀ σ' H', Ext (some (a, cc, g)) F (upd H2 P (.lst [])) F H' → Gr (some (a, cc, g)) F H' (some { d with spot := d.spot + 1 }) → σ'.length = 6 → σ'[0]? = some (some (.ref a)) →
          σ'[1]? = some (some (.int l)) → σ'[2]? = some (some (.int d.spot)) → ∀ p p2 p3, WB X [.Assign [tt] (.Subscript o10 k10 p) p2, .Return (some e11) p3] D σ' H' := by
        intro hd σ' H' e g q1 q2 q3 q4 p p2 p3
        refine draw_tail c h10.1.1 h10.1.2 h10.2 h11 g rfl q1 q2 q3 q4 hl0 hN fun H4 e4 g4 => ?_
        rw [hd] at hr
        cases hr
        exact q H4 (E2.trans (e.trans e4)) g4
      by_cases hg : d.great = []
      · rw [show decide (d.great ≠ []) = false by rw [hg]; rfl]
        refine (if_neg (by decide)).mpr (wb_of pss_nil ?_)
        refine fin ?_ σ _ (Ext.refl ..) G2 l0 s0 s1 s2 _ _ _
        unfold drawF
        rw [hg]
        rfl
      · rw [show decide (d.great ≠ []) = true from decide_eq_true hg]
        refine (if_pos rfl).mpr ?_
        refine draw_great c h4 h5 h6 h7 h8 h9 G2 l0 s0 s1 s2 hl0 hl1 hg (fun hn σ' H' e g q1 q2 q3 q4 => fin ?_ σ' H' e g q1 q2 q3 q4 _ _ _) (fun hp H' e g => ?_)
        · unfold drawF
          dsimp only
          rw [if_neg hg, if_neg hn]
        · have hd : drawF d l = (d.great.getD (d.spot % d.great.length) 0 % l, { d with spot := d.spot + 1, great := d.great.set (d.spot % d.great.length) (d.great.getD (d.spot % d.great.length) 0 / l) }) := by
            unfold drawF
            dsimp only
            have hp : 0 < d.great.getD (d.spot % d.great.length) 0 := hp
            rw [if_neg hg, if_pos hp]
          rw [hd] at hr
          cases hr
          exact q H' (E2.trans e) g
    · cases hb
  · cases hr
end
end G

end
section
set_option maxHeartbeats 8000000
namespace G
open PySem PySem.Spec PyProof.Rows L2
def ObjAt (K : PySem.W.Frag) (mg : Str → Option Value) (f : Str) (N ps : List Str) (chk : Scope → List Stmt → Bool) : Prop :=
  ∃ (fa : Addr) (name qual : Str) (params : Arguments) (body : List Stmt) (scope : Scope) (dV kV doc pm cdv ct oc : Value) (an od : Option Addr) (osl : Array (Option Value)),
    mg f = some (.ref fa) ∧ PySem.W.keepIn K (.ref fa) = true ∧ K.lookup fa = some ⟨oc, od, .func (PySem.W.fnOf name qual params body scope dV kV doc pm an cdv ct), osl⟩ ∧ PySem.W.codeIn K cdv qual = true ∧ FnScope N ps scope ∧
      Binds K (PySem.W.fnOf name qual params body scope dV kV doc pm an cdv ct) ps [] ∧ chk scope body = true
theorem ObjAt.fn {K : PySem.W.Frag} {mg : Str → Option Value} {T : Str → Option Lit} {f : Str} {N ps : List Str} {d : Def} (h : ObjAt K mg f N ps fun sc b => chkB T N sc d.body b) (h1 : ps.length = d.np) (h2 : N.length = d.ns) : FnAt K mg T f d := by
  obtain ⟨fa, name, qual, params, body, scope, dV, kV, doc, pm, cdv, ct, oc, an, od, osl, e1, e2, e3, e4, e5, e6, e7⟩ := h
  exact ⟨fa, name, qual, params, body, scope, dV, kV, doc, pm, cdv, ct, oc, an, od, osl, N, ps, e1, e2, e3, e4, e5, e6, h1, h2, e7⟩
section
variable {P : Program} {w : World} {K : PySem.W.Frag} {mg : Str → Option Value} {base : Heap}
theorem cr_ok {outer : List Env} {s : Shared} {H : Hp} {Q : VK} {E : XK} {r : Result} {s' : Shared} (h : CR C8.CX0 outer P w H s Q E r s') : ∃ u, r = .ok (.ret u) ∧ CE outer P w H s Q u s' := by
  cases r with
  | error e => exact False.elim h
  | ok fl =>
    cases fl with
    | ret u => exact ⟨u, rfl, h⟩
    | next => exact False.elim h
    | brk => exact False.elim h
    | cont => exact False.elim h
theorem drawR_some {m m' : Ms} {l : Int} {v : Val} (h : drawR m l = some (.ok v, m')) : ∃ d, m = some d ∧ v = .p (.int (drawF d l).1) := by
  cases m with
  | none => cases h
  | some d =>
    unfold drawR at h
    dsimp only at h
    split at h
    · cases h; exact ⟨d, rfl, rfl⟩
    · cases h
theorem callOk_draw {W : Nat} (t : TabOk P w K mg base noT ΓM) {f : Str} (h : ObjAt K mg f ND ["_law_m", "_law_limit"] chkDraw) (n : Nat) (l : Int) (m : Ms) (v : Val) (m' : Ms) (hd : drawR m l = some (.ok v, m')) : CallOk P w K mg base (n + 3) f [.drw, .p (.int l)] m v m' := by
  obtain ⟨fa, name, qual, params, body, scope, dV, kV, doc, pm, cdv, ct, oc, an, od, osl, e1, e2, lk, hcd, S, hb, hc⟩ := h
  obtain ⟨d, rfl, rfl⟩ := drawR_some hd
  refine ⟨fa, _, _, e1, e2, hb, rfl, fun dw A outer s F H args us xs hr hg e0 hbt hv g rv => ?_⟩
  cases rv with
  | cons r1 rv =>
    cases rv with
    | cons r2 rv =>
      cases rv
      obtain ⟨a, cc, gg, rfl, rfl⟩ := r1
      cases r2
      refine codeAny_mono (LamX.run_ofS (CX := C8.CX0) (E := C8.E0) (Q := fun x H' => ∃ F', Ext (some (a, cc, gg)) F H F' H' ∧ Gr (some (a, cc, gg)) F' H' m' ∧ VR (some (a, cc, gg)) F' x (.p (.int (drawF d l).1))) lk hcd S hr e0 hbt hv rfl fun hr' => ⟨_, PSs.nox pss_wb, ?_⟩) fun r s' hq => cr_ok hq
      have c : Cok noT ND (run ΓM W (n + 1 + 1)) (n + 1 + 1) (cxOf C8.CX0 P w K mg base ND qual scope fa cdv A outer s H C8.E0).nox scope := cok_of t (callOk t (n + 1 + 1)) S hr' hg
      exact draw_body c hc g hd fun H' ex g' => ⟨F, ex, g', .int _⟩
end
end G

end
section
set_option maxHeartbeats 8000000
namespace G
open PySem PySem.Spec PyProof.Rows L2
def NF : List Str := ["_law_script", "_law_n", "_law_found", "_law_cell"]
def irF1 : S := .own 2 (.comp (.bin .Add (vI 17) (.var 1)) (.one 1) (.rng1 (vI 64)) .no)
def irAt : E := .bin .Mod (.bi .int (.var 1)) (vI 64)
def irF2 : B := .cons (.put 2 irAt (.bin .Mod (.bi .int (.bin .Add (.bin .Mult (.idx (.var 2) irAt) (vI 48271)) (.var 3))) (vI 2147483647))) .nil
def irF3b : B := .cons (.put 2 (.var 1) (.bin .Mod (.bi .int (.bin .Add (.idx (.var 2) (.var 1)) (.bin .Mult (.idx (.var 2) (.bin .Sub (.var 1) (vI 1))) (vI 16807)))) (vI 2147483647))) .nil
def irF3 : S := .for (.one 1) (.rng2 (vI 1) (vI 64)) irF3b
def chkFold (sc : Scope) : List Stmt → Bool
  | [s1, .For t2 (.Call g2 [x2] [] _) b2 [] _, s3, .Return (some x4) _] => chkS noT NF sc irF1 s1 && (chkTg NF sc (.two 1 3) t2 && [1, 3].all (slLcl NF sc) && chkG sc "enumerate" g2 && chkVarE NF sc 0 x2 && chkB noT NF sc irF2 b2) && chkS noT NF sc irF3 s3 && chkVarE NF sc 2 x4
  | _ => false
section
variable {cl : Str → List Val → Ms → R Val} {W : Nat} {m : Ms}
abbrev ρF (v : V) (x1 : Option Slot) (zs : List Int) (x3 : Option Slot) : Rho := [some (.raw v), x1, some (.ol (zs.map PyData.int)), x3]
theorem ev_idxL {i : Nat} {e : E} {ρ : Rho} {zs : List Int} {j : Nat} {m1 : Ms} (h : ρ[i]? = some (some (.ol (zs.map PyData.int)))) (he : ev cl e ρ m = some (.ok (.p (.int (j : Int))), m1)) (hj : j < zs.length) : ev cl (.idx (.var i) e) ρ m = some (.ok (.p (.int (zs.getD j 0))), m1) :=
  ev_idx (lk_ol h) he (cells_at hj)
theorem put_ints {zs : List Int} {j : Nat} {x : Int} (hj : j < zs.length) : putL (zs.map PyData.int) (.int (j : Int)) (.int x) = some ((zs.set j x).map PyData.int) := by
  show (ixN _ _).map _ = _
  rw [ixn (by rw [List.length_map]; exact hj), Option.map_some, List.map_set]
theorem exB_one {s : S} {ρ ρ' : Rho} {m1 : Ms} (h : ex cl W s ρ m = some (.ok (.nx ρ'), m1)) : exB cl W (.cons s .nil) ρ m = some (.ok (.nx ρ'), m1) := by
  show bnd (ex cl W s ρ m) _ = _
  rw [h]; rfl
theorem ed_of {k : E} {ρ : Rho} {d : PyData} {m1 : Ms} (h : ev cl k ρ m = some (.ok (.p d), m1)) : ed cl k ρ m = some (.ok d, m1) := by
  show dOf (ev cl k ρ m) = _
  rw [h]; rfl
theorem ex_put {i : Nat} {k e : E} {ρ : Rho} {l l' : List PyData} {x z : PyData} {m1 m2 : Ms} (he : ev cl e ρ m = some (.ok (.p x), m1)) (hk : ev cl k ρ m1 = some (.ok (.p z), m2)) (hρ : ρ[i]? = some (some (.ol l))) (hp : putL l z x = some l') : ex cl W (.put i k e) ρ m = some (.ok (.nx (ρ.set i (some (.ol l')))), m2) := by
  show bnd (ed cl e ρ m) _ = _
  rw [ed_of he, bnd_some, ed_of hk, bnd_some, hρ]
  show opt ((putL l z x).map _) m2 = _
  rw [hp]; rfl
theorem fold2 (v : V) : ∀ (items : List PyData) (zs : List Int) (x1 x3 : Option Slot), (∀ d ∈ items, ∃ (i : Nat) (c : Int), d = .tuple [.int i, .int c]) → zs.length = 64 →
    ∃ x1' zs' x3', forGo (fun x ρ m => match bindT (.two 1 3) x ρ with
      | some ρ' => exB cl W irF2 ρ' m
      | none => none) items (ρF v x1 zs x3) m = some (.ok (.nx (ρF v x1' zs' x3')), m) ∧ zs'.length = 64
  | [], zs, x1, x3, _, hz => ⟨x1, zs, x3, rfl, hz⟩
  | d :: items, zs, x1, x3, hd, hz => by
    obtain ⟨i, c, rfl⟩ := hd d List.mem_cons_self
    have hj : i % 64 < zs.length := by omega
    have hat : ev cl irAt (ρF v (some (.fz (.p (.int i)))) zs (some (.fz (.p (.int c))))) m = some (.ok (.p (.int ((i % 64 : Nat) : Int))), m) := by
      have e : (i : Int) % 64 = ((i % 64 : Nat) : Int) := by omega
      rw [← e]
      exact ev_bin (ev_bi (lk_of (ev_var rfl)) (biD_int _)) ev_int (binD_mod _ _ (by decide))
    have h1 : exB cl W irF2 (ρF v (some (.fz (.p (.int i)))) zs (some (.fz (.p (.int c))))) m = some (.ok (.nx (ρF v (some (.fz (.p (.int i)))) (zs.set (i % 64) ((zs.getD (i % 64) 0 * 48271 + c) % 2147483647)) (some (.fz (.p (.int c)))))), m) :=
      exB_one (ex_put (ev_bin (ev_bi (lk_of (ev_bin (ev_bin (ev_idxL rfl hat hj) ev_int (binD_mulR _ _ (by unfold smI; omega))) (ev_var rfl) (binD_add _ _))) (biD_int _)) ev_int (binD_mod _ _ (by decide))) hat rfl (put_ints hj))
    obtain ⟨y1, zs', y3, h2, h3⟩ := fold2 v items (zs.set (i % 64) ((zs.getD (i % 64) 0 * 48271 + c) % 2147483647)) (some (.fz (.p (.int i)))) (some (.fz (.p (.int c)))) (fun d hd' => hd d (List.mem_cons_of_mem _ hd')) (by rw [List.length_set]; exact hz)
    refine ⟨y1, zs', y3, ?_, h3⟩
    show bnd (exB cl W irF2 (ρF v (some (.fz (.p (.int i)))) zs (some (.fz (.p (.int c))))) m) _ = _
    rw [h1]
    exact h2
theorem fold3 (v : V) : ∀ (items : List PyData) (zs : List Int) (x1 x3 : Option Slot), (∀ d ∈ items, ∃ (i : Nat), d = .int i ∧ 1 ≤ i ∧ i < 64) → zs.length = 64 →
    ∃ x1' zs' x3', forGo (fun x ρ m => match bindT (.one 1) x ρ with
      | some ρ' => exB cl W irF3b ρ' m
      | none => none) items (ρF v x1 zs x3) m = some (.ok (.nx (ρF v x1' zs' x3')), m) ∧ zs'.length = 64
  | [], zs, x1, x3, _, hz => ⟨x1, zs, x3, rfl, hz⟩
  | d :: items, zs, x1, x3, hd, hz => by
    obtain ⟨i, rfl, hi1, hi2⟩ := hd d List.mem_cons_self
    have hj : i < zs.length := by omega
    have hj2 : i - 1 < zs.length := by omega
    have hat : ev cl (.bin .Sub (.var 1) (vI 1)) (ρF v (some (.fz (.p (.int i)))) zs x3) m = some (.ok (.p (.int ((i - 1 : Nat) : Int))), m) := by
      have e : (i : Int) - 1 = ((i - 1 : Nat) : Int) := by omega
      rw [← e]
      exact ev_bin (ev_var rfl) ev_int (binD_sub _ _)
    have h1 : exB cl W irF3b (ρF v (some (.fz (.p (.int i)))) zs x3) m = some (.ok (.nx (ρF v (some (.fz (.p (.int i)))) (zs.set i ((zs.getD i 0 + zs.getD (i - 1) 0 * 16807) % 2147483647)) x3)), m) :=
      exB_one (ex_put (ev_bin (ev_bi (lk_of (ev_bin (ev_idxL rfl (ev_var rfl) hj) (ev_bin (ev_idxL rfl hat hj2) ev_int (binD_mulR _ _ (by unfold smI; omega))) (binD_add _ _))) (biD_int _)) ev_int (binD_mod _ _ (by decide))) (ev_var rfl) rfl (put_ints hj))
    obtain ⟨y1, zs', y3, h2, h3⟩ := fold3 v items (zs.set i ((zs.getD i 0 + zs.getD (i - 1) 0 * 16807) % 2147483647)) (some (.fz (.p (.int i)))) x3 (fun d hd' => hd d (List.mem_cons_of_mem _ hd')) (by rw [List.length_set]; exact hz)
    refine ⟨y1, zs', y3, ?_, h3⟩
    show bnd (exB cl W irF3b (ρF v (some (.fz (.p (.int i)))) zs x3) m) _ = _
    rw [h1]
    exact h2
end
def cells0 : List Int := (List.range 64).map fun (i : Nat) => 17 + (i : Int)
theorem it_enumS {K : PySem.W.Frag} {F : Hp} {a : Addr} {xs : List V} {ds : List PyData} (h : ∀ Hc, Sub F Hc → SqL K Hc a xs) (r : RpAll F xs ds) : ItOk F (Ite K a) (enumL ds) where
  go := fun i Hc hi s => ⟨xs, xs[i]'(by rw [r.length]; rw [enumL_length] at hi; exact hi), h _ s, by simp⟩
  stop := fun Hc s => ⟨xs, h _ s, by rw [r.length, enumL_length]; exact Nat.le_refl _⟩
  yld := fun i Hc x H' d hd s y => by
    obtain ⟨e, he, rfl⟩ := enumL_get hd
    obtain ⟨U, z, rfl, hU, rfl, y⟩ := y
    obtain ⟨v, hv, rv⟩ := r.get he
    have q := y xs (h _ s)
    rw [hv] at q; cases q
    exact .inr ⟨U, _, _, .inl ⟨hU, rfl⟩, rfl, rfl, .cons (.int _) (.cons rv .nil)⟩
theorem it_listS {K : PySem.W.Frag} {F : Hp} {a : Addr} {xs : List V} {ds : List PyData} (h : ∀ Hc, Sub F Hc → SqL K Hc a xs) (r : RpAll F xs ds) : ItOk F (Itl K a) ds where
  go := fun i Hc hi s => ⟨xs, xs[i]'(by rw [r.length]; exact hi), h _ s, by simp⟩
  stop := fun Hc s => ⟨xs, h _ s, by rw [r.length]; exact Nat.le_refl _⟩
  yld := fun i Hc x H' d hd s y => by
    obtain ⟨e, y⟩ := y
    obtain ⟨v, hv, rv⟩ := r.get hd
    have q := y xs (h _ s)
    rw [hv] at q; cases q
    exact .inl ⟨e, rv⟩
theorem ints_back {F : Hp} {xs : List V} {zs : List Int} (r : RpAll F xs (zs.map PyData.int)) : xs = zs.map V.int := r.ints (by
  induction zs generalizing xs with
  | nil => rfl
  | cons z zs ih =>
    cases r with
    | cons r1 r =>
      show (intsL (zs.map PyData.int)).map (z :: ·) = _
      rw [ih r]; rfl)
theorem enum_items {ns : List Int} : ∀ d ∈ enumL (ns.map PyData.int), ∃ (i : Nat) (c : Int), d = .tuple [.int i, .int c] := by
  intro d hd
  obtain ⟨i, hi⟩ := List.mem_iff_getElem?.mp hd
  obtain ⟨e, he, rfl⟩ := enumL_get hi
  rw [List.getElem?_map] at he
  cases h : ns[i]? with
  | none => rw [h] at he; cases he
  | some c => rw [h] at he; cases he; exact ⟨i, c, rfl⟩
section
variable {X : Cx} {sc : Scope} {k W : Nat} {cl : Str → List Val → Ms → R Val} {dw : Dw}
theorem fold_body (c : Cok noT NF cl k X sc) (hp : Bod X) {b : List Stmt} (hb : chkFold sc b = true) {F H : Hp} {m : Ms} {a : Addr} {ns : List Int} (g : Gr dw F H m) (hs : ∀ Hc, Sub F Hc → SqL X.K Hc a (ns.map V.int)) {D : Ends}
    (q : ∀ (p : Addr) (zs : List Int) F' H', Ext dw F H F' H' → Gr dw F' H' m → H p = none → H' p = some (.lst (zs.map V.int)) → F' p = none → ¬ isDr dw p → zs.length = 64 → D.rt (.ref p) H') : WB X b D (L2.start NF [.ref a]) H := by
  unfold chkFold at hb
  split at hb
  · rename_i s1 t2 g2 x2 _ b2 _ s3 x4 _
    simp only [Bool.and_eq_true] at hb
    obtain ⟨⟨⟨h1, ⟨⟨⟨p1, p2⟩, p3⟩, p4⟩, p5⟩, h3⟩, h4⟩ := hb
    have st : St0 dw F H (L2.start NF [.ref a]) F H [some (.raw (.ref a)), none, none, none] m := by
      refine ⟨⟨g, rfl, fun i s h => ?_, fun i j l1 l2 b e1 _ _ _ => ?_⟩, Ext.refl .., fun i l b e1 _ => ?_⟩
      · match i, h with
        | 0, h => cases h; rfl
        | 1, h => cases h
        | 2, h => cases h
        | 3, h => cases h
        | i + 4, h => cases h
      · match i, e1 with
        | 0, h => cases h
        | 1, h => cases h
        | 2, h => cases h
        | 3, h => cases h
        | i + 4, h => cases h
      · match i, e1 with
        | 0, h => cases h
        | 1, h => cases h
        | 2, h => cases h
        | 3, h => cases h
        | i + 4, h => cases h
    refine wb_of (pss_cons ps_ws pss_wb) ?_
    have r1 : ex cl 0 irF1 [some (.raw (.ref a)), none, none, none] m = some (.ok (.nx (ρF (.ref a) none cells0 none)), m) := rfl
    refine sndS irF1 X sc s1 c hp h1 F H _ F H _ m _ _ st r1 _ (fun ρ' e σ1 F1 H1 s1 t1 => ?_) (fun v e => by cases e)
    cases e
    obtain ⟨u1, u2, kk, pp, rfl, _⟩ := chkTg_two p1
    obtain ⟨gp, rfl, gl, _⟩ := chkG_name p3
    obtain ⟨y, yp, rfl, hv⟩ := varE_inv p4
    have σ0 : σ1[0]? = some (some (.ref a)) := t1.er.sl 0 _ rfl
    obtain ⟨y1, zs1, y3, hf2, hz1⟩ := fold2 (cl := cl) (W := 0) (m := m) (.ref a) (enumL (ns.map PyData.int)) cells0 none none enum_items rfl
    refine wb_of (pss_cons ps_ws pss_wb) ?_
    refine for_at c hp rfl p1 (sndBk irF2 X sc b2 c hp p5) t1 (fun Rr qq => ?_) hf2 (fun ρ' e σ2 F2 H2 s2 t2 => ?_) (fun v e => by cases e)
    · refine wi_of (pi_enum (isGl_gl c.sce gl) (c.bn _ (by decide)) (pa_cons (pe_v c hv) pa_nil)) ?_
      exact ⟨_, σ0, _, _, rfl, hs _ (s1.trans t1.er.gr.sub), qq _ F1 H1 (Ext.refl ..) t1.er.gr (it_enumS (fun Hc s => hs Hc (s1.trans s)) (RpAll.of_ints _))⟩
    cases e
    refine wb_of (pss_cons ps_ws pss_wb) ?_
    obtain ⟨w1, zs2, w3, hf3, hz2⟩ := fold3 (cl := cl) (W := 0) (m := m) (.ref a) (rngL 1 63) zs1 y1 y3 (fun d hd => by
      obtain ⟨i, hi⟩ := List.mem_iff_getElem?.mp hd
      obtain ⟨h5, rfl⟩ := rngL_get hi
      exact ⟨i + 1, by rw [Int.add_comm]; rfl, by omega, by omega⟩) hz1
    refine sndS irF3 X sc s3 c hp h3 F H _ _ _ _ m _ _ t2 hf3 _ (fun ρ' e σ3 F3 H3 s3 t3 => ?_) (fun v e => by cases e)
    cases e
    obtain ⟨z, zp, rfl, hv4⟩ := varE_inv h4
    refine wb_of (pss_one (ps_ret (pe_v c hv4))) ?_
    obtain ⟨p, xs, e1, e2, e3, e4, e5⟩ := (t3.er.sl 2 _ rfl).ol
    have := ints_back e5
    subst this
    exact ⟨_, e1, q p zs2 F3 H3 t3.ex t3.er.gr (t3.fr 2 _ p rfl e1) e2 e3 e4 hz2⟩
  · cases hb
end
end G

end
section
set_option maxHeartbeats 8000000
namespace G
open PySem PySem.Spec PyProof.Rows L2
def FoldQ (dw : Dw) (F H : Hp) (m : Ms) : VK := fun x H' => ∃ (p : Addr) (zs : List Int) (F' : Hp), x = .ref p ∧ Ext dw F H F' H' ∧ Gr dw F' H' m ∧ H p = none ∧ H' p = some (.lst (zs.map V.int)) ∧ F' p = none ∧ ¬ isDr dw p ∧ zs.length = 64
def ScrOk (P : Program) (w : World) (K : PySem.W.Frag) (mg : Str → Option Value) (base : Heap) (k : Nat) (f : Str) (C : List Int → Dw → Hp → Hp → Ms → VK) : Prop :=
  ∃ (fa : Addr) (fd : FuncData) (x : Str), mg f = some (.ref fa) ∧ PySem.W.keepIn K (.ref fa) = true ∧ Binds K fd [x] [] ∧
    ∀ (dw : Dw) (m : Ms) (a : Addr) (ns : List Int) (A : Around) (outer : List Env) (s : Shared) (F H : Hp) (args : Args) (u : Value), Room k A → A.guards = some [] → Env0 P w K mg base A outer s H → BindsTo s fd args [(x, u)] → Vals [.ref a] [u] → Gr dw F H m → dw = none → m = none → ns.length ≤ 63 →
      (∀ Hc, Sub F Hc → SqL K Hc a (ns.map V.int)) → codeAny (model P w) A (.call (.ref fa) args) (fun r s' => ∃ u, r = .ok (.ret u) ∧ CE outer P w H s (C ns dw F H m) u s') s
section
variable {P : Program} {w : World} {K : PySem.W.Frag} {mg : Str → Option Value} {base : Heap}
theorem ok_fold (t : TabOk P w K mg base noT fun _ => none) {f : Str} (h : ObjAt K mg f NF ["_law_script"] chkFold) : ScrOk P w K mg base 2 f (fun _ => FoldQ) := by
  obtain ⟨fa, name, qual, params, body, scope, dV, kV, doc, pm, cdv, ct, oc, an, od, osl, e1, e2, lk, hcd, S, hb, hc⟩ := h
  refine ⟨fa, _, _, e1, e2, hb, fun dw m a ns A outer s F H args u hr hg e0 hbt hv g _ _ _ hs => ?_⟩
  refine codeAny_mono (LamX.run_ofS (us := [u]) (CX := C8.CX0) (E := C8.E0) (Q := FoldQ dw F H m) lk hcd S hr e0 hbt hv rfl fun hr' => ⟨_, PSs.nox pss_wb, ?_⟩) fun r s' hq => cr_ok hq
  have c : Cok noT NF (run (fun _ => none) 0 1) 1 (cxOf C8.CX0 P w K mg base NF qual scope fa cdv A outer s H C8.E0).nox scope := cok_of t (callOk t 1) S hr' hg
  exact fold_body c ⟨PassesOwn.never, fun _ => rfl⟩ hc g hs fun p zs F' H' e1 e2 e3 e4 e5 e6 e7 => ⟨p, zs, F', rfl, e1, e2, e3, e4, e5, e6, e7⟩
end
section
variable {T : Str → Option Lit} {N : List Str} {cl : Str → List Val → Ms → R Val} {k j : Nat} {X : Cx} {sc : Scope}
theorem we_scr (c : Cok T N cl k X sc) {f : Str} {C : List Int → Dw → Hp → Hp → Ms → VK} (h : ScrOk X.prog X.w X.K X.mg X.base j f C) (hj : j ≤ k) {g y : Expr} {pos : Pos} {i : Nat} (hg : chkG sc f g = true) (hy : chkVarE N sc i y = true) {σ : L2.St} {F H : Hp} {a : Addr} {ns : List Int} 
    (h0 : σ[i]? = some (some (.ref a))) (gr : Gr none F H none) (hn : ns.length ≤ 63) (hs : ∀ Hc, Sub F Hc → SqL X.K Hc a (ns.map V.int)) {Q : VK} (q : ∀ x H', C ns none F H none x H' → Q x H') : WE X (.Call g [y] [] pos) σ H Q := by
  obtain ⟨gp, rfl, gl, pl⟩ := chkG_name hg
  obtain ⟨z, zp, rfl, hv⟩ := varE_inv hy
  obtain ⟨fa, fd, x, hm, hk, hb, hrun⟩ := h
  intro pins s I
  refine wpAny_Call_Name_kw (ld_glob I (isGl_gl c.sce gl) hm ?_ (plain3 pl).1)
  have hA : WA X [.Name z zp] σ H fun xs H1 => xs = [.ref a] ∧ H1 = H := wa_of (pa_cons (pe_v c hv) pa_nil) ⟨_, h0, rfl, rfl⟩
  refine PySem.W.callWith_K (h₀ := X.base) I.ok.mod.kin hk (thn (hA pos pins s I) fun us s1 ⟨xs, H1, I1, r, e1, e2⟩ => ⟨I1.kIn, ?_⟩) (star_cons rfl) (star_all rfl)
  subst e1; subst e2
  obtain ⟨u, rfl, ru⟩ : ∃ u, us = [u] ∧ Vals [V.ref a] [u] := by
    cases r with
    | cons r1 r => cases r; exact ⟨_, rfl, .cons r1 .nil⟩
  have hbt := hb s1 [u] I1.kIn rfl
  refine wpAny_call (codeAny_mono (hrun none none a ns X.A X.stack s1 F H1 ⟨[u], []⟩ u (c.room.mono hj) c.gd I1.env0 hbt ru gr rfl rfl hn hs) fun rr s' hq => ?_)
  obtain ⟨u2, rfl, hce⟩ := hq
  obtain ⟨y, H', I2, ry, hC⟩ := I1.after hce
  exact ⟨y, H', I2, ry, q y H' hC⟩
end
end G

end
section
set_option maxHeartbeats 8000000
namespace G
open PySem PySem.Spec PyProof.Rows L2
def NB : List Str := ["_law_script", "_law_m", "_law_cell"]
def irB : E := .ite (.cmp .GtE (.var 2) (.bin .Pow (vI 10) (vI 18))) (.var 2) (vI 0)
def isInt0 : Expr → Bool
  | .Constant (.int i) _ _ => decide (i = 0)
  | _ => false
def chkBegun (sc : Scope) : List Stmt → Bool
  | [.Assign [t1] (.Dict [some k1, some k2, some k3] [.Call g1 [x1] [] _, .List [] _, z1] _) _, .Assign [.Subscript o2 k4 _] (.ListComp elt [⟨tg, iter, [], 0⟩] scope _) _, .Return (some x3) _] =>
    (loc1 NB sc 1 t1 && isKey "cells" k1 && isKey "great" k2 && isKey "spot" k3 && chkG sc "_law_folded" g1 && chkVarE NB sc 0 x1 && isInt0 z1) && (chkVarE NB sc 1 o2 && isKey "great" k4) &&
      (noSet iter && chkVarE NB sc 0 iter && blkC NB sc scope (ownOf NB [2]) && chkTg NB (relS scope sc) (.one 2) tg && chkTg NB scope (.one 2) tg && chkE noT NB (relS scope sc) irB elt) && chkVarE NB sc 1 x3
  | _ => false
def BegQ : List Int → Dw → Hp → Hp → Ms → VK := fun ns dw F H m x H' => ∃ (a c g : Addr) (d : DS) (F' : Hp), x = .ref a ∧ d.spot = 0 ∧ Ext none F H F' H' ∧ Gr (some (a, c, g)) F' H' (some d)
theorem great_go (cl : Str → List Val → Ms → R Val) (ρ : Rho) (hρ : ρ.length = 3) : ∀ ns : List Int, ∃ gs : List Int, compGo (turnF (.one 2) (fun _ m => ret true m) (ed cl irB) ρ) (ns.map PyData.int) none = some (.ok (gs.map PyData.int), none) ∧ gs.length = ns.length
  | [] => ⟨[], rfl, rfl⟩
  | n :: ns => by
    obtain ⟨gs, h1, h2⟩ := great_go cl ρ hρ ns
    obtain ⟨x, y, z, rfl⟩ : ∃ x y z, ρ = [x, y, z] := by
      match ρ, hρ with
      | [x, y, z], _ => exact ⟨x, y, z, rfl⟩
    have ht : turnF (.one 2) (fun _ m => ret true m) (ed cl irB) [x, y, z] (.int n) none = some (.ok (some (.int (if (10 : Int) ^ 18 ≤ n then n else 0))), none) := by
      have e : ed cl irB [x, y, some (.fz (.p (.int n)))] none = some (.ok (.int (if (10 : Int) ^ 18 ≤ n then n else 0)), none) := by
        have hc : ev cl (.cmp .GtE (.var 2) (.bin .Pow (vI 10) (vI 18))) [x, y, some (.fz (.p (.int n)))] none = some (.ok (.p (.bool (decide ((10 : Int) ^ 18 ≤ n)))), none) := rfl
        show dOf (bnd (dOf (ev cl (.cmp .GtE (.var 2) (.bin .Pow (vI 10) (vI 18))) [x, y, some (.fz (.p (.int n)))] none)) _) = _
        rw [hc, dOf_p, bnd_some]
        by_cases h : (10 : Int) ^ 18 ≤ n
        · rw [decide_eq_true h, if_pos h]; rfl
        · rw [decide_eq_false h, if_neg h]; rfl
      show bnd (ret true none) (fun t m => if t = true then bnd (ed cl irB [x, y, some (.fz (.p (.int n)))] m) fun y m => ret (some y) m else ret none m) = _
      rw [bnd_ret, if_pos rfl, e]
      rfl
    refine ⟨(if (10 : Int) ^ 18 ≤ n then n else 0) :: gs, ?_, by rw [List.length_cons, List.length_cons, h2]⟩
    show bnd (turnF (.one 2) (fun _ m => ret true m) (ed cl irB) [x, y, z] (.int n) none) _ = _
    rw [ht, bnd_some, h1]
    rfl
section
variable {X : Cx} {sc : Scope} {k W : Nat} {cl : Str → List Val → Ms → R Val}
theorem put_great {H : Hp} {a c g g' : Addr} {n : Nat} (h : H a = some (.dK (dkOf c g n))) : DPut H a (.str (Str.ofString "great")) (.ref g') (upd H a (.dK (dkOf c g' n))) := DPut.k (k := .inr "great") (v := .ref g') h (lim_lt (show 3 < lim by decide))
theorem Ext.over {dw : Dw} {F H F' H' : Hp} {p : Addr} {o : HO} (e : Ext dw F H F' H') (hp : H p = none) : Ext dw F H F' (upd H' p o) := ⟨e.fs, fun b u h nd => by rw [upd_ne (ne_of_none h hp)]; exact e.kp _ _ h nd, e.nw, fun b h => by
  by_cases hb : b = p
  · subst hb; exact hp
  · rw [upd_ne hb] at h; exact e.al _ h⟩
theorem int0_inv {e : Expr} (h : isInt0 e = true) : ∃ n p, e = .Constant (.int 0) n p := by
  cases e with
  | Constant c n p =>
    cases c with
    | int i => exact ⟨n, p, by rw [show i = 0 from of_decide_eq_true h]⟩
    | _ => cases h
  | _ => cases h
theorem begun_body (c : Cok noT NB cl k X sc) (hf : ScrOk X.prog X.w X.K X.mg X.base 2 "_law_folded" (fun _ => FoldQ)) (hk : 2 ≤ k) {b : List Stmt} (hb : chkBegun sc b = true) {F H : Hp} {a : Addr} {ns : List Int} (g : Gr none F H none) (hs : ∀ Hc, Sub F Hc → SqL X.K Hc a (ns.map V.int)) (hn : ns.length ≤ 63) {D : Ends}
    (q : ∀ (p c g : Addr) (d : DS) F' H', d.spot = 0 → Ext none F H F' H' → Gr (some (p, c, g)) F' H' (some d) → D.rt (.ref p) H') : WB X b D (L2.start NB [.ref a]) H := by
  have hu : X.A.units + 1 < cLine := by have := c.room.un; omega
  unfold chkBegun at hb
  split at hb
  · rename_i t1 k1 k2 k3 g1 x1 _ _ z1 _ _ o2 k4 _ elt tg iter scope _ _ x3 _
    simp only [Bool.and_eq_true] at hb
    obtain ⟨⟨⟨⟨⟨⟨⟨⟨⟨p1, p2⟩, p3⟩, p4⟩, p5⟩, p6⟩, p7⟩, p8, p9⟩, ⟨⟨⟨⟨p10, p11⟩, p12⟩, p13⟩, p14⟩, p15⟩, p16⟩ := hb
    obtain ⟨y1, q1, rfl, n1, l1⟩ := loc1_inv p1
    obtain ⟨_, _, rfl⟩ := key_inv p2
    obtain ⟨_, _, rfl⟩ := key_inv p3
    obtain ⟨_, _, rfl⟩ := key_inv p4
    obtain ⟨_, _, rfl⟩ := int0_inv p7
    refine wb_of (pss_cons ps_ws pss_wb) ?_
    refine ws_of (ps_set c.nodup (c.at n1) (.inl (c.lcl l1)) (pe_disp (pps_cons pe_str pe_we (pps_cons pe_str (pe_lst pa_nil) (pps_cons pe_str pe_int pps_nil))) rfl rfl (fun z => nomatch z) (by show 3 ≤ 15; decide)) rfl (.inr (c.lcl l1))) ?_
    refine fun p hp => ?_
    obtain ⟨g1', e1'⟩ := g.laid (o := .dK []) hp
    refine we_scr c hf hk p5 p6 (σ := L2.start NB [.ref a]) rfl g1' hn hs fun x H2 hq => ?_
    obtain ⟨pc, zs, F2, rfl, e2, g2, hpc, hpc2, fpc, _, hz⟩ := hq
    refine ⟨by exact Nat.zero_le _, fun pg hpg => ?_⟩
    obtain ⟨g3, e3⟩ := g2.laid (o := .lst []) hpg
    have eA := e1'.trans (e2.trans e3)
    have hp3 : upd H2 pg (.lst []) p = some (.dK []) := by
      rw [upd_ne (ne_of_none (e2.kp _ _ upd_same (fun z => z)) hpg)]
      exact e2.kp _ _ upd_same (fun z => z)
    have hc3 : upd H2 pg (.lst []) pc = some (.lst (zs.map V.int)) := by rw [upd_ne (ne_of_none hpc2 hpg)]; exact hpc2
    refine ⟨hp3, dkOf pc pg 0, rfl, by show 3 ≤ 15; decide, ?_⟩
    have F2p : F2 p = none := e2.stay (by
      cases z : F p with
      | none => rfl
      | some u => rw [g.sub _ _ z] at hp; cases hp) upd_same (fun _ z => by cases z)
    have pcp : pc ≠ p := fun z => by rw [z, hp3] at hc3; cases hc3
    have G4 : Gr none F2 (upd (upd H2 pg (.lst [])) p (.dK (dkOf pc pg 0))) none := ⟨fun b o h => by
      rw [upd_ne (fun z => by rw [z, F2p] at h; cases h)]; exact g3.sub _ _ h, trivial⟩
    have E4 : Ext none F H F2 (upd (upd H2 pg (.lst [])) p (.dK (dkOf pc pg 0))) := eA.over hp
    have h4p : upd (upd H2 pg (.lst [])) p (.dK (dkOf pc pg 0)) p = some (.dK (dkOf pc pg 0)) := upd_same
    have h4c : upd (upd H2 pg (.lst [])) p (.dK (dkOf pc pg 0)) pc = some (.lst (zs.map V.int)) := by rw [upd_ne pcp]; exact hc3
    show WB X _ D [some (.ref a), some (.ref p), none] (upd (upd H2 pg (.lst [])) p (.dK (dkOf pc pg 0)))
    generalize upd (upd H2 pg (.lst [])) p (.dK (dkOf pc pg 0)) = H4 at *
    obtain ⟨y2, _, rfl, hv2⟩ := varE_inv p8
    obtain ⟨_, _, rfl⟩ := key_inv p9
    obtain ⟨y3, _, rfl, hv3⟩ := varE_inv p11
    obtain ⟨y4, _, rfl, hv4⟩ := varE_inv p16
    refine wb_of (pss_cons ps_ws pss_wb) ?_
    have bk : BlkOk X.N X.env.scope scope (ownOf NB [2]) := by rw [c.nn, c.sce]; exact blkOk_by p12
    refine ws_of (ps_dput hu (pe_v c hv2) pe_str (pe_lc c.calm (by rw [c.nn]; exact c.nd) pi_wi bk (fun s H C cl fp => blk_tg (tg := .one 2) c p13 p14 ⟨s, H, C, cl, fp, rfl⟩)
      (tt := TTc X scope []) (fun s H C cl fp => ⟨fun pins s' σ H' Q I h => (h _ ⟨s, H, C, cl, fp, rfl⟩) pins s' I⟩)
      (te := TEc X scope elt) (fun s H C cl fp => ⟨fun pins s' σ H' Q I h => (h _ ⟨s, H, C, cl, fp, rfl⟩) pins s' I⟩) (set_iter rfl)) rfl) ?_
    obtain ⟨gs, hgo, hgl⟩ := great_go cl [none, none, none] rfl ns
    have er : Er none [some (.ref a), some (.ref p), none] F2 H4 [none, none, none] none := by
      refine ⟨G4, rfl, fun i s h => ?_, fun i j l1 l2 b e1 _ _ _ => ?_⟩
      · match i, h with
        | 0, h => cases h
        | 1, h => cases h
        | 2, h => cases h
        | i + 3, h => cases h
      · match i, e1 with
        | 0, h => cases h
        | 1, h => cases h
        | 2, h => cases h
        | i + 3, h => cases h
    have hs2 : ∀ Hc, Sub F2 Hc → SqL X.K Hc a (ns.map V.int) := fun Hc s => hs Hc (eA.fs.trans s)
    refine lc_at (tg := .one 2) c (fun X' b => sndC_no) (fun X' b => (snd irB X' _ elt (c.blk b) p15).d) er (fun Rr qq => ?_) (by rw [List.length_map]; exact Nat.le_trans hn (by decide)) hgo fun q0 xs F5 H5 e5 g5 hq1 hq2 hq3 _ hr => ?_
    · refine wi_of (pi_list (pe_v c hv3)) ?_
      exact ⟨_, rfl, _, rfl, ⟨_, hs2 H4 G4.sub⟩, qq _ F2 H4 (Ext.refl ..) G4 (it_listS hs2 (RpAll.of_ints _))⟩
    have := ints_back hr
    subst this
    refine ⟨_, rfl, p, _, rfl, put_great (e5.kp _ _ h4p (fun z => z)), ?_⟩
    refine wb_of (pss_one (ps_ret (pe_v c hv4))) ?_
    refine ⟨_, rfl, ?_⟩
    have h5c := e5.kp _ _ h4c (fun z => z)
    have F5p : F5 p = none := e5.stay F2p h4p (fun _ z => by cases z)
    have q0p : q0 ≠ p := fun z => by rw [z, h4p] at hq1; cases hq1
    have cq : pc ≠ q0 := fun z => by rw [← z, h4c] at hq1; cases hq1
    refine q p pc q0 ⟨zs, gs, 0⟩ F5 _ rfl ((E4.trans e5).over hp) ⟨fun b o h => ?_, upd_same, ?_, ?_, F5p, e5.stay fpc h4c (fun _ z => by cases z), hq3, cq, hz, by rw [hgl]; exact hn⟩
    · rw [upd_ne (fun z => by rw [z, F5p] at h; cases h)]; exact g5.sub _ _ h
    · rw [upd_ne pcp]; exact h5c
    · rw [upd_ne q0p]; exact hq2
  · cases hb
end
theorem ok_begun {P : Program} {w : World} {K : PySem.W.Frag} {mg : Str → Option Value} {base : Heap} (t : TabOk P w K mg base noT fun _ => none) {f : Str} (h : ObjAt K mg f NB ["_law_script"] chkBegun) (hf : ScrOk P w K mg base 2 "_law_folded" (fun _ => FoldQ)) : ScrOk P w K mg base 3 f BegQ := by
  obtain ⟨fa, name, qual, params, body, scope, dV, kV, doc, pm, cdv, ct, oc, an, od, osl, e1, e2, lk, hcd, S, hb, hc⟩ := h
  refine ⟨fa, _, _, e1, e2, hb, fun dw m a ns A outer s F H args u hr hg e0 hbt hv g h1 h2 hn hs => ?_⟩
  subst h1
  subst h2
  refine codeAny_mono (LamX.run_ofS (us := [u]) (CX := C8.CX0) (E := C8.E0) (Q := BegQ ns none F H none) lk hcd S hr e0 hbt hv rfl fun hr' => ⟨_, PSs.nox pss_wb, ?_⟩) fun r s' hq => cr_ok hq
  have c : Cok noT NB (run (fun _ => none) 0 2) 2 (cxOf C8.CX0 P w K mg base NB qual scope fa cdv A outer s H C8.E0).nox scope := cok_of t (callOk t 2) S hr' hg
  exact begun_body c hf (Nat.le_refl _) hc g hs hn fun p c g d F' H' e1 e2 e3 => ⟨p, c, g, d, F', rfl, e1, e2, e3⟩
def chkLaw (T : Str → Option Lit) (N : List Str) (b : B) (sc : Scope) : List Stmt → Bool
  | .Assign [t1] (.Call g [x] [] _) _ :: rest => loc1 N sc 1 t1 && chkG sc "_law_begun" g && chkVarE N sc 0 x && chkB T N sc b rest
  | _ => false
def ρL (ns : Nat) : Rho := none :: some (.fz .drw) :: List.replicate (ns - 2) none
section
variable {X : Cx} {sc : Scope} {k W : Nat} {T : Str → Option Lit} {N : List Str} {cl : Str → List Val → Ms → R Val}
theorem law_body (c : Cok T N cl k X sc) (hp : Bod X) (hf : ScrOk X.prog X.w X.K X.mg X.base 3 "_law_begun" BegQ) (hk : 3 ≤ k) {ir : B} {b : List Stmt} (hb : chkLaw T N ir sc b = true) (hN : 2 ≤ N.length)
    (hr : ∀ d : DS, Wf d → d.spot = 0 → ∃ m', bnd (exB cl W ir (ρL N.length) (some d)) endF = some (.ok (.p (.bool true)), m')) {F H : Hp} {a : Addr} {ns : List Int} (g : Gr none F H none) (hs : ∀ Hc, Sub F Hc → SqL X.K Hc a (ns.map V.int)) (hn : ns.length ≤ 63) :
    WB X b { nx := fun _ _ => False, rt := fun v _ => v = .bl true } (L2.start N [.ref a]) H := by
  unfold chkLaw at hb
  split at hb
  · rename_i t1 gg x _ _ rest
    simp only [Bool.and_eq_true] at hb
    obtain ⟨⟨⟨p1, p2⟩, p3⟩, p4⟩ := hb
    obtain ⟨y1, q1, rfl, n1, l1⟩ := loc1_inv p1
    refine wb_of (pss_cons ps_ws pss_wb) ?_
    refine ws_of (ps_set c.nodup (c.at n1) (.inl (c.lcl l1)) pe_we rfl (.inr (c.lcl l1))) ?_
    have h0 : (L2.start N [V.ref a])[0]? = some (some (.ref a)) := rfl
    refine we_scr c hf hk p2 p3 h0 g hn hs fun x' H' hq => ?_
    obtain ⟨p, pc, pg, d, F', rfl, hsp, e1, g1⟩ := hq
    obtain ⟨m', hm⟩ := hr d g1.dr.2.2.2.2.2.2.2 hsp
    obtain ⟨fl, m2, h1, h2⟩ := bnd_ok hm
    obtain ⟨rfl, h3⟩ := endF_ok h2
    have st : St0 (some (p, pc, pg)) F' H' ((L2.start N [V.ref a]).set 1 (some (.ref p))) F' H' (ρL N.length) (some d) := by
      have hl : (L2.start N [V.ref a]).length = N.length := by
        unfold L2.start
        rw [List.length_append, List.length_map, List.length_replicate, List.length_singleton]
        omega
      refine ⟨⟨g1, ?_, fun i s h => ?_, fun i j l1 l2 b e1 _ _ _ => ?_⟩, Ext.refl .., fun i l b e1 _ => ?_⟩
      · rw [List.length_set, hl]
        show _ = (List.replicate (N.length - 2) (none : Option Slot)).length + 1 + 1
        rw [List.length_replicate]; omega
      · match i, h with
        | 0, h => cases h
        | 1, h => cases h; exact ⟨_, by rw [List.getElem?_set_self (by rw [hl]; omega)], p, pc, pg, rfl, rfl⟩
        | i + 2, h =>
          have h : (List.replicate (N.length - 2) (none : Option Slot))[i]? = some (some s) := h
          rw [List.getElem?_replicate] at h
          split at h <;> cases h
      · match i, e1 with
        | 0, h => cases h
        | 1, h => cases h
        | i + 2, h =>
          have h : (List.replicate (N.length - 2) (none : Option Slot))[i]? = some (some _) := h
          rw [List.getElem?_replicate] at h
          split at h <;> cases h
      · match i, e1 with
        | 0, h => cases h
        | 1, h => cases h
        | i + 2, h =>
          have h : (List.replicate (N.length - 2) (none : Option Slot))[i]? = some (some _) := h
          rw [List.getElem?_replicate] at h
          split at h <;> cases h
    refine sndBk ir X sc rest c hp p4 F' H' _ F' H' _ _ fl _ st h1 _ (fun ρ' e => ?_) (fun v e x2 F2 H2 _ _ r => ?_)
    · rcases h3 with ⟨ρ2, _, e5⟩ | e5
      · cases e5
      · rw [e] at e5; cases e5
    · rcases h3 with ⟨ρ2, e5, _⟩ | e5
      · rw [e] at e5; cases e5
      · rw [e] at e5; cases e5
        cases r
        rfl
  · cases hb
end
end G

end
section
set_option maxHeartbeats 8000000
namespace G
open PySem PySem.Spec PyProof.Rows L2
def DefAt (K : PySem.W.Frag) (f : Str) (st : Stmt) : Prop :=
  ∃ (fa : Addr) (od an : Option Addr) (osl : Array (Option Value)) (oc kV dc pm cd ct : Value), PySem.W.nsIn K mainGlobals f = some (some (.ref fa)) ∧
    K.lookup fa = some ⟨oc, od, .func (PySem.W.fnOf f f (C8.fnArgs st) (C8.fnBody st) (C8.fnScope st) .none kV dc pm an cd ct), osl⟩ ∧ PySem.W.codeIn K cd f = true ∧ PySem.W.keepIn K (.ref fa) = true
def BindOk (f : Str) (st : Stmt) (ps : List Str) : Prop := ∀ (kV doc pm : Value) (an : Option Addr) (cdv ct : Value) (us : List Value), us.length = ps.length →
  bindArgs (PySem.W.fnOf f f (C8.fnArgs st) (C8.fnBody st) (C8.fnScope st) .none kV doc pm an cdv ct) ⟨us, []⟩ = pure (ps.zip us)
section
variable {K : PySem.W.Frag} {h : Heap} {mg : Str → Option Value} {T : Str → Option Lit}
theorem DefAt.obj {f : Str} {st : Stmt} {N ps : List Str} {chk : Scope → List Stmt → Bool} (D : DefAt K f st) (X : K.In h) (G : h.Ns mainGlobals mg) (hs : C8.scC N ps (C8.fnScope st) = true) (hb : BindOk f st ps) (hc : chk (C8.fnScope st) (C8.fnBody st) = true) : ObjAt K mg f N ps chk := by
  obtain ⟨fa, od, an, osl, oc, kV, dc, pm, cd, ct, a1, l1, c1, k1⟩ := D
  exact ⟨fa, f, f, _, _, _, .none, kV, dc, pm, cd, ct, oc, an, od, osl, PySem.W.mg_of X G a1, k1, l1, c1, C8.fnScope_by hs, .all (hb kV dc pm an cd ct), hc⟩
theorem DefAt.fn {f : Str} {st : Stmt} {N ps : List Str} {d : Def} (D : DefAt K f st) (X : K.In h) (G : h.Ns mainGlobals mg) (hb : BindOk f st ps) (hs : C8.scC N ps (C8.fnScope st) = true) (hc : chkB T N (C8.fnScope st) d.body (C8.fnBody st) = true) (h1 : ps.length = d.np) (h2 : N.length = d.ns) : FnAt K mg T f d :=
  ObjAt.fn (D.obj (chk := fun sc b => chkB T N sc d.body b) X G hs hb hc) h1 h2
end
structure LawFacts (K : PySem.W.Frag) (mg : Str → Option Value) (T : Str → Option Lit) (Γ : Str → Option Fn) (N : List Str) (ir : B) : Prop where
  bn : ∀ x ∈ bnames, mg x = none
  gl : ∀ x c, T x = some c → ∃ u, mg x = some u ∧ RelV c.v u
  code : ∀ f d, Γ f = some (.code d) → FnAt K mg T f d
  draw : ∀ f, Γ f = some .draw → f = ("_law_draw" : Str)
  mixed : FnAt K mg noT "_law_mixed" mixedDef
  drw : ObjAt K mg "_law_draw" ND ["_law_m", "_law_limit"] chkDraw
  fold : ObjAt K mg "_law_folded" NF ["_law_script"] chkFold
  beg : ObjAt K mg "_law_begun" NB ["_law_script"] chkBegun
  law : ObjAt K mg "law" N ["_law_script"] (chkLaw T N ir)
theorem sq_sub {K : PySem.W.Frag} {H : Hp} {a : Addr} {xs : List V} (h : SqL K H a xs) : ∀ Hc, Sub H Hc → SqL K Hc a xs := by
  intro Hc s
  rcases h with (h | ⟨o, h⟩) | h
  · exact .inl (.inl (s _ _ h))
  · exact .inl (.inr ⟨o, s _ _ h⟩)
  · exact .inr h
section
variable {P : Program} {w : World} {K : PySem.W.Frag} {mg : Str → Option Value} {T : Str → Option Lit} {Γ : Str → Option Fn} {N : List Str} {ir : B} {W n : Nat}
theorem LawFacts.tab (L : LawFacts K mg T Γ N ir) (base : Heap) : TabOk P w K mg base T Γ where
  bn := L.bn
  gl := L.gl
  code := L.code
  draw := fun f hf k l m v m' hd => by
    rw [L.draw f hf]
    refine callOk_draw (W := 0) ⟨L.bn, fun x c h => (by cases h), fun f d h => ?_, fun f h => ?_⟩ L.drw k l m v m' hd
    · unfold ΓM at h
      split at h
      · rename_i e
        cases h
        rw [e]; exact L.mixed
      · cases h
    · unfold ΓM at h
      split at h <;> cases h
theorem LawFacts.run (L : LawFacts K mg T Γ N ir) (hN : 2 ≤ N.length) (hn3 : 3 ≤ n) (hr : ∀ d : DS, Wf d → d.spot = 0 → ∃ m', bnd (exB (run Γ W n) W ir (ρL N.length) (some d)) endF = some (.ok (.p (.bool true)), m'))
    {fa a : Addr} {base : Heap} {s : Shared} {H : Hp} {ns : List Int} {A : Around} (hm : mg "law" = some (.ref fa)) (hroom : Room (n + 1) A) (hg : A.guards = some []) (e0 : Env0 P w K mg base A [] s H) (hS : SqL K H a (ns.map V.int)) (hn : ns.length ≤ 63) :
    codeAny (model P w) A (.call (.ref fa) ⟨[.ref a], []⟩) (fun r s' => ∃ u, r = .ok (.ret u) ∧ CE [] P w H s (fun v _ => v = .bl true) u s') s := by
  obtain ⟨fb, name, qual, params, body, scope, dV, kV, doc, pm, cdv, ct, oc, an, od, osl, e1, e2, lk, hcd, S, hb, hc⟩ := L.law
  rw [hm] at e1
  cases e1
  have KX : K.In s.heap := e0.mod.kin.keeps fun b o e => (e0.bs b o e).1
  have hbt := hb s [.ref a] KX rfl
  refine codeAny_mono (LamX.run_ofS (us := [.ref a]) (vs := [.ref a]) (CX := C8.CX0) (E := C8.E0) (Q := fun v _ => v = .bl true) lk hcd S hroom e0 hbt (.cons rfl .nil) rfl fun hr' => ⟨_, PSs.nox pss_wb, ?_⟩) fun r s' hq => cr_ok hq
  have t0 : TabOk P w K mg base noT fun _ => none := ⟨L.bn, fun x c h => (by cases h), fun f d h => (by cases h), fun f h => (by cases h)⟩
  have c : Cok T N (G.run Γ W n) n (cxOf C8.CX0 P w K mg base N qual scope fa cdv A [] s H C8.E0).nox scope := cok_of (L.tab base) (callOk (L.tab base) n) S hr' hg
  have := law_body c ⟨PassesOwn.never, fun _ => rfl⟩ (ok_begun t0 L.beg (ok_fold t0 L.fold)) hn3 hc hN hr (F := H) (H := H) (a := a) (ns := ns) ⟨Sub.refl _, trivial⟩ (sq_sub hS) hn
  intro pins s2 I
  refine wpAny_mono (this pins s2 I) (fun f s3 h => ?_) fun _ _ h => h
  cases f with
  | next => obtain ⟨σ', H', I', q⟩ := h; exact q.elim
  | ret u => exact h
  | brk => obtain ⟨σ', H', I', q⟩ := h; exact q.elim
  | cont => obtain ⟨σ', H', I', q⟩ := h; exact q.elim
end
end G

end
section
set_option maxHeartbeats 8000000
namespace G
open PySem PySem.Spec PyProof.Rows L2
theorem at_top {P : Program} {w : World} {K : PySem.W.Frag} {mg mb : Str → Option Value} {fa a : Addr} {s₁ : Shared} {vs : List Value} {ns : List Int}
    (KX : K.In s₁.heap) (hns : s₁.heap.Ns mainGlobals mg) (hb : s₁.heap.Ns builtinsNs mb) (hbb : ∀ x : Str, x ≠ "__name__" → mb x = bootBuiltins x) (hlim : s₁.heap.NoLimit) (hg : s₁.gens = #[])
    (ha : s₁.heap.get? a = some { cls := .type "list", data := .seq vs.toArray }) (hi : IntsAre vs ns) (hl : ns.length ≤ sizeLine)
    (F : ∀ (base : Heap) (H : Hp), Env0 P w K mg base callerA [] s₁ H → SqL K H a (ns.map V.int) → codeAny (model P w) callerA (.call (.ref fa) ⟨[.ref a], []⟩) (fun r s' => ∃ u, r = .ok (.ret u) ∧ CE [] P w H s₁ (fun v _ => v = .bl true) u s') s₁) :
    codeAny (model P w) callerA (.call (.ref fa) ⟨[.ref a], []⟩) (fun r s' => r = .ok (.ret (.bool true)) ∧ OldK s₁.heap s'.heap ∧ s'.os = s₁.os ∧ AllBare s'.gens) s₁ := by
  have rv := vals_ints hi
  have key : ∀ ho : Option HO, (∀ u, ho = some u → u = .frz { cls := .type "list", data := .seq vs.toArray } (.lst (ns.map V.int)) ∧ K.lookup a = none) → (ho = none → ∃ o, K.lookup a = some o) →
      codeAny (model P w) callerA (.call (.ref fa) ⟨[.ref a], []⟩) (fun r s' => r = .ok (.ret (.bool true)) ∧ OldK s₁.heap s'.heap ∧ s'.os = s₁.os ∧ AllBare s'.gens) s₁ := by
    intro ho h1 h2
    let H : Hp := fun b => if b = a then ho else none
    have hH : ∀ b u, H b = some u → b = a ∧ ho = some u := fun b u e => by
      by_cases hb : b = a
      · exact ⟨hb, (if_pos hb).symm.trans e⟩
      · exact absurd ((if_neg hb).symm.trans e) (fun z => by cases z)
    have hself : H a = ho := if_pos rfl
    have hok : HOk P w H s₁.heap := fun b u e => by
      obtain ⟨eb, eu⟩ := hH b u e
      subst eb
      obtain ⟨rfl, _⟩ := h1 u eu
      exact ⟨ha, by rw [List.length_map]; exact hl, vs, _, rv, ha⟩
    have keep : ∀ {b : Addr} {o : Obj}, s₁.heap.get? b = some o → (b = a → ho = none ∨ ∃ es ep, o.data = .dict es ep) → (hidT s₁.heap H).get? b = some o := fun {b o} e n => by
      refine hidT_get e ?_
      cases z : H b with
      | none => rfl
      | some u =>
        obtain ⟨eb, eu⟩ := hH b u z
        rcases n eb with n | ⟨es, ep, n⟩
        · rw [n] at eu; cases eu
        · rw [eb, ha] at e; cases e; cases n
    have nsK : ∀ {b : Addr} {m : Str → Option Value}, s₁.heap.Ns b m → (hidT s₁.heap H).Ns b m := fun {b m} ⟨o, es, ep, e, d, r⟩ => ⟨o, es, ep, keep e (fun _ => .inr ⟨_, _, d⟩), d, r⟩
    have hKb : K.In (hidT s₁.heap H) := fun b o e => keep (KX b o e) (fun z => .inl (by
      cases y : ho with
      | none => rfl
      | some u => rw [z, (h1 u y).2] at e; cases e))
    have hM : Mod K mg (hidT s₁.heap H) := ⟨hKb, nsK hns, ⟨mb, nsK hb, hbb⟩, let ⟨mc, z1, z2⟩ := hlim; ⟨mc, nsK z1, z2⟩⟩
    have e0 : Env0 P w K mg (hidT s₁.heap H) callerA [] s₁ H := ⟨rfl, hM, fun b o e => of_hidT e, Nat.le_of_eq (hidT_size _ _), trivial, fun b hb => absurd (show b ∈ ([] : List Addr) from hb) (by simp), hok, .of_eq hg⟩
    have hS : SqL K H a (ns.map V.int) := by
      cases y : ho with
      | some u => exact .inl (.inr ⟨_, hself.trans (y.trans (congrArg some (h1 u y).1))⟩)
      | none =>
        obtain ⟨o, hk⟩ := h2 y
        have e := KX a o hk
        rw [ha] at e
        cases e
        exact .inr ⟨_, vs.toArray, _, hk, rfl, rfl, rfl, by rw [List.size_toArray, hi.length]; exact hl, by simpa using rv⟩
    refine codeAny_mono (F _ H e0 hS) fun r s' hq => ?_
    obtain ⟨u, rfl, v, H', os, bare, un, hok', r', q⟩ := hq
    subst q
    obtain rfl : u = Value.bool true := r'
    refine ⟨rfl, OldK.of_keep fun b o e => ?_, os, bare⟩
    cases q : H b with
    | none => exact un.keep b o e q (by intro z; exact absurd (show b ∈ ([] : List Addr) from z) (by simp)) (by simp)
    | some u =>
      obtain ⟨eb, eu⟩ := hH b u q
      subst eb
      obtain ⟨rfl, _⟩ := h1 u eu
      have z2 := un.frzs b _ _ q
      obtain ⟨w2, _⟩ := hok' b _ z2
      rw [ha] at e; cases e
      exact w2
  cases hk : K.lookup a with
  | some o => exact key none (fun u e => by cases e) fun _ => ⟨o, hk⟩
  | none => exact key (some (.frz { cls := .type "list", data := .seq vs.toArray } (.lst (ns.map V.int)))) (fun u e => by cases e; exact ⟨rfl, hk⟩) fun e => by cases e
theorem walk {l : PySem.W.OpenLaw} {q : Program} {loose : List Str} {XP : (Str → Option Value) → Heap → Prop} {YP : World → Heap → Prop} {d : DefRec} {K : Params → PySem.W.Frag} {T : Str → Option Lit} {Γ : Str → Option Fn} {N : List Str} {ir : B} {W n : Nat}
    (hn : l.most = some 63) (hdf : d.params.defaults = []) (hd : d.name = ("law" : Str)) (hY : ∀ (w : World) (h : Heap), YP w h → (K w.params).In h) (F : ∀ (w : World) (mg : Str → Option Value) (h : Heap), (K w.params).In h → h.Ns mainGlobals mg → LawFacts (K w.params) mg T Γ N ir)
    (hN : 2 ≤ N.length) (hn3 : 3 ≤ n) (hroom : Room (n + 1) callerA) (hr : ∀ d : DS, Wf d → d.spot = 0 → ∃ m', bnd (exB (run Γ W n) W ir (ρL N.length) (some d)) endF = some (.ok (.p (.bool true)), m')) :
    PySem.W.WalkO q loose XP YP l.row.toRowW d [] (fun f vs => PySem.call f vs) := by
  refine Att.attach_call hn hdf fun w s₀ s₁ mg mb fa o pm cd doc a vs ns G Y ho hdd hcd hmg hobj hints hlen hg => ?_
  have KX := hY w _ Y
  rw [hd] at hmg
  exact at_top KX G.T.g G.T.b G.T.builtins G.T.nolimit hg hobj hints (Nat.le_trans hlen (Nat.le_trans (show 63 ≤ lim by decide) (lim_line (Nat.le_refl _)))) fun base H e0 hS => (F w mg _ KX G.T.g).run hN hn3 hr hmg hroom rfl e0 hS hlen
end G

end
section
set_option maxHeartbeats 8000000
namespace G
open PySem PySem.Spec PyProof.Rows L2
theorem code_of {K : PySem.W.Frag} {mg : Str → Option Value} {T : Str → Option Lit} {table : List (Str × Def)} (h : ∀ p ∈ table, FnAt K mg T p.1 p.2) (f : Str) (d : Def) (e : ΓL table f = some (.code d)) : FnAt K mg T f d := by
  unfold ΓL at e
  split at e
  · cases e
  · cases q : table.lookup f with
    | none => rw [q] at e; cases e
    | some d' =>
      rw [q] at e; cases e
      exact h _ (PySem.mem_of_lookup q)
theorem draw_of {table : List (Str × Def)} (f : Str) (e : ΓL table f = some .draw) : f = ("_law_draw" : Str) := by
  unfold ΓL at e
  split at e
  · assumption
  · cases q : table.lookup f <;> rw [q] at e <;> cases e
theorem DefAt.mk {K : PySem.W.Frag} {f : Str} {st : Stmt} {fa : Addr} {od an : Option Addr} {osl : Array (Option Value)} {oc kV dc pm cd ct : Value} (a : PySem.W.nsIn K mainGlobals f = some (some (.ref fa)))
    (l : K.lookup fa = some ⟨oc, od, .func (PySem.W.fnOf f f (C8.fnArgs st) (C8.fnBody st) (C8.fnScope st) .none kV dc pm an cd ct), osl⟩) (c : PySem.W.codeIn K cd f = true) (k : PySem.W.keepIn K (.ref fa) = true) : DefAt K f st := ⟨fa, od, an, osl, oc, kV, dc, pm, cd, ct, a, l, c, k⟩
def LitAt (K : PySem.W.Frag) (x : Str) (c : Lit) : Prop := ∃ u, PySem.W.nsIn K mainGlobals x = some (some u) ∧ RelV c.v u
theorem LitAt.mk {K : PySem.W.Frag} {x : Str} {c : Lit} {u : Value} (a : PySem.W.nsIn K mainGlobals x = some (some u)) (r : RelV c.v u) : LitAt K x c := ⟨u, a, r⟩
theorem gl_of {K : PySem.W.Frag} {h : Heap} {mg : Str → Option Value} (X : K.In h) (Gn : h.Ns mainGlobals mg) {cs : List (Str × Lit)} (hc : ∀ p ∈ cs, LitAt K p.1 p.2) (x : Str) (c : Lit) (e : cs.lookup x = some c) : ∃ u, mg x = some u ∧ RelV c.v u := by
  obtain ⟨u, h1, h2⟩ := hc _ (PySem.mem_of_lookup e)
  exact ⟨u, PySem.W.mg_of X Gn h1, h2⟩
theorem bn_of {K : PySem.W.Frag} {h : Heap} {mg : Str → Option Value} (X : K.In h) (Gn : h.Ns mainGlobals mg) (z : ∀ x ∈ bnames, PySem.W.nsIn K mainGlobals x = some none) : ∀ x ∈ bnames, mg x = none := fun x hx => PySem.W.mg_none_of X Gn (z x hx)
theorem fn_of {K : PySem.W.Frag} {h : Heap} {mg : Str → Option Value} {T : Str → Option Lit} (X : K.In h) (Gn : h.Ns mainGlobals mg) {f : Str} {st : Stmt} {N ps : List Str} {d : Def} (D : DefAt K f st) (hb : BindOk f st ps)
    (c : (C8.scC N ps (C8.fnScope st) && chkB T N (C8.fnScope st) d.body (C8.fnBody st) && decide (ps.length = d.np) && decide (N.length = d.ns)) = true) : FnAt K mg T f d := by
  simp only [Bool.and_eq_true, decide_eq_true_eq] at c
  exact DefAt.fn D X Gn hb c.1.1.1 c.1.1.2 c.1.2 c.2
theorem obj_of {K : PySem.W.Frag} {h : Heap} {mg : Str → Option Value} (X : K.In h) (Gn : h.Ns mainGlobals mg) {f : Str} {st : Stmt} {N ps : List Str} {chk : Scope → List Stmt → Bool} (D : DefAt K f st) (hb : BindOk f st ps) (c : (C8.scC N ps (C8.fnScope st) && chk (C8.fnScope st) (C8.fnBody st)) = true) : ObjAt K mg f N ps chk := by
  rw [Bool.and_eq_true] at c
  exact D.obj X Gn c.1 hb c.2
end G

end
section
namespace G
open PySem PySem.Spec PyProof.Rows L2
section
variable {α β γ : Type}
def tw (x : R α) (Q : α → Ms → Prop) : Prop := ∃ a m, x = some (.ok a, m) ∧ Q a m
@[simp] theorem bnd_ret' (a : α) (m : Ms) (f : α → Ms → R β) : bnd (ret a m) f = f a m := rfl
@[simp] theorem bnd_assoc (x : R α) (f : α → Ms → R β) (g : β → Ms → R γ) : bnd (bnd x f) g = bnd x fun a m => bnd (f a m) g := by
  cases x with
  | none => rfl
  | some p =>
    obtain ⟨o, m⟩ := p
    cases o <;> rfl
@[simp] theorem tw_ret {a : α} {m : Ms} {Q : α → Ms → Prop} : tw (ret a m) Q ↔ Q a m := by
  constructor
  · rintro ⟨b, m', h, q⟩
    cases h; exact q
  · exact fun h => ⟨a, m, rfl, h⟩
theorem tw_bnd {x : R α} {f : α → Ms → R β} {Q : β → Ms → Prop} : tw (bnd x f) Q ↔ tw x fun a m => tw (f a m) Q := by
  constructor
  · rintro ⟨b, m', h, q⟩
    obtain ⟨a, m, h1, h2⟩ := bnd_ok h
    exact ⟨a, m, h1, b, m', h2, q⟩
  · rintro ⟨a, m, rfl, h⟩
    exact h
theorem tw_mono {x : R α} {Q Q' : α → Ms → Prop} (h : tw x Q) (i : ∀ a m, Q a m → Q' a m) : tw x Q' := by
  obtain ⟨a, m, e, q⟩ := h
  exact ⟨a, m, e, i a m q⟩
theorem tw_seq {x : R α} {f : α → Ms → R β} {P : α → Ms → Prop} {Q : β → Ms → Prop} (h : tw x P) (i : ∀ a m, P a m → tw (f a m) Q) : tw (bnd x f) Q := tw_bnd.mpr (tw_mono h i)
theorem eq_of_tw {x : R α} {a : α} {m : Ms} (h : tw x fun b m' => b = a ∧ m' = m) : x = ret a m := by
  obtain ⟨b, m', e, rfl, rfl⟩ := h
  exact e
theorem tw_of_eq {x : R α} {a : α} {m : Ms} {Q : α → Ms → Prop} (h : x = ret a m) (q : Q a m) : tw x Q := by rw [h]; exact tw_ret.mpr q
@[simp] theorem opt_s (a : α) (m : Ms) : opt (some a) m = ret a m := rfl
@[simp] theorem dOf_r (d : PyData) (m : Ms) : dOf (ret (.p d) m) = ret d m := rfl
theorem dOf_bnd (x : R α) (f : α → Ms → R Val) : dOf (bnd x f) = bnd x fun a m => dOf (f a m) := by
  unfold dOf
  rw [bnd_assoc]
theorem tw_dOf {x : R Val} {Q : PyData → Ms → Prop} (h : tw x fun v m => ∃ d, v = .p d ∧ Q d m) : tw (dOf x) Q := by
  unfold dOf
  refine tw_seq h fun a m ⟨d, e, q⟩ => ?_
  subst e
  exact tw_ret.mpr q
end
theorem compGo_map {α : Type} {F : PyData → Ms → R (Option PyData)} {m : Ms} {c : α → PyData} (g : α → Option PyData) : ∀ {l : List α}, (∀ a ∈ l, F (c a) m = ret (g a) m) → compGo F (l.map c) m = ret (l.filterMap g) m
  | [], _ => rfl
  | a :: l, h => by
    have h1 := h a (by simp)
    have h2 := compGo_map g (l := l) fun b hb => h b (by simp [hb])
    rw [List.map_cons, compGo, h1, bnd_ret', h2, bnd_ret', List.filterMap_cons]
    cases g a <;> rfl
theorem compGo_all {α : Type} {F : PyData → Ms → R (Option PyData)} {m : Ms} {c : α → PyData} (g : α → PyData) {l : List α} (h : ∀ a ∈ l, F (c a) m = ret (some (g a)) m) : compGo F (l.map c) m = ret (l.map g) m := by
  rw [compGo_map (fun a => some (g a)) h, List.filterMap_eq_map']
theorem compGo_sel {α : Type} {F : PyData → Ms → R (Option PyData)} {m : Ms} {c : α → PyData} (p : α → Bool) (g : α → PyData) {l : List α} (h : ∀ a ∈ l, F (c a) m = if p a = true then ret (some (g a)) m else ret none m) : compGo F (l.map c) m = ret ((l.filter p).map g) m := by
  rw [compGo_map (fun a => if p a = true then some (g a) else none) (fun a ha => by rw [h a ha]; split <;> rfl)]
  congr 1
  clear h
  induction l with
  | nil => rfl
  | cons a l ih =>
    rw [List.filterMap_cons, List.filter_cons]
    cases hp : p a
    · simpa using ih
    · simp [ih]
theorem tw_comp {F : PyData → Ms → R (Option PyData)} (P : PyData → Prop) (I : Nat → Ms → Prop) : ∀ {xs : List PyData} (k : Nat) {m : Ms}, I k m → (∀ x ∈ xs, ∀ j m, I j m → tw (F x m) fun y m' => (∃ d, y = some d ∧ P d) ∧ I (j + 1) m') → tw (compGo F xs m) fun ys m' => (ys.length = xs.length ∧ ∀ y ∈ ys, P y) ∧ I (k + xs.length) m'
  | [], k, m, hi, _ => tw_ret.mpr ⟨⟨rfl, fun _ h => nomatch h⟩, hi⟩
  | x :: xs, k, m, hi, h => by
    rw [compGo]
    refine tw_seq (h x (by simp) k m hi) fun y m1 ⟨⟨d, e, p⟩, i1⟩ => ?_
    subst e
    refine tw_seq (tw_comp P I (k + 1) i1 fun z hz => h z (by simp [hz])) fun ys m2 ⟨⟨l, q⟩, i2⟩ => tw_ret.mpr ⟨⟨by simp [l], ?_⟩, by rw [List.length_cons, show k + (xs.length + 1) = k + 1 + xs.length by omega]; exact i2⟩
    intro z hz
    rcases List.mem_cons.mp hz with rfl | hz
    · exact p
    · exact q _ hz
theorem tw_forG {F : PyData → Rho → Ms → R Fl} (Q : Val → Ms → Prop) (I : Nat → Rho → Ms → Prop) : ∀ {xs : List PyData} (k : Nat) {ρ : Rho} {m : Ms}, I k ρ m →
    (∀ i x ρ m, xs[i]? = some x → I (k + i) ρ m → tw (F x ρ m) fun fl m' => match fl with | .nx ρ' => I (k + i + 1) ρ' m' | .rt v => Q v m') →
    tw (forGo F xs ρ m) fun fl m' => match fl with | .nx ρ' => I (k + xs.length) ρ' m' | .rt v => Q v m'
  | [], k, ρ, m, h0, _ => tw_ret.mpr h0
  | x :: xs, k, ρ, m, h0, hs => by
    rw [forGo]
    refine tw_seq (hs 0 x ρ m rfl h0) fun fl m1 h1 => ?_
    cases fl with
    | rt v => exact tw_ret.mpr h1
    | nx ρ' =>
      refine tw_mono (tw_forG Q I (xs := xs) (k + 1) h1 fun i y ρ m hy hi => ?_) fun fl m2 h2 => ?_
      · have := hs (i + 1) y ρ m (by simpa using hy) (by rw [show k + (i + 1) = k + 1 + i by omega]; exact hi)
        rw [show k + (i + 1) + 1 = k + 1 + i + 1 by omega] at this
        exact this
      · cases fl with
        | nx ρ' => rw [List.length_cons, show k + (xs.length + 1) = k + 1 + xs.length by omega]; exact h2
        | rt v => exact h2
theorem tw_for {F : PyData → Rho → Ms → R Fl} (I : Nat → Rho → Ms → Prop) {xs : List PyData} {ρ : Rho} {m : Ms} (h0 : I 0 ρ m)
    (hs : ∀ i x ρ m, xs[i]? = some x → I i ρ m → tw (F x ρ m) fun fl m' => ∃ ρ', fl = .nx ρ' ∧ I (i + 1) ρ' m') :
    tw (forGo F xs ρ m) fun fl m' => ∃ ρ', fl = .nx ρ' ∧ I xs.length ρ' m' := by
  refine tw_mono (tw_forG (fun _ _ => False) I 0 (xs := xs) h0 fun i x ρ m hx hi => ?_) fun fl m' h => ?_
  · rw [Nat.zero_add] at hi ⊢
    refine tw_mono (hs i x ρ m hx hi) fun fl m' ⟨ρ', e, q⟩ => ?_
    subst e; exact q
  · cases fl with
    | nx ρ' => rw [Nat.zero_add] at h; exact ⟨ρ', rfl, h⟩
    | rt v => exact h.elim
theorem tw_whl {c : Rho → Ms → R Bool} {f : Rho → Ms → R Fl} (Q : Val → Ms → Prop) (J : Rho → Ms → Prop) (I : Nat → Rho → Ms → Prop) : ∀ {n k : Nat} {ρ : Rho} {m : Ms}, k < n → I k ρ m →
    (∀ k ρ m, I k ρ m → tw (c ρ m) fun b m' => if b = true then 0 < k ∧ tw (f ρ m') (fun fl m'' => match fl with | .nx ρ' => ∃ j, j < k ∧ I j ρ' m'' | .rt v => Q v m'') else J ρ m') →
    tw (whlGo c f n ρ m) fun fl m' => match fl with | .nx ρ' => J ρ' m' | .rt v => Q v m'
  | 0, k, ρ, m, h, _, _ => absurd h (by omega)
  | n + 1, k, ρ, m, h, hi, hs => by
    rw [whlGo]
    refine tw_seq (hs k ρ m hi) fun b m1 h1 => ?_
    by_cases hb : b = true
    · rw [if_pos hb] at h1 ⊢
      refine tw_seq h1.2 fun fl m2 h2 => ?_
      cases fl with
      | rt v => exact tw_ret.mpr h2
      | nx ρ' =>
        obtain ⟨j, hj, h3⟩ := h2
        exact tw_whl Q J I (by omega) h3 hs
    · rw [if_neg hb] at h1 ⊢
      exact tw_ret.mpr h1
abbrev tI (l : List Int) : PyData := .tuple (l.map .int)
abbrev lI (l : List Int) : PyData := .list (l.map .int)
abbrev tN (l : List Nat) : PyData := .tuple (l.map fun (n : Nat) => PyData.int (n : Int))
def sq (b : Bool) (l : List PyData) : PyData := if b then .tuple l else .list l
@[simp] theorem sq_true (l : List PyData) : sq true l = .tuple l := rfl
@[simp] theorem sq_false (l : List PyData) : sq false l = .list l := rfl
theorem rngL_zero (n : Nat) : rngL 0 n = (List.range n).map fun (i : Nat) => PyData.int (i : Int) := by
  unfold rngL
  exact List.map_congr_left fun i _ => by rw [Int.zero_add]
@[simp] theorem rngL_len (lo : Int) (n : Nat) : (rngL lo n).length = n := by unfold rngL; simp
@[simp] theorem seqOf_tuple (l : List PyData) : seqOf (.tuple l) = some l := rfl
@[simp] theorem seqOf_list (l : List PyData) : seqOf (.list l) = some l := rfl
@[simp] theorem biD_len_t (l : List PyData) : biD .len (.tuple l) = some (.int l.length) := rfl
@[simp] theorem biD_len_l (l : List PyData) : biD .len (.list l) = some (.int l.length) := rfl
@[simp] theorem biD_tuple_t (l : List PyData) : biD .tuple (.tuple l) = some (.tuple l) := rfl
@[simp] theorem biD_tuple_l (l : List PyData) : biD .tuple (.list l) = some (.tuple l) := rfl
@[simp] theorem biD_list_t (l : List PyData) : biD .list (.tuple l) = some (.list l) := rfl
@[simp] theorem biD_list_l (l : List PyData) : biD .list (.list l) = some (.list l) := rfl
@[simp] theorem bi_int (i : Int) : biD .int (.int i) = some (.int i) := rfl
@[simp] theorem biD_all (l : List PyData) : biD .all (.list l) = (bools l).map fun bs => .bool (bs.all id) := rfl
@[simp] theorem biD_any (l : List PyData) : biD .any (.list l) = (bools l).map fun bs => .bool (bs.any id) := rfl
@[simp] theorem biD_sum (l : List PyData) : biD .sum (.list l) = (intsL l).map fun is => .int is.sum := rfl
@[simp] theorem biD_sorted (l : List PyData) : biD .sorted (.list l) = srtX l := rfl
@[simp] theorem bi_max (l : List PyData) : biD .max (.list l) = maxX l := rfl
@[simp] theorem bi_min (l : List PyData) : biD .min (.list l) = minX l := rfl
@[simp] theorem bi_maxT (l : List PyData) : biD .max (.tuple l) = bestA PySem.W.maxD l := rfl
@[simp] theorem bi_minT (l : List PyData) : biD .min (.tuple l) = bestA PySem.W.minD l := rfl
@[simp] theorem bi2_max (i j : Int) : bi2D .max (.int i) (.int j) = some (.int (if j > i then j else i)) := rfl
@[simp] theorem bi2_min (i j : Int) : bi2D .min (.int i) (.int j) = some (.int (if j < i then j else i)) := rfl
@[simp] theorem bin_add (i j : Int) : binD .Add (.int i) (.int j) = some (.int (i + j)) := rfl
@[simp] theorem bin_sub (i j : Int) : binD .Sub (.int i) (.int j) = some (.int (i - j)) := rfl
@[simp] theorem bin_mod (i j : Int) : binD .Mod (.int i) (.int j) = if 0 < j then some (.int (i % j)) else none := rfl
@[simp] theorem bin_div (i j : Int) : binD .FloorDiv (.int i) (.int j) = if 0 < j ∧ j.natAbs < wideN then some (.int (i / j)) else none := rfl
@[simp] theorem bin_mul (i j : Int) : binD .Mult (.int i) (.int j) = if (-(2 ^ 64) < i ∧ i < 2 ^ 64) ∨ (-(2 ^ 64) < j ∧ j < 2 ^ 64) then some (.int (i * j)) else none := rfl
@[simp] theorem bin_tadd (a b : List PyData) : binD .Add (.tuple a) (.tuple b) = if a.length + b.length ≤ lim then some (.tuple (a ++ b)) else none := rfl
@[simp] theorem bin_ladd (a b : List PyData) : binD .Add (.list a) (.list b) = if a.length + b.length ≤ lim then some (.list (a ++ b)) else none := rfl
@[simp] theorem bin_tmul (a : List PyData) (k : Int) : binD .Mult (.tuple a) (.int k) = if -1000 ≤ k ∧ k ≤ 1000 ∧ a.length ≤ 1000 then some (.tuple (List.replicate k.toNat a).flatten) else none := rfl
@[simp] theorem bin_lmul (a : List PyData) (k : Int) : binD .Mult (.list a) (.int k) = if -1000 ≤ k ∧ k ≤ 1000 ∧ a.length ≤ 1000 then some (.list (List.replicate k.toNat a).flatten) else none := rfl
@[simp] theorem cmp_eq (a b : PyData) : cmpD .Eq a b = eqD a b := rfl
@[simp] theorem cmp_ne (a b : PyData) : cmpD .NotEq a b = (eqD a b).map (!·) := rfl
@[simp] theorem cmp_lt (i j : Int) : cmpD .Lt (.int i) (.int j) = some (decide (i < j)) := rfl
@[simp] theorem cmp_le (i j : Int) : cmpD .LtE (.int i) (.int j) = some (decide (i ≤ j)) := rfl
@[simp] theorem cmp_gt (i j : Int) : cmpD .Gt (.int i) (.int j) = some (decide (j < i)) := rfl
@[simp] theorem cmp_ge (i j : Int) : cmpD .GtE (.int i) (.int j) = some (decide (j ≤ i)) := rfl
@[simp] theorem cmp_in (a b : PyData) : cmpD .In a b = inD a b := rfl
@[simp] theorem cmp_notIn (a b : PyData) : cmpD .NotIn a b = (inD a b).map (!·) := rfl
@[simp] theorem cmp_is (a b : PyData) : cmpD .Is a b = isD a b := rfl
@[simp] theorem cmp_isNot (a b : PyData) : cmpD .IsNot a b = (isD a b).map (!·) := rfl
@[simp] theorem aug_add (i j : Int) : augD .Add (.int i) (.int j) = some (.int (i + j)) := rfl
@[simp] theorem aug_sub (i j : Int) : augD .Sub (.int i) (.int j) = some (.int (i - j)) := rfl
@[simp] theorem aug_mul (i j : Int) : augD .Mult (.int i) (.int j) = if (-(2 ^ 64) < i ∧ i < 2 ^ 64) ∨ (-(2 ^ 64) < j ∧ j < 2 ^ 64) then some (.int (i * j)) else none := rfl
@[simp] theorem idx_t (l : List PyData) (i : Int) : idxD (.tuple l) (.int i) = atI l i := rfl
@[simp] theorem idx_l (l : List PyData) (i : Int) : idxD (.list l) (.int i) = atI l i := rfl
theorem at_nat {α : Type} (l : List α) (i : Nat) : atI l (i : Int) = l[i]? := by
  unfold L2.atI L2.ixN
  rw [if_pos (by omega)]
  by_cases h : i < l.length
  · rw [if_pos (by omega)]
    simp
  · rw [if_neg (by omega)]
    simp; omega
@[simp] theorem slc_t (l : List PyData) (a b : Option Int) : slcD (.tuple l) a b = some (.tuple (cutD l a b)) := rfl
@[simp] theorem slc_l (l : List PyData) (a b : Option Int) : slcD (.list l) a b = some (.list (cutD l a b)) := rfl
theorem cut_nn (l : List PyData) : cutD l none none = l := by
  unfold cutD; simp [HT.sIx]
theorem cut_to (l : List PyData) (k : Nat) : cutD l none (some (k : Int)) = l.take k := by
  unfold cutD
  simp only [HT.sIx]
  rw [if_neg (by omega), Int.toNat_natCast]
  by_cases h : k ≤ l.length
  · rw [Nat.min_eq_left h]; simp
  · rw [Nat.min_eq_right (by omega), List.take_of_length_le (show l.length ≤ k by omega)]; simp
theorem cut_from (l : List PyData) (k : Nat) : cutD l (some (k : Int)) none = l.drop k := by
  unfold cutD
  simp only [HT.sIx]
  rw [if_neg (by omega), Int.toNat_natCast]
  by_cases h : k ≤ l.length
  · rw [Nat.min_eq_left h, List.take_of_length_le (by simp)]
  · rw [Nat.min_eq_right (by omega), List.drop_eq_nil_of_le (Nat.le_refl _), List.drop_eq_nil_of_le (by omega)]; simp
theorem cut_mid (l : List PyData) (j k : Nat) : cutD l (some (j : Int)) (some (k : Int)) = (l.drop j).take (k - j) := by
  unfold cutD
  simp only [HT.sIx]
  rw [if_neg (by omega), if_neg (by omega), Int.toNat_natCast, Int.toNat_natCast]
  by_cases h : j ≤ l.length
  · rw [Nat.min_eq_left h]
    by_cases q : k ≤ l.length
    · rw [Nat.min_eq_left q]
    · rw [Nat.min_eq_right (by omega), List.take_of_length_le (by simp), List.take_of_length_le (by simp; omega)]
  · rw [Nat.min_eq_right (show l.length ≤ j by omega), List.drop_eq_nil_of_le (Nat.le_refl _), List.drop_eq_nil_of_le (show l.length ≤ j by omega)]; simp
@[simp] theorem bools_map {α : Type} (l : List α) (p : α → Bool) : bools (l.map fun a => PyData.bool (p a)) = some (l.map p) := by
  induction l with
  | nil => rfl
  | cons a l ih => rw [List.map_cons, bools, ih]; rfl
@[simp] theorem intsL_map {α : Type} (l : List α) (p : α → Int) : intsL (l.map fun a => PyData.int (p a)) = some (l.map p) := by
  induction l with
  | nil => rfl
  | cons a l ih => rw [List.map_cons, intsL, ih]; rfl
@[simp] theorem intsL_int (l : List Int) : intsL (l.map PyData.int) = some l := by
  have := intsL_map l id
  simpa using this
@[simp] theorem eqvAll_int : ∀ a b : List Int, PyData.eqvAll (a.map .int) (b.map .int) = decide (a = b)
  | [], [] => rfl
  | [], _ :: _ => rfl
  | _ :: _, [] => rfl
  | x :: a, y :: b => by
    rw [List.map_cons, List.map_cons, PyData.eqvAll, eqvAll_int a b, PyData.eqv]
    by_cases h : x = y <;> by_cases q : a = b <;> simp [h, q]
theorem canLayAll_int : ∀ a : List Int, PyData.canLayAll0 (a.map .int) = true
  | [] => rfl
  | x :: a => by rw [List.map_cons, PyData.canLayAll0, canLayAll_int a]; rfl
theorem depthAll_int : ∀ a : List Int, PyData.depthAll (a.map .int) = 0
  | [] => rfl
  | x :: a => by rw [List.map_cons, PyData.depthAll, depthAll_int a]; rfl
@[simp] theorem shaped_tI (a : List Int) : SeqAt.shaped (.tuple (a.map .int)) = true := by
  unfold SeqAt.shaped
  rw [PyData.canLay0, PyData.depth, canLayAll_int, depthAll_int]; rfl
@[simp] theorem shaped_lI (a : List Int) : SeqAt.shaped (.list (a.map .int)) = true := by
  unfold SeqAt.shaped
  rw [PyData.canLay0, PyData.depth, canLayAll_int, depthAll_int]; rfl
@[simp] theorem shaped_int (i : Int) : SeqAt.shaped (.int i) = true := rfl
@[simp] theorem shaped_bool (i : Bool) : SeqAt.shaped (.bool i) = true := rfl
@[simp] theorem shaped_none : SeqAt.shaped .none = true := rfl
theorem eqD_shaped {d e : PyData} (h : SeqAt.shaped d = true) (q : SeqAt.shaped e = true) (n : (∃ x, d = .str x) → (∃ y, e = .str y) → False) : eqD d e = some (PyData.eqv d e) := by
  unfold eqD
  split
  · exact (n ⟨_, rfl⟩ ⟨_, rfl⟩).elim
  · rw [if_pos ⟨h, q⟩]
@[simp] theorem eqD_int (i j : Int) : eqD (.int i) (.int j) = some (decide (i = j)) := by
  rw [eqD_shaped rfl rfl (fun ⟨_, h⟩ => nomatch h), PyData.eqv]
  by_cases h : i = j <;> simp [h]
@[simp] theorem eqD_tI (a b : List Int) : eqD (.tuple (a.map .int)) (.tuple (b.map .int)) = some (decide (a = b)) := by
  rw [eqD_shaped (shaped_tI a) (shaped_tI b) (fun ⟨_, h⟩ => nomatch h), PyData.eqv, eqvAll_int]
@[simp] theorem eqD_lI (a b : List Int) : eqD (.list (a.map .int)) (.list (b.map .int)) = some (decide (a = b)) := by
  rw [eqD_shaped (shaped_lI a) (shaped_lI b) (fun ⟨_, h⟩ => nomatch h), PyData.eqv, eqvAll_int]
@[simp] theorem eqD_str (a b : Str) : eqD (.str a) (.str b) = some (decide (a = b)) := rfl
theorem mapN (l : List Nat) : (l.map fun (n : Nat) => PyData.int (n : Int)) = (l.map fun (n : Nat) => (n : Int)).map PyData.int := by rw [List.map_map]; rfl
theorem tN_tI (l : List Nat) : tN l = tI (l.map fun (n : Nat) => (n : Int)) := congrArg PyData.tuple (mapN l)
@[simp] theorem shaped_tN (l : List Nat) : SeqAt.shaped (.tuple (l.map fun (n : Nat) => PyData.int (n : Int))) = true := by
  rw [mapN]; exact shaped_tI _
@[simp] theorem shaped_lN (l : List Nat) : SeqAt.shaped (.list (l.map fun (n : Nat) => PyData.int (n : Int))) = true := by
  rw [mapN]; exact shaped_lI _
theorem map_cast_inj : ∀ {a b : List Nat}, (a.map fun (n : Nat) => (n : Int)) = (b.map fun (n : Nat) => (n : Int)) ↔ a = b
  | [], [] => by simp
  | [], _ :: _ => by simp
  | _ :: _, [] => by simp
  | x :: a, y :: b => by
    rw [List.map_cons, List.map_cons, List.cons.injEq, List.cons.injEq, map_cast_inj (a := a), Int.natCast_inj]
@[simp] theorem eqD_tN (a b : List Nat) : eqD (.tuple (a.map fun (n : Nat) => PyData.int (n : Int))) (.tuple (b.map fun (n : Nat) => PyData.int (n : Int))) = some (decide (a = b)) := by
  rw [mapN, mapN, eqD_tI]; simp only [map_cast_inj]
@[simp] theorem eqD_lN (a b : List Nat) : eqD (.list (a.map fun (n : Nat) => PyData.int (n : Int))) (.list (b.map fun (n : Nat) => PyData.int (n : Int))) = some (decide (a = b)) := by
  rw [mapN, mapN, eqD_lI]; simp only [map_cast_inj]
@[simp] theorem eqD_nilL : eqD (.list []) (.list []) = some true := eqD_lI [] []
theorem any_int (l : List Int) (i : Int) : ((l.map PyData.int).any fun z => PyData.eqv z (.int i)) = decide (i ∈ l) := by
  induction l with
  | nil => rfl
  | cons x l ih =>
    rw [List.map_cons, List.any_cons, ih, PyData.eqv, Bool.eq_iff_iff, Bool.or_eq_true, beq_iff_eq, decide_eq_true_eq, decide_eq_true_eq, List.mem_cons, eq_comm]
theorem in_t {d : PyData} {l : List PyData} (h : SeqAt.shaped d = true) (q : SeqAt.shaped (.tuple l) = true) : inD d (.tuple l) = some (l.any fun z => PyData.eqv z d) := by
  unfold inD
  exact if_pos (And.intro h q)
theorem in_l {d : PyData} {l : List PyData} (h : SeqAt.shaped d = true) (q : SeqAt.shaped (.list l) = true) : inD d (.list l) = some (l.any fun z => PyData.eqv z d) := by
  unfold inD
  exact if_pos (And.intro h q)
@[simp] theorem in_tI (l : List Int) (i : Int) : inD (.int i) (.tuple (l.map .int)) = some (decide (i ∈ l)) := by
  rw [in_t rfl (shaped_tI l), any_int]
@[simp] theorem in_lI (l : List Int) (i : Int) : inD (.int i) (.list (l.map .int)) = some (decide (i ∈ l)) := by
  rw [in_l rfl (shaped_lI l), any_int]
theorem mem_cast {l : List Nat} {i : Nat} : (i : Int) ∈ (l.map fun (n : Nat) => (n : Int)) ↔ i ∈ l := by
  rw [List.mem_map]
  exact ⟨fun ⟨a, h, e⟩ => by rw [← Int.natCast_inj.mp e]; exact h, fun h => ⟨i, h, rfl⟩⟩
@[simp] theorem in_tN (l : List Nat) (i : Nat) : inD (.int (i : Int)) (.tuple (l.map fun (n : Nat) => PyData.int (n : Int))) = some (decide (i ∈ l)) := by
  rw [mapN, in_tI]; simp only [mem_cast]
@[simp] theorem in_lN (l : List Nat) (i : Nat) : inD (.int (i : Int)) (.list (l.map fun (n : Nat) => PyData.int (n : Int))) = some (decide (i ∈ l)) := by
  rw [mapN, in_lI]; simp only [mem_cast]
theorem mem_sortI {l : List Int} {x : Int} : x ∈ sortI l ↔ x ∈ l := (List.mergeSort_perm l _).mem_iff
@[simp] theorem len_sortI (l : List Int) : (sortI l).length = l.length := (List.mergeSort_perm l _).length_eq
@[simp] theorem filter_ff {α : Type} (l : List α) : l.filter (fun _ => false) = [] := List.filter_eq_nil_iff.mpr (by simp)
@[simp] theorem pow_30 : binD .Pow (.int 10) (.int 30) = some (.int 1000000000000000000000000000000) := rfl
@[simp] theorem isD_bool (a b : Bool) : isD (.bool a) (.bool b) = some (decide (a = b)) := rfl
def insI (x : Int) : List Int → List Int
  | [] => [x]
  | y :: l => if x ≤ y then x :: y :: l else y :: insI x l
def isort : List Int → List Int
  | [] => []
  | x :: l => insI x (isort l)
theorem insI_perm (x : Int) : ∀ l : List Int, (insI x l).Perm (x :: l)
  | [] => .refl _
  | y :: l => by
    rw [insI]
    split
    · exact .refl _
    · exact ((insI_perm x l).cons y).trans (.swap x y l)
theorem isort_perm : ∀ l : List Int, (isort l).Perm l
  | [] => .refl _
  | x :: l => (insI_perm x (isort l)).trans ((isort_perm l).cons x)
theorem insI_pair (x : Int) : ∀ {l : List Int}, l.Pairwise (· ≤ ·) → (insI x l).Pairwise (· ≤ ·)
  | [], _ => List.pairwise_singleton ..
  | y :: l, h => by
    rw [insI]
    have ⟨h1, h2⟩ := List.pairwise_cons.mp h
    split
    · rename_i q
      refine List.pairwise_cons.mpr ⟨fun z hz => ?_, h⟩
      rcases List.mem_cons.mp hz with rfl | hz
      · exact q
      · exact Int.le_trans q (h1 z hz)
    · rename_i q
      refine List.pairwise_cons.mpr ⟨fun z hz => ?_, insI_pair x h2⟩
      rcases List.mem_cons.mp ((insI_perm x l).mem_iff.mp hz) with rfl | hz
      · omega
      · exact h1 z hz
theorem isort_pair : ∀ l : List Int, (isort l).Pairwise (· ≤ ·)
  | [] => .nil
  | x :: l => insI_pair x (isort_pair l)
theorem sortI_pair (l : List Int) : (sortI l).Pairwise (· ≤ ·) := by
  have := List.pairwise_mergeSort (le := fun a b : Int => decide (a ≤ b)) (fun a b c => by simpa using Int.le_trans) (fun a b => by simpa using Int.le_total a b) l
  unfold sortI
  simpa using this
theorem sortI_unique {l l' : List Int} (h : l'.Perm l) (q : l'.Pairwise (· ≤ ·)) : sortI l = l' :=
  List.Perm.eq_of_pairwise (le := fun a b : Int => a ≤ b) (fun a b _ _ h1 h2 => Int.le_antisymm h1 h2) (sortI_pair l) q ((List.mergeSort_perm l _).trans h.symm)
theorem sortI_isort (l : List Int) : sortI l = isort l := sortI_unique (isort_perm l) (isort_pair l)
@[simp] theorem srtX_map {α : Type} (l : List α) (p : α → Int) : srtX (l.map fun a => PyData.int (p a)) = some (.list ((sortI (l.map p)).map .int)) := by
  unfold srtX; rw [intsL_map]
@[simp] theorem srtX_int (l : List Int) : srtX (l.map PyData.int) = some (.list ((sortI l).map .int)) := by
  unfold srtX; rw [intsL_int]
@[simp] theorem maxX_int (l : List Int) : maxX (l.map PyData.int) = (maxI l).map .int := by
  unfold maxX; rw [intsL_int]
@[simp] theorem minX_int (l : List Int) : minX (l.map PyData.int) = (minI l).map .int := by
  unfold minX; rw [intsL_int]
@[simp] theorem maxX_map {α : Type} (l : List α) (p : α → Int) : maxX (l.map fun a => PyData.int (p a)) = (maxI (l.map p)).map .int := by
  unfold maxX; rw [intsL_map]
@[simp] theorem minX_map {α : Type} (l : List α) (p : α → Int) : minX (l.map fun a => PyData.int (p a)) = (minI (l.map p)).map .int := by
  unfold minX; rw [intsL_map]
theorem best_int (f : PyData → List PyData → PyData) (x : Int) (l : List Int) : bestA f ((x :: l).map .int) = some (f (.int x) (l.map .int)) := by
  rw [List.map_cons, bestA, if_pos]
  refine ⟨?_, ?_, ?_, ?_⟩
  · unfold alikeB
    rw [← List.map_cons (f := PyData.int), List.all_eq_true]
    intro a ha
    rw [List.all_eq_true]
    intro b hb
    obtain ⟨_, _, rfl⟩ := List.mem_map.mp ha
    obtain ⟨_, _, rfl⟩ := List.mem_map.mp hb
    rfl
  · rw [← List.map_cons (f := PyData.int), List.all_eq_true]
    intro a ha
    obtain ⟨_, _, rfl⟩ := List.mem_map.mp ha
    rfl
  · rw [← List.map_cons (f := PyData.int), depthAll_int]; decide
  · rw [← List.map_cons (f := PyData.int)]
    exact PyData.hasDictAll_of_canLayAll _ (canLayAll_int _)
@[simp] theorem maxT_int (l : List Int) : bestA PySem.W.maxD (l.map .int) = (maxI l).map .int := by
  cases l with
  | nil => rfl
  | cons x l => rw [best_int, PySem.W.maxD_ints]; rfl
@[simp] theorem minT_int (l : List Int) : bestA PySem.W.minD (l.map .int) = (minI l).map .int := by
  cases l with
  | nil => rfl
  | cons x l => rw [best_int, PySem.W.minD_ints]; rfl
@[simp] theorem eqD_bool (a b : Bool) : eqD (.bool a) (.bool b) = some (decide (a = b)) := by
  rw [eqD_shaped rfl rfl (fun ⟨_, h⟩ => nomatch h), PyData.eqv]
  cases a <;> cases b <;> rfl
end G

end
section
namespace G
open PySem PySem.Spec PyProof.Rows L2
def br {α : Type} (b : Option Bool) (x y : R α) : R α := match b with
  | some true => x
  | some false => y
  | none => none
@[simp] theorem br_some {α : Type} (b : Bool) (x y : R α) : br (some b) x y = if b = true then x else y := by cases b <;> rfl
@[simp] theorem boolOf_bool (b : Bool) : boolOf (.bool b) = some b := rfl
@[simp] theorem intOf_int (i : Int) : intOf (.int i) = some i := rfl
@[simp] theorem endF_rt (v : Val) (m : Ms) : endF (.rt v) m = ret v m := rfl
@[simp] theorem endF_nx (ρ : Rho) (m : Ms) : endF (.nx ρ) m = ret (.p .none) m := rfl
@[simp] theorem bnd_endF_if {c : Prop} [Decidable c] (x y : R Fl) : bnd (if c then x else y) endF = if c then bnd x endF else bnd y endF := by split <;> rfl
@[simp] theorem bnd_if {α β : Type} {c : Prop} [Decidable c] (x y : R α) (f : α → Ms → R β) : bnd (if c then x else y) f = if c then bnd x f else bnd y f := by split <;> rfl
@[simp] theorem slF (v : Val) : slotOf false v = some (.fz v) := rfl
@[simp] theorem slT (l : List PyData) : slotOf true (.p (.list l)) = some (.ol l) := rfl
@[simp] theorem Val.d_p (d : PyData) : (Val.p d).d = some d := rfl
@[simp] theorem lit_non : Lit.d .non = .none := rfl
@[simp] theorem lit_bl (b : Bool) : Lit.d (.bl b) = .bool b := rfl
@[simp] theorem lit_int (i : Int) : Lit.d (.int i) = .int i := rfl
@[simp] theorem lit_str (x : Str) : Lit.d (.str x) = .str x := rfl
section
variable (cl : Str → List Val → Ms → R Val) (W : Nat) (ρ : Rho) (m : Ms)
def varR (x : Option (Option Slot)) (m : Ms) : R Val := match x with
  | some (some (.fz v)) => ret v m
  | _ => none
@[simp] theorem varR_fz (v : Val) : varR (some (some (.fz v))) m = ret v m := rfl
@[simp] theorem ev_vr (i : Nat) : ev cl (.var i) ρ m = varR (ρ[i]?) m := by rw [ev]; rfl
def lkR (x : Option (Option Slot)) (m : Ms) : R PyData := match x with
  | some (some (.fz (.p d))) => ret d m
  | some (some (.ow (.lst l))) => ret (.list l) m
  | _ => none
@[simp] theorem lkR_fz (d : PyData) : lkR (some (some (.fz (.p d)))) m = ret d m := rfl
@[simp] theorem lkR_ol (l : List PyData) : lkR (some (some (.ol l))) m = ret (.list l) m := rfl
@[simp] theorem lk_var (i : Nat) (r : R Val) : lk (.var i) ρ m r = lkR (ρ[i]?) m := rfl
@[simp] theorem ev_cst (c : Lit) : ev cl (.cst c) ρ m = ret (.p c.d) m := by rw [ev]
@[simp] theorem ev_glb (x : Str) (c : Lit) : ev cl (.glb x c) ρ m = ret (.p c.d) m := by rw [ev]
@[simp] theorem ev_tup (es : Es) : ev cl (.tup es) ρ m = bnd (evs cl es ρ m) fun vs m => if vs.length ≤ lim then ret (.p (.tuple vs)) m else none := by rw [ev]
@[simp] theorem ev_lst (es : Es) : ev cl (.lst es) ρ m = bnd (evs cl es ρ m) fun vs m => if vs.length ≤ lim then ret (.p (.list vs)) m else none := by rw [ev]
@[simp] theorem ev_dct : ev cl .dct ρ m = ret (.p (.dict [])) m := by rw [ev]
@[simp] theorem ev_bnr (op : Operator) (a b : E) : ev cl (.bin op a b) ρ m = bnd (dOf (ev cl a ρ m)) fun x m => bnd (dOf (ev cl b ρ m)) fun y m => opt ((binD op x y).map .p) m := by rw [ev]
@[simp] theorem ev_neg (a : E) : ev cl (.neg a) ρ m = bnd (dOf (ev cl a ρ m)) fun x m => opt ((intOf x).map fun i => .p (.int (-i))) m := by rw [ev]
@[simp] theorem ev_not (a : E) : ev cl (.not a) ρ m = bnd (dOf (ev cl a ρ m)) fun x m => opt ((boolOf x).map fun b => .p (.bool (!b))) m := by rw [ev]
@[simp] theorem ev_cmp (op : CmpOp) (a b : E) : ev cl (.cmp op a b) ρ m = bnd (dOf (ev cl a ρ m)) fun x m => bnd (dOf (ev cl b ρ m)) fun y m => opt ((cmpD op x y).map fun b => .p (.bool b)) m := by rw [ev]
@[simp] theorem ev_chain (o p : CmpOp) (a b c : E) : ev cl (.chain o p a b c) ρ m = bnd (dOf (ev cl a ρ m)) fun x m => bnd (dOf (ev cl b ρ m)) fun y m => br (cmpD o x y) (bnd (dOf (ev cl c ρ m)) fun z m => opt ((cmpD p y z).map fun b => .p (.bool b)) m) (ret (.p (.bool false)) m) := by
  rw [ev]; congr
@[simp] theorem ev_and (a : E) (r : Es) : ev cl (.and a r) ρ m = bnd (ev cl a ρ m) fun x m => evAnd cl r ρ x m := by rw [ev]
@[simp] theorem ev_or (a : E) (r : Es) : ev cl (.or a r) ρ m = bnd (ev cl a ρ m) fun x m => evOr cl r ρ x m := by rw [ev]
@[simp] theorem ev_ite (c a b : E) : ev cl (.ite c a b) ρ m = bnd (dOf (ev cl c ρ m)) fun x m => br (boolOf x) (ev cl a ρ m) (ev cl b ρ m) := by
  rw [ev]; congr
@[simp] theorem ev_ix (a i : E) : ev cl (.idx a i) ρ m = bnd (lk a ρ m (ev cl a ρ m)) fun x m => bnd (dOf (ev cl i ρ m)) fun y m => opt ((idxD x y).map .p) m := by rw [ev]
@[simp] theorem ev_slc (a : E) (lo hi : Oe) : ev cl (.slc a lo hi) ρ m = bnd (dOf (ev cl a ρ m)) fun x m => bnd (evO cl lo ρ m) fun y m => bnd (evO cl hi ρ m) fun z m => opt ((slcD x y z).map .p) m := by rw [ev]
@[simp] theorem ev_call (f : Str) (es : Es) : ev cl (.call f es) ρ m = bnd (eva cl es ρ m) fun vs m => cl f vs m := by rw [ev]
@[simp] theorem ev_blt (b : Bi) (a : E) : ev cl (.bi b a) ρ m = bnd (lk a ρ m (ev cl a ρ m)) fun x m => opt ((biD b x).map .p) m := by rw [ev]
@[simp] theorem ev_bi2 (b : Bi2) (a c : E) : ev cl (.bi2 b a c) ρ m = bnd (dOf (ev cl a ρ m)) fun x m => bnd (dOf (ev cl c ρ m)) fun y m => opt ((bi2D b x y).map .p) m := by rw [ev]
@[simp] theorem ev_rngs (k : Bool) (it : Lp) : ev cl (.rngs k it) ρ m = bnd (evI cl it ρ m) fun xs m => ret (.p (if k then .tuple xs else .list xs)) m := by rw [ev]
def turn (e : E) (tg : Tg) (c : Oe) (ρ : Rho) (x : PyData) (m : Ms) : R (Option PyData) := match bindT tg x (wipeR ρ tg.slots) with
  | some ρ' => bnd (evC cl c ρ' m) fun t m => if t = true then bnd (dOf (ev cl e ρ' m)) fun y m => ret (some y) m else ret none m
  | none => none
@[simp] theorem ev_comp (e : E) (tg : Tg) (it : Lp) (c : Oe) : ev cl (.comp e tg it c) ρ m = bnd (evI cl it ρ m) fun xs m => if xs.length ≤ lim then bnd (compGo (turn cl e tg c ρ) xs m) fun ys m => ret (.p (.list ys)) m else none := by rw [ev]; rfl
@[simp] theorem ev_isi (a : E) (ts : List String) : ev cl (.isi a ts) ρ m = bnd (dOf (ev cl a ρ m)) fun x m => ret (.p (.bool (ts.any fun t => isTy (tyD x) t))) m := by rw [ev]
@[simp] theorem ev_srt (a : E) : ev cl (.srt a) ρ m = bnd (lk a ρ m (ev cl a ρ m)) fun x m => opt ((srtD x).map .p) m := by rw [ev]
@[simp] theorem ev_lens (a : E) : ev cl (.lens a) ρ m = bnd (lk a ρ m (ev cl a ρ m)) fun x m => opt ((lensD x).map .p) m := by rw [ev]
def ixR (x y : PyData) (m : Ms) : R Val := match x with
    | .list xs => if SeqAt.shaped y = true ∧ SeqAt.shaped (.list xs) = true then opt ((xs.findIdx? fun z => PyData.eqv z y).map fun (j : Nat) => .p (.int j)) m else none
    | _ => none
@[simp] theorem ixR_l (xs : List PyData) (y : PyData) : ixR (.list xs) y m = if SeqAt.shaped y = true ∧ SeqAt.shaped (.list xs) = true then opt ((xs.findIdx? fun z => PyData.eqv z y).map fun (j : Nat) => .p (.int j)) m else none := rfl
@[simp] theorem ev_index (l x : E) : ev cl (.index l x) ρ m = bnd (dOf (ev cl l ρ m)) fun a m => bnd (dOf (ev cl x ρ m)) fun y m => ixR a y m := by rw [ev]; rfl
@[simp] theorem evs_nil : evs cl .nil ρ m = ret [] m := by rw [evs]
@[simp] theorem evs_cons (e : E) (r : Es) : evs cl (.cons e r) ρ m = bnd (dOf (ev cl e ρ m)) fun x m => bnd (evs cl r ρ m) fun xs m => ret (x :: xs) m := by rw [evs]
@[simp] theorem eva_nil : eva cl .nil ρ m = ret [] m := by rw [eva]
@[simp] theorem eva_cons (e : E) (r : Es) : eva cl (.cons e r) ρ m = bnd (ev cl e ρ m) fun x m => bnd (eva cl r ρ m) fun xs m => ret (x :: xs) m := by rw [eva]
@[simp] theorem evAnd_nil (b : Bool) : evAnd cl .nil ρ (.p (.bool b)) m = ret (.p (.bool b)) m := by rw [evAnd]
@[simp] theorem evAnd_cons (e : E) (r : Es) (b : Bool) : evAnd cl (.cons e r) ρ (.p (.bool b)) m = if b = true then bnd (ev cl e ρ m) fun y m => evAnd cl r ρ y m else ret (.p (.bool false)) m := by rw [evAnd]; cases b <;> rfl
@[simp] theorem evOr_nil (b : Bool) : evOr cl .nil ρ (.p (.bool b)) m = ret (.p (.bool b)) m := by rw [evOr]
@[simp] theorem evOr_cons (e : E) (r : Es) (b : Bool) : evOr cl (.cons e r) ρ (.p (.bool b)) m = if b = true then ret (.p (.bool true)) m else bnd (ev cl e ρ m) fun y m => evOr cl r ρ y m := by rw [evOr]; cases b <;> rfl
@[simp] theorem evO_no : evO cl .no ρ m = ret none m := by rw [evO]
@[simp] theorem evO_yes (e : E) : evO cl (.yes e) ρ m = bnd (dOf (ev cl e ρ m)) fun x m => opt ((intOf x).map some) m := by rw [evO]
@[simp] theorem evC_no : evC cl .no ρ m = ret true m := by rw [evC]
@[simp] theorem evC_yes (e : E) : evC cl (.yes e) ρ m = bnd (dOf (ev cl e ρ m)) fun x m => opt (boolOf x) m := by rw [evC]
@[simp] theorem evI_val (e : E) : evI cl (.val e) ρ m = bnd (dOf (ev cl e ρ m)) fun x m => opt (seqOf x) m := by rw [evI]
def rngR (x y : PyData) (m : Ms) : R (List PyData) := match x, y with
  | .int i, .int j => if rngOk i j = true then ret (rngL i (j - i).toNat) m else none
  | _, _ => none
@[simp] theorem rngR_int (i j : Int) : rngR (.int i) (.int j) m = if rngOk i j = true then ret (rngL i (j - i).toNat) m else none := rfl
@[simp] theorem evI_rng1 (b : E) : evI cl (.rng1 b) ρ m = bnd (dOf (ev cl b ρ m)) fun y m => rngR (.int 0) y m := by
  rw [evI]; congr; funext y m
  unfold rngR
  cases y <;> first | rfl | simp
@[simp] theorem evI_rng2 (a b : E) : evI cl (.rng2 a b) ρ m = bnd (dOf (ev cl a ρ m)) fun x m => bnd (dOf (ev cl b ρ m)) fun y m => rngR x y m := by
  rw [evI]; rfl
@[simp] theorem evI_enum (e : E) : evI cl (.enum e) ρ m = bnd (dOf (ev cl e ρ m)) fun x m => opt ((seqOf x).map enumL) m := by rw [evI]
def kb (b : B) (fl : Fl) (m : Ms) : R Fl := match fl with
  | .nx ρ' => exB cl W b ρ' m
  | .rt v => ret (.rt v) m
@[simp] theorem kb_nx (b : B) : kb cl W b (.nx ρ) m = exB cl W b ρ m := rfl
@[simp] theorem kb_rt (b : B) (v : Val) : kb cl W b (.rt v) m = ret (.rt v) m := rfl
@[simp] theorem exB_nil : exB cl W .nil ρ m = ret (.nx ρ) m := by rw [exB]
theorem exB_cons (s : S) (b : B) : exB cl W (.cons s b) ρ m = bnd (ex cl W s ρ m) (kb cl W b) := by rw [exB]; rfl
variable (b : B)
@[simp] theorem exB_set (i : Nat) (e : E) : exB cl W (.cons (.set i e) b) ρ m = bnd (ev cl e ρ m) fun v m => exB cl W b (ρ.set i (some (.fz v))) m := by rw [exB_cons, ex, bnd_assoc]; rfl
def ownS (i : Nat) (ρ : Rho) (v : Val) (m : Ms) : R Rho := opt ((slotOf true v).map fun s => ρ.set i (some s)) m
@[simp] theorem ownS_lst (i : Nat) (l : List PyData) : ownS i ρ (.p (.list l)) m = ret (ρ.set i (some (.ol l))) m := rfl
@[simp] theorem exB_own (i : Nat) (e : E) : exB cl W (.cons (.own i e) b) ρ m = bnd (ev cl e ρ m) fun v m => bnd (ownS i ρ v m) fun ρ' m => exB cl W b ρ' m := by
  rw [exB_cons, ex, bnd_assoc]; congr; funext v m
  unfold ownS
  cases slotOf true v <;> rfl
@[simp] theorem exB_par3 (i j k : Nat) (x y z : E) : exB cl W (.cons (.par3 i j k x y z) b) ρ m = bnd (ev cl x ρ m) fun x m => bnd (ev cl y ρ m) fun y m => bnd (ev cl z ρ m) fun z m => exB cl W b (((ρ.set i (some (.fz x))).set j (some (.fz y))).set k (some (.fz z))) m := by
  rw [exB_cons, ex]; simp only [bnd_assoc]; rfl
@[simp] theorem exB_par2 (i j : Nat) (x y : E) : exB cl W (.cons (.par2 i j false false x y) b) ρ m = bnd (ev cl x ρ m) fun x m => bnd (ev cl y ρ m) fun y m => exB cl W b ((ρ.set i (some (.fz x))).set j (some (.fz y))) m := by
  rw [exB_cons, ex]; simp only [bnd_assoc]; rfl
@[simp] theorem exB_expr (e : E) : exB cl W (.cons (.expr e) b) ρ m = bnd (ev cl e ρ m) fun _ m => exB cl W b ρ m := by rw [exB_cons, ex, bnd_assoc]; rfl
@[simp] theorem exB_rt (e : E) : exB cl W (.cons (.rt e) b) ρ m = bnd (ev cl e ρ m) fun v m => ret (.rt v) m := by rw [exB_cons, ex, bnd_assoc]; rfl
@[simp] theorem exB_ite (c : E) (x y : B) : exB cl W (.cons (.ite c x y) b) ρ m = bnd (ed cl c ρ m) fun v m => br (boolOf v) (bnd (exB cl W x ρ m) (kb cl W b)) (bnd (exB cl W y ρ m) (kb cl W b)) := by
  rw [exB_cons, ex, bnd_assoc]; congr; funext v m
  unfold br
  cases boolOf v with
  | none => rfl
  | some b => cases b <;> rfl
def lturn (tg : Tg) (t : B) (x : PyData) (ρ : Rho) (m : Ms) : R Fl := match bindT tg x ρ with
  | some ρ' => exB cl W t ρ' m
  | none => none
@[simp] theorem exB_for (tg : Tg) (it : Lp) (t : B) : exB cl W (.cons (.for tg it t) b) ρ m = bnd (evI cl it ρ m) fun xs m => bnd (forGo (lturn cl W tg t) xs ρ m) (kb cl W b) := by
  rw [exB_cons, ex, bnd_assoc]; rfl
@[simp] theorem lturn_one (i : Nat) (t : B) (x : PyData) : lturn cl W (.one i) t x ρ m = exB cl W t (ρ.set i (some (.fz (.p x)))) m := rfl
@[simp] theorem lturn_two (i j : Nat) (t : B) (x y : PyData) : lturn cl W (.two i j) t (.tuple [x, y]) ρ m = exB cl W t ((ρ.set i (some (.fz (.p x)))).set j (some (.fz (.p y)))) m := rfl
@[simp] theorem turn_one (e : E) (i : Nat) (c : Oe) (x : PyData) : turn cl e (.one i) c ρ x m = bnd (evC cl c (ρ.set i (some (.fz (.p x)))) m) fun t m => if t = true then bnd (dOf (ev cl e (ρ.set i (some (.fz (.p x)))) m)) fun y m => ret (some y) m else ret none m := by
  have : (wipeR ρ [i]).set i (some (.fz (.p x))) = ρ.set i (some (.fz (.p x))) := by simp [wipeR]
  unfold turn bindT Tg.slots
  simp only [this]
def appR (x : Option (Option Slot)) (y : PyData) (m : Ms) : R (List PyData) := match x with
  | some (some (.ow (.lst l))) => if l.length < lim then ret (l ++ [y]) m else none
  | _ => none
@[simp] theorem appR_ol (l : List PyData) (y : PyData) : appR (some (some (.ol l))) y m = if l.length < lim then ret (l ++ [y]) m else none := rfl
@[simp] theorem exB_app (i : Nat) (e : E) : exB cl W (.cons (.app i e) b) ρ m = bnd (ed cl e ρ m) fun y m => bnd (appR (ρ[i]?) y m) fun l m => exB cl W b (ρ.set i (some (.ol l))) m := by
  rw [exB_cons, ex, bnd_assoc]; congr; funext y m
  generalize hq : ρ[i]? = q
  rcases q with _ | _ | s
  · rfl
  · rfl
  · cases s with
    | ow w =>
      cases w with
      | lst l =>
        show bnd (if l.length < lim then ret (Fl.nx (ρ.set i (some (Slot.ol (l ++ [y]))))) m else none) (kb cl W b) = bnd (if l.length < lim then ret (l ++ [y]) m else none) _
        split <;> rfl
      | dk _ => rfl
      | dt _ => rfl
    | fz v => rfl
    | bd v => rfl
    | raw x => rfl
def putR (x : Option (Option Slot)) (y z : PyData) (m : Ms) : R (List PyData) := match x with
  | some (some (.ow (.lst l))) => opt (putL l z y) m
  | _ => none
@[simp] theorem putR_ol (l : List PyData) (y z : PyData) : putR (some (some (.ol l))) y z m = opt (putL l z y) m := rfl
@[simp] theorem exB_put (i : Nat) (k e : E) : exB cl W (.cons (.put i k e) b) ρ m = bnd (ed cl e ρ m) fun y m => bnd (ed cl k ρ m) fun z m => bnd (putR (ρ[i]?) y z m) fun l m => exB cl W b (ρ.set i (some (.ol l))) m := by
  rw [exB_cons, ex]; simp only [bnd_assoc]; congr; funext y m; congr; funext z m
  generalize hq : ρ[i]? = q
  rcases q with _ | _ | s
  · rfl
  · rfl
  · cases s with
    | ow w =>
      cases w with
      | lst l =>
        show bnd (opt ((putL l z y).map fun l' => Fl.nx (ρ.set i (some (Slot.ol l')))) m) (kb cl W b) = bnd (opt (putL l z y) m) _
        cases putL l z y <;> rfl
      | dk _ => rfl
      | dt _ => rfl
    | fz v => rfl
    | bd v => rfl
    | raw x => rfl
theorem putL_nat {l : List PyData} {k : Nat} (hk : k < l.length) (y : PyData) : putL l (.int (k : Int)) y = some (l.set k y) := by
  have : L2.ixN l.length (k : Int) = some k := by
    unfold L2.ixN
    rw [if_pos (by omega), if_pos (by omega), Int.toNat_natCast]
  unfold putL
  simp only [this]; rfl
def augR (x : Option (Option Slot)) (f : PyData → R PyData) : R PyData := match x with
  | some (some (.fz (.p x))) => f x
  | _ => none
@[simp] theorem augR_fz (d : PyData) (f : PyData → R PyData) : augR (some (some (.fz (.p d)))) f = f d := rfl
@[simp] theorem exB_aug (i : Nat) (op : Operator) (e : E) : exB cl W (.cons (.aug i op e) b) ρ m = bnd (augR (ρ[i]?) fun x => bnd (ed cl e ρ m) fun y m => opt (augD op x y) m) fun z m => exB cl W b (ρ.set i (some (.fz (.p z)))) m := by
  rw [exB_cons, ex]
  generalize hq : ρ[i]? = q
  rcases q with _ | _ | s
  · rfl
  · rfl
  · cases s with
    | fz v =>
      cases v with
      | p x =>
        show bnd (bnd (ed cl e ρ m) fun y m => opt ((augD op x y).map fun z => Fl.nx (ρ.set i (some (.fz (.p z))))) m) (kb cl W b) = bnd (bnd (ed cl e ρ m) fun y m => opt (augD op x y) m) _
        simp only [bnd_assoc]; congr; funext y m
        cases augD op x y <;> rfl
      | drw => rfl
    | ow l => rfl
    | bd v => rfl
    | raw x => rfl
@[simp] theorem exB_whl (c : E) (t : B) : exB cl W (.cons (.whl c t) b) ρ m = bnd (whlGo (fun ρ m => bnd (ed cl c ρ m) fun x m => opt (boolOf x) m) (fun ρ m => exB cl W t ρ m) W ρ m) (kb cl W b) := by
  rw [exB_cons, ex]
end
section
variable (cl : Str → List Val → Ms → R Val) (ρ : Rho) (m : Ms) (r : R Val)
@[simp] theorem ed_eq (e : E) : ed cl e ρ m = dOf (ev cl e ρ m) := rfl
@[simp] theorem lk_cst (c : Lit) : lk (.cst c) ρ m r = dOf r := rfl
@[simp] theorem lk_glb (x : Str) (c : Lit) : lk (.glb x c) ρ m r = dOf r := rfl
@[simp] theorem lk_tup (es : Es) : lk (.tup es) ρ m r = dOf r := rfl
@[simp] theorem lk_lst (es : Es) : lk (.lst es) ρ m r = dOf r := rfl
@[simp] theorem lk_bin (o : Operator) (a b : E) : lk (.bin o a b) ρ m r = dOf r := rfl
@[simp] theorem lk_ite (c a b : E) : lk (.ite c a b) ρ m r = dOf r := rfl
@[simp] theorem lk_idx (a b : E) : lk (.idx a b) ρ m r = dOf r := rfl
@[simp] theorem lk_slc (a : E) (b c : Oe) : lk (.slc a b c) ρ m r = dOf r := rfl
@[simp] theorem lk_rev (a : E) : lk (.rev a) ρ m r = dOf r := rfl
@[simp] theorem lk_call (f : Str) (es : Es) : lk (.call f es) ρ m r = dOf r := rfl
@[simp] theorem lk_bi (b : Bi) (a : E) : lk (.bi b a) ρ m r = dOf r := rfl
@[simp] theorem lk_bi2 (b : Bi2) (a c : E) : lk (.bi2 b a c) ρ m r = dOf r := rfl
@[simp] theorem lk_rngs (b : Bool) (it : Lp) : lk (.rngs b it) ρ m r = dOf r := rfl
@[simp] theorem lk_comp (e : E) (tg : Tg) (it : Lp) (c : Oe) : lk (.comp e tg it c) ρ m r = dOf r := rfl
@[simp] theorem lk_srt (a : E) : lk (.srt a) ρ m r = dOf r := rfl
@[simp] theorem lk_lens (a : E) : lk (.lens a) ρ m r = dOf r := rfl
@[simp] theorem lk_index (a b : E) : lk (.index a b) ρ m r = dOf r := rfl
@[simp] theorem lk_cmp (o : CmpOp) (a b : E) : lk (.cmp o a b) ρ m r = dOf r := rfl
@[simp] theorem dOf_bnd' {α : Type} (x : R α) (f : α → Ms → R Val) : dOf (bnd x f) = bnd x fun a m => dOf (f a m) := dOf_bnd x f
@[simp] theorem dOf_if {c : Prop} [Decidable c] (x y : R Val) : dOf (if c then x else y) = if c then dOf x else dOf y := by split <;> rfl
@[simp] theorem bnd_none {α β : Type} (f : α → Ms → R β) : bnd none f = none := rfl
@[simp] theorem dOf_none : dOf none = none := rfl
@[simp] theorem opt_none {α : Type} : opt (none : Option α) m = none := rfl
end
theorem run_code {Γ : Str → Option Fn} {W n : Nat} {f : Str} {d : Def} {vs : List Val} {m : Ms} (h : Γ f = some (.code d)) (hl : vs.length = d.np) : run Γ W (n + 1) f vs m = bnd (exB (run Γ W n) W d.body (startR d.ns vs) m) endF := by
  unfold run
  simp only [h, if_pos hl]
section
variable {cl : Str → List Val → Ms → R Val} {W : Nat} {ρ : Rho} {m m' : Ms} {b b' : B} {Q : Fl → Ms → Prop}
theorem tw_set {i : Nat} {e : E} {v : Val} (h : ev cl e ρ m = ret v m') (k : tw (exB cl W b (ρ.set i (some (.fz v))) m') Q) : tw (exB cl W (.cons (.set i e) b) ρ m) Q := by
  rw [exB_set, h]; exact k
theorem tw_setT {i : Nat} {e : E} {P : Val → Ms → Prop} (h : tw (ev cl e ρ m) P) (k : ∀ v m', P v m' → tw (exB cl W b (ρ.set i (some (.fz v))) m') Q) : tw (exB cl W (.cons (.set i e) b) ρ m) Q := by
  rw [exB_set]; exact tw_seq h k
theorem tw_own {i : Nat} {e : E} {l : List PyData} (h : ev cl e ρ m = ret (.p (.list l)) m') (k : tw (exB cl W b (ρ.set i (some (.ol l))) m') Q) : tw (exB cl W (.cons (.own i e) b) ρ m) Q := by
  rw [exB_own, h]; exact k
theorem tw_par2 {i j : Nat} {x y : E} {u v : Val} {m'' : Ms} (h : ev cl x ρ m = ret u m') (h' : ev cl y ρ m' = ret v m'') (k : tw (exB cl W b ((ρ.set i (some (.fz u))).set j (some (.fz v))) m'') Q) : tw (exB cl W (.cons (.par2 i j false false x y) b) ρ m) Q := by
  rw [exB_par2, h, bnd_ret', h']; exact k
theorem tw_unp2T {i j : Nat} {e : E} {P : PyData → PyData → Ms → Prop} (h : tw (ev cl e ρ m) fun v m' => ∃ a b, v = .p (.tuple [a, b]) ∧ P a b m') (k : ∀ a b m', P a b m' → tw (exB cl W b' ((ρ.set i (some (.fz (.p a)))).set j (some (.fz (.p b)))) m') Q) : tw (exB cl W (.cons (.unp2 i j e) b') ρ m) Q := by
  rw [exB_cons, ex, bnd_assoc]
  refine tw_seq (P := fun d m' => ∃ x y, d = .tuple [x, y] ∧ P x y m') (tw_dOf (tw_mono h fun v m' ⟨a, b, e, q⟩ => ⟨_, e, a, b, rfl, q⟩)) fun d m' ⟨a, b, e, q⟩ => ?_
  subst e
  exact k a b m' q
theorem tw_else {c : E} {x y : B} (h : ev cl c ρ m = ret (.p (.bool false)) m') (k : tw (exB cl W y ρ m') fun fl m'' => tw (kb cl W b fl m'') Q) : tw (exB cl W (.cons (.ite c x y) b) ρ m) Q := by
  rw [exB_ite, ed_eq, h]
  show tw (bnd (exB cl W y ρ m') (kb cl W b)) Q
  exact tw_bnd.mpr k
theorem tw_then {c : E} {x y : B} (h : ev cl c ρ m = ret (.p (.bool true)) m') (k : tw (exB cl W x ρ m') fun fl m'' => tw (kb cl W b fl m'') Q) : tw (exB cl W (.cons (.ite c x y) b) ρ m) Q := by
  rw [exB_ite, ed_eq, h]
  show tw (bnd (exB cl W x ρ m') (kb cl W b)) Q
  exact tw_bnd.mpr k
theorem tw_skip {c : E} {x : B} (h : ev cl c ρ m = ret (.p (.bool false)) m') (k : tw (exB cl W b ρ m') Q) : tw (exB cl W (.cons (.ite c x .nil) b) ρ m) Q :=
  tw_else h (by rw [exB_nil]; exact tw_ret.mpr k)
theorem tw_expr {e : E} {v : Val} (h : ev cl e ρ m = ret v m') (k : tw (exB cl W b ρ m') Q) : tw (exB cl W (.cons (.expr e) b) ρ m) Q := by
  rw [exB_expr, h]; exact k
theorem tw_rt {e : E} {v : Val} (h : ev cl e ρ m = ret v m') (k : Q (.rt v) m') : tw (exB cl W (.cons (.rt e) b) ρ m) Q := by
  rw [exB_rt, h]; exact tw_ret.mpr k
theorem tw_nil (k : Q (.nx ρ) m) : tw (exB cl W .nil ρ m) Q := by rw [exB_nil]; exact tw_ret.mpr k
theorem tw_loop {tg : Tg} {it : Lp} {t : B} {xs : List PyData} (h : evI cl it ρ m = ret xs m') (I : Nat → Rho → Ms → Prop) (h0 : I 0 ρ m') (hs : ∀ i x ρ m, xs[i]? = some x → I i ρ m → tw (lturn cl W tg t x ρ m) fun fl m' => ∃ ρ', fl = .nx ρ' ∧ I (i + 1) ρ' m')
    (k : ∀ ρ' m', I xs.length ρ' m' → tw (exB cl W b ρ' m') Q) : tw (exB cl W (.cons (.for tg it t) b) ρ m) Q := by
  rw [exB_for, h, bnd_ret']
  refine tw_seq (tw_for I h0 hs) fun fl m1 ⟨ρ', e, q⟩ => ?_
  subst e
  exact k _ _ q
end
@[simp] theorem ite_ret {α : Type} {c : Prop} [Decidable c] (a b : α) (m : Ms) : (if c then ret a m else ret b m) = ret (if c then a else b) m := by split <;> rfl
@[simp] theorem ite_p {c : Prop} [Decidable c] (a b : PyData) : (if c then Val.p a else Val.p b) = Val.p (if c then a else b) := by split <;> rfl
@[simp] theorem ite_int {c : Prop} [Decidable c] (a b : Int) : (if c then PyData.int a else PyData.int b) = PyData.int (if c then a else b) := by split <;> rfl
abbrev rho0 (ns : Nat) : Rho := none :: some (.fz .drw) :: List.replicate (ns - 2) none
end G

end
section
namespace G
open PySem PySem.Spec PyProof.Rows L2
namespace P
def d_is_whole : Def := ⟨1, 1, (.cons (.rt (.and (.isi (.var 0) ["int"]) (.cons (.not (.isi (.var 0) ["bool"])) .nil))) .nil)⟩
def d_is_among : Def := ⟨3, 3, (.cons (.rt (.and (.call "is_whole" (.cons (.var 0) .nil)) (.cons (.chain .LtE .LtE (.var 1) (.var 0) (.var 2)) .nil))) .nil)⟩
def d_is_list : Def := ⟨1, 1, (.cons (.rt (.isi (.var 0) ["list", "tuple"])) .nil)⟩
def d_need_word : Def := ⟨1, 3, (.cons (.ite (.or (.not (.call "is_list" (.cons (.var 0) .nil))) (.cons (.not (.chain .LtE .LtE (.cst (.int 1)) (.bi .len (.var 0)) (.glb "MOST_LONG" (.int 24)))) .nil)) (.cons (.rse "BadWord" (.cst .non)) .nil) .nil) (.cons (.for (.two 1 2) (.enum (.var 0)) (.cons (.ite (.not (.call "is_among" (.cons (.var 2) (.cons (.cst (.int 0)) (.cons (.bin .Sub (.glb "MOST_LONG" (.int 24)) (.cst (.int 1))) .nil))))) (.cons (.rse "BadWord" (.var 1)) .nil) .nil) .nil)) .nil))⟩
def d_agrees : Def := ⟨2, 3, (.cons (.rt (.bi .all (.comp (.cmp .Eq (.idx (.var 0) (.var 2)) (.idx (.var 0) (.bin .Add (.var 2) (.var 1)))) (.one 2) (.rng1 (.bin .Sub (.bi .len (.var 0)) (.var 1))) .no))) .nil)⟩
def d_shifts_in : Def := ⟨1, 2, (.cons (.rt (.bi .tuple (.comp (.var 1) (.one 1) (.rng1 (.bi .len (.var 0))) (.yes (.call "agrees" (.cons (.var 0) (.cons (.var 1) .nil))))))) .nil)⟩
def d_shifts : Def := ⟨1, 1, (.cons (.expr (.call "need_word" (.cons (.var 0) .nil))) (.cons (.rt (.call "shifts_in" (.cons (.var 0) .nil))) .nil))⟩
def d_is_shift : Def := ⟨2, 2, (.cons (.expr (.call "need_word" (.cons (.var 0) .nil))) (.cons (.rt (.and (.call "is_among" (.cons (.var 1) (.cons (.cst (.int 0)) (.cons (.bin .Sub (.bi .len (.var 0)) (.cst (.int 1))) .nil)))) (.cons (.call "agrees" (.cons (.var 0) (.cons (.var 1) .nil))) .nil))) .nil))⟩
def d_borders : Def := ⟨1, 2, (.cons (.expr (.call "need_word" (.cons (.var 0) .nil))) (.cons (.rt (.bi .tuple (.bi .sorted (.comp (.bin .Sub (.bi .len (.var 0)) (.var 1)) (.one 1) (.val (.call "shifts_in" (.cons (.var 0) .nil))) (.yes (.cmp .Gt (.var 1) (.cst (.int 0)))))))) .nil))⟩
def d_root : Def := ⟨1, 1, (.cons (.expr (.call "need_word" (.cons (.var 0) .nil))) (.cons (.rt (.slc (.bi .tuple (.var 0)) .no (.yes (.idx (.bin .Add (.call "shifts_in" (.cons (.var 0) .nil)) (.tup (.cons (.bi .len (.var 0)) .nil))) (.cst (.int 1)))))) .nil))⟩
end P
def whole : PyData → Option Int
  | .int i => some i
  | _ => none
def among (d : PyData) (a b : Int) : Bool := match d with
  | .int i => decide (a ≤ i) && decide (i ≤ b)
  | _ => false
structure H1 (Γ : Str → Option Fn) : Prop where
  is_whole : Γ "is_whole" = some (.code P.d_is_whole)
  is_among : Γ "is_among" = some (.code P.d_is_among)
structure H2 (Γ : Str → Option Fn) : Prop extends H1 Γ where
  is_list : Γ "is_list" = some (.code P.d_is_list)
  need_word : Γ "need_word" = some (.code P.d_need_word)
structure H3 (Γ : Str → Option Fn) : Prop where
  agrees : Γ "agrees" = some (.code P.d_agrees)
  shifts_in : Γ "shifts_in" = some (.code P.d_shifts_in)
structure H4 (Γ : Str → Option Fn) : Prop extends H2 Γ, H3 Γ where
  shifts : Γ "shifts" = some (.code P.d_shifts)
  is_shift : Γ "is_shift" = some (.code P.d_is_shift)
  borders : Γ "borders" = some (.code P.d_borders)
  root : Γ "root" = some (.code P.d_root)
section
variable {Γ : Str → Option Fn} {W n : Nat} {m : Ms}
theorem run_is_whole (h : H1 Γ) (d : PyData) : run Γ W (n + 1) "is_whole" [.p d] m = ret (.p (.bool (whole d).isSome)) m := by
  rw [run_code h.is_whole rfl]
  cases d <;> simp [P.d_is_whole, startR, tyD, isTy, whole] <;> rfl
theorem run_is_among (h : H1 Γ) (d : PyData) (a b : Int) : run Γ W (n + 2) "is_among" [.p d, .p (.int a), .p (.int b)] m = ret (.p (.bool (among d a b))) m := by
  rw [run_code h.is_among rfl]
  cases d <;> simp [P.d_is_among, startR, run_is_whole h, whole, among, cmpD]
  rename_i i
  by_cases q : a ≤ i <;> simp [q]
def isLst : PyData → Bool
  | .list _ | .tuple _ => true
  | _ => false
theorem run_is_list (h : H2 Γ) (d : PyData) : run Γ W (n + 1) "is_list" [.p d] m = ret (.p (.bool (isLst d))) m := by
  rw [run_code h.is_list rfl]
  cases d <;> simp [P.d_is_list, startR, tyD, isTy, isLst]
def enumK (k : Nat) : List PyData → List PyData
  | [] => []
  | x :: xs => .tuple [.int (k : Int), x] :: enumK (k + 1) xs
theorem enumK_eq : ∀ (xs : List PyData) (k : Nat), enumK k xs = (List.range' k xs.length).zipWith (fun (i : Nat) x => PyData.tuple [.int (i : Int), x]) xs
  | [], _ => rfl
  | x :: xs, k => by rw [enumK, enumK_eq xs (k + 1), List.length_cons, List.range'_succ]; rfl
theorem enumL_eq (xs : List PyData) : enumL xs = enumK 0 xs := by rw [enumK_eq, enumL, List.range_eq_range']
def firstBad (a b : Int) (k : Nat) : List PyData → Option Nat
  | [] => none
  | x :: xs => if among x a b = true then firstBad a b (k + 1) xs else some k
def wordBad : PyData → Option PyData
  | .list l => if 1 ≤ l.length ∧ l.length ≤ 24 then (firstBad 0 23 0 l).map fun (k : Nat) => PyData.int (k : Int) else some .none
  | .tuple l => if 1 ≤ l.length ∧ l.length ≤ 24 then (firstBad 0 23 0 l).map fun (k : Nat) => PyData.int (k : Int) else some .none
  | _ => some .none
def orBad (c : Str) (m : Ms) : Option PyData → R Val
  | none => ret (.p .none) m
  | some v => some (.exc c v, m)
@[simp] theorem orBad_none (c : Str) (m : Ms) : orBad c m none = ret (.p .none) m := rfl
@[simp] theorem orBad_some (c : Str) (m : Ms) (v : PyData) : orBad c m (some v) = some (.exc c v, m) := rfl
@[simp] theorem exB_rse (cl : Str → List Val → Ms → R Val) (W : Nat) (ρ : Rho) (m : Ms) (c : Str) (e : E) (b : B) : exB cl W (.cons (.rse c e) b) ρ m = bnd (ed cl e ρ m) fun v m => some (.exc c v, m) := by
  rw [exB_cons, ex, bnd_assoc]; rfl
@[simp] theorem bnd_exc {α β : Type} (c : Str) (v : PyData) (m : Ms) (f : α → Ms → R β) : bnd (some (.exc c v, m)) f = some (.exc c v, m) := rfl
theorem need_loop (h : H1 Γ) (w : Slot) : ∀ (xs : List PyData) (k : Nat) (a b : Option Slot),
    bnd (bnd (forGo (lturn (run Γ W (n + 2)) W (.two 1 2) (.cons (.ite (.not (.call "is_among" (.cons (.var 2) (.cons (.cst (.int 0)) (.cons (.bin .Sub (.glb "MOST_LONG" (.int 24)) (.cst (.int 1))) .nil))))) (.cons (.rse "BadWord" (.var 1)) .nil) .nil) .nil)) (enumK k xs) [some w, a, b] m) (kb (run Γ W (n + 2)) W .nil)) endF
      = orBad "BadWord" m ((firstBad 0 23 k xs).map fun (k : Nat) => PyData.int (k : Int))
  | [], k, a, b => by simp [enumK, forGo, firstBad]
  | x :: xs, k, a, b => by
    have ih := need_loop h w xs (k + 1)
    rw [enumK, forGo, firstBad]
    cases q : among x 0 23 <;> simp [binD, run_is_among h, q]
    simpa using ih _ _
theorem run_need_word (h : H2 Γ) (d : PyData) : run Γ W (n + 3) "need_word" [.p d] m = orBad "BadWord" m (wordBad d) := by
  rw [run_code h.need_word rfl]
  have key : ∀ (b : Bool) (l : List PyData), bnd (exB (run Γ W (n + 2)) W P.d_need_word.body (startR 3 [.p (sq b l)]) m) endF = orBad "BadWord" m (if 1 ≤ l.length ∧ l.length ≤ 24 then (firstBad 0 23 0 l).map fun (k : Nat) => PyData.int (k : Int) else some .none) := by
    intro b l
    have e1 : isLst (sq b l) = true := by cases b <;> rfl
    have e2 : biD .len (sq b l) = some (.int l.length) := by cases b <;> rfl
    have e3 : seqOf (sq b l) = some l := by cases b <;> rfl
    have := need_loop (W := W) (n := n) (m := m) h.toH1 (.fz (.p (sq b l))) l 0 none none
    by_cases q1 : 1 ≤ l.length
    · by_cases q2 : l.length ≤ 24
      · have z1 : (1 : Int) ≤ (l.length : Int) := by omega
        have z2 : (l.length : Int) ≤ 24 := by omega
        simp [P.d_need_word, startR, run_is_list h, e1, e2, e3, cmpD, enumL_eq, z1, z2, q1, q2]
        simpa using this
      · have z1 : (1 : Int) ≤ (l.length : Int) := by omega
        have z2 : ¬ (l.length : Int) ≤ 24 := by omega
        simp [P.d_need_word, startR, run_is_list h, e1, e2, e3, cmpD, enumL_eq, z1, z2, q1, q2]
    · have z1 : ¬ (1 : Int) ≤ (l.length : Int) := by omega
      simp [P.d_need_word, startR, run_is_list h, e1, e2, e3, cmpD, enumL_eq, z1, q1]
  cases d with
  | list l => exact key false l
  | tuple l => exact key true l
  | _ => simp [P.d_need_word, startR, run_is_list h, isLst, wordBad]
theorem idx_sq (b : Bool) (w : List Int) (i : Nat) (h : i < w.length) : idxD (sq b (w.map .int)) (.int (i : Int)) = some (.int (w.getD i 0)) := by
  have e : atI (w.map PyData.int) (i : Int) = some (.int (w.getD i 0)) := L2.atI_nat (by simp [h])
  cases b <;> exact e
@[simp] theorem len_sq (b : Bool) (l : List PyData) : biD .len (sq b l) = some (.int l.length) := by cases b <;> rfl
@[simp] theorem seq_sq (b : Bool) (l : List PyData) : seqOf (sq b l) = some l := by cases b <;> rfl
@[simp] theorem tup_sq (b : Bool) (l : List PyData) : biD .tuple (sq b l) = some (.tuple l) := by cases b <;> rfl
@[simp] theorem lst_sq (b : Bool) (l : List PyData) : biD .list (sq b l) = some (.list l) := by cases b <;> rfl
def agr (w : List Int) (s : Nat) : Bool := (List.range (w.length - s)).all fun i => decide (w.getD i 0 = w.getD (i + s) 0)
def shfs (w : List Int) : List Nat := (List.range w.length).filter (agr w)
theorem run_agrees (h : H3 Γ) (b : Bool) {w : List Int} {s : Nat} (hw : w.length ≤ 1000) (hs : s ≤ w.length) : run Γ W (n + 1) "agrees" [.p (sq b (w.map .int)), .p (.int (s : Int))] m = ret (.p (.bool (agr w s))) m := by
  rw [run_code h.agrees rfl]
  have e1 : rngOk 0 ((w.length : Int) - (s : Int)) = true := by
    unfold rngOk; rw [decide_eq_true_eq]; omega
  have e2 : ((w.length : Int) - (s : Int)).toNat = w.length - s := by omega
  have e3 : w.length - s ≤ lim := by unfold lim; omega
  simp [P.d_agrees, startR, binD, e1, e2, e3, rngL_zero]
  rw [compGo_all (fun i : Nat => PyData.bool (decide (w.getD i 0 = w.getD (i + s) 0))) (fun i hi => ?_)]
  · simp [biD, agr, List.all_map]
  · have hi : i < w.length - s := by simpa using hi
    have q1 := idx_sq b w i (by omega)
    have q2 := idx_sq b w (i + s) (by omega)
    rw [Int.natCast_add] at q2
    simp [q1, q2, binD, cmpD]
theorem run_shifts_in (h : H3 Γ) (b : Bool) {w : List Int} (hw : w.length ≤ 1000) : run Γ W (n + 2) "shifts_in" [.p (sq b (w.map .int))] m = ret (.p (tN (shfs w))) m := by
  rw [run_code h.shifts_in rfl]
  have e1 : rngOk 0 (w.length : Int) = true := by
    unfold rngOk; rw [decide_eq_true_eq]; omega
  have e3 : w.length ≤ lim := by unfold lim; omega
  simp [P.d_shifts_in, startR, binD, e1, e3, rngL_zero]
  rw [compGo_sel (agr w) (fun i : Nat => PyData.int (i : Int)) (fun i hi => ?_)]
  · simp [biD, shfs]
  · have hi : i < w.length := by simpa using hi
    simp [run_agrees h b hw (Nat.le_of_lt hi)]
def Word (w : List Int) : Prop := 1 ≤ w.length ∧ w.length ≤ 24 ∧ ∀ x ∈ w, 0 ≤ x ∧ x ≤ 23
theorem firstBad_ok {a b : Int} : ∀ {w : List Int} {k : Nat}, (∀ x ∈ w, a ≤ x ∧ x ≤ b) → firstBad a b k (w.map .int) = none
  | [], _, _ => rfl
  | x :: w, k, h => by
    have h1 := h x (by simp)
    rw [List.map_cons, firstBad, if_pos (by simp [among, h1])]
    exact firstBad_ok fun y hy => h y (by simp [hy])
theorem wordBad_ok {w : List Int} (h : Word w) (b : Bool) : wordBad (sq b (w.map .int)) = none := by
  have e := firstBad_ok (a := 0) (b := 23) (k := 0) h.2.2
  cases b <;> simp [wordBad, h.1, h.2.1, e]
theorem run_shifts (h : H4 Γ) (b : Bool) {w : List Int} (hw : Word w) : run Γ W (n + 4) "shifts" [.p (sq b (w.map .int))] m = ret (.p (tN (shfs w))) m := by
  rw [run_code h.shifts rfl]
  simp [P.d_shifts, startR, run_need_word h.toH2, wordBad_ok hw, run_shifts_in h.toH3 b (show w.length ≤ 1000 by have := hw.2.1; omega)]
theorem run_is_shift (h : H4 Γ) (b : Bool) {w : List Int} (hw : Word w) (d : PyData) : run Γ W (n + 4) "is_shift" [.p (sq b (w.map .int)), .p d] m = ret (.p (.bool (among d 0 ((w.length : Int) - 1) && (match d with | .int i => agr w i.toNat | _ => false)))) m := by
  rw [run_code h.is_shift rfl]
  simp [P.d_is_shift, startR, run_need_word h.toH2, wordBad_ok hw, run_is_among h.toH1, binD]
  cases q : among d 0 ((w.length : Int) - 1)
  · simp
  · cases d with
    | int i =>
      simp [among] at q
      obtain ⟨k, rfl⟩ := Int.eq_ofNat_of_zero_le q.1
      have := hw.2.1
      simp [run_agrees h.toH3 b (show w.length ≤ 1000 by omega) (show k ≤ w.length by omega)]
    | _ => simp [among] at q
theorem run_borders (h : H4 Γ) (b : Bool) {w : List Int} (hw : Word w) : run Γ W (n + 4) "borders" [.p (sq b (w.map .int))] m = ret (.p (tI (sortI (((shfs w).filter fun s => decide (0 < s)).map fun (s : Nat) => (w.length : Int) - (s : Int))))) m := by
  rw [run_code h.borders rfl]
  have hl : w.length ≤ 1000 := by have := hw.2.1; omega
  have e3 : (shfs w).length ≤ lim := Nat.le_trans (List.length_filter_le _ _) (by unfold lim; simp; omega)
  simp [P.d_borders, startR, run_need_word h.toH2, wordBad_ok hw, run_shifts_in h.toH3 b hl, e3]
  rw [compGo_sel (fun s : Nat => decide (0 < s)) (fun (s : Nat) => PyData.int ((w.length : Int) - (s : Int))) (fun i hi => ?_)]
  · simp [biD]
  · simp [cmpD, binD]
theorem run_root (h : H4 Γ) (b : Bool) {w : List Int} (hw : Word w) : run Γ W (n + 4) "root" [.p (sq b (w.map .int))] m = ret (.p (tI (w.take ((shfs w ++ [w.length]).getD 1 0)))) m := by
  rw [run_code h.root rfl]
  have hl : w.length ≤ 1000 := by have := hw.2.1; omega
  have hne : atI ((shfs w).map (fun (n : Nat) => PyData.int (n : Int)) ++ [.int (w.length : Int)]) 1 = some (.int ((shfs w ++ [w.length]).getD 1 0 : Nat)) := by
    have e1 : (shfs w).map (fun (n : Nat) => PyData.int (n : Int)) ++ [.int (w.length : Int)] = (shfs w ++ [w.length]).map fun (n : Nat) => PyData.int (n : Int) := by simp
    have e2 : 1 < (shfs w ++ [w.length]).length := by
      have : 0 ∈ shfs w := by
        have := hw.1
        simp [shfs, agr]; omega
      have := List.length_pos_of_mem this
      simp; omega
    rw [e1, show (1 : Int) = ((1 : Nat) : Int) from rfl, at_nat, List.getElem?_map, List.getElem?_eq_getElem e2]
    simp [List.getElem?_eq_getElem e2]
  have e3 : (shfs w).length + 1 ≤ lim := Nat.le_trans (Nat.succ_le_succ (List.length_filter_le _ _)) (by unfold lim; simp; omega)
  simp [P.d_root, startR, run_need_word h.toH2, wordBad_ok hw, run_shifts_in h.toH3 b hl, e3, show 1 ≤ lim by decide, hne, cut_to]
  rw [← List.map_take]
def perd (w : List Int) : Nat := (shfs w ++ [w.length]).getD 1 0
theorem shfs_pair (w : List Int) : (shfs w).Pairwise (· < ·) := List.Pairwise.filter _ List.pairwise_lt_range
theorem shfs_lt {w : List Int} {s : Nat} (h : s ∈ shfs w) : s < w.length := by simpa using (List.mem_filter.mp h).1
theorem shfs_agr {w : List Int} {s : Nat} (h : s ∈ shfs w) : agr w s = true := (List.mem_filter.mp h).2
theorem agr_zero (w : List Int) : agr w 0 = true := by simp [agr]
theorem agr_len (w : List Int) : agr w w.length = true := by simp [agr]
theorem shfs_zero {w : List Int} (h : 0 < w.length) : 0 ∈ shfs w := List.mem_filter.mpr ⟨by simpa using h, agr_zero w⟩
theorem perd_ok {w : List Int} (h : 0 < w.length) : 0 < perd w ∧ perd w ≤ w.length ∧ agr w (perd w) = true ∧ (1 < (shfs w).length → (shfs w)[1]? = some (perd w)) ∧ ((shfs w).length ≤ 1 → perd w = w.length) := by
  have z := List.length_pos_of_mem (shfs_zero h)
  by_cases q : 1 < (shfs w).length
  · have e : perd w = (shfs w)[1] := by
      unfold perd
      rw [List.getD_eq_getElem?_getD, List.getElem?_append_left q, List.getElem?_eq_getElem q]; rfl
    have m : perd w ∈ shfs w := by rw [e]; exact List.getElem_mem q
    have lt := List.pairwise_iff_getElem.mp (shfs_pair w) 0 1 z q (by decide)
    exact ⟨by omega, Nat.le_of_lt (shfs_lt m), shfs_agr m, fun _ => by rw [e, List.getElem?_eq_getElem q], fun h => by omega⟩
  · have e : perd w = w.length := by
      unfold perd
      rw [List.getD_eq_getElem?_getD, List.getElem?_append_right (by omega), show 1 - (shfs w).length = 0 by omega]; rfl
    exact ⟨by omega, by omega, by rw [e]; exact agr_len w, fun h => absurd h q, fun _ => e⟩
theorem agr_get {w : List Int} {s i : Nat} (h : agr w s = true) (hi : i + s < w.length) : w.getD (i + s) 0 = w.getD i 0 := by
  unfold agr at h
  rw [List.all_eq_true] at h
  have := h i (by simp; omega)
  exact (of_decide_eq_true this).symm
theorem agr_mod {w : List Int} {s : Nat} (h : agr w s = true) (hs : 0 < s) : ∀ i, i < w.length → w.getD (i % s) 0 = w.getD i 0 := by
  intro i
  induction i using Nat.strongRecOn with
  | _ i ih =>
    intro hi
    by_cases q : i < s
    · rw [Nat.mod_eq_of_lt q]
    · have e := ih (i - s) (by omega) (by omega)
      rw [Nat.mod_eq_sub_mod (by omega), e]
      have := agr_get h (i := i - s) (by omega)
      rw [← this]; congr 1; omega
end
end G

end
section
set_option maxHeartbeats 4000000
namespace G
open PySem PySem.Spec PyProof.Rows L2
namespace P
def d_lword : Def := ⟨2, 10, (.cons (.par3 5 6 7 (.bin .Add (.cst (.int 1)) (.call "_law_draw" (.cons (.var 0) (.cons (.var 1) .nil)))) (.call "_law_draw" (.cons (.var 0) (.cons (.cst (.int 5)) .nil))) (.bin .Add (.cst (.int 1)) (.call "_law_draw" (.cons (.var 0) (.cons (.cst (.int 3)) .nil))))) (.cons (.ite (.cmp .Eq (.var 6) (.cst (.int 0))) (.cons (.rt (.bi .tuple (.comp (.call "_law_draw" (.cons (.var 0) (.cons (.cst (.int 24)) .nil))) (.one 9) (.rng1 (.var 5)) .no))) .nil) .nil) (.cons (.ite (.cmp .Eq (.var 6) (.cst (.int 1))) (.cons (.rt (.bi .tuple (.comp (.call "_law_draw" (.cons (.var 0) (.cons (.var 7) .nil))) (.one 9) (.rng1 (.var 5)) .no))) .nil) .nil) (.cons (.set 2 (.bin .Add (.cst (.int 1)) (.call "_law_draw" (.cons (.var 0) (.cons (.var 5) .nil))))) (.cons (.set 3 (.comp (.call "_law_draw" (.cons (.var 0) (.cons (.var 7) .nil))) (.one 9) (.rng1 (.var 2)) .no)) (.cons (.own 4 (.comp (.idx (.var 3) (.bin .Mod (.bi .int (.var 9)) (.var 2))) (.one 9) (.rng1 (.var 5)) .no)) (.cons (.ite (.cmp .Eq (.var 6) (.cst (.int 3))) (.cons (.put 4 (.call "_law_draw" (.cons (.var 0) (.cons (.var 5) .nil))) (.call "_law_draw" (.cons (.var 0) (.cons (.bin .Add (.var 7) (.cst (.int 1))) .nil)))) .nil) .nil) (.cons (.ite (.cmp .Eq (.var 6) (.cst (.int 4))) (.cons (.set 8 (.call "_law_draw" (.cons (.var 0) (.cons (.bin .Add (.var 5) (.cst (.int 1))) .nil)))) (.cons (.own 4 (.comp (.call "_law_draw" (.cons (.var 0) (.cons (.var 7) .nil))) (.one 9) (.rng1 (.var 5)) .no)) (.cons (.for (.one 9) (.rng1 (.var 8)) (.cons (.put 4 (.bin .Add (.bin .Sub (.var 5) (.var 8)) (.var 9)) (.idx (.var 4) (.var 9))) .nil)) .nil))) .nil) (.cons (.rt (.bi .tuple (.var 4))) .nil)))))))))⟩
def d_lshifts : Def := ⟨1, 2, (.cons (.rt (.bi .tuple (.comp (.var 1) (.one 1) (.rng1 (.bi .len (.var 0))) (.yes (.cmp .Eq (.bi .list (.slc (.var 0) (.yes (.var 1)) .no)) (.bi .list (.slc (.var 0) .no (.yes (.bin .Sub (.bi .len (.var 0)) (.var 1)))))))))) .nil)⟩
end P
def Dr (k : Nat) (m : Ms) : Prop := ∃ d : DS, m = some d ∧ d.spot ≤ k
theorem Dr.mono {j k : Nat} {m : Ms} (h : Dr j m) (q : j ≤ k) : Dr k m := let ⟨d, e, z⟩ := h; ⟨d, e, Nat.le_trans z q⟩
def isI (l u : Int) (d : PyData) : Prop := ∃ i, d = .int i ∧ l ≤ i ∧ i < u
theorem ints_of {l u : Int} : ∀ {ys : List PyData}, (∀ y ∈ ys, isI l u y) → ∃ w : List Int, ys = w.map .int ∧ ∀ x ∈ w, l ≤ x ∧ x < u
  | [], _ => ⟨[], rfl, fun _ h => nomatch h⟩
  | y :: ys, h => by
    obtain ⟨i, e, q⟩ := h y (by simp)
    obtain ⟨w, e2, q2⟩ := ints_of (ys := ys) fun z hz => h z (by simp [hz])
    refine ⟨i :: w, by rw [e, e2]; rfl, fun x hx => ?_⟩
    rcases List.mem_cons.mp hx with rfl | hx
    · exact q
    · exact q2 x hx
section
variable {Γ : Str → Option Fn} {W n : Nat} {m : Ms}
theorem tw_draw (h : Γ "_law_draw" = some .draw) {l : Int} {k : Nat} (h0 : 0 < l) (h1 : l < 1073741824) (hk : k < 2 ^ 40) (hd : Dr k m) {Q : Val → Ms → Prop} (q : ∀ i m', 0 ≤ i → i < l → Dr (k + 1) m' → Q (.p (.int i)) m') : tw (run Γ W (n + 3) "_law_draw" [.drw, .p (.int l)] m) Q := by
  obtain ⟨d, rfl, hs⟩ := hd
  have e : run Γ W (n + 3) "_law_draw" [.drw, .p (.int l)] (some d) = drawR (some d) l := by
    unfold run
    simp only [h]
  rw [e]
  show tw (if 0 < l ∧ l < 1073741824 ∧ d.spot < 2 ^ 40 then ret (Val.p (PyData.int (drawF d l).1)) (some (drawF d l).2) else none) Q
  rw [if_pos ⟨h0, h1, by omega⟩]
  refine tw_ret.mpr ?_
  have hsp : (drawF d l).2.spot = d.spot + 1 := by
    unfold drawF
    dsimp only
    split
    · rfl
    · split <;> rfl
  have hb : 0 ≤ (drawF d l).1 ∧ (drawF d l).1 < l := by
    unfold drawF
    dsimp only
    split
    · exact ⟨Int.emod_nonneg _ (by omega), Int.emod_lt_of_pos _ h0⟩
    · split
      · exact ⟨Int.emod_nonneg _ (by omega), Int.emod_lt_of_pos _ h0⟩
      · exact ⟨Int.emod_nonneg _ (by omega), Int.emod_lt_of_pos _ h0⟩
  exact q _ _ hb.1 hb.2 ⟨_, rfl, by omega⟩
theorem rngOk_of {i j : Int} (h : -1000000 ≤ i ∧ i ≤ 1000000 ∧ -1000000 ≤ j ∧ j ≤ 1000000) : rngOk i j = true := by
  unfold rngOk; rw [decide_eq_true_eq]; exact h
theorem tw_draws (h : Γ "_law_draw" = some .draw) {ρ : Rho} {a : E} {i j k : Nat} {l : Int} (e0 : ∀ x : PyData, (ρ.set j (some (.fz (.p x))))[i]? = some (some (.fz .drw))) (ea : ∀ (x : PyData) (m : Ms), ev (run Γ W (n + 3)) a (ρ.set j (some (.fz (.p x)))) m = ret (.p (.int l)) m) (h0 : 0 < l) (h1 : l < 1073741824)
    (xs : List PyData) (hk : k + xs.length < 2 ^ 40) (hd : Dr k m) {Q : List PyData → Ms → Prop} (q : ∀ (w : List Int) m', w.length = xs.length → (∀ x ∈ w, 0 ≤ x ∧ x < l) → Dr (k + xs.length) m' → Q (w.map .int) m') :
    tw (compGo (turn (run Γ W (n + 3)) (.call "_law_draw" (.cons (.var i) (.cons a .nil))) (.one j) .no ρ) xs m) Q := by
  have key : ∀ (xs : List PyData) (k : Nat) (m : Ms), k + xs.length < 2 ^ 40 → Dr k m → tw (compGo (turn (run Γ W (n + 3)) (.call "_law_draw" (.cons (.var i) (.cons a .nil))) (.one j) .no ρ) xs m) fun ys m' => (ys.length = xs.length ∧ ∀ y ∈ ys, isI 0 l y) ∧ Dr (k + xs.length) m' := by
    intro xs
    induction xs with
    | nil => intro k m _ hd; exact tw_ret.mpr ⟨⟨rfl, fun _ h => nomatch h⟩, hd⟩
    | cons x xs ih =>
      intro k m hk hd
      rw [List.length_cons] at hk
      rw [compGo]
      simp only [turn_one, evC_no, bnd_ret', if_true, ev_call, eva_cons, eva_nil, ev_vr, e0, varR_fz, ea, dOf_bnd', bnd_assoc]
      refine tw_seq (P := fun y m' => isI 0 l y ∧ Dr (k + 1) m') (tw_dOf (tw_draw h h0 h1 (by omega) hd fun i m' a1 a2 a3 => ⟨_, rfl, ⟨i, rfl, a1, a2⟩, a3⟩)) fun y m1 ⟨p, i1⟩ => ?_
      refine tw_seq (ih (k + 1) m1 (by omega) i1) fun ys m2 ⟨⟨h3, h4⟩, h5⟩ => tw_ret.mpr ⟨⟨by simp [h3], ?_⟩, by rw [List.length_cons, show k + (xs.length + 1) = k + 1 + xs.length by omega]; exact h5⟩
      intro z hz
      rcases List.mem_cons.mp hz with rfl | hz
      · exact p
      · exact h4 _ hz
  refine tw_mono (key xs k m hk hd) fun ys m' ⟨⟨h3, h4⟩, h5⟩ => ?_
  obtain ⟨w, rfl, h6⟩ := ints_of h4
  exact q w m' (by simpa using h3) h6 h5
theorem tw_lword (h : Γ "_law_draw" = some .draw) (hw : Γ "_law_word" = some (.code P.d_lword)) {most k : Nat} (h0 : 1 ≤ most) (h1 : most ≤ 1000) (hk : k < 1000000) (hd : Dr k m) {Q : Val → Ms → Prop}
    (q : ∀ (w : List Int) m', 1 ≤ w.length → w.length ≤ most → (∀ x ∈ w, 0 ≤ x ∧ x ≤ 23) → Dr (k + 4000) m' → Q (.p (tI w)) m') : tw (run Γ W (n + 4) "_law_word" [.drw, .p (.int (most : Int))] m) Q := by
  rw [run_code hw rfl]
  simp only [P.d_lword, startR, List.length_cons, List.length_nil, List.map_cons, List.map_nil, exB_par3, ev_bnr, ev_call, ev_cst, eva_cons, eva_nil, bnd_assoc, ev_vr, lit_int, dOf_r, bnd_ret', dOf_bnd']
  simp
  refine tw_seq (P := fun y m' => isI 0 most y ∧ Dr (k + 1) m') (tw_dOf (tw_draw h (by omega) (by omega) (by omega) hd fun i m' a1 a2 a3 => ⟨_, rfl, ⟨i, rfl, a1, a2⟩, a3⟩)) fun y m1 ⟨⟨i, e, p1, p2⟩, i1⟩ => ?_
  subst e
  simp
  refine tw_seq (P := fun y m' => (∃ i, y = .p (.int i) ∧ 0 ≤ i ∧ i < 5) ∧ Dr (k + 2) m') (tw_draw h (by omega) (by omega) (by omega) i1 fun i m' a1 a2 a3 => ⟨⟨i, rfl, a1, a2⟩, a3⟩) fun y m2 ⟨⟨way, e, p3, p4⟩, i2⟩ => ?_
  subst e
  simp
  refine tw_seq (P := fun y m' => isI 0 3 y ∧ Dr (k + 3) m') (tw_dOf (tw_draw h (by omega) (by omega) (by omega) i2 fun i m' a1 a2 a3 => ⟨_, rfl, ⟨i, rfl, a1, a2⟩, a3⟩)) fun y m3 ⟨⟨few, e, p5, p6⟩, i3⟩ => ?_
  subst e
  obtain ⟨many, hm, b1, b2⟩ : ∃ many : Nat, 1 + i = (many : Int) ∧ 1 ≤ many ∧ many ≤ most := ⟨(1 + i).toNat, by omega, by omega, by omega⟩
  obtain ⟨fw, hf, b3, b4⟩ : ∃ fw : Nat, 1 + few = (fw : Int) ∧ 1 ≤ fw ∧ fw ≤ 3 := ⟨(1 + few).toNat, by omega, by omega, by omega⟩
  have e2 : rngOk 0 (many : Int) = true := rngOk_of (by omega)
  have e3 : many ≤ lim := by unfold lim; omega
  have tl : ∀ (w : List Int) m', w.length = many → (∀ x ∈ w, 0 ≤ x ∧ x < 24) → Dr (k + 4000) m' → Q (.p (tI w)) m' := fun w m' a1 a2 a3 => q w m' (by omega) (by omega) (fun x hx => by have := a2 x hx; omega) a3
  simp [hm, hf, e2, e3]
  split
  · refine tw_seq (tw_draws h (l := 24) (k := k + 3) (by intros; rfl) (by intros; simp) (by omega) (by omega) (rngL 0 many) (by simp; omega) i3 (Q := fun ys m' => ∃ w : List Int, ys = w.map .int ∧ w.length = many ∧ (∀ x ∈ w, 0 ≤ x ∧ x < 24) ∧ Dr (k + 4000) m') fun w m' a1 a2 a3 => ⟨w, rfl, by simpa using a1, a2, a3.mono (by simp; omega)⟩) fun ys m' ⟨w, e, a1, a2, a3⟩ => ?_
    subst e
    exact tw_ret.mpr (tl w m' a1 a2 a3)
  · split
    · refine tw_seq (tw_draws h (l := (fw : Int)) (k := k + 3) (by intros; rfl) (by intros; simp) (by omega) (by omega) (rngL 0 many) (by simp; omega) i3 (Q := fun ys m' => ∃ w : List Int, ys = w.map .int ∧ w.length = many ∧ (∀ x ∈ w, 0 ≤ x ∧ x < fw) ∧ Dr (k + 4000) m') fun w m' a1 a2 a3 => ⟨w, rfl, by simpa using a1, a2, a3.mono (by simp; omega)⟩) fun ys m' ⟨w, e, a1, a2, a3⟩ => ?_
      subst e
      exact tw_ret.mpr (tl w m' a1 (fun x hx => by have := a2 x hx; omega) a3)
    · refine tw_seq (P := fun y m' => (∃ i : Nat, y = .int i ∧ i < many) ∧ Dr (k + 4) m') (tw_dOf (tw_draw h (by omega) (by omega) (by omega) i3 fun i m' a1 a2 a3 => ⟨_, rfl, ⟨i.toNat, by rw [Int.toNat_of_nonneg a1], by omega⟩, a3⟩)) fun y m4 ⟨⟨sz0, e, p7⟩, i4⟩ => ?_
      subst e
      obtain ⟨sz, hz, b5, b6⟩ : ∃ sz : Nat, 1 + (sz0 : Int) = (sz : Int) ∧ 1 ≤ sz ∧ sz ≤ many := ⟨1 + sz0, by omega, by omega, by omega⟩
      have f2 : rngOk 0 (sz : Int) = true := rngOk_of (by omega)
      have f3 : sz ≤ lim := by unfold lim; omega
      simp [hz, f2, f3, e2, e3]
      refine tw_seq (tw_draws h (l := (fw : Int)) (k := k + 4) (by intros; rfl) (by intros; simp) (by omega) (by omega) (rngL 0 sz) (by simp; omega) i4 (Q := fun ys m' => ∃ w : List Int, ys = w.map .int ∧ w.length = sz ∧ (∀ x ∈ w, 0 ≤ x ∧ x < fw) ∧ Dr (k + 1010) m') fun w m' a1 a2 a3 => ⟨w, rfl, by simpa using a1, a2, a3.mono (by simp; omega)⟩) fun ys m5 ⟨part, e, a1, a2, a3⟩ => ?_
      subst e
      rw [rngL_zero, compGo_all (fun i : Nat => PyData.int (part.getD (i % sz) 0)) (fun i hi => ?_)]
      rotate_left
      · have z0 : (0 : Int) < (sz : Int) := by omega
        have z1 : (i : Int) % (sz : Int) = ((i % sz : Nat) : Int) := by rw [Int.natCast_emod]
        have z2 : i % sz < part.length := by rw [a1]; exact Nat.mod_lt _ (by omega)
        have z3 : L2.atI (part.map PyData.int) ((i : Int) % (sz : Int)) = some (.int (part.getD (i % sz) 0)) := by
          rw [z1, at_nat]; simp [z2]
        rw [turn_one]
        simp only [evC_no, bnd_ret', if_true, ev_ix, lk_var, List.getElem?_cons_succ, List.getElem?_cons_zero, List.set_cons_succ, List.set_cons_zero, lkR_fz, ev_bnr, ev_blt, ev_vr, varR_fz, bi_int, Option.map_some, opt_s, dOf_r, bin_mod, if_pos z0, idx_l, z3]
      obtain ⟨w0, hw0, hl0, hr0⟩ : ∃ w0 : List Int, (List.range many).map (fun i : Nat => PyData.int (part.getD (i % sz) 0)) = w0.map .int ∧ w0.length = many ∧ ∀ x ∈ w0, 0 ≤ x ∧ x < fw := by
        refine ⟨(List.range many).map fun i => part.getD (i % sz) 0, by simp, by simp, fun x hx => ?_⟩
        obtain ⟨i, hi, rfl⟩ := List.mem_map.mp hx
        have z2 : i % sz < part.length := by rw [a1]; exact Nat.mod_lt _ (by omega)
        simp [z2]
        exact a2 _ (List.getElem_mem z2)
      rw [hw0, bnd_ret']
      split
      · refine tw_seq (P := fun y m' => isI 0 (fw + 1) y ∧ Dr (k + 1011) m') (tw_dOf (tw_draw h (by omega) (by omega) (by omega) a3 fun i m' a1 a2 a3 => ⟨_, rfl, ⟨i, rfl, a1, a2⟩, a3⟩)) fun y m6 ⟨⟨v, e, c1, c2⟩, i6⟩ => ?_
        subst e
        refine tw_seq (P := fun y m' => (∃ i : Nat, y = .int i ∧ i < many) ∧ Dr (k + 1012) m') (tw_dOf (tw_draw h (by omega) (by omega) (by omega) i6 fun i m' a1 a2 a3 => ⟨_, rfl, ⟨i.toNat, by rw [Int.toNat_of_nonneg a1], by omega⟩, a3⟩)) fun y m7 ⟨⟨pl, e, p8⟩, i7⟩ => ?_
        subst e
        have r3 : putL (w0.map PyData.int) (.int (pl : Int)) (.int v) = some ((w0.set pl v).map .int) := by rw [putL_nat (by simp; omega), List.map_set]
        rename_i hway
        rw [r3, opt_s, bnd_ret', if_neg (by omega)]
        refine tw_ret.mpr ?_
        refine tl _ _ (by simpa using hl0) (fun x hx => ?_) (i7.mono (by omega))
        rcases List.mem_or_eq_of_mem_set hx with hx | rfl
        · have := hr0 x hx; omega
        · omega
      · split
        · refine tw_seq (P := fun y m' => (∃ i : Nat, y = .p (.int i) ∧ i ≤ many) ∧ Dr (k + 1011) m') (tw_draw h (by omega) (by omega) (by omega) a3 fun i m' a1 a2 a3 => ⟨⟨i.toNat, by rw [Int.toNat_of_nonneg a1], by omega⟩, a3⟩) fun y m6 ⟨⟨least, e, c1⟩, i6⟩ => ?_
          subst e
          rw [← rngL_zero]
          refine tw_seq (tw_draws h (l := (fw : Int)) (k := k + 1011) (by intros; rfl) (by intros; simp) (by omega) (by omega) (rngL 0 many) (by simp; omega) i6 (Q := fun ys m' => ∃ w : List Int, ys = w.map .int ∧ w.length = many ∧ (∀ x ∈ w, 0 ≤ x ∧ x < fw) ∧ Dr (k + 4000) m') fun w m' a1 a2 a3 => ⟨w, rfl, by simpa using a1, a2, a3.mono (by simp; omega)⟩) fun ys m7 ⟨w1, e, d1, d2, d3⟩ => ?_
          subst e
          have g2 : rngOk 0 (least : Int) = true := rngOk_of (by omega)
          simp [g2, rngL_zero]
          refine tw_seq (tw_for (xs := (List.range least).map fun (i : Nat) => PyData.int (i : Int)) (fun _ ρ m' => Dr (k + 4000) m' ∧ ∃ (w : List Int) (x : Option Slot), w.length = many ∧ (∀ x ∈ w, 0 ≤ x ∧ x < fw) ∧ ρ = [some (Slot.fz Val.drw), some (Slot.fz (Val.p (PyData.int ↑most))), some (Slot.fz (Val.p (PyData.int ↑sz))), some (Slot.fz (Val.p (PyData.list (List.map PyData.int part)))), some (Slot.ol (w.map .int)), some (Slot.fz (Val.p (PyData.int ↑many))), some (Slot.fz (Val.p (PyData.int way))), some (Slot.fz (Val.p (PyData.int ↑fw))), some (Slot.fz (.p (.int least))), x])
            ⟨d3, w1, none, d1, d2, rfl⟩ fun j x ρ m' hx ⟨t1, w, x0, t2, t3, t4⟩ => ?_) fun fl m8 ⟨ρ', e, t1, w, x0, t2, t3, t4⟩ => ?_
          · subst t4
            have hj : j < least := by have := (List.getElem?_eq_some_iff.mp hx).1; simpa using this
            have ex : x = .int (j : Int) := by
              rw [List.getElem?_map, List.getElem?_range hj] at hx
              exact (Option.some.inj hx).symm
            subst ex
            have r1 : L2.atI (w.map PyData.int) (j : Int) = some (.int (w.getD j 0)) := by
              rw [at_nat]; simp [show j < w.length by omega]
            have r2 : (many : Int) - (least : Int) + (j : Int) = ((many - least + j : Nat) : Int) := by omega
            have r3 : putL (w.map PyData.int) (.int ((many : Int) - (least : Int) + (j : Int))) (.int (w.getD j 0)) = some ((w.set (many - least + j) (w.getD j 0)).map .int) := by
              rw [r2, putL_nat (by simp; omega), List.map_set]
            rw [lturn_one]
            simp only [exB_put, exB_nil, ed_eq, ev_ix, lk_var, List.getElem?_cons_succ, List.getElem?_cons_zero, List.set_cons_succ, List.set_cons_zero, lkR_ol, ev_bnr, ev_vr, varR_fz, Option.map_some, opt_s, dOf_r, bnd_ret', bin_add, bin_sub, idx_l, r1, r3, putR_ol]
            refine tw_ret.mpr ⟨_, rfl, t1, w.set (many - least + j) (w.getD j 0), _, by simpa using t2, fun x hx => ?_, rfl⟩
            rcases List.mem_or_eq_of_mem_set hx with hx | rfl
            · exact t3 x hx
            · simp [show j < w.length by omega]
              exact t3 _ (List.getElem_mem _)
          · subst e
            subst t4
            simp
            exact tl _ _ t2 (fun x hx => by have := t3 x hx; omega) t1
        · simp
          exact tl _ _ hl0 (fun x hx => by have := hr0 x hx; omega) (a3.mono (by omega))
theorem lshf_iff {w : List Int} {s : Nat} (hs : s < w.length) : decide (w.drop s = w.take (w.length - s)) = agr w s := by
  rw [Bool.eq_iff_iff, decide_eq_true_eq]
  unfold agr
  rw [List.all_eq_true]
  constructor
  · intro h i hi
    have hi : i < w.length - s := by simpa using hi
    have := congrArg (fun l => l[i]?) h
    simp only [List.getElem?_drop, List.getElem?_take, if_pos hi] at this
    rw [decide_eq_true_eq, List.getD_eq_getElem?_getD, List.getD_eq_getElem?_getD, ← this, Nat.add_comm]
  · intro h
    refine List.ext_getElem? fun i => ?_
    rw [List.getElem?_drop, List.getElem?_take]
    by_cases hi : i < w.length - s
    · rw [if_pos hi]
      have := h i (by simpa using hi)
      rw [decide_eq_true_eq, List.getD_eq_getElem?_getD, List.getD_eq_getElem?_getD] at this
      rw [List.getElem?_eq_getElem (show s + i < w.length by omega), List.getElem?_eq_getElem (show i < w.length by omega)]
      rw [List.getElem?_eq_getElem (show i + s < w.length by omega), List.getElem?_eq_getElem (show i < w.length by omega)] at this
      simp only [Option.getD_some] at this
      rw [this]; congr 1
      simp only [Nat.add_comm]
    · rw [if_neg hi, List.getElem?_eq_none (by omega)]
theorem run_lshifts {f : Str} (h : Γ f = some (.code P.d_lshifts)) {w : List Int} (hw : w.length ≤ 1000) : run Γ W (n + 1) f [.p (tI w)] m = ret (.p (tN (shfs w))) m := by
  rw [run_code h rfl]
  have e1 : rngOk 0 (w.length : Int) = true := rngOk_of (by omega)
  have e3 : w.length ≤ lim := by unfold lim; omega
  simp [P.d_lshifts, startR, binD, e1, e3, rngL_zero]
  rw [compGo_sel (agr w) (fun i : Nat => PyData.int (i : Int)) (fun i hi => ?_)]
  · simp [shfs]
  · have hi : i < w.length := by simpa using hi
    have e2 : (w.length : Int) - (i : Int) = ((w.length - i : Nat) : Int) := by omega
    rw [turn_one]
    simp [e2, cut_from, cut_to, ← List.map_take, ← List.map_drop, lshf_iff hi]
end
end G

end
section
set_option maxHeartbeats 4000000
namespace G
open PySem PySem.Spec PyProof.Rows L2
mutual
def sz : PyData → Nat
  | .none => 4
  | .bool _ => 5
  | .int i => i.natAbs.log2 + 4
  | .str x => 10 * x.length + 2
  | .list xs => szAll xs + 4
  | .tuple xs => szAll xs + 4
  | .dict _ => 2
def szAll : List PyData → Nat
  | [] => 0
  | x :: xs => sz x + 2 + szAll xs
end
mutual
def strs8 : PyData → Bool
  | .str x => x.cps.toList.all fun c => decide (c < 16 ^ 8)
  | .list xs | .tuple xs => strs8All xs
  | .dict kvs => kvs.isEmpty
  | .none | .bool _ | .int _ => true
def strs8All : List PyData → Bool
  | [] => true
  | x :: xs => strs8 x && strs8All xs
end
theorem str_len_append (a b : Str) : (a ++ b).length = a.length + b.length := by
  show (a.cps ++ b.cps).size = _
  rw [Array.size_append]; rfl
theorem len_int (i : Int) : (Str.ofString (toString i)).length ≤ i.natAbs.log2 + 4 := by
  have key : ∀ m : Nat, (Nat.repr m).toList.length ≤ m.log2 + 1 := by
    intro m
    rw [Nat.toList_repr]
    refine digits10_le (by omega) ?_
    calc m < 2 ^ (m.log2 + 1) := Nat.lt_log2_self
      _ ≤ 10 ^ (m.log2 + 1) := Nat.pow_le_pow_left (by decide) _
  have e : (Str.ofString (toString i)).length = (toString i).toList.length := by
    rw [Str.ofString_eq_toList]
    show ((toString i).toList.map Char.toNat).toArray.size = _
    simp
  rw [e]
  cases i with
  | ofNat m =>
    have := key m
    show (Nat.repr m).toList.length ≤ _
    simp only [Int.ofNat_eq_natCast, Int.natAbs_natCast]
    omega
  | negSucc m =>
    have := key (m + 1)
    show ("-" ++ Nat.repr (m + 1)).toList.length ≤ (Int.negSucc m).natAbs.log2 + 4
    rw [String.toList_append, List.length_append]
    simp only [Int.natAbs_negSucc]
    have e2 : ("-" : String).toList.length = 1 := by decide
    have e3 : (m.succ).log2 = (m + 1).log2 := rfl
    omega
def sumL : List Str → Nat
  | [] => 0
  | x :: xs => x.length + 2 + sumL xs
theorem join_len : ∀ ts : List Str, (Str.join ", " ts).length ≤ sumL ts
  | [] => Nat.le_refl 0
  | [x] => by simp only [Str.join, sumL]; omega
  | x :: y :: r => by
    have ih := join_len (y :: r)
    show (x ++ ", " ++ Str.join ", " (y :: r)).length ≤ _
    rw [str_len_append, str_len_append, sumL]
    have e2 : (Str.ofString ", ").length = 2 := by decide +kernel
    omega
mutual
theorem shown_len : ∀ d : PyData, strs8 d = true → d.shown.length ≤ sz d
  | .none, _ => by rw [PyData.shown_none]; decide +kernel
  | .bool b, _ => by rw [PyData.shown_bool]; cases b <;> decide +kernel
  | .int i, _ => by rw [PyData.shown_int]; exact len_int i
  | .str x, h => by
    rw [PyData.shown_str]
    refine StrLaws.reprText_len x fun c hc => ?_
    simp only [strs8, List.all_eq_true, decide_eq_true_eq] at h
    exact h c hc
  | .list xs, h => by
    rw [PyData.shown_list, str_len_append, str_len_append, sz]
    have := shownAll_len xs (by simpa [strs8] using h)
    have := join_len (PyData.shownAll xs)
    have e1 : (Str.ofString "[").length = 1 := by decide +kernel
    have e2 : (Str.ofString "]").length = 1 := by decide +kernel
    omega
  | .tuple xs, h => by
    rw [PyData.shown_tuple, str_len_append, str_len_append, sz]
    have := shownAll_len xs (by simpa [strs8] using h)
    have := join_len (PyData.shownAll xs)
    have e1 : (Str.ofString "(").length = 1 := by decide +kernel
    have e2 : (Str.ofString (if (xs.length == 1) = true then ",)" else ")")).length ≤ 2 := by split <;> decide +kernel
    omega
  | .dict kvs, h => by
    have : kvs = [] := by simpa [strs8] using h
    subst this
    rw [PyData.shown_dict, PyData.shownKv_nil, sz]
    decide +kernel
theorem shownAll_len : ∀ xs : List PyData, strs8All xs = true → sumL (PyData.shownAll xs) ≤ szAll xs
  | [], _ => by rw [PyData.shownAll_nil]; exact Nat.le_refl 0
  | x :: xs, h => by
    simp only [strs8All, Bool.and_eq_true] at h
    rw [PyData.shownAll_cons, sumL, szAll]
    have := shown_len x h.1
    have := shownAll_len xs h.2
    omega
end
structure Fit (d : PyData) (k : Nat) : Prop where
  sh : d.showable = true
  nd : d.hasDict = false
  st : strs8 d = true
  dp : d.depth ≤ 20
  sz : sz d ≤ k
structure Fits (ds : List PyData) (n k : Nat) : Prop where
  sh : PyData.showableAll ds = true
  nd : PyData.hasDictAll ds = false
  st : strs8All ds = true
  dp : PyData.depthAll ds ≤ n
  sz : szAll ds ≤ k
theorem Fit.mono {d : PyData} {j k : Nat} (h : Fit d j) (q : j ≤ k) : Fit d k := ⟨h.sh, h.nd, h.st, h.dp, Nat.le_trans h.sz q⟩
theorem Fit.fits {d : PyData} {k : Nat} (h : Fit d k) (q : k ≤ lim) : fitsD d = true := by
  have := shown_len d h.st
  have := h.sz
  have := h.dp
  unfold fitsD
  simp only [h.sh, h.nd, Bool.and_eq_true, decide_eq_true_eq, Bool.not_false, true_and, and_true]
  omega
structure FitN (d : PyData) (n k : Nat) : Prop where
  sh : d.showable = true
  nd : d.hasDict = false
  st : strs8 d = true
  dp : d.depth ≤ n
  sz : sz d ≤ k
theorem FitN.fit {d : PyData} {n k : Nat} (h : FitN d n k) (q : n ≤ 20) : Fit d k := ⟨h.sh, h.nd, h.st, Nat.le_trans h.dp q, h.sz⟩
theorem FitN.mono {d : PyData} {n n' j k : Nat} (h : FitN d n j) (q : n ≤ n') (q' : j ≤ k) : FitN d n' k := ⟨h.sh, h.nd, h.st, Nat.le_trans h.dp q, Nat.le_trans h.sz q'⟩
theorem fit_none : FitN .none 0 4 := ⟨rfl, rfl, rfl, Nat.le_refl _, Nat.le_refl _⟩
theorem fit_bool (b : Bool) : FitN (.bool b) 0 5 := ⟨rfl, rfl, rfl, Nat.le_refl _, Nat.le_refl _⟩
theorem fit_int {i : Int} {k : Nat} (h : i.natAbs < 2 ^ k) (hk : k ≤ 1900) : FitN (.int i) 0 (k + 4) := by
  have hl : i.natAbs.log2 ≤ k := by
    by_cases z : i.natAbs = 0
    · rw [z]; simp
    · exact Nat.le_of_lt ((Nat.log2_lt z).mpr h)
  refine ⟨?_, rfl, rfl, Nat.le_refl _, ?_⟩
  · rw [PyData.showable, decide_eq_true_eq]; omega
  · rw [G.sz]; omega
theorem fit_nil : Fits [] 0 0 := ⟨rfl, rfl, rfl, Nat.le_refl _, Nat.le_refl _⟩
theorem fit_nil1 {n : Nat} : Fits [] n 0 := ⟨rfl, rfl, rfl, Nat.zero_le _, Nat.le_refl _⟩
theorem fit_cons {d : PyData} {ds : List PyData} {n k j : Nat} (h : FitN d n k) (q : Fits ds n j) : Fits (d :: ds) n (k + 2 + j) := by
  refine ⟨?_, ?_, ?_, ?_, ?_⟩
  · rw [PyData.showableAll, h.sh, q.sh]; rfl
  · rw [PyData.hasDictAll, h.nd, q.nd]; rfl
  · rw [strs8All, h.st, q.st]; rfl
  · rw [PyData.depthAll]; exact Nat.max_le.mpr ⟨h.dp, q.dp⟩
  · have := h.sz; have := q.sz; rw [szAll]; omega
theorem fit_all {n k : Nat} : ∀ {ds : List PyData}, (∀ d ∈ ds, FitN d n k) → Fits ds n (ds.length * (k + 2))
  | [], _ => ⟨rfl, rfl, rfl, Nat.zero_le _, by simp [szAll]⟩
  | d :: ds, h => by
    have := fit_cons (h d (by simp)) (fit_all (ds := ds) fun x hx => h x (by simp [hx]))
    refine ⟨this.sh, this.nd, this.st, this.dp, Nat.le_trans this.sz ?_⟩
    rw [List.length_cons, Nat.succ_mul]; omega
theorem Fits.lst {ds : List PyData} {n k : Nat} (h : Fits ds n k) : FitN (.list ds) (n + 1) (k + 4) := by
  refine ⟨?_, ?_, ?_, ?_, ?_⟩
  · rw [PyData.showable]; exact h.sh
  · rw [PyData.hasDict]; exact h.nd
  · rw [strs8]; exact h.st
  · rw [PyData.depth]; exact Nat.succ_le_succ h.dp
  · rw [G.sz]; exact Nat.add_le_add_right h.sz _
theorem Fits.tup {ds : List PyData} {n k : Nat} (h : Fits ds n k) : FitN (.tuple ds) (n + 1) (k + 4) := by
  refine ⟨?_, ?_, ?_, ?_, ?_⟩
  · rw [PyData.showable]; exact h.sh
  · rw [PyData.hasDict]; exact h.nd
  · rw [strs8]; exact h.st
  · rw [PyData.depth]; exact Nat.succ_le_succ h.dp
  · rw [G.sz]; exact Nat.add_le_add_right h.sz _
theorem fit_tI {w : List Int} {k : Nat} (h : ∀ x ∈ w, x.natAbs < 2 ^ k) (hk : k ≤ 1900) : FitN (.tuple (w.map .int)) 1 (w.length * (k + 6) + 4) := by
  have := (fit_all (ds := w.map PyData.int) (n := 0) (k := k + 4) fun d hd => by
    obtain ⟨x, hx, rfl⟩ := List.mem_map.mp hd
    exact fit_int (h x hx) hk).tup
  rw [List.length_map] at this
  exact this
theorem biD_repr {d : PyData} {k : Nat} (h : FitN d 20 k) (q : k ≤ lim) : biD .repr d = some (.str d.shown) := by
  show (if fitsD d = true then some (PyData.str d.shown) else none) = _
  rw [if_pos ((h.fit (Nat.le_refl _)).fits q)]
theorem fit_tN {w : List Nat} {k : Nat} (h : ∀ x ∈ w, x < 2 ^ k) (hk : k ≤ 1900) : FitN (tN w) 1 (w.length * (k + 6) + 4) := by
  have := fit_tI (w := w.map fun (n : Nat) => (n : Int)) (k := k) (fun x hx => by
    obtain ⟨y, hy, rfl⟩ := List.mem_map.mp hx
    simpa using h y hy) hk
  rw [List.length_map] at this
  rw [tN_tI]
  exact this
@[simp] theorem repr_bool (b : Bool) : biD .repr (.bool b) = some (.str (PyData.bool b).shown) := biD_repr ((fit_bool b).mono (Nat.zero_le _) (Nat.le_refl _)) (by decide)
end G

end
section
set_option maxHeartbeats 1000000
namespace G
theorem agr_iff {w : List Int} {s : Nat} : agr w s = true ↔ ∀ i, i + s < w.length → w.getD (i + s) 0 = w.getD i 0 := by
  unfold agr
  rw [List.all_eq_true]
  constructor
  · intro h i hi
    exact (of_decide_eq_true (h i (by simp; omega))).symm
  · intro h i hi
    have hi : i < w.length - s := by simpa using hi
    exact decide_eq_true (h i (by omega)).symm
theorem mem_shfs {w : List Int} {s : Nat} : s ∈ shfs w ↔ s < w.length ∧ agr w s = true := by simp [shfs]
theorem agr_sub {w : List Int} {p s : Nat} (hp : agr w p = true) (hs : agr w s = true) (h1 : p ≤ s) (h2 : s + p ≤ w.length) : agr w (s - p) = true := by
  rw [agr_iff] at *
  intro i hi
  by_cases q : i + s < w.length
  · have a := hs i q
    have b := hp (i + (s - p)) (by omega)
    rw [show i + (s - p) + p = i + s by omega] at b
    rw [← b, a]
  · have a := hp (i - p) (by omega)
    have b := hs (i - p) (by omega)
    rw [show i - p + p = i by omega] at a
    rw [show i - p + s = i + (s - p) by omega] at b
    rw [b, a]
theorem agr_gcd {w : List Int} : ∀ (k a b : Nat), a + b ≤ k → 0 < a → 0 < b → agr w a = true → agr w b = true → a + b ≤ w.length → agr w (Nat.gcd a b) = true
  | 0, a, b, hk, ha, _, _, _, _ => by omega
  | k + 1, a, b, hk, ha, hb, h1, h2, hl => by
    by_cases e : a = b
    · subst e; rw [Nat.gcd_self]; exact h1
    · by_cases l : a < b
      · have := agr_gcd k a (b - a) (by omega) ha (by omega) h1 (agr_sub h1 h2 (by omega) (by omega)) (by omega)
        rwa [Nat.gcd_sub_self_right (by omega)] at this
      · have := agr_gcd k (a - b) b (by omega) (by omega) hb (agr_sub h2 h1 (by omega) (by omega)) h2 (by omega)
        rwa [Nat.gcd_sub_self_left (by omega)] at this
theorem agr_mul {w : List Int} {p : Nat} (h : agr w p = true) : ∀ k, agr w (k * p) = true
  | 0 => by rw [Nat.zero_mul]; exact agr_zero w
  | k + 1 => by
    have ih := agr_iff.mp (agr_mul h k)
    have h := agr_iff.mp h
    rw [agr_iff]
    intro i hi
    rw [Nat.succ_mul] at hi ⊢
    rw [show i + (k * p + p) = i + k * p + p by omega, h _ (by omega), ih _ (by omega)]
theorem getD_drop (w : List Int) (p i : Nat) : (w.drop p).getD i 0 = w.getD (p + i) 0 := by
  rw [List.getD_eq_getElem?_getD, List.getD_eq_getElem?_getD, List.getElem?_drop]
theorem agr_drop {w : List Int} {p s : Nat} (hp : agr w p = true) (h1 : p ≤ s) : agr (w.drop p) (s - p) = agr w s := by
  rw [Bool.eq_iff_iff, agr_iff, agr_iff, List.length_drop]
  have hp := agr_iff.mp hp
  constructor
  · intro h i hi
    have := h i (by omega)
    rw [getD_drop, getD_drop, show p + (i + (s - p)) = i + s by omega, show p + i = i + p by omega] at this
    rw [this, hp i (by omega)]
  · intro h i hi
    rw [getD_drop, getD_drop, show p + (i + (s - p)) = i + s by omega, show p + i = i + p by omega, h i (by omega), hp i (by omega)]
theorem perd_least {w : List Int} (h : 0 < w.length) {s : Nat} (hs : agr w s = true) (h0 : 0 < s) : perd w ≤ s := by
  by_cases q : s < w.length
  · obtain ⟨_, _, _, a4, a5⟩ := perd_ok h
    have m : s ∈ shfs w := mem_shfs.mpr ⟨q, hs⟩
    have z := shfs_zero h
    have l : 1 < (shfs w).length := by
      refine Nat.lt_of_not_le fun c => ?_
      obtain ⟨i, hi, ei⟩ := List.getElem_of_mem m
      obtain ⟨j, hj, ej⟩ := List.getElem_of_mem z
      have : i = j := by omega
      subst this
      omega
    have e := a4 l
    obtain ⟨i, hi, ei⟩ := List.getElem_of_mem m
    obtain ⟨j, hj, ej⟩ := List.getElem_of_mem z
    have pw := List.pairwise_iff_getElem.mp (shfs_pair w)
    have e1 : (shfs w)[1] = perd w := by
      rw [List.getElem?_eq_getElem l] at e
      exact Option.some.inj e
    have i0 : 0 < i := by
      refine Nat.pos_of_ne_zero fun c => ?_
      subst c
      by_cases jj : j = 0
      · subst jj; omega
      · have := pw 0 j hi hj (by omega)
        omega
    by_cases i1 : i = 1
    · subst i1; omega
    · have := pw 1 i l hi (by omega)
      omega
  · have := (perd_ok h).2.1
    omega
theorem perd_dvd {w : List Int} (h : 0 < w.length) : ∀ (s : Nat), agr w s = true → s + perd w ≤ w.length → perd w ∣ s := by
  intro s
  induction s using Nat.strongRecOn with
  | _ s ih =>
    intro hs hl
    by_cases z : s = 0
    · subst z; exact Nat.dvd_zero _
    · have l := perd_least h hs (by omega)
      have p0 := (perd_ok h).1
      have d := ih (s - perd w) (by omega) (agr_sub (perd_ok h).2.2.1 hs l hl) (by omega)
      have := Nat.dvd_add d (Nat.dvd_refl (perd w))
      rwa [Nat.sub_add_cancel l] at this
theorem agr_part {w : List Int} {p t st : Nat} (hp : agr w p = true) (hst : p ∣ st) (ht : t ∣ p) (h0 : 0 < t) (p0 : 0 < p) (hl : st + p ≤ w.length) (hd : agr (w.drop st) t = true) : agr w t = true := by
  have key : ∀ i, i < w.length → w.getD i 0 = (w.drop st).getD (i % t) 0 := by
    intro i hi
    have m : i % p < p := Nat.mod_lt _ p0
    have e1 := agr_mod hp p0 i hi
    have e2 := agr_mod hp p0 (st + i % p) (by omega)
    rw [Nat.add_mod, Nat.mod_eq_zero_of_dvd hst, Nat.zero_add, Nat.mod_mod, Nat.mod_mod] at e2
    have e3 := agr_mod hd h0 (i % p) (by rw [List.length_drop]; omega)
    rw [Nat.mod_mod_of_dvd _ ht] at e3
    rw [e3, getD_drop, ← e2, e1]
  rw [agr_iff]
  intro i hi
  rw [key i (by omega), key (i + t) hi, Nat.add_mod_right]
end G

end
section
set_option maxHeartbeats 1000000
namespace G
theorem asc_ext {a b : List Nat} (ha : a.Pairwise (· < ·)) (hb : b.Pairwise (· < ·)) (h : ∀ x, x ∈ a ↔ x ∈ b) : a = b := by
  have na : a.Nodup := ha.imp fun h => Nat.ne_of_lt h
  have nb : b.Nodup := hb.imp fun h => Nat.ne_of_lt h
  exact List.Perm.eq_of_pairwise (le := fun a b : Nat => a < b) (fun x y _ _ h1 h2 => absurd h2 (Nat.lt_asymm h1)) ha hb ((List.perm_ext_iff_of_nodup na nb).mpr h)
def goodP (step rest : Nat) (part : List Nat) : Bool :=
  !(part.any fun s => (decide (0 < s) && decide (s ≤ rest)) || ((decide (0 < s) && decide (s < step)) && decide (step % s = 0))) && (decide (rest = 0) || part.contains step)
def nearU (many step : Nat) (known : List (List Nat)) : List (List Nat) :=
  (known.filter (goodP step (many % step))).map fun part => ((List.range ((many - step - many % step) / step)).map (· * step)) ++ part.map ((many - step - many % step) + ·)
def setsU (K : Nat → List (List Nat)) (many : Nat) : List (List Nat) :=
  [0] :: (List.range' 1 (many - 1)).flatMap fun step => if 2 * step ≤ many then nearU many step (K (step + many % step)) else (K (many - step)).map fun part => 0 :: part.map (step + ·)
theorem map_add_pair {l : List Nat} (h : l.Pairwise (· < ·)) (k : Nat) : (l.map (k + ·)).Pairwise (· < ·) := List.pairwise_map.mpr (h.imp fun h => Nat.add_lt_add_left h k)
theorem setsU_of {w : List Int} (h : 1 ≤ w.length) {K : Nat → List (List Nat)} (hK : ∀ u : List Int, 1 ≤ u.length → u.length < w.length → shfs u ∈ K u.length) : shfs w ∈ setsU K w.length := by
  obtain ⟨p0, p1, p2, p4, p5⟩ := perd_ok (w := w) (by omega)
  unfold setsU
  generalize hn : w.length = n at *
  generalize hp : perd w = p at *
  by_cases q : p = n
  · have : shfs w = [0] := by
      refine asc_ext (shfs_pair w) (by simp) fun x => ?_
      rw [mem_shfs, hn, List.mem_singleton]
      constructor
      · rintro ⟨a, b⟩
        refine Nat.eq_zero_of_not_pos fun c => ?_
        have := perd_least (by omega) b c
        omega
      · rintro rfl
        exact ⟨by omega, agr_zero w⟩
    rw [this]; exact List.mem_cons_self
  · refine List.mem_cons_of_mem _ (List.mem_flatMap.mpr ⟨p, by rw [List.mem_range'_1]; omega, ?_⟩)
    by_cases c : 2 * p ≤ n
    · rw [if_pos c]
      unfold nearU
      generalize hr : n % p = r
      have rp : r < p := by rw [← hr]; exact Nat.mod_lt _ p0
      have dv : n = p * (n / p) + r := by rw [← hr]; exact (Nat.div_add_mod n p).symm
      obtain ⟨k, hk⟩ : ∃ k, n / p = k + 1 := ⟨n / p - 1, by have := Nat.div_le_div_right (c := p) (show p ≤ n by omega); rw [Nat.div_self p0] at this; omega⟩
      rw [hk, Nat.mul_succ] at dv
      have est : n - p - r = p * k := by omega
      rw [est, Nat.mul_div_cancel_left k p0]
      have dst : p ∣ p * k := Nat.dvd_mul_right p k
      have ast : agr w (p * k) = true := by rw [Nat.mul_comm]; exact agr_mul p2 k
      have lu : (w.drop (p * k)).length = p + r := by rw [List.length_drop, hn]; omega
      have hu := hK (w.drop (p * k)) (by omega) (by
        rw [lu]
        have : p * 1 ≤ p * k := Nat.mul_le_mul_left p (Nat.pos_of_ne_zero fun z => by subst z; omega)
        omega)
      rw [lu] at hu
      refine List.mem_map.mpr ⟨_, List.mem_filter.mpr ⟨hu, ?_⟩, ?_⟩
      · unfold goodP
        rw [Bool.and_eq_true, Bool.not_eq_true', List.any_eq_false]
        constructor
        · intro t ht bad
          obtain ⟨t1, t2⟩ := mem_shfs.mp ht
          have tn : ∀ d, 0 < d → d < p → d ∣ p → agr (w.drop (p * k)) d = true → False := fun d d0 d1 d2 d3 => by
            have := perd_least (by omega) (agr_part p2 dst d2 d0 p0 (by omega) d3) d0
            omega
          rw [Bool.or_eq_true, Bool.and_eq_true, Bool.and_eq_true, Bool.and_eq_true] at bad
          rcases bad with ⟨b1, b2⟩ | ⟨⟨b1, b2⟩, b3⟩
          · have b1 := of_decide_eq_true b1
            have b2 := of_decide_eq_true b2
            have pu : agr (w.drop (p * k)) p = true := by
              have := agr_drop (w := w) (p := p * k) (s := p * k + p) ast (by omega)
              rw [Nat.add_sub_cancel_left] at this
              rw [this, show p * k + p = (k + 1) * p by rw [Nat.mul_comm, Nat.succ_mul]]
              exact agr_mul p2 (k + 1)
            have g := agr_gcd _ t p (Nat.le_refl _) b1 p0 t2 pu (by omega)
            exact tn _ (Nat.gcd_pos_of_pos_left _ b1) (Nat.lt_of_le_of_lt (Nat.gcd_le_left _ b1) (by omega)) (Nat.gcd_dvd_right _ _) g
          · have b1 := of_decide_eq_true b1
            have b2 := of_decide_eq_true b2
            have b3 := of_decide_eq_true b3
            exact tn t b1 b2 (Nat.dvd_of_mod_eq_zero b3) t2
        · by_cases z : r = 0
          · simp [z]
          · rw [Bool.or_eq_true]
            refine .inr (List.contains_iff_mem.mpr (mem_shfs.mpr ⟨by omega, ?_⟩))
            have := agr_drop (w := w) (p := p * k) (s := p * k + p) ast (by omega)
            rw [Nat.add_sub_cancel_left] at this
            rw [this, show p * k + p = (k + 1) * p by rw [Nat.mul_comm, Nat.succ_mul]]
            exact agr_mul p2 (k + 1)
      · refine asc_ext (List.pairwise_append.mpr ⟨?_, map_add_pair (shfs_pair _) _, ?_⟩) (shfs_pair w) fun x => ?_
        · refine List.pairwise_map.mpr (List.pairwise_lt_range.imp fun h => Nat.mul_lt_mul_of_pos_right h p0)
        · intro a ha b hb
          obtain ⟨i, hi, rfl⟩ := List.mem_map.mp ha
          obtain ⟨j, hj, rfl⟩ := List.mem_map.mp hb
          have hi : i < k := by simpa using hi
          have : i * p < k * p := Nat.mul_lt_mul_of_pos_right hi p0
          rw [Nat.mul_comm k p] at this
          omega
        · rw [List.mem_append, List.mem_map, List.mem_map, mem_shfs, hn]
          constructor
          · rintro (⟨i, hi, rfl⟩ | ⟨t, ht, rfl⟩)
            · have hi : i < k := by simpa using hi
              have : i * p < k * p := Nat.mul_lt_mul_of_pos_right hi p0
              rw [Nat.mul_comm k p] at this
              exact ⟨by omega, agr_mul p2 i⟩
            · obtain ⟨t1, t2⟩ := mem_shfs.mp ht
              have := agr_drop (w := w) (p := p * k) (s := p * k + t) ast (by omega)
              rw [Nat.add_sub_cancel_left, t2] at this
              exact ⟨by omega, this.symm⟩
          · rintro ⟨x1, x2⟩
            by_cases l : x < p * k
            · have d := perd_dvd (w := w) (by omega) x x2 (by omega)
              rw [hp] at d
              obtain ⟨i, rfl⟩ := d
              exact .inl ⟨i, by simpa using Nat.lt_of_mul_lt_mul_left l, Nat.mul_comm i p⟩
            · refine .inr ⟨x - p * k, mem_shfs.mpr ⟨by omega, ?_⟩, by omega⟩
              rw [agr_drop ast (by omega)]; exact x2
    · rw [if_neg c]
      have lu : (w.drop p).length = n - p := by rw [List.length_drop, hn]
      have hu := hK (w.drop p) (by omega) (by omega)
      rw [lu] at hu
      refine List.mem_map.mpr ⟨_, hu, ?_⟩
      refine asc_ext (List.pairwise_cons.mpr ⟨fun y hy => ?_, map_add_pair (shfs_pair _) p⟩) (shfs_pair w) fun x => ?_
      · obtain ⟨z, _, rfl⟩ := List.mem_map.mp hy
        omega
      · rw [List.mem_cons, List.mem_map, mem_shfs, hn]
        constructor
        · rintro (rfl | ⟨t, ht, rfl⟩)
          · exact ⟨by omega, agr_zero w⟩
          · obtain ⟨t1, t2⟩ := mem_shfs.mp ht
            have := agr_drop (w := w) (p := p) (s := p + t) p2 (by omega)
            rw [Nat.add_sub_cancel_left, t2] at this
            exact ⟨by omega, this.symm⟩
        · rintro ⟨x1, x2⟩
          by_cases z : x = 0
          · exact .inl z
          · have := perd_least (w := w) (by omega) x2 (by omega)
            refine .inr ⟨x - p, mem_shfs.mpr ⟨by omega, ?_⟩, by omega⟩
            rw [agr_drop p2 (by omega)]; exact x2
end G

end
section
set_option maxHeartbeats 1000000
namespace G
inductive Cn (E : Nat → Nat → Prop) (i : Nat) : Nat → Prop
  | refl : Cn E i i
  | step {j k : Nat} : Cn E i j → (E j k ∨ E k j) → Cn E i k
namespace Cn
variable {E : Nat → Nat → Prop} {i j k : Nat}
theorem trans (h : Cn E i j) (h' : Cn E j k) : Cn E i k := by
  induction h' with
  | refl => exact h
  | step _ b ih => exact .step ih b
theorem one (h : E j k ∨ E k j) : Cn E j k := .step .refl h
theorem symm (h : Cn E i j) : Cn E j i := by
  induction h with
  | refl => exact .refl
  | step _ b ih => exact (Cn.one b.symm).trans ih
theorem lift {α : Type} (f : Nat → α) (h : ∀ i j, E i j → f i = f j) (c : Cn E i j) : f i = f j := by
  induction c with
  | refl => rfl
  | step _ b ih => exact ih.trans (b.elim (h _ _) fun q => (h _ _ q).symm)
theorem cross {P : Nat → Prop} (c : Cn E i j) (h : P i) : ¬ P j → ∃ u v, (E u v ∨ E v u) ∧ P u ∧ ¬ P v := by
  induction c with
  | refl => exact fun q => absurd h q
  | step a b ih =>
    rename_i j k
    intro q
    rcases Classical.em (P j) with c | c
    · exact ⟨j, k, b, c, q⟩
    · exact ih c
end Cn
def Ed (n : Nat) (T : List Nat) (i j : Nat) : Prop := ∃ s ∈ T, j = i + s ∧ j < n
structure Lab (n : Nat) (T : List Nat) (h : List Nat) : Prop where
  len : h.length = n
  le : ∀ i, i < n → h.getD i 0 ≤ i
  cn : ∀ i, i < n → Cn (Ed n T) (h.getD i 0) i
structure Min (n : Nat) (T : List Nat) (h : List Nat) : Prop extends Lab n T h where
  cl : ∀ i j, Ed n T i j → h.getD i 0 = h.getD j 0
variable {n : Nat} {T h h' : List Nat}
theorem Min.eq_iff (m : Min n T h) {i j : Nat} (hi : i < n) (hj : j < n) : h.getD i 0 = h.getD j 0 ↔ Cn (Ed n T) i j :=
  ⟨fun e => (m.cn i hi).symm.trans (by rw [e]; exact m.cn j hj), fun c => c.lift (fun i => h.getD i 0) m.cl⟩
theorem Min.le_lab (m : Min n T h) (l : Lab n T h') {i : Nat} (hi : i < n) : h.getD i 0 ≤ h'.getD i 0 := by
  have e := (l.cn i hi).lift (fun i => h.getD i 0) m.cl
  have := m.le (h'.getD i 0) (Nat.lt_of_le_of_lt (l.le i hi) hi)
  have e : h.getD (h'.getD i 0) 0 = h.getD i 0 := e
  omega
theorem ext_getD {a b : List Nat} (hl : a.length = b.length) (h : ∀ i, i < a.length → a.getD i 0 = b.getD i 0) : a = b := by
  refine List.ext_getElem hl fun i h1 h2 => ?_
  have := h i h1
  rwa [List.getD_eq_getElem?_getD, List.getD_eq_getElem?_getD, List.getElem?_eq_getElem h1, List.getElem?_eq_getElem h2] at this
theorem Min.uniq (m : Min n T h) (m' : Min n T h') : h = h' := ext_getD (by rw [m.len, m'.len]) fun i hi => by
  rw [m.len] at hi
  exact Nat.le_antisymm (m.le_lab m'.toLab hi) (m'.le_lab m.toLab hi)
theorem lab_range (n : Nat) (T : List Nat) : Lab n T (List.range n) where
  len := by simp
  le := fun i hi => by simp [hi]
  cn := fun i hi => by
    have : (List.range n).getD i 0 = i := by simp [hi]
    rw [this]; exact .refl
def stepJ (s : Nat) (h : List Nat) (p : Nat) : List Nat := h.map fun x => if x = h.getD p 0 ∨ x = h.getD (p + s) 0 then min (h.getD p 0) (h.getD (p + s) 0) else x
def roundJ (n : Nat) (h : List Nat) (s : Nat) : List Nat := (List.range (n - s)).foldl (stepJ s) h
def joinH (n : Nat) (T : List Nat) : List Nat := T.foldl (roundJ n) (List.range n)
theorem getD_map (f : Nat → Nat) (h : List Nat) {i : Nat} (hi : i < h.length) : (h.map f).getD i 0 = f (h.getD i 0) := by
  rw [List.getD_eq_getElem?_getD, List.getD_eq_getElem?_getD, List.getElem?_map, List.getElem?_eq_getElem hi]; rfl
theorem stepJ_lab (l : Lab n T h) {p s : Nat} (hs : s ∈ T) (hp : p + s < n) : Lab n T (stepJ s h p) where
  len := by unfold stepJ; rw [List.length_map]; exact l.len
  le := fun i hi => by
    unfold stepJ
    rw [getD_map _ _ (by rw [l.len]; exact hi)]
    have := l.le i hi
    split <;> omega
  cn := fun i hi => by
    unfold stepJ
    rw [getD_map _ _ (by rw [l.len]; exact hi)]
    have c := l.cn i hi
    split
    · rename_i q
      have e : Ed n T p (p + s) := ⟨s, hs, rfl, hp⟩
      have c1 := l.cn p (by omega)
      have c2 := l.cn (p + s) hp
      have c3 : Cn (Ed n T) (h.getD p 0) (h.getD (p + s) 0) := (c1.trans (.one (.inl e))).trans c2.symm
      have c4 : Cn (Ed n T) (min (h.getD p 0) (h.getD (p + s) 0)) (h.getD i 0) := by
        rcases q with q | q <;> rw [q]
        · rcases Nat.le_total (h.getD p 0) (h.getD (p + s) 0) with z | z
          · rw [Nat.min_eq_left z]; exact .refl
          · rw [Nat.min_eq_right z]; exact c3.symm
        · rcases Nat.le_total (h.getD p 0) (h.getD (p + s) 0) with z | z
          · rw [Nat.min_eq_left z]; exact c3
          · rw [Nat.min_eq_right z]; exact .refl
      exact c4.trans c
    · exact c
theorem stepJ_keep (l : h.length = n) {p s i j : Nat} (hi : i < n) (hj : j < n) (e : h.getD i 0 = h.getD j 0) : (stepJ s h p).getD i 0 = (stepJ s h p).getD j 0 := by
  unfold stepJ
  rw [getD_map _ _ (by omega), getD_map _ _ (by omega), e]
theorem stepJ_new (l : h.length = n) {p s : Nat} (hp : p + s < n) : (stepJ s h p).getD p 0 = (stepJ s h p).getD (p + s) 0 := by
  unfold stepJ
  rw [getD_map _ _ (by omega), getD_map _ _ (by omega), if_pos (.inl rfl), if_pos (.inr rfl)]
theorem roundJ_ok {s : Nat} (hs : s ∈ T) : ∀ (k : Nat) {h : List Nat}, k ≤ n - s → Lab n T h → Lab n T ((List.range k).foldl (stepJ s) h) ∧ (∀ i j, i < n → j < n → h.getD i 0 = h.getD j 0 → ((List.range k).foldl (stepJ s) h).getD i 0 = ((List.range k).foldl (stepJ s) h).getD j 0) ∧
    ∀ p, p < k → ((List.range k).foldl (stepJ s) h).getD p 0 = ((List.range k).foldl (stepJ s) h).getD (p + s) 0
  | 0, h, _, l => ⟨l, fun _ _ _ _ e => e, fun p hp => absurd hp (by omega)⟩
  | k + 1, h, hk, l => by
    obtain ⟨a1, a2, a3⟩ := roundJ_ok hs k (by omega) l
    rw [List.range_succ, List.foldl_append]
    show Lab n T (stepJ s _ k) ∧ _
    refine ⟨stepJ_lab a1 hs (by omega), fun i j hi hj e => stepJ_keep a1.len hi hj (a2 i j hi hj e), fun p hp => ?_⟩
    by_cases z : p = k
    · subst z; exact stepJ_new a1.len (by omega)
    · exact stepJ_keep a1.len (by omega) (by omega) (a3 p (by omega))
theorem joinH_go : ∀ (S : List Nat) {h : List Nat} (D : List Nat), (∀ s ∈ S, s ∈ T) → Lab n T h → (∀ s ∈ D, ∀ i, i + s < n → h.getD i 0 = h.getD (i + s) 0) →
    Lab n T (S.foldl (roundJ n) h) ∧ ∀ s, s ∈ D ∨ s ∈ S → ∀ i, i + s < n → (S.foldl (roundJ n) h).getD i 0 = (S.foldl (roundJ n) h).getD (i + s) 0
  | [], h, D, _, l, c => ⟨l, fun s hs i hi => c s (by simpa using hs) i hi⟩
  | t :: S, h, D, hS, l, c => by
    obtain ⟨a1, a2, a3⟩ := roundJ_ok (hS t (by simp)) (n - t) (Nat.le_refl _) l
    rw [List.foldl_cons]
    obtain ⟨b1, b2⟩ := joinH_go S (t :: D) (fun s hs => hS s (by simp [hs])) a1 (fun s hs i hi => by
      rcases List.mem_cons.mp hs with rfl | hs
      · exact a3 i (by omega)
      · exact a2 i (i + s) (by omega) hi (c s hs i hi))
    refine ⟨b1, fun s hs i hi => b2 s ?_ i hi⟩
    rcases hs with hs | hs
    · exact .inl (by simp [hs])
    · rcases List.mem_cons.mp hs with rfl | hs
      · exact .inl (by simp)
      · exact .inr hs
theorem joinH_min (n : Nat) (T : List Nat) : Min n T (joinH n T) := by
  obtain ⟨a1, a2⟩ := joinH_go (T := T) (n := n) T [] (fun s hs => hs) (lab_range n T) (fun s hs => nomatch hs)
  exact ⟨a1, fun i j ⟨s, hs, e, hj⟩ => by subst e; exact a2 s (.inr hs) i hj⟩
def stepF (s : Nat) (h : List Nat) (p : Nat) : List Nat := (h.set p (min (h.getD p 0) (h.getD (p + s) 0))).set (p + s) (min (h.getD p 0) (h.getD (p + s) 0))
def roundF (n : Nat) (h : List Nat) (s : Nat) : List Nat := (List.range (n - s)).foldl (stepF s) h
def passF (n : Nat) (T : List Nat) (h : List Nat) : List Nat := T.foldl (roundF n) h
def freeH (n : Nat) (T : List Nat) : List Nat := (List.range n).foldl (fun h _ => passF n T h) (List.range n)
theorem getD_set (h : List Nat) (p x i : Nat) (hp : p < h.length) : (h.set p x).getD i 0 = if i = p then x else h.getD i 0 := by
  rw [List.getD_eq_getElem?_getD, List.getD_eq_getElem?_getD, List.getElem?_set]
  by_cases e : p = i
  · subst e; simp [hp]
  · rw [if_neg e, if_neg (fun z => e z.symm)]
theorem stepF_get {p s : Nat} (hp : p + s < h.length) (i : Nat) : (stepF s h p).getD i 0 = if i = p ∨ i = p + s then min (h.getD p 0) (h.getD (p + s) 0) else h.getD i 0 := by
  unfold stepF
  rw [getD_set _ _ _ _ (by rw [List.length_set]; exact hp), getD_set _ _ _ _ (by omega)]
  by_cases a : i = p + s <;> by_cases b : i = p <;> simp [a, b]
structure Dn (h h' : List Nat) : Prop where
  len : h'.length = h.length
  le : ∀ i, h'.getD i 0 ≤ h.getD i 0
theorem Dn.refl (h : List Nat) : Dn h h := ⟨rfl, fun _ => Nat.le_refl _⟩
theorem Dn.trans {a b c : List Nat} (x : Dn a b) (y : Dn b c) : Dn a c := ⟨y.len.trans x.len, fun i => Nat.le_trans (y.le i) (x.le i)⟩
theorem stepF_dn {p s : Nat} (hp : p + s < h.length) : Dn h (stepF s h p) := by
  refine ⟨by unfold stepF; simp, fun i => ?_⟩
  rw [stepF_get hp]
  split
  · rename_i q
    rcases q with q | q <;> rw [q] <;> omega
  · omega
theorem stepF_lab (l : Lab n T h) {p s : Nat} (hs : s ∈ T) (hp : p + s < n) : Lab n T (stepF s h p) := by
  have hp' : p + s < h.length := by rw [l.len]; exact hp
  refine ⟨(stepF_dn hp').len.trans l.len, fun i hi => Nat.le_trans ((stepF_dn hp').le i) (l.le i hi), fun i hi => ?_⟩
  rw [stepF_get hp']
  split
  · rename_i q
    have e : Ed n T p (p + s) := ⟨s, hs, rfl, hp⟩
    have c1 := l.cn p (by omega)
    have c2 := l.cn (p + s) hp
    have c0 : Cn (Ed n T) p i := by
      rcases q with q | q <;> subst q
      · exact .refl
      · exact .one (.inl e)
    rcases Nat.le_total (h.getD p 0) (h.getD (p + s) 0) with z | z
    · rw [Nat.min_eq_left z]; exact c1.trans c0
    · rw [Nat.min_eq_right z]; exact (c2.trans (.one (.inr e))).trans c0
  · exact l.cn i hi
theorem roundF_ok {s : Nat} (hs : s ∈ T) : ∀ (k : Nat) {h : List Nat}, k ≤ n - s → Lab n T h → Lab n T ((List.range k).foldl (stepF s) h) ∧ Dn h ((List.range k).foldl (stepF s) h) ∧
    ∀ p, p < k → ((List.range k).foldl (stepF s) h).getD p 0 ≤ h.getD (p + s) 0 ∧ ((List.range k).foldl (stepF s) h).getD (p + s) 0 ≤ h.getD p 0
  | 0, h, _, l => ⟨l, .refl h, fun p hp => absurd hp (by omega)⟩
  | k + 1, h, hk, l => by
    obtain ⟨a1, a2, a3⟩ := roundF_ok hs k (by omega) l
    rw [List.range_succ, List.foldl_append]
    have hl : k + s < ((List.range k).foldl (stepF s) h).length := by rw [a1.len]; omega
    have d := stepF_dn (p := k) (s := s) hl
    show Lab n T (stepF s _ k) ∧ Dn h (stepF s _ k) ∧ _
    refine ⟨stepF_lab a1 hs (by omega), a2.trans d, fun p hp => ?_⟩
    show (stepF s _ k).getD p 0 ≤ _ ∧ (stepF s _ k).getD (p + s) 0 ≤ _
    by_cases z : p = k
    · subst z
      rw [stepF_get hl, stepF_get hl, if_pos (.inl rfl), if_pos (.inr rfl)]
      have := a2.le p
      have := a2.le (p + s)
      omega
    · have := a3 p (by omega)
      have := d.le p
      have := d.le (p + s)
      omega
theorem passF_go : ∀ (S : List Nat) {h : List Nat}, (∀ s ∈ S, s ∈ T) → Lab n T h → Lab n T (S.foldl (roundF n) h) ∧ Dn h (S.foldl (roundF n) h) ∧
    ∀ s ∈ S, ∀ p, p + s < n → (S.foldl (roundF n) h).getD p 0 ≤ h.getD (p + s) 0 ∧ (S.foldl (roundF n) h).getD (p + s) 0 ≤ h.getD p 0
  | [], h, _, l => ⟨l, .refl h, fun s hs => nomatch hs⟩
  | t :: S, h, hS, l => by
    obtain ⟨a1, a2, a3⟩ := roundF_ok (hS t (by simp)) (n - t) (Nat.le_refl _) l
    obtain ⟨b1, b2, b3⟩ := passF_go S (fun s hs => hS s (by simp [hs])) a1
    rw [List.foldl_cons]
    refine ⟨b1, a2.trans b2, fun s hs p hp => ?_⟩
    rcases List.mem_cons.mp hs with rfl | hs
    · have := a3 p (by omega)
      have := b2.le p
      have := b2.le (p + s)
      exact ⟨Nat.le_trans (b2.le p) (a3 p (by omega)).1, Nat.le_trans (b2.le (p + s)) (a3 p (by omega)).2⟩
    · exact ⟨Nat.le_trans (b3 s hs p hp).1 (a2.le _), Nat.le_trans (b3 s hs p hp).2 (a2.le _)⟩
theorem countP_lt {α : Type} {p q : α → Bool} : ∀ {l : List α}, (∀ x ∈ l, q x = true → p x = true) → (∃ x ∈ l, p x = true ∧ q x = false) → l.countP q < l.countP p
  | [], _, ⟨x, hx, _⟩ => nomatch hx
  | y :: l, h, ⟨x, hx, h1, h2⟩ => by
    have le : l.countP q ≤ l.countP p := List.countP_mono_left fun z hz => h z (by simp [hz])
    rw [List.countP_cons, List.countP_cons]
    rcases List.mem_cons.mp hx with rfl | hx
    · rw [h1, h2]; simp; omega
    · have ih := countP_lt (l := l) (fun z hz => h z (by simp [hz])) ⟨x, hx, h1, h2⟩
      have := h y (by simp)
      by_cases c : q y = true
      · rw [c, this c]; simp; omega
      · split <;> split <;> first | omega | (rename_i u v; exact absurd u c)
def bad (n : Nat) (M h : List Nat) : Nat := (List.range n).countP fun i => decide (h.getD i 0 ≠ M.getD i 0)
theorem passF_bad {M : List Nat} (m : Min n T M) (l : Lab n T h) : Lab n T (passF n T h) ∧ (bad n M (passF n T h) = 0 ∨ bad n M (passF n T h) < bad n M h) := by
  obtain ⟨a1, a2, a3⟩ := passF_go T (fun s hs => hs) l
  refine ⟨a1, ?_⟩
  have good : ∀ {i : Nat}, i < n → h.getD i 0 = M.getD i 0 → (passF n T h).getD i 0 = M.getD i 0 := fun {i} hi e => by
    have := a2.le i
    have := m.le_lab a1 hi
    unfold passF
    omega
  by_cases z : ∃ i, i < n ∧ h.getD i 0 ≠ M.getD i 0
  · right
    obtain ⟨i, hi, hb⟩ := z
    have hm : M.getD i 0 < n := Nat.lt_of_le_of_lt (m.le i hi) hi
    have gm : h.getD (M.getD i 0) 0 = M.getD (M.getD i 0) 0 := by
      have e1 : M.getD (M.getD i 0) 0 = M.getD i 0 := (m.cn i hi).lift (fun i => M.getD i 0) m.cl
      have e2 := l.le _ hm
      have e3 := m.le_lab l hm
      omega
    obtain ⟨u, v, huv, gu, bv⟩ := (m.cn i hi).cross (P := fun i => h.getD i 0 = M.getD i 0) gm hb
    have key : ∀ u v, Ed n T u v ∨ Ed n T v u → u < n ∧ v < n ∧ M.getD u 0 = M.getD v 0 ∧ (passF n T h).getD v 0 ≤ h.getD u 0 := by
      rintro u v (⟨s, hs, e, hv⟩ | ⟨s, hs, e, hv⟩)
      · subst e; exact ⟨by omega, hv, m.cl _ _ ⟨s, hs, rfl, hv⟩, (a3 s hs u hv).2⟩
      · subst e; exact ⟨hv, by omega, (m.cl _ _ ⟨s, hs, rfl, hv⟩).symm, (a3 s hs v hv).1⟩
    obtain ⟨u1, v1, e1, e2⟩ := key u v huv
    refine countP_lt (fun x hx hq => ?_) ⟨v, by simpa using v1, by simpa using bv, ?_⟩
    · have hx : x < n := by simpa using hx
      simp only [decide_eq_true_eq] at hq ⊢
      exact fun e => hq (good hx e)
    · have := m.le_lab a1 v1
      simp only [decide_eq_false_iff_not, Decidable.not_not]
      unfold passF at *
      omega
  · left
    unfold bad
    rw [List.countP_eq_zero]
    intro x hx
    have hx : x < n := by simpa using hx
    simp only [decide_eq_true_eq, Decidable.not_not]
    refine good hx (Classical.byContradiction fun c => z ⟨x, hx, c⟩)
theorem freeH_go {M : List Nat} (m : Min n T M) : ∀ (k : Nat), Lab n T ((List.range k).foldl (fun h _ => passF n T h) (List.range n)) ∧ (bad n M ((List.range k).foldl (fun h _ => passF n T h) (List.range n)) = 0 ∨ bad n M ((List.range k).foldl (fun h _ => passF n T h) (List.range n)) + k ≤ n)
  | 0 => ⟨lab_range n T, .inr (Nat.le_trans List.countP_le_length (by simp))⟩
  | k + 1 => by
    obtain ⟨a1, a2⟩ := freeH_go m k
    rw [List.range_succ, List.foldl_append]
    obtain ⟨b1, b2⟩ := passF_bad m a1
    refine ⟨b1, ?_⟩
    show bad n M (passF n T _) = 0 ∨ bad n M (passF n T _) + (k + 1) ≤ n
    omega
theorem freeH_eq (n : Nat) (T : List Nat) : freeH n T = joinH n T := by
  have m := joinH_min n T
  obtain ⟨a1, a2⟩ := freeH_go m n
  have z : bad n (joinH n T) (freeH n T) = 0 := by
    unfold freeH
    omega
  refine ext_getD (by rw [m.len]; exact a1.len) fun i hi => ?_
  have hi : i < n := by rw [show (freeH n T).length = n from a1.len] at hi; exact hi
  unfold bad at z
  rw [List.countP_eq_zero] at z
  have := z i (by simpa using hi)
  simpa using this
end G

end
section
set_option maxHeartbeats 4000000
namespace G
open PySem PySem.Spec PyProof.Rows L2
namespace P
def d_need_many : Def := ⟨1, 1, (.cons (.ite (.not (.call "is_among" (.cons (.var 0) (.cons (.cst (.int 1)) (.cons (.glb "MOST_LONG" (.int 24)) .nil))))) (.cons (.rse "BadNumber" (.var 0)) .nil) .nil) .nil)⟩
def d_need_told : Def := ⟨2, 4, (.cons (.expr (.call "need_many" (.cons (.var 0) .nil))) (.cons (.ite (.or (.not (.isi (.var 1) ["tuple"])) (.cons (.cmp .Eq (.var 1) (.tup .nil)) .nil)) (.cons (.rse "BadTold" (.cst .non)) .nil) .nil) (.cons (.for (.two 2 3) (.enum (.var 1)) (.cons (.ite (.or (.not (.call "is_among" (.cons (.var 3) (.cons (.cst (.int 0)) (.cons (.bin .Sub (.var 0) (.cst (.int 1))) .nil))))) (.cons (.cmp .NotEq (.cmp .Eq (.var 3) (.cst (.int 0))) (.cmp .Eq (.var 2) (.cst (.int 0)))) .nil)) (.cons (.rse "BadTold" (.var 2)) .nil) .nil) (.cons (.ite (.and (.cmp .Gt (.var 2) (.cst (.int 0))) (.cons (.cmp .LtE (.var 3) (.idx (.var 1) (.bin .Sub (.var 2) (.cst (.int 1))))) .nil)) (.cons (.rse "BadTold" (.var 2)) .nil) .nil) .nil))) .nil)))⟩
def d_joined : Def := ⟨2, 9, (.cons (.set 2 (.rngs false (.rng1 (.var 0)))) (.cons (.for (.one 3) (.val (.slc (.var 1) (.yes (.cst (.int 1))) .no)) (.cons (.for (.one 5) (.rng1 (.bin .Sub (.var 0) (.var 3))) (.cons (.par2 6 7 false false (.idx (.var 2) (.var 5)) (.idx (.var 2) (.bin .Add (.var 5) (.var 3)))) (.cons (.set 2 (.comp (.ite (.cmp .In (.var 8) (.tup (.cons (.var 6) (.cons (.var 7) .nil)))) (.bi2 .min (.var 6) (.var 7)) (.var 8)) (.one 8) (.val (.var 2)) .no)) .nil))) .nil)) (.cons (.set 4 (.srt (.var 2))) (.cons (.rt (.bi .tuple (.comp (.index (.var 4) (.var 8)) (.one 8) (.val (.var 2)) .no))) .nil))))⟩
def d_free_word : Def := ⟨2, 2, (.cons (.expr (.call "need_told" (.cons (.var 0) (.cons (.var 1) .nil)))) (.cons (.rt (.call "joined" (.cons (.var 0) (.cons (.var 1) .nil)))) .nil))⟩
def d_count_lots : Def := ⟨2, 2, (.cons (.expr (.call "need_told" (.cons (.var 0) (.cons (.var 1) .nil)))) (.cons (.rt (.bin .Add (.bi .max (.call "joined" (.cons (.var 0) (.cons (.var 1) .nil)))) (.cst (.int 1)))) .nil))⟩
def d_closed : Def := ⟨2, 2, (.cons (.rt (.call "shifts_in" (.cons (.call "joined" (.cons (.var 0) (.cons (.var 1) .nil))) .nil))) .nil)⟩
def d_closure : Def := ⟨2, 2, (.cons (.expr (.call "need_told" (.cons (.var 0) (.cons (.var 1) .nil)))) (.cons (.rt (.call "closed" (.cons (.var 0) (.cons (.var 1) .nil)))) .nil))⟩
def d_is_shift_set : Def := ⟨2, 2, (.cons (.expr (.call "need_told" (.cons (.var 0) (.cons (.var 1) .nil)))) (.cons (.rt (.cmp .Eq (.call "closed" (.cons (.var 0) (.cons (.var 1) .nil))) (.var 1))) .nil))⟩
def d_ltold : Def := ⟨2, 8, (.cons (.par2 2 3 false false (.call "_law_word" (.cons (.var 0) (.cons (.var 1) .nil))) (.call "_law_draw" (.cons (.var 0) (.cons (.cst (.int 4)) .nil)))) (.cons (.par2 4 5 false false (.bi .len (.var 2)) (.call "_law_shifts" (.cons (.var 2) .nil))) (.cons (.ite (.cmp .Eq (.var 3) (.cst (.int 1))) (.cons (.set 5 (.bin .Add (.tup (.cons (.cst (.int 0)) .nil)) (.bi .tuple (.comp (.var 7) (.one 7) (.val (.slc (.var 5) (.yes (.cst (.int 1))) .no)) (.yes (.cmp .Eq (.call "_law_draw" (.cons (.var 0) (.cons (.cst (.int 2)) .nil))) (.cst (.int 0)))))))) .nil) .nil) (.cons (.ite (.cmp .Eq (.var 3) (.cst (.int 2))) (.cons (.set 6 (.bin .Add (.cst (.int 2)) (.call "_law_draw" (.cons (.var 0) (.cons (.cst (.int 6)) .nil))))) (.cons (.set 5 (.bin .Add (.tup (.cons (.cst (.int 0)) .nil)) (.bi .tuple (.comp (.var 7) (.one 7) (.rng2 (.cst (.int 1)) (.var 4)) (.yes (.cmp .Eq (.call "_law_draw" (.cons (.var 0) (.cons (.var 6) .nil))) (.cst (.int 0)))))))) .nil)) .nil) (.cons (.ite (.cmp .Eq (.var 3) (.cst (.int 3))) (.cons (.set 5 (.bi .tuple (.srt (.bin .Add (.var 5) (.tup (.cons (.call "_law_draw" (.cons (.var 0) (.cons (.var 4) .nil))) .nil)))))) .nil) .nil) (.cons (.rt (.tup (.cons (.var 4) (.cons (.var 5) .nil)))) .nil))))))⟩
def d_lfree : Def := ⟨2, 9, (.cons (.own 2 (.rngs false (.rng1 (.var 0)))) (.cons (.for (.one 3) (.rng1 (.var 0)) (.cons (.for (.one 5) (.val (.slc (.var 1) (.yes (.cst (.int 1))) .no)) (.cons (.for (.one 6) (.rng1 (.bin .Sub (.var 0) (.var 5))) (.cons (.set 7 (.bi2 .min (.idx (.var 2) (.var 6)) (.idx (.var 2) (.bin .Add (.var 6) (.var 5))))) (.cons (.put2 2 (.var 6) (.bin .Add (.var 6) (.var 5)) (.var 7) (.var 7)) .nil))) .nil)) .nil)) (.cons (.set 4 (.srt (.var 2))) (.cons (.frz 2) (.cons (.rt (.bi .tuple (.comp (.index (.var 4) (.var 8)) (.one 8) (.val (.var 2)) .no))) .nil)))))⟩
def d_lis_in : Def := ⟨2, 3, (.cons (.rt (.cmp .Eq (.comp (.var 2) (.one 2) (.val (.var 0)) (.yes (.cmp .NotIn (.var 2) (.var 1)))) (.lst .nil))) .nil)⟩
def d_lmeasure : Def := ⟨2, 2, (.cons (.whl (.cmp .Gt (.var 1) (.cst (.int 0))) (.cons (.par2 0 1 false false (.var 1) (.bin .Mod (.bi .int (.var 0)) (.var 1))) .nil)) (.cons (.rt (.var 0)) .nil))⟩
end P
structure H5 (Γ : Str → Option Fn) : Prop extends H1 Γ where
  need_many : Γ "need_many" = some (.code P.d_need_many)
  need_told : Γ "need_told" = some (.code P.d_need_told)
structure H6 (Γ : Str → Option Fn) : Prop extends H3 Γ where
  joined : Γ "joined" = some (.code P.d_joined)
structure H7 (Γ : Str → Option Fn) : Prop extends H6 Γ where
  closed : Γ "closed" = some (.code P.d_closed)
def canon (h : List Nat) : List Nat := h.map fun (x : Nat) => (usort (h.map fun (n : Nat) => (n : Int))).findIdx fun z => z == (x : Int)
def fwN (n : Nat) (T : List Nat) : List Nat := canon (joinH n T.tail)
def lN (l : List Nat) : PyData := .list (l.map fun (n : Nat) => PyData.int (n : Int))
section
variable {Γ : Str → Option Fn} {W n : Nat} {m : Ms}
theorem run_need_many (h : H5 Γ) (d : PyData) : run Γ W (n + 3) "need_many" [.p d] m = if among d 1 24 = true then ret (.p .none) m else some (.exc "BadNumber" d, m) := by
  rw [run_code h.need_many rfl]
  simp [P.d_need_many, startR, run_is_among h.toH1]
  cases among d 1 24 <;> simp
def toldBad (many : Int) (k : Nat) (last : Option Int) : List PyData → Option Nat
  | [] => none
  | .int i :: xs => if (0 ≤ i ∧ i ≤ many - 1) ∧ (i = 0 ↔ k = 0) ∧ last.all (fun j => decide (j < i)) = true then toldBad many (k + 1) (some i) xs else some k
  | _ :: _ => some k
theorem told_loop (h : H5 Γ) (many : Int) (told : List PyData) : ∀ (xs pre : List PyData) (last : Option Int) (a b : Option Slot), told = pre ++ xs → (match last with | none => pre = [] | some j => ∃ p, pre = p ++ [.int j]) →
    bnd (bnd (forGo (lturn (run Γ W (n + 2)) W (.two 2 3) (.cons (.ite (.or (.not (.call "is_among" (.cons (.var 3) (.cons (.cst (.int 0)) (.cons (.bin .Sub (.var 0) (.cst (.int 1))) .nil))))) (.cons (.cmp .NotEq (.cmp .Eq (.var 3) (.cst (.int 0))) (.cmp .Eq (.var 2) (.cst (.int 0)))) .nil)) (.cons (.rse "BadTold" (.var 2)) .nil) .nil) (.cons (.ite (.and (.cmp .Gt (.var 2) (.cst (.int 0))) (.cons (.cmp .LtE (.var 3) (.idx (.var 1) (.bin .Sub (.var 2) (.cst (.int 1))))) .nil)) (.cons (.rse "BadTold" (.var 2)) .nil) .nil) .nil))) (enumK pre.length xs) [some (.fz (.p (.int many))), some (.fz (.p (.tuple told))), a, b] m) (kb (run Γ W (n + 2)) W .nil)) endF
      = orBad "BadTold" m ((toldBad many pre.length last xs).map fun (k : Nat) => PyData.int (k : Int))
  | [], pre, last, a, b, _, _ => by simp [enumK, forGo, toldBad]
  | x :: xs, pre, last, a, b, ht, hl => by
    have ih := told_loop h many told xs (pre ++ [x])
    rw [enumK, forGo]
    cases hx : among x 0 (many - 1) with
    | false =>
      have e : toldBad many pre.length last (x :: xs) = some pre.length := by
        cases x with
        | int i =>
          rw [toldBad, if_neg]
          intro ⟨q, _⟩
          simp [among] at hx
          omega
        | _ => rfl
      rw [e]
      simp [run_is_among h.toH1, hx]
    | true =>
      cases x with
      | int i =>
        have hx2 := hx
        simp [among] at hx2
        cases last with
        | none =>
          have hl : pre = [] := hl
          subst hl
          by_cases q1 : i = 0
          · subst q1
            rw [toldBad, if_pos ⟨by omega, by simp, rfl⟩]
            have := ih (some 0) (some (.fz (.p (.int (([] : List PyData).length : Int))))) (some (.fz (.p (.int 0)))) ht ⟨[], rfl⟩
            simp only [List.nil_append, List.length_cons, List.length_nil, Nat.zero_add] at this
            simp [run_is_among h.toH1, hx]
            simpa using this
          · rw [toldBad, if_neg (fun z => q1 (by simpa using z.2.1))]
            simp [run_is_among h.toH1, hx, q1]
        | some j =>
          obtain ⟨p, rfl⟩ := hl
          have lp : ¬ ((p.length : Int) + 1 = 0) := by omega
          have lq : (0 : Int) < (p.length : Int) + 1 := by omega
          have e3 : L2.atI told (p.length : Int) = some (.int j) := by
            rw [at_nat, ht]; simp
          by_cases q1 : i = 0
          · subst q1
            rw [toldBad, if_neg (fun z => by simpa using z.2.1)]
            simp [run_is_among h.toH1, hx, lp]
          · by_cases q2 : j < i
            · have q3 : ¬ i ≤ j := by omega
              rw [toldBad, if_pos ⟨by omega, by simp [q1], by simp [q2]⟩]
              have := ih (some i) (some (.fz (.p (.int ((p.length : Int) + 1))))) (some (.fz (.p (.int i)))) (by rw [ht]; simp) ⟨_, rfl⟩
              simp [run_is_among h.toH1, hx, lp, lq, q1, e3, q3]
              simpa using this
            · have q3 : i ≤ j := by omega
              rw [toldBad, if_neg (fun z => by simpa [q2] using z.2.2)]
              simp [run_is_among h.toH1, hx, lp, lq, q1, e3, q3]
      | _ => simp [among] at hx
def toldErr (many : Int) : PyData → Option PyData
  | .tuple (x :: xs) => (toldBad many 0 none (x :: xs)).map fun (k : Nat) => .int (k : Int)
  | _ => some .none
theorem run_need_told (h : H5 Γ) (dm d : PyData) (hs : ∀ l, d = .tuple l → SeqAt.shaped d = true) : run Γ W (n + 4) "need_told" [.p dm, .p d] m = (match dm with
    | .int many => if among dm 1 24 = true then orBad "BadTold" m (toldErr many d) else some (.exc "BadNumber" dm, m)
    | _ => some (.exc "BadNumber" dm, m)) := by
  rw [run_code h.need_told rfl]
  have bad : among dm 1 24 = false → bnd (exB (run Γ W (n + 3)) W P.d_need_told.body (startR P.d_need_told.ns [.p dm, .p d]) m) endF = some (.exc "BadNumber" dm, m) := fun e => by
    simp [P.d_need_told, startR, run_need_many h, e]
  cases dm with
  | int many =>
    cases e : among (.int many) 1 24 with
    | false => simpa [e] using bad e
    | true =>
      simp only [if_true]
      cases d with
      | tuple l =>
        have sh := hs l rfl
        have e1 : eqD (.tuple l) (.tuple []) = some (PyData.eqvAll l []) := by
          rw [eqD_shaped sh rfl (fun ⟨_, h⟩ => nomatch h), PyData.eqv]
        cases l with
        | nil =>
          simp [P.d_need_told, startR, run_need_many h, e, tyD, isTy, e1, toldErr, PyData.eqvAll, show 0 ≤ lim by decide]
        | cons x xs =>
          have := told_loop (W := W) (n := n + 1) (m := m) h many (x :: xs) (x :: xs) [] none none none rfl rfl
          simp [P.d_need_told, startR, run_need_many h, e, tyD, isTy, e1, toldErr, PyData.eqvAll, show 0 ≤ lim by decide, enumL_eq]
          simpa using this
      | _ => simp [P.d_need_told, startR, run_need_many h, e, tyD, isTy, toldErr]
  | _ => exact bad rfl
def Told (n : Nat) (T : List Nat) : Prop := T.Pairwise (· < ·) ∧ (∀ s ∈ T, s < n) ∧ T.head? = some 0
theorem toldBad_ok {n : Nat} : ∀ (T : List Nat) (k : Nat) (last : Nat), (last :: T).Pairwise (· < ·) → (∀ s ∈ T, s < n) → 0 < k → toldBad (n : Int) k (some (last : Int)) (T.map fun (n : Nat) => PyData.int (n : Int)) = none
  | [], _, _, _, _, _ => rfl
  | t :: T, k, last, hp, hl, hk => by
    have ⟨h1, h2⟩ := List.pairwise_cons.mp hp
    have h3 := h1 t (by simp)
    have h4 := hl t (by simp)
    rw [List.map_cons, toldBad, if_pos ⟨by omega, by omega, by simp; omega⟩]
    exact toldBad_ok T (k + 1) t h2 (fun s hs => hl s (by simp [hs])) (by omega)
theorem toldErr_ok {n : Nat} {T : List Nat} (h : Told n T) : toldErr (n : Int) (tN T) = none := by
  obtain ⟨h1, h2, h3⟩ := h
  cases T with
  | nil => cases h3
  | cons t T =>
    have : t = 0 := by simpa using h3
    subst this
    have h4 := h2 0 (by simp)
    show ((toldBad (n : Int) 0 none (PyData.int ((0 : Nat) : Int) :: T.map fun (n : Nat) => PyData.int (n : Int))).map fun (k : Nat) => PyData.int (k : Int)) = none
    rw [toldBad, if_pos ⟨by omega, by simp, rfl⟩, toldBad_ok T 1 0 h1 (fun s hs => h2 s (by simp [hs])) (by decide)]
    rfl
theorem run_need_told_ok (h : H5 Γ) {k : Nat} {T : List Nat} (hk : 1 ≤ k ∧ k ≤ 24) (ht : Told k T) : run Γ W (n + 4) "need_told" [.p (.int (k : Int)), .p (tN T)] m = ret (.p .none) m := by
  rw [run_need_told h _ _ (fun l e => shaped_tN T)]
  have : among (.int (k : Int)) 1 24 = true := by simp [among]; omega
  simp only [this, if_true, toldErr_ok ht, orBad_none]
theorem foldl_take {α β : Type} (f : α → β → α) (a : α) (l : List β) {i : Nat} {x : β} (h : l[i]? = some x) : (l.take (i + 1)).foldl f a = f ((l.take i).foldl f a) x := by
  rw [List.take_add_one, h]
  simp
theorem getD_lN (l : List Nat) {i : Nat} (h : i < l.length) : L2.atI (l.map fun (n : Nat) => PyData.int (n : Int)) (i : Int) = some (.int ((l.getD i 0 : Nat) : Int)) := by
  rw [at_nat, List.getElem?_map, List.getElem?_eq_getElem h, List.getD_eq_getElem?_getD, List.getElem?_eq_getElem h]; rfl
theorem canon_ix {h : List Nat} {x : Nat} (hx : x ∈ h) : (((usort (h.map fun (n : Nat) => (n : Int))).map PyData.int).findIdx? fun z => PyData.eqv z (.int (x : Int))) = some ((usort (h.map fun (n : Nat) => (n : Int))).findIdx fun z => z == (x : Int)) := by
  have mem : (x : Int) ∈ usort (h.map fun (n : Nat) => (n : Int)) := mem_usort.mpr (List.mem_map.mpr ⟨x, hx, rfl⟩)
  generalize usort (h.map fun (n : Nat) => (n : Int)) = l at *
  rw [List.findIdx?_map]
  have e : ((fun z => PyData.eqv z (PyData.int (x : Int))) ∘ PyData.int) = fun z => z == (x : Int) := by
    funext z
    show PyData.eqv (.int z) (.int x) = _
    rw [PyData.eqv]
  rw [e]
  rw [List.findIdx?_eq_some_iff_findIdx_eq]
  exact ⟨List.findIdx_lt_length_of_exists ⟨_, mem, by simp⟩, rfl⟩
theorem stepJ_len {s k : Nat} : ∀ (l : List Nat) {h : List Nat}, h.length = k → (l.foldl (stepJ s) h).length = k
  | [], _, e => e
  | p :: l, h, e => stepJ_len l (by unfold stepJ; rw [List.length_map]; exact e)
theorem roundJ_len {k : Nat} : ∀ (l : List Nat) {h : List Nat}, h.length = k → (l.foldl (roundJ k) h).length = k
  | [], _, e => e
  | p :: l, h, e => roundJ_len l (stepJ_len _ e)
theorem run_joined (h : H6 Γ) {k : Nat} {T : List Nat} (hk : k ≤ 63) (hT : ∀ s ∈ T, s < k) : run Γ W (n + 1) "joined" [.p (.int (k : Int)), .p (tN T)] m = ret (.p (tN (fwN k T))) m := by
  rw [run_code h.joined rfl]
  apply eq_of_tw
  refine tw_bnd.mpr ?_
  have hl : k ≤ lim := by unfold lim; omega
  unfold P.d_joined
  refine tw_set (v := .p (lN (List.range k))) (m' := m) (by simp [startR, rngOk_of (show -1000000 ≤ (0 : Int) ∧ (0 : Int) ≤ 1000000 ∧ -1000000 ≤ (k : Int) ∧ (k : Int) ≤ 1000000 by omega), rngL_zero]; rfl) ?_
  change tw (exB _ _ _ [some (.fz (.p (.int (k : Int)))), some (.fz (.p (tN T))), some (.fz (.p (lN (List.range k)))), none, none, none, none, none, none] _) _
  have e1 : slcD (tN T) (some 1) none = some (tN T.tail) := by
    show some (PyData.tuple (cutD _ (some ((1 : Nat) : Int)) none)) = _
    rw [cut_from, List.drop_one, ← List.map_tail]
  refine tw_loop (xs := T.tail.map fun (n : Nat) => PyData.int (n : Int)) (m' := m) (by simp [e1]) (fun i ρ m' => m' = m ∧ ∃ a3 a4 a5 a6 a7 a8 : Option Slot, ρ = [some (.fz (.p (.int (k : Int)))), some (.fz (.p (tN T))), some (.fz (.p (lN ((T.tail.take i).foldl (roundJ k) (List.range k))))), a3, a4, a5, a6, a7, a8]) ⟨rfl, none, none, none, none, none, none, rfl⟩ ?_ ?_
  · rintro i x ρ m1 hx ⟨rfl, a3, a4, a5, a6, a7, a8, rfl⟩
    rw [List.getElem?_map] at hx
    obtain ⟨s, hs, rfl⟩ := Option.map_eq_some_iff.mp hx
    have sT : s < k := hT s (List.mem_of_mem_tail (List.mem_of_getElem? hs))
    have hl0 : ((T.tail.take i).foldl (roundJ k) (List.range k)).length = k := roundJ_len _ (by simp)
    rw [lturn_one]
    dsimp only [List.set]
    generalize hh : (T.tail.take i).foldl (roundJ k) (List.range k) = h0 at *
    refine tw_loop (xs := (List.range (k - s)).map fun (n : Nat) => PyData.int (n : Int)) (m' := m1) (by simp [rngOk_of (show -1000000 ≤ (0 : Int) ∧ (0 : Int) ≤ 1000000 ∧ -1000000 ≤ ((k : Int) - (s : Int)) ∧ ((k : Int) - (s : Int)) ≤ 1000000 by omega), rngL_zero]) (fun j ρ m' => m' = m1 ∧ ∃ a4 a5 a6 a7 a8 : Option Slot, ρ = [some (.fz (.p (.int (k : Int)))), some (.fz (.p (tN T))), some (.fz (.p (lN (((List.range (k - s)).take j).foldl (stepJ s) h0)))), some (.fz (.p (.int (s : Int)))), a4, a5, a6, a7, a8]) ⟨rfl, _, _, _, _, _, rfl⟩ ?_ ?_
    · rintro j x ρ m2 hx ⟨rfl, a4, a5, a6, a7, a8, rfl⟩
      have hj : j < k - s := by have := (List.getElem?_eq_some_iff.mp hx).1; simpa using this
      have ex : x = .int (j : Int) := by
        rw [List.getElem?_map, List.getElem?_range hj] at hx
        exact (Option.some.inj hx).symm
      subst ex
      have hlen : (((List.range (k - s)).take j).foldl (stepJ s) h0).length = k := stepJ_len _ hl0
      rw [lturn_one]
      dsimp only [List.set]
      have ft := foldl_take (stepJ s) h0 (List.range (k - s)) (List.getElem?_range hj)
      rw [ft]
      generalize ((List.range (k - s)).take j).foldl (stepJ s) h0 = h1 at *
      have g1 := getD_lN h1 (i := j) (by omega)
      have g2 := getD_lN h1 (i := j + s) (by omega)
      rw [Int.natCast_add] at g2
      refine tw_par2 (u := .p (.int ((h1.getD j 0 : Nat) : Int))) (v := .p (.int ((h1.getD (j + s) 0 : Nat) : Int))) (m' := m2) (m'' := m2) (by simp only [ev_ix, lk_var, List.getElem?_cons_succ, List.getElem?_cons_zero, lkR_fz, bnd_ret', ev_vr, varR_fz, dOf_r, lN, idx_l, g1, Option.map_some, opt_s]) (by simp only [ev_ix, lk_var, List.getElem?_cons_succ, List.getElem?_cons_zero, lkR_fz, bnd_ret', ev_vr, varR_fz, dOf_r, lN, idx_l, ev_bnr, bin_add, g2, Option.map_some, opt_s]) ?_
      dsimp only [List.set]
      unfold stepJ
      generalize h1.getD j 0 = a
      generalize h1.getD (j + s) 0 = b
      refine tw_set (v := .p (lN (h1.map fun x => if x = a ∨ x = b then min a b else x))) (m' := m2) ?_ (tw_nil ⟨_, rfl, rfl, _, _, _, _, _, rfl⟩)
      have hl1 : h1.length ≤ lim := by omega
      simp [lN, hl1]
      rw [compGo_all (fun x : Nat => PyData.int ((if x = a ∨ x = b then min a b else x : Nat) : Int)) (fun x hx => ?_)]
      · rfl
      · rw [turn_one]
        have e3 : inD (.int (x : Int)) (.tuple [.int (a : Int), .int (b : Int)]) = some (decide (x = a ∨ x = b)) := by
          have := in_tN [a, b] x
          simpa using this
        simp [e3, show 2 ≤ lim by decide]
        congr 2
        by_cases q : x = a ∨ x = b
        · simp [q]
          by_cases z : b < a
          · rw [if_pos z]; omega
          · rw [if_neg z]; omega
        · simp [q]
    · rintro ρ' m2 ⟨rfl, a4', a5, a6, a7, a8, rfl⟩
      rw [List.length_map, List.length_range, List.take_of_length_le (by simp)]
      refine tw_nil ⟨_, rfl, rfl, some (.fz (.p (.int (s : Int)))), a4', a5, a6, a7, a8, ?_⟩
      rw [foldl_take (roundJ k) _ _ hs, hh]
      rfl
  · rintro ρ' m1 ⟨rfl, a3, a4, a5, a6, a7, a8, rfl⟩
    rw [List.length_map, List.take_length]
    have hm := joinH_min k T.tail
    change tw (exB _ _ _ [some (.fz (.p (.int (k : Int)))), some (.fz (.p (tN T))), some (.fz (.p (lN (joinH k T.tail)))), a3, a4, a5, a6, a7, a8] _) _
    generalize hh : joinH k T.tail = h0 at *
    have e2 : srtD (lN h0) = some (.list ((usort (h0.map fun (n : Nat) => (n : Int))).map .int)) := by
      have := usort_len (h0.map fun (n : Nat) => (n : Int))
      rw [List.length_map, hm.len] at this
      unfold srtD lN seqI
      rw [mapN]
      simp only [intsL_int, Option.bind_some]
      rw [if_pos]
      rw [List.length_map, hm.len]
      omega
    refine tw_set (v := .p (.list ((usort (h0.map fun (n : Nat) => (n : Int))).map .int))) (m' := m1) (by simp [e2]) ?_
    dsimp only [List.set]
    refine tw_rt (v := .p (tN (fwN k T))) (m' := m1) ?_ (tw_ret.mpr ⟨rfl, rfl⟩)
    have hl0 : h0.length ≤ lim := by rw [hm.len]; exact hl
    simp [lN, hl0]
    rw [compGo_all (fun x : Nat => PyData.int (((usort (h0.map fun (n : Nat) => (n : Int))).findIdx fun z => z == (x : Int) : Nat) : Int)) (fun x hx => ?_)]
    · simp [fwN, hh, canon, tN]; rfl
    · rw [turn_one]
      simp [canon_ix hx]
def fw (k : Nat) (T : List Nat) : List Int := (fwN k T).map fun (n : Nat) => (n : Int)
def lots (k : Nat) (T : List Nat) : Nat := (usort ((joinH k T.tail).map fun (n : Nat) => (n : Int))).length
theorem fw_tN (k : Nat) (T : List Nat) : tN (fwN k T) = tI (fw k T) := tN_tI _
theorem fw_len (k : Nat) (T : List Nat) : (fw k T).length = k := by
  unfold fw fwN canon
  rw [List.length_map, List.length_map, (joinH_min k T.tail).len]
theorem nodup_usort (l : List Int) : (usort l).Nodup := (usort_pair l).imp fun h => by omega
theorem canon_inj {h : List Nat} {x y : Nat} (hx : x ∈ h) (hy : y ∈ h) (e : ((usort (h.map fun (n : Nat) => (n : Int))).findIdx fun z => z == (x : Int)) = ((usort (h.map fun (n : Nat) => (n : Int))).findIdx fun z => z == (y : Int))) : x = y := by
  have mx : (x : Int) ∈ usort (h.map fun (n : Nat) => (n : Int)) := mem_usort.mpr (List.mem_map.mpr ⟨x, hx, rfl⟩)
  have my : (y : Int) ∈ usort (h.map fun (n : Nat) => (n : Int)) := mem_usort.mpr (List.mem_map.mpr ⟨y, hy, rfl⟩)
  generalize usort (h.map fun (n : Nat) => (n : Int)) = l at *
  have a := List.findIdx_getElem (w := List.findIdx_lt_length_of_exists (p := fun z => z == (x : Int)) ⟨_, mx, by simp⟩)
  have b := List.findIdx_getElem (w := List.findIdx_lt_length_of_exists (p := fun z => z == (y : Int)) ⟨_, my, by simp⟩)
  simp only [e] at a
  simp only [beq_iff_eq] at a b
  omega
theorem mem_getD {h : List Nat} {i : Nat} (hi : i < h.length) : h.getD i 0 ∈ h := by
  rw [List.getD_eq_getElem?_getD, List.getElem?_eq_getElem hi]
  exact List.getElem_mem hi
theorem fw_get (k : Nat) (T : List Nat) {i : Nat} (hi : i < k) : (fw k T).getD i 0 = (((usort ((joinH k T.tail).map fun (n : Nat) => (n : Int))).findIdx fun z => z == (((joinH k T.tail).getD i 0 : Nat) : Int) : Nat) : Int) := by
  have hl : i < (joinH k T.tail).length := by rw [(joinH_min k T.tail).len]; exact hi
  unfold fw fwN canon
  rw [List.getD_eq_getElem?_getD, List.getElem?_map, List.getElem?_map, List.getElem?_eq_getElem hl, List.getD_eq_getElem?_getD, List.getElem?_eq_getElem hl]
  rfl
theorem fw_iff {k : Nat} {T : List Nat} {i j : Nat} (hi : i < k) (hj : j < k) : (fw k T).getD i 0 = (fw k T).getD j 0 ↔ Cn (Ed k T.tail) i j := by
  have m := joinH_min k T.tail
  rw [fw_get k T hi, fw_get k T hj, ← m.eq_iff hi hj]
  constructor
  · intro e
    exact canon_inj (mem_getD (by rw [m.len]; exact hi)) (mem_getD (by rw [m.len]; exact hj)) (by omega)
  · intro e; rw [e]
theorem agr_fw {k : Nat} {T : List Nat} {s : Nat} : agr (fw k T) s = true ↔ ∀ i, i + s < k → Cn (Ed k T.tail) i (i + s) := by
  rw [agr_iff, fw_len]
  constructor
  · intro h i hi
    exact ((fw_iff (by omega) hi).mp (h i hi).symm)
  · intro h i hi
    exact ((fw_iff (by omega) hi).mpr (h i hi)).symm
theorem word_cn {w : List Int} {T : List Nat} (h : ∀ s ∈ T, agr w s = true) {i j : Nat} (c : Cn (Ed w.length T) i j) : w.getD i 0 = w.getD j 0 :=
  c.lift (fun i => w.getD i 0) fun i j ⟨s, hs, e, hj⟩ => by subst e; exact (agr_iff.mp (h s hs) i hj).symm
theorem follows {w : List Int} {T : List Nat} (h : ∀ s ∈ T.tail, agr w s = true) {s : Nat} (hs : agr (fw w.length T) s = true) : agr w s = true := by
  rw [agr_iff]
  intro i hi
  exact (word_cn h (agr_fw.mp hs i hi)).symm
theorem fw_has {k : Nat} {T : List Nat} {s : Nat} (hs : s ∈ T.tail) : agr (fw k T) s = true := by
  rw [agr_fw]
  intro i hi
  exact .one (.inl ⟨s, hs, rfl, hi⟩)
def clo (k : Nat) (T : List Nat) : List Nat := shfs (fw k T)
theorem mem_clo {k : Nat} {T : List Nat} {s : Nat} : s ∈ clo k T ↔ s < k ∧ agr (fw k T) s = true := by
  unfold clo
  rw [mem_shfs, fw_len]
theorem told_sub {k : Nat} {T : List Nat} (h : Told k T) {s : Nat} (hs : s ∈ T) : s ∈ clo k T := by
  refine mem_clo.mpr ⟨h.2.1 s hs, ?_⟩
  cases T with
  | nil => cases hs
  | cons t T =>
    rcases List.mem_cons.mp hs with rfl | hs
    · have : s = 0 := by simpa using h.2.2
      subst this; exact agr_zero _
    · exact fw_has hs
theorem shfs_told {w : List Int} (h : 0 < w.length) : Told w.length (shfs w) := by
  refine ⟨shfs_pair w, fun s hs => shfs_lt hs, ?_⟩
  have z := shfs_zero h
  cases e : shfs w with
  | nil => rw [e] at z; cases z
  | cons t r =>
    rw [e] at z
    rcases List.mem_cons.mp z with q | q
    · rw [← q]; rfl
    · have := (List.pairwise_cons.mp (e ▸ shfs_pair w)).1 0 q
      omega
theorem clo_told {k : Nat} (hk : 0 < k) (T : List Nat) : Told k (clo k T) := by
  have := shfs_told (w := fw k T) (by rw [fw_len]; exact hk)
  rwa [fw_len] at this
theorem clo_shfs (w : List Int) (h : 0 < w.length) : clo w.length (shfs w) = shfs w := by
  refine asc_ext (shfs_pair _) (shfs_pair w) fun s => ?_
  constructor
  · intro hs
    obtain ⟨h1, h2⟩ := mem_clo.mp hs
    exact mem_shfs.mpr ⟨h1, follows (fun t ht => shfs_agr (List.mem_of_mem_tail ht)) h2⟩
  · exact told_sub (shfs_told h)
theorem clo_clo {k : Nat} (hk : 0 < k) (T : List Nat) : clo k (clo k T) = clo k T := by
  have := clo_shfs (fw k T) (by rw [fw_len]; exact hk)
  rwa [fw_len] at this
theorem run_closed (h : H7 Γ) {k : Nat} {T : List Nat} (hk : k ≤ 63) (hT : ∀ s ∈ T, s < k) : run Γ W (n + 3) "closed" [.p (.int (k : Int)), .p (tN T)] m = ret (.p (tN (clo k T))) m := by
  rw [run_code h.closed rfl]
  have := run_shifts_in (W := W) (n := n) (m := m) h.toH3 true (w := fw k T) (by rw [fw_len]; omega)
  rw [sq_true] at this
  simp [P.d_closed, startR, run_joined h.toH6 hk hT, fw_tN, this, clo]
end
end G

end
section
set_option maxHeartbeats 4000000
namespace G
open PySem PySem.Spec PyProof.Rows L2
theorem mx_spec : ∀ (l : List Int) (a : Int), l.foldl max a ∈ a :: l ∧ ∀ y ∈ a :: l, y ≤ l.foldl max a
  | [], a => by simp
  | b :: l, a => by
    obtain ⟨h1, h2⟩ := mx_spec l (max a b)
    rw [List.foldl_cons]
    refine ⟨?_, fun y hy => ?_⟩
    · rcases List.mem_cons.mp h1 with e | h
      · rw [e]
        rcases (show max a b = a ∨ max a b = b by omega) with z | z <;> rw [z] <;> simp
      · exact List.mem_cons_of_mem _ (List.mem_cons_of_mem _ h)
    · have hm := h2 (max a b) List.mem_cons_self
      rcases List.mem_cons.mp hy with rfl | hy
      · omega
      · rcases List.mem_cons.mp hy with rfl | hy
        · omega
        · exact h2 y (List.mem_cons_of_mem _ hy)
theorem maxI_eq {l : List Int} {x : Int} (hx : x ∈ l) (h : ∀ y ∈ l, y ≤ x) : maxI l = some x := by
  cases l with
  | nil => cases hx
  | cons a r =>
    obtain ⟨h1, h2⟩ := mx_spec r a
    exact congrArg some (Int.le_antisymm (h _ h1) (h2 _ hx))
theorem mem_fwN {k : Nat} {T : List Nat} {c : Nat} : c ∈ fwN k T ↔ c < lots k T := by
  unfold fwN canon lots
  generalize joinH k T.tail = h
  rw [List.mem_map]
  constructor
  · rintro ⟨x, hx, rfl⟩
    exact List.findIdx_lt_length_of_exists ⟨_, mem_usort.mpr (List.mem_map.mpr ⟨x, hx, rfl⟩), by simp⟩
  · intro hc
    have hm := List.getElem_mem hc
    obtain ⟨x, hx, e⟩ := List.mem_map.mp (mem_usort.mp hm)
    refine ⟨x, hx, ?_⟩
    have nd := List.pairwise_iff_getElem.mp (usort_pair (h.map fun (n : Nat) => (n : Int)))
    generalize usort (h.map fun (n : Nat) => (n : Int)) = l at *
    have lt : l.findIdx (fun z => z == (x : Int)) < l.length := List.findIdx_lt_length_of_exists ⟨_, hm, by simp [e]⟩
    have a := List.findIdx_getElem (w := lt)
    simp only [beq_iff_eq] at a
    have e2 := a.trans e
    rcases Nat.lt_trichotomy (l.findIdx fun z => z == (x : Int)) c with q | q | q
    · have := nd _ _ lt hc q; omega
    · exact q
    · have := nd _ _ hc lt q; omega
theorem lots_pos {k : Nat} (hk : 0 < k) (T : List Nat) : 0 < lots k T := by
  have := fw_len k T
  unfold fw at this
  rw [List.length_map] at this
  cases e : fwN k T with
  | nil => rw [e] at this; simp at this; omega
  | cons c r => exact Nat.lt_of_le_of_lt (Nat.zero_le c) (mem_fwN.mp (by rw [e]; simp))
theorem max_fw {k : Nat} (hk : 0 < k) (T : List Nat) : maxI (fw k T) = some ((lots k T : Int) - 1) := by
  have := lots_pos hk T
  refine maxI_eq (List.mem_map.mpr ⟨lots k T - 1, mem_fwN.mpr (by omega), by omega⟩) fun y hy => ?_
  obtain ⟨c, hc, rfl⟩ := List.mem_map.mp hy
  have := mem_fwN.mp hc
  omega
theorem lens_fw (k : Nat) (T : List Nat) : (usort (fw k T)).length = lots k T := by
  have nd : ((List.range (lots k T)).map fun (n : Nat) => (n : Int)).Nodup := by
    unfold List.Nodup
    rw [List.pairwise_map]
    exact List.nodup_range.imp fun h e => h (by omega)
  have := usort_card (l := fw k T) nd fun x => by
    rw [List.mem_map, fw, List.mem_map]
    constructor
    · rintro ⟨c, hc, rfl⟩
      exact ⟨c, mem_fwN.mpr (by simpa using hc), rfl⟩
    · rintro ⟨c, hc, rfl⟩
      exact ⟨c, by simpa using mem_fwN.mp hc, rfl⟩
  rw [← this]; simp
structure H8 (Γ : Str → Option Fn) : Prop extends H5 Γ, H7 Γ where
  free_word : Γ "free_word" = some (.code P.d_free_word)
  count_lots : Γ "count_lots" = some (.code P.d_count_lots)
  closure : Γ "closure" = some (.code P.d_closure)
  is_shift_set : Γ "is_shift_set" = some (.code P.d_is_shift_set)
section
variable {Γ : Str → Option Fn} {W n : Nat} {m : Ms} {k : Nat} {T : List Nat}
theorem run_free_word (h5 : H5 Γ) (h6 : H6 Γ) (h : Γ "free_word" = some (.code P.d_free_word)) (hk : 1 ≤ k ∧ k ≤ 24) (ht : Told k T) : run Γ W (n + 5) "free_word" [.p (.int (k : Int)), .p (tN T)] m = ret (.p (tI (fw k T))) m := by
  rw [run_code h rfl]
  simp [P.d_free_word, startR, run_need_told_ok h5 hk ht, run_joined h6 (show k ≤ 63 by omega) ht.2.1, fw_tN]
theorem run_count_lots (h5 : H5 Γ) (h6 : H6 Γ) (h : Γ "count_lots" = some (.code P.d_count_lots)) (hk : 1 ≤ k ∧ k ≤ 24) (ht : Told k T) : run Γ W (n + 5) "count_lots" [.p (.int (k : Int)), .p (tN T)] m = ret (.p (.int (lots k T : Int))) m := by
  rw [run_code h rfl]
  simp [P.d_count_lots, startR, run_need_told_ok h5 hk ht, run_joined h6 (show k ≤ 63 by omega) ht.2.1, fw_tN, max_fw hk.1]
theorem run_closure (h5 : H5 Γ) (h7 : H7 Γ) (h : Γ "closure" = some (.code P.d_closure)) (hk : 1 ≤ k ∧ k ≤ 24) (ht : Told k T) : run Γ W (n + 5) "closure" [.p (.int (k : Int)), .p (tN T)] m = ret (.p (tN (clo k T))) m := by
  rw [run_code h rfl]
  simp [P.d_closure, startR, run_need_told_ok h5 hk ht, run_closed h7 (show k ≤ 63 by omega) ht.2.1]
theorem run_is_shift_set (h5 : H5 Γ) (h7 : H7 Γ) (h : Γ "is_shift_set" = some (.code P.d_is_shift_set)) (hk : 1 ≤ k ∧ k ≤ 24) (ht : Told k T) : run Γ W (n + 5) "is_shift_set" [.p (.int (k : Int)), .p (tN T)] m = ret (.p (.bool (decide (clo k T = T)))) m := by
  rw [run_code h rfl]
  simp [P.d_is_shift_set, startR, run_need_told_ok h5 hk ht, run_closed h7 (show k ≤ 63 by omega) ht.2.1]
theorem run_lis_in {f : Str} (h : Γ f = some (.code P.d_lis_in)) {a b : List Nat} (ha : a.length ≤ lim) : run Γ W (n + 1) f [.p (tN a), .p (tN b)] m = ret (.p (.bool (a.all fun s => decide (s ∈ b)))) m := by
  rw [run_code h rfl]
  simp [P.d_lis_in, startR, ha]
  rw [compGo_sel (fun s : Nat => !decide (s ∈ b)) (fun (s : Nat) => PyData.int (s : Int)) (fun i hi => by rw [turn_one]; simp)]
  have := eqD_lN (a.filter fun s => !decide (s ∈ b)) []
  simp only [List.map_nil] at this
  simp [this, show 0 ≤ lim by decide]
  congr 3
  rw [Bool.eq_iff_iff]
  simp
end
end G

end
section
set_option maxHeartbeats 4000000
namespace G
open PySem PySem.Spec PyProof.Rows L2
section
variable {Γ : Str → Option Fn} {W n : Nat} {m : Ms}
theorem tw_pick (h : Γ "_law_draw" = some .draw) {ρ : Rho} {a : E} {i j : Nat} {l : Int} (hj : j < ρ.length) (e0 : ∀ x : PyData, (ρ.set j (some (.fz (.p x))))[i]? = some (some (.fz .drw))) (ea : ∀ (x : PyData) (m : Ms), ev (run Γ W (n + 3)) a (ρ.set j (some (.fz (.p x)))) m = ret (.p (.int l)) m) (h0 : 0 < l) (h1 : l < 1073741824)
    (xs : List Nat) (k : Nat) (hk : k + xs.length < 2 ^ 40) (hd : Dr k m) :
    tw (compGo (turn (run Γ W (n + 3)) (.var j) (.one j) (.yes (.cmp .Eq (.call "_law_draw" (.cons (.var i) (.cons a .nil))) (.cst (.int 0)))) ρ) (xs.map fun (n : Nat) => PyData.int (n : Int)) m) fun ys m' => ∃ zs : List Nat, zs.Sublist xs ∧ ys = (zs.map fun (n : Nat) => PyData.int (n : Int)) ∧ Dr (k + xs.length) m' := by
  induction xs generalizing k m with
  | nil => exact tw_ret.mpr ⟨[], .slnil, rfl, hd⟩
  | cons x xs ih =>
    rw [List.length_cons] at hk
    rw [List.map_cons, compGo]
    simp only [turn_one, evC_yes, ev_cmp, ev_call, eva_cons, eva_nil, ev_vr, e0, varR_fz, ea, dOf_bnd', bnd_assoc, bnd_ret']
    refine tw_seq (P := fun y m' => isI 0 l y ∧ Dr (k + 1) m') (tw_dOf (tw_draw h h0 h1 (by omega) hd fun i m' a1 a2 a3 => ⟨_, rfl, ⟨i, rfl, a1, a2⟩, a3⟩)) fun y m1 ⟨⟨v, e, _, _⟩, i1⟩ => ?_
    subst e
    have ej : (ρ.set j (some (.fz (.p (.int (x : Int))))))[j]? = some (some (.fz (.p (.int (x : Int))))) := List.getElem?_set_self hj
    simp only [ev_cst, lit_int, dOf_r, bnd_ret', cmp_eq, eqD_int, Option.map_some, opt_s, boolOf_bool, ej, varR_fz]
    by_cases q : v = 0
    · simp only [q, decide_true, if_true, bnd_ret']
      refine tw_seq (ih (k + 1) (by omega) i1) fun ys m2 ⟨zs, h1, h2, h3⟩ => tw_ret.mpr ⟨x :: zs, h1.cons_cons x, by rw [h2]; rfl, by rw [List.length_cons, show k + (xs.length + 1) = k + 1 + xs.length by omega]; exact h3⟩
    · simp only [q, decide_false, Bool.false_eq_true, if_false, bnd_ret']
      refine tw_seq (ih (k + 1) (by omega) i1) fun ys m2 ⟨zs, h1, h2, h3⟩ => tw_ret.mpr ⟨zs, h1.cons x, h2, by rw [List.length_cons, show k + (xs.length + 1) = k + 1 + xs.length by omega]; exact h3⟩
theorem told_cons {k : Nat} (hk : 1 ≤ k) {l zs : List Nat} (hp : l.Pairwise (· < ·)) (hl : ∀ s ∈ l, 0 < s ∧ s < k) (hz : zs.Sublist l) : Told k (0 :: zs) :=
  ⟨List.pairwise_cons.mpr ⟨fun s hs => (hl s (hz.subset hs)).1, hp.sublist hz⟩, fun s hs => by
    rcases List.mem_cons.mp hs with rfl | hs
    · omega
    · exact (hl s (hz.subset hs)).2, rfl⟩
theorem nats_of : ∀ {w : List Int}, (∀ x ∈ w, 0 ≤ x) → ∃ l : List Nat, w = l.map fun (n : Nat) => (n : Int)
  | [], _ => ⟨[], rfl⟩
  | x :: w, h => by
    obtain ⟨l, e⟩ := nats_of (w := w) fun y hy => h y (by simp [hy])
    obtain ⟨k, rfl⟩ := Int.eq_ofNat_of_zero_le (h x (by simp))
    exact ⟨k :: l, by rw [e]; rfl⟩
theorem told_usort {k : Nat} {T : List Nat} (h : Told k T) {v : Nat} (hv : v < k) : ∃ S : List Nat, usort ((T.map fun (n : Nat) => (n : Int)) ++ [(v : Int)]) = (S.map fun (n : Nat) => (n : Int)) ∧ Told k S := by
  obtain ⟨S, e⟩ := nats_of (w := usort ((T.map fun (n : Nat) => (n : Int)) ++ [(v : Int)])) fun x hx => by
    rcases List.mem_append.mp (mem_usort.mp hx) with q | q
    · obtain ⟨y, _, rfl⟩ := List.mem_map.mp q; omega
    · rw [List.mem_singleton.mp q]; omega
  have mem : ∀ s : Nat, s ∈ S ↔ s ∈ T ∨ s = v := fun s => by
    have : (s : Int) ∈ usort ((T.map fun (n : Nat) => (n : Int)) ++ [(v : Int)]) ↔ s ∈ S := by rw [e]; exact mem_cast
    rw [← this, mem_usort, List.mem_append, mem_cast, List.mem_singleton, Int.natCast_inj]
  have pw : S.Pairwise (· < ·) := by
    have := usort_pair ((T.map fun (n : Nat) => (n : Int)) ++ [(v : Int)])
    rw [e, List.pairwise_map] at this
    exact this.imp fun h => by omega
  refine ⟨S, e, pw, fun s hs => ?_, ?_⟩
  · rcases (mem s).mp hs with q | q
    · exact h.2.1 s q
    · omega
  · have z : 0 ∈ S := (mem 0).mpr (.inl (by
      cases T with
      | nil => cases h.2.2
      | cons t T => have := h.2.2; simp at this; simp [this]))
    cases S with
    | nil => cases z
    | cons t S =>
      rcases List.mem_cons.mp z with q | q
      · rw [← q]; rfl
      · have := (List.pairwise_cons.mp pw).1 0 q; omega
theorem tw_ltold (h : Γ "_law_draw" = some .draw) (hw : Γ "_law_word" = some (.code P.d_lword)) (hs : Γ "_law_shifts" = some (.code P.d_lshifts)) (ht : Γ "_law_told" = some (.code P.d_ltold)) {most k : Nat} (h0 : 1 ≤ most) (h1 : most ≤ 60) (hk : k < 1000000) (hd : Dr k m) {Q : Val → Ms → Prop}
    (q : ∀ (j : Nat) (T : List Nat) m', 1 ≤ j → j ≤ most → Told j T → Dr (k + 4100) m' → Q (.p (.tuple [.int (j : Int), tN T])) m') : tw (run Γ W (n + 5) "_law_told" [.drw, .p (.int (most : Int))] m) Q := by
  rw [run_code ht rfl]
  simp only [P.d_ltold, startR, List.map_cons, List.map_nil, List.length_cons, List.length_nil]
  simp
  refine tw_seq (P := fun v m' => ∃ w, v = .p (tI w) ∧ 1 ≤ w.length ∧ w.length ≤ most ∧ Dr (k + 4000) m') (tw_lword h hw h0 (by omega) hk hd fun w m' q1 q2 q3 q4 => ⟨w, rfl, q1, q2, q4⟩) fun v m1 ⟨w, e, l1, l2, d1⟩ => ?_
  subst e
  refine tw_seq (P := fun y m' => (∃ i, y = .p (.int i) ∧ 0 ≤ i ∧ i < 4) ∧ Dr (k + 4001) m') (tw_draw h (by omega) (by omega) (by omega) d1 fun i m' a1 a2 a3 => ⟨⟨i, rfl, a1, a2⟩, a3⟩) fun y m2 ⟨⟨way, e, p3, p4⟩, i2⟩ => ?_
  subst e
  have hl : w.length ≤ lim := by unfold lim; omega
  have ll : (shfs w).length ≤ w.length := by
    have := List.length_filter_le (agr w) (List.range w.length)
    simpa [shfs] using this
  have lsm : (shfs w).length ≤ lim := by omega
  have r1 : ∀ m, run Γ W (n + 4) "_law_shifts" [.p (tI w)] m = ret (.p (tN (shfs w))) m := fun m => run_lshifts hs (by omega)
  have tS := shfs_told (w := w) (by omega)
  have s1 : slcD (tN (shfs w)) (some 1) none = some (tN (shfs w).tail) := by
    show some (PyData.tuple (cutD _ (some ((1 : Nat) : Int)) none)) = _
    rw [cut_from, List.drop_one, ← List.map_tail]
  have tl : (shfs w).tail.length ≤ lim := by rw [List.length_tail]; omega
  have b1 : 1 ≤ lim := by decide
  have b2 : 2 ≤ lim := by decide
  have hpos : ∀ s ∈ (shfs w).tail, 0 < s ∧ s < w.length := fun s hs => by
    refine ⟨?_, shfs_lt (List.mem_of_mem_tail hs)⟩
    cases e : shfs w with
    | nil => rw [e] at hs; cases hs
    | cons t r =>
      rw [e] at hs
      have := (List.pairwise_cons.mp (e ▸ shfs_pair w)).1 s hs
      omega
  have tp : (shfs w).tail.Pairwise (· < ·) := (shfs_pair w).tail
  have : way = 0 ∨ way = 1 ∨ way = 2 ∨ way = 3 := by omega
  rcases this with e | e | e | e <;> subst e
  · simp [r1, b1, b2]
    exact q _ _ m2 l1 l2 tS (i2.mono (by omega))
  · simp [r1, b1, b2, s1, tl]
    rw [if_pos (by omega), ← List.map_tail]
    refine tw_seq (tw_pick h (l := 2) (k := k + 4001) (by simp) (by intros; rfl) (by intros; simp) (by omega) (by omega) (shfs w).tail (by rw [List.length_tail]; omega) i2) fun ys m3 ⟨zs, h5, h6, h7⟩ => ?_
    subst h6
    have h8 := h5.length_le
    have h9 : 1 + zs.length ≤ lim := by rw [List.length_tail] at h8; unfold lim; omega
    simp [h9]
    refine q _ (0 :: zs) m3 l1 l2 (told_cons l1 tp hpos h5) (h7.mono (by rw [List.length_tail]; omega))
  · simp [r1, b1, b2]
    refine tw_seq (P := fun y m' => isI 0 6 y ∧ Dr (k + 4002) m') (tw_dOf (tw_draw h (by omega) (by omega) (by omega) i2 fun i m' a1 a2 a3 => ⟨_, rfl, ⟨i, rfl, a1, a2⟩, a3⟩)) fun y m3 ⟨⟨v, e, v1, v2⟩, i3⟩ => ?_
    subst e
    have rg : rngOk 1 (w.length : Int) = true := rngOk_of (by omega)
    have rl : rngL 1 ((w.length : Int) - 1).toNat = (List.range' 1 (w.length - 1)).map fun (n : Nat) => PyData.int (n : Int) := by
      unfold rngL
      rw [show ((w.length : Int) - 1).toNat = w.length - 1 by omega, List.range'_eq_map_range, List.map_map]
      refine List.map_congr_left fun i _ => ?_
      simp
    have rl2 : (List.range' 1 (w.length - 1)).length ≤ lim := by rw [List.length_range']; omega
    simp [rg]
    rw [if_pos (by omega), show rngL 1 (w.length - 1) = (List.range' 1 (w.length - 1)).map fun (n : Nat) => PyData.int (n : Int) by rw [← rl]; congr 1; omega]
    refine tw_seq (tw_pick h (l := 2 + v) (k := k + 4002) (by simp) (by intros; rfl) (by intros; simp) (by omega) (by omega) (List.range' 1 (w.length - 1)) (by rw [List.length_range']; omega) i3) fun ys m4 ⟨zs, h5, h6, h7⟩ => ?_
    subst h6
    have h8 := h5.length_le
    rw [List.length_range'] at h8
    have h9 : 1 + zs.length ≤ lim := by unfold lim; omega
    simp [h9]
    refine q _ (0 :: zs) m4 l1 l2 (told_cons l1 List.pairwise_lt_range' (fun s hs => by rw [List.mem_range'_1] at hs; omega) h5) (h7.mono (by rw [List.length_range']; omega))
  · simp [r1, b1, b2]
    refine tw_seq (P := fun y m' => (∃ i : Nat, y = .int i ∧ i < w.length) ∧ Dr (k + 4002) m') (tw_dOf (tw_draw h (by omega) (by omega) (by omega) i2 fun i m' a1 a2 a3 => ⟨_, rfl, ⟨i.toNat, by rw [Int.toNat_of_nonneg a1], by omega⟩, a3⟩)) fun y m3 ⟨⟨v, e, v1⟩, i3⟩ => ?_
    subst e
    obtain ⟨S, e1, e2⟩ := told_usort tS v1
    have c1 : (shfs w).length + 1 ≤ lim := by unfold lim; omega
    have e3 : srtD (.tuple ((shfs w).map (fun (n : Nat) => PyData.int (n : Int)) ++ [PyData.int (v : Int)])) = some (.list (S.map fun (n : Nat) => PyData.int (n : Int))) := by
      have z : (shfs w).map (fun (n : Nat) => PyData.int (n : Int)) ++ [PyData.int (v : Int)] = ((shfs w).map (fun (n : Nat) => (n : Int)) ++ [(v : Int)]).map PyData.int := by simp
      have z2 := usort_len ((shfs w).map (fun (n : Nat) => (n : Int)) ++ [(v : Int)])
      unfold srtD seqI
      rw [z]
      simp only [intsL_int, Option.bind_some]
      rw [List.length_append, List.length_map, List.length_singleton] at z2
      rw [if_pos ⟨by rw [List.length_append, List.length_map, List.length_singleton]; omega, by omega⟩, e1, ← mapN]
    simp [c1, e3]
    exact q _ S m3 l1 l2 e2 (i3.mono (by omega))
theorem stepF_len {s k : Nat} : ∀ (l : List Nat) {h : List Nat}, h.length = k → (l.foldl (stepF s) h).length = k
  | [], _, e => e
  | p :: l, h, e => stepF_len l (by unfold stepF; rw [List.length_set, List.length_set]; exact e)
theorem roundF_len {k : Nat} : ∀ (l : List Nat) {h : List Nat}, h.length = k → (l.foldl (roundF k) h).length = k
  | [], _, e => e
  | p :: l, h, e => roundF_len l (stepF_len _ e)
theorem passF_len {k : Nat} {T : List Nat} : ∀ (l : List Nat) {h : List Nat}, h.length = k → (l.foldl (fun h _ => passF k T h) h).length = k
  | [], _, e => e
  | p :: l, h, e => passF_len l (roundF_len _ e)
theorem put2_lN {h1 : List Nat} {j s : Nat} (hj : j + s < h1.length) : ∃ u, putL (h1.map fun (n : Nat) => PyData.int (n : Int)) (.int (j : Int)) (.int ((min (h1.getD j 0) (h1.getD (j + s) 0) : Nat) : Int)) = some u ∧ putL u (.int ((j : Int) + (s : Int))) (.int ((min (h1.getD j 0) (h1.getD (j + s) 0) : Nat) : Int)) = some ((stepF s h1 j).map fun (n : Nat) => PyData.int (n : Int)) := by
  refine ⟨_, putL_nat (by rw [List.length_map]; omega) _, ?_⟩
  rw [← Int.natCast_add, putL_nat (by rw [List.length_set, List.length_map]; exact hj)]
  unfold stepF
  rw [List.map_set, List.map_set]
theorem exB_put2 (cl : Str → List Val → Ms → R Val) (W : Nat) {ρ : Rho} {m : Ms} {b : B} {i : Nat} {k l a c : E} {x y z z' : PyData} {u u' u2 : List PyData} (h : ρ[i]? = some (some (.ol u))) (h1 : ev cl a ρ m = ret (.p x) m) (h2 : ev cl c ρ m = ret (.p y) m) (h3 : ev cl k ρ m = ret (.p z) m) (p1 : putL u z x = some u')
    (h4 : ev cl l (ρ.set i (some (.ol u'))) m = ret (.p z') m) (p2 : putL u' z' y = some u2) : exB cl W (.cons (.put2 i k l a c) b) ρ m = exB cl W b (ρ.set i (some (.ol u2))) m := by
  rw [exB_cons, ex]
  simp only [ed_eq, h1, h2, h3, dOf_r, bnd_ret', h, p1, h4, p2, Option.map_some, opt_s, kb_nx]
theorem run_lfree {f : Str} (h : Γ f = some (.code P.d_lfree)) {k : Nat} {T : List Nat} (hk : k ≤ 63) (hT : ∀ s ∈ T, s < k) : run Γ W (n + 1) f [.p (.int (k : Int)), .p (tN T)] m = ret (.p (tI (fw k T))) m := by
  rw [run_code h rfl]
  apply eq_of_tw
  refine tw_bnd.mpr ?_
  have hl : k ≤ lim := by unfold lim; omega
  have e0 : evI (run Γ W n) (.rng1 (.var 0)) [some (.fz (.p (.int (k : Int)))), some (.fz (.p (tN T))), none, none, none, none, none, none, none] m = ret ((List.range k).map fun (n : Nat) => PyData.int (n : Int)) m := by
    simp [rngOk_of (show -1000000 ≤ (0 : Int) ∧ (0 : Int) ≤ 1000000 ∧ -1000000 ≤ (k : Int) ∧ (k : Int) ≤ 1000000 by omega), rngL_zero]
  unfold P.d_lfree
  refine tw_own (l := (List.range k).map fun (n : Nat) => PyData.int (n : Int)) (m' := m) (by rw [ev_rngs]; exact (congrArg (fun x => bnd x _) e0)) ?_
  change tw (exB _ _ _ [some (.fz (.p (.int (k : Int)))), some (.fz (.p (tN T))), some (.ol ((List.range k).map fun (n : Nat) => PyData.int (n : Int))), none, none, none, none, none, none] m) _
  have e1 : slcD (tN T) (some 1) none = some (tN T.tail) := by
    show some (PyData.tuple (cutD _ (some ((1 : Nat) : Int)) none)) = _
    rw [cut_from, List.drop_one, ← List.map_tail]
  refine tw_loop (xs := (List.range k).map fun (n : Nat) => PyData.int (n : Int)) (m' := m) (by simp [rngOk_of (show -1000000 ≤ (0 : Int) ∧ (0 : Int) ≤ 1000000 ∧ -1000000 ≤ (k : Int) ∧ (k : Int) ≤ 1000000 by omega), rngL_zero]) (fun i ρ m' => m' = m ∧ ∃ a3 a4 a5 a6 a7 a8 : Option Slot, ρ = [some (.fz (.p (.int (k : Int)))), some (.fz (.p (tN T))), some (.ol ((((List.range k).take i).foldl (fun h _ => passF k T.tail h) (List.range k)).map fun (n : Nat) => PyData.int (n : Int))), a3, a4, a5, a6, a7, a8]) ⟨rfl, none, none, none, none, none, none, rfl⟩ ?_ ?_
  · rintro r x ρ m1 hx ⟨rfl, a3, a4, a5, a6, a7, a8, rfl⟩
    have hr : r < k := by have := (List.getElem?_eq_some_iff.mp hx).1; simpa using this
    have hl00 : (((List.range k).take r).foldl (fun h _ => passF k T.tail h) (List.range k)).length = k := passF_len _ (by simp)
    rw [lturn_one]
    dsimp only [List.set]
    have ft0 := foldl_take (fun h _ => passF k T.tail h) (List.range k) (List.range k) (List.getElem?_range hr)
    rw [ft0]
    generalize ((List.range k).take r).foldl (fun h _ => passF k T.tail h) (List.range k) = h00 at *
    refine tw_loop (xs := T.tail.map fun (n : Nat) => PyData.int (n : Int)) (m' := m1) (by simp [e1]) (fun i ρ m' => m' = m1 ∧ ∃ a3 a4 a5 a6 a7 a8 : Option Slot, ρ = [some (.fz (.p (.int (k : Int)))), some (.fz (.p (tN T))), some (.ol (((T.tail.take i).foldl (roundF k) h00).map fun (n : Nat) => PyData.int (n : Int))), a3, a4, a5, a6, a7, a8]) ⟨rfl, _, _, _, _, _, _, rfl⟩ ?_ ?_
    · rintro i x ρ m1 hx ⟨rfl, a3, a4, a5, a6, a7, a8, rfl⟩
      rw [List.getElem?_map] at hx
      obtain ⟨s, hs, rfl⟩ := Option.map_eq_some_iff.mp hx
      have sT : s < k := hT s (List.mem_of_mem_tail (List.mem_of_getElem? hs))
      have hl0 : ((T.tail.take i).foldl (roundF k) h00).length = k := roundF_len _ hl00
      rw [lturn_one]
      dsimp only [List.set]
      generalize hh : (T.tail.take i).foldl (roundF k) h00 = h0 at *
      refine tw_loop (xs := (List.range (k - s)).map fun (n : Nat) => PyData.int (n : Int)) (m' := m1) (by simp [rngOk_of (show -1000000 ≤ (0 : Int) ∧ (0 : Int) ≤ 1000000 ∧ -1000000 ≤ ((k : Int) - (s : Int)) ∧ ((k : Int) - (s : Int)) ≤ 1000000 by omega), rngL_zero]) (fun j ρ m' => m' = m1 ∧ ∃ a4 a6 a7 a8 : Option Slot, ρ = [some (.fz (.p (.int (k : Int)))), some (.fz (.p (tN T))), some (.ol ((((List.range (k - s)).take j).foldl (stepF s) h0).map fun (n : Nat) => PyData.int (n : Int))), a3, a4, some (.fz (.p (.int (s : Int)))), a6, a7, a8]) ⟨rfl, _, _, _, _, rfl⟩ ?_ ?_
      · rintro j x ρ m2 hx ⟨rfl, a4, a6, a7, a8, rfl⟩
        have hj : j < k - s := by have := (List.getElem?_eq_some_iff.mp hx).1; simpa using this
        have ex : x = .int (j : Int) := by
          rw [List.getElem?_map, List.getElem?_range hj] at hx
          exact (Option.some.inj hx).symm
        subst ex
        have hlen : (((List.range (k - s)).take j).foldl (stepF s) h0).length = k := stepF_len _ hl0
        rw [lturn_one]
        dsimp only [List.set]
        have ft := foldl_take (stepF s) h0 (List.range (k - s)) (List.getElem?_range hj)
        rw [ft]
        generalize ((List.range (k - s)).take j).foldl (stepF s) h0 = h1 at *
        have g1 := getD_lN h1 (i := j) (by omega)
        have g2 := getD_lN h1 (i := j + s) (by omega)
        rw [Int.natCast_add] at g2
        obtain ⟨u, p1, p2⟩ := put2_lN (h1 := h1) (j := j) (s := s) (by omega)
        have mn : (if ((h1.getD (j + s) 0 : Nat) : Int) < ((h1.getD j 0 : Nat) : Int) then ((h1.getD (j + s) 0 : Nat) : Int) else ((h1.getD j 0 : Nat) : Int)) = ((min (h1.getD j 0) (h1.getD (j + s) 0) : Nat) : Int) := by
          split <;> omega
        refine tw_set (v := .p (.int ((min (h1.getD j 0) (h1.getD (j + s) 0) : Nat) : Int))) (m' := m2) (by simp only [ev_bi2, ev_ix, lk_var, List.getElem?_cons_succ, List.getElem?_cons_zero, lkR_ol, bnd_ret', ev_vr, varR_fz, dOf_r, idx_l, ev_bnr, bin_add, g1, g2, Option.map_some, opt_s, bi2_min, mn]) ?_
        dsimp only [List.set]
        rw [exB_put2 (run Γ W n) W (x := .int ((min (h1.getD j 0) (h1.getD (j + s) 0) : Nat) : Int)) (y := .int ((min (h1.getD j 0) (h1.getD (j + s) 0) : Nat) : Int)) (z := .int (j : Int)) (z' := .int ((j : Int) + (s : Int))) rfl (by simp) (by simp) (by simp) p1 (by simp) p2]
        exact tw_nil ⟨_, rfl, rfl, _, _, _, _, rfl⟩
      · rintro ρ' m2 ⟨rfl, a4', a6, a7, a8, rfl⟩
        rw [List.length_map, List.length_range, List.take_of_length_le (by simp)]
        refine tw_nil ⟨_, rfl, rfl, a3, a4', some (.fz (.p (.int (s : Int)))), a6, a7, a8, ?_⟩
        rw [foldl_take (roundF k) _ _ hs, hh]
        rfl
    · rintro ρ' m2 ⟨rfl, a3', a4', a5', a6, a7, a8, rfl⟩
      rw [List.length_map, List.take_length]
      exact tw_nil ⟨_, rfl, rfl, _, _, _, _, _, _, rfl⟩
  · rintro ρ' m1 ⟨rfl, a3, a4, a5, a6, a7, a8, rfl⟩
    rw [List.length_map, List.length_range, List.take_of_length_le (by simp)]
    have hm := joinH_min k T.tail
    change tw (exB _ _ _ [some (.fz (.p (.int (k : Int)))), some (.fz (.p (tN T))), some (.ol ((freeH k T.tail).map fun (n : Nat) => PyData.int (n : Int))), a3, a4, a5, a6, a7, a8] _) _
    rw [freeH_eq]
    generalize hh : joinH k T.tail = h0 at *
    have e2 : srtD (.list (h0.map fun (n : Nat) => PyData.int (n : Int))) = some (.list ((usort (h0.map fun (n : Nat) => (n : Int))).map .int)) := by
      have := usort_len (h0.map fun (n : Nat) => (n : Int))
      rw [List.length_map, hm.len] at this
      unfold srtD seqI
      rw [mapN]
      simp only [intsL_int, Option.bind_some]
      rw [if_pos]
      rw [List.length_map, hm.len]
      omega
    refine tw_set (v := .p (.list ((usort (h0.map fun (n : Nat) => (n : Int))).map .int))) (m' := m1) (by simp [e2]) ?_
    dsimp only [List.set]
    rw [exB_cons, ex]
    show tw (exB _ _ _ [some (.fz (.p (.int (k : Int)))), some (.fz (.p (tN T))), some (.fz (.p (.list (h0.map fun (n : Nat) => PyData.int (n : Int))))), a3, _, a5, a6, a7, a8] m1) _
    refine tw_rt (v := .p (tI (fw k T))) (m' := m1) ?_ (tw_ret.mpr ⟨rfl, rfl⟩)
    rw [← fw_tN]
    have hl0 : h0.length ≤ lim := by rw [hm.len]; exact hl
    simp [hl0]
    rw [compGo_all (fun x : Nat => PyData.int (((usort (h0.map fun (n : Nat) => (n : Int))).findIdx fun z => z == (x : Int) : Nat) : Int)) (fun x hx => ?_)]
    · simp [fwN, hh, canon, tN]; rfl
    · rw [turn_one]
      simp [canon_ix hx]
theorem run_lmeasure {f : Str} (h : Γ f = some (.code P.d_lmeasure)) {a b : Nat} (hb : b < W) : run Γ W (n + 1) f [.p (.int (a : Int)), .p (.int (b : Int))] m = ret (.p (.int (Nat.gcd b a : Nat))) m := by
  rw [run_code h rfl]
  apply eq_of_tw
  refine tw_bnd.mpr ?_
  simp only [P.d_lmeasure, startR, exB_whl]
  refine tw_seq (tw_whl (fun _ _ => False) (fun ρ m' => m' = m ∧ ρ = [some (.fz (.p (.int (Nat.gcd b a : Nat)))), some (.fz (.p (.int 0)))]) (fun k ρ m' => m' = m ∧ ∃ c d : Nat, d = k ∧ Nat.gcd d c = Nat.gcd b a ∧ ρ = [some (.fz (.p (.int (c : Int)))), some (.fz (.p (.int (d : Int))))]) hb ⟨rfl, a, b, rfl, rfl, rfl⟩ ?_) fun fl m1 h1 => ?_
  · rintro k ρ m1 ⟨rfl, c, d, rfl, hg, rfl⟩
    simp
    by_cases hd : 0 < d
    · have hd' : (0 : Int) < (d : Int) := by omega
      simp [hd, hd']
      exact ⟨c % d, Nat.mod_lt _ hd, d, by rw [← hg, Nat.gcd_rec d c], rfl, by rw [Int.natCast_emod]⟩
    · have hd0 : d = 0 := by omega
      subst hd0
      simp at hg
      simp [hg]
  · cases fl with
    | rt v => exact h1.elim
    | nx ρ =>
      obtain ⟨rfl, rfl⟩ := h1
      simp
theorem asc_len {k : Nat} : ∀ (T : List Nat) (lo : Nat), T.Pairwise (· < ·) → (∀ s ∈ T, lo ≤ s ∧ s < k) → T.length + lo ≤ max k lo
  | [], lo, _, _ => by simp; omega
  | t :: T, lo, hp, h => by
    have ⟨h1, h2⟩ := List.pairwise_cons.mp hp
    have a := h t (by simp)
    have := asc_len T (t + 1) h2 fun s hs => ⟨h1 s hs, (h s (by simp [hs])).2⟩
    rw [List.length_cons]; omega
theorem told_len {k : Nat} {T : List Nat} (h : Told k T) : T.length ≤ k := by
  have := asc_len T 0 h.1 fun s hs => ⟨Nat.zero_le _, h.2.1 s hs⟩
  omega
theorem lots_le (k : Nat) (T : List Nat) : lots k T ≤ k := by
  have := usort_len ((joinH k T.tail).map fun (n : Nat) => (n : Int))
  rw [List.length_map, (joinH_min k T.tail).len] at this
  exact this
theorem fit_fw {k : Nat} (T : List Nat) (hk : k ≤ 24) : FitN (tI (fw k T)) 1 300 := by
  refine (fit_tI (k := 6) (fun x hx => ?_) (by decide)).mono (Nat.le_refl _) (by rw [fw_len]; omega)
  obtain ⟨c, hc, rfl⟩ := List.mem_map.mp hx
  have := mem_fwN.mp hc
  have := lots_le k T
  omega
theorem fit_told {k : Nat} {T : List Nat} (hk : k ≤ 24) (h : Told k T) : FitN (tN T) 1 300 := by
  have := told_len h
  exact (fit_tN (k := 6) (fun x hx => by have := h.2.1 x hx; omega) (by decide)).mono (Nat.le_refl _) (by omega)
end
end G

end
section
set_option maxHeartbeats 1000000
namespace G
def primW (w : List Int) : Bool := !((List.range' 1 (w.length - 1)).any fun p => decide (w.length % p = 0) && agr w p)
def fromOn (T : List Nat) (start : Nat) : List Nat := (T.filter fun s => decide (start ≤ s)).map fun s => s - start
def twoF : Nat → Nat → List Nat → List Int
  | 0, _, _ => []
  | f + 1, many, T => match T with
    | _ :: step :: _ =>
      if 2 * step ≤ many then (List.range many).map fun p => (twoF f (step + many % step) (fromOn T (many - (step + many % step)))).getD (p % step) 0
      else
        let head := twoF f (many - step) (fromOn T step)
        let mid : List Int := List.replicate (step - (many - step)) 1
        head ++ (if primW (head ++ mid) = true then mid else mid.tail ++ [0]) ++ head
    | _ => 0 :: List.replicate (many - 1) 1
def mk1_0 : List Nat := [1]
def mk1 : List Nat := mk1_0
def mk2_0 : List Nat := [1, 3]
def mk2 : List Nat := mk2_0
def mk3_0 : List Nat := [1, 7, 5]
def mk3 : List Nat := mk3_0
def mk4_0 : List Nat := [1, 15, 5, 9]
def mk4 : List Nat := mk4_0
def mk5_0 : List Nat := [1, 31, 21, 9, 25, 17]
def mk5 : List Nat := mk5_0
def mk6_0 : List Nat := [1, 63, 21, 9, 41, 17, 49, 33]
def mk6 : List Nat := mk6_0
def mk7_0 : List Nat := [1, 127, 85, 73, 17, 113, 81, 33, 97, 65]
def mk7 : List Nat := mk7_0
def mk8_0 : List Nat := [1, 255, 85, 73, 201, 17, 145, 33, 225, 161, 65, 193, 129]
def mk8 : List Nat := mk8_0
def mk9_0 : List Nat := [1, 511, 341, 73, 329, 401, 273, 33, 481, 161, 289, 65, 449, 321, 129, 385, 257]
def mk9 : List Nat := mk9_0
def mk10_0 : List Nat := [1, 1023, 341, 585, 273, 785, 33, 673, 289, 801, 545, 65, 961, 321, 577, 129, 897, 641, 257, 769, 513]
def mk10 : List Nat := mk10_0
def mk11_0 : List Nat := [1, 2047, 1365, 585, 1609, 273, 1809, 1297, 1313, 1569, 1057, 65, 1985, 1345, 577, 1601, 1089, 129, 1921, 641, 1153, 257, 1793, 1281, 513, 1537, 1025]
def mk11 : List Nat := mk11_0
def mk12_0 : List Nat := [1, 4095, 1365, 585, 2633, 273, 2321, 3617, 1057, 3105, 65, 1089, 3137, 2113, 129, 3969, 2689, 1153, 3201, 2177, 257, 3841, 1281, 2305, 513, 3585, 2561, 1025, 3073, 2049]
def mk12 : List Nat := mk12_0
def mk13_0 : List Nat := [1, 8191, 5461, 4681, 6417, 4369, 1057, 7201, 5153, 7233, 5185, 6209, 4161, 129, 8065, 2689, 1153, 5249, 2177, 6273, 4225, 257, 7937, 5377, 2305, 6401, 4353, 513, 7681, 2561, 4609, 1025, 7169, 5121, 2049, 6145, 4097]
def mk13 : List Nat := mk13_0
def mk14_0 : List Nat := [1, 16383, 5461, 4681, 12873, 4369, 12561, 1057, 15393, 5153, 9249, 14401, 4161, 12353, 129, 10881, 9345, 2177, 14465, 10369, 4225, 12417, 8321, 257]
def mk14_1 : List Nat := [16129, 5377, 2305, 10497, 4353, 12545, 8449, 513, 15873, 10753, 4609, 12801, 8705, 1025, 15361, 5121, 9217, 2049, 14337, 10241, 4097, 12289, 8193]
def mk14 : List Nat := mk14_0 ++ mk14_1
def mk15_0 : List Nat := [1, 32767, 21845, 4681, 21065, 4369, 28945, 20753, 1057, 21537, 9249, 25633, 17441, 30785, 4161, 28737, 20545, 25729, 18561, 28801, 20609, 24705, 16513, 257, 32513, 21761, 18689, 4353, 28929]
def mk15_1 : List Nat := [20737, 8449, 24833, 16641, 513, 32257, 10753, 4609, 20993, 8705, 25089, 16897, 1025, 31745, 21505, 9217, 25601, 17409, 2049, 30721, 10241, 18433, 4097, 28673, 20481, 8193, 24577, 16385]
def mk15 : List Nat := mk15_0 ++ mk15_1
def mk16_0 : List Nat := [1, 65535, 21845, 37449, 4369, 37137, 42017, 50209, 33825, 4161, 61505, 20545, 36929, 51329, 61569, 20609, 57473, 16513, 49281, 257, 18689, 51457, 8449, 57601, 41217, 16641, 49409, 33025, 513, 65025, 43521]
def mk16_1 : List Nat := [37377, 8705, 57857, 41473, 16897, 49665, 33281, 1025, 64513, 21505, 9217, 41985, 17409, 50177, 33793, 2049, 63489, 43009, 18433, 51201, 34817, 4097, 61441, 20481, 36865, 8193, 57345, 40961, 16385, 49153, 32769]
def mk16 : List Nat := mk16_0 ++ mk16_1
def mk17_0 : List Nat := [1, 131071, 87381, 37449, 102985, 102673, 69905, 115745, 33825, 99361, 4161, 127041, 86081, 36929, 102465, 69697, 86145, 123009, 16513, 114817, 82049, 84225, 123137, 73985, 114945, 82177, 98561, 65793, 513, 130561, 43521, 37377, 102913, 8705, 74241, 16897, 115201, 82433]
def mk17_1 : List Nat := [33281, 98817, 66049, 1025, 130049, 87041, 74753, 17409, 115713, 82945, 33793, 99329, 66561, 2049, 129025, 43009, 18433, 83969, 34817, 100353, 67585, 4097, 126977, 86017, 36865, 102401, 69633, 8193, 122881, 40961, 73729, 16385, 114689, 81921, 32769, 98305, 65537]
def mk17 : List Nat := mk17_0 ++ mk17_1
def mk18_0 : List Nat := [1, 262143, 87381, 37449, 168521, 69905, 200977, 33825, 230433, 164897, 4161, 69697, 200769, 135233, 254081, 16513, 245889, 82049, 147585, 73985, 205057, 246017, 82177, 229633, 65793, 196865, 513, 174593, 205313]
def mk18_1 : List Nat := [139777, 16897, 246273, 82433, 147969, 33281, 229889, 164353, 66049, 197121, 131585, 1025, 261121, 87041, 74753, 205825, 17409, 148481, 33793, 230401, 164865, 66561, 197633, 132097, 2049, 260097, 174081, 149505, 34817]
def mk18_2 : List Nat := [231425, 165889, 67585, 198657, 133121, 4097, 258049, 86017, 36865, 167937, 69633, 200705, 135169, 8193, 253953, 172033, 73729, 204801, 139265, 16385, 245761, 81921, 147457, 32769, 229377, 163841, 65537, 196609, 131073]
def mk18 : List Nat := mk18_0 ++ mk18_1 ++ mk18_2
def mk19_0 : List Nat := [1, 524287, 349525, 299593, 69905, 463121, 332049, 33825, 492577, 164897, 295969, 462913, 331841, 397377, 266305, 16513, 508033, 344193, 147585, 409729, 278657, 336129, 508161, 344321, 491777, 65793, 459009, 327937, 401921, 344577, 410113, 279041, 492033, 295425]
def mk19_1 : List Nat := [459265, 328193, 393729, 262657, 1025, 523265, 349185, 74753, 336897, 410625, 279553, 33793, 492545, 164865, 295937, 66561, 459777, 328705, 132097, 394241, 263169, 2049, 522241, 174081, 149505, 411649, 34817, 296961, 67585, 460801, 329729, 133121, 395265, 264193]
def mk19_2 : List Nat := [4097, 520193, 348161, 299009, 69633, 462849, 331777, 135169, 397313, 266241, 8193, 516097, 172033, 73729, 335873, 139265, 401409, 270337, 16385, 507905, 344065, 147457, 409601, 278529, 32769, 491521, 163841, 294913, 65537, 458753, 327681, 131073, 393217, 262145]
def mk19 : List Nat := mk19_0 ++ mk19_1 ++ mk19_2
def mk20_0 : List Nat := [1, 1048575, 349525, 299593, 823881, 69905, 594193, 33825, 689185, 295969, 820257, 558113, 921665, 266305, 790593, 16513, 1032321, 344193, 147585, 671873, 278657, 802945, 540801, 1016065, 65793, 983297, 327937, 590081, 926209, 803329, 1016321, 295425, 819713, 983553, 328193, 918017, 262657, 786945, 1025]
def mk20_1 : List Nat := [599041, 279553, 803841, 66561, 984065, 328705, 590849, 132097, 918529, 656385, 263169, 787457, 525313, 2049, 1046529, 698369, 149505, 673793, 821249, 559105, 67585, 985089, 329729, 591873, 133121, 919553, 657409, 264193, 788481, 526337, 4097, 1044481, 348161, 299009, 823297, 69633, 593921, 135169, 921601]
def mk20_2 : List Nat := [659457, 266241, 790529, 528385, 8193, 1040385, 696321, 598017, 139265, 925697, 663553, 270337, 794625, 532481, 16385, 1032193, 344065, 147457, 671745, 278529, 802817, 540673, 32769, 1015809, 688129, 294913, 819201, 557057, 65537, 983041, 327681, 589825, 131073, 917505, 655361, 262145, 786433, 524289]
def mk20 : List Nat := mk20_0 ++ mk20_1 ++ mk20_2
def mk21_0 : List Nat := [1, 2097151, 1398101, 299593, 1348169, 1642769, 1118481, 1344545, 1606689, 1082401, 1970241, 266305, 1839169, 1314881, 16513, 1392769, 1196161, 278657, 1851521, 1327233, 540801, 1589377, 1065089, 2064641, 65793, 2031873, 1376513, 590081, 1638657, 1114369, 1851905, 2032129, 1376769, 1966593]
def mk21_1 : List Nat := [262657, 1835521, 1311233, 1647617, 1852417, 1328129, 2032641, 1377281, 1639425, 1115137, 1967105, 1180673, 1836033, 1311745, 1573889, 1049601, 2049, 2095105, 698369, 1198081, 559105, 1607681, 67585, 1378305, 591873, 1640449, 1116161, 133121, 1968129, 657409, 1181697, 264193, 1837057, 1312769]
def mk21_2 : List Nat := [526337, 1574913, 1050625, 4097, 2093057, 1396737, 299009, 1347585, 1642497, 1118209, 135169, 1970177, 659457, 1183745, 266241, 1839105, 1314817, 528385, 1576961, 1052673, 8193, 2088961, 696321, 598017, 1646593, 139265, 1187841, 270337, 1843201, 1318913, 532481, 1581057, 1056769, 16385]
def mk21_3 : List Nat := [2080769, 1392641, 1196033, 278529, 1851393, 1327105, 540673, 1589249, 1064961, 32769, 2064385, 688129, 294913, 1343489, 557057, 1605633, 1081345, 65537, 2031617, 1376257, 589825, 1638401, 1114113, 131073, 1966081, 655361, 1179649, 262145, 1835009, 1310721, 524289, 1572865, 1048577]
def mk21 : List Nat := mk21_0 ++ mk21_1 ++ mk21_2 ++ mk21_3
def mk22_0 : List Nat := [1, 4194303, 1398101, 2396745, 1118481, 3215633, 3703841, 1082401, 3179553, 266305, 3936321, 1314881, 2363457, 3293313, 2375809, 3686529, 2637953, 3162241, 2113665, 65793, 4129025, 1376513, 590081, 2687233, 1114369, 3211521, 2162945, 4129281, 1376769, 4063745, 262657, 3932673, 1311233, 2359809, 1115137, 3212289, 4064257, 1180673, 3277825]
def mk22_1 : List Nat := [3933185, 1311745, 3671041, 1049601, 3146753, 2049, 2795521, 1198081, 3295233, 559105, 3704833, 2656257, 2689025, 3213313, 2164737, 133121, 4065281, 2754561, 1181697, 3278849, 2230273, 264193, 3934209, 1312769, 2361345, 526337, 3672065, 2623489, 1050625, 3147777, 2099201, 4097, 4190209, 1396737, 2396161, 1118209, 3215361, 135169, 2756609]
def mk22_2 : List Nat := [1183745, 3280897, 2232321, 266241, 3936257, 1314817, 2363393, 528385, 3674113, 2625537, 1052673, 3149825, 2101249, 8193, 4186113, 2793473, 598017, 2695169, 3284993, 2236417, 270337, 3940353, 1318913, 2367489, 532481, 3678209, 2629633, 1056769, 3153921, 2105345, 16385, 4177921, 1392641, 1196033, 3293185, 278529, 2375681, 540673, 3686401]
def mk22_3 : List Nat := [2637825, 1064961, 3162113, 2113537, 32769, 4161537, 2785281, 2392065, 557057, 3702785, 2654209, 1081345, 3178497, 2129921, 65537, 4128769, 1376257, 589825, 2686977, 1114113, 3211265, 2162689, 131073, 4063233, 2752513, 1179649, 3276801, 2228225, 262145, 3932161, 1310721, 2359297, 524289, 3670017, 2621441, 1048577, 3145729, 2097153]
def mk22 : List Nat := mk22_0 ++ mk22_1 ++ mk22_2 ++ mk22_3
def mk23_0 : List Nat := [1, 8388607, 5592405, 2396745, 6591049, 1118481, 7409937, 5312785, 1082401, 7373857, 5276705, 266305, 8130625, 5509185, 2363457, 6557761, 4460609, 6570113, 7880833, 2637953, 7356545, 2113665, 6307969, 65793, 8323329, 5570817, 4784385, 1114369, 7405825, 5308673, 2162945, 6357249, 4260097, 5571073, 8258049, 262657]
def mk23_1 : List Nat := [8126977, 5505537, 2359809, 6554113, 4456961, 7406593, 5309441, 8258561, 1180673, 5374977, 8127489, 5506049, 7865345, 1049601, 7341057, 5243905, 5392385, 4753409, 7407617, 6359041, 6424577, 4327425, 8128513, 5507073, 6555649, 4458497, 7866369, 4720641, 7342081, 5244929, 6293505, 4196353, 4097, 8384513, 5591041, 2396161]
def mk23_2 : List Nat := [6590465, 1118209, 7409665, 5312513, 5378049, 6426625, 4329473, 266241, 8130561, 5509121, 2363393, 6557697, 4460545, 528385, 7868417, 2625537, 4722689, 1052673, 7344129, 5246977, 2101249, 6295553, 4198401, 8193, 8380417, 2793473, 4792321, 2236417, 6430721, 270337, 5513217, 2367489, 6561793, 4464641, 532481, 7872513]
def mk23_3 : List Nat := [2629633, 4726785, 1056769, 7348225, 5251073, 2105345, 6299649, 4202497, 16385, 8372225, 5586945, 1196033, 5390337, 6569985, 4472833, 540673, 7880705, 2637825, 4734977, 1064961, 7356417, 5259265, 2113537, 6307841, 4210689, 32769, 8355841, 2785281, 2392065, 6586369, 557057, 4751361, 1081345, 7372801, 5275649, 2129921]
def mk23_4 : List Nat := [6324225, 4227073, 65537, 8323073, 5570561, 4784129, 1114113, 7405569, 5308417, 2162689, 6356993, 4259841, 131073, 8257537, 2752513, 1179649, 5373953, 2228225, 6422529, 4325377, 262145, 8126465, 5505025, 2359297, 6553601, 4456449, 524289, 7864321, 2621441, 4718593, 1048577, 7340033, 5242881, 2097153, 6291457, 4194305]
def mk23 : List Nat := mk23_0 ++ mk23_1 ++ mk23_2 ++ mk23_3 ++ mk23_4
def mk24_0 : List Nat := [1, 16777215, 5592405, 2396745, 10785353, 1118481, 9507089, 1082401, 15762465, 5276705, 9471009, 266305, 4460609, 12849217, 8654913, 11026561, 15745153, 2113665, 14696577, 10502273, 65793, 4784385, 13172993, 2162945, 14745857, 10551553, 4260097, 12648705, 8454401, 16646657, 262657, 16515585, 5505537, 2359809, 10748417, 4456961, 12845569, 8651265, 9569281]
def mk24_1 : List Nat := [16516097, 5506049, 16253953, 1049601, 15729665, 5243905, 9438209, 13142017, 14747649, 14813185, 12716033, 16517121, 5507073, 4458497, 12847105, 16254977, 4720641, 13109249, 15730689, 5244929, 14682113, 4196353, 12584961, 4097, 14815233, 4329473, 12718081, 528385, 16257025, 11014145, 4722689, 13111297, 8916993, 1052673, 15732737, 5246977, 9441281, 2101249, 14684161]
def mk24_2 : List Nat := [10489857, 4198401, 12587009, 8392705, 8193, 16769025, 11182081, 4792321, 13180929, 2236417, 14819329, 10625025, 10756097, 12853249, 8658945, 532481, 16261121, 11018241, 4726785, 13115393, 8921089, 1056769, 15736833, 5251073, 9445377, 2105345, 14688257, 10493953, 4202497, 12591105, 8396801, 16385, 16760833, 5586945, 9584641, 4472833, 12861441, 540673, 11026433]
def mk24_3 : List Nat := [4734977, 13123585, 8929281, 1064961, 15745025, 5259265, 9453569, 2113537, 14696449, 10502145, 4210689, 12599297, 8404993, 32769, 16744449, 11173889, 2392065, 10780673, 13139969, 8945665, 1081345, 15761409, 5275649, 9469953, 2129921, 14712833, 10518529, 4227073, 12615681, 8421377, 65537, 16711681, 5570561, 4784129, 13172737, 1114113, 9502721, 2162689, 14745601]
def mk24_4 : List Nat := [10551297, 4259841, 12648449, 8454145, 131073, 16646145, 11141121, 9568257, 2228225, 14811137, 10616833, 4325377, 12713985, 8519681, 262145, 16515073, 5505025, 2359297, 10747905, 4456449, 12845057, 8650753, 524289, 16252929, 11010049, 4718593, 13107201, 8912897, 1048577, 15728641, 5242881, 9437185, 2097153, 14680065, 10485761, 4194305, 12582913, 8388609]
def mk24 : List Nat := mk24_0 ++ mk24_1 ++ mk24_2 ++ mk24_3 ++ mk24_4
def masks : List (List Nat) := [mk1, mk2, mk3, mk4, mk5, mk6, mk7, mk8, mk9, mk10, mk11, mk12, mk13, mk14, mk15, mk16, mk17, mk18, mk19, mk20, mk21, mk22, mk23, mk24]
def dec (m : Nat) : List Nat := (List.range 24).filter fun s => m.testBit s
def K24 (j : Nat) : List (List Nat) := (masks.getD (j - 1) []).map dec
def okTwo (n : Nat) (T : List Nat) : Bool := let w := twoF 24 n T; decide (w.length = n) && w.all (fun x => decide (x = 0) || decide (x = 1)) && decide (((List.range n).filter fun s => (w.drop s).isPrefixOf w) = T)
theorem st1 : setsU K24 1 = K24 1 := by decide +kernel
theorem ok1_0 : (mk1_0.map dec).all (okTwo 1) = true := by decide +kernel
theorem ok1 : (K24 1).all (okTwo 1) = true := by
  show (mk1.map dec).all (okTwo 1) = true
  simp only [mk1, List.map_append, List.all_append, ok1_0, Bool.and_self]
theorem st2 : setsU K24 2 = K24 2 := by decide +kernel
theorem ok2_0 : (mk2_0.map dec).all (okTwo 2) = true := by decide +kernel
theorem ok2 : (K24 2).all (okTwo 2) = true := by
  show (mk2.map dec).all (okTwo 2) = true
  simp only [mk2, List.map_append, List.all_append, ok2_0, Bool.and_self]
theorem st3 : setsU K24 3 = K24 3 := by decide +kernel
theorem ok3_0 : (mk3_0.map dec).all (okTwo 3) = true := by decide +kernel
theorem ok3 : (K24 3).all (okTwo 3) = true := by
  show (mk3.map dec).all (okTwo 3) = true
  simp only [mk3, List.map_append, List.all_append, ok3_0, Bool.and_self]
theorem st4 : setsU K24 4 = K24 4 := by decide +kernel
theorem ok4_0 : (mk4_0.map dec).all (okTwo 4) = true := by decide +kernel
theorem ok4 : (K24 4).all (okTwo 4) = true := by
  show (mk4.map dec).all (okTwo 4) = true
  simp only [mk4, List.map_append, List.all_append, ok4_0, Bool.and_self]
theorem st5 : setsU K24 5 = K24 5 := by decide +kernel
theorem ok5_0 : (mk5_0.map dec).all (okTwo 5) = true := by decide +kernel
theorem ok5 : (K24 5).all (okTwo 5) = true := by
  show (mk5.map dec).all (okTwo 5) = true
  simp only [mk5, List.map_append, List.all_append, ok5_0, Bool.and_self]
theorem st6 : setsU K24 6 = K24 6 := by decide +kernel
theorem ok6_0 : (mk6_0.map dec).all (okTwo 6) = true := by decide +kernel
theorem ok6 : (K24 6).all (okTwo 6) = true := by
  show (mk6.map dec).all (okTwo 6) = true
  simp only [mk6, List.map_append, List.all_append, ok6_0, Bool.and_self]
theorem st7 : setsU K24 7 = K24 7 := by decide +kernel
theorem ok7_0 : (mk7_0.map dec).all (okTwo 7) = true := by decide +kernel
theorem ok7 : (K24 7).all (okTwo 7) = true := by
  show (mk7.map dec).all (okTwo 7) = true
  simp only [mk7, List.map_append, List.all_append, ok7_0, Bool.and_self]
theorem st8 : setsU K24 8 = K24 8 := by decide +kernel
theorem ok8_0 : (mk8_0.map dec).all (okTwo 8) = true := by decide +kernel
theorem ok8 : (K24 8).all (okTwo 8) = true := by
  show (mk8.map dec).all (okTwo 8) = true
  simp only [mk8, List.map_append, List.all_append, ok8_0, Bool.and_self]
theorem st9 : setsU K24 9 = K24 9 := by decide +kernel
theorem ok9_0 : (mk9_0.map dec).all (okTwo 9) = true := by decide +kernel
theorem ok9 : (K24 9).all (okTwo 9) = true := by
  show (mk9.map dec).all (okTwo 9) = true
  simp only [mk9, List.map_append, List.all_append, ok9_0, Bool.and_self]
theorem st10 : setsU K24 10 = K24 10 := by decide +kernel
theorem ok10_0 : (mk10_0.map dec).all (okTwo 10) = true := by decide +kernel
theorem ok10 : (K24 10).all (okTwo 10) = true := by
  show (mk10.map dec).all (okTwo 10) = true
  simp only [mk10, List.map_append, List.all_append, ok10_0, Bool.and_self]
theorem st11 : setsU K24 11 = K24 11 := by decide +kernel
theorem ok11_0 : (mk11_0.map dec).all (okTwo 11) = true := by decide +kernel
theorem ok11 : (K24 11).all (okTwo 11) = true := by
  show (mk11.map dec).all (okTwo 11) = true
  simp only [mk11, List.map_append, List.all_append, ok11_0, Bool.and_self]
theorem st12 : setsU K24 12 = K24 12 := by decide +kernel
theorem ok12_0 : (mk12_0.map dec).all (okTwo 12) = true := by decide +kernel
theorem ok12 : (K24 12).all (okTwo 12) = true := by
  show (mk12.map dec).all (okTwo 12) = true
  simp only [mk12, List.map_append, List.all_append, ok12_0, Bool.and_self]
theorem st13 : setsU K24 13 = K24 13 := by decide +kernel
theorem ok13_0 : (mk13_0.map dec).all (okTwo 13) = true := by decide +kernel
theorem ok13 : (K24 13).all (okTwo 13) = true := by
  show (mk13.map dec).all (okTwo 13) = true
  simp only [mk13, List.map_append, List.all_append, ok13_0, Bool.and_self]
theorem st14 : setsU K24 14 = K24 14 := by decide +kernel
theorem ok14_0 : (mk14_0.map dec).all (okTwo 14) = true := by decide +kernel
theorem ok14_1 : (mk14_1.map dec).all (okTwo 14) = true := by decide +kernel
theorem ok14 : (K24 14).all (okTwo 14) = true := by
  show (mk14.map dec).all (okTwo 14) = true
  simp only [mk14, List.map_append, List.all_append, ok14_0, ok14_1, Bool.and_self]
theorem st15 : setsU K24 15 = K24 15 := by decide +kernel
theorem ok15_0 : (mk15_0.map dec).all (okTwo 15) = true := by decide +kernel
theorem ok15_1 : (mk15_1.map dec).all (okTwo 15) = true := by decide +kernel
theorem ok15 : (K24 15).all (okTwo 15) = true := by
  show (mk15.map dec).all (okTwo 15) = true
  simp only [mk15, List.map_append, List.all_append, ok15_0, ok15_1, Bool.and_self]
theorem st16 : setsU K24 16 = K24 16 := by decide +kernel
theorem ok16_0 : (mk16_0.map dec).all (okTwo 16) = true := by decide +kernel
theorem ok16_1 : (mk16_1.map dec).all (okTwo 16) = true := by decide +kernel
theorem ok16 : (K24 16).all (okTwo 16) = true := by
  show (mk16.map dec).all (okTwo 16) = true
  simp only [mk16, List.map_append, List.all_append, ok16_0, ok16_1, Bool.and_self]
theorem st17 : setsU K24 17 = K24 17 := by decide +kernel
theorem ok17_0 : (mk17_0.map dec).all (okTwo 17) = true := by decide +kernel
theorem ok17_1 : (mk17_1.map dec).all (okTwo 17) = true := by decide +kernel
theorem ok17 : (K24 17).all (okTwo 17) = true := by
  show (mk17.map dec).all (okTwo 17) = true
  simp only [mk17, List.map_append, List.all_append, ok17_0, ok17_1, Bool.and_self]
theorem st18 : setsU K24 18 = K24 18 := by decide +kernel
theorem ok18_0 : (mk18_0.map dec).all (okTwo 18) = true := by decide +kernel
theorem ok18_1 : (mk18_1.map dec).all (okTwo 18) = true := by decide +kernel
theorem ok18_2 : (mk18_2.map dec).all (okTwo 18) = true := by decide +kernel
theorem ok18 : (K24 18).all (okTwo 18) = true := by
  show (mk18.map dec).all (okTwo 18) = true
  simp only [mk18, List.map_append, List.all_append, ok18_0, ok18_1, ok18_2, Bool.and_self]
theorem st19 : setsU K24 19 = K24 19 := by decide +kernel
theorem ok19_0 : (mk19_0.map dec).all (okTwo 19) = true := by decide +kernel
theorem ok19_1 : (mk19_1.map dec).all (okTwo 19) = true := by decide +kernel
theorem ok19_2 : (mk19_2.map dec).all (okTwo 19) = true := by decide +kernel
theorem ok19 : (K24 19).all (okTwo 19) = true := by
  show (mk19.map dec).all (okTwo 19) = true
  simp only [mk19, List.map_append, List.all_append, ok19_0, ok19_1, ok19_2, Bool.and_self]
theorem st20 : setsU K24 20 = K24 20 := by decide +kernel
theorem ok20_0 : (mk20_0.map dec).all (okTwo 20) = true := by decide +kernel
theorem ok20_1 : (mk20_1.map dec).all (okTwo 20) = true := by decide +kernel
theorem ok20_2 : (mk20_2.map dec).all (okTwo 20) = true := by decide +kernel
theorem ok20 : (K24 20).all (okTwo 20) = true := by
  show (mk20.map dec).all (okTwo 20) = true
  simp only [mk20, List.map_append, List.all_append, ok20_0, ok20_1, ok20_2, Bool.and_self]
theorem st21 : setsU K24 21 = K24 21 := by decide +kernel
theorem ok21_0 : (mk21_0.map dec).all (okTwo 21) = true := by decide +kernel
theorem ok21_1 : (mk21_1.map dec).all (okTwo 21) = true := by decide +kernel
theorem ok21_2 : (mk21_2.map dec).all (okTwo 21) = true := by decide +kernel
theorem ok21_3 : (mk21_3.map dec).all (okTwo 21) = true := by decide +kernel
theorem ok21 : (K24 21).all (okTwo 21) = true := by
  show (mk21.map dec).all (okTwo 21) = true
  simp only [mk21, List.map_append, List.all_append, ok21_0, ok21_1, ok21_2, ok21_3, Bool.and_self]
theorem st22 : setsU K24 22 = K24 22 := by decide +kernel
theorem ok22_0 : (mk22_0.map dec).all (okTwo 22) = true := by decide +kernel
theorem ok22_1 : (mk22_1.map dec).all (okTwo 22) = true := by decide +kernel
theorem ok22_2 : (mk22_2.map dec).all (okTwo 22) = true := by decide +kernel
theorem ok22_3 : (mk22_3.map dec).all (okTwo 22) = true := by decide +kernel
theorem ok22 : (K24 22).all (okTwo 22) = true := by
  show (mk22.map dec).all (okTwo 22) = true
  simp only [mk22, List.map_append, List.all_append, ok22_0, ok22_1, ok22_2, ok22_3, Bool.and_self]
theorem st23 : setsU K24 23 = K24 23 := by decide +kernel
theorem ok23_0 : (mk23_0.map dec).all (okTwo 23) = true := by decide +kernel
theorem ok23_1 : (mk23_1.map dec).all (okTwo 23) = true := by decide +kernel
theorem ok23_2 : (mk23_2.map dec).all (okTwo 23) = true := by decide +kernel
theorem ok23_3 : (mk23_3.map dec).all (okTwo 23) = true := by decide +kernel
theorem ok23_4 : (mk23_4.map dec).all (okTwo 23) = true := by decide +kernel
theorem ok23 : (K24 23).all (okTwo 23) = true := by
  show (mk23.map dec).all (okTwo 23) = true
  simp only [mk23, List.map_append, List.all_append, ok23_0, ok23_1, ok23_2, ok23_3, ok23_4, Bool.and_self]
theorem st24 : setsU K24 24 = K24 24 := by decide +kernel
theorem ok24_0 : (mk24_0.map dec).all (okTwo 24) = true := by decide +kernel
theorem ok24_1 : (mk24_1.map dec).all (okTwo 24) = true := by decide +kernel
theorem ok24_2 : (mk24_2.map dec).all (okTwo 24) = true := by decide +kernel
theorem ok24_3 : (mk24_3.map dec).all (okTwo 24) = true := by decide +kernel
theorem ok24_4 : (mk24_4.map dec).all (okTwo 24) = true := by decide +kernel
theorem ok24 : (K24 24).all (okTwo 24) = true := by
  show (mk24.map dec).all (okTwo 24) = true
  simp only [mk24, List.map_append, List.all_append, ok24_0, ok24_1, ok24_2, ok24_3, ok24_4, Bool.and_self]
theorem pre_agr : ∀ (w : List Int) (s : Nat), s ≤ w.length → (w.drop s).isPrefixOf w = agr w s := by
  intro w s hs
  rw [Bool.eq_iff_iff, List.isPrefixOf_iff_prefix, agr_iff]
  constructor
  · rintro ⟨t, h⟩ i hi
    have e : w[i]? = (w.drop s)[i]? := by
      conv => lhs; rw [← h]
      rw [List.getElem?_append_left (by rw [List.length_drop]; omega)]
    rw [List.getD_eq_getElem?_getD, List.getD_eq_getElem?_getD, e, List.getElem?_drop, Nat.add_comm]
  · intro h
    rw [List.prefix_iff_eq_take]
    refine List.ext_getElem? fun i => ?_
    rw [List.getElem?_take, List.length_drop, List.getElem?_drop]
    by_cases q : i < w.length - s
    · rw [if_pos q]
      have := h i (by omega)
      rw [List.getD_eq_getElem?_getD, List.getD_eq_getElem?_getD, List.getElem?_eq_getElem (by omega), List.getElem?_eq_getElem (by omega)] at this
      rw [List.getElem?_eq_getElem (by omega), List.getElem?_eq_getElem (by omega)]
      simp at this
      simp [Nat.add_comm s i, this]
    · rw [if_neg q, List.getElem?_eq_none (by omega)]
theorem shfs_pre (w : List Int) : ((List.range w.length).filter fun s => (w.drop s).isPrefixOf w) = shfs w := by
  unfold shfs
  refine List.filter_congr fun s hs => ?_
  exact pre_agr w s (Nat.le_of_lt (List.mem_range.mp hs))
theorem st_all : ∀ k, 1 ≤ k → k ≤ 24 → setsU K24 k = K24 k ∧ (K24 k).all (okTwo k) = true := by
  intro k h1 h2
  match k, h1, h2 with
  | j + 25, _, h2 => omega
  | 1, _, _ => exact ⟨st1, ok1⟩
  | 2, _, _ => exact ⟨st2, ok2⟩
  | 3, _, _ => exact ⟨st3, ok3⟩
  | 4, _, _ => exact ⟨st4, ok4⟩
  | 5, _, _ => exact ⟨st5, ok5⟩
  | 6, _, _ => exact ⟨st6, ok6⟩
  | 7, _, _ => exact ⟨st7, ok7⟩
  | 8, _, _ => exact ⟨st8, ok8⟩
  | 9, _, _ => exact ⟨st9, ok9⟩
  | 10, _, _ => exact ⟨st10, ok10⟩
  | 11, _, _ => exact ⟨st11, ok11⟩
  | 12, _, _ => exact ⟨st12, ok12⟩
  | 13, _, _ => exact ⟨st13, ok13⟩
  | 14, _, _ => exact ⟨st14, ok14⟩
  | 15, _, _ => exact ⟨st15, ok15⟩
  | 16, _, _ => exact ⟨st16, ok16⟩
  | 17, _, _ => exact ⟨st17, ok17⟩
  | 18, _, _ => exact ⟨st18, ok18⟩
  | 19, _, _ => exact ⟨st19, ok19⟩
  | 20, _, _ => exact ⟨st20, ok20⟩
  | 21, _, _ => exact ⟨st21, ok21⟩
  | 22, _, _ => exact ⟨st22, ok22⟩
  | 23, _, _ => exact ⟨st23, ok23⟩
  | 24, _, _ => exact ⟨st24, ok24⟩
theorem tab_all (k : Nat) : ∀ w : List Int, w.length ≤ k → 1 ≤ w.length → w.length ≤ 24 → shfs w ∈ K24 w.length := by
  induction k with
  | zero => intro w h h1; omega
  | succ k ih =>
    intro w h h1 h2
    rw [← (st_all w.length h1 h2).1]
    exact setsU_of h1 fun u u1 u2 => ih u (by omega) u1 (by omega)
theorem two24 {w : List Int} (h1 : 1 ≤ w.length) (h2 : w.length ≤ 24) : (twoF 24 w.length (shfs w)).length = w.length ∧ (∀ x ∈ twoF 24 w.length (shfs w), x = 0 ∨ x = 1) ∧ shfs (twoF 24 w.length (shfs w)) = shfs w := by
  have b := List.all_eq_true.mp (st_all w.length h1 h2).2 _ (tab_all _ w (Nat.le_refl _) h1 h2)
  unfold okTwo at b
  simp only [Bool.and_eq_true, decide_eq_true_eq, List.all_eq_true, Bool.or_eq_true] at b
  obtain ⟨⟨b1, b2⟩, b3⟩ := b
  refine ⟨b1, b2, ?_⟩
  generalize twoF 24 w.length (shfs w) = v at *
  rw [← b1, shfs_pre] at b3
  exact b3
end G

end
section
set_option maxHeartbeats 4000000
namespace G
open PySem PySem.Spec PyProof.Rows L2
namespace P
def d_need_closed : Def := ⟨2, 3, (.cons (.expr (.call "need_told" (.cons (.var 0) (.cons (.var 1) .nil)))) (.cons (.for (.one 2) (.val (.call "closed" (.cons (.var 0) (.cons (.var 1) .nil)))) (.cons (.ite (.cmp .NotIn (.var 2) (.var 1)) (.cons (.rse "NotClosed" (.var 2)) .nil) .nil) .nil)) .nil))⟩
def d_is_primitive : Def := ⟨1, 3, (.cons (.set 1 (.bi .len (.var 0))) (.cons (.rt (.not (.bi .any (.comp (.and (.cmp .Eq (.bin .Mod (.var 1) (.var 2)) (.cst (.int 0))) (.cons (.call "agrees" (.cons (.var 0) (.cons (.var 2) .nil))) .nil)) (.one 2) (.rng2 (.cst (.int 1)) (.var 1)) .no)))) .nil))⟩
def d_from_on : Def := ⟨2, 3, (.cons (.rt (.bi .tuple (.comp (.bin .Sub (.var 2) (.var 1)) (.one 2) (.val (.var 0)) (.yes (.cmp .GtE (.var 2) (.var 1)))))) .nil)⟩
def d_two_in : Def := ⟨2, 7, (.cons (.ite (.cmp .Eq (.bi .len (.var 1)) (.cst (.int 1))) (.cons (.rt (.bin .Add (.tup (.cons (.cst (.int 0)) .nil)) (.bin .Mult (.tup (.cons (.cst (.int 1)) .nil)) (.bin .Sub (.var 0) (.cst (.int 1)))))) .nil) .nil) (.cons (.set 2 (.idx (.var 1) (.cst (.int 1)))) (.cons (.ite (.cmp .LtE (.bin .Mult (.cst (.int 2)) (.var 2)) (.var 0)) (.cons (.set 3 (.bin .Add (.var 2) (.bin .Mod (.var 0) (.var 2)))) (.cons (.set 4 (.call "two_in" (.cons (.var 3) (.cons (.call "from_on" (.cons (.var 1) (.cons (.bin .Sub (.var 0) (.var 3)) .nil))) .nil)))) (.cons (.rt (.bi .tuple (.comp (.idx (.var 4) (.bin .Mod (.var 6) (.var 2))) (.one 6) (.rng1 (.var 0)) .no))) .nil))) .nil) (.cons (.set 3 (.bin .Sub (.var 0) (.var 2))) (.cons (.set 4 (.call "two_in" (.cons (.var 3) (.cons (.call "from_on" (.cons (.var 1) (.cons (.var 2) .nil))) .nil)))) (.cons (.set 5 (.bin .Mult (.tup (.cons (.cst (.int 1)) .nil)) (.bin .Sub (.var 2) (.var 3)))) (.cons (.ite (.not (.call "is_primitive" (.cons (.bin .Add (.var 4) (.var 5)) .nil))) (.cons (.set 5 (.bin .Add (.slc (.var 5) (.yes (.cst (.int 1))) .no) (.tup (.cons (.cst (.int 0)) .nil)))) .nil) .nil) (.cons (.rt (.bin .Add (.bin .Add (.var 4) (.var 5)) (.var 4))) .nil))))))))⟩
def d_two_letters : Def := ⟨2, 2, (.cons (.expr (.call "need_closed" (.cons (.var 0) (.cons (.var 1) .nil)))) (.cons (.rt (.call "two_in" (.cons (.var 0) (.cons (.var 1) .nil)))) .nil))⟩
def d_paper : Def := ⟨2, 3, (.cons (.expr (.call "need_told" (.cons (.var 0) (.cons (.var 1) .nil)))) (.cons (.for (.one 2) (.val (.call "closed" (.cons (.var 0) (.cons (.var 1) .nil)))) (.cons (.ite (.cmp .NotIn (.var 2) (.var 1)) (.cons (.rt (.tup (.cons (.glb "BESIDES" (.str "besides")) (.cons (.var 2) .nil)))) .nil) .nil) .nil)) (.cons (.rt (.tup (.cons (.glb "WORD" (.str "word")) (.cons (.call "two_in" (.cons (.var 0) (.cons (.var 1) .nil))) .nil)))) .nil)))⟩
def d_is_paper : Def := ⟨3, 4, (.cons (.expr (.call "need_told" (.cons (.var 0) (.cons (.var 1) .nil)))) (.cons (.ite (.or (.not (.isi (.var 2) ["tuple"])) (.cons (.cmp .NotEq (.bi .len (.var 2)) (.cst (.int 2))) (.cons (.not (.isi (.idx (.var 2) (.cst (.int 0))) ["str"])) .nil))) (.cons (.rt (.cst (.bl false))) .nil) .nil) (.cons (.ite (.cmp .Eq (.idx (.var 2) (.cst (.int 0))) (.glb "BESIDES" (.str "besides"))) (.cons (.rt (.and (.call "is_among" (.cons (.idx (.var 2) (.cst (.int 1))) (.cons (.cst (.int 0)) (.cons (.bin .Sub (.var 0) (.cst (.int 1))) .nil)))) (.cons (.cmp .NotIn (.idx (.var 2) (.cst (.int 1))) (.var 1)) (.cons (.cmp .In (.idx (.var 2) (.cst (.int 1))) (.call "closed" (.cons (.var 0) (.cons (.var 1) .nil)))) .nil)))) .nil) .nil) (.cons (.ite (.or (.cmp .NotEq (.idx (.var 2) (.cst (.int 0))) (.glb "WORD" (.str "word"))) (.cons (.not (.isi (.idx (.var 2) (.cst (.int 1))) ["tuple"])) (.cons (.cmp .NotEq (.bi .len (.idx (.var 2) (.cst (.int 1)))) (.var 0)) .nil))) (.cons (.rt (.cst (.bl false))) .nil) .nil) (.cons (.rt (.and (.bi .all (.comp (.call "is_among" (.cons (.var 3) (.cons (.cst (.int 0)) (.cons (.cst (.int 1)) .nil)))) (.one 3) (.val (.idx (.var 2) (.cst (.int 1)))) .no)) (.cons (.cmp .Eq (.call "shifts_in" (.cons (.idx (.var 2) (.cst (.int 1))) .nil)) (.var 1)) .nil))) .nil)))))⟩
end P
structure H9 (Γ : Str → Option Fn) : Prop extends H3 Γ where
  is_primitive : Γ "is_primitive" = some (.code P.d_is_primitive)
  from_on : Γ "from_on" = some (.code P.d_from_on)
  two_in : Γ "two_in" = some (.code P.d_two_in)
theorem rngL1 (k : Nat) : rngL 1 k = (List.range' 1 k).map fun (n : Nat) => PyData.int (n : Int) := by
  unfold rngL
  rw [List.range'_eq_map_range, List.map_map]
  refine List.map_congr_left fun i _ => ?_
  simp
theorem from_shfs {w : List Int} {p : Nat} (hp : agr w p = true) (hl : p < w.length) : fromOn (shfs w) p = shfs (w.drop p) := by
  refine asc_ext ?_ (shfs_pair _) fun s => ?_
  · unfold fromOn
    rw [List.pairwise_map]
    refine ((shfs_pair w).filter _).imp_of_mem fun ha hb h => ?_
    have a1 := of_decide_eq_true (List.mem_filter.mp ha).2
    omega
  · unfold fromOn
    rw [List.mem_map, mem_shfs, List.length_drop]
    constructor
    · rintro ⟨t, ht, rfl⟩
      obtain ⟨h1, h2⟩ := List.mem_filter.mp ht
      have h2 := of_decide_eq_true h2
      have h3 := shfs_lt h1
      exact ⟨by omega, by rw [agr_drop hp h2]; exact shfs_agr h1⟩
    · rintro ⟨h1, h2⟩
      have e := agr_drop (w := w) (p := p) (s := p + s) hp (by omega)
      rw [Nat.add_sub_cancel_left, h2] at e
      exact ⟨p + s, List.mem_filter.mpr ⟨mem_shfs.mpr ⟨by omega, e.symm⟩, by simp⟩, by omega⟩
theorem shfs_cases {w : List Int} (h : 1 ≤ w.length) : shfs w = [0] ∨ ∃ rest, shfs w = 0 :: perd w :: rest ∧ perd w < w.length := by
  obtain ⟨p0, p1, p2, p4, p5⟩ := perd_ok (w := w) (by omega)
  have e0 : (shfs w).head? = some 0 := (shfs_told (w := w) (by omega)).2.2
  match e : shfs w with
  | [] => rw [e] at e0; cases e0
  | [t] => rw [e] at e0; simp at e0; exact .inl (by rw [e0])
  | t :: u :: r =>
    have e4 := p4 (by rw [e]; simp)
    rw [e] at e0 e4
    simp at e0 e4
    refine .inr ⟨r, by rw [e0, e4], ?_⟩
    have : u ∈ shfs w := by rw [e]; simp
    have := shfs_lt this
    omega
theorem near_part {w : List Int} (h : 1 ≤ w.length) (hl : perd w < w.length) (d : 2 * perd w ≤ w.length) : (w.drop (w.length - (perd w + w.length % perd w))).length = perd w + w.length % perd w ∧ perd w + w.length % perd w < w.length ∧ fromOn (shfs w) (w.length - (perd w + w.length % perd w)) = shfs (w.drop (w.length - (perd w + w.length % perd w))) := by
  obtain ⟨p0, p1, p2, p4, p5⟩ := perd_ok (w := w) (by omega)
  generalize hp : perd w = step at *
  have rp : w.length % step < step := Nat.mod_lt _ p0
  have le : w.length % step ≤ w.length := Nat.mod_le _ _
  have dv : step ∣ w.length - (step + w.length % step) := by
    have a : step ∣ w.length - w.length % step := Nat.dvd_sub_mod w.length
    have b : w.length - (step + w.length % step) = (w.length - w.length % step) - step := by omega
    rw [b]; exact Nat.dvd_sub a (Nat.dvd_refl step)
  have ag : agr w (w.length - (step + w.length % step)) = true := by
    obtain ⟨j, hj⟩ := dv
    rw [hj, Nat.mul_comm]; exact agr_mul p2 j
  have lt : step + w.length % step < w.length := by
    rcases Nat.lt_or_ge (step + w.length % step) w.length with c | c
    · exact c
    · have hd := Nat.div_add_mod w.length step
      have q : 2 ≤ w.length / step := by
        rw [Nat.le_div_iff_mul_le p0]; exact d
      have := Nat.mul_le_mul_left step q
      omega
  exact ⟨by rw [List.length_drop]; omega, lt, from_shfs ag (by omega)⟩
theorem twoF_cons (f many x step : Nat) (rest : List Nat) : twoF (f + 1) many (x :: step :: rest) = if 2 * step ≤ many then (List.range many).map fun p => (twoF f (step + many % step) (fromOn (x :: step :: rest) (many - (step + many % step)))).getD (p % step) 0
          else twoF f (many - step) (fromOn (x :: step :: rest) step) ++ (if primW (twoF f (many - step) (fromOn (x :: step :: rest) step) ++ List.replicate (step - (many - step)) 1) = true then List.replicate (step - (many - step)) 1 else (List.replicate (step - (many - step)) (1 : Int)).tail ++ [0]) ++ twoF f (many - step) (fromOn (x :: step :: rest) step) := rfl
theorem twoF_len : ∀ (f : Nat) {w : List Int}, 1 ≤ w.length → w.length ≤ f → (twoF f w.length (shfs w)).length = w.length
  | 0, w, h1, h2 => by omega
  | f + 1, w, h1, h2 => by
    rcases shfs_cases h1 with e | ⟨rest, e, hl⟩
    · rw [e]
      show (0 :: List.replicate (w.length - 1) (1 : Int)).length = _
      rw [List.length_cons, List.length_replicate]; omega
    · have p0 := (perd_ok (w := w) (by omega)).1
      rw [e, twoF_cons, ← e]
      by_cases d : 2 * perd w ≤ w.length
      · rw [if_pos d]; simp
      · rw [if_neg d]
        have ih := twoF_len f (w := w.drop (perd w)) (by rw [List.length_drop]; omega) (by rw [List.length_drop]; omega)
        rw [← from_shfs (perd_ok (w := w) (by omega)).2.2.1 hl, List.length_drop] at ih
        rw [List.length_append, List.length_append, ih]
        split
        · rw [List.length_replicate]; omega
        · rw [List.length_append, List.length_tail, List.length_replicate, List.length_singleton]; omega
section
variable {Γ : Str → Option Fn} {W n : Nat} {m : Ms}
theorem run_is_primitive (h : H9 Γ) {w : List Int} (hw : w.length ≤ 1000) : run Γ W (n + 2) "is_primitive" [.p (tI w)] m = ret (.p (.bool (primW w))) m := by
  rw [run_code h.is_primitive rfl]
  have rg : rngOk 1 (w.length : Int) = true := rngOk_of (by omega)
  simp only [P.d_is_primitive, startR, List.map_cons, List.map_nil, List.length_cons, List.length_nil]
  have hl : w.length ≤ lim + 1 := by unfold lim; omega
  simp [rg, hl, rngL1]
  rw [compGo_all (fun p : Nat => PyData.bool (decide (w.length % p = 0) && agr w p)) (fun p hp => ?_)]
  · simp [primW, List.any_map]
  · rw [List.mem_range'_1] at hp
    have z0 : (0 : Int) < (p : Int) := by omega
    have z1 : decide ((w.length : Int) % (p : Int) = 0) = decide (w.length % p = 0) := by
      rw [← Int.natCast_emod]
      simp only [decide_eq_decide]
      omega
    have z2 : ∀ m, run Γ W (n + 1) "agrees" [.p (tI w), .p (.int (p : Int))] m = ret (.p (.bool (agr w p))) m := fun m => run_agrees h.toH3 true hw (by omega)
    rw [turn_one]
    by_cases q : w.length % p = 0
    · have q' : (w.length : Int) % (p : Int) = 0 := by rw [← Int.natCast_emod]; omega
      simp only [evC_no, bnd_ret', if_true, ev_and, ev_cmp, ev_bnr, ev_vr, List.getElem?_cons_succ, List.getElem?_cons_zero, List.set_cons_succ, List.set_cons_zero, varR_fz, dOf_r, bin_mod, if_pos z0, Option.map_some, opt_s, ev_cst, lit_int, cmp_eq, eqD_int, q', decide_true, evAnd_cons, ev_call, eva_cons, eva_nil, z2, evAnd_nil, q, Bool.true_and]
    · have q' : ¬ (w.length : Int) % (p : Int) = 0 := by rw [← Int.natCast_emod]; omega
      simp only [evC_no, bnd_ret', if_true, ev_and, ev_cmp, ev_bnr, ev_vr, List.getElem?_cons_succ, List.getElem?_cons_zero, List.set_cons_succ, List.set_cons_zero, varR_fz, dOf_r, bin_mod, if_pos z0, Option.map_some, opt_s, ev_cst, lit_int, cmp_eq, eqD_int, q', decide_false, evAnd_cons, Bool.false_eq_true, if_false, q, Bool.false_and]
theorem run_from_on (h : H9 Γ) {T : List Nat} (hT : T.length ≤ 1000) {p : Nat} : run Γ W (n + 1) "from_on" [.p (tN T), .p (.int (p : Int))] m = ret (.p (tN (fromOn T p))) m := by
  rw [run_code h.from_on rfl]
  have hl : T.length ≤ lim := by unfold lim; omega
  simp [P.d_from_on, startR, hl]
  rw [compGo_sel (fun s : Nat => decide (p ≤ s)) (fun (s : Nat) => PyData.int ((s : Int) - (p : Int))) (fun s hs => by rw [turn_one]; simp)]
  have e : (T.filter fun s => decide (p ≤ s)).map (fun (s : Nat) => PyData.int ((s : Int) - (p : Int))) = (fromOn T p).map fun (n : Nat) => PyData.int (n : Int) := by
    unfold fromOn
    rw [List.map_map]
    refine List.map_congr_left fun s hs => ?_
    have := of_decide_eq_true (List.mem_filter.mp hs).2
    show PyData.int ((s : Int) - (p : Int)) = PyData.int ((s - p : Nat) : Int)
    congr 1; omega
  rw [e]
  simp
theorem run_two_in (h : H9 Γ) : ∀ (f : Nat) {w : List Int} {n : Nat} {m : Ms}, 1 ≤ w.length → w.length ≤ f → f ≤ 24 → run Γ W (n + f + 3) "two_in" [.p (.int (w.length : Int)), .p (tN (shfs w))] m = ret (.p (tI (twoF f w.length (shfs w)))) m
  | 0, w, n, m, h1, h2, _ => by omega
  | f + 1, w, n, m, h1, h2, h3 => by
    rw [show n + (f + 1) + 3 = (n + f + 3) + 1 by omega, run_code h.two_in rfl]
    obtain ⟨p0, p1, p2, p4, p5⟩ := perd_ok (w := w) (by omega)
    have hlen : (shfs w).length ≤ w.length := by
      have := List.length_filter_le (agr w) (List.range w.length)
      simpa [shfs] using this
    rcases shfs_cases h1 with e | ⟨rest, e, hl⟩
    · have e' : twoF (f + 1) w.length [0] = 0 :: List.replicate (w.length - 1) 1 := rfl
      rw [e, e']
      have k1 : -1000 ≤ (w.length : Int) - 1 ∧ (w.length : Int) - 1 ≤ 1000 ∧ 1 ≤ 1000 := by omega
      have k2 : (List.replicate ((w.length : Int) - 1).toNat ([PyData.int 1])).flatten = List.replicate (w.length - 1) (PyData.int 1) := by
        rw [show ((w.length : Int) - 1).toNat = w.length - 1 by omega]
        simp
      have k3 : 1 + (w.length - 1) ≤ lim := by unfold lim; omega
      simp [P.d_two_in, startR, show 1 ≤ lim by decide, k1, k2, k3, tI]
    · have q1 : ¬ ((shfs w).length : Int) = 1 := by rw [e]; simp; omega
      have q2 : L2.atI ((shfs w).map fun (n : Nat) => PyData.int (n : Int)) 1 = some (.int (perd w : Int)) := by
        rw [e]
        exact at_nat _ 1
      have sl : (shfs w).length ≤ 1000 := by omega
      have np := fun d => near_part h1 hl d
      have fo := from_shfs p2 hl
      have e1 := twoF_cons f w.length 0 (perd w) rest
      rw [← e] at e1
      rw [e1]
      clear e1 e
      generalize hp : perd w = step at *
      have q3 : (-(2 ^ 64) < (2 : Int) ∧ (2 : Int) < 2 ^ 64) ∨ (-(2 ^ 64) < (step : Int) ∧ (step : Int) < 2 ^ 64) := .inl (by decide)
      apply eq_of_tw
      refine tw_bnd.mpr ?_
      unfold P.d_two_in
      refine tw_skip (m' := m) (by simp [startR, q1]) ?_
      refine tw_set (v := .p (.int (step : Int))) (m' := m) (by simp [startR, q2]) ?_
      change tw (exB _ _ _ [some (.fz (.p (.int (w.length : Int)))), some (.fz (.p (tN (shfs w)))), some (.fz (.p (.int (step : Int)))), none, none, none, none] _) _
      by_cases d : 2 * step ≤ w.length
      · rw [if_pos d]
        obtain ⟨dl, lt, fo⟩ := np d
        have rp : w.length % step < step := Nat.mod_lt _ p0
        generalize hr : w.length % step = r at *
        have ih := run_two_in h f (w := w.drop (w.length - (step + r))) (n := n) (m := m) (by omega) (by omega) (by omega)
        have hh := twoF_len f (w := w.drop (w.length - (step + r))) (by omega) (by omega)
        rw [dl, ← fo] at ih hh
        refine tw_then (m' := m) (by simp [q3, show (2 : Int) * (step : Int) ≤ (w.length : Int) by omega]) ?_
        have z0 : (0 : Int) < (step : Int) := by omega
        refine tw_set (v := .p (.int ((step + r : Nat) : Int))) (m' := m) (by simp [p0, ← hr]) ?_
        dsimp only [List.set]
        have sz : (w.length : Int) - ((step + r : Nat) : Int) = ((w.length - (step + r) : Nat) : Int) := by omega
        have s1 : ∀ m, run Γ W (n + f + 3) "from_on" [.p (tN (shfs w)), .p (.int ((w.length - (step + r) : Nat) : Int))] m = ret (.p (tN (fromOn (shfs w) (w.length - (step + r))))) m := fun m => run_from_on h sl
        generalize fromOn (shfs w) (w.length - (step + r)) = T' at *
        generalize twoF f (step + r) T' = head at *
        refine tw_set (v := .p (tI head)) (m' := m) ?_ ?_
        · simp only [ev_call, eva_cons, eva_nil, ev_vr, List.getElem?_cons_succ, List.getElem?_cons_zero, varR_fz, bnd_ret', bnd_assoc, ev_bnr, dOf_r, bin_sub, Option.map_some, opt_s, sz, s1, ih]
        dsimp only [List.set]
        refine tw_rt (v := .p (tI ((List.range w.length).map fun p => head.getD (p % step) 0))) (m' := m) ?_ (tw_ret.mpr (tw_ret.mpr ⟨rfl, rfl⟩))
        have hll : w.length ≤ lim := by unfold lim; omega
        have rg : rngOk 0 (w.length : Int) = true := rngOk_of (by omega)
        simp [rg, hll, rngL_zero]
        rw [compGo_all (fun i : Nat => PyData.int (head.getD (i % step) 0)) (fun i hi => ?_)]
        · simp [tI]; rfl
        · have z2 : i % step < head.length := by rw [hh]; have := Nat.mod_lt i p0; omega
          have z3 : L2.atI (head.map PyData.int) ((i : Int) % (step : Int)) = some (.int (head.getD (i % step) 0)) := by
            rw [← Int.natCast_emod, at_nat]; simp [z2]
          rw [turn_one]
          simp only [evC_no, bnd_ret', if_true, ev_ix, lk_var, List.getElem?_cons_succ, List.getElem?_cons_zero, List.set_cons_succ, List.set_cons_zero, lkR_fz, ev_bnr, ev_vr, varR_fz, Option.map_some, opt_s, dOf_r, bin_mod, if_pos z0, idx_t, z3]
      · rw [if_neg d]
        have dl : (w.drop step).length = w.length - step := List.length_drop
        have ih := run_two_in h f (w := w.drop step) (n := n) (m := m) (by omega) (by omega) (by omega)
        have hh := twoF_len f (w := w.drop step) (by omega) (by omega)
        rw [dl, ← fo] at ih hh
        refine tw_skip (m' := m) (by simp [q3, show ¬ (2 : Int) * (step : Int) ≤ (w.length : Int) by omega]) ?_
        have sz : (w.length : Int) - (step : Int) = ((w.length - step : Nat) : Int) := by omega
        refine tw_set (v := .p (.int ((w.length - step : Nat) : Int))) (m' := m) (by simp [sz]) ?_
        dsimp only [List.set]
        have s1 : ∀ m, run Γ W (n + f + 3) "from_on" [.p (tN (shfs w)), .p (.int (step : Int))] m = ret (.p (tN (fromOn (shfs w) step))) m := fun m => run_from_on h sl
        generalize fromOn (shfs w) step = T' at *
        generalize twoF f (w.length - step) T' = head at *
        refine tw_set (v := .p (tI head)) (m' := m) (by simp only [ev_call, eva_cons, eva_nil, ev_vr, List.getElem?_cons_succ, List.getElem?_cons_zero, varR_fz, bnd_ret', bnd_assoc, s1, ih]) ?_
        dsimp only [List.set]
        obtain ⟨q, hq⟩ : ∃ q, step - (w.length - step) = q + 1 := ⟨step - (w.length - step) - 1, by omega⟩
        have sz2 : (step : Int) - ((w.length - step : Nat) : Int) = ((q + 1 : Nat) : Int) := by omega
        rw [hq]
        have k1 : -1000 ≤ ((q + 1 : Nat) : Int) ∧ ((q + 1 : Nat) : Int) ≤ 1000 ∧ [PyData.int 1].length ≤ 1000 := by refine ⟨?_, ?_, by decide⟩ <;> omega
        have k2 : (List.replicate ((q + 1 : Nat) : Int).toNat ([PyData.int 1])).flatten = (List.replicate (q + 1) (1 : Int)).map PyData.int := by
          rw [Int.toNat_natCast]; simp
        refine tw_set (v := .p (tI (List.replicate (q + 1) 1))) (m' := m) ?_ ?_
        · simp only [ev_bnr, ev_tup, evs_cons, evs_nil, ev_cst, lit_int, dOf_r, bnd_ret', List.length_cons, List.length_nil, if_pos (show 0 + 1 ≤ lim by decide), ev_vr, List.getElem?_cons_succ, List.getElem?_cons_zero, varR_fz, bin_sub, Option.map_some, opt_s, sz2, bin_tmul, k2]
          rw [if_pos ⟨k1.1, k1.2.1, by decide⟩]; rfl
        dsimp only [List.set]
        have a1 : (head.map PyData.int).length + ((List.replicate (q + 1) (1 : Int)).map PyData.int).length ≤ lim := by simp; unfold lim; omega
        have s2 : ∀ m, run Γ W (n + f + 3) "is_primitive" [.p (tI (head ++ List.replicate (q + 1) 1))] m = ret (.p (.bool (primW (head ++ List.replicate (q + 1) 1)))) m := fun m => run_is_primitive h (by simp; omega)
        have ep : binD .Add (tI head) (tI (List.replicate (q + 1) 1)) = some (tI (head ++ List.replicate (q + 1) 1)) := by
          show (if _ then _ else _) = _
          rw [if_pos a1, ← List.map_append]
        have fin : ∀ (mid : List Int), mid.length = q + 1 → tw (exB (run Γ W (n + f + 3)) W (.cons (.rt (.bin .Add (.bin .Add (.var 4) (.var 5)) (.var 4))) .nil) [some (.fz (.p (.int (w.length : Int)))), some (.fz (.p (tN (shfs w)))), some (.fz (.p (.int (step : Int)))), some (.fz (.p (.int ((w.length - step : Nat) : Int)))), some (.fz (.p (tI head))), some (.fz (.p (tI mid))), none] m) fun a m_1 => tw (endF a m_1) fun b m' => b = .p (tI (head ++ mid ++ head)) ∧ m' = m := by
          intro mid hmid
          have b1 : (head.map PyData.int).length + (mid.map PyData.int).length ≤ lim := by simp; unfold lim; omega
          have b2 : ((head ++ mid).map PyData.int).length + (head.map PyData.int).length ≤ lim := by simp; unfold lim; omega
          have ep1 : binD .Add (tI head) (tI mid) = some (tI (head ++ mid)) := by
            show (if _ then _ else _) = _
            rw [if_pos b1, ← List.map_append]
          have ep2 : binD .Add (tI (head ++ mid)) (tI head) = some (tI (head ++ mid ++ head)) := by
            show (if _ then _ else _) = _
            rw [if_pos b2, ← List.map_append]
          refine tw_rt (v := .p (tI (head ++ mid ++ head))) (m' := m) ?_ (tw_ret.mpr ⟨rfl, rfl⟩)
          simp only [ev_bnr, ev_vr, List.getElem?_cons_succ, List.getElem?_cons_zero, varR_fz, dOf_r, bnd_ret', ep1, Option.map_some, opt_s, ep2]
        have tst : ev (run Γ W (n + f + 3)) (.not (.call "is_primitive" (.cons (.bin .Add (.var 4) (.var 5)) .nil))) [some (.fz (.p (.int (w.length : Int)))), some (.fz (.p (tN (shfs w)))), some (.fz (.p (.int (step : Int)))), some (.fz (.p (.int ((w.length - step : Nat) : Int)))), some (.fz (.p (tI head))), some (.fz (.p (tI (List.replicate (q + 1) 1)))), none] m = ret (.p (.bool (!primW (head ++ List.replicate (q + 1) 1)))) m := by
          simp only [ev_not, ev_call, eva_cons, eva_nil, ev_bnr, ev_vr, List.getElem?_cons_succ, List.getElem?_cons_zero, varR_fz, dOf_r, bnd_ret', bnd_assoc, ep, Option.map_some, opt_s, s2, boolOf_bool]
        cases hpr : primW (head ++ List.replicate (q + 1) 1) with
        | true =>
          rw [hpr] at tst
          rw [if_pos rfl]
          exact tw_skip tst (fin _ (by simp))
        | false =>
          rw [hpr] at tst
          rw [if_neg (by decide)]
          have sc : slcD (tI (List.replicate (q + 1) 1)) (some 1) none = some (tI (List.replicate q 1)) := by
            show some (PyData.tuple (cutD _ (some ((1 : Nat) : Int)) none)) = _
            rw [cut_from]
            simp [List.replicate_succ]
          have ep3 : binD .Add (tI (List.replicate q 1)) (.tuple [.int 0]) = some (tI (List.replicate q 1 ++ [0])) := by
            show (if _ then _ else _) = _
            rw [if_pos (by simp; unfold lim; omega)]
            simp
          refine tw_then tst (tw_set (v := .p (tI (List.replicate q 1 ++ [0]))) (m' := m) ?_ ?_)
          · simp only [ev_bnr, ev_slc, ev_vr, List.getElem?_cons_succ, List.getElem?_cons_zero, varR_fz, dOf_r, bnd_ret', evO_yes, evO_no, ev_cst, lit_int, intOf_int, Option.map_some, opt_s, sc, ev_tup, evs_cons, evs_nil, List.length_cons, List.length_nil, if_pos (show 0 + 1 ≤ lim by decide), ep3]
          dsimp only [List.set]
          refine tw_nil ?_
          rw [kb_nx, List.replicate_succ, List.tail_cons]
          exact fin _ (by simp)
end
end G

end
section
set_option maxHeartbeats 4000000
namespace G
open PySem PySem.Spec PyProof.Rows L2
def tw2 (k : Nat) (T : List Nat) : List Int := twoF 24 k T
theorem two_ok {w : List Int} (h1 : 1 ≤ w.length) (h2 : w.length ≤ 24) : (tw2 w.length (shfs w)).length = w.length ∧ (∀ x ∈ tw2 w.length (shfs w), x = 0 ∨ x = 1) ∧ shfs (tw2 w.length (shfs w)) = shfs w := by
  exact two24 h1 h2
def Cls (k : Nat) (T : List Nat) : Prop := Told k T ∧ clo k T = T
theorem cls_clo {k : Nat} (hk : 0 < k) (T : List Nat) : Cls k (clo k T) := ⟨clo_told hk T, clo_clo hk T⟩
theorem cls_shfs {w : List Int} (h : 0 < w.length) : Cls w.length (shfs w) := ⟨shfs_told h, clo_shfs w h⟩
theorem cls_two {k : Nat} {T : List Nat} (h : Cls k T) (hk : 1 ≤ k ∧ k ≤ 24) : (tw2 k T).length = k ∧ (∀ x ∈ tw2 k T, x = 0 ∨ x = 1) ∧ shfs (tw2 k T) = T := by
  have := two_ok (w := fw k T) (by rw [fw_len]; exact hk.1) (by rw [fw_len]; exact hk.2)
  rw [fw_len, show shfs (fw k T) = T from h.2] at this
  exact this
def besides (k : Nat) (T : List Nat) : Option Nat := (clo k T).find? fun s => !decide (s ∈ T)
theorem besides_none {k : Nat} {T : List Nat} (h : Cls k T) : besides k T = none := by
  unfold besides
  rw [List.find?_eq_none]
  intro s hs
  rw [h.2] at hs
  simp [hs]
theorem besides_iff {k : Nat} {T : List Nat} (h : Told k T) : besides k T = none ↔ clo k T = T := by
  refine ⟨fun e => asc_ext (shfs_pair _) h.1 fun s => ⟨fun hs => ?_, told_sub h⟩, fun e => besides_none ⟨h, e⟩⟩
  unfold besides at e
  rw [List.find?_eq_none] at e
  simpa using e s hs
structure H10 (Γ : Str → Option Fn) : Prop extends H5 Γ, H7 Γ where
  need_closed : Γ "need_closed" = some (.code P.d_need_closed)
section
variable {Γ : Str → Option Fn} {W n : Nat} {m : Ms} {k : Nat} {T : List Nat}
theorem closed_loop (cl : Str → List Val → Ms → R Val) (T : List Nat) (x : Slot) : ∀ (S : List Nat) (a : Option Slot),
    bnd (bnd (forGo (lturn cl W (.one 2) (.cons (.ite (.cmp .NotIn (.var 2) (.var 1)) (.cons (.rse "NotClosed" (.var 2)) .nil) .nil) .nil)) (S.map fun (n : Nat) => PyData.int (n : Int)) [some x, some (.fz (.p (tN T))), a] m) (kb cl W .nil)) endF = orBad "NotClosed" m ((S.find? fun s => !decide (s ∈ T)).map fun (s : Nat) => PyData.int (s : Int))
  | [], a => by simp [forGo]
  | s :: S, a => by
    have ih := closed_loop cl T x S
    rw [List.map_cons, forGo, List.find?_cons]
    by_cases q : s ∈ T
    · simp [q]
      simpa using ih _
    · simp [q]
theorem run_need_closed (h5 : H5 Γ) (h7 : H7 Γ) (h : Γ "need_closed" = some (.code P.d_need_closed)) (hk : 1 ≤ k ∧ k ≤ 24) (ht : Told k T) : run Γ W (n + 5) "need_closed" [.p (.int (k : Int)), .p (tN T)] m = orBad "NotClosed" m ((besides k T).map fun (s : Nat) => PyData.int (s : Int)) := by
  rw [run_code h rfl]
  have := closed_loop (W := W) (m := m) (run Γ W (n + 4)) T (.fz (.p (.int (k : Int)))) (clo k T) none
  simp [P.d_need_closed, startR, run_need_told_ok h5 hk ht, run_closed h7 (show k ≤ 63 by omega) ht.2.1]
  simpa [besides] using this
theorem run_two_in_ok (h9 : H9 Γ) (hk : 1 ≤ k ∧ k ≤ 24) (hc : Cls k T) : run Γ W (n + 27) "two_in" [.p (.int (k : Int)), .p (tN T)] m = ret (.p (tI (tw2 k T))) m := by
  have := run_two_in (W := W) h9 24 (w := fw k T) (n := n) (m := m) (by rw [fw_len]; exact hk.1) (by rw [fw_len]; exact hk.2) (Nat.le_refl _)
  rw [fw_len, show shfs (fw k T) = T from hc.2] at this
  exact this
theorem run_two_letters (h5 : H5 Γ) (h7 : H7 Γ) (h9 : H9 Γ) (hn : Γ "need_closed" = some (.code P.d_need_closed)) (h : Γ "two_letters" = some (.code P.d_two_letters)) (hk : 1 ≤ k ∧ k ≤ 24) (hc : Cls k T) : run Γ W (n + 28) "two_letters" [.p (.int (k : Int)), .p (tN T)] m = ret (.p (tI (tw2 k T))) m := by
  rw [run_code h rfl]
  simp [P.d_two_letters, startR, run_need_closed h5 h7 hn hk hc.1, besides_none hc, run_two_in_ok h9 hk hc]
theorem repr01 {x : Int} (h : x = 0 ∨ x = 1) : biD .repr (.int x) = some (.str (if x = 0 then "0" else "1")) := by
  have a : (PyData.int 0).shown = ("0" : Str) := by decide +kernel
  have b : (PyData.int 1).shown = ("1" : Str) := by decide +kernel
  rcases h with h | h <;> subst h
  · rw [biD_repr ((fit_int (k := 1) (by decide) (by decide)).mono (Nat.zero_le _) (Nat.le_refl _)) (by decide), a]; rfl
  · rw [biD_repr ((fit_int (k := 1) (by decide) (by decide)).mono (Nat.zero_le _) (Nat.le_refl _)) (by decide), b]; rfl
theorem in01 {x : Int} (h : x = 0 ∨ x = 1) : inD (.str (if x = 0 then "0" else "1")) (.tuple [.str "0", .str "1"]) = some true := by
  rcases h with h | h <;> subst h <;> decide +kernel
end
end G

end
section
set_option maxHeartbeats 4000000
namespace G
open PySem PySem.Spec PyProof.Rows L2
def paperW (k : Nat) (T : List Nat) : PyData := match besides k T with
  | some s => .tuple [.str "besides", .int (s : Int)]
  | none => .tuple [.str "word", tI (tw2 k T)]
def bin01 : List PyData → Option (List Int)
  | [] => some []
  | .int i :: r => if 0 ≤ i ∧ i ≤ 1 then (bin01 r).map (i :: ·) else none
  | _ :: _ => none
def besB (k : Nat) (T : List Nat) : PyData → Bool
  | .int i => decide (0 ≤ i ∧ i ≤ (k : Int) - 1) && !decide (i.toNat ∈ T) && decide (i.toNat ∈ clo k T)
  | _ => false
def wordB (k : Nat) (T : List Nat) : PyData → Bool
  | .tuple l => decide (l.length = k) && (match bin01 l with | some w => decide (shfs w = T) | none => false)
  | _ => false
def paperC (k : Nat) (T : List Nat) (s : Str) (b : PyData) : Bool :=
  if s = ("besides" : Str) then besB k T b else decide (s = ("word" : Str)) && wordB k T b
def paperB (k : Nat) (T : List Nat) (d : PyData) : Bool := match d with
  | .tuple l => match l with
    | [a, b] => match a with
      | .str s => paperC k T s b
      | _ => false
    | _ => false
  | _ => false
theorem bin01_all : ∀ (l : List PyData), (l.all fun d => among d 0 1) = (bin01 l).isSome
  | [] => rfl
  | d :: l => by
    have ih := bin01_all l
    rw [List.all_cons, ih]
    cases d with
    | int i =>
      by_cases q : 0 ≤ i ∧ i ≤ 1
      · simp [bin01, among, q]
      · have : ¬ (decide (0 ≤ i) && decide (i ≤ 1)) = true := by simpa using q
        simp [bin01, among, q]
    | _ => simp [bin01, among]
theorem bin01_ok : ∀ {l : List PyData} {w : List Int}, bin01 l = some w → l = w.map .int ∧ ∀ x ∈ w, x = 0 ∨ x = 1
  | [], w, h => by cases h; exact ⟨rfl, fun _ h => nomatch h⟩
  | d :: l, w, h => by
    cases d with
    | int i =>
      by_cases q : 0 ≤ i ∧ i ≤ 1
      · simp only [bin01, if_pos q] at h
        cases e : bin01 l with
        | none => rw [e] at h; cases h
        | some v =>
          rw [e] at h; cases h
          obtain ⟨h1, h2⟩ := bin01_ok e
          refine ⟨by rw [h1]; rfl, fun x hx => ?_⟩
          rcases List.mem_cons.mp hx with rfl | hx
          · omega
          · exact h2 x hx
      · simp [bin01, q] at h
    | _ => simp [bin01] at h
theorem bin01_int {w : List Int} (h : ∀ x ∈ w, x = 0 ∨ x = 1) : bin01 (w.map .int) = some w := by
  induction w with
  | nil => rfl
  | cons x w ih =>
    have := h x (by simp)
    rw [List.map_cons, bin01, if_pos (by omega), ih fun y hy => h y (by simp [hy])]
    rfl
theorem paperB_self {k : Nat} {T : List Nat} (hk : 1 ≤ k ∧ k ≤ 24) (ht : Told k T) : paperB k T (paperW k T) = true := by
  unfold paperW
  cases e : besides k T with
  | some s =>
    have h1 := List.mem_of_find?_eq_some e
    have h2 := List.find?_some e
    have h3 : s < k := (mem_clo.mp h1).1
    show paperC k T ("besides" : Str) (.int (s : Int)) = true
    simp at h2
    simp [paperC, besB, h1, h2]
    omega
  | none =>
    obtain ⟨h1, h2, h3⟩ := cls_two (⟨ht, (besides_iff ht).mp e⟩ : Cls k T) hk
    show paperC k T ("word" : Str) (tI (tw2 k T)) = true
    have q : ¬ (("word" : Str) = ("besides" : Str)) := by decide
    simp only [paperC, if_neg q, tI, wordB, List.length_map, h1, bin01_int h2, h3]
    simp
theorem shaped_two (a : Str) (b : PyData) (ha : PyData.strOk a = true) (hb : SeqAt.shaped b = true) (hd : b.depth ≤ 2) : SeqAt.shaped (.tuple [.str a, b]) = true := by
  unfold SeqAt.shaped at hb ⊢
  simp only [PyData.canLay0, PyData.canLayAll0, PyData.depth, PyData.depthAll, ha, Bool.and_eq_true, decide_eq_true_eq] at hb ⊢
  refine ⟨by simp [hb.1], ?_⟩
  simp
  omega
theorem eqv_two (a : Str) (b c : PyData) : PyData.eqv (.tuple [.str a, b]) (.tuple [.str a, c]) = PyData.eqv b c := by
  simp [PyData.eqv, PyData.eqvAll]
@[simp] theorem eqD_bes (i j : Int) : eqD (.tuple [.str "besides", .int i]) (.tuple [.str "besides", .int j]) = some (decide (i = j)) := by
  rw [eqD_shaped (shaped_two _ _ (by decide +kernel) rfl (by simp [PyData.depth])) (shaped_two _ _ (by decide +kernel) rfl (by simp [PyData.depth])) (fun ⟨_, h⟩ => nomatch h), eqv_two, PyData.eqv]
  by_cases h : i = j <;> simp [h]
@[simp] theorem eqD_wrd (w v : List Int) : eqD (.tuple [.str "word", .tuple (w.map .int)]) (.tuple [.str "word", .tuple (v.map .int)]) = some (decide (w = v)) := by
  rw [eqD_shaped (shaped_two _ _ (by decide +kernel) (shaped_tI _) (by simp [PyData.depth, depthAll_int])) (shaped_two _ _ (by decide +kernel) (shaped_tI _) (by simp [PyData.depth, depthAll_int])) (fun ⟨_, h⟩ => nomatch h), eqv_two, PyData.eqv, eqvAll_int]
@[simp] theorem eqD_paper (k : Nat) (T : List Nat) : eqD (paperW k T) (paperW k T) = some true := by
  unfold paperW
  cases besides k T <;> simp
section
variable {Γ : Str → Option Fn} {W n : Nat} {m : Ms} {k : Nat} {T : List Nat}
theorem run_paper (h5 : H5 Γ) (h7 : H7 Γ) (h9 : H9 Γ) (h : Γ "paper" = some (.code P.d_paper)) (hk : 1 ≤ k ∧ k ≤ 24) (ht : Told k T) : run Γ W (n + 28) "paper" [.p (.int (k : Int)), .p (tN T)] m = ret (.p (paperW k T)) m := by
  rw [run_code h rfl]
  have loop : ∀ (S : List Nat) (a : Option Slot) (x : Slot), forGo (lturn (run Γ W (n + 27)) W (.one 2) (.cons (.ite (.cmp .NotIn (.var 2) (.var 1)) (.cons (.rt (.tup (.cons (.glb "BESIDES" (.str "besides")) (.cons (.var 2) .nil)))) .nil) .nil) .nil)) (S.map fun (n : Nat) => PyData.int (n : Int)) [some x, some (.fz (.p (tN T))), a] m =
      match S.find? fun s => !decide (s ∈ T) with
      | some s => ret (.rt (.p (.tuple [.str "besides", .int (s : Int)]))) m
      | none => ret (.nx [some x, some (.fz (.p (tN T))), match S.getLast? with | some s => some (.fz (.p (.int (s : Int)))) | none => a]) m := by
    intro S
    induction S with
    | nil => intro a x; rfl
    | cons s S ih =>
      intro a x
      rw [List.map_cons, forGo, List.find?_cons]
      by_cases q : s ∈ T
      · simp [q]
        have := ih (some (.fz (.p (.int (s : Int))))) x
        simp only [tN] at this
        rw [this]
        cases S.find? fun s => !decide (s ∈ T) with
        | some t => rfl
        | none =>
          cases e : S with
          | nil => rfl
          | cons t r => simp [List.getLast?_cons]
      · simp [q, show 2 ≤ lim by decide]
  have lp := loop (clo k T) none (.fz (.p (.int (k : Int))))
  have hb : besides k T = (clo k T).find? fun s => !decide (s ∈ T) := rfl
  rw [← hb] at lp
  cases e : besides k T with
  | some s =>
    rw [e] at lp
    simp only [tN] at lp
    simp [P.d_paper, startR, run_need_told_ok h5 hk ht, run_closed h7 (show k ≤ 63 by omega) ht.2.1, lp, paperW, e]
  | none =>
    have cc : Cls k T := ⟨ht, (besides_iff ht).mp e⟩
    rw [e] at lp
    simp only [tN] at lp
    have r1 := run_two_in_ok (W := W) (n := n) (m := m) h9 hk cc
    simp only [tN] at r1
    simp [P.d_paper, startR, run_need_told_ok h5 hk ht, run_closed h7 (show k ≤ 63 by omega) ht.2.1, lp, paperW, e, r1, show 2 ≤ lim by decide]
theorem run_is_paper (h5 : H5 Γ) (h7 : H7 Γ) (h : Γ "is_paper" = some (.code P.d_is_paper)) (hk : 1 ≤ k ∧ k ≤ 24) (ht : Told k T) (d : PyData) : run Γ W (n + 5) "is_paper" [.p (.int (k : Int)), .p (tN T), .p d] m = ret (.p (.bool (paperB k T d))) m := by
  rw [run_code h rfl]
  have r1 := run_need_told_ok (W := W) (n := n) (m := m) h5 hk ht
  have r2 := run_closed (W := W) (n := n + 1) (m := m) h7 (show k ≤ 63 by omega) ht.2.1
  have no : ∀ (hb : paperB k T d = false) (h' : bnd (exB (run Γ W (n + 4)) W P.d_is_paper.body (startR P.d_is_paper.ns [.p (.int (k : Int)), .p (tN T), .p d]) m) endF = ret (.p (.bool false)) m), bnd (exB (run Γ W (n + 4)) W P.d_is_paper.body (startR P.d_is_paper.ns [.p (.int (k : Int)), .p (tN T), .p d]) m) endF = ret (.p (.bool (paperB k T d))) m := fun hb h' => by rw [hb]; exact h'
  cases d with
  | tuple l =>
    match l with
    | [] => exact no rfl (by simp [P.d_is_paper, startR, r1, tyD, isTy])
    | [a] => exact no rfl (by simp [P.d_is_paper, startR, r1, tyD, isTy])
    | a :: b :: c :: r =>
      refine no rfl ?_
      have : ¬ ((r.length : Int) + 1 + 1 + 1 = 2) := by omega
      simp [P.d_is_paper, startR, r1, tyD, isTy, this]
    | [a, b] =>
      have i0 : L2.atI [a, b] 0 = some a := at_nat _ 0
      have i1 : L2.atI [a, b] 1 = some b := at_nat _ 1
      cases a with
      | str s =>
        have e0 : paperB k T (.tuple [.str s, b]) = paperC k T s b := rfl
        rw [e0]
        by_cases q : s = ("besides" : Str)
        · subst q
          have e1 : paperC k T ("besides" : Str) b = besB k T b := if_pos rfl
          rw [e1]
          cases hx : among b 0 ((k : Int) - 1) with
          | false =>
            have e2 : besB k T b = false := by
              cases b with
              | int i =>
                simp [among] at hx
                simp [besB]
                intro a1 a2
                exact absurd a2 (by have := hx a1; omega)
              | _ => rfl
            rw [e2]
            simp [P.d_is_paper, startR, r1, tyD, isTy, i0, i1, run_is_among h5.toH1, hx]
          | true =>
            cases b with
            | int i =>
              simp [among] at hx
              obtain ⟨j, rfl⟩ := Int.eq_ofNat_of_zero_le hx.1
              have hx' : among (.int (j : Int)) 0 ((k : Int) - 1) = true := by simp [among, hx]
              simp [P.d_is_paper, startR, r1, r2, tyD, isTy, i0, i1, run_is_among h5.toH1, hx', hx, besB]
              by_cases w1 : j ∈ T <;> simp [w1, hx]
            | _ => simp [among] at hx
        · by_cases q2 : s = ("word" : Str)
          · subst q2
            have e1 : paperC k T ("word" : Str) b = wordB k T b := by unfold paperC; rw [if_neg q]; simp
            rw [e1]
            cases b with
            | tuple l =>
              by_cases w1 : l.length = k
              · have w1' : (l.length : Int) = (k : Int) := by omega
                have ll : l.length ≤ lim := by unfold lim; omega
                simp [P.d_is_paper, startR, r1, tyD, isTy, i0, i1, q, w1, w1', show k ≤ lim by omega]
                rw [← List.map_id l, compGo_all (fun d => PyData.bool (among d 0 1)) (fun d hd => by rw [turn_one]; simp [run_is_among h5.toH1])]
                simp
                cases hw : bin01 l with
                | none =>
                  have f : ¬ ∀ x, x ∈ l → among x 0 1 = true := by
                    intro f
                    have := bin01_all l
                    rw [hw, List.all_eq_true.mpr f] at this
                    cases this
                  rw [if_neg f]
                  simp [wordB, hw]
                | some w =>
                  have f : ∀ x, x ∈ l → among x 0 1 = true := by
                    have := bin01_all l
                    rw [hw] at this
                    exact List.all_eq_true.mp this
                  rw [if_pos f]
                  obtain ⟨hl, _⟩ := bin01_ok hw
                  have hlen : w.length = k := by rw [← w1, hl, List.length_map]
                  have r3 := run_shifts_in (W := W) (n := n + 2) (m := m) h7.toH3 true (w := w) (show w.length ≤ 1000 by omega)
                  rw [show sq true (w.map PyData.int) = .tuple l by rw [hl]; rfl] at r3
                  simp [i1, r3, wordB, hw, w1]
              · have w1' : ¬ (l.length : Int) = (k : Int) := by omega
                simp [P.d_is_paper, startR, r1, tyD, isTy, i0, i1, q, w1, w1', wordB]
            | _ => simp [P.d_is_paper, startR, r1, tyD, isTy, i0, i1, q, wordB]
          · have e1 : paperC k T s b = false := by unfold paperC; rw [if_neg q]; simp [q2]
            rw [e1]
            simp [P.d_is_paper, startR, r1, tyD, isTy, i0, i1, q, q2]
      | _ => exact no rfl (by simp [P.d_is_paper, startR, r1, tyD, isTy, i0])
  | _ => exact no rfl (by simp [P.d_is_paper, startR, r1, tyD, isTy])
end
end G

end
section
set_option maxHeartbeats 4000000
namespace P
open PySem PySem.Spec PyProof.Rows L2 G
def d_lbinary : Def := ⟨1, 4, (.cons (.set 1 (.lst (.cons (.tup .nil) .nil))) (.cons (.for (.one 2) (.rng1 (.var 0)) (.cons (.set 1 (.bin .Add (.comp (.bin .Add (.var 3) (.tup (.cons (.cst (.int 0)) .nil))) (.one 3) (.val (.var 1)) .no) (.comp (.bin .Add (.var 3) (.tup (.cons (.cst (.int 1)) .nil))) (.one 3) (.val (.var 1)) .no))) .nil)) (.cons (.rt (.var 1)) .nil)))⟩
end P
namespace G
open PySem PySem.Spec PyProof.Rows L2
def bins : Nat → List (List Int)
  | 0 => [[]]
  | k + 1 => (bins k).map (· ++ [0]) ++ (bins k).map (· ++ [1])
theorem bins_len : ∀ k, (bins k).length = 2 ^ k
  | 0 => rfl
  | k + 1 => by rw [bins, List.length_append, List.length_map, List.length_map, bins_len k, Nat.pow_succ]; omega
theorem mem_bins : ∀ {k : Nat} {w : List Int}, w ∈ bins k ↔ w.length = k ∧ ∀ x ∈ w, x = 0 ∨ x = 1
  | 0, w => by
    rw [bins, List.mem_singleton]
    constructor
    · rintro rfl; exact ⟨rfl, fun _ h => nomatch h⟩
    · rintro ⟨h, _⟩; exact List.length_eq_zero_iff.mp h
  | k + 1, w => by
    simp only [bins, List.mem_append, List.mem_map]
    constructor
    · rintro (⟨v, hv, rfl⟩ | ⟨v, hv, rfl⟩) <;>
      · obtain ⟨h1, h2⟩ := mem_bins.mp hv
        refine ⟨by simp [h1], fun x hx => ?_⟩
        rcases List.mem_append.mp hx with q | q
        · exact h2 x q
        · simp at q; simp [q]
    · rintro ⟨h1, h2⟩
      rcases List.eq_nil_or_concat w with rfl | ⟨v, x, rfl⟩
      · cases h1
      · have hv : v ∈ bins k := mem_bins.mpr ⟨by simpa using h1, fun y hy => h2 y (by simp [hy])⟩
        rcases h2 x (by simp) with rfl | rfl
        · exact .inl ⟨v, hv, by simp⟩
        · exact .inr ⟨v, hv, by simp⟩
def hasT (T : List Nat) (w : List Int) : Bool := T.all fun s => decide (s ∈ shfs w)
def folT (k : Nat) (T : List Nat) (P : List (List Int)) : List Nat := (List.range k).filter fun s => P.all fun w => !hasT T w || decide (s ∈ shfs w)
def soT (T : List Nat) (P : List (List Int)) : Bool := P.any fun w => hasT T w && decide (shfs w = T)
theorem tw_bin {k : Nat} (hk : 1 ≤ k ∧ k ≤ 24) (T : List Nat) : tw2 k (clo k T) ∈ bins k := by
  obtain ⟨h1, h2, _⟩ := cls_two (cls_clo (k := k) (by omega) T) hk
  exact mem_bins.mpr ⟨h1, h2⟩
theorem tw_shf {k : Nat} (hk : 1 ≤ k ∧ k ≤ 24) (T : List Nat) : shfs (tw2 k (clo k T)) = clo k T := (cls_two (cls_clo (k := k) (by omega) T) hk).2.2
theorem fol_all {k : Nat} {T : List Nat} (hk : 1 ≤ k ∧ k ≤ 24) (ht : Told k T) : folT k T (bins k) = clo k T := by
  refine asc_ext (List.Pairwise.filter _ List.pairwise_lt_range) (clo_told (k := k) (by omega) T).1 fun s => ?_
  simp only [folT, List.mem_filter, List.mem_range, List.all_eq_true]
  constructor
  · rintro ⟨h1, h2⟩
    have := h2 _ (tw_bin hk T)
    rw [hasT, tw_shf hk] at this
    have q : (T.all fun s => decide (s ∈ clo k T)) = true := by
      rw [List.all_eq_true]
      intro t htt
      simpa using told_sub ht htt
    rw [q] at this
    simpa using this
  · intro hs
    refine ⟨(mem_clo.mp hs).1, fun w hw => ?_⟩
    cases e : hasT T w with
    | false => rfl
    | true =>
      have hl := (mem_bins.mp hw).1
      have := follows (w := w) (T := T) (fun t htt => by
        have := List.all_eq_true.mp e t (List.mem_of_mem_tail htt)
        exact (mem_shfs.mp (by simpa using this)).2) (s := s) (by rw [hl]; exact (mem_clo.mp hs).2)
      have : s ∈ shfs w := mem_shfs.mpr ⟨by rw [hl]; exact (mem_clo.mp hs).1, this⟩
      simp [this]
theorem so_all {k : Nat} {T : List Nat} (hk : 1 ≤ k ∧ k ≤ 24) (ht : Told k T) : soT T (bins k) = decide (clo k T = T) := by
  rw [Bool.eq_iff_iff, decide_eq_true_iff, soT, List.any_eq_true]
  constructor
  · rintro ⟨w, hw, h⟩
    have h : shfs w = T := by simpa using (Bool.and_eq_true_iff.mp h).2
    have hl := (mem_bins.mp hw).1
    have := clo_shfs w (by omega)
    rwa [hl, h] at this
  · intro h
    refine ⟨_, tw_bin hk T, ?_⟩
    rw [hasT, tw_shf hk, h]
    simp
section
variable {Γ : Str → Option Fn} {W n : Nat} {m : Ms}
theorem run_lbinary {f : Str} (h : Γ f = some (.code P.d_lbinary)) {k : Nat} (hk : k ≤ 10) : run Γ W (n + 1) f [.p (.int (k : Int))] m = ret (.p (.list ((bins k).map tI))) m := by
  rw [run_code h rfl]
  have loop : ∀ (xs : List PyData) (s : Nat) (a b : Option Slot), s + xs.length ≤ 10 → ∃ a' b', forGo (lturn (run Γ W n) W (.one 2) (.cons (.set 1 (.bin .Add (.comp (.bin .Add (.var 3) (.tup (.cons (.cst (.int 0)) .nil))) (.one 3) (.val (.var 1)) .no) (.comp (.bin .Add (.var 3) (.tup (.cons (.cst (.int 1)) .nil))) (.one 3) (.val (.var 1)) .no))) .nil)) xs [some (.fz (.p (.int (k : Int)))), some (.fz (.p (.list ((bins s).map tI)))), a, b] m = ret (.nx [some (.fz (.p (.int (k : Int)))), some (.fz (.p (.list ((bins (s + xs.length)).map tI)))), a', b']) m := by
    intro xs
    induction xs with
    | nil => intro s a b _; exact ⟨a, b, rfl⟩
    | cons x xs ih =>
      intro s a b hs
      rw [List.length_cons] at hs
      obtain ⟨a', b', e⟩ := ih (s + 1) (some (.fz (.p x))) b (by omega)
      refine ⟨a', b', ?_⟩
      have lb : (bins s).length ≤ 512 := by
        rw [bins_len]
        exact Nat.pow_le_pow_right (by decide) (show s ≤ 9 by omega)
      have l1 : 1 ≤ lim := by decide
      have l2 : (bins s).length ≤ lim := by unfold lim; omega
      have l3 : (bins s).length + (bins s).length ≤ lim := by unfold lim; omega
      have tr : ∀ (c : Int) (ρ : Rho), ρ.length = 4 → compGo (turn (run Γ W n) (.bin .Add (.var 3) (.tup (.cons (.cst (.int c)) .nil))) (.one 3) .no ρ) ((bins s).map tI) m = ret ((bins s).map fun w => tI (w ++ [c])) m := by
        intro c ρ hρ
        refine compGo_all _ fun w hw => ?_
        have lw : w.length + 1 ≤ lim := by rw [(mem_bins.mp hw).1]; unfold lim; omega
        match ρ, hρ with
        | [_, _, _, _], _ =>
          rw [turn_one]
          simp [l1, lw]
          rw [tI, List.map_append]; rfl
      have e2 : (bins s).map (fun w => tI (w ++ [0])) ++ (bins s).map (fun w => tI (w ++ [1])) = (bins (s + 1)).map tI := by
        rw [bins, List.map_append, List.map_map, List.map_map]; rfl
      rw [forGo]
      simp [tr, l2, l3]
      rw [e2, e, show s + 1 + xs.length = s + (xs.length + 1) by omega]
  obtain ⟨a', b', e⟩ := loop (rngL 0 k) 0 none none (by simp [rngL]; exact hk)
  have e1 : (rngL 0 k).length = k := by simp [rngL]
  rw [e1, Nat.zero_add] at e
  have e0 : ((bins 0).map tI) = [.tuple []] := rfl
  rw [e0] at e
  have := rngOk_of (i := 0) (j := k) (by omega)
  simp [P.d_lbinary, startR, this, show 0 ≤ lim by decide, show 1 ≤ lim by decide, e]
end
end G

end
section
namespace G
open PySem PySem.Spec PyProof.Rows L2
theorem xbP_gen {α β : Type} (x : Option α) (f : α → β) (m : Ms) {γ : Type} (g : β → Ms → R γ) : bnd (opt (x.map f) m) g = bnd (opt x m) fun a m => g (f a) m := by
  cases x <;> rfl
section
variable (cl : Str → List Val → Ms → R Val) (W : Nat) (ρ : Rho) (m : Ms)
def revR (x : PyData) (m : Ms) : R Val := match x with
  | .list xs => ret (.p (.list xs.reverse)) m
  | .tuple xs => ret (.p (.tuple xs.reverse)) m
  | _ => none
@[simp] theorem revR_t (l : List PyData) : revR (.tuple l) m = ret (.p (.tuple l.reverse)) m := rfl
@[simp] theorem revR_l (l : List PyData) : revR (.list l) m = ret (.p (.list l.reverse)) m := rfl
@[simp] theorem ev_rv (a : E) : ev cl (.rev a) ρ m = bnd (dOf (ev cl a ρ m)) fun x m => revR x m := by rw [ev]; rfl
def borR (f : Rho → R Val) (i : Nat) (ρ : Rho) (x : Option (Option Slot)) : R Val := match x with
  | some (some (.ow (.dk kvs))) => bnd (dOf (f (ρ.set i (some (.fz (.p (kdI kvs))))))) fun d m => if d.hasDict = false then ret (.p d) m else none
  | _ => none
@[simp] theorem borR_dk (f : Rho → R Val) (i : Nat) (kvs : List (Int × PyData)) : borR f i ρ (some (some (.ow (.dk kvs)))) = bnd (dOf (f (ρ.set i (some (.fz (.p (kdI kvs))))))) fun d m => if d.hasDict = false then ret (.p d) m else none := rfl
@[simp] theorem ev_bo (i : Nat) (e : E) : ev cl (.bor i e) ρ m = borR (fun ρ => ev cl e ρ m) i ρ (ρ[i]?) := by rw [ev]; rfl
def borKR (f : Rho → R Val) (i : Nat) (ρ : Rho) (x : Option (Option Slot)) : R Val := match x with
  | some (some (.ow w)) => if isDct w = true then bnd (dOf (f (ρ.set i (some (.bd w))))) fun d m => if d.hasDict = false then ret (.p d) m else none else none
  | _ => none
@[simp] theorem borKR_dk (f : Rho → R Val) (i : Nat) (kvs : List (Int × PyData)) : borKR f i ρ (some (some (.ow (.dk kvs)))) = bnd (dOf (f (ρ.set i (some (.bd (.dk kvs)))))) fun d m => if d.hasDict = false then ret (.p d) m else none := rfl
@[simp] theorem borKR_dt (f : Rho → R Val) (i : Nat) (kvs : List (List Int × PyData)) : borKR f i ρ (some (some (.ow (.dt kvs)))) = bnd (dOf (f (ρ.set i (some (.bd (.dt kvs)))))) fun d m => if d.hasDict = false then ret (.p d) m else none := rfl
@[simp] theorem ev_boK (i : Nat) (e : E) : ev cl (.borK i e) ρ m = borKR (fun ρ => ev cl e ρ m) i ρ (ρ[i]?) := by rw [ev]; rfl
@[simp] theorem ev_dx (i : Nat) (k : E) : ev cl (.dix i k) ρ m = bnd (dOf (ev cl k ρ m)) fun x m => opt ((dictOf ρ[i]?).bind fun w => (w.at x).bind fun o => o.map .p) m := by rw [ev]
@[simp] theorem ev_dg (i : Nat) (k d : E) : ev cl (.dget i k d) ρ m = bnd (dOf (ev cl k ρ m)) fun x m => bnd (dOf (ev cl d ρ m)) fun y m => opt ((dictOf ρ[i]?).bind fun w => (w.at x).map fun o => .p (o.getD y)) m := by rw [ev]
@[simp] theorem ev_dk (i : Nat) : ev cl (.dkeys i) ρ m = opt ((dictOf ρ[i]?).bind fun w => w.keys.map fun l => .p (.list l)) m := by rw [ev]
def dlenR (x : Option (Option Slot)) (m : Ms) : R Val := match x with
    | some (some (.ow (.dk kvs))) => ret (.p (.int kvs.length)) m
    | some (some (.fz (.p (.dict kvs)))) => ret (.p (.int kvs.length)) m
    | _ => none
@[simp] theorem dlenR_dk (kvs : List (Int × PyData)) : dlenR (some (some (.ow (.dk kvs)))) m = ret (.p (.int kvs.length)) m := rfl
@[simp] theorem dlenR_fz (kvs : List (PyData × PyData)) : dlenR (some (some (.fz (.p (.dict kvs))))) m = ret (.p (.int kvs.length)) m := rfl
@[simp] theorem ev_dl (i : Nat) : ev cl (.dlen i) ρ m = dlenR (ρ[i]?) m := by rw [ev]; rfl
@[simp] theorem dictOf_dk (kvs : List (Int × PyData)) : dictOf (some (some (.ow (.dk kvs)))) = some (.dk kvs) := rfl
@[simp] theorem dictOf_dt (kvs : List (List Int × PyData)) : dictOf (some (some (.ow (.dt kvs)))) = some (.dt kvs) := rfl
@[simp] theorem dictOf_bk (kvs : List (Int × PyData)) : dictOf (some (some (.bd (.dk kvs)))) = some (.dk kvs) := rfl
@[simp] theorem dictOf_bt (kvs : List (List Int × PyData)) : dictOf (some (some (.bd (.dt kvs)))) = some (.dt kvs) := rfl
@[simp] theorem ow_at_dk (kvs : List (Int × PyData)) (i : Int) : Ow.at (.dk kvs) (.int i) = some (getA kvs i) := rfl
@[simp] theorem ow_at_dt (kvs : List (List Int × PyData)) (l : List PyData) : Ow.at (.dt kvs) (.tuple l) = (intsL l).map fun k => getA kvs k := rfl
@[simp] theorem ow_keys_dk (kvs : List (Int × PyData)) : Ow.keys (.dk kvs) = some (kvs.map fun kv => .int kv.1) := rfl
@[simp] theorem ow_keys_dt (kvs : List (List Int × PyData)) : Ow.keys (.dt kvs) = some (kvs.map fun kv => .tuple (kv.1.map .int)) := rfl
@[simp] theorem ow_put_dk (kvs : List (Int × PyData)) (i : Int) (d : PyData) : Ow.put (.dk kvs) (.int i) d = if kvs.length < lim then some (.dk (putA kvs i d)) else none := rfl
@[simp] theorem ow_put_dt (kvs : List (List Int × PyData)) (l : List PyData) (d : PyData) : Ow.put (.dt kvs) (.tuple l) d = if kvs.length < lim then (intsL l).map fun k => .dt (putA kvs k d) else none := rfl
@[simp] theorem decI_mp (ds : List (Int × PyData)) : decI (ds.map fun kv => (PyData.int kv.1, kv.2)) = some ds := by
  induction ds with
  | nil => rfl
  | cons x ds ih => rw [List.map_cons, decI, ih]; rfl
@[simp] theorem idx_kd (kvs : List (Int × PyData)) (i : Int) : idxD (.dict (kvs.map fun kv => (PyData.int kv.1, kv.2))) (.int i) = getA kvs i := by
  show (decI _).bind _ = _
  rw [decI_mp]; rfl
def keysR (x : Option (Option Slot)) (m : Ms) : R (List PyData) := match x with
    | some (some (.bd w)) => opt w.keys m
    | _ => none
@[simp] theorem keysR_bd (w : Ow) : keysR (some (some (.bd w))) m = opt w.keys m := rfl
@[simp] theorem evI_ks (i : Nat) : evI cl (.keys i) ρ m = keysR (ρ[i]?) m := by rw [evI]; rfl
def rng3R (x y z : PyData) (m : Ms) : R (List PyData) := match x, y, z with
    | .int i, .int j, .int c => if rngOk i j = true ∧ 0 < c ∧ c ≤ 1000000 then ret (rng3L i c (rng3N i j c)) m else none
    | _, _, _ => none
@[simp] theorem rng3R_int (i j c : Int) : rng3R (.int i) (.int j) (.int c) m = if rngOk i j = true ∧ 0 < c ∧ c ≤ 1000000 then ret (rng3L i c (rng3N i j c)) m else none := rfl
@[simp] theorem evI_r3 (a b c : E) : evI cl (.rng3 a b c) ρ m = bnd (dOf (ev cl a ρ m)) fun x m => bnd (dOf (ev cl b ρ m)) fun y m => bnd (dOf (ev cl c ρ m)) fun z m => rng3R x y z m := by rw [evI]; rfl
def zipR (x y : PyData) (m : Ms) : R (List PyData) := match x, y with
    | .list xs, .list ys => ret (zipL xs ys) m
    | .tuple xs, .tuple ys => ret (zipL xs ys) m
    | _, _ => none
@[simp] theorem zipR_l (xs ys : List PyData) : zipR (.list xs) (.list ys) m = ret (zipL xs ys) m := rfl
@[simp] theorem zipR_t (xs ys : List PyData) : zipR (.tuple xs) (.tuple ys) m = ret (zipL xs ys) m := rfl
@[simp] theorem evI_zp (a b : E) : evI cl (.zip a b) ρ m = bnd (dOf (ev cl a ρ m)) fun x m => bnd (dOf (ev cl b ρ m)) fun y m => zipR x y m := by rw [evI]; rfl
variable (b : B)
@[simp] theorem slTd : slotOf true (.p (.dict [])) = some (.ow (.dk [])) := rfl
@[simp] theorem ownS_dct (i : Nat) : ownS i ρ (.p (.dict [])) m = ret (ρ.set i (some (.ow (.dk [])))) m := rfl
theorem exB_par2o (i j : Nat) (oi oj : Bool) (x y : E) : exB cl W (.cons (.par2 i j oi oj x y) b) ρ m = bnd (ev cl x ρ m) fun x m => bnd (ev cl y ρ m) fun y m => bnd (opt (slotOf oi x) m) fun s m => bnd (opt (slotOf oj y) m) fun t m => exB cl W b ((ρ.set i (some s)).set j (some t)) m := by
  rw [exB_cons, ex]; simp only [bnd_assoc]; congr; funext x m; congr; funext y m
  cases slotOf oi x with
  | none => rfl
  | some s => cases slotOf oj y <;> rfl
theorem exB_par3o (i j k : Nat) (oi oj ok : Bool) (x y z : E) : exB cl W (.cons (.par3o i j k oi oj ok x y z) b) ρ m = bnd (ev cl x ρ m) fun x m => bnd (ev cl y ρ m) fun y m => bnd (ev cl z ρ m) fun z m => bnd (opt (slotOf oi x) m) fun s m => bnd (opt (slotOf oj y) m) fun t m => bnd (opt (slotOf ok z) m) fun u m => exB cl W b (((ρ.set i (some s)).set j (some t)).set k (some u)) m := by
  rw [exB_cons, ex]; simp only [bnd_assoc]; congr; funext x m; congr; funext y m; congr; funext z m
  cases slotOf oi x with
  | none => rfl
  | some s =>
    cases slotOf oj y with
    | none => rfl
    | some t => cases slotOf ok z <;> rfl
def frzR (x : Option (Option Slot)) (m : Ms) : R Val := match x with
    | some (some (.ow (.lst l))) => ret (.p (.list l)) m
    | some (some (.ow (.dk kvs))) => ret (.p (kdI kvs)) m
    | some (some (.fz v)) => ret v m
    | _ => none
@[simp] theorem frzR_ol (l : List PyData) : frzR (some (some (.ol l))) m = ret (.p (.list l)) m := rfl
@[simp] theorem frzR_dk (kvs : List (Int × PyData)) : frzR (some (some (.ow (.dk kvs)))) m = ret (.p (kdI kvs)) m := rfl
@[simp] theorem frzR_fz (v : Val) : frzR (some (some (.fz v))) m = ret v m := rfl
@[simp] theorem exB_frz (i : Nat) : exB cl W (.cons (.frz i) b) ρ m = bnd (frzR (ρ[i]?) m) fun v m => exB cl W b (ρ.set i (some (.fz v))) m := by
  rw [exB_cons, ex]
  generalize hq : ρ[i]? = q
  rcases q with _ | _ | s
  · rfl
  · rfl
  · cases s with
    | ow w => cases w <;> rfl
    | fz v => rfl
    | bd v => rfl
    | raw x => rfl
def dputR (x : Option (Option Slot)) (y z : PyData) (m : Ms) : R Ow := match x with
  | some (some (.ow w)) => opt (w.put z y) m
  | _ => none
@[simp] theorem dputR_ow (w : Ow) (y z : PyData) : dputR (some (some (.ow w))) y z m = opt (w.put z y) m := rfl
@[simp] theorem exB_dput (i : Nat) (k e : E) : exB cl W (.cons (.dput i k e) b) ρ m = bnd (ed cl e ρ m) fun y m => bnd (ed cl k ρ m) fun z m => bnd (dputR (ρ[i]?) y z m) fun w m => exB cl W b (ρ.set i (some (.ow w))) m := by
  rw [exB_cons, ex]; simp only [bnd_assoc]; congr; funext y m; congr; funext z m
  generalize hq : ρ[i]? = q
  rcases q with _ | _ | s
  · rfl
  · rfl
  · cases s with
    | ow w =>
      show bnd (opt ((w.put z y).map fun w' => Fl.nx (ρ.set i (some (.ow w')))) m) (kb cl W b) = bnd (opt (w.put z y) m) _
      cases w.put z y <;> rfl
    | fz v => rfl
    | bd v => rfl
    | raw x => rfl
def tupR (x : Option (Option Slot)) (m : Ms) : R Unit := match x with
  | some (some (.ow (.dk []))) => ret () m
  | _ => none
@[simp] theorem tupR_nil : tupR (some (some (.ow (.dk [])))) m = ret () m := rfl
@[simp] theorem exB_astup (i : Nat) : exB cl W (.cons (.astup i) b) ρ m = bnd (tupR (ρ[i]?) m) fun _ m => exB cl W b (ρ.set i (some (.ow (.dt [])))) m := by
  rw [exB_cons, ex]
  generalize hq : ρ[i]? = q
  rcases q with _ | _ | s
  · rfl
  · rfl
  · cases s with
    | ow w =>
      cases w with
      | dk l => cases l <;> rfl
      | _ => rfl
    | fz v => rfl
    | bd v => rfl
    | raw x => rfl
def extR (x : Option (Option Slot)) (y : PyData) (m : Ms) : R (List PyData) := match x, y with
    | some (some (.ow (.lst l))), .list ys => if l.length + ys.length ≤ lim then ret (l ++ ys) m else none
    | _, _ => none
@[simp] theorem extR_ol (l ys : List PyData) : extR (some (some (.ol l))) (.list ys) m = if l.length + ys.length ≤ lim then ret (l ++ ys) m else none := rfl
@[simp] theorem exB_ext (i : Nat) (e : E) : exB cl W (.cons (.ext i e) b) ρ m = bnd (ed cl e ρ m) fun y m => bnd (extR (ρ[i]?) y m) fun l m => exB cl W b (ρ.set i (some (.ol l))) m := by
  rw [exB_cons, ex, bnd_assoc]; congr; funext y m
  generalize hq : ρ[i]? = q
  rcases q with _ | _ | s
  · rfl
  · rfl
  · cases s with
    | ow w =>
      cases w with
      | lst l =>
        cases y with
        | list ys =>
          show bnd (if l.length + ys.length ≤ lim then ret (Fl.nx (ρ.set i (some (Slot.ol (l ++ ys))))) m else none) (kb cl W b) = bnd (if l.length + ys.length ≤ lim then ret (l ++ ys) m else none) _
          split <;> rfl
        | _ => rfl
      | dk _ => rfl
      | dt _ => rfl
    | fz v => rfl
    | bd v => rfl
    | raw x => rfl
def augiR (x : Option (Option Slot)) (z : PyData) (f : PyData → R PyData) (m : Ms) : R (List PyData) := match x with
    | some (some (.ow (.lst l))) => match idxD (.list l) z with
      | some x => bnd (f x) fun v m => opt (putL l z v) m
      | none => none
    | _ => none
theorem augiR_ol {l : List PyData} {z x : PyData} (h : idxD (.list l) z = some x) (f : PyData → R PyData) : augiR (some (some (.ol l))) z f m = bnd (f x) fun v m => opt (putL l z v) m := by
  unfold augiR
  simp only [h]
theorem exB_augi (i : Nat) (op : Operator) (k e : E) : exB cl W (.cons (.augi i op k e) b) ρ m = bnd (ed cl k ρ m) fun z m => bnd (augiR (ρ[i]?) z (fun x => bnd (ed cl e ρ m) fun y m => opt (augD op x y) m) m) fun l m => exB cl W b (ρ.set i (some (.ol l))) m := by
  rw [exB_cons, ex, bnd_assoc]; congr; funext z m
  generalize hq : ρ[i]? = q
  rcases q with _ | _ | s
  · rfl
  · rfl
  · cases s with
    | ow w =>
      cases w with
      | lst l =>
        unfold augiR
        dsimp only
        cases idxD (.list l) z with
        | none => rfl
        | some x =>
          dsimp only
          rw [bnd_assoc, bnd_assoc]
          simp only [bnd_assoc]
          congr; funext y m
          cases augD op x y with
          | none => rfl
          | some v => 
            show bnd (opt ((putL l z v).map fun l' => Fl.nx (ρ.set i (some (.ol l')))) m) (kb cl W b) = bnd (opt (putL l z v) m) _
            cases putL l z v <;> rfl
      | dk _ => rfl
      | dt _ => rfl
    | fz v => rfl
    | bd v => rfl
    | raw x => rfl
end
section
variable (cl : Str → List Val → Ms → R Val) (ρ : Rho) (m : Ms) (r : R Val)
@[simp] theorem lk_dkeys (i : Nat) : lk (.dkeys i) ρ m r = dOf r := rfl
@[simp] theorem lk_dlen (i : Nat) : lk (.dlen i) ρ m r = dOf r := rfl
@[simp] theorem lk_dix (i : Nat) (k : E) : lk (.dix i k) ρ m r = dOf r := rfl
@[simp] theorem lk_dget (i : Nat) (k d : E) : lk (.dget i k d) ρ m r = dOf r := rfl
@[simp] theorem lk_bor (i : Nat) (e : E) : lk (.bor i e) ρ m r = dOf r := rfl
@[simp] theorem lk_borK (i : Nat) (e : E) : lk (.borK i e) ρ m r = dOf r := rfl
@[simp] theorem lk_dct : lk .dct ρ m r = dOf r := rfl
end
section
variable {κ : Type} [DecidableEq κ]
@[simp] theorem getA_nil (k : κ) : getA ([] : List (κ × PyData)) k = none := rfl
theorem getA_put (kvs : List (κ × PyData)) (k j : κ) (v : PyData) : getA (putA kvs k v) j = if j = k then some v else getA kvs j := by
  have base : ∀ l : List (κ × PyData), (l.any fun kv => decide (kv.1 = k)) = true → getA (l.map fun kv => if kv.1 = k then (kv.1, v) else kv) j = if j = k then some v else getA l j := by
    intro l
    induction l with
    | nil => intro h; cases h
    | cons x l ih =>
      intro h
      unfold getA at ih ⊢
      rw [List.map_cons, List.find?_cons, List.find?_cons]
      by_cases e : x.1 = k
      · by_cases q : j = k
        · simp [e, q]
        · have : ¬ x.1 = j := fun z => q (z.symm.trans e)
          have hk : ¬ k = j := fun z => q z.symm
          by_cases hl : (l.any fun kv => decide (kv.1 = k)) = true
          · have := ih hl
            simp [e, q, hk] at this ⊢
            exact this
          · have hm : (l.map fun kv => if kv.1 = k then (kv.1, v) else kv) = l := by
              refine (List.map_congr_left fun kv hkv => ?_).trans (List.map_id l)
              have : ¬ kv.1 = k := fun z => hl (List.any_eq_true.mpr ⟨kv, hkv, by simp [z]⟩)
              simp [this]
            rw [hm]
            simp [e, q, hk]
      · have hl : (l.any fun kv => decide (kv.1 = k)) = true := by simpa [e] using h
        have := ih hl
        by_cases q : x.1 = j
        · have : ¬ j = k := fun z => e (q.trans z)
          simp [e, q, this]
        · simp [e, q] at this ⊢
          exact this
  unfold putA
  by_cases h : (kvs.any fun kv => decide (kv.1 = k)) = true
  · rw [if_pos h]; exact base kvs h
  · rw [if_neg h]
    unfold getA
    rw [List.find?_append]
    by_cases q : j = k
    · subst q
      have : kvs.find? (fun kv => decide (kv.1 = j)) = none := by
        rw [List.find?_eq_none]
        intro x hx z
        exact h (List.any_eq_true.mpr ⟨x, hx, z⟩)
      simp [this]
    · have hk : ¬ k = j := fun z => q z.symm
      simp [q, hk]
def addG (acc : List κ) (k : κ) : List κ := if k ∈ acc then acc else acc ++ [k]
theorem keys_put (kvs : List (κ × PyData)) (k : κ) (v : PyData) : (putA kvs k v).map (·.1) = addG (kvs.map (·.1)) k := by
  have e : ((kvs.any fun kv => decide (kv.1 = k)) = true) ↔ k ∈ kvs.map (·.1) := by
    rw [List.any_eq_true, List.mem_map]
    constructor
    · rintro ⟨x, hx, h⟩; exact ⟨x, hx, of_decide_eq_true h⟩
    · rintro ⟨x, hx, h⟩; exact ⟨x, hx, by simp [h]⟩
  unfold putA addG
  by_cases h : (kvs.any fun kv => decide (kv.1 = k)) = true
  · rw [if_pos h, if_pos (e.mp h), List.map_map]
    refine List.map_congr_left fun x _ => ?_
    by_cases q : x.1 = k <;> simp [q]
  · rw [if_neg h, if_neg (fun z => h (e.mpr z)), List.map_append]; rfl
theorem addG_mem {acc : List κ} {k x : κ} : x ∈ addG acc k ↔ x ∈ acc ∨ x = k := by
  unfold addG
  split
  · rename_i q
    exact ⟨.inl, fun h => h.elim id fun e => by rw [e]; exact q⟩
  · simp
theorem addG_nodup {acc : List κ} (h : acc.Nodup) (k : κ) : (addG acc k).Nodup := by
  unfold addG
  split
  · exact h
  · rename_i q
    exact List.nodup_append.mpr ⟨h, by simp, fun a ha b hb e => by simp at hb; subst e hb; exact q ha⟩
theorem addGs : ∀ (ks acc : List κ), acc.Nodup → (ks.foldl addG acc).Nodup ∧ ∀ x, x ∈ ks.foldl addG acc ↔ x ∈ acc ∨ x ∈ ks
  | [], acc, h => ⟨h, fun x => by simp⟩
  | k :: ks, acc, h => by
    obtain ⟨h1, h2⟩ := addGs ks (addG acc k) (addG_nodup h k)
    refine ⟨h1, fun x => ?_⟩
    rw [List.foldl_cons, h2, addG_mem, List.mem_cons, or_assoc]
theorem addG_map {κ' : Type} [DecidableEq κ'] (f : κ → κ') (hf : ∀ a b, f a = f b → a = b) (acc : List κ) (k : κ) : addG (acc.map f) (f k) = (addG acc k).map f := by
  have hx : f k ∈ acc.map f ↔ k ∈ acc := by
    rw [List.mem_map]
    exact ⟨fun ⟨y, hy, e⟩ => by rw [← hf _ _ e]; exact hy, fun hy => ⟨k, hy, rfl⟩⟩
  unfold addG
  by_cases q : k ∈ acc
  · rw [if_pos (hx.mpr q), if_pos q]
  · rw [if_neg (fun z => q (hx.mp z)), if_neg q, List.map_append]; rfl
theorem addGs_map {κ' : Type} [DecidableEq κ'] (f : κ → κ') (hf : ∀ a b, f a = f b → a = b) : ∀ (ks acc : List κ), (ks.map f).foldl addG (acc.map f) = (ks.foldl addG acc).map f
  | [], _ => rfl
  | k :: ks, acc => by rw [List.map_cons, List.foldl_cons, List.foldl_cons, addG_map f hf, addGs_map f hf ks]
theorem len_put (kvs : List (κ × PyData)) (k : κ) (v : PyData) : (putA kvs k v).length ≤ kvs.length + 1 := by
  unfold putA
  split
  · simp
  · simp
theorem getA_some {kvs : List (κ × PyData)} {k : κ} (h : k ∈ kvs.map (·.1)) : ∃ v, getA kvs k = some v := by
  obtain ⟨x, hx, e⟩ := List.mem_map.mp h
  cases q : kvs.find? (fun kv => decide (kv.1 = k)) with
  | none => exact absurd (by simp [e]) (List.find?_eq_none.mp q x hx)
  | some y => exact ⟨y.2, by unfold getA; rw [q]; rfl⟩
end

section
variable {cl : Str → List Val → Ms → R Val} {W : Nat} {ρ : Rho} {m m' : Ms} {b : B} {Q : Fl → Ms → Prop}
theorem tw_app {i : Nat} {e : E} {d : PyData} {l : List PyData} (h : ev cl e ρ m = ret (.p d) m') (hs : ρ[i]? = some (some (.ol l))) (hl : l.length < lim) (k : tw (exB cl W b (ρ.set i (some (.ol (l ++ [d])))) m') Q) : tw (exB cl W (.cons (.app i e) b) ρ m) Q := by
  rw [exB_app, ed_eq, h, hs]
  simpa [hl] using k
theorem tw_appT {i : Nat} {e : E} {P : PyData → Ms → Prop} {l : List PyData} (h : tw (ed cl e ρ m) P) (hs : ρ[i]? = some (some (.ol l))) (hl : l.length < lim) (k : ∀ d m', P d m' → tw (exB cl W b (ρ.set i (some (.ol (l ++ [d])))) m') Q) : tw (exB cl W (.cons (.app i e) b) ρ m) Q := by
  rw [exB_app]
  refine tw_seq h fun d m' p => ?_
  rw [hs]
  simpa [hl] using k d m' p
theorem tw_dput {i : Nat} {e f : E} {d z : PyData} {m'' : Ms} {w w' : Ow} (h : ev cl e ρ m = ret (.p d) m') (h2 : ev cl f ρ m' = ret (.p z) m'') (hs : ρ[i]? = some (some (.ow w))) (hp : w.put z d = some w') (k : tw (exB cl W b (ρ.set i (some (.ow w'))) m'') Q) : tw (exB cl W (.cons (.dput i f e) b) ρ m) Q := by
  rw [exB_dput, ed_eq, h]
  simp only [dOf_r, bnd_ret']
  rw [ed_eq, h2, hs]
  simpa [hp] using k
end
end G

end
section
set_option maxHeartbeats 4000000
namespace G
open PySem PySem.Spec PyProof.Rows L2
abbrev cN (T : List Nat) : List Int := T.map fun (n : Nat) => (n : Int)
def srtN (l : List (List Nat)) : List (List Nat) := l.mergeSort fun a b => decide (cN a ≤ cN b)
theorem dataLe_tup {β : Type} (x : β → List Int) : PySem.W.dataLe false (fun b => PyData.tuple ((x b).map .int)) = fun p q => decide (x p ≤ x q) := by
  funext p q
  show (!PySem.W.dataLt (.tuple ((x q).map .int)) (.tuple ((x p).map .int))) = _
  rw [PySem.W.dataLt_tuple]
  show (!PySem.W.rowLt ((x q).map .int) ((x p).map .int)) = _
  rw [PySem.W.dataLt_ints]
  by_cases h : x q < x p
  · have h' : ¬ x p ≤ x q := fun r => List.not_lt.mpr r h
    simp [h, h']
  · have h' : x p ≤ x q := List.not_lt.mp h
    simp [h, h']
theorem tN_cN (T : List Nat) : tN T = .tuple ((cN T).map .int) := congrArg PyData.tuple (mapN T)
theorem alike_ints : ∀ a b : List Int, PySem.W.alikeAll (a.map .int) (b.map .int) = true
  | [], _ => by simp [PySem.W.alikeAll]
  | _ :: _, [] => by simp [PySem.W.alikeAll]
  | x :: a, y :: b => by
    rw [List.map_cons, List.map_cons, PySem.W.alikeAll, alike_ints a b]
    simp [PySem.W.alike]
theorem depth_rows : ∀ l : List (List Nat), PyData.depthAll (l.map tN) ≤ 1
  | [] => by simp [PyData.depthAll]
  | T :: l => by
    have h := depth_rows l
    rw [List.map_cons, PyData.depthAll, tN_cN, PyData.depth, depthAll_int]
    omega
theorem nodict_rows : ∀ l : List (List Nat), PyData.hasDictAll (l.map tN) = false
  | [] => by simp [PyData.hasDictAll]
  | T :: l => by
    rw [List.map_cons, PyData.hasDictAll, nodict_rows l, tN_cN, PyData.hasDict, PyData.hasDictAll_of_canLayAll _ (canLayAll_int _)]
    rfl
theorem sort_rows (l : List (List Nat)) : (l.map tN).mergeSort (PySem.W.dataLe false id) = (srtN l).map tN := by
  unfold srtN
  rw [List.map_mergeSort]
  intro a _ b _
  have := congrFun (congrFun (dataLe_tup (fun T : List Nat => cN T)) a) b
  rw [← this]
  simp only [tN_cN]
  rfl
theorem srtX_rows {l : List (List Nat)} (h : ∀ T ∈ l, T ≠ []) : srtX (l.map tN) = some (.list ((srtN l).map tN)) := by
  cases l with
  | nil => simp [srtN, srtX, intsL, sortI]
  | cons T l =>
    have e : intsL ((T :: l).map tN) = none := rfl
    have hc : alikeB ((T :: l).map tN) = true ∧ (((T :: l).map tN).all tup1 = true ∨ ((T :: l).map tN).all noTup = true) ∧ PyData.depthAll ((T :: l).map tN) ≤ 20 ∧ PyData.hasDictAll ((T :: l).map tN) = false := by
      refine ⟨?_, .inl ?_, Nat.le_trans (depth_rows _) (by decide), nodict_rows _⟩
      · unfold alikeB
        rw [List.all_eq_true]
        intro a ha
        rw [List.all_eq_true]
        intro b hb
        obtain ⟨A, _, rfl⟩ := List.mem_map.mp ha
        obtain ⟨B, _, rfl⟩ := List.mem_map.mp hb
        rw [tN_cN, tN_cN, PySem.W.alike, alike_ints]
      · rw [List.all_eq_true]
        intro a ha
        obtain ⟨A, hA, rfl⟩ := List.mem_map.mp ha
        cases A with
        | nil => exact absurd rfl (h _ hA)
        | cons _ _ => rfl
    unfold srtX
    rw [e]
    show srtA _ = _
    unfold srtA
    rw [if_pos hc, sort_rows]
theorem srtN_perm (l : List (List Nat)) : (srtN l).Perm l := List.mergeSort_perm l _
theorem mem_srtN {l : List (List Nat)} {T : List Nat} : T ∈ srtN l ↔ T ∈ l := (srtN_perm l).mem_iff
theorem cN_inj {a b : List Nat} (h : cN a = cN b) : a = b := map_cast_inj.mp h
theorem le_anti {a b : List Int} (h : a ≤ b) (h' : b ≤ a) : a = b := List.le_antisymm h h'
theorem srtN_pair (l : List (List Nat)) : (srtN l).Pairwise fun a b => cN a ≤ cN b := by
  have := List.pairwise_mergeSort (le := fun a b : List Nat => decide (cN a ≤ cN b)) (fun a b c => by simpa using fun h1 h2 => List.le_trans h1 h2) (fun a b => by simpa using List.le_total _ _) l
  simpa [srtN] using this
theorem srtN_eq {l l' : List (List Nat)} (h : l.Perm l') : srtN l = srtN l' :=
  List.Perm.eq_of_pairwise (le := fun a b : List Nat => cN a ≤ cN b) (fun a b _ _ h1 h2 => cN_inj (le_anti h1 h2)) (srtN_pair l) (srtN_pair l') ((srtN_perm l).trans (h.trans (srtN_perm l').symm))
theorem mem_K24 {n : Nat} {T : List Nat} (h1 : 1 ≤ n) (h2 : n ≤ 24) : T ∈ K24 n ↔ Cls n T := by
  constructor
  · intro h
    have b := List.all_eq_true.mp (st_all n h1 h2).2 _ h
    unfold okTwo at b
    simp only [Bool.and_eq_true, decide_eq_true_eq, List.all_eq_true, Bool.or_eq_true] at b
    obtain ⟨⟨b1, b2⟩, b3⟩ := b
    generalize twoF 24 n T = v at *
    subst b1
    rw [shfs_pre] at b3
    rw [← b3]
    exact cls_shfs (by omega)
  · intro h
    have e : shfs (fw n T) = T := h.2
    have := tab_all _ (fw n T) (Nat.le_refl _) (by rw [fw_len]; exact h1) (by rw [fw_len]; exact h2)
    rw [fw_len, e] at this
    exact this
theorem dec_inj {a b : Nat} (ha : a < 2 ^ 24) (hb : b < 2 ^ 24) (h : dec a = dec b) : a = b := by
  refine Nat.eq_of_testBit_eq fun i => ?_
  by_cases hi : i < 24
  · have e : i ∈ dec a ↔ i ∈ dec b := by rw [h]
    simp only [dec, List.mem_filter, List.mem_range, hi, true_and] at e
    exact Bool.eq_iff_iff.mpr e
  · have q : 2 ^ 24 ≤ 2 ^ i := Nat.pow_le_pow_right (by decide) (by omega)
    rw [Nat.testBit_lt_two_pow (by omega), Nat.testBit_lt_two_pow (by omega)]
def okM (l : List Nat) : Bool := (l.all fun a => decide (a < 2 ^ 24)) && decide l.Nodup
theorem okM_all : (masks.all okM) = true := by decide +kernel
theorem K24_nodup (n : Nat) : (K24 n).Nodup := by
  unfold K24
  by_cases h : n - 1 < masks.length
  · have e : masks.getD (n - 1) [] = masks[n - 1] := by simp [List.getD_eq_getElem?_getD, h]
    rw [e]
    have := List.all_eq_true.mp okM_all _ (List.getElem_mem h)
    unfold okM at this
    rw [Bool.and_eq_true, List.all_eq_true] at this
    obtain ⟨h1, h2⟩ := this
    have h2 := of_decide_eq_true h2
    rw [List.nodup_iff_pairwise_ne] at h2 ⊢
    rw [List.pairwise_map]
    exact h2.imp_of_mem fun ha hb hn e => hn (dec_inj (by simpa using h1 _ ha) (by simpa using h1 _ hb) e)
  · have e : masks.getD (n - 1) [] = [] := by
      rw [List.getD_eq_getElem?_getD, List.getElem?_eq_none (by omega)]; rfl
    rw [e]; exact List.nodup_nil
def SS (n : Nat) : List (List Nat) := srtN (K24 n)
theorem mem_SS {n : Nat} {T : List Nat} (h1 : 1 ≤ n) (h2 : n ≤ 24) : T ∈ SS n ↔ Cls n T := mem_srtN.trans (mem_K24 h1 h2)
theorem SS_nodup (n : Nat) : (SS n).Nodup := (srtN_perm _).nodup_iff.mpr (K24_nodup n)
theorem SS_pair (n : Nat) : (SS n).Pairwise fun a b => cN a ≤ cN b := srtN_pair _
def okLen : Bool := (List.range 25).all fun n => decide ((masks.getD (n - 1) []).length ≤ 1000)
theorem SS_len (n : Nat) : (SS n).length ≤ 1000 := by
  unfold SS
  rw [(srtN_perm _).length_eq]
  unfold K24
  rw [List.length_map]
  have h : (masks.all fun l => decide (l.length ≤ 1000)) = true := by decide +kernel
  by_cases q : n - 1 < masks.length
  · have e : masks.getD (n - 1) [] = masks[n - 1] := by simp [List.getD_eq_getElem?_getD, q]
    rw [e]
    have := List.all_eq_true.mp h _ (List.getElem_mem q)
    simpa using this
  · rw [List.getD_eq_getElem?_getD, List.getElem?_eq_none (by omega)]
    exact Nat.zero_le _
theorem cls_ne {n : Nat} {T : List Nat} (h : Cls n T) : T ≠ [] := by
  intro e
  have := h.1.2.2
  rw [e] at this
  cases this
theorem SS_ext {n : Nat} (h1 : 1 ≤ n) (h2 : n ≤ 24) {l : List (List Nat)} (nd : l.Nodup) (h : ∀ T, T ∈ l ↔ Cls n T) : srtN l = SS n := by
  refine srtN_eq ((List.perm_ext_iff_of_nodup nd (K24_nodup n)).mpr fun T => ?_)
  rw [h, mem_K24 h1 h2]
def allB (k : Nat) : List (List Nat) := ((bins (k - 1)).map fun w => shfs (0 :: w)).foldl addG []
theorem agr_map (f : Int → Int) (hf : ∀ a b, f a = f b → a = b) (w : List Int) (s : Nat) : agr (w.map f) s = agr w s := by
  unfold agr
  rw [List.length_map, Bool.eq_iff_iff, List.all_eq_true, List.all_eq_true]
  have g : ∀ i, i < w.length → (w.map f).getD i 0 = f (w.getD i 0) := fun i hi => by simp [List.getD_eq_getElem?_getD, hi]
  refine forall_congr' fun i => forall_congr' fun hi => ?_
  have hi : i < w.length - s := by simpa using hi
  rw [g i (by omega), g (i + s) (by omega), decide_eq_true_iff, decide_eq_true_iff]
  exact ⟨fun e => hf _ _ e, fun e => by rw [e]⟩
theorem shfs_map (f : Int → Int) (hf : ∀ a b, f a = f b → a = b) (w : List Int) : shfs (w.map f) = shfs w := by
  unfold shfs
  rw [List.length_map]
  exact List.filter_congr fun s _ => agr_map f hf w s
theorem mem_allB {k : Nat} (hk : 1 ≤ k ∧ k ≤ 24) {T : List Nat} : T ∈ allB k ↔ Cls k T := by
  unfold allB
  rw [(addGs _ [] List.nodup_nil).2]
  simp only [List.not_mem_nil, false_or, List.mem_map]
  constructor
  · rintro ⟨w, hw, rfl⟩
    have hl := (mem_bins.mp hw).1
    have := cls_shfs (w := 0 :: w) (by simp)
    rw [List.length_cons, hl, show k - 1 + 1 = k by omega] at this
    exact this
  · intro h
    obtain ⟨h1, h2, h3⟩ := cls_two h hk
    generalize tw2 k T = v at *
    cases v with
    | nil => simp at h1; omega
    | cons x v =>
      rw [List.length_cons] at h1
      rcases h2 x (by simp) with rfl | rfl
      · exact ⟨v, mem_bins.mpr ⟨by omega, fun y hy => h2 y (by simp [hy])⟩, h3⟩
      · refine ⟨v.map fun y => 1 - y, mem_bins.mpr ⟨by simp; omega, fun y hy => ?_⟩, ?_⟩
        · obtain ⟨z, hz, rfl⟩ := List.mem_map.mp hy
          rcases h2 z (by simp [hz]) with rfl | rfl <;> simp
        · rw [show (0 : Int) :: v.map (fun y => 1 - y) = (1 :: v).map fun y => 1 - y by simp, shfs_map _ (fun a b h => by omega)]
          exact h3
theorem allB_SS {k : Nat} (hk : 1 ≤ k ∧ k ≤ 24) : srtN (allB k) = SS k := SS_ext hk.1 hk.2 (addGs _ [] List.nodup_nil).1 fun T => mem_allB hk
namespace P
def d_lall_sets : Def := ⟨1, 3, (.cons (.own 1 .dct) (.cons (.astup 1) (.cons (.for (.one 2) (.val (.call "_law_binary" (.cons (.bin .Sub (.var 0) (.cst (.int 1))) .nil))) (.cons (.dput 1 (.call "_law_shifts" (.cons (.bin .Add (.tup (.cons (.cst (.int 0)) .nil)) (.var 2)) .nil)) (.cst (.bl true))) .nil)) (.cons (.rt (.bi .sorted (.dkeys 1))) .nil))))⟩
end P
theorem run_lall_sets {Γ : Str → Option Fn} {W n : Nat} {m : Ms} (h : Γ "_law_all_sets" = some (.code P.d_lall_sets)) (hb : Γ "_law_binary" = some (.code P.d_lbinary)) (hs : Γ "_law_shifts" = some (.code P.d_lshifts)) {k : Nat} (hk : 1 ≤ k ∧ k ≤ 11) :
    run Γ W (n + 3) "_law_all_sets" [.p (.int (k : Int))] m = ret (.p (.list ((SS k).map tN))) m := by
  rw [run_code h rfl]
  have l1 : 1 ≤ lim := by decide
  have loop : ∀ (ws : List (List Int)) (kvs : List (List Int × PyData)) (a : Option Slot), (∀ w ∈ ws, w.length ≤ 100) → kvs.length + ws.length ≤ 2000 → ∃ kvs' a', kvs'.map (·.1) = (ws.map fun w => cN (shfs (0 :: w))).foldl addG (kvs.map (·.1)) ∧
      forGo (lturn (run Γ W (n + 2)) W (.one 2) (.cons (.dput 1 (.call "_law_shifts" (.cons (.bin .Add (.tup (.cons (.cst (.int 0)) .nil)) (.var 2)) .nil)) (.cst (.bl true))) .nil)) (ws.map tI) [some (.fz (.p (.int (k : Int)))), some (.ow (.dt kvs)), a] m = ret (.nx [some (.fz (.p (.int (k : Int)))), some (.ow (.dt kvs')), a']) m := by
    intro ws
    induction ws with
    | nil => intro kvs a _ _; exact ⟨kvs, a, rfl, rfl⟩
    | cons w ws ih =>
      intro kvs a hw hl
      rw [List.length_cons] at hl
      have hl2 := len_put kvs (cN (shfs (0 :: w))) (.bool true)
      obtain ⟨kvs', a', e1, e2⟩ := ih (putA kvs (cN (shfs (0 :: w))) (.bool true)) (some (.fz (.p (tI w)))) (fun v hv => hw v (by simp [hv])) (by omega)
      refine ⟨kvs', a', ?_, ?_⟩
      · rw [e1, keys_put, List.map_cons, List.foldl_cons]
      · have lw := hw w (by simp)
        have lw2 : 1 + w.length ≤ lim := by unfold lim; omega
        have lk : kvs.length < lim := by unfold lim; omega
        have rs : ∀ m, run Γ W (n + 2) "_law_shifts" [.p (tI (0 :: w))] m = ret (.p (tN (shfs (0 :: w)))) m := fun m => run_lshifts hs (by simp; omega)
        have ei : intsL ((shfs (0 :: w)).map fun (n : Nat) => PyData.int (n : Int)) = some (cN (shfs (0 :: w))) := intsL_map _ _
        rw [List.map_cons, forGo, lturn_one]
        have e0 : (PyData.int 0 :: w.map PyData.int) = (0 :: w).map PyData.int := rfl
        rw [exB_dput]
        simp only [ed_eq, ev_cst, lit_bl, dOf_r, bnd_ret', ev_call, eva_cons, eva_nil, ev_bnr, ev_tup, evs_cons, evs_nil, lit_int, bnd_assoc, dOf_bnd', List.length_cons, List.length_nil, Nat.zero_add, l1, if_true, ev_vr, List.getElem?_cons_succ, List.getElem?_cons_zero, List.set_cons_succ, List.set_cons_zero, varR_fz, bin_tadd, List.length_map, lw2, Option.map_some, opt_s, List.cons_append, List.nil_append, e0, rs, dputR_ow, ow_put_dt, ei, lk, exB_nil]
        exact e2
  obtain ⟨kvs', a', e1, e2⟩ := loop (bins (k - 1)) [] none (fun w hw => by rw [(mem_bins.mp hw).1]; omega) (by
    rw [bins_len]
    have : 2 ^ (k - 1) ≤ 2 ^ 10 := Nat.pow_le_pow_right (by decide) (by omega)
    simp
    omega)
  have ek : ((k : Int) - 1) = ((k - 1 : Nat) : Int) := by omega
  have eb : ∀ m, run Γ W (n + 2) "_law_binary" [.p (.int ((k - 1 : Nat) : Int))] m = ret (.p (.list ((bins (k - 1)).map tI))) m := fun m => run_lbinary hb (by omega)
  have e3 : kvs'.map (fun kv => PyData.tuple (kv.1.map .int)) = (allB k).map tN := by
    have := addGs_map cN (fun a b h => cN_inj h) ((bins (k - 1)).map fun w => shfs (0 :: w)) []
    rw [List.map_map] at this
    have e4 : kvs'.map (·.1) = (allB k).map cN := e1.trans this
    have e5 : kvs'.map (fun kv => PyData.tuple (kv.1.map .int)) = (kvs'.map (·.1)).map fun c => PyData.tuple (c.map .int) := by rw [List.map_map]; rfl
    rw [e5, e4, List.map_map]
    exact List.map_congr_left fun T _ => (tN_cN T).symm
  have hk24 : 1 ≤ k ∧ k ≤ 24 := ⟨hk.1, by omega⟩
  have e6 := srtX_rows (l := allB k) fun T hT => cls_ne ((mem_allB hk24).mp hT)
  rw [allB_SS hk24] at e6
  simp [P.d_lall_sets, startR, ek, eb, e2, e3, e6]
end G

end
section
set_option maxHeartbeats 4000000
namespace G
open PySem PySem.Spec PyProof.Rows L2
namespace P
def d_near_sets : Def := ⟨3, 9, (.cons (.set 3 (.bin .Mod (.var 0) (.var 1))) (.cons (.par2 5 6 false true (.bin .Sub (.bin .Sub (.var 0) (.var 1)) (.var 3)) (.lst .nil)) (.cons (.for (.one 4) (.val (.idx (.var 2) (.bin .Add (.var 1) (.var 3)))) (.cons (.set 7 (.not (.bi .any (.comp (.or (.chain .Lt .LtE (.cst (.int 0)) (.var 8) (.var 3)) (.cons (.and (.chain .Lt .Lt (.cst (.int 0)) (.var 8) (.var 1)) (.cons (.cmp .Eq (.bin .Mod (.var 1) (.var 8)) (.cst (.int 0))) .nil)) .nil)) (.one 8) (.val (.var 4)) .no)))) (.cons (.ite (.and (.var 7) (.cons (.or (.cmp .Eq (.var 3) (.cst (.int 0))) (.cons (.cmp .In (.var 1) (.var 4)) .nil)) .nil)) (.cons (.app 6 (.bin .Add (.rngs true (.rng3 (.cst (.int 0)) (.var 5) (.var 1))) (.bi .tuple (.comp (.bin .Add (.var 5) (.var 8)) (.one 8) (.val (.var 4)) .no)))) .nil) .nil) .nil))) (.cons (.frz 6) (.cons (.rt (.var 6)) .nil)))))⟩
def d_all_sets : Def := ⟨1, 7, (.cons (.own 1 .dct) (.cons (.for (.one 2) (.rng2 (.cst (.int 1)) (.bin .Add (.var 0) (.cst (.int 1)))) (.cons (.own 3 (.lst (.cons (.tup (.cons (.cst (.int 0)) .nil)) .nil))) (.cons (.for (.one 4) (.rng2 (.cst (.int 1)) (.var 2)) (.cons (.ite (.cmp .LtE (.bin .Mult (.cst (.int 2)) (.var 4)) (.var 2)) (.cons (.ext 3 (.bor 1 (.call "near_sets" (.cons (.var 2) (.cons (.var 4) (.cons (.var 1) .nil)))))) .nil) (.cons (.ext 3 (.comp (.bin .Add (.tup (.cons (.cst (.int 0)) .nil)) (.bi .tuple (.comp (.bin .Add (.var 4) (.var 6)) (.one 6) (.val (.var 5)) .no))) (.one 5) (.val (.dix 1 (.bin .Sub (.var 2) (.var 4)))) .no)) .nil)) .nil)) (.cons (.dput 1 (.var 2) (.bi .sorted (.var 3))) .nil)))) (.cons (.frz 1) (.cons (.rt (.var 1)) .nil))))⟩
def d_shift_sets : Def := ⟨1, 1, (.cons (.expr (.call "need_many" (.cons (.var 0) .nil))) (.cons (.rt (.bi .tuple (.idx (.call "all_sets" (.cons (.var 0) .nil)) (.var 0)))) .nil))⟩
def d_is_within : Def := ⟨2, 3, (.cons (.rt (.bi .all (.comp (.cmp .In (.var 2) (.var 1)) (.one 2) (.val (.var 0)) .no))) .nil)⟩
end P
def badS (step rest s : Nat) : Bool := (decide (0 < s) && decide (s ≤ rest)) || ((decide (0 < s) && decide (s < step)) && decide (step % s = 0))
theorem goodP_eq (step rest : Nat) (T : List Nat) : goodP step rest T = (!(T.any (badS step rest)) && (decide (rest = 0) || decide (step ∈ T))) := by
  unfold goodP badS
  rw [List.contains_eq_mem]
def nearT (start step : Nat) (T : List Nat) : List Nat := ((List.range (start / step)).map (· * step)) ++ T.map (start + ·)
theorem nearU_eq (many step : Nat) (K : List (List Nat)) : nearU many step K = (K.filter (goodP step (many % step))).map (nearT (many - step - many % step) step) := rfl
theorem rng3_mul (c k : Nat) (hc : 0 < c) : rng3L 0 (c : Int) (rng3N 0 ((c * k : Nat) : Int) (c : Int)) = (List.range k).map fun (i : Nat) => PyData.int ((i * c : Nat) : Int) := by
  have e : rng3N 0 ((c * k : Nat) : Int) (c : Int) = k := by
    unfold rng3N
    have : (((c * k : Nat) : Int) - 0 + (c : Int) - 1) / (c : Int) = (k : Int) := by
      have e1 : ((c * k : Nat) : Int) - 0 + (c : Int) - 1 = ((c : Int) - 1) + (k : Int) * (c : Int) := by
        rw [Int.natCast_mul, Int.mul_comm]; omega
      rw [e1, Int.add_mul_ediv_right _ _ (by omega), Int.ediv_eq_zero_of_lt (by omega) (by omega)]
      omega
    rw [this]; omega
  unfold rng3L
  rw [e]
  refine List.map_congr_left fun i _ => ?_
  rw [Int.natCast_mul, Int.zero_add]
def kvS (S : Nat → List (List Nat)) (j : Nat) : List (Int × PyData) := (List.range' 1 j).map fun (i : Nat) => ((i : Int), PyData.list ((S i).map tN))
structure SetsOk (S : Nat → List (List Nat)) : Prop where
  len : ∀ j, (S j).length ≤ 1000
  told : ∀ k T, 1 ≤ k → k ≤ 24 → T ∈ S k → T.length ≤ 24
section
variable {S : Nat → List (List Nat)}
theorem kv_succ (j : Nat) : kvS S (j + 1) = kvS S j ++ [(((j + 1 : Nat) : Int), PyData.list ((S (j + 1)).map tN))] := by
  unfold kvS
  rw [List.range'_concat, List.map_append]
  simp [Nat.add_comm]
theorem kv_keys (j : Nat) : ∀ k ∈ (kvS S j).map (·.1), ∃ i : Nat, k = (i : Int) ∧ 1 ≤ i ∧ i ≤ j := by
  intro k hk
  unfold kvS at hk
  rw [List.map_map] at hk
  obtain ⟨i, hi, rfl⟩ := List.mem_map.mp hk
  rw [List.mem_range'_1] at hi
  exact ⟨i, rfl, by omega, by omega⟩
theorem getA_kv : ∀ {j i : Nat}, 1 ≤ i → i ≤ j → getA (kvS S j) (i : Int) = some (.list ((S i).map tN))
  | 0, i, h1, h2 => by omega
  | j + 1, i, h1, h2 => by
    rw [kv_succ]
    unfold getA
    rw [List.find?_append]
    by_cases q : i ≤ j
    · have := getA_kv h1 q
      unfold getA at this
      cases e : (kvS S j).find? (fun kv => decide (kv.1 = (i : Int))) with
      | none => rw [e] at this; cases this
      | some x => rw [e] at this; exact this
    · have hij : i = j + 1 := by omega
      have : (kvS S j).find? (fun kv => decide (kv.1 = (i : Int))) = none := by
        rw [List.find?_eq_none]
        intro x hx z
        obtain ⟨t, e, _, _⟩ := kv_keys j x.1 (List.mem_map.mpr ⟨x, hx, rfl⟩)
        have z := of_decide_eq_true z
        omega
      rw [this]
      subst hij
      simp
theorem putA_kv (j : Nat) : putA (kvS S j) (((j + 1 : Nat) : Int)) (.list ((S (j + 1)).map tN)) = kvS S (j + 1) := by
  unfold putA
  rw [if_neg, kv_succ]
  intro h
  obtain ⟨x, hx, z⟩ := List.any_eq_true.mp h
  obtain ⟨t, e, _, _⟩ := kv_keys j x.1 (List.mem_map.mpr ⟨x, hx, rfl⟩)
  have z := of_decide_eq_true z
  omega
theorem kv_len (j : Nat) : (kvS S j).length = j := by unfold kvS; simp
end
theorem SS_told {k : Nat} {T : List Nat} (h1 : 1 ≤ k) (h2 : k ≤ 24) (h : T ∈ SS k) : T.length ≤ 24 ∧ ∀ s ∈ T, s < 24 := by
  have c := (mem_SS h1 h2).mp h
  have := told_len c.1
  exact ⟨by omega, fun s hs => by have := c.1.2.1 s hs; omega⟩
theorem SS_ok : SetsOk SS := ⟨SS_len, fun k T h1 h2 h => (SS_told h1 h2 h).1⟩
section
variable {Γ : Str → Option Fn} {W n : Nat} {m : Ms}
theorem near_comp (cl : Str → List Val → Ms → R Val) {a0 a2 a4 a5 a6 a7 a8 : Option Slot} {step rest : Nat} (T : List Nat) :
    compGo (turn cl (.or (.chain .Lt .LtE (.cst (.int 0)) (.var 8) (.var 3)) (.cons (.and (.chain .Lt .Lt (.cst (.int 0)) (.var 8) (.var 1)) (.cons (.cmp .Eq (.bin .Mod (.var 1) (.var 8)) (.cst (.int 0))) .nil)) .nil)) (.one 8) .no [a0, some (.fz (.p (.int (step : Int)))), a2, some (.fz (.p (.int (rest : Int)))), a4, a5, a6, a7, a8]) (T.map fun (s : Nat) => PyData.int (s : Int)) m = ret (T.map fun s => PyData.bool (badS step rest s)) m := by
  refine compGo_all (fun s : Nat => PyData.bool (badS step rest s)) fun s _ => ?_
  rw [turn_one]
  by_cases z : s = 0
  · subst z
    have eb : badS step rest 0 = false := rfl
    rw [eb]
    simp
  · have h0 : (0 : Int) < (s : Int) := by omega
    have h1 : 0 < s := by omega
    have e : ((step : Int) % (s : Int)) = ((step % s : Nat) : Int) := by rw [Int.natCast_emod]
    by_cases q : s ≤ rest
    · have eb : badS step rest s = true := by unfold badS; rw [decide_eq_true h1, decide_eq_true q]; rfl
      rw [eb]
      simp [h0, h1, q]
    · by_cases q2 : s < step
      · have eb : badS step rest s = decide (step % s = 0) := by unfold badS; rw [decide_eq_true h1, decide_eq_false q, decide_eq_true q2]; rfl
        rw [eb]
        by_cases q3 : step % s = 0
        · simp [h0, h1, q, q2, e, q3]
        · have : ¬ ((step : Int) % (s : Int)) = 0 := by rw [e]; omega
          simp [h0, h1, q, q2, q3, this]
      · have eb : badS step rest s = false := by unfold badS; rw [decide_eq_true h1, decide_eq_false q, decide_eq_false q2]; rfl
        rw [eb]
        simp [h0, h1, q, q2]
theorem near_loop (cl : Str → List Val → Ms → R Val) {a0 a2 : Option Slot} {step rest k : Nat} (h1 : 1 ≤ step) (h2 : step ≤ 24) (hk : k ≤ 24) (h3 : step * k ≤ 24) : ∀ (ps : List (List Nat)) (acc : List (List Nat)) (a4 a7 a8 : Option Slot), (∀ T ∈ ps, T.length ≤ 24) → acc.length + ps.length ≤ 2000 →
    ∃ b4 b7, forGo (lturn cl W (.one 4) (.cons (.set 7 (.not (.bi .any (.comp (.or (.chain .Lt .LtE (.cst (.int 0)) (.var 8) (.var 3)) (.cons (.and (.chain .Lt .Lt (.cst (.int 0)) (.var 8) (.var 1)) (.cons (.cmp .Eq (.bin .Mod (.var 1) (.var 8)) (.cst (.int 0))) .nil)) .nil)) (.one 8) (.val (.var 4)) .no)))) (.cons (.ite (.and (.var 7) (.cons (.or (.cmp .Eq (.var 3) (.cst (.int 0))) (.cons (.cmp .In (.var 1) (.var 4)) .nil)) .nil)) (.cons (.app 6 (.bin .Add (.rngs true (.rng3 (.cst (.int 0)) (.var 5) (.var 1))) (.bi .tuple (.comp (.bin .Add (.var 5) (.var 8)) (.one 8) (.val (.var 4)) .no)))) .nil) .nil) .nil))) (ps.map tN)
      [a0, some (.fz (.p (.int (step : Int)))), a2, some (.fz (.p (.int (rest : Int)))), a4, some (.fz (.p (.int ((step * k : Nat) : Int)))), some (.ol (acc.map tN)), a7, a8] m =
      ret (.nx [a0, some (.fz (.p (.int (step : Int)))), a2, some (.fz (.p (.int (rest : Int)))), b4, some (.fz (.p (.int ((step * k : Nat) : Int)))), some (.ol ((acc ++ (ps.filter (goodP step rest)).map (nearT (step * k) step)).map tN)), b7, a8]) m
  | [], acc, a4, a7, a8, _, _ => ⟨a4, a7, by simp [forGo]⟩
  | T :: ps, acc, a4, a7, a8, hT, hl => by
    rw [List.length_cons] at hl
    have tl := hT T (by simp)
    have tl2 : T.length ≤ lim := by unfold lim; omega
    have hc := near_comp (m := m) cl (step := step) (rest := rest) (a0 := a0) (a2 := a2) (a4 := some (.fz (.p (tN T)))) (a5 := some (.fz (.p (.int ((step * k : Nat) : Int))))) (a6 := some (.ol (acc.map tN))) (a7 := a7) (a8 := a8) T
    have eg : goodP step rest T = (!(T.any (badS step rest)) && (decide (rest = 0) || decide (step ∈ T))) := goodP_eq step rest T
    have e0 : ∀ w : Bool, ev cl (.and (.var 7) (.cons (.or (.cmp .Eq (.var 3) (.cst (.int 0))) (.cons (.cmp .In (.var 1) (.var 4)) .nil)) .nil)) [a0, some (.fz (.p (.int (step : Int)))), a2, some (.fz (.p (.int (rest : Int)))), some (.fz (.p (tN T))), some (.fz (.p (.int ((step * k : Nat) : Int)))), some (.ol (acc.map tN)), some (.fz (.p (.bool w))), a8] m = ret (.p (.bool (w && (decide (rest = 0) || decide (step ∈ T))))) m := by
      intro w
      cases w
      · simp
      · by_cases q : rest = 0
        · simp [q]
        · have : ¬ (rest : Int) = 0 := by omega
          simp [q, this]
    rw [List.map_cons, forGo, lturn_one]
    simp only [List.set_cons_succ, List.set_cons_zero, exB_set, ev_not, ev_blt, lk_comp, ev_comp, evI_val, ev_vr, List.getElem?_cons_succ, List.getElem?_cons_zero, varR_fz, dOf_r, bnd_ret', seqOf_tuple, opt_s, List.length_map, tl2, if_true, bnd_assoc, hc, dOf_bnd', biD_any, bools_map, Option.map_some, boolOf_bool, exB_ite, ed_eq, e0, br_some, exB_nil, kb_nx, List.any_map, Function.comp_def, id]
    have ew : (List.map (fun s => badS step rest s) T).any id = T.any (badS step rest) := by rw [List.any_map]; rfl
    by_cases q : goodP step rest T = true
    · have q' := q
      rw [eg] at q'
      obtain ⟨b4, b7, ih⟩ := near_loop cl h1 h2 hk h3 ps (acc ++ [nearT (step * k) step T]) (some (.fz (.p (tN T)))) (some (.fz (.p (.bool true)))) a8 (fun T h => hT T (by simp [h])) (by simp; omega)
      refine ⟨b4, b7, ?_⟩
      have q3 : T.any (badS step rest) = false := by
        rw [Bool.and_eq_true, Bool.not_eq_true'] at q'; exact q'.1
      have q4 : (decide (rest = 0) || decide (step ∈ T)) = true := by
        rw [Bool.and_eq_true] at q'; exact q'.2
      have q5 : (T.any fun x => badS step rest x) = false := q3
      have hr : rngOk 0 ((step * k : Nat) : Int) = true := rngOk_of (by omega)
      have hs : (0 : Int) < (step : Int) ∧ (step : Int) ≤ 1000000 := by omega
      have hr3 := rng3_mul step k h1
      have hk2 : k + T.length ≤ lim := by unfold lim; omega
      have hal : acc.length < lim := by unfold lim; omega
      have htc : compGo (turn cl (.bin .Add (.var 5) (.var 8)) (.one 8) .no [a0, some (.fz (.p (.int (step : Int)))), a2, some (.fz (.p (.int (rest : Int)))), some (.fz (.p (tN T))), some (.fz (.p (.int ((step * k : Nat) : Int)))), some (.ol (acc.map tN)), some (.fz (.p (.bool true))), a8]) (T.map fun (s : Nat) => PyData.int (s : Int)) m = ret (T.map fun s => PyData.int ((step * k + s : Nat) : Int)) m := by
        refine compGo_all (fun s : Nat => PyData.int ((step * k + s : Nat) : Int)) fun s _ => ?_
        rw [turn_one]
        simp
      have eN : (List.map (fun (i : Nat) => PyData.int ((i * step : Nat) : Int)) (List.range k) ++ T.map fun (s : Nat) => PyData.int ((step * k + s : Nat) : Int)) = (nearT (step * k) step T).map fun (s : Nat) => PyData.int (s : Int) := by
        unfold nearT
        rw [List.map_append, Nat.mul_div_cancel_left k (by omega), List.map_map, List.map_map]
        rfl
      simp only [q5, q4, Bool.not_false, Bool.and_self, if_true, exB_app, ed_eq, ev_bnr, ev_rngs, evI_r3, ev_cst, lit_int, dOf_r, bnd_ret', ev_vr, List.getElem?_cons_succ, List.getElem?_cons_zero, varR_fz, rng3R_int, hr, hs, and_self, hr3, dOf_bnd', bnd_assoc, ev_blt, lk_comp, ev_comp, evI_val, seqOf_tuple, opt_s, List.length_map, tl2, htc, biD_tuple_l, Option.map_some, bin_tadd, List.length_range, hk2, eN, appR_ol, hal, List.set_cons_succ, List.set_cons_zero, exB_nil, kb_nx]
      have e9 : (acc.map tN ++ [PyData.tuple ((nearT (step * k) step T).map fun (s : Nat) => PyData.int (s : Int))]) = (acc ++ [nearT (step * k) step T]).map tN := by rw [List.map_append]; rfl
      rw [e9, ih, List.filter_cons, if_pos q]
      simp
    · have q' : goodP step rest T = false := by simpa using q
      have q2 := q'
      rw [eg] at q2
      obtain ⟨b4, b7, ih⟩ := near_loop cl h1 h2 hk h3 ps acc (some (.fz (.p (tN T)))) (some (.fz (.p (.bool (!(T.any (badS step rest))))))) a8 (fun T h => hT T (by simp [h])) (by omega)
      refine ⟨b4, b7, ?_⟩
      have q5 : ((!(T.any fun x => badS step rest x)) && (decide (rest = 0) || decide (step ∈ T))) = false := q2
      simp only [q5, Bool.false_eq_true, if_false, exB_nil, bnd_ret', kb_nx]
      rw [List.filter_cons, if_neg q]
      exact ih
theorem run_near_sets {S : Nat → List (List Nat)} (o : SetsOk S) (h : Γ "near_sets" = some (.code P.d_near_sets)) {many step j : Nat} (h1 : 1 ≤ step) (h2 : 2 * step ≤ many) (h3 : many ≤ 24) (hj : many ≤ j + 1) :
    run Γ W (n + 1) "near_sets" [.p (.int (many : Int)), .p (.int (step : Int)), .p (kdI (kvS S j))] m = ret (.p (.list ((nearU many step (S (step + many % step))).map tN))) m := by
  rw [run_code h rfl]
  have rp : many % step < step := Nat.mod_lt _ h1
  have dv : many = step * (many / step) + many % step := (Nat.div_add_mod many step).symm
  obtain ⟨k, hk⟩ : ∃ k, many / step = k + 1 := ⟨many / step - 1, by have := Nat.div_le_div_right (c := step) (show step ≤ many by omega); rw [Nat.div_self h1] at this; omega⟩
  rw [hk, Nat.mul_succ] at dv
  have est : many - step - many % step = step * k := by omega
  have kle : k ≤ step * k := Nat.le_mul_of_pos_left k h1
  have e1 : (many : Int) % (step : Int) = ((many % step : Nat) : Int) := by rw [Int.natCast_emod]
  have e2 : (many : Int) - (step : Int) - ((many % step : Nat) : Int) = ((step * k : Nat) : Int) := by omega
  have e3 : (step : Int) + ((many % step : Nat) : Int) = ((step + many % step : Nat) : Int) := by omega
  have k0 : 0 < k := by
    refine Nat.pos_of_ne_zero fun z => ?_
    subst z
    omega
  have s1 : step * 1 ≤ step * k := Nat.mul_le_mul_left step k0
  have g := getA_kv (S := S) (j := j) (i := step + many % step) (by omega) (by omega)
  have z0 : (0 : Int) < (step : Int) := by omega
  have hl := o.len (step + many % step)
  obtain ⟨b4, b7, lp⟩ := near_loop (W := W) (m := m) (run Γ W n) (a0 := some (.fz (.p (.int (many : Int))))) (a2 := some (.fz (.p (kdI (kvS S j))))) (step := step) (rest := many % step) (k := k) h1 (by omega) (by omega) (by omega) (S (step + many % step)) [] none none none (fun T hT => o.told _ T (by omega) (by omega) hT) (by simp; omega)
  simp only [P.d_near_sets, startR, List.map_cons, List.map_nil, List.length_cons, List.length_nil]
  simp only [List.replicate, List.cons_append, List.nil_append, exB_set, ev_bnr, ev_vr, List.getElem?_cons_succ, List.getElem?_cons_zero, varR_fz, dOf_r, bnd_ret', bin_mod, if_pos z0, e1, Option.map_some, opt_s, List.set_cons_succ, List.set_cons_zero, exB_par2o, bin_sub, e2, ev_lst, evs_nil, List.length_nil, Nat.zero_le, if_true, slF, slT, exB_for, evI_val, ev_ix, lk_var, lkR_fz, bin_add, e3, idx_kd, g, seqOf_list, bnd_assoc, dOf_bnd']
  have e5 : ([] : List PyData) = (([] : List (List Nat)).map tN) := rfl
  rw [e5, lp]
  simp [nearU_eq, est]
end
end G

end
section
set_option maxHeartbeats 4000000
namespace G
open PySem PySem.Spec PyProof.Rows L2
def stepS (S : Nat → List (List Nat)) (many step : Nat) : List (List Nat) := if 2 * step ≤ many then nearU many step (S (step + many % step)) else (S (many - step)).map fun part => 0 :: part.map (step + ·)
abbrev stepU := stepS SS
theorem perm_flat {α β : Type} {f g : α → List β} : ∀ (l : List α), (∀ a ∈ l, (f a).Perm (g a)) → (l.flatMap f).Perm (l.flatMap g)
  | [], _ => .refl _
  | a :: l, h => by
    rw [List.flatMap_cons, List.flatMap_cons]
    exact (h a (by simp)).append (perm_flat l fun b hb => h b (by simp [hb]))
theorem SS_perm (j : Nat) : (SS j).Perm (K24 j) := srtN_perm _
theorem setsU_SS {many : Nat} (h1 : 1 ≤ many) (h2 : many ≤ 24) : ([0] :: (List.range' 1 (many - 1)).flatMap (stepU many)).Perm (K24 many) := by
  rw [← (st_all many h1 h2).1]
  unfold setsU
  refine List.Perm.cons _ (perm_flat _ fun s _ => ?_)
  unfold stepU stepS
  split
  · unfold nearU
    exact ((SS_perm _).filter _).map _
  · exact (SS_perm _).map _
theorem SS_step {many : Nat} (h1 : 1 ≤ many) (h2 : many ≤ 24) : srtN ([0] :: (List.range' 1 (many - 1)).flatMap (stepU many)) = SS many := srtN_eq (setsU_SS h1 h2)
theorem step_ne {many : Nat} (h1 : 1 ≤ many) (h2 : many ≤ 24) : ∀ T ∈ ([0] :: (List.range' 1 (many - 1)).flatMap (stepU many)), T ≠ [] := fun T hT => cls_ne ((mem_K24 h1 h2).mp ((setsU_SS h1 h2).mem_iff.mp hT))
theorem step_len {S : Nat → List (List Nat)} (o : SetsOk S) (many step : Nat) : (stepS S many step).length ≤ 1000 := by
  unfold stepS
  split
  · rw [nearU_eq, List.length_map]
    exact Nat.le_trans (List.length_filter_le _ _) (o.len _)
  · rw [List.length_map]; exact o.len _
structure SetsOk2 (S : Nat → List (List Nat)) : Prop extends SetsOk S where
  step : ∀ many, 1 ≤ many → many ≤ 24 → srtN ([0] :: (List.range' 1 (many - 1)).flatMap (stepS S many)) = S many
  ne : ∀ many, 1 ≤ many → many ≤ 24 → ∀ T ∈ ([0] :: (List.range' 1 (many - 1)).flatMap (stepS S many)), T ≠ []
theorem SS_ok2 : SetsOk2 SS := ⟨SS_ok, fun _ h1 h2 => SS_step h1 h2, fun _ h1 h2 => step_ne h1 h2⟩
section
variable {Γ : Str → Option Fn} {W n : Nat} {m : Ms}
theorem all_inner {S : Nat → List (List Nat)} (o : SetsOk S) (h : Γ "near_sets" = some (.code P.d_near_sets)) {a0 : Option Slot} {many : Nat} (h1 : 1 ≤ many) (h2 : many ≤ 24) : ∀ (ss : List Nat) (acc : List (List Nat)) (a4 a5 a6 : Option Slot), (∀ s ∈ ss, 1 ≤ s ∧ s < many) → acc.length + ss.length * 1000 ≤ 100000 →
    ∃ b4, forGo (lturn (run Γ W (n + 1)) W (.one 4) (.cons (.ite (.cmp .LtE (.bin .Mult (.cst (.int 2)) (.var 4)) (.var 2)) (.cons (.ext 3 (.bor 1 (.call "near_sets" (.cons (.var 2) (.cons (.var 4) (.cons (.var 1) .nil)))))) .nil) (.cons (.ext 3 (.comp (.bin .Add (.tup (.cons (.cst (.int 0)) .nil)) (.bi .tuple (.comp (.bin .Add (.var 4) (.var 6)) (.one 6) (.val (.var 5)) .no))) (.one 5) (.val (.dix 1 (.bin .Sub (.var 2) (.var 4)))) .no)) .nil)) .nil)) (ss.map fun (s : Nat) => PyData.int (s : Int))
      [a0, some (.ow (.dk (kvS S (many - 1)))), some (.fz (.p (.int (many : Int)))), some (.ol (acc.map tN)), a4, a5, a6] m =
      ret (.nx [a0, some (.ow (.dk (kvS S (many - 1)))), some (.fz (.p (.int (many : Int)))), some (.ol ((acc ++ ss.flatMap (stepS S many)).map tN)), b4, a5, a6]) m
  | [], acc, a4, a5, a6, _, _ => ⟨a4, by simp [forGo]⟩
  | s :: ss, acc, a4, a5, a6, hs, hl => by
    rw [List.length_cons] at hl
    obtain ⟨s1, s2⟩ := hs s (by simp)
    have sl := step_len o many s
    obtain ⟨b4, ih⟩ := all_inner o h h1 h2 ss (acc ++ stepS S many s) (some (.fz (.p (.int (s : Int))))) a5 a6 (fun t ht => hs t (by simp [ht])) (by rw [List.length_append]; omega)
    refine ⟨b4, ?_⟩
    have eF : acc ++ (s :: ss).flatMap (stepS S many) = acc ++ stepS S many s ++ ss.flatMap (stepS S many) := by rw [List.flatMap_cons, List.append_assoc]
    rw [eF, List.map_cons, forGo, lturn_one]
    have lE : acc.length + (stepS S many s).length ≤ lim := by unfold lim; omega
    have eA : (acc.map tN ++ (stepS S many s).map tN) = (acc ++ stepS S many s).map tN := by rw [List.map_append]
    by_cases c : 2 * s ≤ many
    · have c2 : (2 : Int) * (s : Int) ≤ (many : Int) := by omega
      have eU : stepS S many s = nearU many s (S (s + many % s)) := if_pos c
      have rn : ∀ m, run Γ W (n + 1) "near_sets" [.p (.int (many : Int)), .p (.int (s : Int)), .p (kdI (kvS S (many - 1)))] m = ret (.p (.list ((stepS S many s).map tN))) m := fun m => by rw [eU]; exact run_near_sets o h s1 c h2 (by omega)
      have nd : (PyData.list ((stepS S many s).map tN)).hasDict = false := by rw [PyData.hasDict]; exact nodict_rows _
      simp only [List.set_cons_succ, List.set_cons_zero, exB_ite, ed_eq, ev_cmp, ev_bnr, ev_cst, lit_int, dOf_r, bnd_ret', ev_vr, List.getElem?_cons_succ, List.getElem?_cons_zero, varR_fz, bin_mul, show (-(2 : Int) ^ 64 < 2 ∧ (2 : Int) < 2 ^ 64) by decide, and_self, true_or, if_true, Option.map_some, opt_s, cmp_le, decide_eq_true c2, dOf_bnd', bnd_assoc, boolOf_bool, br_some, exB_ext, ev_bo, borR_dk, ev_call, eva_cons, eva_nil, rn, nd, extR_ol, List.length_map, lE, eA, exB_nil, kb_nx]
      exact ih
    · have c2 : ¬ (2 : Int) * (s : Int) ≤ (many : Int) := by omega
      have eU : stepS S many s = (S (many - s)).map fun part => 0 :: part.map (s + ·) := if_neg c
      have e1 : (many : Int) - (s : Int) = ((many - s : Nat) : Int) := by omega
      have g := getA_kv (S := S) (j := many - 1) (i := many - s) (by omega) (by omega)
      have ls : (S (many - s)).length ≤ lim := Nat.le_trans (o.len _) (by decide)
      have inner : ∀ (T : List Nat), T.length ≤ 24 → ∀ (ρ : Rho), ρ = [a0, some (.ow (.dk (kvS S (many - 1)))), some (.fz (.p (.int (many : Int)))), some (.ol (acc.map tN)), some (.fz (.p (.int (s : Int)))), some (.fz (.p (tN T))), a6] →
          compGo (turn (run Γ W (n + 1)) (.bin .Add (.var 4) (.var 6)) (.one 6) .no ρ) (T.map fun (t : Nat) => PyData.int (t : Int)) m = ret (T.map fun t => PyData.int ((s + t : Nat) : Int)) m := by
        intro T hT ρ e
        subst e
        refine compGo_all (fun t : Nat => PyData.int ((s + t : Nat) : Int)) fun t _ => ?_
        rw [turn_one]
        simp
      have hc : compGo (turn (run Γ W (n + 1)) (.bin .Add (.tup (.cons (.cst (.int 0)) .nil)) (.bi .tuple (.comp (.bin .Add (.var 4) (.var 6)) (.one 6) (.val (.var 5)) .no))) (.one 5) .no [a0, some (.ow (.dk (kvS S (many - 1)))), some (.fz (.p (.int (many : Int)))), some (.ol (acc.map tN)), some (.fz (.p (.int (s : Int)))), a5, a6]) ((S (many - s)).map tN) m = ret ((stepS S many s).map tN) m := by
        rw [eU, List.map_map]
        refine compGo_all (fun T : List Nat => tN (0 :: T.map (s + ·))) fun T hT => ?_
        have tl := o.told _ T (by omega) (by omega) hT
        have tl2 : T.length ≤ lim := by unfold lim; omega
        have tl3 : 1 + T.length ≤ lim := by unfold lim; omega
        have eT : (PyData.int 0 :: T.map fun t => PyData.int ((s + t : Nat) : Int)) = (0 :: T.map (s + ·)).map fun (t : Nat) => PyData.int (t : Int) := by rw [List.map_cons, List.map_map]; rfl
        rw [turn_one]
        simp only [evC_no, bnd_ret', if_true, List.set_cons_succ, List.set_cons_zero, ev_bnr, ev_tup, evs_cons, evs_nil, ev_cst, lit_int, dOf_r, bnd_assoc, dOf_bnd', List.length_cons, List.length_nil, Nat.zero_add, show 1 ≤ lim by decide, ev_blt, lk_comp, ev_comp, evI_val, ev_vr, List.getElem?_cons_succ, List.getElem?_cons_zero, varR_fz, seqOf_tuple, opt_s, List.length_map, tl2, inner T tl _ rfl, biD_tuple_l, Option.map_some, bin_tadd, tl3, List.cons_append, List.nil_append, eT]
      simp only [List.set_cons_succ, List.set_cons_zero, exB_ite, ed_eq, ev_cmp, ev_bnr, ev_cst, lit_int, dOf_r, bnd_ret', ev_vr, List.getElem?_cons_succ, List.getElem?_cons_zero, varR_fz, bin_mul, show (-(2 : Int) ^ 64 < 2 ∧ (2 : Int) < 2 ^ 64) by decide, and_self, true_or, if_true, Option.map_some, opt_s, cmp_le, decide_eq_false c2, Bool.false_eq_true, if_false, dOf_bnd', bnd_assoc, boolOf_bool, br_some, exB_ext, ev_comp, evI_val, ev_dx, bin_sub, e1, dictOf_dk, Option.bind_some, ow_at_dk, g, seqOf_list, List.length_map, ls, hc, extR_ol, lE, eA, exB_nil, kb_nx]
      exact ih
def allB1 : B := (.cons (.own 3 (.lst (.cons (.tup (.cons (.cst (.int 0)) .nil)) .nil))) (.cons (.for (.one 4) (.rng2 (.cst (.int 1)) (.var 2)) (.cons (.ite (.cmp .LtE (.bin .Mult (.cst (.int 2)) (.var 4)) (.var 2)) (.cons (.ext 3 (.bor 1 (.call "near_sets" (.cons (.var 2) (.cons (.var 4) (.cons (.var 1) .nil)))))) .nil) (.cons (.ext 3 (.comp (.bin .Add (.tup (.cons (.cst (.int 0)) .nil)) (.bi .tuple (.comp (.bin .Add (.var 4) (.var 6)) (.one 6) (.val (.var 5)) .no))) (.one 5) (.val (.dix 1 (.bin .Sub (.var 2) (.var 4)))) .no)) .nil)) .nil)) (.cons (.dput 1 (.var 2) (.bi .sorted (.var 3))) .nil)))
theorem all_turn {S : Nat → List (List Nat)} (o : SetsOk2 S) (h : Γ "near_sets" = some (.code P.d_near_sets)) {a0 a2 a3 a4 a5 a6 : Option Slot} {j : Nat} (hj : j + 1 ≤ 24) : ∃ b2 b3 b4, lturn (run Γ W (n + 1)) W (.one 2) allB1 (.int ((j + 1 : Nat) : Int)) [a0, some (.ow (.dk (kvS S j))), a2, a3, a4, a5, a6] m = ret (.nx [a0, some (.ow (.dk (kvS S (j + 1)))), b2, b3, b4, a5, a6]) m := by
  obtain ⟨b4', inn⟩ := all_inner (W := W) (n := n) (m := m) o.toSetsOk h (a0 := a0) (many := j + 1) (by omega) (by omega) (List.range' 1 j) [[0]] a4 a5 a6 (fun s hs => by rw [List.mem_range'_1] at hs; omega) (by simp; omega)
  rw [Nat.add_sub_cancel] at inn
  refine ⟨some (.fz (.p (.int ((j + 1 : Nat) : Int)))), some (.ol (([0] :: (List.range' 1 j).flatMap (stepS S (j + 1))).map tN)), b4', ?_⟩
  have hr : rngOk 1 ((j + 1 : Nat) : Int) = true := rngOk_of (by omega)
  have er : rngL 1 (((j + 1 : Nat) : Int) - 1).toNat = (List.range' 1 j).map fun (s : Nat) => PyData.int (s : Int) := by
    rw [show (((j + 1 : Nat) : Int) - 1).toNat = j by omega]; exact rngL1 j
  have es := o.step (j + 1) (by omega) (by omega)
  rw [Nat.add_sub_cancel] at es
  have ne := o.ne (j + 1) (by omega) (by omega)
  rw [Nat.add_sub_cancel] at ne
  have sx := srtX_rows (l := [0] :: (List.range' 1 j).flatMap (stepS S (j + 1))) ne
  rw [es] at sx
  have kl : (kvS S j).length < lim := by rw [kv_len]; unfold lim; omega
  have eL : ([[0]] ++ (List.range' 1 j).flatMap (stepS S (j + 1))) = [0] :: (List.range' 1 j).flatMap (stepS S (j + 1)) := rfl
  rw [eL] at inn
  have l1 : ∀ ρ m, ev (run Γ W (n + 1)) (.lst (.cons (.tup (.cons (.cst (.int 0)) .nil)) .nil)) ρ m = ret (.p (.list ([[0]].map tN))) m := fun ρ m => by simp [show 1 ≤ lim by decide]; rfl
  rw [lturn_one]
  unfold allB1
  simp -implicitDefEqProofs only [List.set_cons_succ, List.set_cons_zero, exB_own, l1, bnd_ret', ownS_lst, exB_for, evI_rng2, ev_cst, lit_int, dOf_r, ev_vr, List.getElem?_cons_succ, List.getElem?_cons_zero, varR_fz, rngR_int, hr, if_true, er, inn, kb_nx, exB_dput, ed_eq, ev_blt, lk_var, lkR_ol, biD_sorted, sx, Option.map_some, opt_s, dOf_bnd', bnd_assoc, dputR_ow, ow_put_dk, kl, putA_kv, exB_nil]
theorem run_all_setsS {S : Nat → List (List Nat)} (o : SetsOk2 S) (h : Γ "near_sets" = some (.code P.d_near_sets)) (ha : Γ "all_sets" = some (.code P.d_all_sets)) {most : Nat} (hm : most ≤ 24) : run Γ W (n + 2) "all_sets" [.p (.int (most : Int))] m = ret (.p (kdI (kvS S most))) m := by
  rw [run_code ha rfl]
  have outer : ∀ (c : Nat) (j : Nat) (a2 a3 a4 a5 a6 : Option Slot), j + c ≤ 24 → ∃ b2 b3 b4, forGo (lturn (run Γ W (n + 1)) W (.one 2) allB1) ((List.range' (j + 1) c).map fun (s : Nat) => PyData.int (s : Int))
      [some (.fz (.p (.int (most : Int)))), some (.ow (.dk (kvS S j))), a2, a3, a4, a5, a6] m = ret (.nx [some (.fz (.p (.int (most : Int)))), some (.ow (.dk (kvS S (j + c)))), b2, b3, b4, a5, a6]) m := by
    intro c
    induction c with
    | zero => intro j a2 a3 a4 a5 a6 _; exact ⟨a2, a3, a4, rfl⟩
    | succ c ih =>
      intro j a2 a3 a4 a5 a6 hj
      obtain ⟨c2, c3, c4, e1⟩ := all_turn (W := W) (n := n) (m := m) o h (a0 := some (.fz (.p (.int (most : Int))))) (a2 := a2) (a3 := a3) (a4 := a4) (a5 := a5) (a6 := a6) (j := j) (by omega)
      obtain ⟨b2, b3, b4, e2⟩ := ih (j + 1) c2 c3 c4 a5 a6 (by omega)
      refine ⟨b2, b3, b4, ?_⟩
      rw [List.range'_succ, List.map_cons, forGo, e1, bnd_ret']
      show forGo _ _ _ m = _
      rw [e2, show j + 1 + c = j + (c + 1) by omega]
  obtain ⟨b2, b3, b4, e⟩ := outer most 0 none none none none none (by omega)
  simp -implicitDefEqProofs only [Nat.zero_add] at e
  have hr : rngOk 1 ((most : Int) + 1) = true := rngOk_of (by omega)
  have er : rngL 1 ((most : Int) + 1 - 1).toNat = (List.range' 1 most).map fun (s : Nat) => PyData.int (s : Int) := by
    rw [show ((most : Int) + 1 - 1).toNat = most by omega]; exact rngL1 most
  have ek : kvS S 0 = [] := rfl
  rw [ek] at e
  unfold allB1 at e
  simp -implicitDefEqProofs only [P.d_all_sets, startR, List.map_cons, List.map_nil, List.length_cons, List.length_nil]
  simp -implicitDefEqProofs only [List.replicate, List.cons_append, List.nil_append, exB_own, ev_dct, bnd_ret', ownS_dct, List.set_cons_succ, List.set_cons_zero, exB_for, evI_rng2, ev_cst, lit_int, dOf_r, ev_bnr, ev_vr, List.getElem?_cons_zero, varR_fz, bin_add, Option.map_some, opt_s, rngR_int, hr, if_true, er, e, kb_nx, exB_frz, List.getElem?_cons_succ, frzR_dk, exB_rt, endF_rt, bnd_assoc, dOf_bnd']
theorem run_all_sets (h : Γ "near_sets" = some (.code P.d_near_sets)) (ha : Γ "all_sets" = some (.code P.d_all_sets)) {most : Nat} (hm : most ≤ 24) : run Γ W (n + 2) "all_sets" [.p (.int (most : Int))] m = ret (.p (kdI (kvS SS most))) m := run_all_setsS SS_ok2 h ha hm
structure H11 (Γ : Str → Option Fn) : Prop extends H10 Γ where
  near_sets : Γ "near_sets" = some (.code P.d_near_sets)
  all_sets : Γ "all_sets" = some (.code P.d_all_sets)
  shift_sets : Γ "shift_sets" = some (.code P.d_shift_sets)
  is_within : Γ "is_within" = some (.code P.d_is_within)
theorem run_shift_sets (h : H11 Γ) {k : Nat} (hk : 1 ≤ k ∧ k ≤ 24) : run Γ W (n + 4) "shift_sets" [.p (.int (k : Int))] m = ret (.p (.tuple ((SS k).map tN))) m := by
  rw [run_code h.shift_sets rfl]
  have e1 : among (.int (k : Int)) 1 24 = true := by simp [among]; omega
  have ra : ∀ m, run Γ W (n + 3) "all_sets" [.p (.int (k : Int))] m = ret (.p (kdI (kvS SS k))) m := fun m => run_all_sets (n := n + 1) h.near_sets h.all_sets hk.2
  have g := getA_kv (S := SS) (j := k) hk.1 (Nat.le_refl _)
  simp [P.d_shift_sets, startR, run_need_many h.toH5, e1, ra, g]
def inS (a b : List Nat) : Bool := a.all fun s => decide (s ∈ b)
theorem run_is_within (h : Γ "is_within" = some (.code P.d_is_within)) {a b : List Nat} (ha : a.length ≤ lim) : run Γ W (n + 1) "is_within" [.p (tN a), .p (tN b)] m = ret (.p (.bool (inS a b))) m := by
  rw [run_code h rfl]
  simp [P.d_is_within, startR, ha]
  rw [compGo_all (fun s : Nat => PyData.bool (decide (s ∈ b))) (fun s _ => by rw [turn_one]; simp)]
  simp [inS, List.all_map]
end
end G

end
section
set_option maxHeartbeats 4000000
namespace G
open PySem PySem.Spec PyProof.Rows L2
namespace P
def d_common : Def := ⟨3, 4, (.cons (.expr (.call "need_closed" (.cons (.var 0) (.cons (.var 1) .nil)))) (.cons (.expr (.call "need_closed" (.cons (.var 0) (.cons (.var 2) .nil)))) (.cons (.rt (.bi .tuple (.comp (.var 3) (.one 3) (.val (.var 1)) (.yes (.cmp .In (.var 3) (.var 2)))))) .nil)))⟩
def d_above : Def := ⟨3, 3, (.cons (.expr (.call "need_closed" (.cons (.var 0) (.cons (.var 1) .nil)))) (.cons (.expr (.call "need_closed" (.cons (.var 0) (.cons (.var 2) .nil)))) (.cons (.rt (.call "closed" (.cons (.var 0) (.cons (.bi .tuple (.srt (.bin .Add (.var 1) (.var 2)))) .nil)))) .nil)))⟩
def d_next_above : Def := ⟨2, 5, (.cons (.expr (.call "need_closed" (.cons (.var 0) (.cons (.var 1) .nil)))) (.cons (.set 2 (.comp (.var 3) (.one 3) (.val (.call "shift_sets" (.cons (.var 0) .nil))) (.yes (.and (.cmp .NotEq (.var 3) (.var 1)) (.cons (.call "is_within" (.cons (.var 1) (.cons (.var 3) .nil))) .nil))))) (.cons (.rt (.bi .tuple (.comp (.var 3) (.one 3) (.val (.var 2)) (.yes (.not (.bi .any (.comp (.and (.cmp .NotEq (.var 4) (.var 3)) (.cons (.call "is_within" (.cons (.var 4) (.cons (.var 3) .nil))) .nil)) (.one 4) (.val (.var 2)) .no))))))) .nil)))⟩
def d_count_sets : Def := ⟨1, 1, (.cons (.rt (.bi .len (.call "shift_sets" (.cons (.var 0) .nil)))) .nil)⟩
def d_set_at : Def := ⟨2, 3, (.cons (.set 2 (.call "shift_sets" (.cons (.var 0) .nil))) (.cons (.ite (.not (.call "is_among" (.cons (.var 1) (.cons (.cst (.int 0)) (.cons (.bin .Sub (.bi .len (.var 2)) (.cst (.int 1))) .nil))))) (.cons (.rse "BadNumber" (.var 1)) .nil) .nil) (.cons (.rt (.idx (.var 2) (.var 1))) .nil)))⟩
end P
theorem inS_iff {a b : List Nat} : inS a b = true ↔ ∀ s ∈ a, s ∈ b := by
  unfold inS
  rw [List.all_eq_true]
  exact forall_congr' fun s => forall_congr' fun _ => decide_eq_true_iff
def interL (a b : List Nat) : List Nat := a.filter fun s => decide (s ∈ b)
theorem mem_inter {a b : List Nat} {s : Nat} : s ∈ interL a b ↔ s ∈ a ∧ s ∈ b := by simp [interL]
theorem cls_asc {k : Nat} {a : List Nat} (h : Cls k a) : a.Pairwise (· < ·) := h.1.1
theorem cls_ext {k : Nat} {a b : List Nat} (ha : Cls k a) (hb : Cls k b) (h : ∀ s, s ∈ a ↔ s ∈ b) : a = b := asc_ext (cls_asc ha) (cls_asc hb) h
theorem fw_bound {k : Nat} (T : List Nat) {i : Nat} (hi : i < k) : 0 ≤ (fw k T).getD i 0 ∧ (fw k T).getD i 0 < (k : Int) := by
  have h1 : i < (fw k T).length := by rw [fw_len]; exact hi
  have : (fw k T).getD i 0 ∈ fw k T := by
    rw [List.getD_eq_getElem?_getD, List.getElem?_eq_getElem h1]
    exact List.getElem_mem h1
  generalize (fw k T).getD i 0 = x at *
  unfold fw at this
  obtain ⟨c, hc, rfl⟩ := List.mem_map.mp this
  have := mem_fwN.mp hc
  have := lots_le k T
  omega
theorem inter_cls {k : Nat} (hk : 0 < k) {a b : List Nat} (ha : Cls k a) (hb : Cls k b) : Cls k (interL a b) := by
  let w : List Int := (List.range k).map fun i => (fw k a).getD i 0 * (k : Int) + (fw k b).getD i 0
  have wl : w.length = k := by simp [w]
  have wg : ∀ i, i < k → w.getD i 0 = (fw k a).getD i 0 * (k : Int) + (fw k b).getD i 0 := fun i hi => by simp [w, List.getD_eq_getElem?_getD, hi]
  have e : shfs w = interL a b := by
    refine asc_ext (shfs_pair w) (List.Pairwise.filter _ (cls_asc ha)) fun s => ?_
    rw [mem_inter, mem_shfs, wl]
    have ha' : s ∈ a ↔ s < k ∧ agr (fw k a) s = true := by rw [← mem_clo, ha.2]
    have hb' : s ∈ b ↔ s < k ∧ agr (fw k b) s = true := by rw [← mem_clo, hb.2]
    rw [ha', hb', agr_iff, agr_iff, agr_iff, wl, fw_len, fw_len]
    constructor
    · rintro ⟨h1, h2⟩
      have key : ∀ i, i + s < k → (fw k a).getD (i + s) 0 = (fw k a).getD i 0 ∧ (fw k b).getD (i + s) 0 = (fw k b).getD i 0 := fun i hi => by
        have q := h2 i hi
        rw [wg _ hi, wg i (by omega)] at q
        have b1 := fw_bound a (k := k) (i := i + s) hi
        have b2 := fw_bound a (k := k) (i := i) (by omega)
        have b3 := fw_bound b (k := k) (i := i + s) hi
        have b4 := fw_bound b (k := k) (i := i) (by omega)
        generalize (fw k a).getD (i + s) 0 = p1 at *
        generalize (fw k a).getD i 0 = p2 at *
        generalize (fw k b).getD (i + s) 0 = p3 at *
        generalize (fw k b).getD i 0 = p4 at *
        have m1 : (p1 * (k : Int) + p3) % (k : Int) = p3 := by
          rw [Int.add_comm, Int.add_mul_emod_self_right]; exact Int.emod_eq_of_lt b3.1 b3.2
        have m2 : (p2 * (k : Int) + p4) % (k : Int) = p4 := by
          rw [Int.add_comm, Int.add_mul_emod_self_right]; exact Int.emod_eq_of_lt b4.1 b4.2
        have e34 : p3 = p4 := by rw [← m1, ← m2, q]
        refine ⟨?_, e34⟩
        have : p1 * (k : Int) = p2 * (k : Int) := by omega
        exact Int.eq_of_mul_eq_mul_right (by omega) this
      exact ⟨⟨h1, fun i hi => (key i hi).1⟩, ⟨h1, fun i hi => (key i hi).2⟩⟩
    · rintro ⟨⟨h1, h2⟩, ⟨_, h3⟩⟩
      exact ⟨h1, fun i hi => by rw [wg _ hi, wg i (by omega), h2 i hi, h3 i hi]⟩
  have := cls_shfs (w := w) (by omega)
  rw [wl, e] at this
  exact this
def uniL (k : Nat) (a b : List Nat) : List Nat := (List.range k).filter fun s => decide (s ∈ a) || decide (s ∈ b)
theorem mem_uni {k : Nat} {a b : List Nat} (ha : Told k a) (hb : Told k b) {s : Nat} : s ∈ uniL k a b ↔ s ∈ a ∨ s ∈ b := by
  simp only [uniL, List.mem_filter, List.mem_range, Bool.or_eq_true, decide_eq_true_eq]
  exact ⟨fun h => h.2, fun h => ⟨h.elim (ha.2.1 s) (hb.2.1 s), h⟩⟩
theorem told_zero {k : Nat} {a : List Nat} (h : Told k a) : 0 ∈ a := by
  cases a with
  | nil => cases h.2.2
  | cons x a => have := h.2.2; simp at this; simp [this]
theorem told_of {k : Nat} {l : List Nat} (hp : l.Pairwise (· < ·)) (hl : ∀ s ∈ l, s < k) (h0 : 0 ∈ l) : Told k l := by
  refine ⟨hp, hl, ?_⟩
  cases l with
  | nil => cases h0
  | cons x l =>
    rcases List.mem_cons.mp h0 with q | q
    · rw [← q]; rfl
    · have := (List.pairwise_cons.mp hp).1 0 q; omega
theorem uni_told {k : Nat} {a b : List Nat} (ha : Told k a) (hb : Told k b) : Told k (uniL k a b) := by
  refine told_of (List.Pairwise.filter _ List.pairwise_lt_range) (fun s hs => ?_) ((mem_uni ha hb).mpr (.inl (told_zero ha)))
  simpa using (List.mem_filter.mp hs).1
theorem usort_uni {k : Nat} {a b : List Nat} (ha : Told k a) (hb : Told k b) : usort (cN a ++ cN b) = cN (uniL k a b) := by
  refine (usort_eq ?_ fun x => ?_).symm
  · unfold cN
    rw [List.pairwise_map]
    exact (uni_told ha hb).1.imp fun h => by omega
  · rw [List.mem_append]
    constructor
    · intro hx
      obtain ⟨s, hs, rfl⟩ := List.mem_map.mp hx
      exact ((mem_uni ha hb).mp hs).imp (fun h => mem_cast.mpr h) fun h => mem_cast.mpr h
    · rintro (hx | hx)
      · obtain ⟨s, hs, rfl⟩ := List.mem_map.mp hx
        exact mem_cast.mpr ((mem_uni ha hb).mpr (.inl hs))
      · obtain ⟨s, hs, rfl⟩ := List.mem_map.mp hx
        exact mem_cast.mpr ((mem_uni ha hb).mpr (.inr hs))
theorem clo_sub {k : Nat} (hk : 0 < k) {U c : List Nat} (hc : Cls k c) (h : ∀ s ∈ U, s ∈ c) {s : Nat} (hs : s ∈ clo k U) : s ∈ c := by
  have e : ∀ t, t ∈ c ↔ t < k ∧ agr (fw k c) t = true := fun t => by rw [← mem_clo, hc.2]
  obtain ⟨h1, h2⟩ := mem_clo.mp hs
  refine (e s).mpr ⟨h1, follows (w := fw k c) (T := U) (fun t ht => ((e t).mp (h t (List.mem_of_mem_tail ht))).2) ?_⟩
  rw [fw_len]; exact h2
def aboveL (k : Nat) (a b : List Nat) : List Nat := clo k (uniL k a b)
theorem above_cls {k : Nat} (hk : 0 < k) (a b : List Nat) : Cls k (aboveL k a b) := cls_clo hk _
theorem above_has {k : Nat} {a b : List Nat} (ha : Told k a) (hb : Told k b) {s : Nat} (h : s ∈ a ∨ s ∈ b) : s ∈ aboveL k a b := told_sub (uni_told ha hb) ((mem_uni ha hb).mpr h)
theorem above_least {k : Nat} (hk : 0 < k) {a b c : List Nat} (ha : Told k a) (hb : Told k b) (hc : Cls k c) (h1 : ∀ s ∈ a, s ∈ c) (h2 : ∀ s ∈ b, s ∈ c) {s : Nat} (hs : s ∈ aboveL k a b) : s ∈ c :=
  clo_sub hk hc (fun t ht => ((mem_uni ha hb).mp ht).elim (h1 t) (h2 t)) hs
theorem filter_one {α : Type} [DecidableEq α] {l : List α} (nd : l.Nodup) {p : α → Bool} {c : α} (hc : c ∈ l) (h : ∀ x ∈ l, p x = true ↔ x = c) : l.filter p = [c] := by
  induction l with
  | nil => cases hc
  | cons x l ih =>
    have hn := List.nodup_cons.mp nd
    rw [List.filter_cons]
    by_cases e : x = c
    · subst e
      rw [if_pos ((h x (by simp)).mpr rfl)]
      congr 1
      rw [List.filter_eq_nil_iff]
      intro y hy z
      have := (h y (by simp [hy])).mp z
      subst this
      exact hn.1 hy
    · rw [if_neg (fun z => e ((h x (by simp)).mp z))]
      refine ih hn.2 ?_ fun y hy => h y (by simp [hy])
      rcases List.mem_cons.mp hc with q | q
      · exact absurd q.symm e
      · exact q
def someL (k : Nat) (T : List Nat) : List (List Nat) := (SS k).filter fun own => !decide (own = T) && inS T own
def nextL (k : Nat) (T : List Nat) : List (List Nat) := (someL k T).filter fun own => !((someL k T).any fun far => !decide (far = own) && inS far own)
section
variable {Γ : Str → Option Fn} {W n : Nat} {m : Ms} {k : Nat}
structure H12 (Γ : Str → Option Fn) : Prop extends H11 Γ where
  common : Γ "common" = some (.code P.d_common)
  above : Γ "above" = some (.code P.d_above)
  next_above : Γ "next_above" = some (.code P.d_next_above)
theorem need_closed_ok (h : H10 Γ) (hk : 1 ≤ k ∧ k ≤ 24) {T : List Nat} (hc : Cls k T) : run Γ W (n + 5) "need_closed" [.p (.int (k : Int)), .p (tN T)] m = ret (.p .none) m := by
  rw [run_need_closed h.toH5 h.toH7 h.need_closed hk hc.1, besides_none hc]; rfl
theorem run_common (h : H12 Γ) (hk : 1 ≤ k ∧ k ≤ 24) {a b : List Nat} (ha : Cls k a) (hb : Cls k b) : run Γ W (n + 6) "common" [.p (.int (k : Int)), .p (tN a), .p (tN b)] m = ret (.p (tN (interL a b))) m := by
  rw [run_code h.common rfl]
  have la : a.length ≤ lim := by have := told_len ha.1; unfold lim; omega
  simp [P.d_common, startR, need_closed_ok h.toH10 hk ha, need_closed_ok h.toH10 hk hb, la]
  rw [compGo_sel (fun s : Nat => decide (s ∈ b)) (fun (s : Nat) => PyData.int (s : Int)) (fun i hi => by rw [turn_one]; simp)]
  simp [interL]
theorem run_above (h : H12 Γ) (hk : 1 ≤ k ∧ k ≤ 24) {a b : List Nat} (ha : Cls k a) (hb : Cls k b) : run Γ W (n + 6) "above" [.p (.int (k : Int)), .p (tN a), .p (tN b)] m = ret (.p (tN (aboveL k a b))) m := by
  rw [run_code h.above rfl]
  have la := told_len ha.1
  have lb := told_len hb.1
  have lu := told_len (uni_told ha.1 hb.1)
  have l1 : a.length + b.length ≤ lim := by unfold lim; omega
  have es : srtD (.tuple ((a.map fun (n : Nat) => PyData.int (n : Int)) ++ b.map fun (n : Nat) => PyData.int (n : Int))) = some (.list ((uniL k a b).map fun (n : Nat) => PyData.int (n : Int))) := by
    have e1 : (a.map fun (n : Nat) => PyData.int (n : Int)) ++ (b.map fun (n : Nat) => PyData.int (n : Int)) = (cN a ++ cN b).map PyData.int := by rw [mapN, mapN, List.map_append]
    rw [e1]
    unfold srtD
    have e2 : seqI (.tuple ((cN a ++ cN b).map PyData.int)) = some (cN a ++ cN b) := intsL_int _
    rw [e2]
    have e3 : (cN a ++ cN b).length ≤ 1000 ∧ (cN (uniL k a b)).length < 64 := by
      simp
      omega
    simp only [Option.bind_some, usort_uni ha.1 hb.1]
    rw [if_pos e3, mapN]
  have rc : ∀ m, run Γ W (n + 5) "closed" [.p (.int (k : Int)), .p (tN (uniL k a b))] m = ret (.p (tN (aboveL k a b))) m := fun m => run_closed h.toH7 (by omega) (uni_told ha.1 hb.1).2.1
  simp [P.d_above, startR, need_closed_ok h.toH10 hk ha, need_closed_ok h.toH10 hk hb, l1, es, rc]
theorem cls_len {k : Nat} (hk : k ≤ 24) {T : List Nat} (h : Cls k T) : T.length ≤ lim := by have := told_len h.1; unfold lim; omega
theorem run_next_above (h : H12 Γ) (hk : 1 ≤ k ∧ k ≤ 24) {T : List Nat} (hT : Cls k T) : run Γ W (n + 6) "next_above" [.p (.int (k : Int)), .p (tN T)] m = ret (.p (.tuple ((nextL k T).map tN))) m := by
  rw [run_code h.next_above rfl]
  have lS : (SS k).length ≤ lim := Nat.le_trans (SS_len k) (by decide)
  have lo : (someL k T).length ≤ lim := Nat.le_trans (List.length_filter_le _ _) lS
  have rs : ∀ m, run Γ W (n + 5) "shift_sets" [.p (.int (k : Int))] m = ret (.p (.tuple ((SS k).map tN))) m := fun m => run_shift_sets (n := n + 1) h.toH11 hk
  have rw_ : ∀ a b : List Nat, Cls k a → ∀ m, run Γ W (n + 5) "is_within" [.p (tN a), .p (tN b)] m = ret (.p (.bool (inS a b))) m := fun a b ha m => run_is_within (n := n + 4) h.is_within (cls_len hk.2 ha)
  have mS : ∀ own ∈ SS k, Cls k own := fun own ho => (mem_SS hk.1 hk.2).mp ho
  have mo : ∀ own ∈ someL k T, Cls k own := fun own ho => mS own (List.mem_filter.mp ho).1
  have c1 : ∀ (a2 a3 a4 : Option Slot) m, compGo (turn (run Γ W (n + 5)) (.var 3) (.one 3) (.yes (.and (.cmp .NotEq (.var 3) (.var 1)) (.cons (.call "is_within" (.cons (.var 1) (.cons (.var 3) .nil))) .nil))) [some (.fz (.p (.int (k : Int)))), some (.fz (.p (tN T))), a2, a3, a4]) ((SS k).map tN) m = ret ((someL k T).map tN) m := by
    intro a2 a3 a4 m
    refine compGo_sel (c := tN) (fun own => !decide (own = T) && inS T own) tN fun own ho => ?_
    rw [turn_one]
    by_cases q : own = T
    · simp [q]
    · simp [q, rw_ T own hT]
  have c2 : ∀ (a2 a3 : Option Slot) (own : List Nat) (m : Ms), own ∈ someL k T → compGo (turn (run Γ W (n + 5)) (.and (.cmp .NotEq (.var 4) (.var 3)) (.cons (.call "is_within" (.cons (.var 4) (.cons (.var 3) .nil))) .nil)) (.one 4) .no [some (.fz (.p (.int (k : Int)))), some (.fz (.p (tN T))), a2, some (.fz (.p (tN own))), a3]) ((someL k T).map tN) m = ret ((someL k T).map fun far => PyData.bool (!decide (far = own) && inS far own)) m := by
    intro a2 a3 own m ho
    refine compGo_all (fun far : List Nat => PyData.bool (!decide (far = own) && inS far own)) fun far hf => ?_
    rw [turn_one]
    by_cases q : far = own
    · simp [q]
    · simp [q, rw_ far own (mo far hf)]
  simp [P.d_next_above, startR, need_closed_ok h.toH10 hk hT, rs, lS, c1, lo]
  rw [compGo_sel (c := tN) (fun own => !((someL k T).any fun far => !decide (far = own) && inS far own)) tN (fun own ho => ?_)]
  · simp [nextL]
  · rw [turn_one]
    simp [lo, c2 _ _ own _ ho, List.any_map]
theorem run_count_sets (h : H11 Γ) (hc : Γ "count_sets" = some (.code P.d_count_sets)) (hk : 1 ≤ k ∧ k ≤ 24) : run Γ W (n + 5) "count_sets" [.p (.int (k : Int))] m = ret (.p (.int ((SS k).length : Int))) m := by
  rw [run_code hc rfl]
  simp [P.d_count_sets, startR, run_shift_sets (n := n) h hk]
end
end G

end
section
set_option maxHeartbeats 4000000
namespace G
open PySem PySem.Spec PyProof.Rows L2
theorem canLay_rows : ∀ l : List (List Nat), PyData.canLayAll0 (l.map tN) = true
  | [] => rfl
  | T :: l => by rw [List.map_cons, PyData.canLayAll0, canLay_rows l, tN_tI, tI, PyData.canLay0, canLayAll_int]; rfl
theorem shaped_rows (l : List (List Nat)) : SeqAt.shaped (.list (l.map tN)) = true := by
  unfold SeqAt.shaped
  rw [PyData.canLay0, PyData.depth, canLay_rows]
  have := depth_rows l
  simp
  omega
theorem shaped_rowsT (l : List (List Nat)) : SeqAt.shaped (.tuple (l.map tN)) = true := by
  unfold SeqAt.shaped
  rw [PyData.canLay0, PyData.depth, canLay_rows]
  have := depth_rows l
  simp
  omega
theorem eqv_tN (a b : List Nat) : PyData.eqv (tN a) (tN b) = decide (a = b) := by
  rw [tN_tI, tN_tI, tI, tI, PyData.eqv, eqvAll_int]
  simp only [map_cast_inj]
theorem eqv_rows : ∀ l l' : List (List Nat), PyData.eqvAll (l.map tN) (l'.map tN) = decide (l = l')
  | [], [] => by simp [PyData.eqvAll]
  | [], _ :: _ => by simp [PyData.eqvAll]
  | _ :: _, [] => by simp [PyData.eqvAll]
  | a :: l, b :: l' => by
    rw [List.map_cons, List.map_cons, PyData.eqvAll, eqv_rows l l', eqv_tN]
    by_cases h : a = b <;> by_cases q : l = l' <;> simp [h, q]
theorem eqD_rows (l l' : List (List Nat)) : eqD (.list (l.map tN)) (.list (l'.map tN)) = some (decide (l = l')) := by
  rw [eqD_shaped (shaped_rows l) (shaped_rows l') (fun ⟨_, h⟩ => nomatch h), PyData.eqv, eqv_rows]
theorem eqD_rowsT (l l' : List (List Nat)) : eqD (.tuple (l.map tN)) (.tuple (l'.map tN)) = some (decide (l = l')) := by
  rw [eqD_shaped (shaped_rowsT l) (shaped_rowsT l') (fun ⟨_, h⟩ => nomatch h), PyData.eqv, eqv_rows]
theorem eqD_rows0 (l : List (List Nat)) : eqD (.list (l.map tN)) (.list []) = some (decide (l = [])) := eqD_rows l []
theorem fit_rows {l : List (List Nat)} (h : ∀ T ∈ l, T.length ≤ 24 ∧ ∀ s ∈ T, s < 64) : Fits (l.map tN) 1 (l.length * 300) := by
  have := fit_all (ds := l.map tN) (n := 1) (k := 298) fun d hd => by
    obtain ⟨T, hT, rfl⟩ := List.mem_map.mp hd
    exact (fit_tN (k := 6) (h T hT).2 (by decide)).mono (Nat.le_refl _) (by have := (h T hT).1; omega)
  rwa [List.length_map] at this
theorem repr_rowsT {l : List (List Nat)} (h : ∀ T ∈ l, T.length ≤ 24 ∧ ∀ s ∈ T, s < 64) (q : l.length ≤ 1000) : biD .repr (.tuple (l.map tN)) = some (.str (PyData.tuple (l.map tN)).shown) :=
  biD_repr ((fit_rows h).tup.mono (by decide) (Nat.le_refl _)) (by unfold lim; omega)
theorem repr_rows {l : List (List Nat)} (h : ∀ T ∈ l, T.length ≤ 24 ∧ ∀ s ∈ T, s < 64) (q : l.length ≤ 1000) : biD .repr (.list (l.map tN)) = some (.str (PyData.list (l.map tN)).shown) :=
  biD_repr ((fit_rows h).lst.mono (by decide) (Nat.le_refl _)) (by unfold lim; omega)
theorem repr_rows2 {l l' : List (List Nat)} (h : ∀ T ∈ l, T.length ≤ 24 ∧ ∀ s ∈ T, s < 64) (h' : ∀ T ∈ l', T.length ≤ 24 ∧ ∀ s ∈ T, s < 64) (q : l.length ≤ 1000) (q' : l'.length ≤ 1000) : biD .repr (.list [.list (l.map tN), .list (l'.map tN)]) = some (.str (PyData.list [.list (l.map tN), .list (l'.map tN)]).shown) :=
  biD_repr ((fit_cons (fit_rows h).lst (fit_cons (fit_rows h').lst fit_nil1)).lst.mono (by decide) (Nat.le_refl _)) (by unfold lim; omega)
theorem row_ok {k : Nat} (hk : k ≤ 24) {T : List Nat} (h : Cls k T) : T.length ≤ 24 ∧ ∀ s ∈ T, s < 64 := ⟨by have := told_len h.1; omega, fun s hs => by have := h.1.2.1 s hs; omega⟩
section
variable {k : Nat} {a b : List Nat}
def dueL (k : Nat) (a b : List Nat) : List (List Nat) := (SS k).filter fun x => inS x a && inS x b
def topL (k : Nat) (a b : List Nat) : List (List Nat) := (SS k).filter fun x => inS a x && inS b x
theorem inS_refl (a : List Nat) : inS a a = true := inS_iff.mpr fun _ h => h
theorem due_one (hk : 1 ≤ k ∧ k ≤ 24) (ha : Cls k a) (hb : Cls k b) : ((dueL k a b).filter fun x => decide (((dueL k a b).filter fun y => !inS y x) = [])) = [interL a b] := by
  have hi := inter_cls (by omega) ha hb
  have mem : interL a b ∈ dueL k a b := List.mem_filter.mpr ⟨(mem_SS hk.1 hk.2).mpr hi, by
    rw [Bool.and_eq_true, inS_iff, inS_iff]
    exact ⟨fun s h => (mem_inter.mp h).1, fun s h => (mem_inter.mp h).2⟩⟩
  have sub : ∀ y ∈ dueL k a b, inS y (interL a b) = true := fun y hy => by
    have := (List.mem_filter.mp hy).2
    rw [Bool.and_eq_true, inS_iff, inS_iff] at this
    exact inS_iff.mpr fun s hs => mem_inter.mpr ⟨this.1 s hs, this.2 s hs⟩
  refine filter_one (List.Nodup.sublist List.filter_sublist (SS_nodup k)) mem fun x hx => ?_
  rw [decide_eq_true_eq, List.filter_eq_nil_iff]
  constructor
  · intro h
    have h1 : inS (interL a b) x = true := by have := h _ mem; simpa using this
    have cx := (mem_SS hk.1 hk.2).mp (List.mem_filter.mp hx).1
    exact cls_ext cx hi fun s => ⟨inS_iff.mp (sub x hx) s, inS_iff.mp h1 s⟩
  · rintro rfl y hy
    simp [sub y hy]
theorem top_one (hk : 1 ≤ k ∧ k ≤ 24) (ha : Cls k a) (hb : Cls k b) : ((topL k a b).filter fun x => decide (((topL k a b).filter fun y => !inS x y) = [])) = [aboveL k a b] := by
  have hi := above_cls (k := k) (by omega) a b
  have mem : aboveL k a b ∈ topL k a b := List.mem_filter.mpr ⟨(mem_SS hk.1 hk.2).mpr hi, by
    rw [Bool.and_eq_true, inS_iff, inS_iff]
    exact ⟨fun s h => above_has ha.1 hb.1 (.inl h), fun s h => above_has ha.1 hb.1 (.inr h)⟩⟩
  have sub : ∀ y ∈ topL k a b, inS (aboveL k a b) y = true := fun y hy => by
    have := (List.mem_filter.mp hy).2
    have cy := (mem_SS hk.1 hk.2).mp (List.mem_filter.mp hy).1
    rw [Bool.and_eq_true, inS_iff, inS_iff] at this
    exact inS_iff.mpr fun s hs => above_least (by omega) ha.1 hb.1 cy this.1 this.2 hs
  refine filter_one (List.Nodup.sublist List.filter_sublist (SS_nodup k)) mem fun x hx => ?_
  rw [decide_eq_true_eq, List.filter_eq_nil_iff]
  constructor
  · intro h
    have h1 : inS x (aboveL k a b) = true := by have := h _ mem; simpa using this
    have cx := (mem_SS hk.1 hk.2).mp (List.mem_filter.mp hx).1
    exact cls_ext cx hi fun s => ⟨inS_iff.mp h1 s, inS_iff.mp (sub x hx) s⟩
  · rintro rfl y hy
    simp [sub y hy]
theorem next_near (k : Nat) (T : List Nat) : ((someL k T).filter fun own => decide (((someL k T).filter fun far => !decide (far = own) && inS far own) = [])) = nextL k T := by
  unfold nextL
  refine List.filter_congr fun own _ => ?_
  rw [Bool.eq_iff_iff]
  simp [List.filter_eq_nil_iff]
end
theorem tw_par2T {cl : Str → List Val → Ms → R Val} {W : Nat} {ρ : Rho} {m : Ms} {b : B} {Q : Fl → Ms → Prop} {i j : Nat} {x y : E} {P : Val → Ms → Prop} {P' : Val → Val → Ms → Prop} (h : tw (ev cl x ρ m) P) (h' : ∀ u m', P u m' → tw (ev cl y ρ m') (P' u)) (k : ∀ u v m'', P' u v m'' → tw (exB cl W b ((ρ.set i (some (.fz u))).set j (some (.fz v))) m'') Q) : tw (exB cl W (.cons (.par2 i j false false x y) b) ρ m) Q := by
  rw [exB_par2]
  exact tw_seq h fun u m' hu => tw_seq (h' u m' hu) fun v m'' hv => k u v m'' hv
theorem tw_oneOf {Γ : Str → Option Fn} {W n : Nat} {ρ : Rho} {m : Ms} (gw : Γ "_law_draw" = some .draw) {i d k : Nat} {l : List (List Nat)} (el : ρ[i]? = some (some (.fz (.p (.list (l.map tN)))))) (ed : ρ[d]? = some (some (.fz .drw))) (h0 : 0 < l.length) (h1 : l.length ≤ 1000) (hk : k < 2 ^ 40) (hd : Dr k m) :
    tw (ev (run Γ W (n + 3)) (.idx (.var i) (.call "_law_draw" (.cons (.var d) (.cons (.bi .len (.var i)) .nil)))) ρ m) fun v m' => (∃ T ∈ l, v = .p (tN T)) ∧ Dr (k + 1) m' := by
  have l1 : l.length ≤ lim := Nat.le_trans h1 (by decide)
  simp only [ev_ix, ev_call, ev_blt, eva_cons, eva_nil, ev_vr, lk_var, el, ed, varR_fz, lkR_fz, bnd_ret', bnd_assoc, dOf_r, dOf_bnd', biD_len_l, List.length_map, if_pos l1, Option.map_some, opt_s]
  refine tw_seq (P := fun y m' => (∃ c : Nat, y = .int (c : Int) ∧ c < l.length) ∧ Dr (k + 1) m') (tw_dOf (tw_draw gw (by omega) (by omega) hk hd fun c m' a1 a2 a3 => ⟨_, rfl, ⟨c.toNat, by rw [Int.toNat_of_nonneg a1], by omega⟩, a3⟩)) fun y m1 ⟨⟨c, e, hc⟩, d1⟩ => ?_
  subst e
  rw [idx_l, at_nat, List.getElem?_map, List.getElem?_eq_getElem hc]
  exact tw_ret.mpr ⟨⟨_, List.getElem_mem hc, rfl⟩, d1⟩
end G

end
section
set_option maxHeartbeats 4000000
namespace G
def mx (l : List Nat) : Nat := l.foldl max 0
theorem efmax_ge : ∀ (l : List Nat) (b : Nat), b ≤ l.foldl max b
  | [], b => Nat.le_refl _
  | x :: l, b => Nat.le_trans (Nat.le_max_left _ _) (efmax_ge l (max b x))
theorem efmax_le : ∀ (l : List Nat) (b s : Nat), s ∈ l → s ≤ l.foldl max b
  | x :: l, b, s, h => by
    rcases List.mem_cons.mp h with rfl | h
    · exact Nat.le_trans (Nat.le_max_right b s) (efmax_ge l _)
    · exact efmax_le l _ s h
theorem efmax_mem : ∀ (l : List Nat) (b : Nat), l.foldl max b = b ∨ l.foldl max b ∈ l
  | [], b => .inl rfl
  | x :: l, b => by
    rw [List.foldl_cons]
    rcases efmax_mem l (max b x) with h | h
    · rw [h]
      rcases Nat.le_total b x with q | q
      · rw [Nat.max_eq_right q]; exact .inr (by simp)
      · rw [Nat.max_eq_left q]; exact .inl rfl
    · exact .inr (by simp [h])
theorem le_mx {l : List Nat} {s : Nat} (h : s ∈ l) : s ≤ mx l := efmax_le l 0 s h
theorem mx_mem {l : List Nat} (h : 0 ∈ l) : mx l ∈ l := by
  rcases efmax_mem l 0 with q | q
  · unfold mx; rw [q]; exact h
  · exact q
def sufs (w x : List Int) : List Nat := (List.range (x.length + 1)).filter fun s => decide (x.drop (x.length - s) = w.take s)
theorem mem_sufs {w x : List Int} {s : Nat} : s ∈ sufs w x ↔ s ≤ w.length ∧ w.take s <:+ x := by
  simp only [sufs, List.mem_filter, List.mem_range, decide_eq_true_eq]
  constructor
  · rintro ⟨h1, h2⟩
    have hl : s ≤ w.length := by
      have := congrArg List.length h2
      rw [List.length_drop, List.length_take] at this
      omega
    exact ⟨hl, ⟨x.take (x.length - s), by rw [← h2]; exact List.take_append_drop _ _⟩⟩
  · rintro ⟨h1, h2⟩
    have hl := h2.length_le
    rw [List.length_take, Nat.min_eq_left h1] at hl
    refine ⟨by omega, ?_⟩
    have := List.suffix_iff_eq_drop.mp h2
    rw [List.length_take, Nat.min_eq_left h1] at this
    exact this.symm
theorem zero_sufs (w x : List Int) : 0 ∈ sufs w x := mem_sufs.mpr ⟨Nat.zero_le _, by simp⟩
def nxk (w x : List Int) : Nat := mx (sufs w x)
theorem nxk_mem (w x : List Int) : nxk w x ∈ sufs w x := mx_mem (zero_sufs w x)
theorem le_nxk {w x : List Int} {s : Nat} (h : s ∈ sufs w x) : s ≤ nxk w x := le_mx h
theorem nxk_le (w x : List Int) : nxk w x ≤ w.length := (mem_sufs.mp (nxk_mem w x)).1
theorem sufs_nxk {w x : List Int} {s : Nat} : s ∈ sufs w x ↔ s ∈ sufs w (w.take (nxk w x)) := by
  have ht := mem_sufs.mp (nxk_mem w x)
  rw [mem_sufs, mem_sufs]
  constructor
  · rintro ⟨h1, h2⟩
    refine ⟨h1, List.suffix_of_suffix_length_le h2 ht.2 ?_⟩
    have := le_nxk (mem_sufs.mpr ⟨h1, h2⟩)
    rw [List.length_take, List.length_take]
    omega
  · rintro ⟨h1, h2⟩
    exact ⟨h1, h2.trans ht.2⟩
theorem step_inf {w : List Int} {x r : List Int} (hx : x.length ≤ w.length) : w <:+: x ++ r ↔ w <:+: w.take (nxk w x) ++ r := by
  have ht := mem_sufs.mp (nxk_mem w x)
  constructor
  · rintro ⟨p, q, e⟩
    obtain ⟨y, hy⟩ := ht.2
    have hyl : y.length + nxk w x = x.length := by
      have := congrArg List.length hy
      rw [List.length_append, List.length_take, Nat.min_eq_left ht.1] at this
      exact this
    by_cases h : y.length ≤ p.length
    · rw [← hy, List.append_assoc p, List.append_assoc y] at e
      rcases List.append_eq_append_iff.mp e with ⟨a, h1, h2⟩ | ⟨a, h1, h2⟩
      · have : a = [] := by
          have := congrArg List.length h1
          rw [List.length_append] at this
          exact List.length_eq_zero_iff.mp (by omega)
        subst this
        simp at h2
        exact ⟨[], q, by simp [h2]⟩
      · exact ⟨a, q, by rw [List.append_assoc]; exact h2.symm⟩
    · rw [List.append_assoc] at e
      rcases List.append_eq_append_iff.mp e with ⟨a, h1, h2⟩ | ⟨a, h1, h2⟩
      · have al : a.length = x.length - p.length := by
          have := congrArg List.length h1
          rw [List.length_append] at this
          omega
        have ap : a = w.take a.length := by
          rcases List.append_eq_append_iff.mp h2 with ⟨b, g1, g2⟩ | ⟨b, g1, g2⟩
          · have : a.length = w.length := by
              have := congrArg List.length g1
              rw [List.length_append] at this
              omega
            rw [this, List.take_length]
            have := congrArg List.length g1
            rw [List.length_append] at this
            have : b = [] := List.length_eq_zero_iff.mp (by omega)
            rw [g1, this, List.append_nil]
          · rw [g1, List.take_left]
        have am : a.length ∈ sufs w x := mem_sufs.mpr ⟨by omega, by rw [← ap]; exact ⟨p, h1.symm⟩⟩
        have := le_nxk am
        omega
      · have := congrArg List.length h1
        rw [List.length_append] at this
        omega
  · rintro ⟨p, q, e⟩
    obtain ⟨y, hy⟩ := ht.2
    exact ⟨y ++ p, q, by rw [← hy, List.append_assoc y (w.take (nxk w x)) r, ← e]; simp⟩
def hasB (w x : List Int) : Bool := (List.range (x.length + 1 - w.length)).any fun p => decide ((x.drop p).take w.length = w)
theorem hasB_iff {w x : List Int} : hasB w x = true ↔ w <:+: x := by
  simp only [hasB, List.any_eq_true, List.mem_range, decide_eq_true_eq]
  constructor
  · rintro ⟨p, _, h⟩
    exact ⟨x.take p, (x.drop p).drop w.length, by
      conv => lhs; lhs; rhs; rw [← h]
      rw [List.append_assoc, List.take_append_drop, List.take_append_drop]⟩
  · rintro ⟨p, q, e⟩
    refine ⟨p.length, ?_, ?_⟩
    · have := congrArg List.length e
      rw [List.length_append, List.length_append] at this
      omega
    · rw [← e, List.append_assoc, List.drop_left, List.take_left]
def rows (l : List Int) : Nat → List (List Int)
  | 0 => [[]]
  | n + 1 => (rows l n).flatMap fun r => l.map fun a => r ++ [a]
theorem rows_cons (l : List Int) : ∀ n, rows l (n + 1) = l.flatMap fun a => (rows l n).map (a :: ·)
  | 0 => by simp [rows, List.map_eq_flatMap]
  | n + 1 => by
    rw [rows, rows_cons l n, List.flatMap_assoc]
    congr 1
    funext a
    rw [← rows_cons l n, rows]
    rw [List.flatMap_map, List.map_flatMap]
    congr 1
    funext r
    rw [List.map_map]
    rfl
theorem mem_rows {l : List Int} : ∀ {n : Nat} {r : List Int}, r ∈ rows l n ↔ r.length = n ∧ ∀ a ∈ r, a ∈ l
  | 0, r => by
    rw [rows, List.mem_singleton]
    constructor
    · rintro rfl; exact ⟨rfl, fun _ h => nomatch h⟩
    · rintro ⟨h, _⟩; exact List.length_eq_zero_iff.mp h
  | n + 1, r => by
    rw [rows_cons]
    simp only [List.mem_flatMap, List.mem_map]
    constructor
    · rintro ⟨a, ha, s, hs, rfl⟩
      obtain ⟨h1, h2⟩ := mem_rows.mp hs
      refine ⟨by simp [h1], fun b hb => ?_⟩
      rcases List.mem_cons.mp hb with rfl | hb
      · exact ha
      · exact h2 b hb
    · rintro ⟨h1, h2⟩
      cases r with
      | nil => cases h1
      | cons a s => exact ⟨a, h2 a (by simp), s, mem_rows.mpr ⟨by simpa using h1, fun b hb => h2 b (by simp [hb])⟩, rfl⟩
theorem rows_len (l : List Int) : ∀ n, (rows l n).length = l.length ^ n
  | 0 => rfl
  | n + 1 => by
    rw [rows, List.length_flatMap]
    simp only [List.length_map, List.map_const']
    rw [List.sum_replicate_nat, rows_len l n, Nat.pow_succ]
def cntF (w l : List Int) (n : Nat) (x : List Int) : Nat := ((rows l n).filter fun r => !hasB w (x ++ r)).length
theorem sum_map_flat {α : Type} (f : α → List (List Int)) : ∀ l : List α, (l.flatMap f).length = (l.map fun a => (f a).length).sum
  | [] => rfl
  | a :: l => by simp [sum_map_flat f l]
theorem cntF_succ (w l : List Int) (n : Nat) (x : List Int) : cntF w l (n + 1) x = (l.map fun a => cntF w l n (x ++ [a])).sum := by
  unfold cntF
  rw [rows_cons, List.filter_flatMap, sum_map_flat]
  congr 1
  refine List.map_congr_left fun a _ => ?_
  rw [List.filter_map, List.length_map]
  simp [Function.comp_def]
theorem cntF_nxk {w l : List Int} {x : List Int} (n : Nat) (hx : x.length ≤ w.length) : cntF w l n x = cntF w l n (w.take (nxk w x)) := by
  unfold cntF
  congr 1
  refine List.filter_congr fun r _ => ?_
  congr 1
  rw [Bool.eq_iff_iff, hasB_iff, hasB_iff]
  exact step_inf hx
theorem cntF_full {w l : List Int} (n : Nat) : cntF w l n w = 0 := by
  unfold cntF
  rw [List.length_eq_zero_iff, List.filter_eq_nil_iff]
  intro r _
  have : hasB w (w ++ r) = true := hasB_iff.mpr ⟨[], r, by simp⟩
  simp [this]
def avK (w l : List Int) (n k : Nat) : Nat := cntF w l n (w.take k)
def nx (w : List Int) (k : Nat) (a : Int) : Nat := nxk w (w.take k ++ [a])
theorem avK_succ {w l : List Int} {n k : Nat} (hk : k < w.length) : avK w l (n + 1) k = (l.map fun a => if nx w k a < w.length then avK w l n (nx w k a) else 0).sum := by
  unfold avK
  rw [cntF_succ]
  congr 1
  refine List.map_congr_left fun a _ => ?_
  rw [cntF_nxk n (by simp; omega)]
  show cntF w l n (w.take (nx w k a)) = _
  split
  · rfl
  · have := nxk_le w (w.take k ++ [a])
    have : nx w k a = w.length := by unfold nx at *; omega
    rw [this, List.take_length, cntF_full]
theorem avK_zero {w l : List Int} {k : Nat} (hk : k < w.length) : avK w l 0 k = 1 := by
  unfold avK cntF
  have : hasB w (w.take k ++ []) = false := by
    rw [Bool.eq_false_iff]
    intro h
    have := (hasB_iff.mp h).length_le
    simp at this
    omega
  rw [List.append_nil] at this
  simp [rows, this]
def dot (f : Nat → Int) : Nat → List Int → Int
  | _, [] => 0
  | i, x :: v => x * f i + dot f (i + 1) v
def bump (v : List Int) (g : Nat) (x : Int) : List Int := v.set g (v.getD g 0 + x)
theorem dot_bump (f : Nat → Int) : ∀ (v : List Int) (i g : Nat) (x : Int), g < v.length → dot f i (bump v g x) = dot f i v + x * f (i + g)
  | [], _, _, _, h => by simp at h
  | y :: v, i, 0, x, _ => by
    show (y + x) * f i + dot f (i + 1) v = y * f i + dot f (i + 1) v + x * f i
    rw [Int.add_mul]; omega
  | y :: v, i, g + 1, x, h => by
    show y * f i + dot f (i + 1) (bump v g x) = y * f i + dot f (i + 1) v + x * f (i + (g + 1))
    rw [dot_bump f v (i + 1) g x (by simpa using h), show i + 1 + g = i + (g + 1) by omega]
    omega
@[simp] theorem bump_len (v : List Int) (g : Nat) (x : Int) : (bump v g x).length = v.length := by simp [bump]
def bumps (v : List Int) (x : Int) (gs : List Nat) : List Int := gs.foldl (fun v g => if g < v.length then bump v g x else v) v
@[simp] theorem bumps_len (x : Int) : ∀ (gs : List Nat) (v : List Int), (bumps v x gs).length = v.length
  | [], _ => rfl
  | g :: gs, v => by
    show (bumps (if g < v.length then bump v g x else v) x gs).length = _
    rw [bumps_len x gs]
    split <;> simp
theorem dot_bumps (f : Nat → Int) (x : Int) : ∀ (gs : List Nat) (v : List Int), dot f 0 (bumps v x gs) = dot f 0 v + x * (gs.map fun g => if g < v.length then f g else 0).sum
  | [], v => by simp [bumps]
  | g :: gs, v => by
    show dot f 0 (bumps (if g < v.length then bump v g x else v) x gs) = _
    rw [dot_bumps f x gs]
    by_cases h : g < v.length
    · simp only [if_pos h, bump_len]
      rw [dot_bump f v 0 g x h, List.map_cons, List.sum_cons, if_pos h, Int.mul_add]
      simp only [Nat.zero_add]
      omega
    · simp only [if_neg h]
      rw [List.map_cons, List.sum_cons, if_neg h]
      simp
def stepV (gl : Nat → List Nat) : Nat → List Int → List Int → List Int
  | _, [], v => v
  | i, x :: f, v => stepV gl (i + 1) f (bumps v x (gl i))
theorem stepV_len (gl : Nat → List Nat) : ∀ (f : List Int) (i : Nat) (v : List Int), (stepV gl i f v).length = v.length
  | [], _, _ => rfl
  | x :: f, i, v => by rw [stepV, stepV_len gl f, bumps_len]
theorem dot_step (g : Nat → Int) (gl : Nat → List Nat) : ∀ (f : List Int) (i : Nat) (v : List Int), dot g 0 (stepV gl i f v) = dot g 0 v + dot (fun i => ((gl i).map fun k => if k < v.length then g k else 0).sum) i f
  | [], i, v => by simp [stepV, dot]
  | x :: f, i, v => by
    rw [stepV, dot_step g gl f, dot_bumps, dot]
    simp only [bumps_len]
    omega
theorem dot_zeros (g : Nat → Int) : ∀ (k i : Nat), dot g i (List.replicate k 0) = 0
  | 0, _ => rfl
  | k + 1, i => by rw [List.replicate_succ, dot, dot_zeros g k]; simp
theorem dot_congr {f g : Nat → Int} : ∀ {v : List Int} {i : Nat}, (∀ j, i ≤ j → j < i + v.length → f j = g j) → dot f i v = dot g i v
  | [], _, _ => rfl
  | x :: v, i, h => by
    rw [dot, dot, h i (Nat.le_refl _) (by simp), dot_congr (v := v) (i := i + 1) fun j h1 h2 => h j (by omega) (by simp at h2 ⊢; omega)]
theorem dot_one : ∀ (v : List Int) (i : Nat), dot (fun _ => 1) i v = v.sum
  | [], _ => rfl
  | x :: v, i => by rw [dot, dot_one v]; simp
def stepN (gl : Nat → List Nat) (sz : Nat) : Nat → List Int → List Int
  | 0, v => v
  | n + 1, v => stepN gl sz n (stepV gl 0 v (List.replicate sz 0))
theorem stepN_succ (gl : Nat → List Nat) (sz : Nat) : ∀ (n : Nat) (v : List Int), stepN gl sz (n + 1) v = stepV gl 0 (stepN gl sz n v) (List.replicate sz 0)
  | 0, _ => rfl
  | n + 1, v => by rw [stepN, stepN_succ gl sz n]; rfl
theorem stepN_len (gl : Nat → List Nat) {sz : Nat} : ∀ (n : Nat) {v : List Int}, v.length = sz → (stepN gl sz n v).length = sz
  | 0, _, h => h
  | n + 1, v, h => by rw [stepN]; exact stepN_len gl n (by rw [stepV_len, List.length_replicate])
def goalsL (w l : List Int) (k : Nat) : List Nat := l.map fun a => nx w k a
def start0 (sz : Nat) : List Int := 1 :: List.replicate (sz - 1) 0
theorem dot_stepN {w l : List Int} : ∀ (n j : Nat) {v : List Int}, v.length = w.length → dot (fun k => (avK w l j k : Int)) 0 (stepN (goalsL w l) w.length n v) = dot (fun k => (avK w l (j + n) k : Int)) 0 v
  | 0, j, v, _ => rfl
  | n + 1, j, v, h => by
    rw [stepN, dot_stepN n j (by rw [stepV_len, List.length_replicate]), dot_step, dot_zeros, Int.zero_add]
    refine dot_congr fun k _ hk => ?_
    rw [show j + (n + 1) = (j + n) + 1 by omega, avK_succ (by omega), List.length_replicate]
    unfold goalsL
    rw [List.map_map]
    have cast : ∀ (l : List Nat), ((l.sum : Nat) : Int) = (l.map fun (n : Nat) => (n : Int)).sum := fun l => by
      induction l with
      | nil => rfl
      | cons a l ih => simp [ih]
    rw [cast, List.map_map]
    congr 1
    refine List.map_congr_left fun a _ => ?_
    show (if nx w k a < w.length then _ else _) = (((if nx w k a < w.length then _ else _) : Nat) : Int)
    split <;> simp
def cwN (w l : List Int) (n : Nat) : Int := (stepN (goalsL w l) w.length n (start0 w.length)).sum
theorem cwN_eq {w l : List Int} (hw : w ≠ []) (n : Nat) : cwN w l n = (((rows l n).filter fun r => !hasB w r).length : Int) := by
  have hl : 0 < w.length := List.length_pos_iff.mpr hw
  have sl : (start0 w.length).length = w.length := by simp [start0]; omega
  have h1 : cwN w l n = dot (fun k => (avK w l 0 k : Int)) 0 (stepN (goalsL w l) w.length n (start0 w.length)) := by
    unfold cwN
    rw [← dot_one _ 0]
    refine dot_congr fun k _ hk => ?_
    rw [stepN_len _ n sl] at hk
    rw [avK_zero (by omega)]; rfl
  rw [h1, dot_stepN n 0 sl, start0, dot, dot_zeros]
  simp [avK, cntF]
end G

end
section
set_option maxHeartbeats 4000000
namespace P
open PySem PySem.Spec PyProof.Rows L2 G
def d_need_signs_of : Def := ⟨2, 4, (.cons (.expr (.call "need_word" (.cons (.var 1) .nil))) (.cons (.for (.two 2 3) (.enum (.var 1)) (.cons (.ite (.cmp .GtE (.var 3) (.var 0)) (.cons (.rse "BadWord" (.var 2)) .nil) .nil) .nil)) .nil))⟩
def d_need_letters_to_wait : Def := ⟨1, 1, (.cons (.ite (.not (.call "is_among" (.cons (.var 0) (.cons (.cst (.int 1)) (.cons (.glb "MOST_SIGNS" (.int 10)) .nil))))) (.cons (.rse "BadNumber" (.var 0)) .nil) .nil) .nil)⟩
def d_next_known : Def := ⟨3, 5, (.cons (.set 3 (.bin .Add (.bi .tuple (.slc (.var 0) .no (.yes (.var 1)))) (.tup (.cons (.var 2) .nil)))) (.cons (.rt (.bi .max (.comp (.var 4) (.one 4) (.rng1 (.bin .Add (.bi .len (.var 3)) (.cst (.int 1)))) (.yes (.cmp .Eq (.slc (.var 3) (.yes (.bin .Sub (.bi .len (.var 3)) (.var 4))) .no) (.bi .tuple (.slc (.var 0) .no (.yes (.var 4))))))))) .nil))⟩
def d_count_without : Def := ⟨3, 11, (.cons (.expr (.call "need_letters_to_wait" (.cons (.var 0) .nil))) (.cons (.ite (.not (.call "is_among" (.cons (.var 1) (.cons (.cst (.int 0)) (.cons (.glb "MOST_COUNTED" (.int 200)) .nil))))) (.cons (.rse "BadNumber" (.var 1)) .nil) .nil) (.cons (.expr (.call "need_signs_of" (.cons (.var 0) (.cons (.var 2) .nil)))) (.cons (.set 3 (.comp (.comp (.call "next_known" (.cons (.var 2) (.cons (.var 7) (.cons (.var 10) .nil)))) (.one 10) (.rng1 (.var 0)) .no) (.one 7) (.rng1 (.bi .len (.var 2))) .no)) (.cons (.set 4 (.bin .Add (.lst (.cons (.cst (.int 1)) .nil)) (.bin .Mult (.lst (.cons (.cst (.int 0)) .nil)) (.bin .Sub (.bi .len (.var 2)) (.cst (.int 1)))))) (.cons (.for (.one 5) (.rng1 (.var 1)) (.cons (.own 6 (.bin .Mult (.lst (.cons (.cst (.int 0)) .nil)) (.bi .len (.var 2)))) (.cons (.for (.two 7 8) (.enum (.var 4)) (.cons (.for (.one 9) (.val (.idx (.var 3) (.var 7))) (.cons (.ite (.cmp .Lt (.var 9) (.bi .len (.var 2))) (.cons (.augi 6 .Add (.var 9) (.var 8)) .nil) .nil) .nil)) .nil)) (.cons (.frz 6) (.cons (.set 4 (.var 6)) .nil))))) (.cons (.rt (.bi .sum (.var 4))) .nil)))))))⟩
def d_llike : Def := ⟨2, 2, (.cons (.rt (.cmp .Eq (.bi .repr (.var 0)) (.bi .repr (.var 1)))) .nil)⟩
def d_lshifts3 : Def := ⟨1, 4, (.cons (.own 1 (.lst .nil)) (.cons (.for (.one 2) (.rng1 (.bi .len (.var 0))) (.cons (.ite (.cmp .Eq (.comp (.var 3) (.one 3) (.rng1 (.bin .Sub (.bi .len (.var 0)) (.var 2))) (.yes (.cmp .NotEq (.idx (.var 0) (.var 3)) (.idx (.var 0) (.bin .Add (.var 3) (.var 2)))))) (.lst .nil)) (.cons (.app 1 (.var 2)) .nil) .nil) .nil)) (.cons (.rt (.bi .tuple (.var 1))) .nil)))⟩
def d_lwords : Def := ⟨2, 7, (.cons (.set 2 (.lst (.cons (.tup .nil) .nil))) (.cons (.for (.one 3) (.rng1 (.var 1)) (.cons (.set 4 (.lst .nil)) (.cons (.for (.one 5) (.val (.var 2)) (.cons (.set 4 (.bin .Add (.var 4) (.comp (.bin .Add (.var 5) (.tup (.cons (.var 6) .nil))) (.one 6) (.rng1 (.var 0)) .no))) .nil)) (.cons (.set 2 (.var 4)) .nil)))) (.cons (.rt (.var 2)) .nil)))⟩
def d_lword3 : Def := ⟨3, 7, (.cons (.par2 4 5 false false (.comp (.call "_law_draw" (.cons (.var 0) (.cons (.var 1) .nil))) (.one 6) (.rng1 (.var 2)) .no) (.call "_law_draw" (.cons (.var 0) (.cons (.cst (.int 3)) .nil)))) (.cons (.set 3 (.bin .Add (.cst (.int 1)) (.call "_law_draw" (.cons (.var 0) (.cons (.var 2) .nil))))) (.cons (.ite (.cmp .Eq (.var 5) (.cst (.int 1))) (.cons (.set 4 (.comp (.idx (.var 4) (.bin .Mod (.bi .int (.var 6)) (.var 3))) (.one 6) (.rng1 (.var 2)) .no)) .nil) .nil) (.cons (.ite (.and (.cmp .Eq (.var 5) (.cst (.int 2))) (.cons (.cmp .LtE (.bin .Mult (.cst (.int 2)) (.var 3)) (.var 2)) .nil)) (.cons (.set 4 (.bin .Add (.slc (.var 4) .no (.yes (.bin .Sub (.var 2) (.var 3)))) (.slc (.var 4) .no (.yes (.var 3))))) .nil) .nil) (.cons (.rt (.bi .tuple (.var 4))) .nil)))))⟩
def d_lhas : Def := ⟨2, 3, (.cons (.rt (.cmp .NotEq (.comp (.var 2) (.one 2) (.rng1 (.bin .Add (.bin .Sub (.bi .len (.var 0)) (.bi .len (.var 1))) (.cst (.int 1)))) (.yes (.cmp .Eq (.slc (.var 0) (.yes (.var 2)) (.yes (.bin .Add (.var 2) (.bi .len (.var 1))))) (.var 1)))) (.lst .nil))) .nil)⟩
end P
namespace G
open PySem PySem.Spec PyProof.Rows L2
theorem tw_eq {α : Type} {x : R α} {a : α} {m : Ms} (h : tw x fun v m' => v = a ∧ m' = m) : x = ret a m := by
  obtain ⟨v, m', e, rfl, rfl⟩ := h
  exact e
structure H13 (Γ : Str → Option Fn) : Prop extends H2 Γ where
  need_signs_of : Γ "need_signs_of" = some (.code P.d_need_signs_of)
  need_letters_to_wait : Γ "need_letters_to_wait" = some (.code P.d_need_letters_to_wait)
  next_known : Γ "next_known" = some (.code P.d_next_known)
  count_without : Γ "count_without" = some (.code P.d_count_without)
def letL (L : Nat) : List Int := (List.range L).map fun (i : Nat) => (i : Int)
theorem mem_letL {L : Nat} {x : Int} : x ∈ letL L ↔ 0 ≤ x ∧ x < L := by
  simp only [letL, List.mem_map, List.mem_range]
  constructor
  · rintro ⟨i, h, rfl⟩; omega
  · rintro ⟨h1, h2⟩; exact ⟨x.toNat, by omega, by omega⟩
@[simp] theorem letL_len (L : Nat) : (letL L).length = L := by simp [letL]
section
variable {Γ : Str → Option Fn} {W n : Nat} {m : Ms}
theorem signs_loop (cl : Str → List Val → Ms → R Val) (L : Nat) (w : Slot) : ∀ (xs : List Int) (k : Nat) (a b : Option Slot), (∀ x ∈ xs, x < L) →
    ∃ a' b', forGo (lturn cl W (.two 2 3) (.cons (.ite (.cmp .GtE (.var 3) (.var 0)) (.cons (.rse "BadWord" (.var 2)) .nil) .nil) .nil)) (enumK k (xs.map .int)) [some (.fz (.p (.int (L : Int)))), some w, a, b] m = ret (.nx [some (.fz (.p (.int (L : Int)))), some w, a', b']) m
  | [], k, a, b, _ => ⟨a, b, by simp [enumK, forGo]⟩
  | x :: xs, k, a, b, h => by
    have hx : ¬ (L : Int) ≤ x := by have := h x (by simp); omega
    obtain ⟨a', b', ih⟩ := signs_loop cl L w xs (k + 1) (some (.fz (.p (.int (k : Int))))) (some (.fz (.p (.int x)))) fun y hy => h y (by simp [hy])
    refine ⟨a', b', ?_⟩
    rw [List.map_cons, enumK, forGo]
    simp [cmpD, hx]
    exact ih
theorem run_need_signs_of (h : H13 Γ) (b : Bool) {L : Nat} {w : List Int} (hw : Word w) (hl : ∀ x ∈ w, x < L) : run Γ W (n + 4) "need_signs_of" [.p (.int (L : Int)), .p (sq b (w.map .int))] m = ret (.p .none) m := by
  rw [run_code h.need_signs_of rfl]
  obtain ⟨a', b', e⟩ := signs_loop (W := W) (m := m) (run Γ W (n + 3)) L (.fz (.p (sq b (w.map .int)))) w 0 none none hl
  simp [P.d_need_signs_of, startR, run_need_word h.toH2, wordBad_ok hw, enumL_eq, e]
theorem run_need_letters (h : H13 Γ) {L : Nat} (h1 : 1 ≤ L) (h2 : L ≤ 10) : run Γ W (n + 3) "need_letters_to_wait" [.p (.int (L : Int))] m = ret (.p .none) m := by
  rw [run_code h.need_letters_to_wait rfl]
  have e : among (.int (L : Int)) 1 10 = true := by simp [among]; omega
  simp [P.d_need_letters_to_wait, startR, run_is_among h.toH1, e]
theorem maxI_mx : ∀ {l : List Nat}, l ≠ [] → maxI (l.map fun (n : Nat) => (n : Int)) = some ((mx l : Nat) : Int)
  | x :: l, _ => by
    have key : ∀ (l : List Nat) (b : Nat), (l.map fun (n : Nat) => (n : Int)).foldl max (b : Int) = ((l.foldl max b : Nat) : Int) := by
      intro l
      induction l with
      | nil => intro b; rfl
      | cons y l ih =>
        intro b
        rw [List.map_cons, List.foldl_cons, List.foldl_cons, ← ih (max b y)]
        congr 1
        omega
    show some ((l.map _).foldl max (x : Int)) = _
    rw [key, mx, List.foldl_cons, Nat.max_eq_right (Nat.zero_le x)]
theorem bi_maxN {l : List Nat} (h : l ≠ []) : biD .max (.list (l.map fun (n : Nat) => PyData.int (n : Int))) = some (.int (mx l : Nat)) := by
  show maxX _ = _
  unfold maxX
  rw [mapN, intsL_int]
  show (maxI _).map _ = _
  rw [maxI_mx h]; rfl
theorem slc_sq (b : Bool) (w : List Int) (k : Nat) : slcD (sq b (w.map .int)) none (some (k : Int)) = some (sq b ((w.take k).map .int)) := by
  cases b <;> simp [slcD, sq, cut_to]
theorem slcT_from (l : List PyData) (k : Nat) : slcD (.tuple l) (some (k : Int)) none = some (.tuple (l.drop k)) := by simp [slcD, cut_from]
theorem run_next_known (h : Γ "next_known" = some (.code P.d_next_known)) (b : Bool) {w : List Int} {k : Nat} {a : Int} (hw : w.length ≤ 1000) (hk : k ≤ w.length) : run Γ W (n + 1) "next_known" [.p (sq b (w.map .int)), .p (.int (k : Int)), .p (.int a)] m = ret (.p (.int (nx w k a : Nat))) m := by
  rw [run_code h rfl]
  have ll : (w.take k ++ [a]).length = k + 1 := by simp; omega
  have e1 : rngOk 0 ((k : Int) + 1 + 1) = true := rngOk_of (by omega)
  have e2 : ((k : Int) + 1 + 1).toNat = k + 1 + 1 := by omega
  have z1 : k + 1 ≤ lim := by unfold lim; omega
  have et : (List.map PyData.int (List.take k w) ++ [PyData.int a]) = (w.take k ++ [a]).map PyData.int := by simp
  have zk : min k w.length = k := Nat.min_eq_left hk
  have et' : (List.map PyData.int (List.take k w)).length + [PyData.int a].length ≤ lim := by simp; unfold lim; omega
  have e3 : ∀ i : Nat, i ≤ k + 1 → (↑(k + 1) : Int) - (i : Int) = ((k + 1 - i : Nat) : Int) := fun i hi => by omega
  have e4 : ((w.take k ++ [a]).map PyData.int).length = k + 1 := by rw [List.length_map, ll]
  have e5 : ((k + 1 : Nat) : Int) + 1 = (k : Int) + 1 + 1 := by omega
  have e6 : rngR (.int 0) (.int ((k : Int) + 1 + 1)) m = ret (rngL 0 (k + 1 + 1)) m := by
    show (if rngOk 0 ((k : Int) + 1 + 1) = true then ret (rngL 0 ((k : Int) + 1 + 1 - 0).toNat) m else none) = _
    rw [if_pos e1]
    congr 2
  have hb : binD .Add (.tuple ((w.take k).map PyData.int)) (.tuple [.int a]) = some (.tuple ((w.take k ++ [a]).map PyData.int)) := by
    rw [bin_tadd, if_pos et', et]
  have l1 : 0 + 1 ≤ lim := by decide
  have l2 : k + 1 + 1 ≤ lim := by unfold lim; omega
  simp -implicitDefEqProofs only [P.d_next_known, startR, exB_set, exB_rt, ev_bnr, ev_blt, lk_slc, ev_slc, ev_vr, List.map_cons, List.map_nil, List.length_cons, List.length_nil, List.replicate, List.cons_append, List.nil_append, List.getElem?_cons_succ, List.getElem?_cons_zero, List.set_cons_succ, List.set_cons_zero, varR_fz, dOf_r, bnd_ret', evO_no, evO_yes, bnd_assoc, intOf_int, slc_sq, Option.map_some, opt_s, tup_sq, ev_tup, evs_cons, evs_nil, dOf_bnd', if_pos l1, hb, lk_comp, ev_comp, evI_rng1, lk_var, lkR_fz, biD_len_t, e4, ev_cst, lit_int, bin_add, e5, e6, rngL_zero, List.length_map, List.length_range, if_pos l2]
  rw [compGo_sel (fun s : Nat => decide ((w.take k ++ [a]).drop ((w.take k ++ [a]).length - s) = w.take s)) (fun (s : Nat) => PyData.int (s : Int)) (fun s hs => ?_)]
  · have q : (List.range (k + 1 + 1)).filter (fun s : Nat => decide ((w.take k ++ [a]).drop ((w.take k ++ [a]).length - s) = w.take s)) = sufs w (w.take k ++ [a]) := by
      unfold sufs; rw [ll]
    rw [q, bnd_ret', bi_maxN (fun z => by have := zero_sufs w (w.take k ++ [a]); rw [z] at this; cases this)]
    rfl
  · have hs : s ≤ k + 1 := by have := List.mem_range.mp hs; omega
    have e8 := e3 s hs
    simp -implicitDefEqProofs only [turn_one, evC_yes, ev_cmp, ev_slc, ev_blt, ev_bnr, ev_vr, lk_var, lk_slc, List.getElem?_cons_succ, List.getElem?_cons_zero, List.set_cons_succ, List.set_cons_zero, varR_fz, lkR_fz, dOf_r, bnd_ret', evO_yes, evO_no, biD_len_t, e4, Option.map_some, opt_s, bin_sub, e8, intOf_int, slcT_from, slc_sq, tup_sq, cmp_eq, ← List.map_drop, eqD_tI, boolOf_bool, bnd_assoc, dOf_bnd', ll]
theorem goal_loop (cl : Str → List Val → Ms → R Val) {gs : List Nat} {goals : List PyData} {w : PyData} {sz k : Nat} {x : Int} (hw : biD .len w = some (.int (sz : Int))) (hg : L2.atI goals (k : Int) = some (.list (gs.map fun (i : Nat) => PyData.int (i : Int)))) {v : List Int} (hv : v.length = sz) (a0 a1 a4 a5 a9 a10 : Option Slot) :
    tw (exB cl W (.cons (.for (.one 9) (.val (.idx (.var 3) (.var 7))) (.cons (.ite (.cmp .Lt (.var 9) (.bi .len (.var 2))) (.cons (.augi 6 .Add (.var 9) (.var 8)) .nil) .nil) .nil)) .nil)
      [a0, a1, some (.fz (.p w)), some (.fz (.p (.list goals))), a4, a5, some (.ol (v.map .int)), some (.fz (.p (.int (k : Int)))), some (.fz (.p (.int x))), a9, a10] m)
      fun fl m' => (∃ b9, fl = .nx [a0, a1, some (.fz (.p w)), some (.fz (.p (.list goals))), a4, a5, some (.ol ((bumps v x gs).map .int)), some (.fz (.p (.int (k : Int)))), some (.fz (.p (.int x))), b9, a10]) ∧ m' = m := by
  refine tw_loop (xs := gs.map fun (i : Nat) => PyData.int (i : Int)) (m' := m) (by simp [hg])
    (fun i ρ m' => m' = m ∧ ∃ b9, ρ = [a0, a1, some (.fz (.p w)), some (.fz (.p (.list goals))), a4, a5, some (.ol ((bumps v x (gs.take i)).map .int)), some (.fz (.p (.int (k : Int)))), some (.fz (.p (.int x))), b9, a10])
    ⟨rfl, a9, rfl⟩ (fun i g ρ m' hx ⟨e, b9, hρ⟩ => ?_) fun ρ' m' ⟨e, b9, hρ⟩ => tw_nil ?_
  · subst e hρ
    rw [List.getElem?_map] at hx
    cases hgi : gs[i]? with
    | none => rw [hgi] at hx; cases hx
    | some g' =>
      rw [hgi] at hx
      cases hx
      have et : gs.take (i + 1) = gs.take i ++ [g'] := by rw [List.take_add_one, hgi]; rfl
      have eb : bumps v x (gs.take (i + 1)) = if g' < (bumps v x (gs.take i)).length then bump (bumps v x (gs.take i)) g' x else bumps v x (gs.take i) := by
        rw [et]
        unfold bumps
        rw [List.foldl_append]
        rfl
      have lb : (bumps v x (gs.take i)).length = sz := by rw [bumps_len, hv]
      generalize bumps v x (gs.take i) = u at *
      rw [lturn_one]
      dsimp only [List.set]
      by_cases q : g' < sz
      · have q' : (g' : Int) < (sz : Int) := by omega
        rw [lb, if_pos q] at eb
        have i1 : idxD (.list (u.map .int)) (.int (g' : Int)) = some (.int (u.getD g' 0)) := idx_sq false u g' (by omega)
        refine tw_then (m' := m') (by simp [hw, q', cmpD]) ?_
        rw [exB_augi, show ([a0, a1, some (Slot.fz (Val.p w)), some (Slot.fz (Val.p (PyData.list goals))), a4, a5, some (Slot.ol (List.map PyData.int u)), some (Slot.fz (Val.p (PyData.int ↑k))), some (Slot.fz (Val.p (PyData.int x))), some (Slot.fz (Val.p (PyData.int ↑g'))), a10] : Rho)[6]? = some (some (.ol (u.map .int))) from rfl]
        have pl : putL (u.map PyData.int) (.int (g' : Int)) (.int (u.getD g' 0 + x)) = some ((bump u g' x).map .int) := by rw [putL_nat (by simp; omega), bump, List.map_set]
        simp only [augiR_ol m' i1, ed_eq, ev_vr, List.getElem?_cons_succ, List.getElem?_cons_zero, varR_fz, dOf_r, bnd_ret', aug_add, opt_s, pl, List.set_cons_succ, List.set_cons_zero, exB_nil]
        refine tw_ret.mpr ?_
        show tw (exB cl W .nil _ m') _
        refine tw_nil ?_
        exact ⟨_, rfl, rfl, _, by rw [eb]⟩
      · have q' : ¬ (g' : Int) < (sz : Int) := by omega
        rw [lb, if_neg q] at eb
        refine tw_skip (m' := m') (by simp [hw, q', cmpD]) (tw_nil ?_)
        exact ⟨_, rfl, rfl, _, by rw [eb]⟩
  · subst e hρ
    refine ⟨⟨b9, ?_⟩, rfl⟩
    rw [List.length_map, List.take_length]
theorem stepV_take (gl : Nat → List Nat) : ∀ (f : List Int) (i j : Nat) (v : List Int) (x : Int), f[j]? = some x → stepV gl i (f.take (j + 1)) v = bumps (stepV gl i (f.take j) v) x (gl (i + j))
  | y :: f, i, 0, v, x, h => by
    simp at h; subst h
    simp [stepV]
  | y :: f, i, j + 1, v, x, h => by
    rw [List.take_succ_cons, List.take_succ_cons, stepV, stepV, stepV_take gl f (i + 1) j _ x (by simpa using h), show i + 1 + j = i + (j + 1) by omega]
  | [], _, _, _, _, h => by simp at h
theorem enumK_at : ∀ (xs : List PyData) (k i : Nat), (enumK k xs)[i]? = (xs[i]?).map fun x => .tuple [.int ((k + i : Nat) : Int), x]
  | [], _, _ => by simp [enumK]
  | x :: xs, k, 0 => by simp [enumK]
  | x :: xs, k, i + 1 => by
    rw [enumK, List.getElem?_cons_succ, enumK_at xs (k + 1) i, List.getElem?_cons_succ, show k + 1 + i = k + (i + 1) by omega]
theorem enumK_len : ∀ (xs : List PyData) (k : Nat), (enumK k xs).length = xs.length
  | [], _ => rfl
  | x :: xs, k => by rw [enumK, List.length_cons, enumK_len xs, List.length_cons]
def goalsD (gl : Nat → List Nat) (sz : Nat) : List PyData := (List.range sz).map fun k => .list ((gl k).map fun (i : Nat) => PyData.int (i : Int))
theorem goalsD_at (gl : Nat → List Nat) {sz k : Nat} (hk : k < sz) : L2.atI (goalsD gl sz) (k : Int) = some (.list ((gl k).map fun (i : Nat) => PyData.int (i : Int))) := by
  rw [at_nat, goalsD, List.getElem?_map, List.getElem?_range hk]; rfl
theorem known_loop (cl : Str → List Val → Ms → R Val) {gl : Nat → List Nat} {w : PyData} {sz : Nat} (hw : biD .len w = some (.int (sz : Int))) {f v : List Int} (hf : f.length = sz) (hv : v.length = sz) (a0 a1 a5 a7 a8 a9 a10 : Option Slot) {c : B} {Q : Fl → Ms → Prop}
    (k : ∀ b7 b8 b9, tw (exB cl W c [a0, a1, some (.fz (.p w)), some (.fz (.p (.list (goalsD gl sz)))), some (.fz (.p (.list (f.map .int)))), a5, some (.ol ((stepV gl 0 f v).map .int)), b7, b8, b9, a10] m) Q) :
    tw (exB cl W (.cons (.for (.two 7 8) (.enum (.var 4)) (.cons (.for (.one 9) (.val (.idx (.var 3) (.var 7))) (.cons (.ite (.cmp .Lt (.var 9) (.bi .len (.var 2))) (.cons (.augi 6 .Add (.var 9) (.var 8)) .nil) .nil) .nil)) .nil)) c)
      [a0, a1, some (.fz (.p w)), some (.fz (.p (.list (goalsD gl sz)))), some (.fz (.p (.list (f.map .int)))), a5, some (.ol (v.map .int)), a7, a8, a9, a10] m) Q := by
  refine tw_loop (xs := enumK 0 (f.map .int)) (m' := m) (by simp [enumL_eq])
    (fun i ρ m' => m' = m ∧ ∃ b7 b8 b9, ρ = [a0, a1, some (.fz (.p w)), some (.fz (.p (.list (goalsD gl sz)))), some (.fz (.p (.list (f.map .int)))), a5, some (.ol ((stepV gl 0 (f.take i) v).map .int)), b7, b8, b9, a10])
    ⟨rfl, a7, a8, a9, rfl⟩ (fun i x ρ m' hx ⟨e, b7, b8, b9, hρ⟩ => ?_) fun ρ' m' ⟨e, b7, b8, b9, hρ⟩ => ?_
  · subst e hρ
    rw [enumK_at, List.getElem?_map] at hx
    cases hfi : f[i]? with
    | none => rw [hfi] at hx; cases hx
    | some y =>
      rw [hfi] at hx
      cases hx
      have hi : i < sz := by rw [← hf]; exact (List.getElem?_eq_some_iff.mp hfi).1
      rw [lturn_two]
      dsimp only [List.set]
      rw [show ((0 + i : Nat) : Int) = (i : Int) by omega]
      refine tw_mono (goal_loop cl hw (goalsD_at gl hi) (v := stepV gl 0 (f.take i) v) (by rw [stepV_len, hv]) a0 a1 _ _ _ _) fun fl m'' ⟨⟨c9, e1⟩, e2⟩ => ?_
      subst e1 e2
      refine ⟨_, rfl, rfl, some (.fz (.p (.int (i : Int)))), some (.fz (.p (.int y))), c9, ?_⟩
      rw [stepV_take gl f 0 i v y hfi, Nat.zero_add]
  · subst e hρ
    have : stepV gl 0 (f.take (enumK 0 (f.map .int)).length) v = stepV gl 0 f v := by rw [enumK_len, List.length_map, List.take_length]
    rw [this]
    exact k b7 b8 b9
theorem zeros_eq (k : Nat) : (List.replicate k [PyData.int 0]).flatten = (List.replicate k (0 : Int)).map .int := by
  induction k with
  | zero => rfl
  | succ k ih => rw [List.replicate_succ, List.flatten_cons, ih, List.replicate_succ]; rfl
theorem run_count_without (h : H13 Γ) (b : Bool) {L many : Nat} {w : List Int} (hL : 1 ≤ L ∧ L ≤ 10) (hm : many ≤ 200) (hw : Word w) (hl : ∀ x ∈ w, x < L) : run Γ W (n + 5) "count_without" [.p (.int (L : Int)), .p (.int (many : Int)), .p (sq b (w.map .int))] m = ret (.p (.int (cwN w (letL L) many))) m := by
  rw [run_code h.count_without rfl]
  have e1 : among (.int (many : Int)) 0 200 = true := by simp [among]; omega
  have l1 := hw.1
  have l2 := hw.2.1
  have r1 : ∀ m, run Γ W (n + 4) "need_letters_to_wait" [.p (.int (L : Int))] m = ret (.p .none) m := fun m => run_need_letters (n := n + 1) h hL.1 hL.2
  have r2 : ∀ m, run Γ W (n + 4) "need_signs_of" [.p (.int (L : Int)), .p (sq b (w.map .int))] m = ret (.p .none) m := fun m => run_need_signs_of h b hw hl
  have r3 : ∀ (k : Nat) (a : Int) (m : Ms), k ≤ w.length → run Γ W (n + 4) "next_known" [.p (sq b (w.map .int)), .p (.int (k : Int)), .p (.int a)] m = ret (.p (.int (nx w k a : Nat))) m := fun k a m hk => run_next_known (n := n + 3) h.next_known b (by omega) hk
  have r4 : ∀ m, run Γ W (n + 4) "is_among" [.p (.int (many : Int)), .p (.int 0), .p (.int 200)] m = ret (.p (.bool true)) m := fun m => by rw [run_is_among (n := n + 2) h.toH1, e1]
  let gl := goalsL w (letL L)
  have ws : (w.map PyData.int).length = w.length := List.length_map ..
  refine tw_eq (tw_bnd.mpr ?_)
  simp only [P.d_count_without, startR, List.map_cons, List.map_nil, List.length_cons, List.length_nil, List.replicate, List.cons_append, List.nil_append]
  refine tw_expr (v := .p .none) (m' := m) (by simp [r1]) ?_
  refine tw_skip (m' := m) (by simp [r4]) ?_
  refine tw_expr (v := .p .none) (m' := m) (by simp [r2]) ?_
  refine tw_set (v := .p (.list (goalsD gl w.length))) (m' := m) ?_ ?_
  · simp [show rngOk 0 (w.length : Int) = true from rngOk_of (by omega), rngL_zero, show w.length ≤ lim by unfold lim; omega]
    rw [compGo_all (fun k : Nat => PyData.list ((gl k).map fun (i : Nat) => PyData.int (i : Int))) fun k hk => ?_]
    · rfl
    · have hk : k < w.length := List.mem_range.mp hk
      rw [turn_one]
      simp [show rngOk 0 (L : Int) = true from rngOk_of (by omega), rngL_zero, show L ≤ lim by unfold lim; omega]
      rw [compGo_all (fun i : Nat => PyData.int (nx w k (i : Int) : Nat)) fun i hi => ?_]
      · simp [gl, goalsL, letL]; rfl
      · rw [turn_one]
        simp [r3 k i _ (by omega)]
  dsimp only [List.set]
  refine tw_set (v := .p (.list ((start0 w.length).map .int))) (m' := m) ?_ ?_
  · have q1 : ((w.length : Int) - 1).toNat = w.length - 1 := by omega
    have q2 : -1000 ≤ (w.length : Int) - 1 ∧ (w.length : Int) - 1 ≤ 1000 ∧ [PyData.int 0].length ≤ 1000 := by simp; omega
    have q3 : [PyData.int 1].length + (List.replicate (w.length - 1) [PyData.int 0]).flatten.length ≤ lim := by rw [zeros_eq]; simp; unfold lim; omega
    simp only [ev_bnr, ev_lst, evs_cons, evs_nil, ev_cst, lit_int, dOf_r, bnd_ret', List.length_cons, List.length_nil, if_pos (show 0 + 1 ≤ lim by decide), ev_blt, lk_var, List.getElem?_cons_succ, List.getElem?_cons_zero, lkR_fz, len_sq, ws, Option.map_some, opt_s, bin_sub, bin_lmul, if_pos q2, q1, bin_ladd, if_pos q3, bnd_assoc, dOf_bnd']
    rw [if_pos (show -1000 ≤ (w.length : Int) - 1 ∧ (w.length : Int) - 1 ≤ 1000 ∧ 0 + 1 ≤ 1000 by omega)]
    simp only [Option.map_some, opt_s, bnd_ret', dOf_r]
    rw [bin_ladd, if_pos (show [PyData.int 1].length + (List.replicate (w.length - 1) [PyData.int 0]).flatten.length ≤ lim by rw [zeros_eq]; simp; unfold lim; omega), zeros_eq]
    rfl
  dsimp only [List.set]
  have e0 : rngR (.int 0) (.int (many : Int)) m = ret (rngL 0 many) m := by
    show (if rngOk 0 (many : Int) = true then ret (rngL 0 ((many : Int) - 0).toNat) m else none) = _
    rw [if_pos (rngOk_of (by omega))]; simp
  refine tw_loop (xs := rngL 0 many) (m' := m) (by simp only [evI_rng1, ev_vr, List.getElem?_cons_succ, List.getElem?_cons_zero, varR_fz, dOf_r, bnd_ret', e0])
    (fun i ρ m' => m' = m ∧ ∃ b5 b6 b7 b8 b9 b10, ρ = [some (.fz (.p (.int (L : Int)))), some (.fz (.p (.int (many : Int)))), some (.fz (.p (sq b (w.map .int)))), some (.fz (.p (.list (goalsD gl w.length)))), some (.fz (.p (.list ((stepN gl w.length i (start0 w.length)).map .int)))), b5, b6, b7, b8, b9, b10])
    ⟨rfl, _, _, _, _, _, _, rfl⟩ (fun i x ρ m' hx ⟨e, b5, b6, b7, b8, b9, b10, hρ⟩ => ?_) fun ρ' m' ⟨e, b5, b6, b7, b8, b9, b10, hρ⟩ => ?_
  · subst e hρ
    have sl : (start0 w.length).length = w.length := by simp [start0]; omega
    rw [lturn_one]
    dsimp only [List.set]
    refine tw_own (l := (List.replicate w.length (0 : Int)).map .int) (m' := m') ?_ ?_
    · simp only [ev_bnr, ev_lst, evs_cons, evs_nil, ev_cst, lit_int, dOf_r, bnd_ret', List.length_cons, List.length_nil, if_pos (show 0 + 1 ≤ lim by decide), ev_blt, lk_var, List.getElem?_cons_succ, List.getElem?_cons_zero, lkR_fz, len_sq, ws, Option.map_some, opt_s, bin_lmul, if_pos (show -1000 ≤ (w.length : Int) ∧ (w.length : Int) ≤ 1000 ∧ 0 + 1 ≤ 1000 by omega), Int.toNat_natCast, zeros_eq, bnd_assoc, dOf_bnd']
    dsimp only [List.set]
    refine known_loop _ (gl := gl) (sz := w.length) (by rw [len_sq, ws]) (stepN_len gl i sl) (by simp) _ _ _ _ _ _ _ fun c7 c8 c9 => ?_
    simp only [exB_frz, frzR_ol, bnd_ret', List.getElem?_cons_succ, List.getElem?_cons_zero, List.set_cons_succ, List.set_cons_zero, exB_set, ev_vr, varR_fz, exB_nil]
    rw [← stepN_succ]
    exact tw_ret.mpr ⟨_, rfl, rfl, _, _, _, _, _, _, rfl⟩
  · subst e hρ
    rw [rngL_len]
    simp [cwN, gl, endF]
end
end G

end
section
set_option maxHeartbeats 4000000
namespace G
open PySem PySem.Spec PyProof.Rows L2
section
variable {Γ : Str → Option Fn} {W n : Nat} {m : Ms}
theorem run_llike {f : Str} (h : Γ f = some (.code P.d_llike)) {d e : PyData} {s t : Str} (hd : biD .repr d = some (.str s)) (he : biD .repr e = some (.str t)) : run Γ W (n + 1) f [.p d, .p e] m = ret (.p (.bool (decide (s = t)))) m := by
  rw [run_code h rfl]
  simp [P.d_llike, startR, hd, he]
theorem run_llike_self {f : Str} (h : Γ f = some (.code P.d_llike)) {d : PyData} {s : Str} (hd : biD .repr d = some (.str s)) : run Γ W (n + 1) f [.p d, .p d] m = ret (.p (.bool true)) m := by
  rw [run_llike h hd hd]; simp
theorem run_lshifts3 {f : Str} (h : Γ f = some (.code P.d_lshifts3)) {w : List Int} (hw : w.length ≤ 1000) : run Γ W (n + 1) f [.p (tI w)] m = ret (.p (tN (shfs w))) m := by
  rw [run_code h rfl]
  refine tw_eq (tw_bnd.mpr ?_)
  simp only [P.d_lshifts3, startR, List.map_cons, List.map_nil, List.length_cons, List.length_nil, List.replicate, List.cons_append, List.nil_append]
  have e0 : ∀ (k : Nat) (m : Ms), k ≤ 1000 → rngR (.int 0) (.int (k : Int)) m = ret (rngL 0 k) m := fun k m hk => by
    show (if rngOk 0 (k : Int) = true then ret (rngL 0 ((k : Int) - 0).toNat) m else none) = _
    rw [if_pos (rngOk_of (by omega))]; simp
  refine tw_own (l := []) (m' := m) (by simp) ?_
  dsimp only [List.set]
  refine tw_loop (xs := rngL 0 w.length) (m' := m) (by simp [e0 _ _ hw])
    (fun i ρ m' => m' = m ∧ ∃ b2 b3, ρ = [some (.fz (.p (tI w))), some (.ol (((List.range i).filter (agr w)).map fun (s : Nat) => PyData.int (s : Int))), b2, b3])
    ⟨rfl, _, _, rfl⟩ (fun i x ρ m' hx ⟨e, b2, b3, hρ⟩ => ?_) fun ρ' m' ⟨e, b2, b3, hρ⟩ => ?_
  · subst e hρ
    have hi : i < w.length := by have := (List.getElem?_eq_some_iff.mp hx).1; simpa using this
    have ex : x = .int (i : Int) := by
      rw [rngL_zero, List.getElem?_map, List.getElem?_range hi] at hx
      exact (Option.some.inj hx).symm
    subst ex
    rw [lturn_one]
    dsimp only [List.set]
    have e1 : (w.length : Int) - (i : Int) = ((w.length - i : Nat) : Int) := by omega
    have ec : ∀ m, ev (run Γ W n) (.cmp .Eq (.comp (.var 3) (.one 3) (.rng1 (.bin .Sub (.bi .len (.var 0)) (.var 2))) (.yes (.cmp .NotEq (.idx (.var 0) (.var 3)) (.idx (.var 0) (.bin .Add (.var 3) (.var 2)))))) (.lst .nil)) [some (.fz (.p (tI w))), some (.ol (((List.range i).filter (agr w)).map fun (s : Nat) => PyData.int (s : Int))), some (.fz (.p (.int (i : Int)))), b3] m = ret (.p (.bool (agr w i))) m := fun m => by
      simp [e1, e0 _ _ (show w.length - i ≤ 1000 by omega), show w.length - i ≤ lim by unfold lim; omega, rngL_zero]
      rw [compGo_sel (fun k : Nat => !decide (w.getD k 0 = w.getD (k + i) 0)) (fun (s : Nat) => PyData.int (s : Int)) fun k hk => ?_]
      · have := eqD_lN ((List.range (w.length - i)).filter fun k : Nat => !decide (w.getD k 0 = w.getD (k + i) 0)) []
        simp only [List.map_nil] at this
        simp only [bnd_ret', dOf_r, this, Option.map_some, opt_s, show 0 ≤ lim by decide, if_true]
        congr 3
        rw [Bool.eq_iff_iff, decide_eq_true_iff, List.filter_eq_nil_iff, agr, List.all_eq_true]
        simp
      · have hk : k < w.length - i := List.mem_range.mp hk
        have q1 := idx_sq true w k (by omega)
        have q2 := idx_sq true w (k + i) (by omega)
        rw [Int.natCast_add] at q2
        have q1' : L2.atI (w.map PyData.int) (k : Int) = some (.int (w.getD k 0)) := q1
        have q2' : L2.atI (w.map PyData.int) ((k : Int) + (i : Int)) = some (.int (w.getD (k + i) 0)) := q2
        simp [q1', q2']
    cases q : agr w i with
    | true =>
      refine tw_then (m' := m') (by rw [ec, q]) ?_
      simp only [exB_app, ed_eq, ev_vr, List.getElem?_cons_succ, List.getElem?_cons_zero, varR_fz, dOf_r, bnd_ret', appR_ol, List.set_cons_succ, List.set_cons_zero, exB_nil]
      have la : (((List.range i).filter (agr w)).map fun (s : Nat) => PyData.int (s : Int)).length < lim := by
        rw [List.length_map]
        have := List.length_filter_le (agr w) (List.range i)
        simp at this
        unfold lim; omega
      rw [if_pos la]
      refine tw_ret.mpr (tw_nil (cl := run Γ W n) (W := W) ⟨_, rfl, rfl, some (.fz (.p (.int (i : Int)))), b3, ?_⟩)
      rw [List.range_succ, List.filter_append, List.map_append]; simp [q]
    | false =>
      refine tw_skip (m' := m') (by rw [ec, q]) (tw_nil ?_)
      exact ⟨_, rfl, rfl, _, _, by rw [List.range_succ, List.filter_append]; simp [q]; exact ⟨rfl, rfl⟩⟩
  · subst e hρ
    rw [rngL_len]
    simp [endF]
    rfl
theorem run_lhas {f : Str} (h : Γ f = some (.code P.d_lhas)) {r w : List Int} (hr : r.length ≤ 1000) (hw : w.length ≤ 1000) : run Γ W (n + 1) f [.p (tI r), .p (tI w)] m = ret (.p (.bool (hasB w r))) m := by
  rw [run_code h rfl]
  have e0 : ∀ m, rngR (.int 0) (.int ((r.length : Int) - (w.length : Int) + 1)) m = ret (rngL 0 (r.length + 1 - w.length)) m := fun m => by
    show (if rngOk 0 ((r.length : Int) - (w.length : Int) + 1) = true then ret (rngL 0 ((r.length : Int) - (w.length : Int) + 1 - 0).toNat) m else none) = _
    rw [if_pos (rngOk_of (by omega))]
    congr 2
    omega
  simp [P.d_lhas, startR, e0, show r.length + 1 - w.length ≤ lim by unfold lim; omega, rngL_zero]
  rw [compGo_sel (fun p : Nat => decide ((r.drop p).take w.length = w)) (fun (s : Nat) => PyData.int (s : Int)) fun p hp => ?_]
  · have := eqD_lN ((List.range (r.length + 1 - w.length)).filter fun p : Nat => decide ((r.drop p).take w.length = w)) []
    simp only [List.map_nil] at this
    simp only [bnd_ret', dOf_r, this, Option.map_some, opt_s, show 0 ≤ lim by decide, if_true]
    simp [endF, hasB]
    congr 3
    rw [Bool.eq_iff_iff]
    simp
  · have e2 : (p : Int) + (w.length : Int) = ((p + w.length : Nat) : Int) := by omega
    have e3 : slcD (tI r) (some (p : Int)) (some ((p : Int) + (w.length : Int))) = some (tI ((r.drop p).take w.length)) := by
      rw [e2]
      show some (PyData.tuple (cutD _ _ _)) = _
      rw [cut_mid, show p + w.length - p = w.length by omega, ← List.map_drop, ← List.map_take]
    have e4 : biD .len (tI w) = some (.int (w.length : Int)) := by rw [tI, biD_len_t, List.length_map]
    simp only [turn_one, evC_yes, ev_cmp, ev_slc, ev_bnr, ev_blt, ev_vr, lk_var, List.getElem?_cons_succ, List.getElem?_cons_zero, List.set_cons_succ, List.set_cons_zero, varR_fz, lkR_fz, dOf_r, bnd_ret', evO_yes, intOf_int, Option.map_some, opt_s, e4, bin_add, e3, bnd_assoc, dOf_bnd', cmp_eq, eqD_tI, boolOf_bool]
theorem run_lwords {f : Str} (h : Γ f = some (.code P.d_lwords)) {L k : Nat} (hL : L ≤ 1000) (hk : k ≤ 1000) (hs : L ^ k ≤ 1000) (h1 : 1 ≤ L) : run Γ W (n + 1) f [.p (.int (L : Int)), .p (.int (k : Int))] m = ret (.p (.list ((rows (letL L) k).map tI))) m := by
  rw [run_code h rfl]
  refine tw_eq (tw_bnd.mpr ?_)
  simp only [P.d_lwords, startR, List.map_cons, List.map_nil, List.length_cons, List.length_nil, List.replicate, List.cons_append, List.nil_append]
  have e0 : ∀ (k : Nat) (m : Ms), k ≤ 1000 → rngR (.int 0) (.int (k : Int)) m = ret (rngL 0 k) m := fun k m hk => by
    show (if rngOk 0 (k : Int) = true then ret (rngL 0 ((k : Int) - 0).toNat) m else none) = _
    rw [if_pos (rngOk_of (by omega))]; simp
  have rl : ∀ i, i ≤ k → (rows (letL L) i).length ≤ 1000 := fun i hi => by
    rw [rows_len, letL_len]
    exact Nat.le_trans (Nat.pow_le_pow_right h1 hi) hs
  refine tw_set (v := .p (.list [.tuple []])) (m' := m) (by simp [show 1 ≤ lim by decide]) ?_
  dsimp only [List.set]
  refine tw_loop (xs := rngL 0 k) (m' := m) (by simp [e0 _ _ hk])
    (fun i ρ m' => m' = m ∧ ∃ b3 b4 b5 b6, ρ = [some (.fz (.p (.int (L : Int)))), some (.fz (.p (.int (k : Int)))), some (.fz (.p (.list ((rows (letL L) i).map tI)))), b3, b4, b5, b6])
    ⟨rfl, _, _, _, _, rfl⟩ (fun i x ρ m' hx ⟨e, b3, b4, b5, b6, hρ⟩ => ?_) fun ρ' m' ⟨e, b3, b4, b5, b6, hρ⟩ => ?_
  · subst e hρ
    have hi : i < k := by have := (List.getElem?_eq_some_iff.mp hx).1; simpa using this
    rw [lturn_one]
    dsimp only [List.set]
    refine tw_set (v := .p (.list [])) (m' := m') (by simp [show 0 ≤ lim by decide]) ?_
    dsimp only [List.set]
    refine tw_loop (xs := (rows (letL L) i).map tI) (m' := m') (by simp)
      (fun j ρ m'' => m'' = m' ∧ ∃ b3 b5 b6, ρ = [some (.fz (.p (.int (L : Int)))), some (.fz (.p (.int (k : Int)))), some (.fz (.p (.list ((rows (letL L) i).map tI)))), b3, some (.fz (.p (.list ((((rows (letL L) i).take j).flatMap fun r => (letL L).map fun a => r ++ [a]).map tI)))), b5, b6])
      ⟨rfl, _, _, _, rfl⟩ (fun j y ρ m'' hy ⟨e, b3, b5, b6, hρ⟩ => ?_) fun ρ' m'' ⟨e, b3, b5, b6, hρ⟩ => ?_
    · subst e hρ
      rw [List.getElem?_map] at hy
      cases hr : (rows (letL L) i)[j]? with
      | none => rw [hr] at hy; cases hy
      | some r =>
        rw [hr] at hy
        cases hy
        have hm := mem_rows.mp (List.mem_of_getElem? hr)
        have hj : j < (rows (letL L) i).length := (List.getElem?_eq_some_iff.mp hr).1
        rw [lturn_one]
        dsimp only [List.set]
        have et : (rows (letL L) i).take (j + 1) = (rows (letL L) i).take j ++ [r] := by rw [List.take_add_one, hr]; rfl
        have ef : ∀ t : List (List Int), (t.flatMap fun r => (letL L).map fun a => r ++ [a]).length = t.length * L := fun t => by
          rw [List.length_flatMap]
          simp only [List.length_map, letL_len, List.map_const']
          rw [List.sum_replicate_nat]
        have lt : ((rows (letL L) i).take j).length * L + L ≤ lim := by
          have h2 : ((rows (letL L) i).take j).length + 1 ≤ (rows (letL L) i).length := by simp; omega
          have h3 : (((rows (letL L) i).take j).length + 1) * L ≤ (rows (letL L) i).length * L := Nat.mul_le_mul_right _ h2
          have h4 : (rows (letL L) i).length * L = (rows (letL L) (i + 1)).length := by rw [rows_len, rows_len, letL_len, Nat.pow_succ]
          have := rl (i + 1) (by omega)
          rw [Nat.add_mul] at h3
          unfold lim; omega
        refine tw_set (v := .p (.list ((((rows (letL L) i).take (j + 1)).flatMap fun r => (letL L).map fun a => r ++ [a]).map tI))) (m' := m'') ?_ (tw_nil ⟨_, rfl, rfl, _, _, _, rfl⟩)
        have lr : r.length + 1 ≤ lim := by unfold lim; omega
        simp [e0 _ _ hL, show L ≤ lim by unfold lim; omega, rngL_zero]
        rw [compGo_all (fun a : Nat => tI (r ++ [(a : Int)])) fun a ha => ?_]
        · have la : ((((rows (letL L) i).take j).flatMap fun r => (letL L).map fun a => r ++ [a]).map tI).length + ((List.range L).map fun a : Nat => tI (r ++ [(a : Int)])).length ≤ lim := by
            rw [List.length_map, ef, List.length_map, List.length_range]; exact lt
          have lq : (List.take j (List.map (fun _ => L) (rows (letL L) i))).sum = ((rows (letL L) i).take j).length * L := by
            rw [← List.map_take, List.map_const', List.sum_replicate_nat]
          have lz : (List.take j (List.map (fun _ => L) (rows (letL L) i))).sum + ((List.range L).map fun a : Nat => tI (r ++ [(a : Int)])).length ≤ lim := by
            rw [lq, List.length_map, List.length_range]; exact lt
          rw [bnd_ret', if_pos lz, et, List.flatMap_append]
          simp [letL]
          rfl
        · simp [show 1 ≤ lim by decide, lr, tI]
    · subst e hρ
      rw [List.length_map, List.take_length]
      simp only [exB_set, ev_vr, List.getElem?_cons_succ, List.getElem?_cons_zero, varR_fz, bnd_ret', List.set_cons_succ, List.set_cons_zero, exB_nil]
      exact tw_ret.mpr ⟨_, rfl, rfl, _, _, _, _, rfl⟩
  · subst e hρ
    rw [rngL_len]
    simp [endF]
theorem tw_lword3 (h : Γ "_law_draw" = some .draw) (hw : Γ "_law_word" = some (.code P.d_lword3)) {L many k : Nat} (h0 : 1 ≤ L) (h1 : L ≤ 1000) (h2 : 1 ≤ many) (h3 : many ≤ 1000) (hk : k < 1000000) (hd : Dr k m) :
    tw (run Γ W (n + 4) "_law_word" [.drw, .p (.int (L : Int)), .p (.int (many : Int))] m) fun v m' => (∃ w : List Int, v = .p (tI w) ∧ w.length = many ∧ ∀ x ∈ w, 0 ≤ x ∧ x < L) ∧ Dr (k + many + 2) m' := by
  rw [run_code hw rfl]
  refine tw_bnd.mpr ?_
  simp only [P.d_lword3, startR, List.map_cons, List.map_nil, List.length_cons, List.length_nil, List.replicate, List.cons_append, List.nil_append]
  have e0 : ∀ m, rngR (.int 0) (.int (many : Int)) m = ret (rngL 0 many) m := fun m => by
    show (if rngOk 0 (many : Int) = true then ret (rngL 0 ((many : Int) - 0).toNat) m else none) = _
    rw [if_pos (rngOk_of (by omega))]; simp
  have ml : many ≤ lim := by unfold lim; omega
  refine tw_par2T (P := fun v m' => (∃ w : List Int, v = .p (.list (w.map .int)) ∧ w.length = many ∧ ∀ x ∈ w, 0 ≤ x ∧ x < L) ∧ Dr (k + many) m') (P' := fun u v m' => (∃ w : List Int, u = .p (.list (w.map .int)) ∧ w.length = many ∧ ∀ x ∈ w, 0 ≤ x ∧ x < L) ∧ (∃ y : Int, v = .p (.int y)) ∧ Dr (k + many + 1) m') ?_ ?_ ?_
  · simp [e0, ml]
    refine tw_seq (tw_draws h (l := (L : Int)) (k := k) (by intros; rfl) (by intros; simp) (by omega) (by omega) (rngL 0 many) (by simp; omega) hd (Q := fun ys m' => ∃ w : List Int, ys = w.map .int ∧ w.length = many ∧ (∀ x ∈ w, 0 ≤ x ∧ x < L) ∧ Dr (k + many) m') fun w m' a1 a2 a3 => ⟨w, rfl, by simpa using a1, a2, a3.mono (by simp)⟩) fun ys m' ⟨w, e, a1, a2, a3⟩ => ?_
    subst e
    exact tw_ret.mpr ⟨⟨w, rfl, a1, a2⟩, a3⟩
  · rintro u m' ⟨hu, d1⟩
    simp
    exact tw_draw h (by omega) (by omega) (by omega) d1 fun i m' a1 a2 a3 => ⟨hu, ⟨i, rfl⟩, a3⟩
  rintro u v m1 ⟨⟨w, rfl, wl, wr⟩, ⟨way, rfl⟩, d1⟩
  dsimp only [List.set]
  refine tw_setT (P := fun v m' => (∃ part : Nat, v = .p (.int (part : Int)) ∧ 1 ≤ part ∧ part ≤ many) ∧ Dr (k + many + 2) m') ?_ fun v m2 ⟨⟨part, e, p1, p2⟩, d2⟩ => ?_
  · simp
    refine tw_seq (P := fun v m' => (∃ c : Nat, v = .int (c : Int) ∧ c < many) ∧ Dr (k + many + 2) m') (tw_dOf (tw_draw h (by omega) (by omega) (by omega) d1 fun c m' a1 a2 a3 => ⟨_, rfl, ⟨c.toNat, by rw [Int.toNat_of_nonneg a1], by omega⟩, a3⟩)) fun v m' ⟨⟨c, e, hc⟩, d1⟩ => ?_
    subst e
    exact tw_ret.mpr ⟨⟨c + 1, by simp [Int.add_comm], by omega, by omega⟩, d1⟩
  subst e
  dsimp only [List.set]
  have fin : ∀ (w : List Int) (b6 : Option Slot), w.length = many → (∀ x ∈ w, 0 ≤ x ∧ x < L) → tw (exB (run Γ W (n + 3)) W (.cons (.rt (.bi .tuple (.var 4))) .nil) [some (.fz .drw), some (.fz (.p (.int (L : Int)))), some (.fz (.p (.int (many : Int)))), some (.fz (.p (.int (part : Int)))), some (.fz (.p (.list (w.map .int)))), some (.fz (.p (.int way))), b6] m2) fun fl m' => tw (endF fl m') fun v m' => (∃ w : List Int, v = .p (tI w) ∧ w.length = many ∧ ∀ x ∈ w, 0 ≤ x ∧ x < L) ∧ Dr (k + many + 2) m' := fun w b6 wl wr => by
    refine tw_rt (v := .p (tI w)) (m' := m2) (by simp) ?_
    exact tw_ret.mpr ⟨⟨w, rfl, wl, wr⟩, d2⟩
  have part2 : ∀ (w : List Int) (b6 : Option Slot), w.length = many → (∀ x ∈ w, 0 ≤ x ∧ x < L) → tw (exB (run Γ W (n + 3)) W (.cons (.ite (.and (.cmp .Eq (.var 5) (.cst (.int 2))) (.cons (.cmp .LtE (.bin .Mult (.cst (.int 2)) (.var 3)) (.var 2)) .nil)) (.cons (.set 4 (.bin .Add (.slc (.var 4) .no (.yes (.bin .Sub (.var 2) (.var 3)))) (.slc (.var 4) .no (.yes (.var 3))))) .nil) .nil) (.cons (.rt (.bi .tuple (.var 4))) .nil)) [some (.fz .drw), some (.fz (.p (.int (L : Int)))), some (.fz (.p (.int (many : Int)))), some (.fz (.p (.int (part : Int)))), some (.fz (.p (.list (w.map .int)))), some (.fz (.p (.int way))), b6] m2) fun fl m' => tw (endF fl m') fun v m' => (∃ w : List Int, v = .p (tI w) ∧ w.length = many ∧ ∀ x ∈ w, 0 ≤ x ∧ x < L) ∧ Dr (k + many + 2) m' := fun w b6 wl wr => by
    have z : ∀ i : Int, (2 : Int) * (i : Int) = 2 * i := fun _ => rfl
    by_cases q : way = 2 ∧ 2 * part ≤ many
    · obtain ⟨q1, q2⟩ := q
      have q2' : 2 * (part : Int) ≤ (many : Int) := by omega
      refine tw_then (m' := m2) (by simp [q1, q2', cmpD]) ?_
      have e1 : (many : Int) - (part : Int) = ((many - part : Nat) : Int) := by omega
      have lt : (List.take (many - part) (w.map PyData.int)).length + (List.take part (w.map PyData.int)).length ≤ lim := by simp; unfold lim; omega
      have e2 : ev (run Γ W (n + 3)) (.bin .Add (.slc (.var 4) .no (.yes (.bin .Sub (.var 2) (.var 3)))) (.slc (.var 4) .no (.yes (.var 3)))) [some (.fz .drw), some (.fz (.p (.int (L : Int)))), some (.fz (.p (.int (many : Int)))), some (.fz (.p (.int (part : Int)))), some (.fz (.p (.list (w.map .int)))), some (.fz (.p (.int way))), b6] m2 = ret (.p (.list ((w.take (many - part) ++ w.take part).map .int))) m2 := by
        simp only [ev_bnr, ev_slc, ev_vr, List.getElem?_cons_succ, List.getElem?_cons_zero, varR_fz, dOf_r, bnd_ret', evO_no, evO_yes, bin_sub, e1, Option.map_some, opt_s, intOf_int, slc_l, cut_to, bin_ladd, if_pos lt, List.map_append, List.map_take]
      refine tw_set e2 ?_
      dsimp only [List.set]
      refine tw_nil (cl := run Γ W (n + 3)) (W := W) ?_
      refine fin _ b6 (by simp; omega) fun x hx => ?_
      rcases List.mem_append.mp hx with hx | hx
      · exact wr x (List.mem_of_mem_take hx)
      · exact wr x (List.mem_of_mem_take hx)
    · refine tw_skip (m' := m2) ?_ (fin w b6 wl wr)
      by_cases q1 : way = 2
      · have : ¬ 2 * (part : Int) ≤ (many : Int) := fun z => q ⟨q1, by omega⟩
        simp [q1, this, cmpD]
      · simp [q1]
  by_cases q : way = 1
  · refine tw_then (m' := m2) (by simp [q]) ?_
    refine tw_set (v := .p (.list (((List.range many).map fun i => w.getD (i % part) 0).map .int))) (m' := m2) ?_ ?_
    · simp [e0, ml, rngL_zero]
      rw [compGo_all (fun i : Nat => PyData.int (w.getD (i % part) 0)) fun i hi => ?_]
      · simp
        rfl
      · have z0 : (0 : Int) < (part : Int) := by omega
        have z1 : (i : Int) % (part : Int) = ((i % part : Nat) : Int) := by rw [Int.natCast_emod]
        have z2 : i % part < w.length := by have := Nat.mod_lt i (show part > 0 by omega); omega
        have z3 : L2.atI (w.map PyData.int) ((i : Int) % (part : Int)) = some (.int (w.getD (i % part) 0)) := by
          rw [z1, at_nat]; simp [z2]
        rw [turn_one]
        simp only [evC_no, bnd_ret', if_true, ev_ix, lk_var, List.getElem?_cons_succ, List.getElem?_cons_zero, List.set_cons_succ, List.set_cons_zero, lkR_fz, ev_bnr, ev_blt, ev_vr, varR_fz, bi_int, Option.map_some, opt_s, dOf_r, bin_mod, if_pos z0, idx_l, z3]
    dsimp only [List.set]
    refine tw_nil (cl := run Γ W (n + 3)) (W := W) ?_
    refine part2 _ _ (by simp) fun x hx => ?_
    obtain ⟨i, hi, rfl⟩ := List.mem_map.mp hx
    have z2 : i % part < w.length := by have := Nat.mod_lt i (show part > 0 by omega); omega
    simp [z2]
    exact wr _ (List.getElem_mem z2)
  · exact tw_skip (m' := m2) (by simp [q]) (part2 w none wl wr)
end
end G

end
section
set_option maxHeartbeats 4000000
namespace G
def aN (w l : List Int) (n : Nat) : Nat := ((rows l n).filter fun r => !hasB w r).length
def bN (w l : List Int) (n : Nat) : Nat := ((rows l n).filter fun r => hasB w r && !hasB w r.dropLast).length
theorem hasB_pre {w x y : List Int} (h : hasB w x = true) (q : x <+: y) : hasB w y = true := hasB_iff.mpr ((hasB_iff.mp h).trans q.isInfix)
theorem filter_split {α : Type} (p q : α → Bool) : ∀ l : List α, (∀ x ∈ l, p x = false → q x = true) → (l.filter q).length = (l.filter fun x => !p x).length + (l.filter fun x => p x && q x).length
  | [], _ => rfl
  | x :: l, h => by
    have ih := filter_split p q l fun y hy => h y (by simp [hy])
    have hx := h x (by simp)
    cases e : p x
    · simp [e, hx e, ih]; omega
    · cases f : q x <;> simp [e, f, ih] <;> omega
theorem len_filter_flat {α β : Type} (p : β → Bool) (q : α → Bool) (k : Nat) (f : α → List β) : ∀ l : List α, (∀ a ∈ l, ∀ b ∈ f a, p b = q a) → (∀ a ∈ l, (f a).length = k) → ((l.flatMap f).filter p).length = k * (l.filter q).length
  | [], _, _ => by simp
  | a :: l, h, g => by
    have ih := len_filter_flat p q k f l (fun x hx => h x (by simp [hx])) fun x hx => g x (by simp [hx])
    rw [List.flatMap_cons, List.filter_append, List.length_append, ih]
    have ha := h a (by simp)
    have ga := g a (by simp)
    cases e : q a
    · have : (f a).filter p = [] := List.filter_eq_nil_iff.mpr fun b hb => by rw [ha b hb, e]; simp
      rw [this, List.filter_cons, if_neg (by simp [e])]
      simp
    · have : (f a).filter p = f a := List.filter_eq_self.mpr fun b hb => by rw [ha b hb, e]
      rw [this, ga, List.filter_cons, if_pos e, List.length_cons, Nat.mul_succ]
      omega
theorem ab_step (w l : List Int) (n : Nat) : l.length * aN w l n = aN w l (n + 1) + bN w l (n + 1) := by
  have h1 := filter_split (fun r => hasB w r) (fun r : List Int => !hasB w r.dropLast) (rows l (n + 1)) fun r _ hr => by
    cases e : hasB w r.dropLast
    · rfl
    · rw [hasB_pre e (List.dropLast_prefix r)] at hr; cases hr
  have h2 := len_filter_flat (fun r : List Int => !hasB w r.dropLast) (fun r => !hasB w r) l.length (fun r => l.map fun a => r ++ [a]) (rows l n) (fun r _ x hx => by
    obtain ⟨a, _, rfl⟩ := List.mem_map.mp hx
    simp) (fun r _ => by simp)
  unfold aN bN
  rw [← h1, ← h2]
  rfl
theorem rows_nodup {l : List Int} (hl : l.Nodup) : ∀ n, (rows l n).Nodup
  | 0 => by simp [rows]
  | n + 1 => by
    rw [rows_cons]
    have ih := rows_nodup hl n
    have key : ∀ t : List Int, t.Nodup → (t.flatMap fun a => (rows l n).map (a :: ·)).Nodup := by
      intro t
      induction t with
      | nil => intro _; simp
      | cons a t iht =>
        intro h
        obtain ⟨h1, h2⟩ := List.nodup_cons.mp h
        rw [List.flatMap_cons, List.nodup_append]
        refine ⟨?_, iht h2, ?_⟩
        · refine List.pairwise_map.mpr (ih.imp fun h e => h ?_)
          exact (List.cons.inj e).2
        · intro x hx y hy e
          subst e
          obtain ⟨r, _, rfl⟩ := List.mem_map.mp hx
          obtain ⟨b, hb, hy⟩ := List.mem_flatMap.mp hy
          obtain ⟨r', _, e⟩ := List.mem_map.mp hy
          exact h1 ((List.cons.inj e).1 ▸ hb)
    exact key l hl
theorem drop_iff {w : List Int} {s : Nat} : agr w s = true ↔ w.drop s = w.take (w.length - s) := by
  rw [agr_iff]
  constructor
  · intro h
    refine List.ext_getElem (by simp) fun i h1 h2 => ?_
    have hi : i + s < w.length := by simp at h1; omega
    have := h i hi
    rw [List.getElem_drop, List.getElem_take]
    simp [List.getD_eq_getElem?_getD, hi, show i < w.length by omega] at this
    rw [← this]
    congr 1
    omega
  · intro h i hi
    have := congrArg (fun x => x.getD i 0) h
    simp [List.getD_eq_getElem?_getD, List.getElem?_take, show i < w.length - s by omega] at this
    rw [List.getD_eq_getElem?_getD, List.getD_eq_getElem?_getD, Nat.add_comm i s, List.getElem?_eq_getElem (show s + i < w.length by omega), List.getElem?_eq_getElem (show i < w.length by omega)]
    exact this
theorem shift_join {w : List Int} {s : Nat} (h : agr w s = true) : w.take s ++ w = w ++ w.drop (w.length - s) := by
  have e := drop_iff.mp h
  calc w.take s ++ w = w.take s ++ (w.take (w.length - s) ++ w.drop (w.length - s)) := by rw [List.take_append_drop]
    _ = (w.take s ++ w.drop s) ++ w.drop (w.length - s) := by rw [← e, List.append_assoc]
    _ = _ := by rw [List.take_append_drop]
theorem first_end {w x : List Int} (h : hasB w x = true) (q : hasB w x.dropLast = false) : w <:+ x := by
  obtain ⟨p, r, e⟩ := hasB_iff.mp h
  rcases List.eq_nil_or_concat r with rfl | ⟨r', a, rfl⟩
  · exact ⟨p, by simpa using e⟩
  · exfalso
    have : hasB w x.dropLast = true := hasB_iff.mpr ⟨p, r', by rw [← e]; simp [← List.append_assoc]⟩
    rw [q] at this; cases this
def fe (w x : List Int) : Nat := ((List.range (x.length + 1)).find? fun e => hasB w (x.take e)).getD 0
theorem fe_spec {w x : List Int} (h : hasB w x = true) : fe w x ≤ x.length ∧ hasB w (x.take (fe w x)) = true ∧ ∀ e, e < fe w x → hasB w (x.take e) = false := by
  unfold fe
  cases q : (List.range (x.length + 1)).find? fun e => hasB w (x.take e) with
  | none =>
    have := List.find?_eq_none.mp q x.length (by simp)
    simp [h] at this
  | some e =>
    have h1 := List.find?_some q
    have h2 := List.mem_of_find?_eq_some q
    simp at h2
    refine ⟨by simpa using h2 |> fun h => Nat.le_of_lt_succ h, h1, fun e' he => ?_⟩
    have he : e' < e := he
    obtain ⟨as, bs, e1, e2⟩ := (List.find?_eq_some_iff_append.mp q).2
    have hm : e' ∈ as := by
      have hr : e' ∈ List.range (x.length + 1) := by simp; omega
      rw [e1] at hr
      have hp : (List.range (x.length + 1)).Pairwise (· < ·) := List.pairwise_lt_range
      rw [e1] at hp
      rcases List.mem_append.mp hr with hr | hr
      · exact hr
      · have := (List.pairwise_append.mp hp).2.1
        rcases List.mem_cons.mp hr with hr | hr
        · omega
        · have := (List.pairwise_cons.mp this).1 e' hr; omega
    simpa using e2 e' hm
theorem fe_eq {w x : List Int} {e : Nat} (h : hasB w x = true) (h1 : hasB w (x.take e) = true) (h2 : ∀ e', e' < e → hasB w (x.take e') = false) : fe w x = e := by
  obtain ⟨f1, f2, f3⟩ := fe_spec h
  rcases Nat.lt_trichotomy (fe w x) e with q | q | q
  · rw [h2 _ q] at f2; cases f2
  · exact q
  · rw [f3 _ q] at h1; cases h1
theorem dropLast_take {x : List Int} {e : Nat} (h : e + 1 ≤ x.length) : (x.take (e + 1)).dropLast = x.take e := by
  rw [List.dropLast_eq_take, List.length_take, Nat.min_eq_left h, List.take_take]
  congr 1
  omega
theorem hasB_self (w r : List Int) : hasB w (r ++ w) = true := hasB_iff.mpr ⟨r, [], by simp⟩
theorem hasB_short {w x : List Int} (h : x.length < w.length) : hasB w x = false := by
  rw [Bool.eq_false_iff]
  intro q
  have := (hasB_iff.mp q).length_le
  omega
theorem part_eq {w l : List Int} (hl : l.Nodup) (hw : ∀ x ∈ w, x ∈ l) {n s : Nat} (hs : s ∈ shfs w) : (((rows l n).filter fun r => !hasB w r).filter fun r => decide (fe w (r ++ w) = n + w.length - s)).length = bN w l (n + w.length - s) := by
  obtain ⟨s1, s2⟩ := mem_shfs.mp hs
  unfold bN
  have perm : ((((rows l n).filter fun r => !hasB w r).filter fun r => decide (fe w (r ++ w) = n + w.length - s)).map fun r => (r ++ w).take (n + w.length - s)).Perm ((rows l (n + w.length - s)).filter fun r => hasB w r && !hasB w r.dropLast) := by
    refine (List.perm_ext_iff_of_nodup ?_ (List.Nodup.sublist List.filter_sublist (rows_nodup hl _))).mpr fun x => ?_
    · refine List.pairwise_map.mpr ((List.Nodup.sublist List.filter_sublist (List.Nodup.sublist List.filter_sublist (rows_nodup hl n))).imp_of_mem fun {a b} ha hb h e => h ?_)
      have la := (mem_rows.mp (List.mem_filter.mp (List.mem_filter.mp ha).1).1).1
      have lb := (mem_rows.mp (List.mem_filter.mp (List.mem_filter.mp hb).1).1).1
      have := congrArg (List.take n) e
      rw [List.take_take, List.take_take, Nat.min_eq_left (by omega)] at this
      rwa [List.take_left' la, List.take_left' lb] at this
    · simp only [List.mem_map, List.mem_filter, Bool.and_eq_true, Bool.not_eq_true', decide_eq_true_eq]
      constructor
      · rintro ⟨r, ⟨⟨h1, h2⟩, h3⟩, rfl⟩
        obtain ⟨l1, l2⟩ := mem_rows.mp h1
        obtain ⟨f1, f2, f3⟩ := fe_spec (hasB_self w r)
        rw [h3] at f1 f2 f3
        have ll : (r ++ w).length = n + w.length := by rw [List.length_append, l1]
        obtain ⟨e, he⟩ : ∃ e, n + w.length - s = e + 1 := ⟨n + w.length - s - 1, by omega⟩
        refine ⟨mem_rows.mpr ⟨by rw [List.length_take, ll]; omega, fun a ha => ?_⟩, f2, ?_⟩
        · rcases List.mem_append.mp (List.mem_of_mem_take ha) with ha | ha
          · exact l2 a ha
          · exact hw a ha
        · rw [he, dropLast_take (by omega)]
          exact f3 e (by omega)
      · rintro ⟨h1, h2, h3⟩
        obtain ⟨l1, l2⟩ := mem_rows.mp h1
        obtain ⟨y, hy⟩ := first_end h2 h3
        have yl : y.length + w.length = n + w.length - s := by rw [← l1, ← hy, List.length_append]
        have hr : x.take n = y ++ w.take s := by
          rw [← hy, List.take_append, List.take_of_length_le (by omega)]
          congr 2
          omega
        have hx : (x.take n ++ w).take (n + w.length - s) = x := by
          rw [hr, List.append_assoc, shift_join s2, ← List.append_assoc, hy, List.take_left' l1]
        refine ⟨x.take n, ⟨⟨mem_rows.mpr ⟨by rw [List.length_take]; omega, fun a ha => l2 a (List.mem_of_mem_take ha)⟩, ?_⟩, ?_⟩, hx⟩
        · have hp : x.take n <+: x.dropLast := by
            rw [List.dropLast_eq_take]
            exact List.take_prefix_take_left (by omega)
          cases q : hasB w (x.take n)
          · rfl
          · rw [hasB_pre q hp] at h3; cases h3
        · refine fe_eq (hasB_self _ _) (by rw [hx]; exact h2) fun e' he' => ?_
          have hp : (x.take n ++ w).take e' <+: x.dropLast := by
            have : (x.take n ++ w).take e' = x.take e' := by
              conv => rhs; rw [← hx]
              rw [List.take_take, Nat.min_eq_left (by omega)]
            rw [this, List.dropLast_eq_take]
            exact List.take_prefix_take_left (by omega)
          cases q : hasB w ((x.take n ++ w).take e')
          · rfl
          · rw [hasB_pre q hp] at h3; cases h3
  have := perm.length_eq
  rwa [List.length_map] at this
theorem part_shift {w l : List Int} {n : Nat} {r : List Int} (hr : r ∈ rows l n) (h : hasB w r = false) (hw : w ≠ []) : ∃ s ∈ shfs w, fe w (r ++ w) = n + w.length - s := by
  obtain ⟨l1, _⟩ := mem_rows.mp hr
  have wl : 0 < w.length := List.length_pos_iff.mpr hw
  obtain ⟨f1, f2, f3⟩ := fe_spec (hasB_self w r)
  have ll : (r ++ w).length = n + w.length := by rw [List.length_append, l1]
  have hn : n < fe w (r ++ w) := by
    rcases Nat.lt_or_ge n (fe w (r ++ w)) with q | q
    · exact q
    · exfalso
      have : (r ++ w).take (fe w (r ++ w)) <+: r := by
        rw [List.take_append_of_le_length (by omega)]
        exact List.take_prefix _ _
      rw [hasB_pre f2 this] at h; cases h
  obtain ⟨e, he⟩ : ∃ e, fe w (r ++ w) = e + 1 := ⟨fe w (r ++ w) - 1, by omega⟩
  have hs := first_end f2 (by rw [he, dropLast_take (by omega)]; exact f3 e (by omega))
  have hle := hs.length_le
  rw [List.length_take, ll, Nat.min_eq_left (by omega)] at hle
  refine ⟨n + w.length - fe w (r ++ w), mem_shfs.mpr ⟨by omega, drop_iff.mpr ?_⟩, by omega⟩
  generalize hS : n + w.length - fe w (r ++ w) = s at *
  have hfe : fe w (r ++ w) = n + w.length - s := by omega
  have e1 := List.suffix_iff_eq_drop.mp hs
  rw [hfe] at e1
  have e2 : (r ++ w).take (n + w.length - s) = r ++ w.take (w.length - s) := by
    rw [List.take_append, List.take_of_length_le (by omega), l1]
    congr 2
    omega
  rw [e2] at e1
  have e3 : (r ++ w.take (w.length - s)).length - w.length = n - s := by rw [List.length_append, List.length_take]; omega
  rw [e3, List.drop_append_of_le_length (by omega)] at e1
  have := congrArg (List.drop s) e1
  rw [List.drop_left' (by rw [List.length_drop, l1]; omega)] at this
  exact this
theorem sum_parts {α : Type} (f : α → Nat) : ∀ (l : List α) (S : List Nat), S.Nodup → (∀ a ∈ l, ∃ s ∈ S, f a = s) → l.length = (S.map fun s => (l.filter fun a => decide (f a = s)).length).sum
  | [], S, _, _ => by
    simp [List.map_const', List.sum_replicate_nat]
  | a :: l, S, nd, h => by
    have ih := sum_parts f l S nd fun b hb => h b (by simp [hb])
    obtain ⟨s, hs, e⟩ := h a (by simp)
    rw [List.length_cons, ih]
    clear ih h
    induction S with
    | nil => cases hs
    | cons t S ihS =>
      obtain ⟨n1, n2⟩ := List.nodup_cons.mp nd
      rw [List.map_cons, List.map_cons, List.sum_cons, List.sum_cons, List.filter_cons]
      by_cases q : f a = t
      · rw [if_pos (by simpa using q), List.length_cons]
        have : (S.map fun s => (l.filter fun a => decide (f a = s)).length) = S.map fun s => ((a :: l).filter fun a => decide (f a = s)).length := by
          refine List.map_congr_left fun u hu => ?_
          rw [List.filter_cons, if_neg]
          simp
          intro z
          subst q z
          exact n1 hu
        rw [this]
        omega
      · rw [if_neg (by simpa using q)]
        have hs' : s ∈ S := by
          rcases List.mem_cons.mp hs with z | z
          · exact absurd (e.trans z) q
          · exact z
        have := ihS n2 hs'
        omega
theorem a_sum {w l : List Int} (hl : l.Nodup) (hw : ∀ x ∈ w, x ∈ l) (h0 : w ≠ []) (n : Nat) : aN w l n = ((shfs w).map fun s => bN w l (n + w.length - s)).sum := by
  have h1 := sum_parts (fun r : List Int => n + w.length - fe w (r ++ w)) ((rows l n).filter fun r => !hasB w r) (shfs w) ((shfs_pair w).imp fun h e => by omega) fun r hr => by
    obtain ⟨h1, h2⟩ := List.mem_filter.mp hr
    obtain ⟨s, hs, e⟩ := part_shift h1 (by simpa using h2) h0
    have := shfs_lt hs
    exact ⟨s, hs, by omega⟩
  unfold aN
  rw [h1]
  congr 1
  refine List.map_congr_left fun s hs => ?_
  rw [← part_eq hl hw hs]
  congr 1
  refine List.filter_congr fun r hr => ?_
  obtain ⟨h1, h2⟩ := List.mem_filter.mp hr
  obtain ⟨t, ht, e⟩ := part_shift h1 (by simpa using h2) h0
  have := shfs_lt ht
  have := shfs_lt hs
  rw [Bool.eq_iff_iff, decide_eq_true_iff, decide_eq_true_iff]
  omega
theorem b_short {w l : List Int} {n : Nat} (h : n < w.length) : bN w l n = 0 := by
  unfold bN
  rw [List.length_eq_zero_iff, List.filter_eq_nil_iff]
  intro r hr
  rw [hasB_short (by rw [(mem_rows.mp hr).1]; exact h)]
  simp
theorem a_zero {w l : List Int} (h : w ≠ []) : aN w l 0 = 1 := by
  unfold aN
  have : hasB w [] = false := hasB_short (List.length_pos_iff.mpr h)
  simp [rows, this]
theorem shfs_cons {w : List Int} (h : w ≠ []) : ∃ t, shfs w = 0 :: t := by
  have hl : 0 < w.length := List.length_pos_iff.mpr h
  have hm : 0 ∈ shfs w := mem_shfs.mpr ⟨hl, agr_zero w⟩
  cases e : shfs w with
  | nil => rw [e] at hm; cases hm
  | cons x t =>
    rw [e] at hm
    rcases List.mem_cons.mp hm with q | q
    · exact ⟨t, by rw [← q]⟩
    · have := shfs_pair w
      rw [e] at this
      have := (List.pairwise_cons.mp this).1 0 q
      omega
theorem ab_alike {w v l : List Int} (hl : l.Nodup) (hw : ∀ x ∈ w, x ∈ l) (hv : ∀ x ∈ v, x ∈ l) (h0 : w ≠ []) (hn : w.length = v.length) (hs : shfs w = shfs v) : ∀ n, aN w l n = aN v l n ∧ ∀ i, i < n + w.length → bN w l i = bN v l i
  | 0 => by
    have v0 : v ≠ [] := fun z => by rw [z] at hn; exact h0 (List.length_eq_zero_iff.mp (by simpa using hn))
    exact ⟨by rw [a_zero h0, a_zero v0], fun i hi => by rw [b_short (by omega), b_short (by omega)]⟩
  | n + 1 => by
    have v0 : v ≠ [] := fun z => by rw [z] at hn; exact h0 (List.length_eq_zero_iff.mp (by simpa using hn))
    obtain ⟨h1, h2⟩ := ab_alike hl hw hv h0 hn hs n
    have wl : 0 < w.length := List.length_pos_iff.mpr h0
    have bn : bN w l (n + w.length) = bN v l (n + w.length) := by
      have e1 := a_sum hl hw h0 n
      have e2 := a_sum hl hv v0 n
      rw [← hs, ← hn] at e2
      obtain ⟨t, ht⟩ := shfs_cons h0
      have pw := shfs_pair w
      have lt := fun s hs => shfs_lt (w := w) (s := s) hs
      rw [ht] at e1 e2 pw lt
      rw [List.map_cons, List.sum_cons] at e1 e2
      have : (t.map fun s => bN w l (n + w.length - s)) = t.map fun s => bN v l (n + w.length - s) := List.map_congr_left fun s hs => by
        have := (List.pairwise_cons.mp pw).1 s hs
        exact h2 _ (by omega)
      rw [this] at e1
      simp only [Nat.sub_zero] at e1 e2
      omega
    have hb : ∀ i, i < n + 1 + w.length → bN w l i = bN v l i := fun i hi => by
      by_cases q : i = n + w.length
      · rw [q, bn]
      · exact h2 i (by omega)
    refine ⟨?_, hb⟩
    have s1 := ab_step w l n
    have s2 := ab_step v l n
    have wl : 0 < w.length := List.length_pos_iff.mpr h0
    rw [h1, hb (n + 1) (by omega)] at s1
    omega
theorem cwN_alike {w v l : List Int} (hl : l.Nodup) (hw : ∀ x ∈ w, x ∈ l) (hv : ∀ x ∈ v, x ∈ l) (h0 : w ≠ []) (hn : w.length = v.length) (hs : shfs w = shfs v) (n : Nat) : cwN w l n = cwN v l n := by
  have v0 : v ≠ [] := fun z => by rw [z] at hn; exact h0 (List.length_eq_zero_iff.mp (by simpa using hn))
  rw [cwN_eq h0, cwN_eq v0]
  have := (ab_alike hl hw hv h0 hn hs n).1
  unfold aN at this
  rw [this]
theorem letL_nodup (L : Nat) : (letL L).Nodup := by
  unfold letL
  rw [List.Nodup, List.pairwise_map]
  exact (List.nodup_range (n := L)).imp fun h e => h (by omega)
end G

end
section
set_option maxHeartbeats 4000000
namespace G
def vX (w : List Int) (L : Nat) (x : List Int) : Nat := (((sufs w x).filter fun j => decide (0 < j)).map fun j => L ^ j).sum
def vK (w : List Int) (L k : Nat) : Nat := vX w L (w.take k)
theorem sufs_pair (w x : List Int) : (sufs w x).Pairwise (· < ·) := List.Pairwise.filter _ List.pairwise_lt_range
theorem vX_nxk (w : List Int) (L : Nat) (x : List Int) : vX w L (w.take (nxk w x)) = vX w L x := by
  unfold vX
  rw [asc_ext (sufs_pair w (w.take (nxk w x))) (sufs_pair w x) fun s => sufs_nxk.symm]
theorem snoc_suffix {u x : List Int} {a b : Int} : u ++ [a] <:+ x ++ [b] ↔ u <:+ x ∧ a = b := by
  constructor
  · rintro ⟨p, e⟩
    rw [← List.append_assoc] at e
    have := List.append_inj' e rfl
    exact ⟨⟨p, this.1⟩, by simpa using this.2⟩
  · rintro ⟨⟨p, rfl⟩, rfl⟩
    exact ⟨p, by simp⟩
theorem sufs_snoc {w x : List Int} {a : Int} (hx : x.length < w.length) : (sufs w (x ++ [a])).filter (fun j => decide (0 < j)) = ((sufs w x).filter fun j => decide (w.getD j 0 = a)).map (· + 1) := by
  refine asc_ext (List.Pairwise.filter _ (sufs_pair _ _)) ?_ fun s => ?_
  · rw [List.pairwise_map]
    exact (List.Pairwise.filter _ (sufs_pair w x)).imp fun h => by omega
  · simp only [List.mem_filter, List.mem_map, mem_sufs, decide_eq_true_eq]
    constructor
    · rintro ⟨⟨h1, h2⟩, h3⟩
      obtain ⟨j, rfl⟩ : ∃ j, s = j + 1 := ⟨s - 1, by omega⟩
      rw [List.take_add_one, List.getElem?_eq_getElem (show j < w.length by omega)] at h2
      obtain ⟨g1, g2⟩ := snoc_suffix.mp h2
      exact ⟨j, ⟨⟨by omega, g1⟩, by rw [List.getD_eq_getElem?_getD, List.getElem?_eq_getElem (show j < w.length by omega)]; exact g2⟩, rfl⟩
    · rintro ⟨j, ⟨⟨h1, h2⟩, h3⟩, rfl⟩
      have hj : j < w.length := by
        have := h2.length_le
        rw [List.length_take] at this
        omega
      refine ⟨⟨by omega, ?_⟩, by omega⟩
      rw [List.take_add_one, List.getElem?_eq_getElem hj]
      rw [List.getD_eq_getElem?_getD, List.getElem?_eq_getElem hj] at h3
      exact snoc_suffix.mpr ⟨h2, h3⟩
theorem sum_filter_map {α : Type} (p : α → Bool) (f : α → Nat) : ∀ l : List α, ((l.filter p).map f).sum = (l.map fun a => if p a = true then f a else 0).sum
  | [] => rfl
  | a :: l => by
    rw [List.filter_cons, List.map_cons, List.sum_cons, ← sum_filter_map p f l]
    cases p a <;> simp
theorem sum_zero {α : Type} : ∀ l : List α, (l.map fun _ => 0).sum = 0
  | [] => rfl
  | _ :: l => by rw [List.map_cons, List.sum_cons, sum_zero l]
theorem sum_add {α : Type} (f g : α → Nat) : ∀ l : List α, (l.map fun a => f a + g a).sum = (l.map f).sum + (l.map g).sum
  | [] => rfl
  | a :: l => by
    rw [List.map_cons, List.sum_cons, sum_add f g l, List.map_cons, List.sum_cons, List.map_cons, List.sum_cons]
    omega
theorem sum_swap {α β : Type} (f : α → β → Nat) (m : List β) : ∀ l : List α, (l.map fun a => (m.map fun b => f a b).sum).sum = (m.map fun b => (l.map fun a => f a b).sum).sum
  | [] => by simp [sum_zero]
  | a :: l => by
    rw [List.map_cons, List.sum_cons, sum_swap f m l, ← sum_add]
    simp only [List.map_cons, List.sum_cons]
theorem sum_one {l : List Int} (nd : l.Nodup) {x : Int} (hx : x ∈ l) (c : Nat) : (l.map fun a => if x = a then c else 0).sum = c := by
  induction l with
  | nil => cases hx
  | cons a l ih =>
    obtain ⟨h1, h2⟩ := List.nodup_cons.mp nd
    rw [List.map_cons, List.sum_cons]
    by_cases q : x = a
    · rw [if_pos q]
      have : (l.map fun b => if x = b then c else 0) = l.map fun _ => 0 := List.map_congr_left fun b hb => if_neg fun z : x = b => h1 (by rw [← q, z]; exact hb)
      rw [this, sum_zero]
      rfl
    · rw [if_neg q, ih h2 ((List.mem_cons.mp hx).resolve_left q)]
      omega
theorem sum_mul {α : Type} (c : Nat) (f : α → Nat) : ∀ l : List α, (l.map fun a => c * f a).sum = c * (l.map f).sum
  | [] => by simp
  | a :: l => by rw [List.map_cons, List.sum_cons, sum_mul c f l, List.map_cons, List.sum_cons, Nat.mul_add]
theorem vX_step {w l x : List Int} (nd : l.Nodup) (hw : ∀ y ∈ w, y ∈ l) (hx : x.length < w.length) : (l.map fun a => vX w l.length (x ++ [a])).sum = l.length * (vX w l.length x + 1) := by
  have e1 : ∀ a, vX w l.length (x ++ [a]) = ((sufs w x).map fun j => if w.getD j 0 = a then l.length ^ (j + 1) else 0).sum := fun a => by
    unfold vX
    rw [sufs_snoc hx, List.map_map, sum_filter_map]
    simp only [decide_eq_true_eq, Function.comp_def]
  simp only [e1]
  rw [sum_swap]
  have e2 : ((sufs w x).map fun j => (l.map fun a => if w.getD j 0 = a then l.length ^ (j + 1) else 0).sum) = (sufs w x).map fun j => l.length * l.length ^ j := by
    refine List.map_congr_left fun j hj => ?_
    have hj' : j < w.length := by
      have := (mem_sufs.mp hj).2.length_le
      rw [List.length_take] at this
      have := (mem_sufs.mp hj).1
      omega
    rw [sum_one nd (by rw [List.getD_eq_getElem?_getD, List.getElem?_eq_getElem hj']; exact hw _ (List.getElem_mem hj')), Nat.pow_succ, Nat.mul_comm]
  rw [e2, sum_mul]
  congr 1
  unfold vX
  have h0 : 0 ∈ sufs w x := zero_sufs w x
  have hp := sufs_pair w x
  cases e : sufs w x with
  | nil => rw [e] at h0; cases h0
  | cons y t =>
    rw [e] at h0 hp
    have y0 : y = 0 := by
      rcases List.mem_cons.mp h0 with q | q
      · exact q.symm
      · have := (List.pairwise_cons.mp hp).1 0 q; omega
    subst y0
    have ft : (0 :: t).filter (fun j => decide (0 < j)) = t := by
      rw [List.filter_cons, if_neg (by simp), List.filter_eq_self]
      intro j hj
      have := (List.pairwise_cons.mp hp).1 j hj
      simpa using this
    rw [ft, List.map_cons, List.sum_cons, Nat.pow_zero]
    exact Nat.add_comm _ _
theorem vK_step {w l : List Int} (nd : l.Nodup) (hw : ∀ y ∈ w, y ∈ l) {k : Nat} (hk : k < w.length) : (l.map fun a => vK w l.length (nx w k a)).sum = l.length * (vK w l.length k + 1) := by
  have := vX_step nd hw (x := w.take k) (by simp; omega)
  unfold vK
  rw [← this]
  congr 1
  exact List.map_congr_left fun a _ => vX_nxk w l.length _
theorem nx_le (w : List Int) (k : Nat) (a : Int) : nx w k a ≤ k + 1 := by
  have := (mem_sufs.mp (nxk_mem w (w.take k ++ [a]))).2.length_le
  have h := nxk_le w (w.take k ++ [a])
  unfold nx
  rw [List.length_take, Nat.min_eq_left h] at this
  simp at this
  omega
theorem nx_own {w : List Int} {k : Nat} (hk : k < w.length) : nx w k (w.getD k 0) = k + 1 := by
  have h1 := nx_le w k (w.getD k 0)
  have : k + 1 ∈ sufs w (w.take k ++ [w.getD k 0]) := mem_sufs.mpr ⟨by omega, by
    rw [List.take_add_one, List.getElem?_eq_getElem hk, List.getD_eq_getElem?_getD, List.getElem?_eq_getElem hk]
    exact List.suffix_refl _⟩
  have := le_nxk this
  unfold nx at *
  omega
theorem nx_other {w : List Int} {k : Nat} {a : Int} (hk : k < w.length) (ha : a ≠ w.getD k 0) : nx w k a ≤ k := by
  have h1 := nx_le w k a
  have h2 := mem_sufs.mp (nxk_mem w (w.take k ++ [a]))
  rcases Nat.lt_or_ge (nx w k a) (k + 1) with q | q
  · omega
  · exfalso
    have e : nxk w (w.take k ++ [a]) = k + 1 := by unfold nx at *; omega
    rw [e, List.take_add_one, List.getElem?_eq_getElem hk] at h2
    have := (snoc_suffix.mp h2.2).2
    rw [List.getD_eq_getElem?_getD, List.getElem?_eq_getElem hk] at ha
    exact ha this.symm
theorem sum_except {l : List Int} (nd : l.Nodup) {x : Int} (hx : x ∈ l) (f : Int → Nat) : (l.map f).sum = f x + ((l.filter fun a => !decide (a = x)).map f).sum := by
  induction l with
  | nil => cases hx
  | cons a l ih =>
    obtain ⟨h1, h2⟩ := List.nodup_cons.mp nd
    rw [List.map_cons, List.sum_cons, List.filter_cons]
    by_cases q : a = x
    · subst q
      have : l.filter (fun b => !decide (b = a)) = l := List.filter_eq_self.mpr fun b hb => by
        have : b ≠ a := fun z => h1 (z ▸ hb)
        simp [this]
      simp [this]
    · rw [if_pos (by simp [q]), List.map_cons, List.sum_cons, ih h2 ((List.mem_cons.mp hx).resolve_left fun z => q z.symm)]
      omega
theorem vK_eq {w l : List Int} (nd : l.Nodup) (hw : ∀ y ∈ w, y ∈ l) {k : Nat} (hk : k < w.length) : (vK w l.length (k + 1) : Int) = l.length * (vK w l.length k : Int) + l.length - ((((l.filter fun a => !decide (a = w.getD k 0)).map fun a => vK w l.length (nx w k a)).sum : Nat) : Int) := by
  have h1 := vK_step nd hw hk
  have hm : w.getD k 0 ∈ l := by rw [List.getD_eq_getElem?_getD, List.getElem?_eq_getElem hk]; exact hw _ (List.getElem_mem hk)
  rw [sum_except nd hm, nx_own hk] at h1
  have h2 : ((vK w l.length (k + 1) + ((l.filter fun a => !decide (a = w.getD k 0)).map fun a => vK w l.length (nx w k a)).sum : Nat) : Int) = ((l.length * (vK w l.length k + 1) : Nat) : Int) := congrArg _ h1
  rw [Int.natCast_add, Int.natCast_mul, Int.natCast_add, Int.mul_add] at h2
  omega
def wtN (w : List Int) (L : Nat) : Nat := ((shfs w).map fun s => L ^ (w.length - s)).sum
theorem wt_vK (w : List Int) (L : Nat) : wtN w L = vK w L w.length := by
  unfold wtN vK vX
  rw [List.take_length]
  have perm : ((shfs w).map fun s => w.length - s).Perm ((sufs w w).filter fun j => decide (0 < j)) := by
    refine (List.perm_ext_iff_of_nodup ?_ ?_).mpr fun j => ?_
    · refine List.pairwise_map.mpr ((shfs_pair w).imp_of_mem fun {a b} ha hb h e => ?_)
      have := shfs_lt ha
      have := shfs_lt hb
      omega
    · exact (List.Pairwise.filter _ (sufs_pair w w)).imp fun h e => by omega
    · simp only [List.mem_map, List.mem_filter, decide_eq_true_eq, mem_sufs, mem_shfs]
      constructor
      · rintro ⟨s, ⟨h1, h2⟩, rfl⟩
        refine ⟨⟨by omega, ?_⟩, by omega⟩
        rw [← drop_iff.mp h2]
        exact List.drop_suffix _ _
      · rintro ⟨⟨h1, h2⟩, h3⟩
        refine ⟨w.length - j, ⟨by omega, drop_iff.mpr ?_⟩, by omega⟩
        have := List.suffix_iff_eq_drop.mp h2
        rw [List.length_take, Nat.min_eq_left h1] at this
        rw [← this, show w.length - (w.length - j) = j by omega]
  have := (perm.map fun j => L ^ j).sum_nat
  rw [List.map_map] at this
  exact this
end G

end
section
set_option maxHeartbeats 4000000
namespace P
open PySem PySem.Spec PyProof.Rows L2 G
def d_power_of : Def := ⟨2, 4, (.cons (.set 2 (.cst (.int 1))) (.cons (.for (.one 3) (.rng1 (.var 1)) (.cons (.aug 2 .Mult (.var 0)) .nil)) (.cons (.rt (.var 2)) .nil)))⟩
def d_waits : Def := ⟨2, 3, (.cons (.expr (.call "need_letters_to_wait" (.cons (.var 0) .nil))) (.cons (.expr (.call "need_signs_of" (.cons (.var 0) (.cons (.var 1) .nil)))) (.cons (.rt (.bi .sum (.comp (.call "power_of" (.cons (.var 0) (.cons (.bin .Sub (.bi .len (.var 1)) (.var 2)) .nil))) (.one 2) (.val (.call "shifts_in" (.cons (.var 1) .nil))) .no))) .nil)))⟩
def d_lcounts : Def := ⟨3, 9, (.cons (.par3o 4 5 6 false true true (.bi .len (.var 2)) (.lst (.cons (.cst (.int 1)) .nil)) (.bin .Mult (.lst (.cons (.cst (.int 0)) .nil)) (.bin .Add (.bi .len (.var 2)) (.cst (.int 1))))) (.cons (.for (.one 3) (.rng1 (.var 1)) (.cons (.set 7 (.bi .sum (.comp (.idx (.var 6) (.bin .Sub (.bin .Add (.var 3) (.var 4)) (.var 8))) (.one 8) (.val (.slc (.call "_law_shifts" (.cons (.var 2) .nil)) (.yes (.cst (.int 1))) .no)) .no))) (.cons (.put 6 (.bin .Add (.var 3) (.var 4)) (.bin .Sub (.idx (.var 5) (.var 3)) (.var 7))) (.cons (.app 6 (.cst (.int 0))) (.cons (.app 5 (.bin .Sub (.bin .Mult (.var 0) (.idx (.var 5) (.var 3))) (.idx (.var 6) (.bin .Add (.var 3) (.cst (.int 1)))))) .nil))))) (.cons (.frz 5) (.cons (.rt (.var 5)) .nil))))⟩
def d_lnext : Def := ⟨3, 5, (.cons (.set 3 (.bin .Add (.slc (.var 0) .no (.yes (.var 1))) (.tup (.cons (.var 2) .nil)))) (.cons (.rt (.bi .max (.comp (.var 4) (.one 4) (.rng1 (.bin .Add (.bi .len (.var 3)) (.cst (.int 1)))) (.yes (.cmp .Eq (.slc (.var 3) (.yes (.bin .Sub (.bi .len (.var 3)) (.var 4))) .no) (.slc (.var 0) .no (.yes (.var 4)))))))) .nil))⟩
def d_lwaits : Def := ⟨2, 7, (.cons (.own 2 (.lst (.cons (.cst (.int 0)) .nil))) (.cons (.for (.one 3) (.rng1 (.bi .len (.var 1))) (.cons (.set 4 (.comp (.call "_law_next" (.cons (.var 1) (.cons (.var 3) (.cons (.var 5) .nil)))) (.one 5) (.rng1 (.var 0)) (.yes (.cmp .NotEq (.var 5) (.idx (.var 1) (.var 3)))))) (.cons (.app 2 (.bin .Sub (.bin .Add (.bin .Mult (.var 0) (.idx (.var 2) (.var 3))) (.var 0)) (.bi .sum (.comp (.idx (.var 2) (.var 6)) (.one 6) (.val (.var 4)) .no)))) .nil))) (.cons (.rt (.idx (.var 2) (.neg (.cst (.int 1))))) .nil)))⟩
end P
namespace G
open PySem PySem.Spec PyProof.Rows L2
theorem cast_sum (l : List Nat) : ((l.sum : Nat) : Int) = (l.map fun (n : Nat) => (n : Int)).sum := by
  induction l with
  | nil => rfl
  | cons a l ih => simp [ih]
theorem intsL_nat (l : List Nat) : intsL (l.map fun (n : Nat) => PyData.int (n : Int)) = some (l.map fun (n : Nat) => (n : Int)) := by rw [mapN, intsL_int]
theorem sum_natL (l : List Nat) : biD .sum (.list (l.map fun (n : Nat) => PyData.int (n : Int))) = some (.int (l.sum : Nat)) := by
  rw [mapN, biD_sum, intsL_int, cast_sum]; rfl
theorem at_rng {N j : Nat} (f : Nat → Int) (h : j < N) : L2.atI ((List.range N).map fun i => PyData.int (f i)) (j : Int) = some (.int (f j)) := by
  rw [at_nat, List.getElem?_map, List.getElem?_range h]; rfl
theorem rngR0 {k : Nat} (m : Ms) (h : k ≤ 1000) : rngR (.int 0) (.int (k : Int)) m = ret (rngL 0 k) m := by
  show (if rngOk 0 (k : Int) = true then ret (rngL 0 ((k : Int) - 0).toNat) m else none) = _
  rw [if_pos (rngOk_of (by omega))]; simp
theorem rng_at {k i : Nat} {x : PyData} (h : (rngL 0 k)[i]? = some x) : i < k ∧ x = .int (i : Int) := by
  have hi : i < k := by have := (List.getElem?_eq_some_iff.mp h).1; simpa using this
  rw [rngL_zero, List.getElem?_map, List.getElem?_range hi] at h
  exact ⟨hi, (Option.some.inj h).symm⟩
section
variable {Γ : Str → Option Fn} {W n : Nat} {m : Ms}
theorem run_power {f : Str} (h : Γ f = some (.code P.d_power_of)) {b t : Nat} (hb : b ≤ 1000) (ht : t ≤ 1000) : run Γ W (n + 1) f [.p (.int (b : Int)), .p (.int (t : Int))] m = ret (.p (.int ((b ^ t : Nat) : Int))) m := by
  rw [run_code h rfl]
  refine tw_eq (tw_bnd.mpr ?_)
  simp only [P.d_power_of, startR, List.map_cons, List.map_nil, List.length_cons, List.length_nil, List.replicate, List.cons_append, List.nil_append]
  refine tw_set (v := .p (.int 1)) (m' := m) (by simp) ?_
  dsimp only [List.set]
  refine tw_loop (xs := rngL 0 t) (m' := m) (by simp [rngR0 _ ht])
    (fun i ρ m' => m' = m ∧ ∃ b3, ρ = [some (.fz (.p (.int (b : Int)))), some (.fz (.p (.int (t : Int)))), some (.fz (.p (.int ((b ^ i : Nat) : Int)))), b3])
    ⟨rfl, none, rfl⟩ (fun i x ρ m' hx ⟨e, b3, hρ⟩ => ?_) fun ρ' m' ⟨e, b3, hρ⟩ => ?_
  · subst e hρ
    have z : (-(2 ^ 64) < ((b ^ i : Nat) : Int) ∧ ((b ^ i : Nat) : Int) < 2 ^ 64) ∨ (-(2 ^ 64) < (b : Int) ∧ (b : Int) < 2 ^ 64) := .inr (by omega)
    rw [lturn_one]
    dsimp only [List.set]
    simp -implicitDefEqProofs only [exB_aug, augR_fz, ed_eq, ev_vr, List.getElem?_cons_succ, List.getElem?_cons_zero, varR_fz, dOf_r, bnd_ret', aug_mul, if_pos z, opt_s, List.set_cons_succ, List.set_cons_zero, exB_nil]
    refine tw_ret.mpr ⟨_, rfl, rfl, some (.fz (.p x)), ?_⟩
    rw [Nat.pow_succ, Int.natCast_mul]
  · subst e hρ
    rw [rngL_len]
    simp [endF]
theorem run_waits (h : H13 Γ) (h3 : H3 Γ) (hp : Γ "power_of" = some (.code P.d_power_of)) (hw : Γ "waits" = some (.code P.d_waits)) (b : Bool) {L : Nat} {w : List Int} (hL : 1 ≤ L ∧ L ≤ 10) (ww : Word w) (hl : ∀ x ∈ w, x < L) : run Γ W (n + 5) "waits" [.p (.int (L : Int)), .p (sq b (w.map .int))] m = ret (.p (.int (wtN w L : Nat))) m := by
  rw [run_code hw rfl]
  have l2 := ww.2.1
  have r1 : ∀ m, run Γ W (n + 4) "need_letters_to_wait" [.p (.int (L : Int))] m = ret (.p .none) m := fun m => run_need_letters (n := n + 1) h hL.1 hL.2
  have r2 : ∀ m, run Γ W (n + 4) "need_signs_of" [.p (.int (L : Int)), .p (sq b (w.map .int))] m = ret (.p .none) m := fun m => run_need_signs_of h b ww hl
  have r3 : ∀ m, run Γ W (n + 4) "shifts_in" [.p (sq b (w.map .int))] m = ret (.p (tN (shfs w))) m := fun m => run_shifts_in (n := n + 2) h3 b (by omega)
  have r4 : ∀ (t : Nat) m, t ≤ 1000 → run Γ W (n + 4) "power_of" [.p (.int (L : Int)), .p (.int (t : Int))] m = ret (.p (.int ((L ^ t : Nat) : Int))) m := fun t m ht => run_power (n := n + 3) hp (by omega) ht
  have sl : (shfs w).length ≤ lim := by
    have := List.length_filter_le (agr w) (List.range w.length)
    simp at this
    unfold shfs lim; omega
  simp [P.d_waits, startR, r1, r2, r3, sl]
  rw [compGo_all (fun s : Nat => PyData.int ((L ^ (w.length - s) : Nat) : Int)) fun s hs => ?_]
  · have e : ((shfs w).map fun s : Nat => PyData.int ((L ^ (w.length - s) : Nat) : Int)) = ((shfs w).map fun s => L ^ (w.length - s)).map fun (n : Nat) => PyData.int (n : Int) := by
      rw [List.map_map]; rfl
    rw [bnd_ret', e, intsL_nat]
    show ret (Val.p (PyData.int (List.sum _))) m = _
    rw [← cast_sum]
    rfl
  · have := shfs_lt hs
    have e1 : (w.length : Int) - (s : Int) = ((w.length - s : Nat) : Int) := by omega
    simp only [turn_one, evC_no, bnd_ret', if_true, ev_call, eva_cons, eva_nil, ev_bnr, ev_blt, ev_vr, lk_var, List.getElem?_cons_succ, List.getElem?_cons_zero, List.set_cons_succ, List.set_cons_zero, varR_fz, lkR_fz, len_sq, List.length_map, Option.map_some, opt_s, dOf_r, bin_sub, e1, r4 _ _ (show w.length - s ≤ 1000 by omega), bnd_assoc]
theorem run_lnext {f : Str} (h : Γ f = some (.code P.d_lnext)) {w : List Int} {k : Nat} {a : Int} (hw : w.length ≤ 1000) (hk : k ≤ w.length) : run Γ W (n + 1) f [.p (tI w), .p (.int (k : Int)), .p (.int a)] m = ret (.p (.int (nx w k a : Nat))) m := by
  rw [run_code h rfl]
  have ll : (w.take k ++ [a]).length = k + 1 := by simp; omega
  have et : (List.map PyData.int (List.take k w) ++ [PyData.int a]) = (w.take k ++ [a]).map PyData.int := by simp
  have et' : (List.map PyData.int (List.take k w)).length + [PyData.int a].length ≤ lim := by simp; unfold lim; omega
  have e4 : ((w.take k ++ [a]).map PyData.int).length = k + 1 := by rw [List.length_map, ll]
  have e5 : ((k + 1 : Nat) : Int) + 1 = ((k + 1 + 1 : Nat) : Int) := by omega
  have hb : binD .Add (.tuple ((w.take k).map PyData.int)) (.tuple [.int a]) = some (.tuple ((w.take k ++ [a]).map PyData.int)) := by
    rw [bin_tadd, if_pos et', et]
  have l1 : 0 + 1 ≤ lim := by decide
  have l2 : k + 1 + 1 ≤ lim := by unfold lim; omega
  have sw : ∀ j : Nat, slcD (tI w) none (some (j : Int)) = some (.tuple ((w.take j).map PyData.int)) := fun j => slc_sq true w j
  have e6 : ∀ m, rngR (.int 0) (.int ((k + 1 + 1 : Nat) : Int)) m = ret (rngL 0 (k + 1 + 1)) m := fun m => by
    show (if rngOk 0 ((k + 1 + 1 : Nat) : Int) = true then ret (rngL 0 (((k + 1 + 1 : Nat) : Int) - 0).toNat) m else none) = _
    rw [if_pos (rngOk_of (by omega)), Int.sub_zero, Int.toNat_natCast]
  simp -implicitDefEqProofs only [P.d_lnext, startR, exB_set, exB_rt, ev_bnr, ev_blt, lk_slc, ev_slc, ev_vr, List.map_cons, List.map_nil, List.length_cons, List.length_nil, List.replicate, List.cons_append, List.nil_append, List.getElem?_cons_succ, List.getElem?_cons_zero, List.set_cons_succ, List.set_cons_zero, varR_fz, dOf_r, bnd_ret', evO_no, evO_yes, bnd_assoc, intOf_int, sw, Option.map_some, opt_s, ev_tup, evs_cons, evs_nil, dOf_bnd', if_pos l1, hb, lk_comp, ev_comp, evI_rng1, lk_var, lkR_fz, biD_len_t, e4, ev_cst, lit_int, bin_add, e5, e6, rngL_zero, List.length_map, List.length_range, if_pos l2]
  rw [compGo_sel (fun s : Nat => decide ((w.take k ++ [a]).drop ((w.take k ++ [a]).length - s) = w.take s)) (fun (s : Nat) => PyData.int (s : Int)) (fun s hs => ?_)]
  · have q : (List.range (k + 1 + 1)).filter (fun s : Nat => decide ((w.take k ++ [a]).drop ((w.take k ++ [a]).length - s) = w.take s)) = sufs w (w.take k ++ [a]) := by
      unfold sufs; rw [ll]
    rw [q, bnd_ret', bi_maxN (fun z => by have := zero_sufs w (w.take k ++ [a]); rw [z] at this; cases this)]
    rfl
  · have hs : s ≤ k + 1 := by have := List.mem_range.mp hs; omega
    have e8 : ((k + 1 : Nat) : Int) - (s : Int) = ((k + 1 - s : Nat) : Int) := by omega
    simp -implicitDefEqProofs only [turn_one, evC_yes, ev_cmp, ev_slc, ev_blt, ev_bnr, ev_vr, lk_var, lk_slc, List.getElem?_cons_succ, List.getElem?_cons_zero, List.set_cons_succ, List.set_cons_zero, varR_fz, lkR_fz, dOf_r, bnd_ret', evO_yes, evO_no, biD_len_t, e4, Option.map_some, opt_s, bin_sub, e8, intOf_int, slcT_from, sw, cmp_eq, ← List.map_drop, eqD_tI, boolOf_bool, bnd_assoc, dOf_bnd', ll]
theorem vK_zero (w : List Int) (L : Nat) : vK w L 0 = 0 := by
  unfold vK vX
  have : sufs w (w.take 0) = [0] := by simp [sufs]
  rw [this]
  rfl
theorem run_lwaits {f : Str} (h : Γ f = some (.code P.d_lwaits)) (hx : Γ "_law_next" = some (.code P.d_lnext)) {L : Nat} {w : List Int} (hL : 1 ≤ L ∧ L ≤ 10) (ww : Word w) (hl : ∀ x ∈ w, x < L) : run Γ W (n + 2) f [.p (.int (L : Int)), .p (tI w)] m = ret (.p (.int (wtN w L : Nat))) m := by
  rw [run_code h rfl]
  have l1 := ww.1
  have l2 := ww.2.1
  have rx : ∀ (k : Nat) (a : Int) m, k ≤ w.length → run Γ W (n + 1) "_law_next" [.p (tI w), .p (.int (k : Int)), .p (.int a)] m = ret (.p (.int (nx w k a : Nat))) m := fun k a m hk => run_lnext hx (by omega) hk
  refine tw_eq (tw_bnd.mpr ?_)
  simp only [P.d_lwaits, startR, List.map_cons, List.map_nil, List.length_cons, List.length_nil, List.replicate, List.cons_append, List.nil_append]
  refine tw_own (l := [.int 0]) (m' := m) (by simp [show 1 ≤ lim by decide]) ?_
  dsimp only [List.set]
  have hlw : ∀ y ∈ w, y ∈ letL L := fun y hy => mem_letL.mpr ⟨(ww.2.2 y hy).1, hl y hy⟩
  refine tw_loop (xs := rngL 0 w.length) (m' := m) (by simp [rngR0 _ (show w.length ≤ 1000 by omega)])
    (fun i ρ m' => m' = m ∧ ∃ b3 b4 b5 b6, ρ = [some (.fz (.p (.int (L : Int)))), some (.fz (.p (tI w))), some (.ol ((List.range (i + 1)).map fun j => PyData.int (vK w L j : Nat))), b3, b4, b5, b6])
    ⟨rfl, none, none, none, none, by simp [vK_zero]⟩ (fun i x ρ m' hx ⟨e, b3, b4, b5, b6, hρ⟩ => ?_) fun ρ' m' ⟨e, b3, b4, b5, b6, hρ⟩ => ?_
  · subst e hρ
    obtain ⟨hi, rfl⟩ := rng_at hx
    rw [lturn_one]
    dsimp only [List.set]
    have q1 : L2.atI (w.map PyData.int) (i : Int) = some (.int (w.getD i 0)) := idx_sq true w i hi
    refine tw_set (v := .p (.list ((((letL L).filter fun a => !decide (a = w.getD i 0)).map fun a => nx w i a).map fun (n : Nat) => PyData.int (n : Int)))) (m' := m') ?_ ?_
    · simp [rngR0 _ (show L ≤ 1000 by omega), show L ≤ lim by unfold lim; omega, rngL_zero]
      rw [compGo_sel (fun a : Nat => !decide ((a : Int) = w.getD i 0)) (fun a : Nat => PyData.int (nx w i (a : Int) : Nat)) fun a ha => ?_]
      · rw [bnd_ret']
        congr 3
        unfold letL
        rw [List.filter_map, List.map_map]
        rfl
      · simp [q1, rx i a _ (by omega)]
    dsimp only [List.set]
    generalize hgs : ((letL L).filter fun a => !decide (a = w.getD i 0)).map (fun a => nx w i a) = gs
    have gsl : gs.length ≤ lim := by
      have := List.length_filter_le (fun a => !decide (a = w.getD i 0)) (letL L)
      rw [letL_len] at this
      rw [← hgs, List.length_map]
      unfold lim; omega
    have gsk : ∀ g ∈ gs, g ≤ i := fun g hg => by
      rw [← hgs] at hg
      obtain ⟨a, ha, rfl⟩ := List.mem_map.mp hg
      exact nx_other hi (by simpa using (List.mem_filter.mp ha).2)
    have eq := vK_eq (letL_nodup L) hlw hi
    rw [letL_len] at eq
    have c1 : ev (run Γ W (n + 1)) (.comp (.idx (.var 2) (.var 6)) (.one 6) (.val (.var 4)) .no) [some (.fz (.p (.int (L : Int)))), some (.fz (.p (tI w))), some (.ol ((List.range (i + 1)).map fun j => PyData.int (vK w L j : Nat))), some (.fz (.p (.int (i : Int)))), some (.fz (.p (.list (gs.map fun (n : Nat) => PyData.int (n : Int))))), b5, b6] m' = ret (.p (.list ((gs.map fun g => vK w L g).map fun (n : Nat) => PyData.int (n : Int)))) m' := by
      simp only [ev_comp, evI_val, ev_vr, List.getElem?_cons_succ, List.getElem?_cons_zero, varR_fz, dOf_r, bnd_ret', seqOf_list, opt_s, List.length_map, if_pos gsl]
      rw [compGo_all (fun g : Nat => PyData.int (vK w L g : Nat)) fun g hg => ?_]
      · rw [bnd_ret', List.map_map]; rfl
      · have := at_rng (fun j => (vK w L j : Int)) (show g < i + 1 by have := gsk g hg; omega)
        simp only [turn_one, evC_no, bnd_ret', if_true, ev_ix, lk_var, List.getElem?_cons_succ, List.getElem?_cons_zero, List.set_cons_succ, List.set_cons_zero, lkR_ol, ev_vr, varR_fz, dOf_r, idx_l, this, Option.map_some, opt_s]
    have a1 := at_rng (fun j => (vK w L j : Int)) (show i < i + 1 by omega)
    have z : (-(2 ^ 64) < (L : Int) ∧ (L : Int) < 2 ^ 64) ∨ (-(2 ^ 64) < ((vK w L i : Nat) : Int) ∧ ((vK w L i : Nat) : Int) < 2 ^ 64) := .inl (by omega)
    have lo : ((List.range (i + 1)).map fun j => PyData.int (vK w L j : Nat)).length < lim := by simp; unfold lim; omega
    rw [exB_app]
    simp -implicitDefEqProofs only [ed_eq, ev_bnr, ev_ix, ev_blt, lk_comp, c1, sum_natL, lk_var, List.getElem?_cons_succ, List.getElem?_cons_zero, lkR_ol, ev_vr, varR_fz, dOf_r, bnd_ret', idx_l, a1, Option.map_some, opt_s, bin_mul, if_pos z, bin_add, bin_sub, dOf_bnd', bnd_assoc, appR_ol, if_pos lo, List.set_cons_succ, List.set_cons_zero, exB_nil]
    refine tw_ret.mpr ?_
    refine ⟨_, rfl, rfl, some (.fz (.p (.int (i : Int)))), some (.fz (.p (.list (gs.map fun (n : Nat) => PyData.int (n : Int))))), b5, b6, ?_⟩
    have e2 : gs.map (fun g => vK w L g) = ((letL L).filter fun a => !decide (a = w.getD i 0)).map fun a => vK w L (nx w i a) := by
      rw [← hgs, List.map_map]; rfl
    rw [e2, ← eq, List.range_succ (n := i + 1), List.map_append]
    rfl
  · subst e hρ
    rw [rngL_len]
    have a1 : L2.atI ((List.range (w.length + 1)).map fun j => PyData.int (vK w L j : Nat)) (-1) = some (.int (vK w L w.length : Nat)) := by
      have e1 : L2.ixN (w.length + 1) (-1) = some w.length := by
        unfold L2.ixN
        simp
        omega
      unfold L2.atI
      rw [List.length_map, List.length_range, e1, Option.bind_some, List.getElem?_map, List.getElem?_range (by omega)]
      rfl
    rw [wt_vK]
    refine tw_rt (v := .p (.int (vK w L w.length : Nat))) (m' := m') ?_ (tw_ret.mpr ⟨rfl, rfl⟩)
    simp [a1]
theorem set_rng {N j : Nat} (f : Nat → Int) (v : Int) : ((List.range N).map fun i => PyData.int (f i)).set j (.int v) = (List.range N).map fun i => PyData.int (if i = j then v else f i) := by
  refine List.ext_getElem (by simp) fun i h1 h2 => ?_
  rw [List.getElem_set]
  simp
  by_cases q : j = i
  · subst q; simp
  · rw [if_neg q, if_neg (fun z => q z.symm)]
def endF_ (w l : List Int) (b : Nat) (j : Nat) : Int := if j < b then (bN w l j : Int) else 0
theorem run_lcounts {f : Str} (h : Γ f = some (.code P.d_lcounts)) (hs : Γ "_law_shifts" = some (.code P.d_lshifts3)) {L many : Nat} {w : List Int} (hL : 1 ≤ L ∧ L ≤ 10) (hm : many ≤ 200) (ww : Word w) (hl : ∀ x ∈ w, x < L) : run Γ W (n + 2) f [.p (.int (L : Int)), .p (.int (many : Int)), .p (tI w)] m = ret (.p (.list ((List.range (many + 1)).map fun j => PyData.int (aN w (letL L) j : Nat)))) m := by
  rw [run_code h rfl]
  have l1 := ww.1
  have l2 := ww.2.1
  have w0 : w ≠ [] := fun z => by rw [z] at l1; simp at l1
  have hlw : ∀ y ∈ w, y ∈ letL L := fun y hy => mem_letL.mpr ⟨(ww.2.2 y hy).1, hl y hy⟩
  have rs : ∀ m, run Γ W (n + 1) "_law_shifts" [.p (tI w)] m = ret (.p (tN (shfs w))) m := fun m => run_lshifts3 hs (by omega)
  obtain ⟨t, ht⟩ := shfs_cons w0
  have pw := shfs_pair w
  have lts := fun s hs => shfs_lt (w := w) (s := s) hs
  rw [ht] at pw lts
  have tl : t.length ≤ lim := by
    have := List.length_filter_le (agr w) (List.range w.length)
    have e : ((List.range w.length).filter (agr w)).length = t.length + 1 := by
      show (shfs w).length = _
      rw [ht]; rfl
    simp at this
    unfold lim; omega
  refine tw_eq (tw_bnd.mpr ?_)
  simp only [P.d_lcounts, startR, List.map_cons, List.map_nil, List.length_cons, List.length_nil, List.replicate, List.cons_append, List.nil_append]
  have z0 : (List.replicate (w.length + 1) [PyData.int 0]).flatten = (List.range (w.length + 1)).map fun j => PyData.int (endF_ w (letL L) w.length j) := by
    rw [zeros_eq]
    refine List.ext_getElem (by simp) fun i h1 h2 => ?_
    simp only [List.getElem_map, List.getElem_replicate, List.getElem_range, endF_]
    split
    · rw [b_short (by assumption)]; rfl
    · rfl
  have lm : binD .Mult (.list [.int 0]) (.int ((w.length : Int) + 1)) = some (.list ((List.range (w.length + 1)).map fun j => PyData.int (endF_ w (letL L) w.length j))) := by
    rw [bin_lmul, if_pos (by simp; omega), ← z0]
    congr 5
  rw [exB_par3o]
  have sT : ∀ l : List PyData, slotOf true (.p (.list l)) = some (.ol l) := fun _ => rfl
  have sF : ∀ v : Val, slotOf false v = some (.fz v) := fun _ => rfl
  simp only [ev_blt, ev_lst, ev_bnr, evs_cons, evs_nil, ev_cst, lit_int, lk_var, List.getElem?_cons_succ, List.getElem?_cons_zero, lkR_fz, biD_len_t, List.length_map, Option.map_some, opt_s, bnd_ret', dOf_r, List.length_cons, List.length_nil, if_pos (show 0 + 1 ≤ lim by decide), bin_add, lm, sT, sF, dOf_bnd', bnd_assoc, List.set_cons_succ, List.set_cons_zero]
  refine tw_loop (xs := rngL 0 many) (m' := m) (by simp [rngR0 _ (show many ≤ 1000 by omega)])
    (fun i ρ m' => m' = m ∧ ∃ b3 b7 b8, ρ = [some (.fz (.p (.int (L : Int)))), some (.fz (.p (.int (many : Int)))), some (.fz (.p (tI w))), b3, some (.fz (.p (.int (w.length : Int)))), some (.ol ((List.range (i + 1)).map fun j => PyData.int (aN w (letL L) j : Nat))), some (.ol ((List.range (w.length + i + 1)).map fun j => PyData.int (endF_ w (letL L) (w.length + i) j))), b7, b8])
    ⟨rfl, none, none, none, by simp [a_zero w0]⟩ (fun i x ρ m' hx ⟨e, b3, b7, b8, hρ⟩ => ?_) fun ρ' m' ⟨e, b3, b7, b8, hρ⟩ => ?_
  · subst e hρ
    obtain ⟨hi, rfl⟩ := rng_at hx
    rw [lturn_one]
    dsimp only [List.set]
    have asum := a_sum (letL_nodup L) hlw w0 i
    rw [ht, List.map_cons, List.sum_cons, Nat.sub_zero] at asum
    generalize hB : (t.map fun s => bN w (letL L) (i + w.length - s)).sum = B0 at asum
    refine tw_set (v := .p (.int (B0 : Nat))) (m' := m') ?_ ?_
    · have sl : slcD (tN (shfs w)) (some 1) none = some (.tuple (t.map fun (n : Nat) => PyData.int (n : Int))) := by
        show some (PyData.tuple (cutD _ _ _)) = _
        rw [show (1 : Int) = ((1 : Nat) : Int) from rfl, cut_from, ht]
        rfl
      simp only [ev_blt, lk_comp, ev_comp, evI_val, ev_slc, ev_call, eva_cons, eva_nil, ev_vr, List.getElem?_cons_succ, List.getElem?_cons_zero, varR_fz, bnd_ret', rs, dOf_r, evO_yes, evO_no, ev_cst, lit_int, intOf_int, Option.map_some, opt_s, sl, seqOf_tuple, List.length_map, if_pos tl, bnd_assoc]
      rw [compGo_all (fun s : Nat => PyData.int (bN w (letL L) (i + w.length - s) : Nat)) fun s hs => ?_]
      · have e : (t.map fun s : Nat => PyData.int (bN w (letL L) (i + w.length - s) : Nat)) = (t.map fun s => bN w (letL L) (i + w.length - s)).map fun (n : Nat) => PyData.int (n : Int) := by rw [List.map_map]; rfl
        rw [bnd_ret', e, dOf_r, bnd_ret', sum_natL, hB]
        rfl
      · have s1 := (List.pairwise_cons.mp pw).1 s hs
        have s2 := lts s (by simp [hs])
        have e1 : (i : Int) + (w.length : Int) - (s : Int) = ((i + w.length - s : Nat) : Int) := by omega
        have a1 := at_rng (endF_ w (letL L) (w.length + i)) (show i + w.length - s < w.length + i + 1 by omega)
        have a2 : endF_ w (letL L) (w.length + i) (i + w.length - s) = (bN w (letL L) (i + w.length - s) : Int) := if_pos (by omega)
        rw [a2] at a1
        simp only [turn_one, evC_no, bnd_ret', if_true, ev_ix, ev_bnr, ev_vr, lk_var, List.getElem?_cons_succ, List.getElem?_cons_zero, List.set_cons_succ, List.set_cons_zero, varR_fz, lkR_ol, dOf_r, bin_add, bin_sub, Option.map_some, opt_s, e1, idx_l, a1]
    dsimp only [List.set]
    have a1 := at_rng (fun j => (aN w (letL L) j : Int)) (show i < i + 1 by omega)
    have bn : (aN w (letL L) i : Int) - (B0 : Int) = (bN w (letL L) (i + w.length) : Int) := by omega
    have p1 : putL ((List.range (w.length + i + 1)).map fun j => PyData.int (endF_ w (letL L) (w.length + i) j)) (.int ((i : Int) + (w.length : Int))) (.int (bN w (letL L) (i + w.length) : Nat)) = some ((List.range (w.length + i + 1)).map fun j => PyData.int (endF_ w (letL L) (w.length + (i + 1)) j)) := by
      rw [show (i : Int) + (w.length : Int) = ((i + w.length : Nat) : Int) by omega, putL_nat (by simp; omega), set_rng]
      congr 1
      refine List.map_congr_left fun j hj => ?_
      have := List.mem_range.mp hj
      congr 1
      unfold endF_
      by_cases q : j = i + w.length
      · subst q; rw [if_pos rfl, if_pos (by omega)]
      · rw [if_neg q, if_pos (by omega), if_pos (by omega)]
    have ap : ((List.range (w.length + i + 1)).map fun j => PyData.int (endF_ w (letL L) (w.length + (i + 1)) j)) ++ [PyData.int 0] = (List.range (w.length + (i + 1) + 1)).map fun j => PyData.int (endF_ w (letL L) (w.length + (i + 1)) j) := by
      rw [List.range_succ (n := w.length + (i + 1)), List.map_append, show w.length + (i + 1) = w.length + i + 1 by omega]
      congr 2
      simp [endF_]
    have l3 : ((List.range (w.length + i + 1)).map fun j => PyData.int (endF_ w (letL L) (w.length + (i + 1)) j)).length < lim := by simp; unfold lim; omega
    have l4 : ((List.range (i + 1)).map fun j => PyData.int (aN w (letL L) j : Nat)).length < lim := by simp; unfold lim; omega
    have a3 := at_rng (endF_ w (letL L) (w.length + (i + 1))) (show i + 1 < w.length + (i + 1) + 1 by omega)
    have a4 : endF_ w (letL L) (w.length + (i + 1)) (i + 1) = (bN w (letL L) (i + 1) : Int) := if_pos (by omega)
    rw [a4] at a3
    have i1 : (i : Int) + 1 = ((i + 1 : Nat) : Int) := by omega
    have z : (-(2 ^ 64) < (L : Int) ∧ (L : Int) < 2 ^ 64) ∨ (-(2 ^ 64) < ((aN w (letL L) i : Nat) : Int) ∧ ((aN w (letL L) i : Nat) : Int) < 2 ^ 64) := .inl (by omega)
    have st := ab_step w (letL L) i
    rw [letL_len] at st
    have st' : (L : Int) * (aN w (letL L) i : Int) - (bN w (letL L) (i + 1) : Int) = (aN w (letL L) (i + 1) : Int) := by
      have : ((L * aN w (letL L) i : Nat) : Int) = ((aN w (letL L) (i + 1) + bN w (letL L) (i + 1) : Nat) : Int) := congrArg _ st
      rw [Int.natCast_mul, Int.natCast_add] at this
      omega
    rw [exB_put]
    simp -implicitDefEqProofs only [exB_app, ed_eq, ev_bnr, ev_ix, ev_cst, lit_int, lk_var, List.getElem?_cons_succ, List.getElem?_cons_zero, lkR_ol, ev_vr, varR_fz, dOf_r, bnd_ret', idx_l, a1, Option.map_some, opt_s, bin_sub, bn, bin_add, putR_ol, p1, dOf_bnd', bnd_assoc, appR_ol, if_pos l3, ap, List.set_cons_succ, List.set_cons_zero, bin_mul, if_pos z, i1, a3, st', if_pos l4, exB_nil]
    refine tw_ret.mpr ?_
    refine ⟨_, rfl, rfl, some (.fz (.p (.int (i : Int)))), some (.fz (.p (.int (B0 : Nat)))), b8, ?_⟩
    rw [List.range_succ (n := i + 1), List.map_append]
    rfl
  · subst e hρ
    rw [rngL_len]
    simp only [exB_frz, frzR_ol, bnd_ret', List.getElem?_cons_succ, List.getElem?_cons_zero, List.set_cons_succ, List.set_cons_zero]
    exact tw_rt (m' := m') (by simp) (tw_ret.mpr ⟨rfl, rfl⟩)
end
end G

end
section
set_option maxHeartbeats 4000000
namespace G
open PySem PySem.Spec PyProof.Rows L2
def pairD (r : List Int) : PyData := .tuple [.int (r.length : Int), tI r]
def ltP (y a : List Int) : Bool := decide (y.length < a.length) || (decide (y.length = a.length) && decide (y < a))
def ltL (y a : List Int) : Bool := decide (y < a)
def best (lt : List Int → List Int → Bool) (x : List Int) (l : List (List Int)) : List Int := l.foldl (fun a y => if lt y a = true then y else a) x
structure Ord (lt : List Int → List Int → Bool) : Prop where
  irr : ∀ a, lt a a = false
  neg : ∀ a b c, lt a b = false → lt b c = false → lt a c = false
  asy : ∀ a b, lt a b = true → lt b a = false
theorem best_spec {lt : List Int → List Int → Bool} (o : Ord lt) : ∀ (l : List (List Int)) (x : List Int), best lt x l ∈ x :: l ∧ ∀ y ∈ x :: l, lt y (best lt x l) = false
  | [], x => ⟨by simp [best], fun y hy => by
    rcases List.mem_cons.mp hy with rfl | hy
    · exact o.irr _
    · cases hy⟩
  | z :: l, x => by
    have e : best lt x (z :: l) = best lt (if lt z x = true then z else x) l := rfl
    rw [e]
    obtain ⟨h1, h2⟩ := best_spec o l (if lt z x = true then z else x)
    refine ⟨?_, fun y hy => ?_⟩
    · rcases List.mem_cons.mp h1 with q | q
      · rw [q]; split <;> simp
      · simp [q]
    · have h0 := h2 _ List.mem_cons_self
      rcases List.mem_cons.mp hy with rfl | hy
      · by_cases q : lt z y = true
        · rw [if_pos q] at h0 ⊢
          exact o.neg _ _ _ (o.asy _ _ q) h0
        · rw [if_neg q] at h0 ⊢
          exact h0
      · rcases List.mem_cons.mp hy with rfl | hy
        · by_cases q : lt y x = true
          · rw [if_pos q] at h0 ⊢; exact h0
          · rw [if_neg q] at h0 ⊢
            exact o.neg _ _ _ (by simpa using q) h0
        · exact h2 y (by simp [hy])
theorem ordL : Ord ltL := by
  refine ⟨fun a => ?_, fun a b c h1 h2 => ?_, fun a b h => ?_⟩
  · simp [ltL, List.lt_irrefl]
  · simp only [ltL, decide_eq_false_iff_not, List.not_lt] at *
    exact List.le_trans h2 h1
  · simp only [ltL, decide_eq_true_eq, decide_eq_false_iff_not] at *
    exact fun q => List.lt_irrefl a (List.lt_trans h q)
theorem ordP : Ord ltP := by
  refine ⟨fun a => ?_, fun a b c h1 h2 => ?_, fun a b h => ?_⟩
  · simp [ltP, List.lt_irrefl]
  · simp only [ltP, Bool.or_eq_false_iff, Bool.and_eq_false_iff, decide_eq_false_iff_not, List.not_lt] at *
    refine ⟨by omega, ?_⟩
    by_cases q : a.length = c.length
    · right
      have e1 : b ≤ a := h1.2.resolve_left (by omega)
      have e2 : c ≤ b := h2.2.resolve_left (by omega)
      exact List.le_trans e2 e1
    · exact .inl q
  · simp only [ltP, Bool.or_eq_true, Bool.and_eq_true, Bool.or_eq_false_iff, Bool.and_eq_false_iff, decide_eq_true_eq, decide_eq_false_iff_not] at *
    rcases h with h | ⟨h1, h2⟩
    · exact ⟨by omega, .inl (by omega)⟩
    · exact ⟨by omega, .inr fun q => List.lt_irrefl a (List.lt_trans h2 q)⟩
theorem data_ltL (y a : List Int) : PySem.W.dataLt (tI y) (tI a) = ltL y a := by
  rw [tI, tI, PySem.W.dataLt_tuple]
  show PySem.W.rowLt (y.map .int) (a.map .int) = _
  rw [PySem.W.dataLt_ints]; rfl
theorem eqv_tI (a b : List Int) : PyData.eqv (tI a) (tI b) = decide (a = b) := by
  rw [tI, tI, PyData.eqv, eqvAll_int]
theorem alike_tI (a b : List Int) : PySem.W.alike (tI a) (tI b) = true := by
  rw [tI, tI, PySem.W.alike]; exact alike_ints a b
theorem data_ltP (y a : List Int) : PySem.W.dataLt (pairD y) (pairD a) = ltP y a := by
  unfold pairD
  rw [PySem.W.dataLt_pair rfl (alike_tI y a), PySem.W.dataLt_int, eqv_tI, data_ltL]
  have e1 : PyData.eqv (.int (y.length : Int)) (.int (a.length : Int)) = decide ((y.length : Int) = (a.length : Int)) := by
    rw [PyData.eqv]
    by_cases h : (y.length : Int) = (a.length : Int) <;> simp [h]
  rw [e1]
  unfold ltP ltL
  by_cases q : y.length = a.length
  · have q' : (y.length : Int) = (a.length : Int) := by omega
    by_cases e : y = a
    · subst e; simp [List.lt_irrefl]
    · simp [q, e]
  · have q' : ¬ (y.length : Int) = (a.length : Int) := by omega
    simp [q, q']
theorem minD_best {c : List Int → PyData} {lt : List Int → List Int → Bool} (h : ∀ y a, PySem.W.dataLt (c y) (c a) = lt y a) : ∀ (l : List (List Int)) (x : List Int), PySem.W.minD (c x) (l.map c) = c (best lt x l)
  | [], x => rfl
  | z :: l, x => by
    have := minD_best h l (if lt z x = true then z else x)
    show PySem.W.minD (if PySem.W.dataLt (c z) (c x) = true then c z else c x) (l.map c) = _
    rw [h]
    rw [show (if lt z x = true then c z else c x) = c (if lt z x = true then z else x) by split <;> rfl, this]
    rfl
theorem bestA_of {c : List Int → PyData} (x : List Int) (l : List (List Int)) (h1 : ∀ a b, PySem.W.alike (c a) (c b) = true) (h2 : ∀ a, nonN (c a) = true) (h3 : ∀ a, (c a).depth ≤ 20) (h4 : ∀ a, (c a).hasDict = false) (f : PyData → List PyData → PyData) : bestA f ((x :: l).map c) = some (f (c x) (l.map c)) := by
  rw [List.map_cons, bestA, if_pos]
  rw [← List.map_cons]
  generalize x :: l = t
  refine ⟨?_, ?_, ?_, ?_⟩
  · unfold alikeB
    rw [List.all_eq_true]
    intro a ha
    rw [List.all_eq_true]
    intro b hb
    obtain ⟨_, _, rfl⟩ := List.mem_map.mp ha
    obtain ⟨_, _, rfl⟩ := List.mem_map.mp hb
    exact h1 _ _
  · rw [List.all_eq_true]
    intro a ha
    obtain ⟨_, _, rfl⟩ := List.mem_map.mp ha
    exact h2 _
  · induction t with
    | nil => simp [PyData.depthAll]
    | cons y t ih => rw [List.map_cons, PyData.depthAll]; exact Nat.max_le.mpr ⟨h3 y, ih⟩
  · induction t with
    | nil => simp [PyData.hasDictAll]
    | cons y t ih => rw [List.map_cons, PyData.hasDictAll, h4 y, ih]; rfl
theorem nodict_tI (a : List Int) : (tI a).hasDict = false := by
  rw [tI, PyData.hasDict]; exact PyData.hasDictAll_of_canLayAll _ (canLayAll_int _)
theorem min_rows (x : List Int) (l : List (List Int)) : minX ((x :: l).map tI) = some (tI (best ltL x l)) := by
  have e : intsL ((x :: l).map tI) = none := rfl
  unfold minX
  rw [e]
  show bestA _ _ = _
  rw [bestA_of x l alike_tI (fun _ => rfl) (fun a => by rw [tI, PyData.depth, depthAll_int]; decide) nodict_tI, minD_best data_ltL]
theorem min_pairs (x : List Int) (l : List (List Int)) : minX ((x :: l).map pairD) = some (pairD (best ltP x l)) := by
  have e : intsL ((x :: l).map pairD) = none := rfl
  unfold minX
  rw [e]
  show bestA _ _ = _
  rw [bestA_of x l (fun a b => ?_) (fun _ => rfl) (fun a => ?_) (fun a => ?_), minD_best data_ltP]
  · unfold pairD
    rw [PySem.W.alike, PySem.W.alikeAll, PySem.W.alikeAll, alike_tI]
    simp [PySem.W.alikeAll, PySem.W.alike]
  · unfold pairD
    rw [PyData.depth, PyData.depthAll, PyData.depthAll, tI, PyData.depth, depthAll_int]
    simp [PyData.depth, PyData.depthAll]
  · unfold pairD
    rw [PyData.hasDict, PyData.hasDictAll, PyData.hasDictAll, nodict_tI]
    simp [PyData.hasDict, PyData.hasDictAll]
theorem best_same {x y : List Int} {l t s : List (List Int)} {c : Nat} (h : ∀ r, r ∈ x :: l ↔ r ∈ t) (hc : ∃ r ∈ t, r.length = c) (hm : ∀ r ∈ t, c ≤ r.length) (hs : y :: s = t.filter fun r => decide (r.length = c)) : best ltP x l = best ltL y s := by
  obtain ⟨p1, p2⟩ := best_spec ordP l x
  obtain ⟨q1, q2⟩ := best_spec ordL s y
  generalize best ltP x l = p at *
  generalize best ltL y s = q at *
  rw [hs] at q1 q2
  have qt := List.mem_filter.mp q1
  have ql : q.length = c := by simpa using qt.2
  have pt := (h p).mp p1
  have pl : p.length = c := by
    obtain ⟨r, r1, r2⟩ := hc
    have := p2 r ((h r).mpr r1)
    simp only [ltP, Bool.or_eq_false_iff, decide_eq_false_iff_not] at this
    have := hm p pt
    omega
  have e1 := q2 p (List.mem_filter.mpr ⟨pt, by simpa using pl⟩)
  have e2 := p2 q ((h q).mpr qt.1)
  simp only [ltL, decide_eq_false_iff_not, List.not_lt] at e1
  simp only [ltP, Bool.or_eq_false_iff, Bool.and_eq_false_iff, decide_eq_false_iff_not, List.not_lt] at e2
  have e3 := e2.2.resolve_left (by omega)
  exact List.le_antisymm e3 e1
end G

end
section
set_option maxHeartbeats 4000000
namespace P
open PySem PySem.Spec PyProof.Rows L2 G
def d_agree_at : Def := ⟨3, 5, (.cons (.for (.two 3 4) (.enum (.var 1)) (.cons (.ite (.and (.chain .LtE .Lt (.cst (.int 0)) (.bin .Add (.var 3) (.var 2)) (.bi .len (.var 0))) (.cons (.cmp .NotEq (.idx (.var 0) (.bin .Add (.var 3) (.var 2))) (.var 4)) .nil)) (.cons (.rt (.cst (.bl false))) .nil) .nil) .nil)) (.cons (.rt (.cst (.bl true))) .nil))⟩
def d_meets : Def := ⟨2, 3, (.cons (.expr (.call "need_word" (.cons (.var 0) .nil))) (.cons (.expr (.call "need_word" (.cons (.var 1) .nil))) (.cons (.rt (.bi .tuple (.comp (.var 2) (.one 2) (.rng2 (.bin .Sub (.cst (.int 1)) (.bi .len (.var 1))) (.bi .len (.var 0))) (.yes (.call "agree_at" (.cons (.var 0) (.cons (.var 1) (.cons (.var 2) .nil)))))))) .nil)))⟩
def d_both_at : Def := ⟨3, 7, (.cons (.par2 5 6 false false (.bi2 .min (.cst (.int 0)) (.var 2)) (.bi2 .max (.bi .len (.var 0)) (.bin .Add (.var 2) (.bi .len (.var 1))))) (.cons (.own 3 (.lst .nil)) (.cons (.for (.one 4) (.rng2 (.var 5) (.var 6)) (.cons (.app 3 (.ite (.chain .LtE .Lt (.cst (.int 0)) (.var 4) (.bi .len (.var 0))) (.idx (.var 0) (.var 4)) (.idx (.var 1) (.bin .Sub (.var 4) (.var 2))))) .nil)) (.cons (.rt (.bi .tuple (.var 3))) .nil))))⟩
def d_shortest_over : Def := ⟨2, 6, (.cons (.expr (.call "need_word" (.cons (.var 0) .nil))) (.cons (.expr (.call "need_word" (.cons (.var 1) .nil))) (.cons (.set 2 (.rngs false (.rng2 (.bin .Sub (.cst (.int 0)) (.bi .len (.var 1))) (.bin .Add (.bi .len (.var 0)) (.cst (.int 1)))))) (.cons (.set 3 (.comp (.call "both_at" (.cons (.var 0) (.cons (.var 1) (.cons (.var 4) .nil)))) (.one 4) (.val (.var 2)) (.yes (.call "agree_at" (.cons (.var 0) (.cons (.var 1) (.cons (.var 4) .nil))))))) (.cons (.rt (.idx (.bi .min (.comp (.tup (.cons (.bi .len (.var 5)) (.cons (.var 5) .nil))) (.one 5) (.val (.var 3)) .no)) (.cst (.int 1)))) .nil)))))⟩
def d_lmeets : Def := ⟨2, 6, (.cons (.set 2 (.lst .nil)) (.cons (.for (.one 3) (.rng2 (.bin .Sub (.cst (.int 1)) (.bi .len (.var 1))) (.bi .len (.var 0))) (.cons (.set 4 (.comp (.var 5) (.one 5) (.rng1 (.bi .len (.var 1))) (.yes (.and (.chain .LtE .Lt (.cst (.int 0)) (.bin .Add (.var 5) (.var 3)) (.bi .len (.var 0))) (.cons (.cmp .NotEq (.idx (.var 0) (.bin .Add (.var 5) (.var 3))) (.idx (.var 1) (.var 5))) .nil))))) (.cons (.set 2 (.bin .Add (.var 2) (.bin .Mult (.lst (.cons (.var 3) .nil)) (.bi .int (.cmp .Eq (.var 4) (.lst .nil)))))) .nil))) (.cons (.rt (.var 2)) .nil)))⟩
def d_llaid : Def := ⟨3, 6, (.cons (.own 3 .dct) (.cons (.for (.two 4 5) (.enum (.var 1)) (.cons (.dput 3 (.bin .Add (.var 4) (.var 2)) (.var 5)) .nil)) (.cons (.for (.two 4 5) (.enum (.var 0)) (.cons (.dput 3 (.var 4) (.var 5)) .nil)) (.cons (.rt (.bi .tuple (.comp (.dix 3 (.var 4)) (.one 4) (.val (.bi .sorted (.dkeys 3))) .no))) .nil))))⟩
def d_ltwo : Def := ⟨1, 7, (.cons (.set 1 (.bin .Add (.cst (.int 1)) (.call "_law_draw" (.cons (.var 0) (.cons (.cst (.int 3)) .nil))))) (.cons (.set 2 (.idx (.lst (.cons (.cst (.int 8)) (.cons (.cst (.int 8)) (.cons (.cst (.int 24)) .nil)))) (.call "_law_draw" (.cons (.var 0) (.cons (.cst (.int 3)) .nil))))) (.cons (.par2 4 5 false false (.call "_law_word" (.cons (.var 0) (.cons (.var 1) (.cons (.bin .Add (.cst (.int 1)) (.call "_law_draw" (.cons (.var 0) (.cons (.var 2) .nil)))) .nil)))) (.call "_law_word" (.cons (.var 0) (.cons (.var 1) (.cons (.bin .Add (.cst (.int 1)) (.call "_law_draw" (.cons (.var 0) (.cons (.var 2) .nil)))) .nil))))) (.cons (.set 3 (.call "_law_draw" (.cons (.var 0) (.cons (.cst (.int 3)) .nil)))) (.cons (.ite (.cmp .Eq (.var 3) (.cst (.int 1))) (.cons (.set 5 (.slc (.bin .Add (.slc (.var 4) (.yes (.call "_law_draw" (.cons (.var 0) (.cons (.bi .len (.var 4)) .nil)))) .no) (.var 5)) .no (.yes (.var 2)))) .nil) .nil) (.cons (.ite (.cmp .Eq (.var 3) (.cst (.int 2))) (.cons (.set 6 (.call "_law_draw" (.cons (.var 0) (.cons (.bi .len (.var 4)) .nil)))) (.cons (.set 5 (.slc (.var 4) (.yes (.var 6)) (.yes (.bin .Add (.bin .Add (.var 6) (.cst (.int 1))) (.call "_law_draw" (.cons (.var 0) (.cons (.bin .Sub (.bi .len (.var 4)) (.var 6)) .nil))))))) .nil)) .nil) (.cons (.rt (.tup (.cons (.var 4) (.cons (.var 5) .nil)))) .nil)))))))⟩
end P
namespace G
open PySem PySem.Spec PyProof.Rows L2
def seqL (lo : Int) (n : Nat) : List Int := (List.range n).map fun (i : Nat) => lo + (i : Int)
theorem rngL_seq (lo : Int) (n : Nat) : rngL lo n = (seqL lo n).map .int := by
  unfold rngL seqL; rw [List.map_map]; rfl
@[simp] theorem seqL_len (lo : Int) (n : Nat) : (seqL lo n).length = n := by simp [seqL]
theorem mem_seqL {lo x : Int} {n : Nat} : x ∈ seqL lo n ↔ lo ≤ x ∧ x < lo + n := by
  simp only [seqL, List.mem_map, List.mem_range]
  constructor
  · rintro ⟨i, h, rfl⟩; omega
  · rintro ⟨h1, h2⟩; exact ⟨(x - lo).toNat, by omega, by omega⟩
theorem seqL_pair (lo : Int) (n : Nat) : (seqL lo n).Pairwise (· < ·) := by
  unfold seqL
  rw [List.pairwise_map]
  exact (List.pairwise_lt_range (n := n)).imp fun h => by omega
theorem ascI_ext {a b : List Int} (ha : a.Pairwise (· < ·)) (hb : b.Pairwise (· < ·)) (h : ∀ x, x ∈ a ↔ x ∈ b) : a = b := by
  have na : a.Nodup := ha.imp fun h => Int.ne_of_lt h
  have nb : b.Nodup := hb.imp fun h => Int.ne_of_lt h
  exact List.Perm.eq_of_pairwise (le := fun a b : Int => a < b) (fun a b _ _ h1 h2 => by omega) ha hb ((List.perm_ext_iff_of_nodup na nb).mpr h)
def agF (one : List Int) (st : Int) : Nat → List Int → Bool
  | _, [] => true
  | k, x :: xs => (!(decide (0 ≤ (k : Int) + st) && decide ((k : Int) + st < one.length)) || decide (one.getD ((k : Int) + st).toNat 0 = x)) && agF one st (k + 1) xs
theorem agF_iff {one : List Int} {st : Int} : ∀ {xs : List Int} {k : Nat}, agF one st k xs = true ↔ ∀ i, i < xs.length → 0 ≤ ((k + i : Nat) : Int) + st → ((k + i : Nat) : Int) + st < one.length → one.getD (((k + i : Nat) : Int) + st).toNat 0 = xs.getD i 0
  | [], k => by simp [agF]
  | x :: xs, k => by
    rw [agF, Bool.and_eq_true, agF_iff (xs := xs) (k := k + 1)]
    constructor
    · rintro ⟨h1, h2⟩ i hi h3 h4
      cases i with
      | zero =>
        simp only [Nat.add_zero] at h3 h4 ⊢
        simpa [h3, h4] using h1
      | succ i =>
        have := h2 i (by simpa using hi) (by omega) (by omega)
        rw [show k + (i + 1) = k + 1 + i by omega]
        simpa using this
    · intro h
      refine ⟨?_, fun i hi h3 h4 => ?_⟩
      · have := h 0 (by simp)
        simp only [Nat.add_zero, List.getD_cons_zero] at this
        by_cases q1 : 0 ≤ (k : Int) + st
        · by_cases q2 : (k : Int) + st < one.length
          · have := this q1 q2
            simp only [this, decide_true, Bool.or_true]
          · simp [q2]
        · simp [q1]
      · have := h (i + 1) (by simpa using hi) (by omega) (by omega)
        rw [show k + (i + 1) = k + 1 + i by omega] at this
        simpa using this
def meetsL (one other : List Int) : List Int := (seqL (1 - (other.length : Int)) (one.length + other.length - 1)).filter fun st => agF one st 0 other
def fstO (st : Int) : Int := if st < 0 then st else 0
def lstO (a b : Nat) (st : Int) : Int := if (a : Int) < st + b then st + b else a
def ovA (one other : List Int) (st p : Int) : Int := if 0 ≤ p ∧ p < one.length then one.getD p.toNat 0 else other.getD (p - st).toNat 0
def ovL (one other : List Int) (st : Int) : List Int := (seqL (fstO st) (lstO one.length other.length st - fstO st).toNat).map (ovA one other st)
section
variable {Γ : Str → Option Fn} {W n : Nat} {m : Ms}
theorem agree_loop (cl : Str → List Val → Ms → R Val) (b1 : Bool) (one : List Int) (w : Slot) (st : Int) : ∀ (xs : List Int) (k : Nat) (a c : Option Slot),
    bnd (bnd (forGo (lturn cl W (.two 3 4) (.cons (.ite (.and (.chain .LtE .Lt (.cst (.int 0)) (.bin .Add (.var 3) (.var 2)) (.bi .len (.var 0))) (.cons (.cmp .NotEq (.idx (.var 0) (.bin .Add (.var 3) (.var 2))) (.var 4)) .nil)) (.cons (.rt (.cst (.bl false))) .nil) .nil) .nil)) (enumK k (xs.map .int)) [some (.fz (.p (sq b1 (one.map .int)))), some w, some (.fz (.p (.int st))), a, c] m) (kb cl W (.cons (.rt (.cst (.bl true))) .nil))) endF
      = ret (.p (.bool (agF one st k xs))) m
  | [], k, a, c => by simp [enumK, forGo, agF, endF]
  | x :: xs, k, a, c => by
    have ih := agree_loop cl b1 one w st xs (k + 1) (some (.fz (.p (.int (k : Int))))) (some (.fz (.p (.int x))))
    rw [List.map_cons, enumK, forGo, agF]
    by_cases q1 : 0 ≤ (k : Int) + st
    · by_cases q2 : (k : Int) + st < one.length
      · obtain ⟨j, hj⟩ := Int.eq_ofNat_of_zero_le q1
        have i1 := idx_sq b1 one j (by omega)
        rw [hj] at q2 ⊢
        by_cases q3 : one.getD j 0 = x
        · subst q3
          simp [cmpD, hj, i1, q2]
          simpa using ih
        · simp [cmpD, hj, i1, q2, endF]
          have q3' : ¬ one[j]?.getD 0 = x := by simpa using q3
          rw [if_neg q3']
          simp [q3', endF]
      · simp [cmpD, q1, q2]
        simpa using ih
    · simp [cmpD, q1]
      simpa using ih
theorem enum_sq (b : Bool) (w : List Int) : (seqOf (sq b (w.map .int))).map enumL = some (enumK 0 (w.map .int)) := by
  rw [seq_sq, Option.map_some, enumL_eq]
theorem run_agree {f : Str} (h : Γ f = some (.code P.d_agree_at)) (b1 b2 : Bool) {one other : List Int} {st : Int} : run Γ W (n + 1) f [.p (sq b1 (one.map .int)), .p (sq b2 (other.map .int)), .p (.int st)] m = ret (.p (.bool (agF one st 0 other))) m := by
  rw [run_code h rfl]
  have := agree_loop (W := W) (m := m) (run Γ W n) b1 one (.fz (.p (sq b2 (other.map .int)))) st other 0 none none
  simp only [P.d_agree_at, startR, List.map_cons, List.map_nil, List.length_cons, List.length_nil, List.replicate, List.cons_append, List.nil_append, exB_for, evI_enum, ev_vr, List.getElem?_cons_succ, List.getElem?_cons_zero, varR_fz, dOf_r, bnd_ret', enum_sq, opt_s]
  exact this
theorem rngR_seq {lo hi : Int} (m : Ms) (h : -1000000 ≤ lo ∧ lo ≤ 1000000 ∧ -1000000 ≤ hi ∧ hi ≤ 1000000) : rngR (.int lo) (.int hi) m = ret ((seqL lo (hi - lo).toNat).map .int) m := by
  show (if rngOk lo hi = true then ret (rngL lo (hi - lo).toNat) m else none) = _
  rw [if_pos (rngOk_of h), rngL_seq]
theorem run_meets (h : H2 Γ) (ha : Γ "agree_at" = some (.code P.d_agree_at)) (hm : Γ "meets" = some (.code P.d_meets)) (b1 b2 : Bool) {one other : List Int} (w1 : Word one) (w2 : Word other) : run Γ W (n + 4) "meets" [.p (sq b1 (one.map .int)), .p (sq b2 (other.map .int))] m = ret (.p (tI (meetsL one other))) m := by
  rw [run_code hm rfl]
  have r1 : ∀ m, run Γ W (n + 3) "need_word" [.p (sq b1 (one.map .int))] m = ret (.p .none) m := fun m => by rw [run_need_word h, wordBad_ok w1]; rfl
  have r2 : ∀ m, run Γ W (n + 3) "need_word" [.p (sq b2 (other.map .int))] m = ret (.p .none) m := fun m => by rw [run_need_word h, wordBad_ok w2]; rfl
  have r3 : ∀ (st : Int) m, run Γ W (n + 3) "agree_at" [.p (sq b1 (one.map .int)), .p (sq b2 (other.map .int)), .p (.int st)] m = ret (.p (.bool (agF one st 0 other))) m := fun st m => run_agree (n := n + 2) ha b1 b2
  have l1 := w1.2.1
  have l2 := w2.2.1
  have l3 := w2.1
  have e1 : ((one.length : Int) - (1 - (other.length : Int))).toNat = one.length + other.length - 1 := by omega
  have e2 : ((seqL (1 - (other.length : Int)) (one.length + other.length - 1)).map PyData.int).length ≤ lim := by rw [List.length_map, seqL_len]; unfold lim; omega
  simp only [P.d_meets, startR, List.map_cons, List.map_nil, List.length_cons, List.length_nil, List.replicate, List.cons_append, List.nil_append, exB_expr, exB_rt, ev_call, eva_cons, eva_nil, ev_vr, List.getElem?_cons_succ, List.getElem?_cons_zero, varR_fz, bnd_ret', r1, r2, ev_blt, lk_comp, ev_comp, evI_rng2, ev_bnr, ev_cst, lit_int, lk_var, lkR_fz, len_sq, List.length_map, Option.map_some, opt_s, dOf_r, bin_sub, bnd_assoc, dOf_bnd', rngR_seq m (show -1000000 ≤ 1 - (other.length : Int) ∧ 1 - (other.length : Int) ≤ 1000000 ∧ -1000000 ≤ (one.length : Int) ∧ (one.length : Int) ≤ 1000000 by omega), e1, if_pos (show (seqL (1 - (other.length : Int)) (one.length + other.length - 1)).length ≤ lim by rw [seqL_len]; unfold lim; omega)]
  rw [compGo_sel (fun st : Int => agF one st 0 other) PyData.int fun st hs => ?_]
  · rfl
  · simp [r3]
theorem run_both {f : Str} (h : Γ f = some (.code P.d_both_at)) (b1 b2 : Bool) {one other : List Int} (w1 : Word one) (w2 : Word other) {st : Int} (s1 : -(other.length : Int) ≤ st) (s2 : st ≤ one.length) : run Γ W (n + 1) f [.p (sq b1 (one.map .int)), .p (sq b2 (other.map .int)), .p (.int st)] m = ret (.p (tI (ovL one other st))) m := by
  rw [run_code h rfl]
  have l1 := w1.2.1
  have l2 := w2.2.1
  refine tw_eq (tw_bnd.mpr ?_)
  simp only [P.d_both_at, startR, List.map_cons, List.map_nil, List.length_cons, List.length_nil, List.replicate, List.cons_append, List.nil_append]
  have f1 : -24 ≤ fstO st ∧ fstO st ≤ 0 ∧ fstO st ≤ st := by unfold fstO; split <;> omega
  have f2 : (one.length : Int) ≤ lstO one.length other.length st ∧ st + other.length ≤ lstO one.length other.length st ∧ lstO one.length other.length st ≤ 48 ∧ (lstO one.length other.length st = one.length ∨ lstO one.length other.length st = st + other.length) := by unfold lstO; split <;> omega
  have f3 : fstO st = 0 ∨ fstO st = st := by unfold fstO; split <;> simp
  refine tw_par2 (u := .p (.int (fstO st))) (v := .p (.int (lstO one.length other.length st))) (m' := m) (m'' := m) ?_ ?_ ?_
  · simp [fstO]
  · simp [lstO]
  dsimp only [List.set]
  refine tw_own (l := []) (m' := m) (by simp) ?_
  dsimp only [List.set]
  generalize hN : (lstO one.length other.length st - fstO st).toNat = N
  refine tw_loop (xs := (seqL (fstO st) N).map .int) (m' := m) ?_
    (fun i ρ m' => m' = m ∧ ∃ b4, ρ = [some (.fz (.p (sq b1 (one.map .int)))), some (.fz (.p (sq b2 (other.map .int)))), some (.fz (.p (.int st))), some (.ol (((seqL (fstO st) i).map (ovA one other st)).map .int)), b4, some (.fz (.p (.int (fstO st)))), some (.fz (.p (.int (lstO one.length other.length st))))])
    ⟨rfl, none, rfl⟩ (fun i x ρ m' hx ⟨e, b4, hρ⟩ => ?_) fun ρ' m' ⟨e, b4, hρ⟩ => ?_
  · simp only [evI_rng2, ev_vr, List.getElem?_cons_succ, List.getElem?_cons_zero, varR_fz, dOf_r, bnd_ret', rngR_seq m (show -1000000 ≤ fstO st ∧ fstO st ≤ 1000000 ∧ -1000000 ≤ lstO one.length other.length st ∧ lstO one.length other.length st ≤ 1000000 by omega), hN]
  · subst e hρ
    have hi : i < N := by have := (List.getElem?_eq_some_iff.mp hx).1; simpa using this
    have ex : x = .int (fstO st + (i : Int)) := by
      rw [List.getElem?_map, seqL, List.getElem?_map, List.getElem?_range hi] at hx
      exact (Option.some.inj hx).symm
    subst ex
    have es : seqL (fstO st) (i + 1) = seqL (fstO st) i ++ [fstO st + (i : Int)] := by unfold seqL; rw [List.range_succ, List.map_append]; rfl
    generalize hp : fstO st + (i : Int) = p at es ⊢
    have hp2 : fstO st ≤ p ∧ p < lstO one.length other.length st := by omega
    rw [lturn_one]
    dsimp only [List.set]
    have ll : (((seqL (fstO st) i).map (ovA one other st)).map PyData.int).length < lim := by simp; unfold lim; omega
    have ee : ∀ ρ3 : Option Slot, ed (run Γ W n) (.ite (.chain .LtE .Lt (.cst (.int 0)) (.var 4) (.bi .len (.var 0))) (.idx (.var 0) (.var 4)) (.idx (.var 1) (.bin .Sub (.var 4) (.var 2)))) [some (.fz (.p (sq b1 (one.map .int)))), some (.fz (.p (sq b2 (other.map .int)))), some (.fz (.p (.int st))), ρ3, some (.fz (.p (.int p))), some (.fz (.p (.int (fstO st)))), some (.fz (.p (.int (lstO one.length other.length st))))] m' = ret (.int (ovA one other st p)) m' := fun ρ3 => by
      rw [ed_eq]
      by_cases q : 0 ≤ p ∧ p < one.length
      · obtain ⟨j, hj⟩ := Int.eq_ofNat_of_zero_le q.1
        have i1 := idx_sq b1 one j (by omega)
        have q2 : (j : Int) < one.length := by omega
        have e1 : ovA one other st p = one.getD j 0 := by unfold ovA; rw [if_pos q, hj, Int.toNat_natCast]
        rw [e1]
        subst hj
        simp [cmpD, i1, q2]
      · obtain ⟨j, hj⟩ := Int.eq_ofNat_of_zero_le (show 0 ≤ p - st by omega)
        have i1 := idx_sq b2 other j (by omega)
        have e1 : ovA one other st p = other.getD j 0 := by unfold ovA; rw [if_neg q, hj, Int.toNat_natCast]
        rw [e1]
        by_cases q1 : 0 ≤ p
        · have q2 : ¬ p < one.length := fun z => q ⟨q1, z⟩
          simp [cmpD, q1, q2, hj, i1]
        · simp [cmpD, q1, hj, i1]
    rw [exB_app, ee]
    simp only [bnd_ret', List.getElem?_cons_succ, List.getElem?_cons_zero, appR_ol, if_pos ll, List.set_cons_succ, List.set_cons_zero, exB_nil]
    refine tw_ret.mpr ?_
    refine ⟨_, rfl, rfl, some (.fz (.p (.int p))), ?_⟩
    rw [es, List.map_append, List.map_append]
    rfl
  · subst e hρ
    rw [List.length_map, seqL_len]
    refine tw_rt (v := .p (tI (ovL one other st))) (m' := m') ?_ (tw_ret.mpr ⟨rfl, rfl⟩)
    simp [ovL, hN, tI]
def startsL (one other : List Int) : List Int := (seqL (-(other.length : Int)) (one.length + other.length + 1)).filter fun st => agF one st 0 other
def shortL (one other : List Int) : List Int := match (startsL one other).map (ovL one other) with
  | [] => []
  | x :: l => best ltP x l
theorem mem_startsL {one other : List Int} {st : Int} (h : st ∈ startsL one other) : -(other.length : Int) ≤ st ∧ st ≤ one.length := by
  have := mem_seqL.mp (List.mem_filter.mp h).1
  omega
theorem agF_out {one other : List Int} {st : Int} (h : st = -(other.length : Int) ∨ st = one.length) : agF one st 0 other = true := by
  rw [agF_iff]
  intro i hi h1 h2
  omega
theorem startsL_ne (one other : List Int) : startsL one other ≠ [] := by
  have : -(other.length : Int) ∈ startsL one other := List.mem_filter.mpr ⟨mem_seqL.mpr (by omega), agF_out (.inl rfl)⟩
  intro z
  rw [z] at this
  cases this
theorem ovL_len_le {one other : List Int} (w1 : Word one) (w2 : Word other) {st : Int} (s1 : -(other.length : Int) ≤ st) (s2 : st ≤ one.length) : (ovL one other st).length ≤ 48 := by
  have := w1.2.1
  have := w2.2.1
  unfold ovL
  rw [List.length_map, seqL_len]
  unfold lstO fstO
  split <;> split <;> omega
theorem run_shortest (h : H2 Γ) (ha : Γ "agree_at" = some (.code P.d_agree_at)) (hb : Γ "both_at" = some (.code P.d_both_at)) (hm : Γ "shortest_over" = some (.code P.d_shortest_over)) (b1 b2 : Bool) {one other : List Int} (w1 : Word one) (w2 : Word other) : run Γ W (n + 4) "shortest_over" [.p (sq b1 (one.map .int)), .p (sq b2 (other.map .int))] m = ret (.p (tI (shortL one other))) m := by
  rw [run_code hm rfl]
  have r1 : ∀ m, run Γ W (n + 3) "need_word" [.p (sq b1 (one.map .int))] m = ret (.p .none) m := fun m => by rw [run_need_word h, wordBad_ok w1]; rfl
  have r2 : ∀ m, run Γ W (n + 3) "need_word" [.p (sq b2 (other.map .int))] m = ret (.p .none) m := fun m => by rw [run_need_word h, wordBad_ok w2]; rfl
  have r3 : ∀ (st : Int) m, run Γ W (n + 3) "agree_at" [.p (sq b1 (one.map .int)), .p (sq b2 (other.map .int)), .p (.int st)] m = ret (.p (.bool (agF one st 0 other))) m := fun st m => run_agree (n := n + 2) ha b1 b2
  have r4 : ∀ (st : Int) m, -(other.length : Int) ≤ st → st ≤ one.length → run Γ W (n + 3) "both_at" [.p (sq b1 (one.map .int)), .p (sq b2 (other.map .int)), .p (.int st)] m = ret (.p (tI (ovL one other st))) m := fun st m h1 h2 => run_both (n := n + 2) hb b1 b2 w1 w2 h1 h2
  have l1 := w1.2.1
  have l2 := w2.2.1
  refine tw_eq (tw_bnd.mpr ?_)
  simp only [P.d_shortest_over, startR, List.map_cons, List.map_nil, List.length_cons, List.length_nil, List.replicate, List.cons_append, List.nil_append]
  refine tw_expr (v := .p .none) (m' := m) (by simp [r1]) ?_
  refine tw_expr (v := .p .none) (m' := m) (by simp [r2]) ?_
  have e0 : (0 : Int) - (other.length : Int) = -(other.length : Int) := by omega
  have e1 : ((one.length : Int) + 1 - -(other.length : Int)).toNat = one.length + other.length + 1 := by omega
  refine tw_set (v := .p (.list ((seqL (-(other.length : Int)) (one.length + other.length + 1)).map .int))) (m' := m) ?_ ?_
  · simp only [ev_rngs, evI_rng2, ev_bnr, ev_cst, lit_int, ev_blt, lk_var, List.getElem?_cons_succ, List.getElem?_cons_zero, lkR_fz, len_sq, List.length_map, Option.map_some, opt_s, dOf_r, bnd_ret', bin_sub, bin_add, e0, rngR_seq m (show -1000000 ≤ -(other.length : Int) ∧ -(other.length : Int) ≤ 1000000 ∧ -1000000 ≤ (one.length : Int) + 1 ∧ (one.length : Int) + 1 ≤ 1000000 by omega), e1]
    rfl
  dsimp only [List.set]
  refine tw_set (v := .p (.list ((startsL one other).map fun st => tI (ovL one other st)))) (m' := m) ?_ ?_
  · have lm : (seqL (-(other.length : Int)) (one.length + other.length + 1)).length ≤ lim := by rw [seqL_len]; unfold lim; omega
    simp only [ev_comp, evI_val, ev_vr, List.getElem?_cons_succ, List.getElem?_cons_zero, varR_fz, dOf_r, bnd_ret', seqOf_list, opt_s, List.length_map, if_pos lm]
    rw [compGo_sel (fun st : Int => agF one st 0 other) (fun st => tI (ovL one other st)) fun st hs => ?_]
    · rfl
    · have := mem_seqL.mp hs
      simp [r3, r4 st _ (by omega) (by omega)]
  dsimp only [List.set]
  have sl : (startsL one other).length ≤ lim := by
    have := List.length_filter_le (fun st => agF one st 0 other) (seqL (-(other.length : Int)) (one.length + other.length + 1))
    rw [seqL_len] at this
    unfold startsL lim; omega
  refine tw_rt (v := .p (tI (shortL one other))) (m' := m) ?_ (tw_ret.mpr ⟨rfl, rfl⟩)
  have ec : ∀ m, ev (run Γ W (n + 3)) (.comp (.tup (.cons (.bi .len (.var 5)) (.cons (.var 5) .nil))) (.one 5) (.val (.var 3)) .no) [some (.fz (.p (sq b1 (one.map .int)))), some (.fz (.p (sq b2 (other.map .int)))), some (.fz (.p (.list ((seqL (-(other.length : Int)) (one.length + other.length + 1)).map .int)))), some (.fz (.p (.list ((startsL one other).map fun st => tI (ovL one other st))))), none, none] m = ret (.p (.list ((startsL one other).map fun st => pairD (ovL one other st)))) m := fun m => by
    simp only [ev_comp, evI_val, ev_vr, List.getElem?_cons_succ, List.getElem?_cons_zero, varR_fz, dOf_r, bnd_ret', seqOf_list, opt_s, List.length_map, if_pos sl]
    rw [compGo_all (fun st : Int => pairD (ovL one other st)) fun st hs => ?_]
    · rfl
    · have lr : biD .len (tI (ovL one other st)) = some (.int ((ovL one other st).length : Int)) := by rw [tI, biD_len_t, List.length_map]
      simp only [turn_one, evC_no, bnd_ret', if_true, ev_tup, evs_cons, evs_nil, ev_blt, lk_var, ev_vr, List.getElem?_cons_succ, List.getElem?_cons_zero, List.set_cons_succ, List.set_cons_zero, varR_fz, lkR_fz, lr, Option.map_some, opt_s, dOf_r, List.length_cons, List.length_nil, if_pos (show 0 + 1 + 1 ≤ lim by decide)]
      rfl
  have em : biD .min (.list ((startsL one other).map fun st => pairD (ovL one other st))) = some (pairD (shortL one other)) := by
    show minX _ = _
    have e : ((startsL one other).map fun st => pairD (ovL one other st)) = ((startsL one other).map (ovL one other)).map pairD := by rw [List.map_map]; rfl
    rw [e]
    unfold shortL
    cases q : (startsL one other).map (ovL one other) with
    | nil => exact absurd (List.map_eq_nil_iff.mp q) (startsL_ne one other)
    | cons x l => exact min_pairs x l
  have at1 : idxD (pairD (shortL one other)) (.int 1) = some (tI (shortL one other)) := at_nat _ 1
  simp only [ev_ix, lk_bi, ev_blt, lk_comp, ec, dOf_r, bnd_ret', em, Option.map_some, opt_s, ev_cst, lit_int, at1]
end
end G

end
section
set_option maxHeartbeats 4000000
namespace G
open PySem PySem.Spec PyProof.Rows L2
structure Good (kvs : List (Int × PyData)) (f : Int → Option Int) : Prop where
  nd : (kvs.map (·.1)).Nodup
  mem : ∀ k, k ∈ kvs.map (·.1) ↔ f k ≠ none
  val : ∀ k v, f k = some v → getA kvs k = some (.int v)
theorem good_put {kvs : List (Int × PyData)} {f : Int → Option Int} (h : Good kvs f) (k v : Int) : Good (putA kvs k (.int v)) (fun j => if j = k then some v else f j) ∧ (putA kvs k (.int v)).length ≤ kvs.length + 1 := by
  have hk := keys_put kvs k (.int v)
  have hl : (putA kvs k (.int v)).length = ((putA kvs k (.int v)).map (·.1)).length := by rw [List.length_map]
  unfold addG at hk
  refine ⟨⟨?_, fun j => ?_, fun j w hj => ?_⟩, ?_⟩
  · rw [hk]
    split
    · exact h.nd
    · rename_i q
      rw [List.nodup_append]
      refine ⟨h.nd, by simp, fun a ha b hb e => ?_⟩
      simp at hb
      subst e hb
      exact q ha
  · rw [hk]
    by_cases q : j = k
    · subst q
      simp only [if_pos]
      constructor
      · intro _ z; cases z
      · intro _; split
        · assumption
        · simp
    · rw [if_neg q, ← h.mem j]
      split
      · exact Iff.rfl
      · rw [List.mem_append]; simp [q]
  · rw [getA_put]
    by_cases q : j = k
    · rw [if_pos q] at hj ⊢; cases hj; rfl
    · rw [if_neg q] at hj ⊢; exact h.val j w hj
  · rw [hl, hk]
    split
    · simp
    · simp
theorem good_ext {kvs : List (Int × PyData)} {f g : Int → Option Int} (h : Good kvs f) (e : ∀ k, f k = g k) : Good kvs g := by
  rw [show g = f from funext fun k => (e k).symm]; exact h
def fO (other : List Int) (st : Int) (i : Nat) (k : Int) : Option Int := if st ≤ k ∧ k < st + i then some (other.getD (k - st).toNat 0) else none
def fB (one other : List Int) (st : Int) (i : Nat) (k : Int) : Option Int := if 0 ≤ k ∧ k < i then some (one.getD k.toNat 0) else fO other st other.length k
section
variable {Γ : Str → Option Fn} {W n : Nat} {m : Ms}
theorem seq_at {lo : Int} {N i : Nat} {x : PyData} (h : ((seqL lo N).map PyData.int)[i]? = some x) : i < N ∧ x = .int (lo + (i : Int)) := by
  have hi : i < N := by have := (List.getElem?_eq_some_iff.mp h).1; simpa using this
  rw [List.getElem?_map, seqL, List.getElem?_map, List.getElem?_range hi] at h
  exact ⟨hi, (Option.some.inj h).symm⟩
theorem seqL_succ (lo : Int) (i : Nat) : seqL lo (i + 1) = seqL lo i ++ [lo + (i : Int)] := by unfold seqL; rw [List.range_succ, List.map_append]; rfl
theorem run_lmeets {f : Str} (h : Γ f = some (.code P.d_lmeets)) {one other : List Int} (w1 : Word one) (w2 : Word other) : run Γ W (n + 1) f [.p (tI one), .p (tI other)] m = ret (.p (.list ((meetsL one other).map .int))) m := by
  rw [run_code h rfl]
  have l1 := w1.2.1
  have l2 := w2.2.1
  have l3 := w2.1
  have e1 : ((one.length : Int) - (1 - (other.length : Int))).toNat = one.length + other.length - 1 := by omega
  refine tw_eq (tw_bnd.mpr ?_)
  simp only [P.d_lmeets, startR, List.map_cons, List.map_nil, List.length_cons, List.length_nil, List.replicate, List.cons_append, List.nil_append]
  refine tw_set (v := .p (.list [])) (m' := m) (by simp [show 0 ≤ lim by decide]) ?_
  dsimp only [List.set]
  have n1 : biD .len (tI one) = some (.int (one.length : Int)) := by rw [tI, biD_len_t, List.length_map]
  have n2 : biD .len (tI other) = some (.int (other.length : Int)) := by rw [tI, biD_len_t, List.length_map]
  refine tw_loop (xs := (seqL (1 - (other.length : Int)) (one.length + other.length - 1)).map .int) (m' := m) ?_
    (fun i ρ m' => m' = m ∧ ∃ b3 b4 b5, ρ = [some (.fz (.p (tI one))), some (.fz (.p (tI other))), some (.fz (.p (.list (((seqL (1 - (other.length : Int)) i).filter fun st => agF one st 0 other).map .int)))), b3, b4, b5])
    ⟨rfl, none, none, none, rfl⟩ (fun i x ρ m' hx ⟨e, b3, b4, b5, hρ⟩ => ?_) fun ρ' m' ⟨e, b3, b4, b5, hρ⟩ => ?_
  · simp only [evI_rng2, ev_bnr, ev_cst, lit_int, ev_blt, lk_var, ev_vr, List.getElem?_cons_succ, List.getElem?_cons_zero, varR_fz, lkR_fz, n1, n2, Option.map_some, opt_s, dOf_r, bnd_ret', bin_sub, rngR_seq m (show -1000000 ≤ 1 - (other.length : Int) ∧ 1 - (other.length : Int) ≤ 1000000 ∧ -1000000 ≤ (one.length : Int) ∧ (one.length : Int) ≤ 1000000 by omega), e1]
  · subst e hρ
    obtain ⟨hi, rfl⟩ := seq_at hx
    have es := seqL_succ (1 - (other.length : Int)) i
    generalize hp : (1 - (other.length : Int)) + (i : Int) = st at es ⊢
    rw [lturn_one]
    dsimp only [List.set]
    let wr : List Nat := (List.range other.length).filter fun k => decide (0 ≤ (k : Int) + st) && decide ((k : Int) + st < one.length) && !decide (one.getD ((k : Int) + st).toNat 0 = other.getD k 0)
    have hw : (agF one st 0 other) = decide (wr = []) := by
      rw [Bool.eq_iff_iff, decide_eq_true_iff, agF_iff, List.filter_eq_nil_iff]
      constructor
      · intro h k hk
        have hk := List.mem_range.mp hk
        have := h k hk
        simp only [Nat.zero_add] at this
        by_cases q1 : 0 ≤ (k : Int) + st
        · by_cases q2 : (k : Int) + st < one.length
          · simp only [this q1 q2, decide_true, Bool.not_true, Bool.and_false]; simp
          · simp [q2]
        · simp [q1]
      · intro h k hk q1 q2
        have := h k (List.mem_range.mpr hk)
        simp only [Nat.zero_add] at q1 q2 ⊢
        simp only [q1, q2, decide_true, Bool.true_and, Bool.not_eq_true', Bool.not_eq_false', decide_eq_true_eq, Bool.not_eq_true] at this
        simpa using this
    refine tw_set (v := .p (.list (wr.map fun (k : Nat) => PyData.int (k : Int)))) (m' := m') ?_ ?_
    · simp only [ev_comp, evI_rng1, ev_blt, lk_var, List.getElem?_cons_succ, List.getElem?_cons_zero, lkR_fz, n2, Option.map_some, opt_s, dOf_r, bnd_ret', rngR0 m' (show other.length ≤ 1000 by omega), rngL_zero, List.length_map, List.length_range, if_pos (show other.length ≤ lim by unfold lim; omega)]
      rw [compGo_sel (fun k : Nat => decide (0 ≤ (k : Int) + st) && decide ((k : Int) + st < one.length) && !decide (one.getD ((k : Int) + st).toNat 0 = other.getD k 0)) (fun (k : Nat) => PyData.int (k : Int)) fun k hk => ?_]
      · rfl
      · have hk := List.mem_range.mp hk
        have i2 : L2.atI (other.map PyData.int) (k : Int) = some (.int (other.getD k 0)) := idx_sq true other k hk
        by_cases q1 : 0 ≤ (k : Int) + st
        · by_cases q2 : (k : Int) + st < one.length
          · obtain ⟨j, hj⟩ := Int.eq_ofNat_of_zero_le q1
            have i1 : L2.atI (one.map PyData.int) (j : Int) = some (.int (one.getD j 0)) := idx_sq true one j (by omega)
            rw [hj] at q2
            simp [cmpD, hj, i1, i2, q2]
          · simp [cmpD, q1, q2]
        · simp [cmpD, q1]
    dsimp only [List.set]
    have ll : ((seqL (1 - (other.length : Int)) i).filter fun st => agF one st 0 other).length ≤ 100 := by
      have := List.length_filter_le (fun st => agF one st 0 other) (seqL (1 - (other.length : Int)) i)
      rw [seqL_len] at this
      omega
    refine tw_set (v := .p (.list (((seqL (1 - (other.length : Int)) (i + 1)).filter fun st => agF one st 0 other).map .int))) (m' := m') ?_ (tw_nil ⟨_, rfl, rfl, _, _, _, rfl⟩)
    have eq0 := eqD_lN wr []
    simp only [List.map_nil] at eq0
    rw [es, List.filter_append]
    have l0 : 0 ≤ lim := by decide
    have l1' : 0 + 1 ≤ lim := by decide
    cases q : agF one st 0 other with
    | true =>
      rw [q] at hw
      have z : wr = [] := by simpa using hw.symm
      have eq1 : eqD (.list (wr.map fun (k : Nat) => PyData.int (k : Int))) (.list []) = some true := by rw [eq0]; simp [z]
      have bi : biD .int (.bool true) = some (.int 1) := rfl
      have bm : binD .Mult (.list [PyData.int st]) (.int 1) = some (.list [.int st]) := rfl
      simp only [ev_bnr, ev_vr, List.getElem?_cons_succ, List.getElem?_cons_zero, varR_fz, dOf_r, bnd_ret', ev_lst, evs_cons, evs_nil, List.length_cons, List.length_nil, if_pos l0, if_pos l1', ev_blt, lk_cmp, ev_cmp, cmp_eq, eq1, Option.map_some, opt_s, bi, bm, bin_ladd, List.length_map, dOf_bnd', bnd_assoc]
      rw [if_pos (by unfold lim; omega), List.map_append]
      simp [q]
    | false =>
      rw [q] at hw
      have z : ¬ wr = [] := by simpa using hw.symm
      have eq1 : eqD (.list (wr.map fun (k : Nat) => PyData.int (k : Int))) (.list []) = some false := by rw [eq0]; simp [z]
      have bi : biD .int (.bool false) = some (.int 0) := rfl
      have bm : binD .Mult (.list [PyData.int st]) (.int 0) = some (.list []) := rfl
      simp only [ev_bnr, ev_vr, List.getElem?_cons_succ, List.getElem?_cons_zero, varR_fz, dOf_r, bnd_ret', ev_lst, evs_cons, evs_nil, List.length_cons, List.length_nil, if_pos l0, if_pos l1', ev_blt, lk_cmp, ev_cmp, cmp_eq, eq1, Option.map_some, opt_s, bi, bm, bin_ladd, List.length_map, dOf_bnd', bnd_assoc]
      rw [if_pos (by unfold lim; omega), List.map_append]
      simp [q]
  · subst e hρ
    rw [List.length_map, seqL_len]
    refine tw_rt (m' := m') (by simp; rfl) (tw_ret.mpr ⟨rfl, rfl⟩)
theorem enum_at {w : List Int} {i : Nat} {x : PyData} (h : (enumK 0 (w.map .int))[i]? = some x) : i < w.length ∧ x = .tuple [.int (i : Int), .int (w.getD i 0)] := by
  rw [enumK_at, List.getElem?_map] at h
  cases hf : w[i]? with
  | none => rw [hf] at h; cases h
  | some y =>
    rw [hf] at h
    cases h
    have hi := (List.getElem?_eq_some_iff.mp hf).1
    refine ⟨hi, ?_⟩
    rw [Nat.zero_add, List.getD_eq_getElem?_getD, hf]
    rfl
theorem run_llaid {f : Str} (h : Γ f = some (.code P.d_llaid)) {one other : List Int} (w1 : Word one) (w2 : Word other) {st : Int} (s1 : -(other.length : Int) ≤ st) (s2 : st ≤ one.length) : run Γ W (n + 1) f [.p (tI one), .p (tI other), .p (.int st)] m = ret (.p (tI (ovL one other st))) m := by
  rw [run_code h rfl]
  have l1 := w1.2.1
  have l2 := w2.2.1
  refine tw_eq (tw_bnd.mpr ?_)
  simp only [P.d_llaid, startR, List.map_cons, List.map_nil, List.length_cons, List.length_nil, List.replicate, List.cons_append, List.nil_append]
  have en1 : (seqOf (tI one)).map enumL = some (enumK 0 (one.map .int)) := enum_sq true one
  have en2 : (seqOf (tI other)).map enumL = some (enumK 0 (other.map .int)) := enum_sq true other
  rw [exB_own]
  simp only [ev_dct, bnd_ret']
  rw [show (ownS 3 ([some (Slot.fz (Val.p (tI one))), some (Slot.fz (Val.p (tI other))), some (Slot.fz (Val.p (PyData.int st))), none, none, none] : Rho) (.p (.dict [])) m) = ret [some (.fz (.p (tI one))), some (.fz (.p (tI other))), some (.fz (.p (.int st))), some (.ow (.dk [])), none, none] m from rfl, bnd_ret']
  have g0 : Good [] (fO other st 0) := ⟨by simp, fun k => by
    have : fO other st 0 k = none := if_neg (by omega)
    simp [this], fun k v hk => by
    have : fO other st 0 k = none := if_neg (by omega)
    rw [this] at hk; cases hk⟩
  refine tw_loop (xs := enumK 0 (other.map .int)) (m' := m) (by simp only [evI_enum, ev_vr, List.getElem?_cons_succ, List.getElem?_cons_zero, varR_fz, dOf_r, bnd_ret', en2, opt_s])
    (fun i ρ m' => m' = m ∧ ∃ kvs b4 b5, (Good kvs (fO other st i) ∧ kvs.length ≤ i) ∧ ρ = [some (.fz (.p (tI one))), some (.fz (.p (tI other))), some (.fz (.p (.int st))), some (.ow (.dk kvs)), b4, b5])
    ⟨rfl, [], none, none, ⟨g0, Nat.le_refl _⟩, rfl⟩ (fun i x ρ m' hx ⟨e, kvs, b4, b5, ⟨hg, hl⟩, hρ⟩ => ?_) fun ρ' m' ⟨e, kvs, b4, b5, ⟨hg, hl⟩, hρ⟩ => ?_
  · subst e hρ
    obtain ⟨hi, rfl⟩ := enum_at hx
    rw [lturn_two]
    dsimp only [List.set]
    obtain ⟨p1, p2⟩ := good_put hg ((i : Int) + st) (other.getD i 0)
    refine tw_dput (d := .int (other.getD i 0)) (z := .int ((i : Int) + st)) (w := .dk kvs) (w' := .dk (putA kvs ((i : Int) + st) (.int (other.getD i 0)))) (m' := m') (m'' := m') (by simp) (by simp) rfl ?_ (tw_nil ?_)
    · show (if kvs.length < lim then some (Ow.dk (putA kvs ((i : Int) + st) (.int (other.getD i 0)))) else none) = _
      rw [if_pos (by unfold lim; omega)]
    · refine ⟨_, rfl, rfl, putA kvs ((i : Int) + st) (.int (other.getD i 0)), some (.fz (.p (.int (i : Int)))), some (.fz (.p (.int (other.getD i 0)))), ⟨good_ext p1 fun k => ?_, by omega⟩, rfl⟩
      unfold fO
      by_cases q : k = (i : Int) + st
      · subst q
        rw [if_pos rfl, if_pos (by omega), show (i : Int) + st - st = (i : Int) by omega, Int.toNat_natCast]
      · rw [if_neg q]
        by_cases q2 : st ≤ k ∧ k < st + i
        · rw [if_pos q2, if_pos (by omega)]
        · rw [if_neg q2, if_neg (by omega)]
  · subst e hρ
    rw [enumK_len, List.length_map] at hg hl
    have g1 : Good kvs (fB one other st 0) := good_ext hg fun k => by unfold fB; rw [if_neg (by omega)]
    refine tw_loop (xs := enumK 0 (one.map .int)) (m' := m') (by simp only [evI_enum, ev_vr, List.getElem?_cons_succ, List.getElem?_cons_zero, varR_fz, dOf_r, bnd_ret', en1, opt_s])
      (fun i ρ m'' => m'' = m' ∧ ∃ kvs b4 b5, (Good kvs (fB one other st i) ∧ kvs.length ≤ other.length + i) ∧ ρ = [some (.fz (.p (tI one))), some (.fz (.p (tI other))), some (.fz (.p (.int st))), some (.ow (.dk kvs)), b4, b5])
      ⟨rfl, kvs, b4, b5, ⟨g1, hl⟩, rfl⟩ (fun i x ρ m'' hx ⟨e, kvs, b4, b5, ⟨hg, hl⟩, hρ⟩ => ?_) fun ρ' m'' ⟨e, kvs, b4, b5, ⟨hg, hl⟩, hρ⟩ => ?_
    · subst e hρ
      obtain ⟨hi, rfl⟩ := enum_at hx
      rw [lturn_two]
      dsimp only [List.set]
      obtain ⟨p1, p2⟩ := good_put hg (i : Int) (one.getD i 0)
      refine tw_dput (d := .int (one.getD i 0)) (z := .int (i : Int)) (w := .dk kvs) (w' := .dk (putA kvs (i : Int) (.int (one.getD i 0)))) (m' := m'') (m'' := m'') (by simp) (by simp) rfl ?_ (tw_nil ?_)
      · show (if kvs.length < lim then some (Ow.dk (putA kvs (i : Int) (.int (one.getD i 0)))) else none) = _
        rw [if_pos (by unfold lim; omega)]
      · refine ⟨_, rfl, rfl, putA kvs (i : Int) (.int (one.getD i 0)), some (.fz (.p (.int (i : Int)))), some (.fz (.p (.int (one.getD i 0)))), ⟨good_ext p1 fun k => ?_, by omega⟩, rfl⟩
        unfold fB
        by_cases q : k = (i : Int)
        · subst q
          rw [if_pos rfl, if_pos (by omega), Int.toNat_natCast]
        · rw [if_neg q]
          by_cases q2 : 0 ≤ k ∧ k < i
          · rw [if_pos q2, if_pos (by omega)]
          · rw [if_neg q2, if_neg (by omega)]
    · subst e hρ
      rw [enumK_len, List.length_map] at hg hl
      refine tw_rt (v := .p (tI (ovL one other st))) (m' := m'') ?_ (tw_ret.mpr ⟨rfl, rfl⟩)
      have key : ∀ p : Int, p ∈ seqL (fstO st) (lstO one.length other.length st - fstO st).toNat ↔ p ∈ kvs.map (·.1) := fun p => by
        rw [hg.mem p, mem_seqL]
        unfold fB fO fstO lstO
        by_cases q1 : 0 ≤ p ∧ p < one.length
        · rw [if_pos q1]
          simp
          split <;> split <;> omega
        · rw [if_neg q1]
          by_cases q2 : st ≤ p ∧ p < st + other.length
          · rw [if_pos q2]
            simp
            split <;> split <;> omega
          · rw [if_neg q2]
            simp
            split <;> split <;> omega
      have vals : ∀ p ∈ seqL (fstO st) (lstO one.length other.length st - fstO st).toNat, getA kvs p = some (.int (ovA one other st p)) := fun p hp => by
        have h0 := (hg.mem p).mp ((key p).mp hp)
        refine hg.val p _ ?_
        unfold fB fO at h0 ⊢
        unfold ovA
        by_cases q1 : 0 ≤ p ∧ p < one.length
        · rw [if_pos q1, if_pos q1]
        · rw [if_neg q1] at h0 ⊢
          rw [if_neg q1]
          by_cases q2 : st ≤ p ∧ p < st + other.length
          · rw [if_pos q2]
          · rw [if_neg q2] at h0; exact absurd rfl h0
      have srt : sortI (kvs.map (·.1)) = seqL (fstO st) (lstO one.length other.length st - fstO st).toNat :=
        sortI_unique ((List.perm_ext_iff_of_nodup ((seqL_pair _ _).imp fun h => Int.ne_of_lt h) hg.nd).mpr key) ((seqL_pair _ _).imp fun h => Int.le_of_lt h)
      have kl : (seqL (fstO st) (lstO one.length other.length st - fstO st).toNat).length ≤ lim := by rw [← srt, len_sortI, List.length_map]; unfold lim; omega
      have ks : biD .sorted (.list (kvs.map fun kv => PyData.int kv.1)) = some (.list ((seqL (fstO st) (lstO one.length other.length st - fstO st).toNat).map .int)) := by
        show srtX _ = _
        rw [srtX_map kvs (·.1), srt]
      simp only [ev_blt, lk_comp, ev_comp, evI_val, lk_dkeys, ev_dk, List.getElem?_cons_succ, List.getElem?_cons_zero, dictOf, Option.bind_some, Ow.keys, Option.map_some, opt_s, dOf_r, bnd_ret', ks, seqOf_list, List.length_map, if_pos kl]
      rw [compGo_all (fun p : Int => PyData.int (ovA one other st p)) fun p hp => ?_]
      · rw [bnd_ret']
        simp [biD, ovL, tI]
        rfl
      · simp only [turn_one, evC_no, bnd_ret', if_true, ev_dx, ev_vr, List.getElem?_cons_succ, List.getElem?_cons_zero, List.set_cons_succ, List.set_cons_zero, varR_fz, dOf_r, dictOf, Option.bind_some, Ow.at, vals p hp, Option.map_some, opt_s]
def W3 (w : List Int) : Prop := 1 ≤ w.length ∧ w.length ≤ 24 ∧ ∀ x ∈ w, 0 ≤ x ∧ x < 3
theorem W3.word {w : List Int} (h : W3 w) : Word w := ⟨h.1, h.2.1, fun x hx => by have := h.2.2 x hx; omega⟩
theorem pick3 {i : Nat} (hi : i < 3) (a b c : Int) : ∃ x, L2.atI [PyData.int a, .int b, .int c] (i : Int) = some (.int x) ∧ (x = a ∨ x = b ∨ x = c) := by
  rw [at_nat]
  match i, hi with
  | 0, _ => exact ⟨a, rfl, .inl rfl⟩
  | 1, _ => exact ⟨b, rfl, .inr (.inl rfl)⟩
  | 2, _ => exact ⟨c, rfl, .inr (.inr rfl)⟩
  | i + 3, h => omega
theorem tw_ltwo {f : Str} (gw : Γ "_law_draw" = some .draw) (hw : Γ "_law_word" = some (.code P.d_lword3)) (h : Γ f = some (.code P.d_ltwo)) {k : Nat} (hk : k < 900000) (hd : Dr k m) :
    tw (run Γ W (n + 5) f [.drw] m) fun v m' => (∃ one other : List Int, v = .p (.tuple [tI one, tI other]) ∧ W3 one ∧ W3 other) ∧ Dr (k + 200) m' := by
  rw [run_code h rfl]
  refine tw_bnd.mpr ?_
  simp only [P.d_ltwo, startR, List.map_cons, List.map_nil, List.length_cons, List.length_nil, List.replicate, List.cons_append, List.nil_append]
  refine tw_setT (P := fun v m' => (∃ L : Nat, v = .p (.int (L : Int)) ∧ 1 ≤ L ∧ L ≤ 3) ∧ Dr (k + 1) m') ?_ fun v m1 ⟨⟨L, e, L1, L3⟩, d1⟩ => ?_
  · simp
    refine tw_seq (P := fun v m' => (∃ c : Nat, v = .int (c : Int) ∧ c < 3) ∧ Dr (k + 1) m') (tw_dOf (tw_draw (n := n + 1) gw (by omega) (by omega) (by omega) hd fun c m' a1 a2 a3 => ⟨_, rfl, ⟨c.toNat, by rw [Int.toNat_of_nonneg a1], by omega⟩, a3⟩)) fun v m' ⟨⟨c, e, hc⟩, d1⟩ => ?_
    subst e
    exact tw_ret.mpr ⟨⟨c + 1, by simp [Int.add_comm], by omega, by omega⟩, d1⟩
  subst e
  dsimp only [List.set]
  refine tw_setT (P := fun v m' => (∃ A : Nat, v = .p (.int (A : Int)) ∧ 8 ≤ A ∧ A ≤ 24) ∧ Dr (k + 2) m') ?_ fun v m2 ⟨⟨A, e, A1, A2⟩, d2⟩ => ?_
  · simp [show 3 ≤ lim by decide]
    refine tw_seq (P := fun v m' => (∃ c : Nat, v = .int (c : Int) ∧ c < 3) ∧ Dr (k + 2) m') (tw_dOf (tw_draw (n := n + 1) gw (by omega) (by omega) (by omega) d1 fun c m' a1 a2 a3 => ⟨_, rfl, ⟨c.toNat, by rw [Int.toNat_of_nonneg a1], by omega⟩, a3⟩)) fun v m' ⟨⟨c, e, hc⟩, d2⟩ => ?_
    subst e
    obtain ⟨x, e1, e2⟩ := pick3 hc 8 8 24
    rw [idx_l, e1]
    exact tw_ret.mpr ⟨⟨x.toNat, by rw [Int.toNat_of_nonneg (by omega)], by omega, by omega⟩, d2⟩
  subst e
  dsimp only [List.set]
  have word : ∀ (m : Ms) (j : Nat) (r : Rho), j ≤ k + 100 → Dr j m → r[0]? = some (some (.fz .drw)) → r[1]? = some (some (.fz (.p (.int (L : Int))))) → r[2]? = some (some (.fz (.p (.int (A : Int))))) → tw (ev (run Γ W (n + 4)) (.call "_law_word" (.cons (.var 0) (.cons (.var 1) (.cons (.bin .Add (.cst (.int 1)) (.call "_law_draw" (.cons (.var 0) (.cons (.var 2) .nil)))) .nil)))) r m) fun v m' => (∃ w : List Int, v = .p (tI w) ∧ W3 w) ∧ Dr (j + 30) m' := fun m j r hj d r0 r1 r2 => by
    simp only [ev_call, eva_cons, eva_nil, ev_vr, r0, r1, r2, varR_fz, bnd_ret', ev_bnr, ev_cst, lit_int, dOf_r, bnd_assoc]
    refine tw_seq (P := fun v m' => (∃ c : Nat, v = .int (c : Int) ∧ c < A) ∧ Dr (j + 1) m') (tw_dOf (tw_draw (n := n + 1) gw (by omega) (by omega) (by omega) d fun c m' a1 a2 a3 => ⟨_, rfl, ⟨c.toNat, by rw [Int.toNat_of_nonneg a1], by omega⟩, a3⟩)) fun v m' ⟨⟨c, e, hc⟩, d2⟩ => ?_
    subst e
    simp only [bin_add, Option.map_some, opt_s, bnd_ret']
    rw [show (1 : Int) + (c : Int) = ((c + 1 : Nat) : Int) by omega]
    exact tw_mono (tw_lword3 gw hw L1 (by omega) (by omega) (by omega) (by omega) d2) fun v m' ⟨⟨w, e, g1, g2⟩, g3⟩ => ⟨⟨w, e, by omega, by omega, fun x hx => by have := g2 x hx; omega⟩, g3.mono (by omega)⟩
  refine tw_par2T (P := fun v m' => (∃ w : List Int, v = .p (tI w) ∧ W3 w) ∧ Dr (k + 32) m') (P' := fun u v m' => (∃ w : List Int, u = .p (tI w) ∧ W3 w) ∧ (∃ w : List Int, v = .p (tI w) ∧ W3 w) ∧ Dr (k + 62) m') ?_ ?_ ?_
  · exact word m2 (k + 2) _ (by omega) d2 rfl rfl rfl
  · rintro u m' ⟨hu, d⟩
    exact tw_mono (word m' (k + 32) _ (by omega) d rfl rfl rfl) fun v m' q => ⟨hu, q.1, q.2⟩
  rintro u v m3 ⟨⟨one, rfl, o1⟩, ⟨other, rfl, o2⟩, d3⟩
  dsimp only [List.set]
  refine tw_setT (P := fun v m' => (∃ c : Int, v = .p (.int c)) ∧ Dr (k + 63) m') ?_ fun v m4 ⟨⟨way, e⟩, d4⟩ => ?_
  · simp
    exact tw_draw (n := n + 1) gw (by omega) (by omega) (by omega) d3 fun c m' a1 a2 a3 => ⟨⟨c, rfl⟩, a3⟩
  subst e
  dsimp only [List.set]
  have fin : ∀ (other : List Int) (m : Ms) (b6 : Option Slot), W3 other → Dr (k + 100) m → tw (exB (run Γ W (n + 4)) W (.cons (.rt (.tup (.cons (.var 4) (.cons (.var 5) .nil)))) .nil) [some (.fz .drw), some (.fz (.p (.int (L : Int)))), some (.fz (.p (.int (A : Int)))), some (.fz (.p (.int way))), some (.fz (.p (tI one))), some (.fz (.p (tI other))), b6] m) fun fl m' => tw (endF fl m') fun v m' => (∃ one other : List Int, v = .p (.tuple [tI one, tI other]) ∧ W3 one ∧ W3 other) ∧ Dr (k + 200) m' := fun other m b6 ho d => by
    refine tw_rt (v := .p (.tuple [tI one, tI other])) (m' := m) (by simp [show 2 ≤ lim by decide]) (tw_ret.mpr ⟨⟨one, other, rfl, o1, ho⟩, d.mono (by omega)⟩)
  have n1 : biD .len (tI one) = some (.int (one.length : Int)) := by rw [tI, biD_len_t, List.length_map]
  have part2 : ∀ (other : List Int) (m : Ms), W3 other → Dr (k + 70) m → tw (exB (run Γ W (n + 4)) W (.cons (.ite (.cmp .Eq (.var 3) (.cst (.int 2))) (.cons (.set 6 (.call "_law_draw" (.cons (.var 0) (.cons (.bi .len (.var 4)) .nil)))) (.cons (.set 5 (.slc (.var 4) (.yes (.var 6)) (.yes (.bin .Add (.bin .Add (.var 6) (.cst (.int 1))) (.call "_law_draw" (.cons (.var 0) (.cons (.bin .Sub (.bi .len (.var 4)) (.var 6)) .nil))))))) .nil)) .nil) (.cons (.rt (.tup (.cons (.var 4) (.cons (.var 5) .nil)))) .nil)) [some (.fz .drw), some (.fz (.p (.int (L : Int)))), some (.fz (.p (.int (A : Int)))), some (.fz (.p (.int way))), some (.fz (.p (tI one))), some (.fz (.p (tI other))), none] m) fun fl m' => tw (endF fl m') fun v m' => (∃ one other : List Int, v = .p (.tuple [tI one, tI other]) ∧ W3 one ∧ W3 other) ∧ Dr (k + 200) m' := fun other m ho d => by
    by_cases q : way = 2
    · refine tw_then (m' := m) (by simp [q]) ?_
      refine tw_setT (P := fun v m' => (∃ b : Nat, v = .p (.int (b : Int)) ∧ b < one.length) ∧ Dr (k + 71) m') ?_ fun v m5 ⟨⟨b, e, hb⟩, d5⟩ => ?_
      · simp
        exact tw_draw (n := n + 1) gw (by have := o1.1; omega) (by have := o1.2.1; omega) (by omega) d fun c m' a1 a2 a3 => ⟨⟨c.toNat, by rw [Int.toNat_of_nonneg a1], by omega⟩, a3⟩
      subst e
      dsimp only [List.set]
      refine tw_setT (P := fun v m' => (∃ w : List Int, v = .p (tI w) ∧ W3 w) ∧ Dr (k + 72) m') ?_ fun v m6 ⟨⟨w, e, w3⟩, d6⟩ => ?_
      · simp only [ev_slc, ev_call, eva_cons, eva_nil, ev_vr, List.getElem?_cons_succ, List.getElem?_cons_zero, varR_fz, bnd_ret', dOf_r, evO_yes, intOf_int, Option.map_some, opt_s, ev_bnr, ev_cst, lit_int, ev_blt, lk_var, lkR_fz, n1, bin_add, bin_sub, bnd_assoc, dOf_bnd']
        refine tw_seq (P := fun v m' => (∃ c : Nat, v = .int (c : Int) ∧ c < one.length - b) ∧ Dr (k + 72) m') (tw_dOf (tw_draw (n := n + 1) gw (by omega) (by have := o1.2.1; omega) (by omega) d5 fun c m' a1 a2 a3 => ⟨_, rfl, ⟨c.toNat, by rw [Int.toNat_of_nonneg a1], by omega⟩, a3⟩)) fun v m' ⟨⟨c, e, hc⟩, d6⟩ => ?_
        subst e
        have sl : slcD (tI one) (some (b : Int)) (some ((b : Int) + 1 + (c : Int))) = some (tI ((one.drop b).take (1 + c))) := by
          rw [show (b : Int) + 1 + (c : Int) = ((b + 1 + c : Nat) : Int) by omega]
          show some (PyData.tuple (cutD _ _ _)) = _
          rw [cut_mid, show b + 1 + c - b = 1 + c by omega, ← List.map_drop, ← List.map_take]
        simp only [bin_add, Option.map_some, opt_s, bnd_ret', dOf_r, intOf_int, sl, dOf_bnd']
        refine tw_ret.mpr ⟨⟨_, rfl, ?_, ?_, fun x hx => o1.2.2 x (List.mem_of_mem_drop (List.mem_of_mem_take hx))⟩, d6⟩
        · simp; omega
        · have := o1.2.1
          simp; omega
      subst e
      dsimp only [List.set]
      refine tw_nil (cl := run Γ W (n + 4)) (W := W) ?_
      exact fin w m6 _ w3 (d6.mono (by omega))
    · exact tw_skip (m' := m) (by simp [q]) (fin other m none ho (d.mono (by omega)))
  by_cases q : way = 1
  · refine tw_then (m' := m4) (by simp [q]) ?_
    refine tw_setT (P := fun v m' => (∃ w : List Int, v = .p (tI w) ∧ W3 w) ∧ Dr (k + 64) m') ?_ fun v m6 ⟨⟨w, e, w3⟩, d6⟩ => ?_
    · simp only [ev_slc, ev_call, eva_cons, eva_nil, ev_vr, List.getElem?_cons_succ, List.getElem?_cons_zero, varR_fz, bnd_ret', dOf_r, evO_yes, evO_no, intOf_int, Option.map_some, opt_s, ev_bnr, ev_blt, lk_var, lkR_fz, n1, bnd_assoc, dOf_bnd']
      refine tw_seq (P := fun v m' => (∃ c : Nat, v = .int (c : Int) ∧ c < one.length) ∧ Dr (k + 64) m') (tw_dOf (tw_draw (n := n + 1) gw (by have := o1.1; omega) (by have := o1.2.1; omega) (by omega) d4 fun c m' a1 a2 a3 => ⟨_, rfl, ⟨c.toNat, by rw [Int.toNat_of_nonneg a1], by omega⟩, a3⟩)) fun v m' ⟨⟨c, e, hc⟩, d6⟩ => ?_
      subst e
      have sl : slcD (tI one) (some (c : Int)) none = some (.tuple ((one.drop c).map .int)) := by
        show some (PyData.tuple (cutD _ _ _)) = _
        rw [cut_from, ← List.map_drop]
      have ad : binD .Add (.tuple ((one.drop c).map PyData.int)) (tI other) = some (.tuple ((one.drop c ++ other).map .int)) := by
        have x1 := o1.2.1
        have x2 := o2.2.1
        rw [tI, bin_tadd, if_pos (by simp; unfold lim; omega), List.map_append]
      have s2 : slcD (.tuple ((one.drop c ++ other).map PyData.int)) none (some (A : Int)) = some (tI ((one.drop c ++ other).take A)) := by
        show some (PyData.tuple (cutD _ _ _)) = _
        rw [cut_to, ← List.map_take]
      simp only [Option.map_some, opt_s, bnd_ret', dOf_r, intOf_int, sl, ad, s2, dOf_bnd']
      refine tw_ret.mpr ⟨⟨_, rfl, ?_, ?_, fun x hx => ?_⟩, d6⟩
      · simp; omega
      · simp; omega
      · rcases List.mem_append.mp (List.mem_of_mem_take hx) with hx | hx
        · exact o1.2.2 x (List.mem_of_mem_drop hx)
        · exact o2.2.2 x hx
    subst e
    dsimp only [List.set]
    refine tw_nil (cl := run Γ W (n + 4)) (W := W) ?_
    exact part2 w m6 w3 (d6.mono (by omega))
  · exact tw_skip (m' := m4) (by simp [q]) (part2 other m4 o2 (d4.mono (by omega)))
end
end G

end
section
set_option maxHeartbeats 0
namespace K50
open PySem PySem.Spec PyProof.Rows L2 G
def consts : List (Str × Lit) := [("MOST_LONG", (.int 24))]
def T : Str → Option Lit := fun x => consts.lookup x
def n_is_whole : List Str := ["value"]
def n_is_among : List Str := ["value", "least", "most"]
def n_is_list : List Str := ["value"]
def n_need_word : List Str := ["word", "place", "letter"]
def n_agree_at : List Str := ["one", "other", "start", "place", "letter"]
def n_meets : List Str := ["one", "other", "start"]
def n_both_at : List Str := ["one", "other", "start", "found", "place", "first", "last"]
def n_shortest_over : List Str := ["one", "other", "starts", "some", "start", "letters"]
def n__law_like : List Str := ["_law_told", "_law_due"]
def n__law_shifts : List Str := ["_law_word_here", "_law_found", "_law_s", "_law_k"]
def n__law_word : List Str := ["_law_m", "_law_letters", "_law_many", "_law_part", "_law_word_here", "_law_way", "_law_k"]
def n__law_meets : List Str := ["_law_one", "_law_other", "_law_found", "_law_start", "_law_wrong", "_law_k"]
def n__law_laid : List Str := ["_law_one", "_law_other", "_law_start", "_law_found", "_law_k", "_law_letter"]
def n__law_two : List Str := ["_law_m", "_law_letters", "_law_most", "_law_way", "_law_one", "_law_other", "_law_begin"]
def n_law : List Str := ["_law_script", "_law_m", "_law_turn", "_law_told", "_law_due", "_law_handed", "_law_some", "_law_least", "_law_least_so", "_law_one", "_law_other", "_law_start", "_law_own", "_law_s"]
def b_law : B := (.cons (.for (.one 2) (.rng1 (.cst (.int 5))) (.cons (.unp2 9 10 (.call "_law_two" (.cons (.var 1) .nil))) (.cons (.set 4 (.call "_law_meets" (.cons (.var 9) (.cons (.var 10) .nil)))) (.cons (.set 5 (.idx (.lst (.cons (.var 9) (.cons (.bi .list (.var 9)) .nil))) (.call "_law_draw" (.cons (.var 1) (.cons (.cst (.int 2)) .nil))))) (.cons (.ite (.not (.call "_law_like" (.cons (.lst (.cons (.call "meets" (.cons (.var 5) (.cons (.var 10) .nil))) (.cons (.call "meets" (.cons (.var 9) (.cons (.bi .list (.var 10)) .nil))) .nil))) (.cons (.bin .Mult (.lst (.cons (.bi .tuple (.var 4)) .nil)) (.cst (.int 2))) .nil)))) (.cons (.rt (.cst (.bl false))) .nil) .nil) (.cons (.set 6 (.comp (.call "_law_laid" (.cons (.var 9) (.cons (.var 10) (.cons (.var 11) .nil)))) (.one 11) (.val (.bin .Add (.var 4) (.lst (.cons (.bi .len (.var 9)) (.cons (.bin .Sub (.cst (.int 0)) (.bi .len (.var 10))) .nil))))) .no)) (.cons (.set 7 (.bi .min (.comp (.bi .len (.var 12)) (.one 12) (.val (.var 6)) .no))) (.cons (.set 8 (.bi .min (.comp (.var 12) (.one 12) (.val (.var 6)) (.yes (.cmp .Eq (.bi .len (.var 12)) (.var 7)))))) (.cons (.ite (.not (.call "_law_like" (.cons (.lst (.cons (.call "shortest_over" (.cons (.var 5) (.cons (.var 10) .nil))) (.cons (.call "shortest_over" (.cons (.var 9) (.cons (.bi .list (.var 10)) .nil))) .nil))) (.cons (.bin .Mult (.lst (.cons (.var 8) .nil)) (.cst (.int 2))) .nil)))) (.cons (.rt (.cst (.bl false))) .nil) .nil) (.cons (.ite (.cmp .NotEq (.call "_law_meets" (.cons (.var 9) (.cons (.var 9) .nil))) (.bin .Add (.comp (.bin .Sub (.cst (.int 0)) (.var 13)) (.one 13) (.val (.rev (.call "_law_shifts" (.cons (.var 9) .nil)))) .no) (.slc (.bi .list (.call "_law_shifts" (.cons (.var 9) .nil))) (.yes (.cst (.int 1))) .no))) (.cons (.rt (.cst (.bl false))) .nil) .nil) .nil)))))))))) (.cons (.set 3 (.lst (.cons (.call "meets" (.cons (.tup (.cons (.cst (.int 0)) (.cons (.cst (.int 1)) (.cons (.cst (.int 0)) .nil)))) (.cons (.tup (.cons (.cst (.int 1)) (.cons (.cst (.int 0)) (.cons (.cst (.int 0)) .nil)))) .nil))) (.cons (.call "shortest_over" (.cons (.tup (.cons (.cst (.int 0)) (.cons (.cst (.int 1)) .nil))) (.cons (.tup (.cons (.cst (.int 1)) (.cons (.cst (.int 0)) .nil))) .nil))) (.cons (.call "shortest_over" (.cons (.tup (.cons (.cst (.int 0)) .nil)) (.cons (.tup (.cons (.cst (.int 1)) .nil)) .nil))) .nil))))) (.cons (.rt (.cmp .Eq (.var 3) (.lst (.cons (.tup (.cons (.neg (.cst (.int 2))) (.cons (.cst (.int 1)) .nil))) (.cons (.tup (.cons (.cst (.int 0)) (.cons (.cst (.int 1)) (.cons (.cst (.int 0)) .nil)))) (.cons (.tup (.cons (.cst (.int 0)) (.cons (.cst (.int 1)) .nil))) .nil)))))) .nil)))
def table : List (Str × Def) := [("is_whole", P.d_is_whole), ("is_among", P.d_is_among), ("is_list", P.d_is_list), ("need_word", P.d_need_word), ("agree_at", P.d_agree_at), ("meets", P.d_meets), ("both_at", P.d_both_at), ("shortest_over", P.d_shortest_over), ("_law_like", P.d_llike), ("_law_shifts", P.d_lshifts3), ("_law_word", P.d_lword3), ("_law_meets", P.d_lmeets), ("_law_laid", P.d_llaid), ("_law_two", P.d_ltwo)]
def Γ : Str → Option Fn := ΓL table
end K50

end
section
set_option maxHeartbeats 4000000
namespace K50
open PySem PySem.Spec PyProof.Rows L2 G
def W : Nat := 64
abbrev n : Nat := 40
theorem room : Room (n + 1) callerA := ⟨rfl, by decide, by decide⟩
theorem gw : Γ "_law_draw" = some .draw := rfl
theorem h2 : H2 Γ := ⟨⟨rfl, rfl⟩, rfl, rfl⟩
theorem rm {one other : List Int} (b1 b2 : Bool) (m : Ms) (w1 : Word one) (w2 : Word other) : run Γ W n "meets" [.p (sq b1 (one.map .int)), .p (sq b2 (other.map .int))] m = ret (.p (tI (meetsL one other))) m := run_meets h2 rfl rfl b1 b2 w1 w2
theorem rsh {one other : List Int} (b1 b2 : Bool) (m : Ms) (w1 : Word one) (w2 : Word other) : run Γ W n "shortest_over" [.p (sq b1 (one.map .int)), .p (sq b2 (other.map .int))] m = ret (.p (tI (shortL one other))) m := run_shortest h2 rfl rfl rfl b1 b2 w1 w2
theorem rl {d : PyData} {s : Str} (m : Ms) (hd : biD .repr d = some (.str s)) : run Γ W n "_law_like" [.p d, .p d] m = ret (.p (.bool true)) m := run_llike_self rfl hd
theorem rs {w : List Int} (m : Ms) (hw : w.length ≤ 1000) : run Γ W n "_law_shifts" [.p (tI w)] m = ret (.p (tN (shfs w))) m := run_lshifts3 rfl hw
theorem rlm {one other : List Int} (m : Ms) (w1 : Word one) (w2 : Word other) : run Γ W n "_law_meets" [.p (tI one), .p (tI other)] m = ret (.p (.list ((meetsL one other).map .int))) m := run_lmeets rfl w1 w2
theorem rll {one other : List Int} {st : Int} (m : Ms) (w1 : Word one) (w2 : Word other) (s1 : -(other.length : Int) ≤ st) (s2 : st ≤ one.length) : run Γ W n "_law_laid" [.p (tI one), .p (tI other), .p (.int st)] m = ret (.p (tI (ovL one other st))) m := run_llaid rfl w1 w2 s1 s2
theorem minI_spec : ∀ (l : List Int), l ≠ [] → ∃ c, minI l = some c ∧ c ∈ l ∧ ∀ y ∈ l, c ≤ y
  | x :: l, _ => by
    have key : ∀ (l : List Int) (x : Int), l.foldl min x ∈ x :: l ∧ ∀ y ∈ x :: l, l.foldl min x ≤ y := by
      intro l
      induction l with
      | nil => intro x; simp
      | cons z l ih =>
        intro x
        obtain ⟨h1, h2⟩ := ih (min x z)
        rw [List.foldl_cons]
        refine ⟨?_, fun y hy => ?_⟩
        · rcases List.mem_cons.mp h1 with q | q
          · rw [q]
            rcases Int.le_total x z with r | r
            · rw [Int.min_eq_left r]; simp
            · rw [Int.min_eq_right r]; simp
          · simp [q]
        · have h0 := h2 _ List.mem_cons_self
          rcases List.mem_cons.mp hy with rfl | hy
          · exact Int.le_trans h0 (Int.min_le_left _ _)
          · rcases List.mem_cons.mp hy with rfl | hy
            · exact Int.le_trans h0 (Int.min_le_right _ _)
            · exact h2 y (by simp [hy])
    exact ⟨_, rfl, (key l x).1, (key l x).2⟩
theorem agF_self {w : List Int} {s : Nat} : agF w (s : Int) 0 w = agr w s ∧ agF w (-(s : Int)) 0 w = agr w s := by
  constructor
  · rw [Bool.eq_iff_iff, agF_iff, agr_iff]
    constructor
    · intro h i hi
      have := h i (by omega) (by omega) (by omega)
      simp only [Nat.zero_add] at this
      rw [show ((i : Int) + (s : Int)).toNat = i + s by omega] at this
      exact this
    · intro h i hi h1 h2
      simp only [Nat.zero_add] at h1 h2 ⊢
      rw [show ((i : Int) + (s : Int)).toNat = i + s by omega]
      exact h i (by omega)
  · rw [Bool.eq_iff_iff, agF_iff, agr_iff]
    constructor
    · intro h i hi
      have := h (i + s) (by omega) (by omega) (by omega)
      simp only [Nat.zero_add] at this
      rw [show (((i + s : Nat) : Int) + -(s : Int)).toNat = i by omega] at this
      exact this.symm
    · intro h i hi h1 h2
      simp only [Nat.zero_add] at h1 h2 ⊢
      obtain ⟨j, rfl⟩ : ∃ j, i = j + s := ⟨i - s, by omega⟩
      rw [show (((j + s : Nat) : Int) + -(s : Int)).toNat = j by omega]
      exact (h j (by omega)).symm
theorem self_meets {w : List Int} (h : w ≠ []) : meetsL w w = ((shfs w).reverse.map fun (s : Nat) => (0 : Int) - (s : Int)) ++ ((shfs w).drop 1).map fun (s : Nat) => (s : Int) := by
  have hl : 0 < w.length := List.length_pos_iff.mpr h
  obtain ⟨t, ht⟩ := shfs_cons h
  have pw := shfs_pair w
  have tp : ∀ s ∈ t, 0 < s := fun s hs => by rw [ht] at pw; exact (List.pairwise_cons.mp pw).1 s hs
  refine ascI_ext (List.Pairwise.filter _ (seqL_pair _ _)) ?_ fun x => ?_
  · rw [List.pairwise_append]
    refine ⟨?_, ?_, ?_⟩
    · rw [List.pairwise_map, List.pairwise_reverse]
      exact pw.imp fun h => by omega
    · rw [List.pairwise_map]
      exact (pw.drop (i := 1)).imp fun h => by omega
    · intro a ha b hb
      obtain ⟨s, _, rfl⟩ := List.mem_map.mp ha
      obtain ⟨s', hs', rfl⟩ := List.mem_map.mp hb
      rw [ht] at hs'
      have := tp s' hs'
      omega
  · rw [ht, List.drop_one, List.tail_cons, ← ht]
    simp only [meetsL, List.mem_filter, mem_seqL, List.mem_append, List.mem_map, List.mem_reverse, mem_shfs]
    constructor
    · rintro ⟨⟨h1, h2⟩, h3⟩
      rcases Int.le_total x 0 with q | q
      · obtain ⟨s, hs⟩ := Int.eq_ofNat_of_zero_le (show 0 ≤ -x by omega)
        have e : x = -(s : Int) := by omega
        subst e
        rw [agF_self.2] at h3
        exact .inl ⟨s, ⟨by omega, h3⟩, by omega⟩
      · obtain ⟨s, hs⟩ := Int.eq_ofNat_of_zero_le q
        subst hs
        rw [agF_self.1] at h3
        by_cases z : s = 0
        · subst z; exact .inl ⟨0, ⟨hl, h3⟩, by simp⟩
        · have : s ∈ shfs w := mem_shfs.mpr ⟨by omega, h3⟩
          rw [ht] at this
          exact .inr ⟨s, (List.mem_cons.mp this).resolve_left z, rfl⟩
    · rintro (⟨s, ⟨h1, h2⟩, rfl⟩ | ⟨s, hs, rfl⟩)
      · refine ⟨by omega, ?_⟩
        rw [show (0 : Int) - (s : Int) = -(s : Int) by omega, agF_self.2]; exact h2
      · have : s ∈ shfs w := by rw [ht]; simp [hs]
        obtain ⟨h1, h2⟩ := mem_shfs.mp this
        exact ⟨by omega, by rw [agF_self.1]; exact h2⟩
def dueS (one other : List Int) : List Int := meetsL one other ++ [(one.length : Int), -(other.length : Int)]
theorem mem_dueS {one other : List Int} (h2 : 1 ≤ other.length) {st : Int} : st ∈ dueS one other ↔ st ∈ startsL one other := by
  simp only [dueS, meetsL, startsL, List.mem_append, List.mem_filter, mem_seqL, List.mem_cons, List.not_mem_nil, or_false]
  constructor
  · rintro (⟨h1, h3⟩ | rfl | rfl)
    · exact ⟨by omega, h3⟩
    · exact ⟨by omega, agF_out (.inr rfl)⟩
    · exact ⟨by omega, agF_out (.inl rfl)⟩
  · rintro ⟨h1, h3⟩
    by_cases q1 : st = one.length
    · exact .inr (.inl q1)
    · by_cases q2 : st = -(other.length : Int)
      · exact .inr (.inr q2)
      · exact .inl ⟨by omega, h3⟩
theorem least {one other : List Int} (h2 : 1 ≤ other.length) : ∃ c : Nat, minI (((dueS one other).map (ovL one other)).map fun r => (r.length : Int)) = some (c : Int) ∧ minX ((((dueS one other).map (ovL one other)).filter fun r => decide (r.length = c)).map tI) = some (tI (shortL one other)) := by
  have ne : (((dueS one other).map (ovL one other)).map fun r => (r.length : Int)) ≠ [] := by simp [dueS]
  obtain ⟨c, e1, e2, e3⟩ := minI_spec _ ne
  obtain ⟨r, hr, rfl⟩ := List.mem_map.mp e2
  refine ⟨r.length, e1, ?_⟩
  cases q : ((dueS one other).map (ovL one other)).filter fun x => decide (x.length = r.length) with
  | nil =>
    have := List.filter_eq_nil_iff.mp q r hr
    simp at this
  | cons y s =>
    rw [min_rows]
    congr 2
    unfold shortL
    cases p : (startsL one other).map (ovL one other) with
    | nil => exact absurd (List.map_eq_nil_iff.mp p) (startsL_ne one other)
    | cons x l =>
      refine (best_same (t := (dueS one other).map (ovL one other)) (c := r.length) (fun z => ?_) ⟨r, hr, rfl⟩ (fun z hz => ?_) q.symm).symm
      · rw [← p]
        simp only [List.mem_map, mem_dueS h2]
      · have := e3 _ (List.mem_map.mpr ⟨z, hz, rfl⟩)
        omega
def J (i : Nat) (ρ : Rho) (m : Ms) : Prop := Dr (i * 1000) m ∧ ∃ a0 a2 a3 a4 a5 a6 a7 a8 a9 a10 a11 a12 a13 : Option Slot, ρ = [a0, some (.fz .drw), a2, a3, a4, a5, a6, a7, a8, a9, a10, a11, a12, a13]
def inB : B → B
  | .cons (.for _ _ b) _ => b
  | _ => .nil
def tlB : B → B
  | .cons _ b => b
  | _ => .nil
theorem two (x : PyData) : binD .Mult (.list [x]) (.int 2) = some (.list [x, x]) := rfl
theorem fit2 {d : PyData} {k : Nat} (h : FitN d 1 k) (hk : k ≤ 1000) : ∃ s, biD .repr (.list [d, d]) = some (.str s) := ⟨_, biD_repr ((fit_cons h (fit_cons h fit_nil1)).lst.mono (by decide) (Nat.le_refl _)) (by unfold lim; omega)⟩
theorem meets_len {one other : List Int} (w1 : Word one) (w2 : Word other) : (meetsL one other).length ≤ 48 ∧ ∀ x ∈ meetsL one other, x.natAbs < 2 ^ 6 := by
  have l1 := w1.2.1
  have l2 := w2.2.1
  refine ⟨?_, fun x hx => ?_⟩
  · refine Nat.le_trans (List.length_filter_le _ _) ?_
    rw [seqL_len]; omega
  · have := mem_seqL.mp (List.mem_filter.mp hx).1
    omega
theorem short_ok {one other : List Int} (w1 : Word one) (w2 : Word other) : (shortL one other).length ≤ 48 ∧ ∀ x ∈ shortL one other, x.natAbs < 2 ^ 6 := by
  have hm : shortL one other ∈ (startsL one other).map (ovL one other) := by
    unfold shortL
    cases p : (startsL one other).map (ovL one other) with
    | nil => exact absurd (List.map_eq_nil_iff.mp p) (startsL_ne one other)
    | cons x l => exact (best_spec ordP l x).1
  obtain ⟨st, h1, h2⟩ := List.mem_map.mp hm
  rw [← h2]
  obtain ⟨s1, s2⟩ := mem_startsL h1
  refine ⟨ovL_len_le w1 w2 s1 s2, fun x hx => ?_⟩
  obtain ⟨p, _, rfl⟩ := List.mem_map.mp hx
  have gd : ∀ (w : List Int), Word w → ∀ j, (w.getD j 0).natAbs < 2 ^ 6 := fun w hw j => by
    rw [List.getD_eq_getElem?_getD]
    cases q : w[j]? with
    | none => decide
    | some y =>
      have := hw.2.2 y (List.mem_of_getElem? q)
      simp
      omega
  unfold ovA
  split
  · exact gd one w1 _
  · exact gd other w2 _
theorem body (i : Nat) (x : PyData) (ρ : Rho) (m : Ms) (hi : i < 5) (h : J i ρ m) : tw (lturn (run Γ W n) W (.one 2) (inB b_law) x ρ m) fun fl m' => ∃ ρ', fl = .nx ρ' ∧ J (i + 1) ρ' m' := by
  obtain ⟨hd, a0, a2, a3, a4, a5, a6, a7, a8, a9, a10, a11, a12, a13, rfl⟩ := h
  rw [lturn_one]
  dsimp only [List.set, b_law, inB]
  refine tw_unp2T (P := fun a b m' => ∃ one other : List Int, a = tI one ∧ b = tI other ∧ W3 one ∧ W3 other ∧ Dr (i * 1000 + 200) m') ?_ fun a b m1 ⟨one, other, e1, e2, o1, o2, d1⟩ => ?_
  · simp
    exact tw_mono (tw_ltwo gw rfl rfl (by omega) hd) fun v m' ⟨⟨one, other, e, g1, g2⟩, g3⟩ => ⟨_, _, e, one, rfl, other, rfl, g1, g2, g3⟩
  subst e1 e2
  dsimp only [List.set]
  have w1 := o1.word
  have w2 := o2.word
  have l1 := w1.2.1
  have l2 := w2.2.1
  have k1 := w1.1
  have k2 := w2.1
  have n1 : biD .len (tI one) = some (.int (one.length : Int)) := by rw [tI, biD_len_t, List.length_map]
  have n2 : biD .len (tI other) = some (.int (other.length : Int)) := by rw [tI, biD_len_t, List.length_map]
  refine tw_set (v := .p (.list ((meetsL one other).map .int))) (m' := m1) (by simp [rlm m1 w1 w2]) ?_
  dsimp only [List.set]
  refine tw_setT (P := fun v m' => (∃ b : Bool, v = .p (sq b (one.map .int))) ∧ Dr (i * 1000 + 201) m') ?_ fun v m2 ⟨⟨b, e⟩, d2⟩ => ?_
  · simp [show 2 ≤ lim by decide]
    refine tw_seq (P := fun v m' => (∃ c : Nat, v = .int (c : Int) ∧ c < 2) ∧ Dr (i * 1000 + 201) m') (tw_dOf (tw_draw gw (by omega) (by omega) (by omega) d1 fun c m' a1 a2 a3 => ⟨_, rfl, ⟨c.toNat, by rw [Int.toNat_of_nonneg a1], by omega⟩, a3⟩)) fun v m' ⟨⟨c, e, hc⟩, d2⟩ => ?_
    subst e
    rw [idx_l, at_nat]
    match c, hc with
    | 0, _ => exact tw_ret.mpr ⟨.inr rfl, d2⟩
    | 1, _ => exact tw_ret.mpr ⟨.inl rfl, d2⟩
    | c + 2, h => omega
  subst e
  dsimp only [List.set]
  obtain ⟨ml, mb⟩ := meets_len w1 w2
  obtain ⟨s1, hs1⟩ := fit2 (d := tI (meetsL one other)) (k := 48 * 12 + 4) ((fit_tI (k := 6) mb (by decide)).mono (Nat.le_refl _) (by omega)) (by decide)
  have like1 := rl m2 hs1
  have q1 : run Γ W n "meets" [.p (sq b (one.map .int)), .p (tI other)] m2 = ret (.p (tI (meetsL one other))) m2 := rm b true m2 w1 w2
  have q2 : run Γ W n "meets" [.p (tI one), .p (.list (other.map .int))] m2 = ret (.p (tI (meetsL one other))) m2 := rm true false m2 w1 w2
  have q3 : run Γ W n "shortest_over" [.p (sq b (one.map .int)), .p (tI other)] m2 = ret (.p (tI (shortL one other))) m2 := rsh b true m2 w1 w2
  have q4 : run Γ W n "shortest_over" [.p (tI one), .p (.list (other.map .int))] m2 = ret (.p (tI (shortL one other))) m2 := rsh true false m2 w1 w2
  have t1 : 0 + 1 ≤ lim := by decide
  have t2 : 0 + 1 + 1 ≤ lim := by decide
  have lo : biD .list (tI other) = some (.list (other.map .int)) := rfl
  have lt : biD .tuple (.list ((meetsL one other).map PyData.int)) = some (tI (meetsL one other)) := rfl
  refine tw_skip (m' := m2) ?_ ?_
  · simp only [ev_not, ev_call, eva_cons, eva_nil, ev_lst, evs_cons, evs_nil, ev_vr, List.getElem?_cons_succ, List.getElem?_cons_zero, varR_fz, bnd_ret', dOf_r, q1, q2, ev_blt, lk_var, lkR_fz, lo, lt, Option.map_some, opt_s, List.length_cons, List.length_nil, if_pos t1, if_pos t2, ev_bnr, ev_cst, G.lit_int, two, like1, boolOf_bool, Bool.not_true, bnd_assoc]
  have ms : ∀ st ∈ dueS one other, -(other.length : Int) ≤ st ∧ st ≤ one.length := fun st hst => mem_startsL ((mem_dueS k2).mp hst)
  have dl : (dueS one other).length ≤ lim := by simp [dueS]; unfold lim; omega
  have e0 : (0 : Int) - (other.length : Int) = -(other.length : Int) := by omega
  refine tw_set (v := .p (.list (((dueS one other).map (ovL one other)).map tI))) (m' := m2) ?_ ?_
  · have ad : binD .Add (.list ((meetsL one other).map PyData.int)) (.list [.int (one.length : Int), .int (-(other.length : Int))]) = some (.list ((dueS one other).map .int)) := by
      rw [bin_ladd, if_pos (by simp; unfold lim; omega), dueS, List.map_append]; rfl
    simp only [ev_comp, evI_val, ev_bnr, ev_vr, List.getElem?_cons_succ, List.getElem?_cons_zero, varR_fz, dOf_r, bnd_ret', ev_lst, evs_cons, evs_nil, ev_blt, lk_var, lkR_fz, n1, n2, Option.map_some, opt_s, ev_cst, G.lit_int, bin_sub, e0, List.length_cons, List.length_nil, if_pos t2, ad, seqOf_list, List.length_map, if_pos dl, bnd_assoc, dOf_bnd']
    rw [compGo_all (fun st : Int => tI (ovL one other st)) fun st hst => ?_]
    · rw [bnd_ret', List.map_map]; rfl
    · obtain ⟨z1, z2⟩ := ms st hst
      simp [rll _ w1 w2 z1 z2]
  dsimp only [List.set]
  obtain ⟨c, c1, c2⟩ := least (one := one) k2
  have dl2 : ((dueS one other).map (ovL one other)).length ≤ lim := by rw [List.length_map]; exact dl
  generalize hT : (dueS one other).map (ovL one other) = t at c1 c2 dl2 ⊢
  refine tw_set (v := .p (.int (c : Int))) (m' := m2) ?_ ?_
  · simp only [ev_blt, lk_comp, ev_comp, evI_val, ev_vr, List.getElem?_cons_succ, List.getElem?_cons_zero, varR_fz, dOf_r, bnd_ret', seqOf_list, opt_s, List.length_map, if_pos dl2]
    rw [compGo_all (fun r : List Int => PyData.int (r.length : Int)) fun r hr => ?_]
    · have : biD .min (.list (t.map fun r => PyData.int (r.length : Int))) = some (.int (c : Int)) := by
        show minX _ = _
        rw [minX_map t (fun r => (r.length : Int)), c1]; rfl
      rw [bnd_ret', dOf_r, bnd_ret', this]; rfl
    · have lr : biD .len (tI r) = some (.int (r.length : Int)) := by rw [tI, biD_len_t, List.length_map]
      simp only [turn_one, evC_no, bnd_ret', if_true, ev_blt, lk_var, List.getElem?_cons_succ, List.getElem?_cons_zero, List.set_cons_succ, List.set_cons_zero, lkR_fz, lr, Option.map_some, opt_s, dOf_r]
  dsimp only [List.set]
  refine tw_set (v := .p (tI (shortL one other))) (m' := m2) ?_ ?_
  · simp only [ev_blt, lk_comp, ev_comp, evI_val, ev_vr, List.getElem?_cons_succ, List.getElem?_cons_zero, varR_fz, dOf_r, bnd_ret', seqOf_list, opt_s, List.length_map, if_pos dl2]
    rw [compGo_sel (c := tI) (fun r : List Int => decide (r.length = c)) tI fun r hr => ?_]
    · have : biD .min (.list ((t.filter fun r => decide (r.length = c)).map tI)) = some (tI (shortL one other)) := c2
      rw [bnd_ret', dOf_r, bnd_ret', this]; rfl
    · have lr : biD .len (tI r) = some (.int (r.length : Int)) := by rw [tI, biD_len_t, List.length_map]
      simp only [turn_one, evC_yes, bnd_ret', ev_cmp, ev_blt, lk_var, ev_vr, List.getElem?_cons_succ, List.getElem?_cons_zero, List.set_cons_succ, List.set_cons_zero, varR_fz, lkR_fz, lr, Option.map_some, opt_s, dOf_r, cmp_eq, eqD_int, boolOf_bool, Int.ofNat_inj, Int.natCast_inj]
  dsimp only [List.set]
  obtain ⟨sl, sb⟩ := short_ok w1 w2
  obtain ⟨s2, hs2⟩ := fit2 (d := tI (shortL one other)) (k := 48 * 12 + 4) ((fit_tI (k := 6) sb (by decide)).mono (Nat.le_refl _) (by omega)) (by decide)
  have like2 := rl m2 hs2
  refine tw_skip (m' := m2) ?_ ?_
  · simp only [ev_not, ev_call, eva_cons, eva_nil, ev_lst, evs_cons, evs_nil, ev_vr, List.getElem?_cons_succ, List.getElem?_cons_zero, varR_fz, bnd_ret', dOf_r, q3, q4, ev_blt, lk_var, lkR_fz, lo, lt, Option.map_some, opt_s, List.length_cons, List.length_nil, if_pos t1, if_pos t2, ev_bnr, ev_cst, G.lit_int, two, like2, boolOf_bool, Bool.not_true, bnd_assoc]
  have w0 : one ≠ [] := fun z => by rw [z] at k1; simp at k1
  have sm := self_meets w0
  have r1 := rlm m2 w1 w1
  have r2 : ∀ m, run Γ W n "_law_shifts" [.p (tI one)] m = ret (.p (tN (shfs one))) m := fun m => rs m (by omega)
  have shl : (shfs one).length ≤ 24 := Nat.le_trans (List.length_filter_le _ _) (by rw [List.length_range]; exact l1)
  refine tw_skip (m' := m2) ?_ (tw_nil ?_)
  · have rv : revR (tN (shfs one)) m2 = ret (.p (.tuple ((shfs one).reverse.map fun (s : Nat) => PyData.int (s : Int)))) m2 := by
      show G.ret (Val.p (PyData.tuple (List.reverse _))) m2 = _
      rw [← List.map_reverse]
    have sl : slcD (.list ((shfs one).map fun (s : Nat) => PyData.int (s : Int))) (some 1) none = some (.list (((shfs one).drop 1).map fun (s : Nat) => PyData.int (s : Int))) := by
      show some (PyData.list (cutD _ _ _)) = _
      rw [show (1 : Int) = ((1 : Nat) : Int) from rfl, cut_from, ← List.map_drop]
    have bl : biD .list (tN (shfs one)) = some (.list ((shfs one).map fun (s : Nat) => PyData.int (s : Int))) := rfl
    have rl2 : (shfs one).reverse.length ≤ lim := by rw [List.length_reverse]; unfold lim; omega
    have cm : ∀ r, ev (run Γ W n) (.comp (.bin .Sub (.cst (.int 0)) (.var 13)) (.one 13) (.val (.rev (.call "_law_shifts" (.cons (.var 9) .nil)))) .no) r m2 = ev (run Γ W n) (.comp (.bin .Sub (.cst (.int 0)) (.var 13)) (.one 13) (.val (.rev (.call "_law_shifts" (.cons (.var 9) .nil)))) .no) r m2 := fun r => rfl
    have ad : binD .Add (.list ((shfs one).reverse.map fun (s : Nat) => PyData.int ((0 : Int) - (s : Int)))) (.list (((shfs one).drop 1).map fun (s : Nat) => PyData.int (s : Int))) = some (.list ((meetsL one one).map .int)) := by
      rw [bin_ladd, if_pos (by simp; unfold lim; omega), sm, List.map_append, List.map_map, List.map_map]; rfl
    simp only [ev_cmp, ev_call, eva_cons, eva_nil, ev_vr, List.getElem?_cons_succ, List.getElem?_cons_zero, varR_fz, bnd_ret', dOf_r, r1, ev_bnr, ev_comp, evI_val, ev_rv, r2, rv, seqOf_tuple, opt_s, List.length_map, if_pos rl2, bnd_assoc, dOf_bnd']
    rw [compGo_all (fun s : Nat => PyData.int ((0 : Int) - (s : Int))) fun s hs => ?_]
    · simp only [bnd_ret', dOf_r, ev_slc, ev_blt, lk_call, ev_call, eva_cons, eva_nil, ev_vr, List.getElem?_cons_succ, List.getElem?_cons_zero, varR_fz, r2, bl, Option.map_some, opt_s, evO_yes, evO_no, ev_cst, G.lit_int, intOf_int, sl, ad, cmp_ne, eqD_lI, decide_true, Bool.not_true]
    · simp
  · exact ⟨_, rfl, d2.mono (by omega), _, _, _, _, _, _, _, _, _, _, _, _, _, rfl⟩
theorem v1 : meetsL [0, 1, 0] [1, 0, 0] = [-2, 1] := by decide +kernel
theorem v2 : shortL [0, 1] [1, 0] = [0, 1, 0] := by decide +kernel
theorem v3 : shortL [0] [1] = [0, 1] := by decide +kernel
theorem wd (w : List Int) (h : decide (1 ≤ w.length ∧ w.length ≤ 24 ∧ ∀ x ∈ w, 0 ≤ x ∧ x ≤ 23) = true) : Word w := (of_decide_eq_true h : 1 ≤ w.length ∧ w.length ≤ 24 ∧ ∀ x ∈ w, 0 ≤ x ∧ x ≤ 23)
theorem hr : ∀ d : DS, d.spot = 0 → ∃ m', bnd (exB (run Γ W n) W b_law (rho0 n_law.length) (some d)) endF = some (.ok (.p (.bool true)), m') := by
  intro d hd
  have key : tw (bnd (exB (run Γ W n) W b_law (rho0 n_law.length) (some d)) endF) fun v _ => v = .p (.bool true) := by
    refine tw_bnd.mpr ?_
    have e : b_law = .cons (.for (.one 2) (.rng1 (.cst (.int 5))) (inB b_law)) (tlB b_law) := rfl
    rw [e]
    refine tw_loop (xs := rngL 0 5) (m' := some d) (by simp [show rngOk 0 5 = true from rfl]) J ⟨⟨d, rfl, by omega⟩, _, _, _, _, _, _, _, _, _, _, _, _, _, rfl⟩ (fun i x ρ m hx hi => ?_) fun ρ' m' h => ?_
    · obtain ⟨hi5, rfl⟩ := rng_at hx
      exact body i _ ρ m hi5 hi
    · obtain ⟨dr, a0, a2, a3, a4, a5, a6, a7, a8, a9, a10, a11, a12, a13, rfl⟩ := h
      dsimp only [b_law, tlB]
      have s1 : ∀ m, run Γ W n "meets" [.p (.tuple [.int 0, .int 1, .int 0]), .p (.tuple [.int 1, .int 0, .int 0])] m = ret (.p (.tuple [.int (-2), .int 1])) m := fun m => (rm (one := [0, 1, 0]) (other := [1, 0, 0]) true true m (wd _ (by decide)) (wd _ (by decide))).trans (by rw [v1]; rfl)
      have s2 : ∀ m, run Γ W n "shortest_over" [.p (.tuple [.int 0, .int 1]), .p (.tuple [.int 1, .int 0])] m = ret (.p (.tuple [.int 0, .int 1, .int 0])) m := fun m => (rsh (one := [0, 1]) (other := [1, 0]) true true m (wd _ (by decide)) (wd _ (by decide))).trans (by rw [v2]; rfl)
      have s3 : ∀ m, run Γ W n "shortest_over" [.p (.tuple [.int 0]), .p (.tuple [.int 1])] m = ret (.p (.tuple [.int 0, .int 1])) m := fun m => (rsh (one := [0]) (other := [1]) true true m (wd _ (by decide)) (wd _ (by decide))).trans (by rw [v3]; rfl)
      have e1 : eqD (.list [.tuple [.int (-2), .int 1], .tuple [.int 0, .int 1, .int 0], .tuple [.int 0, .int 1]]) (.list [.tuple [.int (-2), .int 1], .tuple [.int 0, .int 1, .int 0], .tuple [.int 0, .int 1]]) = some true := by decide +kernel
      simp [show 1 ≤ lim by decide, show 2 ≤ lim by decide, show 3 ≤ lim by decide, s1, s2, s3, e1]
  obtain ⟨v, m', e, rfl⟩ := key
  exact ⟨m', e⟩
end K50

end
section
set_option maxHeartbeats 0
namespace K50
open PySem PySem.Spec PyProof.Rows L2 G
def top (i : Nat) : Stmt := PySem.Challenge.pw_shiftsame_k50_whole_words_met.main.body.getD i (.Pass ⟨0, 0, 0, 0⟩)
theorem c_is_whole : (C8.scC n_is_whole (n_is_whole.take 1) (C8.fnScope (top 5)) && chkB T n_is_whole (C8.fnScope (top 5)) P.d_is_whole.body (C8.fnBody (top 5)) && decide ((n_is_whole.take 1).length = P.d_is_whole.np) && decide (n_is_whole.length = P.d_is_whole.ns)) = true := by decide +kernel
theorem c_is_among : (C8.scC n_is_among (n_is_among.take 3) (C8.fnScope (top 6)) && chkB T n_is_among (C8.fnScope (top 6)) P.d_is_among.body (C8.fnBody (top 6)) && decide ((n_is_among.take 3).length = P.d_is_among.np) && decide (n_is_among.length = P.d_is_among.ns)) = true := by decide +kernel
theorem c_is_list : (C8.scC n_is_list (n_is_list.take 1) (C8.fnScope (top 7)) && chkB T n_is_list (C8.fnScope (top 7)) P.d_is_list.body (C8.fnBody (top 7)) && decide ((n_is_list.take 1).length = P.d_is_list.np) && decide (n_is_list.length = P.d_is_list.ns)) = true := by decide +kernel
theorem c_need_word : (C8.scC n_need_word (n_need_word.take 1) (C8.fnScope (top 8)) && chkB T n_need_word (C8.fnScope (top 8)) P.d_need_word.body (C8.fnBody (top 8)) && decide ((n_need_word.take 1).length = P.d_need_word.np) && decide (n_need_word.length = P.d_need_word.ns)) = true := by decide +kernel
theorem c_agree_at : (C8.scC n_agree_at (n_agree_at.take 3) (C8.fnScope (top 10)) && chkB T n_agree_at (C8.fnScope (top 10)) P.d_agree_at.body (C8.fnBody (top 10)) && decide ((n_agree_at.take 3).length = P.d_agree_at.np) && decide (n_agree_at.length = P.d_agree_at.ns)) = true := by decide +kernel
theorem c_meets : (C8.scC n_meets (n_meets.take 2) (C8.fnScope (top 11)) && chkB T n_meets (C8.fnScope (top 11)) P.d_meets.body (C8.fnBody (top 11)) && decide ((n_meets.take 2).length = P.d_meets.np) && decide (n_meets.length = P.d_meets.ns)) = true := by decide +kernel
theorem c_both_at : (C8.scC n_both_at (n_both_at.take 3) (C8.fnScope (top 12)) && chkB T n_both_at (C8.fnScope (top 12)) P.d_both_at.body (C8.fnBody (top 12)) && decide ((n_both_at.take 3).length = P.d_both_at.np) && decide (n_both_at.length = P.d_both_at.ns)) = true := by decide +kernel
theorem c_shortest_over : (C8.scC n_shortest_over (n_shortest_over.take 2) (C8.fnScope (top 13)) && chkB T n_shortest_over (C8.fnScope (top 13)) P.d_shortest_over.body (C8.fnBody (top 13)) && decide ((n_shortest_over.take 2).length = P.d_shortest_over.np) && decide (n_shortest_over.length = P.d_shortest_over.ns)) = true := by decide +kernel
theorem c__law_like : (C8.scC n__law_like (n__law_like.take 2) (C8.fnScope (top 19)) && chkB T n__law_like (C8.fnScope (top 19)) P.d_llike.body (C8.fnBody (top 19)) && decide ((n__law_like.take 2).length = P.d_llike.np) && decide (n__law_like.length = P.d_llike.ns)) = true := by decide +kernel
theorem c__law_shifts : (C8.scC n__law_shifts (n__law_shifts.take 1) (C8.fnScope (top 20)) && chkB T n__law_shifts (C8.fnScope (top 20)) P.d_lshifts3.body (C8.fnBody (top 20)) && decide ((n__law_shifts.take 1).length = P.d_lshifts3.np) && decide (n__law_shifts.length = P.d_lshifts3.ns)) = true := by decide +kernel
theorem c__law_word : (C8.scC n__law_word (n__law_word.take 3) (C8.fnScope (top 21)) && chkB T n__law_word (C8.fnScope (top 21)) P.d_lword3.body (C8.fnBody (top 21)) && decide ((n__law_word.take 3).length = P.d_lword3.np) && decide (n__law_word.length = P.d_lword3.ns)) = true := by decide +kernel
theorem c__law_meets : (C8.scC n__law_meets (n__law_meets.take 2) (C8.fnScope (top 22)) && chkB T n__law_meets (C8.fnScope (top 22)) P.d_lmeets.body (C8.fnBody (top 22)) && decide ((n__law_meets.take 2).length = P.d_lmeets.np) && decide (n__law_meets.length = P.d_lmeets.ns)) = true := by decide +kernel
theorem c__law_laid : (C8.scC n__law_laid (n__law_laid.take 3) (C8.fnScope (top 23)) && chkB T n__law_laid (C8.fnScope (top 23)) P.d_llaid.body (C8.fnBody (top 23)) && decide ((n__law_laid.take 3).length = P.d_llaid.np) && decide (n__law_laid.length = P.d_llaid.ns)) = true := by decide +kernel
theorem c__law_two : (C8.scC n__law_two (n__law_two.take 1) (C8.fnScope (top 24)) && chkB T n__law_two (C8.fnScope (top 24)) P.d_ltwo.body (C8.fnBody (top 24)) && decide ((n__law_two.take 1).length = P.d_ltwo.np) && decide (n__law_two.length = P.d_ltwo.ns)) = true := by decide +kernel
theorem c_law : (C8.scC n_law ["_law_script"] (C8.fnScope (top 25)) && chkLaw T n_law b_law (C8.fnScope (top 25)) (C8.fnBody (top 25))) = true := by decide +kernel
theorem c__law_mixed : (C8.scC ["_law_cell", "_law_n", "_law_blend"] ["_law_cell", "_law_n"] (C8.fnScope (top 15)) && (fun sc b => chkB noT ["_law_cell", "_law_n", "_law_blend"] sc mixedDef.body b) (C8.fnScope (top 15)) (C8.fnBody (top 15))) = true := by decide +kernel
theorem c__law_draw : (C8.scC ND ["_law_m", "_law_limit"] (C8.fnScope (top 17)) && (chkDraw) (C8.fnScope (top 17)) (C8.fnBody (top 17))) = true := by decide +kernel
theorem c__law_folded : (C8.scC NF ["_law_script"] (C8.fnScope (top 16)) && (chkFold) (C8.fnScope (top 16)) (C8.fnBody (top 16))) = true := by decide +kernel
theorem c__law_begun : (C8.scC NB ["_law_script"] (C8.fnScope (top 18)) && (chkBegun) (C8.fnScope (top 18)) (C8.fnBody (top 18))) = true := by decide +kernel
theorem facts {K : PySem.W.Frag} {h : Heap} {mg : Str → Option Value} (X : K.In h) (Gn : h.Ns mainGlobals mg) (D_is_whole : DefAt K "is_whole" (top 5)) (D_is_among : DefAt K "is_among" (top 6)) (D_is_list : DefAt K "is_list" (top 7)) (D_need_word : DefAt K "need_word" (top 8)) (D_agree_at : DefAt K "agree_at" (top 10)) (D_meets : DefAt K "meets" (top 11)) (D_both_at : DefAt K "both_at" (top 12)) (D_shortest_over : DefAt K "shortest_over" (top 13)) (D__law_like : DefAt K "_law_like" (top 19)) (D__law_shifts : DefAt K "_law_shifts" (top 20)) (D__law_word : DefAt K "_law_word" (top 21)) (D__law_meets : DefAt K "_law_meets" (top 22)) (D__law_laid : DefAt K "_law_laid" (top 23)) (D__law_two : DefAt K "_law_two" (top 24)) (D__law_mixed : DefAt K "_law_mixed" (top 15)) (D__law_draw : DefAt K "_law_draw" (top 17)) (D__law_folded : DefAt K "_law_folded" (top 16)) (D__law_begun : DefAt K "_law_begun" (top 18)) (D_law : DefAt K "law" (top 25)) (Z : ∀ x ∈ bnames, PySem.W.nsIn K mainGlobals x = some none) (C_MOST_LONG : LitAt K "MOST_LONG" (.int 24)) : LawFacts K mg T Γ n_law b_law where
  bn := bn_of X Gn Z
  gl := gl_of X Gn (by simp only [consts, List.forall_mem_cons]; exact ⟨C_MOST_LONG, fun _ h => nomatch h⟩)
  code := code_of (by simp only [table, List.forall_mem_cons]; exact ⟨fn_of X Gn D_is_whole (fun _ _ _ _ _ _ us hl => match us, hl with | [_], _ => rfl) c_is_whole, fn_of X Gn D_is_among (fun _ _ _ _ _ _ us hl => match us, hl with | [_, _, _], _ => rfl) c_is_among, fn_of X Gn D_is_list (fun _ _ _ _ _ _ us hl => match us, hl with | [_], _ => rfl) c_is_list, fn_of X Gn D_need_word (fun _ _ _ _ _ _ us hl => match us, hl with | [_], _ => rfl) c_need_word, fn_of X Gn D_agree_at (fun _ _ _ _ _ _ us hl => match us, hl with | [_, _, _], _ => rfl) c_agree_at, fn_of X Gn D_meets (fun _ _ _ _ _ _ us hl => match us, hl with | [_, _], _ => rfl) c_meets, fn_of X Gn D_both_at (fun _ _ _ _ _ _ us hl => match us, hl with | [_, _, _], _ => rfl) c_both_at, fn_of X Gn D_shortest_over (fun _ _ _ _ _ _ us hl => match us, hl with | [_, _], _ => rfl) c_shortest_over, fn_of X Gn D__law_like (fun _ _ _ _ _ _ us hl => match us, hl with | [_, _], _ => rfl) c__law_like, fn_of X Gn D__law_shifts (fun _ _ _ _ _ _ us hl => match us, hl with | [_], _ => rfl) c__law_shifts, fn_of X Gn D__law_word (fun _ _ _ _ _ _ us hl => match us, hl with | [_, _, _], _ => rfl) c__law_word, fn_of X Gn D__law_meets (fun _ _ _ _ _ _ us hl => match us, hl with | [_, _], _ => rfl) c__law_meets, fn_of X Gn D__law_laid (fun _ _ _ _ _ _ us hl => match us, hl with | [_, _, _], _ => rfl) c__law_laid, fn_of X Gn D__law_two (fun _ _ _ _ _ _ us hl => match us, hl with | [_], _ => rfl) c__law_two, fun _ h => nomatch h⟩)
  draw := draw_of
  mixed := ObjAt.fn (obj_of (chk := fun sc b => chkB noT ["_law_cell", "_law_n", "_law_blend"] sc mixedDef.body b) X Gn D__law_mixed (fun _ _ _ _ _ _ us hl => match us, hl with | [_, _], _ => rfl) c__law_mixed) rfl rfl
  drw := obj_of X Gn D__law_draw (fun _ _ _ _ _ _ us hl => match us, hl with | [_, _], _ => rfl) c__law_draw
  fold := obj_of X Gn D__law_folded (fun _ _ _ _ _ _ us hl => match us, hl with | [_], _ => rfl) c__law_folded
  beg := obj_of X Gn D__law_begun (fun _ _ _ _ _ _ us hl => match us, hl with | [_], _ => rfl) c__law_begun
  law := obj_of X Gn D_law (fun _ _ _ _ _ _ us hl => match us, hl with | [_], _ => rfl) c_law
end K50

end
open PySem PySem.W PyProof.Rows
set_option maxRecDepth 100000 in
set_option maxHeartbeats 0 in
theorem PySem.Challenge.cw_shiftsame_k50_whole_words_met_holds : PySem.Challenge.rw_shiftsame_k50_whole_words_met.Holds := by
  w_on; o_law; k_head; (case hw => w_witness2)
  k_fill
  refine G.walk (l := PySem.Challenge.rw_shiftsame_k50_whole_words_met) (T := K50.T) (Γ := K50.Γ) (N := K50.n_law) (ir := K50.b_law) (W := K50.W) (n := K50.n) rfl rfl rfl (fun w h Y => PySem.W.kIn_of Y) ?F (by decide) (by decide) K50.room (fun d _ h => K50.hr d h)
  case F =>
    intro w mg h KX Gn
    refine' K50.facts KX Gn (G.DefAt.mk ?mda0 ?mdl0 ?mdc0 ?mdk0) (G.DefAt.mk ?mda1 ?mdl1 ?mdc1 ?mdk1) (G.DefAt.mk ?mda2 ?mdl2 ?mdc2 ?mdk2) (G.DefAt.mk ?mda3 ?mdl3 ?mdc3 ?mdk3) (G.DefAt.mk ?mda4 ?mdl4 ?mdc4 ?mdk4) (G.DefAt.mk ?mda5 ?mdl5 ?mdc5 ?mdk5) (G.DefAt.mk ?mda6 ?mdl6 ?mdc6 ?mdk6) (G.DefAt.mk ?mda7 ?mdl7 ?mdc7 ?mdk7) (G.DefAt.mk ?mda8 ?mdl8 ?mdc8 ?mdk8) (G.DefAt.mk ?mda9 ?mdl9 ?mdc9 ?mdk9) (G.DefAt.mk ?mda10 ?mdl10 ?mdc10 ?mdk10) (G.DefAt.mk ?mda11 ?mdl11 ?mdc11 ?mdk11) (G.DefAt.mk ?mda12 ?mdl12 ?mdc12 ?mdk12) (G.DefAt.mk ?mda13 ?mdl13 ?mdc13 ?mdk13) (G.DefAt.mk ?mda14 ?mdl14 ?mdc14 ?mdk14) (G.DefAt.mk ?mda15 ?mdl15 ?mdc15 ?mdk15) (G.DefAt.mk ?mda16 ?mdl16 ?mdc16 ?mdk16) (G.DefAt.mk ?mda17 ?mdl17 ?mdc17 ?mdk17) (G.DefAt.mk ?mda18 ?mdl18 ?mdc18 ?mdk18) ?mzz (G.LitAt.mk ?mcg0 ?mcr0)
    (case mda0 => k_is); (case mdl0 => k_is); (case mdc0 => k_is); (case mdk0 => k_is)
    (case mda1 => k_is); (case mdl1 => k_is); (case mdc1 => k_is); (case mdk1 => k_is)
    (case mda2 => k_is); (case mdl2 => k_is); (case mdc2 => k_is); (case mdk2 => k_is)
    (case mda3 => k_is); (case mdl3 => k_is); (case mdc3 => k_is); (case mdk3 => k_is)
    (case mda4 => k_is); (case mdl4 => k_is); (case mdc4 => k_is); (case mdk4 => k_is)
    (case mda5 => k_is); (case mdl5 => k_is); (case mdc5 => k_is); (case mdk5 => k_is)
    (case mda6 => k_is); (case mdl6 => k_is); (case mdc6 => k_is); (case mdk6 => k_is)
    (case mda7 => k_is); (case mdl7 => k_is); (case mdc7 => k_is); (case mdk7 => k_is)
    (case mda8 => k_is); (case mdl8 => k_is); (case mdc8 => k_is); (case mdk8 => k_is)
    (case mda9 => k_is); (case mdl9 => k_is); (case mdc9 => k_is); (case mdk9 => k_is)
    (case mda10 => k_is); (case mdl10 => k_is); (case mdc10 => k_is); (case mdk10 => k_is)
    (case mda11 => k_is); (case mdl11 => k_is); (case mdc11 => k_is); (case mdk11 => k_is)
    (case mda12 => k_is); (case mdl12 => k_is); (case mdc12 => k_is); (case mdk12 => k_is)
    (case mda13 => k_is); (case mdl13 => k_is); (case mdc13 => k_is); (case mdk13 => k_is)
    (case mda14 => k_is); (case mdl14 => k_is); (case mdc14 => k_is); (case mdk14 => k_is)
    (case mda15 => k_is); (case mdl15 => k_is); (case mdc15 => k_is); (case mdk15 => k_is)
    (case mda16 => k_is); (case mdl16 => k_is); (case mdc16 => k_is); (case mdk16 => k_is)
    (case mda17 => k_is); (case mdl17 => k_is); (case mdc17 => k_is); (case mdk17 => k_is)
    (case mda18 => k_is); (case mdl18 => k_is); (case mdc18 => k_is); (case mdk18 => k_is)
    (case mzz => intro x hx; simp only [G.bnames, List.mem_cons, List.not_mem_nil, or_false] at hx; rcases hx with rfl | rfl | rfl | rfl | rfl | rfl | rfl | rfl | rfl | rfl | rfl | rfl | rfl | rfl | rfl | rfl | rfl | rfl | rfl <;> k_is)
    (case mcg0 => k_is); (case mcr0 => first | exact ⟨_, rfl⟩ | exact rfl)
