import PyProof.Rows.All
import Wide.All
import OpenK.AllK
import Wide.FinOn
import HandS.ForMost
import HandS.ForExc
import HandS.TryMany
import HandS.Wide
import HandS.EndBits
import HandS.IsInst
import HandS.TupAny
import HandS.TupMul
import HandS.Deep
import HandS.Rev
import HandS.SortOrd
import HandS.SortRule
import HandS.Strs
import HandS.SetFor
import HandS.DeepEq
import HandS.Conv
import KE.KDictKeyed
import HandS.HeadWalk
import KE.LtSeq
import KE.DataCmp
import HandS.ExcIs
import HandS.More
import KE.KEqDict
import KE.KDictSum
import PyProof.TupleOfSeq
import KE.GoesMore
import KE.GoesZip
import KE.GoesEnum
import KE.KDictZip
import HandS.Finally
import KE.IntBitsLaws
import PySem.Challenge.RW_anyorder_k10_whole_fillings_fit
set_option Elab.async false
set_option linter.all false
set_option maxRecDepth 100000
/-! D1: the data, the small texts E and S, and what they come to (a run by values). -/
namespace DL
open PySem L2

abbrev D := PyData
/-- how a slot holds its data: shared (never changed any more), its own list or dict, its own dict with tuples as keys -/
inductive Md where
  | fr | ow | on
  deriving DecidableEq, Repr
abbrev Sl := Option (D × Md)
abbrev Sg := List Sl
inductive Res (α : Type) where
  | ok (a : α) (g : Sg)
  | exc (c : Nat) (g : Sg)
  | stuck
def Res.bd {α β : Type} (r : Res α) (f : α → Sg → Res β) : Res β := match r with
  | .ok a g => f a g
  | .exc c g => .exc c g
  | .stuck => .stuck
@[simp] theorem bd_ok {α β : Type} (a : α) (g : Sg) (f : α → Sg → Res β) : (Res.ok a g).bd f = f a g := rfl
@[simp] theorem bd_exc {α β : Type} (c : Nat) (g : Sg) (f : α → Sg → Res β) : (Res.exc c g : Res α).bd f = .exc c g := rfl
@[simp] theorem bd_stuck {α β : Type} (f : α → Sg → Res β) : (Res.stuck : Res α).bd f = .stuck := rfl
theorem bd_eq_ok {α β : Type} {r : Res α} {f : α → Sg → Res β} {b : β} {g : Sg} (h : r.bd f = .ok b g) : ∃ a g1, r = .ok a g1 ∧ f a g1 = .ok b g := by
  cases r with
  | ok a g1 => exact ⟨a, g1, rfl, h⟩
  | exc c g1 => cases h
  | stuck => cases h

/-- what a call comes to -/
inductive CR where
  | ok (d : D) (m : Md)
  | exc (c : Nat)
  | stuck
abbrev Orc := Str → List D → CR

inductive B2 where
  | add | sub | mul | fdiv | mod | pow
  deriving DecidableEq, Repr
inductive C2 where
  | eq | ne | lt | le | gt | ge | isn | notn | in_ | nin
  deriving DecidableEq, Repr
inductive Ty where
  | int | bool | str | tuple | list | dict
  deriving DecidableEq, Repr

/-- expressions; nil, cons: lists of expressions, parts of a slice that are left out -/
inductive E where
  | nil
  | cons (a r : E)
  | var (i : Nat)
  | int (i : Int)
  | str (x : Str)
  | bl (b : Bool)
  | non
  | glob (x : Str)
  | tup (es : E)
  | lst (es : E)
  | dnew (nested : Bool)
  | bin (o : B2) (a b : E)
  | cmp (o : C2) (a b : E)
  | and_ (es : E)
  | or_ (es : E)
  | not_ (a : E)
  | ite (t a b : E)
  | ix (a i : E)
  | sl (a lo hi : E)
  | call (f : Str) (es : E)
  | len (a : E)
  | list (a : E)
  | tuple (a : E)
  | sorted (a : E)
  | sortset (a : E)
  | dict (a : E)
  | min (a b : E)
  | max (a b : E)
  | toInt (a : E)
  | isi (a : E) (t : Ty)
  | dictzip (a b : E)
  | pop (i : Nat)
  | append (i : Nat) (a : E)
  | extend (i : Nat) (a : E)
  | clear (i : Nat)
  | dpop (i : Nat) (a : E)
  | lc (elt : E) (i : Nat) (it cond : E) (fz : List Nat)
  | range1 (a : E)
  | range2 (a b : E)
  | rev (a : E)
  | gnin (x : Str) (a : E)
  | gix (x : Str) (a : E)
  | dcmp (ne : Bool) (a b : E)
  | fld (i : Nat)
  | mcall (i : Nat) (m : Str) (es : E)
  | dpick (kvs : List (Str × Str)) (a : E)
  | nnin (i : Nat) (a : E)
  | nlist (i : Nat)
  | nsorted (i : Nat)

/-- statements; skip, seq: a block -/
inductive S where
  | skip
  | seq (a r : S)
  | set (i : Nat) (e : E)
  | put (i : Nat) (k v : E)
  | ite (t : E) (a b : S)
  | whl (t : E) (b : S)
  | for_ (i : Nat) (it : E) (b : S)
  | ret (e : E)
  | expr (e : E)
  | raise (c : Nat)
  | try_ (cn : List Nat) (b : S) (hs : List (Nat × D))
  | never
  | mk (i : Nat) (e : E)
  | setT (i : Nat) (e : E)
  | appT (i : Nat) (e : E)
  | retT (i : Nat)
  | nput (i : Nat) (k v : E)

/-! ### the plain operations on data -/
def ltD : D → D → Option Bool
  | .int i, .int j => some (decide (i < j))
  | .str x, .str y => some (decide (x.cps.toList < y.cps.toList))
  | .tuple xs, .tuple ys => ltAll xs ys
  | .list xs, .list ys => ltAll xs ys
  | _, _ => none
where ltAll : List D → List D → Option Bool
  | [], [] => some false
  | [], _ :: _ => some true
  | _ :: _, [] => some false
  | x :: xs, y :: ys => if PyData.eqv x y then ltAll xs ys else ltD x y

/-- two data that == may compare: no dict within, texts as they are laid, one of them at most 200 deep -/
def eqOk (d e : D) : Bool := d.canLay0 && e.canLay0 && decide (Nat.min d.depth e.depth ≤ 200)

def isInt : D → Bool
  | .int _ => true
  | _ => false
def isTup1 : D → Bool
  | .tuple (_ :: _) => true
  | _ => false

/-- an order on all data: by kind, then as Python's -/
def rank : D → Nat
  | .none => 0 | .bool _ => 1 | .int _ => 2 | .str _ => 3 | .tuple _ => 4 | .list _ => 5 | .dict _ => 6

/-- the size of an int, told so that no check counts to it -/
def lowI (k : Nat) (i : Int) : Bool := decide (i.natAbs.log2 < k)
theorem lowI_iff {k : Nat} {i : Int} (hk : 0 < k) : lowI k i = true ↔ i.natAbs < 2 ^ k := by
  unfold lowI
  by_cases h : i.natAbs = 0
  · rw [h]; simp; exact ⟨fun _ => Nat.two_pow_pos k, fun _ => by show Nat.log2 0 < k; simpa using hk⟩
  · rw [decide_eq_true_iff, Nat.log2_lt h]
def mulOk (i j : Int) : Bool := lowI 64 i || lowI 64 j
theorem mulOk_of {i j : Int} (h : mulOk i j = true) : (-(2 ^ 64) < i ∧ i < 2 ^ 64) ∨ (-(2 ^ 64) < j ∧ j < 2 ^ 64) := by
  unfold mulOk at h
  rw [Bool.or_eq_true, lowI_iff (by decide), lowI_iff (by decide)] at h
  have e : (2 : Nat) ^ 64 = 18446744073709551616 := by decide
  rw [e] at h
  rcases h with h | h
  · left; omega
  · right; omega
def binD (o : B2) (d e : D) : Option (D × Md) := match o, d, e with
  | .add, .int i, .int j => some (.int (i + j), .fr)
  | .add, .list xs, .list ys => if xs.length + ys.length ≤ sizeLine then some (.list (xs ++ ys), .ow) else none
  | .add, .tuple xs, .tuple ys => if xs.length + ys.length ≤ sizeLine then some (.tuple (xs ++ ys), .fr) else none
  | .sub, .int i, .int j => some (.int (i - j), .fr)
  | .mul, .int i, .int j => if mulOk i j then some (.int (i * j), .fr) else none
  | .mul, .list xs, .int k => if 0 ≤ k ∧ k ≤ 1000 ∧ xs.length ≤ 1000 then some (.list (List.replicate k.toNat xs).flatten, .ow) else none
  | .mul, .tuple xs, .int k => if 0 ≤ k ∧ k ≤ 1000 ∧ 0 < xs.length ∧ xs.length ≤ 1000 then some (.tuple (List.replicate k.toNat xs).flatten, .fr) else none
  | .fdiv, .int i, .int j => if 0 < j ∧ j.natAbs.log2 < 9000 then some (.int (i / j), .fr) else none
  | .mod, .int i, .int j => if 0 < j then some (.int (i % j), .fr) else none
  | .pow, .int i, .int j => if 0 ≤ j ∧ (Builtin.Int.intBits i : Int) * j ≤ 2 ^ 27 then some (.int (i ^ j.toNat), .fr) else none
  | _, _, _ => none

/-- a key among a dict's keys -/
def hasKey (kvs : List (D × D)) (k : D) : Bool := kvs.any fun p => PyData.eqv p.1 k
def getKey (kvs : List (D × D)) (k : D) : Option D := (kvs.find? fun p => PyData.eqv p.1 k).map (·.2)
def putKey (kvs : List (D × D)) (k v : D) : List (D × D) := if hasKey kvs k then kvs.map fun p => if PyData.eqv p.1 k then (p.1, v) else p else kvs ++ [(k, v)]
def dropKey (kvs : List (D × D)) (k : D) : List (D × D) := kvs.filter fun p => !PyData.eqv p.1 k
/-- a key of a dict with tuples as keys: a tuple, at most 8 deep, of ints, texts, tuples -/
def keyOk : D → Bool
  | .int _ => true
  | .str _ => true
  | .tuple xs => keyOkAll xs
  | _ => false
where keyOkAll : List D → Bool
  | [] => true
  | x :: xs => keyOk x && keyOkAll xs
def tupKey (d : D) : Bool := (match d with | .tuple _ => true | _ => false) && keyOk d && d.canLay0 && decide (d.depth ≤ 8)

def isNoneD : D → Bool
  | .none => true
  | _ => false
def plainD (d : D) : Bool := keyOk d && d.canLay0 && decide (d.depth ≤ 90)
/-- < of two ints, of two texts -/
def ltS : D → D → Option Bool
  | .int i, .int j => some (decide (i < j))
  | .str x, .str y => some (decide (x.cps.toList < y.cps.toList))
  | _, _ => none
/-- < of two tuples, of two lists -/
def ltT : D → D → Option Bool
  | .tuple xs, .tuple ys => if plainD (.tuple xs) && plainD (.tuple ys) then ltD.ltAll xs ys else none
  | _, _ => none
def ltL : D → D → Option Bool
  | .list xs, .list ys => if xs.all plainD && ys.all plainD && ((xs.zip ys).all fun p => (ltD p.1 p.2).isSome) then ltD.ltAll xs ys else none
  | _, _ => none
def orO (a b : Option Bool) : Option Bool := match a with
  | some c => some c
  | none => b
/-- a comparison; m: how the right one is held -/
def cmpD (o : C2) (d e : D) (m : Md) : Option Bool := match o with
  | .eq => if eqOk d e then some (PyData.eqv d e) else none
  | .ne => if eqOk d e then some (!PyData.eqv d e) else none
  | .lt => orO (ltS d e) (orO (ltT d e) (ltL d e))
  | .gt => orO (ltS e d) (ltT e d)
  | .le => (orO (ltS e d) (ltT e d)).map (!·)
  | .ge => (ltS d e).map (!·)
  | .isn => match e with | .none => some (isNoneD d) | _ => none
  | .notn => match e with | .none => some (!isNoneD d) | _ => none
  | .in_ => inD d e m
  | .nin => (inD d e m).map (!·)
where inD (d e : D) (m : Md) : Option Bool := match e with
  | .list xs => if SeqAt.shaped d && SeqAt.shaped (.list xs) then some (xs.any fun z => PyData.eqv z d) else none
  | .dict kvs => match m with
    | .on => none
    | _ => if isInt d then some (hasKey kvs d) else none
  | _ => none

def ixD (d i : D) : Option D := match d, i with
  | .list xs, .int k => atI xs k
  | .tuple xs, .int k => atI xs k
  | .dict kvs, .int k => getKey kvs (.int k)
  | _, _ => none
def cutL {α : Type} (xs : List α) (lo hi : Option Int) : List α := (xs.drop (HT.sIx xs.length 0 lo)).take (HT.sIx xs.length xs.length hi - HT.sIx xs.length 0 lo)
def slD (d : D) (lo hi : Option Int) : Option (D × Md) := match d with
  | .list xs => some (.list (cutL xs lo hi), .ow)
  | .tuple xs => some (.tuple (cutL xs lo hi), .fr)
  | _ => none
def lenD : D → Option Nat
  | .list xs => some xs.length
  | .tuple xs => some xs.length
  | .dict kvs => some kvs.length
  | _ => none
def isiD : D → Ty → Bool
  | .int _, .int => true
  | .bool _, .int => true
  | .bool _, .bool => true
  | .str _, .str => true
  | .tuple _, .tuple => true
  | .list _, .list => true
  | .dict _, .dict => true
  | _, _ => false
/-- the first item of a tuple is a text (a tuple) -/
def fstStr : D → Bool
  | .tuple (.str _ :: _) => true
  | _ => false
def fstTup : D → Bool
  | .tuple (.tuple _ :: _) => true
  | _ => false
/-- what sorted(..) takes: ints, texts, tuples of such, each two of them comparable; more than one: tuples that are not empty, with first items of one kind -/
def sortable (ds : List D) : Bool :=
  (ds.all fun d => keyOk d && d.canLay0 && decide (d.depth ≤ 100)) && (ds.all fun x => ds.all fun y => (ltD x y).isSome) && decide (ds.length ≤ sizeLine) &&
    (decide (ds.length < 2) || (ds.all fstStr) || (ds.all fstTup))
def insD (x : D) : List D → List D
  | [] => [x]
  | y :: ys => if ltD y x = some true then y :: insD x ys else x :: y :: ys
def sortD : List D → List D
  | [] => []
  | x :: xs => insD x (sortD xs)
def zipKV : List D → List D → List (D × D) → List (D × D)
  | k :: ks, v :: vs, acc => zipKV ks vs (putKey acc k v)
  | _, _, acc => acc
def optI : D → Option (Option Int)
  | .int i => some (some i)
  | _ => none

/-! ### the slots -/
/-- slot i is read and from then on shared -/
def use (i : Nat) (g : Sg) : Res (D × Md) := match g[i]? with
  | some (some (d, .fr)) => .ok (d, .fr) g
  | some (some (d, .ow)) => .ok (d, .fr) (g.set i (some (d, .fr)))
  | _ => .stuck
/-- an operand: a value, or the slot that is looked at when the operation is done -/
inductive Opn where
  | v (d : D)
  | s (i : Nat)
/-- an object of the program's own is held as a tuple -/
def isObj (p : D × Md) : Bool := match p.2 with
  | .on => (match p.1 with | .tuple _ => true | _ => false)
  | _ => false
def Opn.get (o : Opn) (g : Sg) : Option (D × Md) := match o with
  | .v d => some (d, .fr)
  | .s i => match g[i]? with
    | some (some p) => if isObj p then none else some p
    | _ => none
def opn (a : E) (r : Res (D × Md)) (g : Sg) : Res Opn := match a with
  | .var i => match g[i]? with
    | some (some _) => .ok (.s i) g
    | _ => .stuck
  | _ => r.bd fun p g => if p.2 = Md.on then .stuck else .ok (.v p.1) g
/-- slot i has a list, a dict of its own -/
def ownL (i : Nat) (g : Sg) : Bool := match g[i]? with
  | some (some (.list _, .ow)) => true
  | _ => false
def ownD (i : Nat) (g : Sg) : Bool := match g[i]? with
  | some (some (.dict _, .ow)) => true
  | _ => false
def ownDD (i : Nat) (g : Sg) : Bool := match g[i]? with
  | some (some (.dict _, .ow)) => true
  | _ => false
def frz1 (g : Sg) (i : Nat) : Sg := match g[i]? with
  | some (some (d, .ow)) => g.set i (some (d, .fr))
  | _ => g
def freeze (fz : List Nat) (g : Sg) : Sg := fz.foldl frz1 g
def hide1 (s : Sl) : Sl := match s with
  | some (d, .fr) => some (d, .fr)
  | _ => none
def hide (g : Sg) : Sg := g.map hide1
def ofO {α : Type} (o : Option α) (g : Sg) : Res α := match o with
  | some a => .ok a g
  | none => .stuck
/-- the parts of a comprehension; f: test and element of one item -/
def lcGo (f : D → Res (Option D)) : List D → Option (List D)
  | [] => some []
  | d :: ds => match f d with
    | .ok none _ => lcGo f ds
    | .ok (some e) _ => (lcGo f ds).map (e :: ·)
    | _ => none
def itemsD : D → Option (List D)
  | .list xs => some xs
  | .tuple xs => some xs
  | _ => none
def rangeD (lo hi : Int) : List D := (List.range (hi - lo).toNat).map fun k => .int (lo + (k : Nat))
def rngOk (i : Int) : Bool := lowI 60 i
theorem rngOk_of {i : Int} (h : rngOk i = true) : -(2 ^ 62) ≤ i ∧ i < 2 ^ 62 := by
  unfold rngOk at h
  rw [lowI_iff (by decide)] at h
  have e : (2 : Nat) ^ 60 = 1152921504606846976 := by decide
  rw [e] at h
  omega
theorem rngOk_small {i : Int} (h : -1000000 ≤ i) (h2 : i ≤ 1000000) : rngOk i = true := by
  unfold rngOk
  rw [lowI_iff (by decide)]
  have e : (2 : Nat) ^ 60 = 1152921504606846976 := by decide
  rw [e]
  omega
theorem lowI_small {i : Int} (h : -1000000 ≤ i) (h2 : i ≤ 1000000) : lowI 64 i = true := by
  rw [lowI_iff (by decide)]
  have e : (2 : Nat) ^ 64 = 18446744073709551616 := by decide
  rw [e]
  omega

/-- a part of a slice -/
def part (a : E) (r : Res (D × Md)) (g : Sg) : Res (Option Int) := match a with
  | .nil => .ok none g
  | _ => r.bd fun p g => match p.1 with | .int i => .ok (some i) g | _ => .stuck
/-- the test of a comprehension -/
def iff_ (a : E) (r : Res (D × Md)) (g : Sg) : Res Bool := match a with
  | .nil => .ok true g
  | _ => r.bd fun p g => match p.1 with | .bool c => .ok c g | _ => .stuck
def listD : D × Md → Option (D × Md)
  | (.list xs, _) => some (.list xs, .ow)
  | (.tuple xs, _) => some (.list xs, .ow)
  | (.dict kvs, .fr) => some (.list (kvs.map (·.1)), .ow)
  | (.dict kvs, .ow) => some (.list (kvs.map (·.1)), .ow)
  | _ => none
def tupleD : D × Md → Option (D × Md)
  | (.list xs, _) => some (.tuple xs, .fr)
  | (.tuple xs, _) => some (.tuple xs, .fr)
  | _ => none
def sortedD : D × Md → Option (D × Md)
  | (.list xs, _) => if sortable xs then some (.list (sortD xs), .ow) else none
  | (.tuple xs, .fr) => if sortable xs then some (.list (sortD xs), .ow) else none
  | _ => none
/-- ints put in order, each once -/
def insI (x : Int) : List Int → List Int
  | [] => [x]
  | y :: ys => if x < y then x :: y :: ys else if x = y then y :: ys else y :: insI x ys
def sortI : List Int → List Int
  | [] => []
  | x :: xs => insI x (sortI xs)
def intsD : List D → Option (List Int)
  | [] => some []
  | .int i :: xs => (intsD xs).map (i :: ·)
  | _ => none
def sortsetD : D → Option (D × Md)
  | .list xs => (intsD xs).bind fun ns => if ns.length < 64 then some (.list ((sortI ns).map .int), .ow) else none
  | _ => none
def dictD : D × Md → Option (D × Md)
  | (.dict kvs, .fr) => some (.dict kvs, .ow)
  | (.dict kvs, .ow) => some (.dict kvs, .ow)
  | _ => none
def dictzipD : D → D → Option (D × Md)
  | .list ks, .list vs => if ks.all isInt && ks.length == vs.length && decide (ks.length ≤ 1000) then some (.dict (zipKV ks vs []), .ow) else none
  | .list ks, .tuple vs => if ks.all isInt && ks.length == vs.length && decide (ks.length ≤ 1000) then some (.dict (zipKV ks vs []), .ow) else none
  | _, _ => none
/-- a module's name that stands for a number -/
def globD : D → Option (D × Md)
  | .int i => some (.int i, .fr)
  | _ => none
/-- a module's dict of texts by texts: an entry None says that the text is no key -/
def isDictO : Option D → Bool
  | some (.dict _) => true
  | _ => false
def gninD (o : Option D) (d : D) : Option (D × Md) := match o, d with
  | some (.dict es), .str k => match getKey es (.str k) with
    | some .none => some (.bool true, .fr)
    | some (.str _) => some (.bool false, .fr)
    | _ => none
  | _, _ => none
def gixD (o : Option D) (d : D) : Option (D × Md) := match o, d with
  | some (.dict es), .str k => match getKey es (.str k) with
    | some (.str y) => some (.str y, .fr)
    | _ => none
  | _, _ => none
/-- two dicts of plain data by ints that are alike -/
def alikeD (d e : D × Md) : Bool := match d, e with
  | (.dict es, m), (.dict fs, m') => decide (m ≠ .on) && decide (m' ≠ .on) && decide (es.length = fs.length) && (es.all fun p => plainD p.2 && match getKey fs p.1 with | some v => plainD v && PyData.eqv p.2 v | none => false)
  | _, _ => false
/-- a displayed dict of texts by texts, read at once -/
def pickS (kvs : List (Str × Str)) (k : Str) (o : Option Str) : Option Str := match kvs with
  | [] => o
  | p :: r => pickS r k (if k = p.1 then some p.2 else o)
def dpickD (kvs : List (Str × Str)) : D → Option (D × Md)
  | .str k => (pickS kvs k none).map fun y => (.str y, .fr)
  | _ => none
/-- slot i holds an object of the class Walker: its term and the list of its moves -/
def objAt (i : Nat) (g : Sg) : Option (List D) := match g[i]? with
  | some (some (.tuple st, .on)) => some st
  | _ => none
def fldD : List D → Option D
  | [t, .list _] => some t
  | _ => none
def takD : List D → Option (List D)
  | [_, .list ds] => some ds
  | _ => none
def setTD (t : D) : List D → Option (List D)
  | [_, .list ds] => some [t, .list ds]
  | _ => none
def appTD (x : D) : List D → Option (List D)
  | [t, .list ds] => if ds.length < sizeLine then some [t, .list (ds ++ [x])] else none
  | _ => none
/-- slot i holds a dict of its own whose keys are tuples -/
def nestAt (i : Nat) (g : Sg) : Option (List (D × D)) := match g[i]? with
  | some (some (.dict kvs, .on)) => some kvs
  | _ => none
/-- what a method's call comes to: its value, the object behind it -/
def metD : CR → Option (D × List D)
  | .ok (.tuple [r, .tuple st]) .on => some (r, st)
  | _ => none
section
variable (GL : Str → Option D) (C : Orc)
mutual
/-- the value of an expression -/
def ev : E → Sg → Res (D × Md)
  | .var i, g => use i g
  | .int i, g => .ok (.int i, .fr) g
  | .str x, g => .ok (.str x, .fr) g
  | .bl b, g => .ok (.bool b, .fr) g
  | .non, g => .ok (.none, .fr) g
  | .glob x, g => ofO ((GL x).bind globD) g
  | .tup es, g => (evs es g).bd fun ds g => if ds.length ≤ sizeLine then .ok (.tuple ds, .fr) g else .stuck
  | .lst es, g => (evs es g).bd fun ds g => if ds.length ≤ sizeLine then .ok (.list ds, .ow) g else .stuck
  | .dnew n, g => .ok (.dict [], (match n with | true => Md.on | false => Md.ow)) g
  | .bin o a b, g => (opn a (ev a g) g).bd fun x g => (opn b (ev b g) g).bd fun y g => ofO ((x.get g).bind fun d => (y.get g).bind fun e => binD o d.1 e.1) g
  | .cmp o a b, g => (opn a (ev a g) g).bd fun x g => (opn b (ev b g) g).bd fun y g => ofO ((x.get g).bind fun d => (y.get g).bind fun e => (cmpD o d.1 e.1 e.2).map fun c => (.bool c, .fr)) g
  | .and_ es, g => evAnd es g
  | .or_ es, g => evOr es g
  | .not_ a, g => (ev a g).bd fun p g => match p.1 with | .bool c => .ok (.bool (!c), .fr) g | _ => .stuck
  | .ite t a b, g => (ev t g).bd fun p g => match p.1 with | .bool true => ev a g | .bool false => ev b g | _ => .stuck
  | .ix a i, g => (opn a (ev a g) g).bd fun x g => (ev i g).bd fun k g => ofO ((x.get g).bind fun d => if d.2 = .on then none else (ixD d.1 k.1).map fun r => (r, .fr)) g
  | .sl a lo hi, g => (opn a (ev a g) g).bd fun x g => (part lo (ev lo g) g).bd fun l g => (part hi (ev hi g) g).bd fun h g => ofO ((x.get g).bind fun d => slD d.1 l h) g
  | .call f es, g => (evs es g).bd fun ds g => match C f ds with
    | .ok d m => if m = .on then .stuck else .ok (d, m) g
    | .exc c => .exc c g
    | .stuck => .stuck
  | .len a, g => (opn a (ev a g) g).bd fun x g => ofO ((x.get g).bind fun d => if d.2 = .on then none else (lenD d.1).map fun (n : Nat) => (((.int (n : Int)), .fr) : D × Md)) g
  | .list a, g => (opn a (ev a g) g).bd fun x g => ofO ((x.get g).bind listD) g
  | .tuple a, g => (opn a (ev a g) g).bd fun x g => ofO ((x.get g).bind tupleD) g
  | .sorted a, g => (opn a (ev a g) g).bd fun x g => ofO ((x.get g).bind sortedD) g
  | .sortset a, g => (opn a (ev a g) g).bd fun x g => ofO ((x.get g).bind fun d => sortsetD d.1) g
  | .dict a, g => (opn a (ev a g) g).bd fun x g => ofO ((x.get g).bind dictD) g
  | .min a b, g => (ev a g).bd fun x g => (ev b g).bd fun y g => match x.1, y.1 with | .int i, .int j => .ok (.int (if j < i then j else i), .fr) g | _, _ => .stuck
  | .max a b, g => (ev a g).bd fun x g => (ev b g).bd fun y g => match x.1, y.1 with | .int i, .int j => .ok (.int (if j > i then j else i), .fr) g | _, _ => .stuck
  | .toInt a, g => (ev a g).bd fun x g => match x.1 with | .bool c => .ok (.int (if c then 1 else 0), .fr) g | .int i => .ok (.int i, .fr) g | _ => .stuck
  | .isi a t, g => (opn a (ev a g) g).bd fun x g => ofO ((x.get g).bind fun d => if d.2 = .on then none else some (.bool (isiD d.1 t), .fr)) g
  | .dictzip a b, g => (ev a g).bd fun x g => if x.2 = .on then .stuck else (ev b g).bd fun y g => if y.2 = .on then .stuck else ofO (dictzipD x.1 y.1) g
  | .pop i, g => match g[i]? with
    | some (some (.list ds, .ow)) => match ds[ds.length - 1]? with
      | some d => .ok (d, .fr) (g.set i (some (.list ds.dropLast, .ow)))
      | none => .stuck
    | _ => .stuck
  | .append i a, g => if ownL i g then (ev a g).bd fun p g => if p.2 = .on then .stuck else match g[i]? with
    | some (some (.list ds, .ow)) => if ds.length < sizeLine then .ok (.none, .fr) (g.set i (some (.list (ds ++ [p.1]), .ow))) else .stuck
    | _ => .stuck
    else .stuck
  | .extend i a, g => if ownL i g then (ev a g).bd fun p g => match p.1, g[i]? with
    | .list es, some (some (.list ds, .ow)) => if ds.length + es.length ≤ sizeLine then .ok (.none, .fr) (g.set i (some (.list (ds ++ es), .ow))) else .stuck
    | _, _ => .stuck
    else .stuck
  | .clear i, g => match g[i]? with
    | some (some (.list _, .ow)) => .ok (.none, .fr) (g.set i (some (.list [], .ow)))
    | _ => .stuck
  | .dpop i a, g => if ownD i g then (ev a g).bd fun p g => match g[i]? with
    | some (some (.dict kvs, .ow)) => if isInt p.1 then match getKey kvs p.1 with
      | some d => .ok (d, .fr) (g.set i (some (.dict (dropKey kvs p.1), .ow)))
      | none => .stuck
      else .stuck
    | _ => .stuck
    else .stuck
  | .lc elt i it cond fz, g => (ev it (freeze fz g)).bd fun p g => if p.2 = .on then .stuck else match itemsD p.1 with
    | some ds => match lcGo (fun d => (iff_ cond (ev cond ((hide g).set i (some (d, .fr)))) ((hide g).set i (some (d, .fr)))).bd fun c g => if c then (ev elt g).bd fun p g => if p.2 = .on then .stuck else .ok (some p.1) g else .ok none g) ds with
      | some out => if out.length ≤ sizeLine then .ok (.list out, .ow) g else .stuck
      | none => .stuck
    | none => .stuck
  | .range1 a, g => (ev a g).bd fun p g => match p.1 with | .int n => if rngOk n then .ok (.list (rangeD 0 n), .fr) g else .stuck | _ => .stuck
  | .range2 a b, g => (ev a g).bd fun x g => (ev b g).bd fun y g => match x.1, y.1 with | .int lo, .int hi => if rngOk lo && rngOk hi then .ok (.list (rangeD lo hi), .fr) g else .stuck | _, _ => .stuck
  | .rev a, g => (ev a g).bd fun p g => if p.2 = .on then .stuck else match itemsD p.1 with | some ds => .ok (.list ds.reverse, .fr) g | none => .stuck
  | .gnin x a, g => if isDictO (GL x) then (ev a g).bd fun p g => ofO (gninD (GL x) p.1) g else .stuck
  | .gix x a, g => if isDictO (GL x) then (ev a g).bd fun p g => ofO (gixD (GL x) p.1) g else .stuck
  | .dcmp n a b, g => (opn a (ev a g) g).bd fun x g => (opn b (ev b g) g).bd fun y g => ofO ((x.get g).bind fun d => (y.get g).bind fun e => if alikeD d e then some (.bool (!n), .fr) else none) g
  | .dpick kvs a, g => match ev a (hide g) with
    | .ok p _ => ofO (dpickD kvs p.1) g
    | _ => .stuck
  | .fld i, g => ofO (((objAt i g).bind fldD).map fun t => (t, .fr)) g
  | .mcall i m es, g => if (objAt i g).isSome then (evs es g).bd fun ds g => match (objAt i g).bind fun st => metD (C m (.tuple st :: ds)) with
    | some (r, st) => .ok (r, .fr) (g.set i (some (.tuple st, .on)))
    | none => .stuck
    else .stuck
  | .nnin i a, g => (ev a g).bd fun p g => if p.2 = .on then .stuck else match nestAt i g with
    | some kvs => if tupKey p.1 then .ok (.bool (!hasKey kvs p.1), .fr) g else .stuck
    | none => .stuck
  | .nlist i, g => match nestAt i g with
    | some kvs => if kvs.length ≤ sizeLine then .ok (.list (kvs.map (·.1)), .ow) g else .stuck
    | none => .stuck
  | .nsorted i, g => match nestAt i g with
    | some kvs => if sortable (kvs.map (·.1)) then .ok (.list (sortD (kvs.map (·.1))), .ow) g else .stuck
    | none => .stuck
  | .nil, _ => .stuck
  | .cons _ _, _ => .stuck
/-- the values of a list of expressions, all of them shared from then on -/
def evs : E → Sg → Res (List D)
  | .nil, g => .ok [] g
  | .cons a r, g => (ev a g).bd fun p g => if p.2 = .on then .stuck else (evs r g).bd fun ds g => .ok (p.1 :: ds) g
  | _, _ => .stuck
def evAnd : E → Sg → Res (D × Md)
  | .cons a .nil, g => (ev a g).bd fun p g => match p.1 with | .bool c => .ok (.bool c, .fr) g | _ => .stuck
  | .cons a r, g => (ev a g).bd fun p g => match p.1 with | .bool true => evAnd r g | .bool false => .ok (.bool false, .fr) g | _ => .stuck
  | _, _ => .stuck
def evOr : E → Sg → Res (D × Md)
  | .cons a .nil, g => (ev a g).bd fun p g => match p.1 with | .bool c => .ok (.bool c, .fr) g | _ => .stuck
  | .cons a r, g => (ev a g).bd fun p g => match p.1 with | .bool false => evOr r g | .bool true => .ok (.bool true, .fr) g | _ => .stuck
  | _, _ => .stuck
end
end
/-- how a statement ends -/
inductive Ctl where
  | next | brk | cont
  | ret (d : D) (m : Md)
/-- class c stands under class d (0: the one above all others) -/
def subC (c d : Nat) : Bool := c == d || d == 0
def catchD (hs : List (Nat × D)) (c : Nat) : Option D := (hs.find? fun h => subC c h.1).map (·.2)
def forGo (f : D → Sg → Res Ctl) : List D → Sg → Res Ctl
  | [], g => .ok .next g
  | d :: ds, g => (f d g).bd fun c g => match c with
    | .next => forGo f ds g
    | .cont => forGo f ds g
    | .brk => .ok .next g
    | .ret d m => .ok (.ret d m) g
def whlGo (t : Sg → Res (D × Md)) (f : Sg → Res Ctl) : Nat → Sg → Res Ctl
  | 0, _ => .stuck
  | n + 1, g => (t g).bd fun p g => match p.1 with
    | .bool true => (f g).bd fun c g => match c with
      | .next => whlGo t f n g
      | .cont => whlGo t f n g
      | .brk => .ok .next g
      | .ret d m => .ok (.ret d m) g
    | .bool false => .ok .next g
    | _ => .stuck
section
variable (GL : Str → Option D) (C : Orc) (L : Nat)
/-- what a return hands back: a slot's own list stays its own -/
def retv (e : E) (g : Sg) : Res (D × Md) := match e with
  | .var i => match g[i]? with
    | some (some (d, .ow)) => .ok (d, .ow) g
    | some (some (d, .fr)) => .ok (d, .fr) g
    | _ => .stuck
  | _ => ev GL C e g
def ex : S → Sg → Res Ctl
  | .skip, g => .ok .next g
  | .seq a r, g => (ex a g).bd fun c g => match c with
    | .next => ex r g
    | .brk => .ok .brk g
    | .cont => .ok .cont g
    | .ret d m => .ok (.ret d m) g
  | .set i e, g => (ev GL C e g).bd fun p g => .ok .next (g.set i (some p))
  | .put i k v, g => (ev GL C v g).bd fun p g => if p.2 = .on then .stuck else if ownDD i g then (ev GL C k g).bd fun q g => match g[i]? with
    | some (some (.dict kvs, .ow)) => if isInt q.1 ∧ kvs.length < sizeLine then .ok .next (g.set i (some (.dict (putKey kvs q.1 p.1), .ow))) else .stuck
    | _ => .stuck
    else .stuck
  | .ite t a b, g => (ev GL C t g).bd fun p g => match p.1 with
    | .bool true => ex a g
    | .bool false => ex b g
    | _ => .stuck
  | .whl t b, g => whlGo (ev GL C t) (ex b) L g
  | .for_ i it b, g => (ev GL C it g).bd fun p g => if p.2 = .on then .stuck else match itemsD p.1 with
    | some ds => forGo (fun d g => ex b (g.set i (some (d, .fr)))) ds g
    | none => .stuck
  | .ret e, g => (retv GL C e g).bd fun p g => .ok (.ret p.1 p.2) g
  | .expr e, g => (ev GL C e g).bd fun _ g => .ok .next g
  | .raise c, g => .exc c g
  | .try_ cn b hs, g => match ex b g with
    | .exc c g => if cn.contains c then match catchD hs c with
        | some d => .ok (.ret d .fr) g
        | none => .exc c g
      else .stuck
    | r => r
  | .never, _ => .stuck
  | .mk i e, g => if i = 0 then .stuck else match C "Walker.__init__" [.none, .none] with
    | .ok _ _ => (ev GL C e g).bd fun p g => if p.2 = .on then .stuck else .ok .next (g.set i (some (.tuple [p.1, .list []], .on)))
    | _ => .stuck
  | .setT i e, g => (ev GL C e g).bd fun p g => if p.2 = .on then .stuck else match (objAt i g).bind (setTD p.1) with
    | some st => .ok .next (g.set i (some (.tuple st, .on)))
    | none => .stuck
  | .appT i e, g => match ev GL C e (hide g) with
    | .ok p _ => if p.2 = .on then .stuck else match (objAt i g).bind (appTD p.1) with
      | some st => .ok .next (g.set i (some (.tuple st, .on)))
      | none => .stuck
    | _ => .stuck
  | .retT i, g => match (objAt i g).bind takD with
    | some ds => .ok (.ret (.list ds) .ow) (g.set i none)
    | none => .stuck
  | .nput i k v, g => (ev GL C v g).bd fun p g => if p.2 = .on then .stuck else if (nestAt i g).isSome then (ev GL C k g).bd fun q g => if q.2 = .on then .stuck else match nestAt i g with
    | some kvs => if tupKey q.1 ∧ kvs.length < sizeLine then .ok .next (g.set i (some (.dict (putKey kvs q.1 p.1), .on))) else .stuck
    | none => .stuck
    else .stuck
/-- a method's end: its value, the object in slot 0 -/
def toCM (r : Res Ctl) : CR := match r with
  | .ok .next g => match objAt 0 g with
    | some st => .ok (.tuple [.none, .tuple st]) .on
    | none => .stuck
  | .ok (.ret d m) g => match objAt 0 g with
    | some st => if m = .fr then .ok (.tuple [d, .tuple st]) .on else .stuck
    | none => .stuck
  | _ => .stuck
def toCR (r : Res Ctl) : CR := match r with
  | .ok .next _ => .ok .none .fr
  | .ok (.ret d m) _ => if m = .on then .stuck else .ok d m
  | .exc c _ => .exc c
  | _ => .stuck
end

mutual
def ndD : D → Bool
  | .dict _ => false
  | .list xs => ndL xs
  | .tuple xs => ndL xs
  | _ => true
def ndL : List D → Bool
  | [] => true
  | x :: xs => ndD x && ndL xs
end
/-- a dict -/
def isDct : D → Bool
  | .dict _ => true
  | _ => false
def askD (C : Orc) (ds : List D) : CR := match ds with
  | [a, b, c] => if ndD a && ndD b && ndD c then match C "fillings" [a, b] with
      | .ok (.list xs) .ow => if xs.all isDct && rngOk (xs.length : Int) then match C "_law_rows" [.list xs, c] with
          | .ok (.list rs) m => if m = .on then .stuck else if ndL rs then .ok (.list rs) .fr else .stuck
          | _ => .stuck
        else .stuck
      | _ => .stuck
    else .stuck
  | _ => .stuck
/-- a def: how many parameters, how many slots, its body; kd 1: a method, its object in slot 0; kd 2: the class's own __init__; kd 3: it clears what it was told (askD) -/
structure Fd where
  np : Nat
  ns : Nat
  body : S
  kd : Nat := 0
def startG (ns : Nat) (ds : List D) : Sg := ds.map (fun d => some (d, .fr)) ++ List.replicate (ns - ds.length) none
/-- a method's slots -/
def startM (ns : Nat) (ds : List D) : Sg := match ds with
  | .tuple st :: as => some (.tuple st, .on) :: startG (ns - 1) as
  | _ => []
/-- a call, n calls deep -/
def callD (GL : Str → Option D) (T : Str → Option Fd) (L : Nat) : Nat → Orc
  | 0 => fun _ _ => .stuck
  | n + 1 => fun f ds => match T f with
    | some fd => if ds.length = fd.np then match fd.kd with
        | 0 => toCR (ex GL (callD GL T L n) L fd.body (startG fd.ns ds))
        | 1 => toCM (ex GL (callD GL T L n) L fd.body (startM fd.ns ds))
        | 3 => askD (callD GL T L n) ds
        | _ => if n = 0 then .stuck else .ok .none .fr
      else .stuck
    | none => .stuck
end DL

set_option Elab.async false
set_option linter.all false
set_option maxRecDepth 100000
/-! D11: an order on plain data (ints, texts, tuples of such). -/
namespace DL
open PySem L2

def cI (i j : Int) : Ordering := if i < j then .lt else if j < i then .gt else .eq
def cS (x y : Str) : Ordering := if x.cps.toList < y.cps.toList then .lt else if y.cps.toList < x.cps.toList then .gt else .eq
def cN (i j : Nat) : Ordering := if i < j then .lt else if j < i then .gt else .eq
mutual
def cmpT : D → D → Ordering
  | .int i, .int j => cI i j
  | .str x, .str y => cS x y
  | .tuple xs, .tuple ys => cmpTs xs ys
  | a, b => cN (rank a) (rank b)
def cmpTs : List D → List D → Ordering
  | [], [] => .eq
  | [], _ :: _ => .lt
  | _ :: _, [] => .gt
  | x :: xs, y :: ys => match cmpT x y with
    | .eq => cmpTs xs ys
    | o => o
end
/-- x stands ahead of y -/
def ltB (x y : D) : Bool := match cmpT x y with
  | .lt => true
  | _ => false
abbrev plainAll (xs : List D) : Bool := keyOk.keyOkAll xs

theorem cI_swap (i j : Int) : cI j i = (cI i j).swap := by
  unfold cI
  by_cases h1 : i < j
  · have h2 : ¬ j < i := by omega
    simp [h1, h2]
  · by_cases h2 : j < i <;> simp [h1, h2]
theorem cS_swap (x y : Str) : cS y x = (cS x y).swap := by
  unfold cS
  by_cases h1 : x.cps.toList < y.cps.toList
  · have h2 : ¬ y.cps.toList < x.cps.toList := List.lt_asymm h1
    simp [h1, h2]
  · by_cases h2 : y.cps.toList < x.cps.toList <;> simp [h1, h2]
theorem cN_swap (i j : Nat) : cN j i = (cN i j).swap := by
  unfold cN
  by_cases h1 : i < j
  · have h2 : ¬ j < i := by omega
    simp [h1, h2]
  · by_cases h2 : j < i <;> simp [h1, h2]
theorem cI_eq {i j : Int} (h : cI i j = .eq) : i = j := by
  unfold cI at h
  split at h
  · cases h
  · split at h
    · cases h
    · omega
theorem cS_eq {x y : Str} (h : cS x y = .eq) : x = y := by
  unfold cS at h
  split at h
  · cases h
  · rename_i h1
    split at h
    · cases h
    · rename_i h2
      have e : x.cps.toList = y.cps.toList := List.le_antisymm (List.not_lt.mp h2) (List.not_lt.mp h1)
      obtain ⟨a⟩ := x
      obtain ⟨b⟩ := y
      simp at e
      rw [e]
theorem cI_lt {i j : Int} : cI i j = .lt ↔ i < j := by
  unfold cI
  by_cases h1 : i < j
  · simp [h1]
  · by_cases h2 : j < i <;> simp [h1, h2]
theorem cS_lt {x y : Str} : cS x y = .lt ↔ x.cps.toList < y.cps.toList := by
  unfold cS
  by_cases h1 : x.cps.toList < y.cps.toList
  · simp [h1]
  · by_cases h2 : y.cps.toList < x.cps.toList <;> simp [h1, h2]
mutual
theorem cmpT_swap : ∀ x y : D, cmpT y x = (cmpT x y).swap
  | .int i, .int j => by rw [cmpT, cmpT]; exact cI_swap i j
  | .str i, .str j => by rw [cmpT, cmpT]; exact cS_swap i j
  | .tuple xs, .tuple ys => by rw [cmpT, cmpT]; exact cmpTs_swap xs ys
  | .none, y => by cases y <;> simp only [cmpT] <;> exact cN_swap _ _
  | .bool b, y => by cases y <;> simp only [cmpT] <;> exact cN_swap _ _
  | .list b, y => by cases y <;> simp only [cmpT] <;> exact cN_swap _ _
  | .dict b, y => by cases y <;> simp only [cmpT] <;> exact cN_swap _ _
  | .int i, .none => by simp only [cmpT]; exact cN_swap _ _
  | .int i, .bool _ => by simp only [cmpT]; exact cN_swap _ _
  | .int i, .str _ => by simp only [cmpT]; exact cN_swap _ _
  | .int i, .tuple _ => by simp only [cmpT]; exact cN_swap _ _
  | .int i, .list _ => by simp only [cmpT]; exact cN_swap _ _
  | .int i, .dict _ => by simp only [cmpT]; exact cN_swap _ _
  | .str i, .none => by simp only [cmpT]; exact cN_swap _ _
  | .str i, .bool _ => by simp only [cmpT]; exact cN_swap _ _
  | .str i, .int _ => by simp only [cmpT]; exact cN_swap _ _
  | .str i, .tuple _ => by simp only [cmpT]; exact cN_swap _ _
  | .str i, .list _ => by simp only [cmpT]; exact cN_swap _ _
  | .str i, .dict _ => by simp only [cmpT]; exact cN_swap _ _
  | .tuple i, .none => by simp only [cmpT]; exact cN_swap _ _
  | .tuple i, .bool _ => by simp only [cmpT]; exact cN_swap _ _
  | .tuple i, .int _ => by simp only [cmpT]; exact cN_swap _ _
  | .tuple i, .str _ => by simp only [cmpT]; exact cN_swap _ _
  | .tuple i, .list _ => by simp only [cmpT]; exact cN_swap _ _
  | .tuple i, .dict _ => by simp only [cmpT]; exact cN_swap _ _
theorem cmpTs_swap : ∀ xs ys : List D, cmpTs ys xs = (cmpTs xs ys).swap
  | [], [] => by simp [cmpTs]
  | [], _ :: _ => by simp [cmpTs]
  | _ :: _, [] => by simp [cmpTs]
  | x :: xs, y :: ys => by
    rw [cmpTs, cmpTs, cmpT_swap x y]
    cases cmpT x y with
    | eq => exact cmpTs_swap xs ys
    | lt => rfl
    | gt => rfl
end
theorem cmpT_refl (x : D) : cmpT x x = .eq := by
  have := cmpT_swap x x
  cases h : cmpT x x with
  | eq => rfl
  | lt => rw [h] at this; cases this
  | gt => rw [h] at this; cases this
mutual
theorem cmpT_eq : ∀ x y : D, keyOk x = true → keyOk y = true → cmpT x y = .eq → x = y
  | .int i, .int j, _, _, h => by rw [cmpT] at h; rw [cI_eq h]
  | .str i, .str j, _, _, h => by rw [cmpT] at h; rw [cS_eq h]
  | .tuple xs, .tuple ys, p, q, h => by
    rw [cmpT] at h
    rw [cmpTs_eq xs ys (by simpa [keyOk] using p) (by simpa [keyOk] using q) h]
  | .none, _, p, _, _ => by simp [keyOk] at p
  | .bool _, _, p, _, _ => by simp [keyOk] at p
  | .list _, _, p, _, _ => by simp [keyOk] at p
  | .dict _, _, p, _, _ => by simp [keyOk] at p
  | .int i, .str _, _, _, h => by simp [cmpT, cN, rank] at h
  | .int i, .tuple _, _, _, h => by simp [cmpT, cN, rank] at h
  | .str i, .int _, _, _, h => by simp [cmpT, cN, rank] at h
  | .str i, .tuple _, _, _, h => by simp [cmpT, cN, rank] at h
  | .tuple i, .int _, _, _, h => by simp [cmpT, cN, rank] at h
  | .tuple i, .str _, _, _, h => by simp [cmpT, cN, rank] at h
  | .int i, .none, _, q, _ => by simp [keyOk] at q
  | .int i, .bool _, _, q, _ => by simp [keyOk] at q
  | .int i, .list _, _, q, _ => by simp [keyOk] at q
  | .int i, .dict _, _, q, _ => by simp [keyOk] at q
  | .str i, .none, _, q, _ => by simp [keyOk] at q
  | .str i, .bool _, _, q, _ => by simp [keyOk] at q
  | .str i, .list _, _, q, _ => by simp [keyOk] at q
  | .str i, .dict _, _, q, _ => by simp [keyOk] at q
  | .tuple i, .none, _, q, _ => by simp [keyOk] at q
  | .tuple i, .bool _, _, q, _ => by simp [keyOk] at q
  | .tuple i, .list _, _, q, _ => by simp [keyOk] at q
  | .tuple i, .dict _, _, q, _ => by simp [keyOk] at q
theorem cmpTs_eq : ∀ xs ys : List D, plainAll xs = true → plainAll ys = true → cmpTs xs ys = .eq → xs = ys
  | [], [], _, _, _ => rfl
  | [], _ :: _, _, _, h => by simp [cmpTs] at h
  | _ :: _, [], _, _, h => by simp [cmpTs] at h
  | x :: xs, y :: ys, p, q, h => by
    simp only [plainAll, keyOk.keyOkAll, Bool.and_eq_true] at p q
    rw [cmpTs] at h
    cases e : cmpT x y with
    | eq =>
      rw [e] at h
      rw [cmpT_eq x y p.1 q.1 e, cmpTs_eq xs ys p.2 q.2 h]
    | lt => rw [e] at h; cases h
    | gt => rw [e] at h; cases h
end
mutual
theorem cmpT_trans : ∀ x y z : D, keyOk x = true → keyOk y = true → keyOk z = true → cmpT x y = .lt → cmpT y z = .lt → cmpT x z = .lt
  | .int i, y, z, _, q, r, h1, h2 => by
    cases y <;> simp [keyOk] at q <;> cases z <;> simp [keyOk] at r <;> simp [cmpT, cN, rank, cI_lt] at h1 h2 ⊢
    omega
  | .str i, y, z, _, q, r, h1, h2 => by
    cases y <;> simp [keyOk] at q <;> cases z <;> simp [keyOk] at r <;> simp [cmpT, cN, rank, cS_lt] at h1 h2 ⊢
    exact List.lt_trans h1 h2
  | .tuple xs, y, z, p, q, r, h1, h2 => by
    cases y <;> simp [keyOk] at q <;> cases z <;> simp [keyOk] at r <;> simp [cmpT, cN, rank] at h1 h2 ⊢
    rename_i ys zs
    exact cmpTs_trans xs ys zs (by simpa [keyOk] using p) q r h1 h2
  | .none, _, _, p, _, _, _, _ => by simp [keyOk] at p
  | .bool _, _, _, p, _, _, _, _ => by simp [keyOk] at p
  | .list _, _, _, p, _, _, _, _ => by simp [keyOk] at p
  | .dict _, _, _, p, _, _, _, _ => by simp [keyOk] at p
theorem cmpTs_trans : ∀ xs ys zs : List D, plainAll xs = true → plainAll ys = true → plainAll zs = true → cmpTs xs ys = .lt → cmpTs ys zs = .lt → cmpTs xs zs = .lt
  | [], ys, zs, _, _, _, h1, h2 => by
    cases ys with
    | nil => simp [cmpTs] at h1
    | cons y ys =>
      cases zs with
      | nil => simp [cmpTs] at h2
      | cons z zs => simp [cmpTs]
  | x :: xs, [], zs, _, _, _, h1, h2 => by simp [cmpTs] at h1
  | x :: xs, y :: ys, [], _, _, _, h1, h2 => by simp [cmpTs] at h2
  | x :: xs, y :: ys, z :: zs, p, q, r, h1, h2 => by
    simp only [plainAll, keyOk.keyOkAll, Bool.and_eq_true] at p q r
    rw [cmpTs] at h1 h2 ⊢
    cases e1 : cmpT x y with
    | gt => rw [e1] at h1; cases h1
    | eq =>
      have e := cmpT_eq x y p.1 q.1 e1
      subst e
      rw [e1] at h1
      cases e2 : cmpT x z with
      | eq => rw [e2] at h2; exact cmpTs_trans xs ys zs p.2 q.2 r.2 h1 h2
      | lt => rfl
      | gt => rw [e2] at h2; cases h2
    | lt =>
      cases e2 : cmpT y z with
      | gt => rw [e2] at h2; cases h2
      | eq =>
        have e := cmpT_eq y z q.1 r.1 e2
        subst e
        rw [e1]
      | lt => rw [cmpT_trans x y z p.1 q.1 r.1 e1 e2]
end
theorem ltB_iff {x y : D} : ltB x y = true ↔ cmpT x y = .lt := by
  unfold ltB
  cases cmpT x y <;> simp
theorem ltB_asym {x y : D} (h : ltB x y = true) : ltB y x = false := by
  rw [ltB_iff] at h
  unfold ltB
  rw [cmpT_swap x y, h]
  rfl
theorem ltB_tr {x y z : D} (p : keyOk x = true) (q : keyOk y = true) (r : keyOk z = true) (h1 : ltB y x = false) (h2 : ltB z y = false) : ltB z x = false := by
  cases h : ltB z x with
  | false => rfl
  | true =>
    exfalso
    rw [ltB_iff] at h
    -- y is below z or is z; x is below y or is y
    cases e1 : cmpT y x with
    | lt => rw [ltB_iff.mpr e1] at h1; cases h1
    | eq =>
      have e := cmpT_eq y x q p e1
      subst e
      rw [ltB_iff.mpr h] at h2; cases h2
    | gt =>
      have e1' : cmpT x y = .lt := by rw [cmpT_swap y x, e1]; rfl
      have := cmpT_trans z x y r p q h e1'
      rw [ltB_iff.mpr this] at h2; cases h2
theorem ltB_total {x y : D} (p : keyOk x = true) (q : keyOk y = true) (h1 : ltB x y = false) (h2 : ltB y x = false) : x = y := by
  cases e : cmpT x y with
  | lt => rw [ltB_iff.mpr e] at h1; cases h1
  | eq => exact cmpT_eq x y p q e
  | gt =>
    have e1' : cmpT y x = .lt := by rw [cmpT_swap x y, e]; rfl
    rw [ltB_iff.mpr e1'] at h2; cases h2
/-! == on plain data -/
mutual
theorem eqv_plain : ∀ x y : D, keyOk x = true → keyOk y = true → (PyData.eqv x y = true ↔ x = y)
  | .int i, y, _, q => by cases y <;> simp [keyOk] at q <;> simp [PyData.eqv]
  | .str i, y, _, q => by cases y <;> simp [keyOk] at q <;> simp [PyData.eqv]
  | .tuple xs, y, p, q => by
    cases y <;> simp [keyOk] at q <;> simp [PyData.eqv]
    rename_i ys
    exact eqvs_plain xs ys (by simpa [keyOk] using p) q
  | .none, _, p, _ => by simp [keyOk] at p
  | .bool _, _, p, _ => by simp [keyOk] at p
  | .list _, _, p, _ => by simp [keyOk] at p
  | .dict _, _, p, _ => by simp [keyOk] at p
theorem eqvs_plain : ∀ xs ys : List D, plainAll xs = true → plainAll ys = true → (PyData.eqvAll xs ys = true ↔ xs = ys)
  | [], [], _, _ => by simp [PyData.eqvAll]
  | [], _ :: _, _, _ => by simp [PyData.eqvAll]
  | _ :: _, [], _, _ => by simp [PyData.eqvAll]
  | x :: xs, y :: ys, p, q => by
    simp only [plainAll, keyOk.keyOkAll, Bool.and_eq_true] at p q
    simp [PyData.eqvAll, eqv_plain x y p.1 q.1, eqvs_plain xs ys p.2 q.2]
end
/-! Python's < where it answers -/
mutual
theorem ltD_plain : ∀ (x y : D) (r : Bool), keyOk x = true → keyOk y = true → ltD x y = some r → r = ltB x y
  | .int i, y, r, _, q, h => by
    cases y <;> simp [keyOk] at q <;> simp [ltD] at h
    rename_i j
    rw [← h, Bool.eq_iff_iff, ltB_iff, cmpT, cI_lt]
    simp
  | .str i, y, r, _, q, h => by
    cases y <;> simp [keyOk] at q <;> simp [ltD] at h
    rename_i j
    rw [← h, Bool.eq_iff_iff, ltB_iff, cmpT, cS_lt]
    simp
  | .tuple xs, y, r, p, q, h => by
    cases y <;> simp [keyOk] at q <;> simp [ltD] at h
    rename_i ys
    rw [ltDs_plain xs ys r (by simpa [keyOk] using p) q h]
    unfold ltB
    rw [cmpT]
  | .none, _, _, p, _, _ => by simp [keyOk] at p
  | .bool _, _, _, p, _, _ => by simp [keyOk] at p
  | .list _, _, _, p, _, _ => by simp [keyOk] at p
  | .dict _, _, _, p, _, _ => by simp [keyOk] at p
theorem ltDs_plain : ∀ (xs ys : List D) (r : Bool), plainAll xs = true → plainAll ys = true → ltD.ltAll xs ys = some r → r = (match cmpTs xs ys with | .lt => true | _ => false)
  | [], [], r, _, _, h => by simp [ltD.ltAll] at h; simp [cmpTs, h]
  | [], _ :: _, r, _, _, h => by simp [ltD.ltAll] at h; simp [cmpTs, h]
  | _ :: _, [], r, _, _, h => by simp [ltD.ltAll] at h; simp [cmpTs, h]
  | x :: xs, y :: ys, r, p, q, h => by
    simp only [plainAll, keyOk.keyOkAll, Bool.and_eq_true] at p q
    rw [ltD.ltAll] at h
    rw [cmpTs]
    by_cases e : PyData.eqv x y = true
    · rw [if_pos e] at h
      have := (eqv_plain x y p.1 q.1).mp e
      subst this
      rw [cmpT_refl]
      exact ltDs_plain xs ys r p.2 q.2 h
    · rw [if_neg e] at h
      have h1 := ltD_plain x y r p.1 q.1 h
      have hne : cmpT x y ≠ .eq := fun z => e ((eqv_plain x y p.1 q.1).mpr (cmpT_eq x y p.1 q.1 z))
      rw [h1]
      unfold ltB
      cases z : cmpT x y with
      | eq => exact absurd z hne
      | lt => rfl
      | gt => rfl
end
end DL

set_option Elab.async false
set_option linter.all false
set_option maxRecDepth 100000
/-! D15: <, <=, > of tuples where only the first place that differs has to compare. -/
namespace PySem.SeqAt
open AutoSeq1 (wpAny_loadPart')
open MeetsSeq MeetsSeq2 MeetsSeq3 SeqRoads2

/-- the places ahead of j are alike -/
def Ahead (f : Nat → Bool) (j : Nat) : Prop := ∀ i, i < j → f i = true
theorem Ahead.succ {f : Nat → Bool} {j : Nat} (h : Ahead f j) (hj : f j = true) : Ahead f (j + 1) := fun i hi => by
  rcases Nat.lt_succ_iff_lt_or_eq.mp hi with h' | rfl
  · exact h i h'
  · exact hj
/-- what is asked of the places: == of each behind alike ones, and < of the first that differs -/
structure Places (A : Around) (s : Shared) (us ws : Array Value) (f g : Nat → Bool) : Prop where
  eq : ∀ j (h1 : j < us.size) (h2 : j < ws.size), Ahead f j → EqAt A s us[j] ws[j] (f j)
  lt : ∀ j (h1 : j < us.size) (h2 : j < ws.size), Ahead f j → f j = false → RcLt A s us[j] ws[j] (g j)
theorem tuple_lt1 (p q : Addr) (us ws : Array Value) (n m : Nat) (d1 d2 : Option Addr) (s1 s2 : Array (Option Value)) (f g : Nat → Bool) :
    Meets (Builtin.«tuple.__lt__» ⟨[.ref p, .ref q], []⟩)
      (fun A R s => s.heap.get? p = some { cls := .type "tuple", dict := d1, data := .seq us n, slots := s1 } ∧ s.heap.get? q = some { cls := .type "tuple", dict := d2, data := .seq ws m, slots := s2 } ∧
        Places A.in1 s us ws f g ∧ R (.ok (.ret (.bool (firstLt f g (decide (us.size < ws.size)) (List.range (min us.size ws.size)))))) s) :=
  .of_wp fun prog w A R s h => by
    obtain ⟨hp, ge, dr, tk, os⟩ := s
    obtain ⟨hl, hb, pl, h⟩ := h
    have f2 := AutoSeq1.sub_tuple_tuple
    have hZ : (us.toList.zip ws.toList).length = min us.size ws.size := by simp
    wp_walk using wpAny_loadPart' hl, wpAny_loadPart' hb, wpAny_forIn_list _ (fun rest b s' => b.1 = none ∧ s' = ⟨hp, ge, dr, tk, os⟩ ∧ ∃ i, Ahead f i ∧ rest = (us.toList.zip ws.toList).drop i ∧
      R (.ok (.ret (.bool (firstLt f g (decide (us.size < ws.size)) ((List.range (min us.size ws.size)).drop i))))) ⟨hp, ge, dr, tk, os⟩) _
    case turn =>
      rintro ⟨y, x⟩ rest b s' ⟨hb', rfl, i, ah, hz, hR⟩
      have hlt : i < (us.toList.zip ws.toList).length := by
        by_cases c : i < (us.toList.zip ws.toList).length
        · exact c
        · rw [List.drop_eq_nil_of_le (by omega)] at hz; cases hz
      have hm : i < min us.size ws.size := hZ ▸ hlt
      have h1 : i < us.size := by omega
      have h2 : i < ws.size := by omega
      rw [List.drop_eq_getElem_cons hlt] at hz
      injection hz with hyx hrest
      have hy : y = us[i] := by simpa using congrArg Prod.fst hyx
      have hx : x = ws[i] := by simpa using congrArg Prod.snd hyx
      subst hy hx
      have hd : (List.range (min us.size ws.size)).drop i = i :: (List.range (min us.size ws.size)).drop (i + 1) := by
        simp [List.drop_eq_getElem_cons, hm]
      rw [hd] at hR
      refine wpAny_bind (pl.eq i h1 h2 ah prog w _ _ ?_)
      cases hf : f i with
      | true =>
        rw [firstLt_yes hf] at hR
        wp_walk
        exact ⟨rfl, rfl, i + 1, ah.succ hf, hrest, hR⟩
      | false =>
        rw [firstLt_no hf] at hR
        rw [if_pos (show (!false) = true from rfl)]
        refine wpAny_bind (wpAny_rule (wpAny_bind (pl.lt i h1 h2 ah hf prog w _ _ ?_)))
        wp_walk
        exact ⟨_, rfl, hR⟩
    case fin =>
      rintro ⟨b1, b2⟩ s' ⟨hb', rfl, i, ah, hz, hR⟩
      simp only at hb'
      subst hb'
      have hge : min us.size ws.size ≤ i := by
        by_cases c : i < (us.toList.zip ws.toList).length
        · rw [List.drop_eq_getElem_cons c] at hz; cases hz
        · omega
      rw [List.drop_of_length_le (by simpa using hge)] at hR
      wp_walk
      refine ⟨_, rfl, ?_⟩
      simpa [Builtin.Tuple.tupleCompareSizes, firstLt] using hR
    case h =>
      exact ⟨rfl, rfl, 0, fun i hi => absurd hi (Nat.not_lt_zero i), rfl, by simpa using h⟩
theorem RcLt.tuples1 {A : Around} {s : Shared} {p q : Addr} {us ws : Array Value} {f g : Nat → Bool} (hl : s.heap.IsTuple p us) (hb : s.heap.IsTuple q ws) (hu : A.units < cLine) (pl : Places A.in1 s us ws f g) :
    RcLt A s (.ref p) (.ref q) (firstLt f g (decide (us.size < ws.size)) (List.range (min us.size ws.size))) := fun prog w E Q h => by
  obtain ⟨⟨c1, d1, t1, s1⟩, o1, k1, n1, e1⟩ := id hl
  obtain ⟨⟨c2, d2, t2, s2⟩, o2, k2, n2, e2⟩ := id hb
  simp only at k1 e1 k2 e2
  subst k1 e1 k2 e2
  have nn : Value.bool (firstLt f g (decide (us.size < ws.size)) (List.range (min us.size ws.size))) ≠ Value.notImplemented := fun x => nomatch x
  exact richCompare_meets_room (op := .Lt) ⟨_, o1, rfl⟩ ⟨_, o2, rfl⟩ F.slot_tuple_lt F.entry_tuple_lt (F.args_tuple_lt_2 _ _) (tuple_lt1 p q us ws n1 n2 d1 d2 s1 s2 f g) ⟨o1, o2, pl, nn, h⟩ hu
/-- what is asked of the places: == of each behind alike ones, and < of the first that differs -/
structure PlacesLtE (A : Around) (s : Shared) (us ws : Array Value) (f g : Nat → Bool) : Prop where
  eq : ∀ j (h1 : j < us.size) (h2 : j < ws.size), Ahead f j → EqAt A s us[j] ws[j] (f j)
  lt : ∀ j (h1 : j < us.size) (h2 : j < ws.size), Ahead f j → f j = false → RcOp .LtE A s us[j] ws[j] (g j)
theorem tuple_le1 (p q : Addr) (us ws : Array Value) (n m : Nat) (d1 d2 : Option Addr) (s1 s2 : Array (Option Value)) (f g : Nat → Bool) :
    Meets (Builtin.«tuple.__le__» ⟨[.ref p, .ref q], []⟩)
      (fun A R s => s.heap.get? p = some { cls := .type "tuple", dict := d1, data := .seq us n, slots := s1 } ∧ s.heap.get? q = some { cls := .type "tuple", dict := d2, data := .seq ws m, slots := s2 } ∧
        PlacesLtE A.in1 s us ws f g ∧ R (.ok (.ret (.bool (firstLt f g (decide (us.size ≤ ws.size)) (List.range (min us.size ws.size)))))) s) :=
  .of_wp fun prog w A R s h => by
    obtain ⟨hp, ge, dr, tk, os⟩ := s
    obtain ⟨hl, hb, pl, h⟩ := h
    have f2 := AutoSeq1.sub_tuple_tuple
    have hZ : (us.toList.zip ws.toList).length = min us.size ws.size := by simp
    wp_walk using wpAny_loadPart' hl, wpAny_loadPart' hb, wpAny_forIn_list _ (fun rest b s' => b.1 = none ∧ s' = ⟨hp, ge, dr, tk, os⟩ ∧ ∃ i, Ahead f i ∧ rest = (us.toList.zip ws.toList).drop i ∧
      R (.ok (.ret (.bool (firstLt f g (decide (us.size ≤ ws.size)) ((List.range (min us.size ws.size)).drop i))))) ⟨hp, ge, dr, tk, os⟩) _
    case turn =>
      rintro ⟨y, x⟩ rest b s' ⟨hb', rfl, i, ah, hz, hR⟩
      have hlt : i < (us.toList.zip ws.toList).length := by
        by_cases c : i < (us.toList.zip ws.toList).length
        · exact c
        · rw [List.drop_eq_nil_of_le (by omega)] at hz; cases hz
      have hm : i < min us.size ws.size := hZ ▸ hlt
      have h1 : i < us.size := by omega
      have h2 : i < ws.size := by omega
      rw [List.drop_eq_getElem_cons hlt] at hz
      injection hz with hyx hrest
      have hy : y = us[i] := by simpa using congrArg Prod.fst hyx
      have hx : x = ws[i] := by simpa using congrArg Prod.snd hyx
      subst hy hx
      have hd : (List.range (min us.size ws.size)).drop i = i :: (List.range (min us.size ws.size)).drop (i + 1) := by
        simp [List.drop_eq_getElem_cons, hm]
      rw [hd] at hR
      refine wpAny_bind (pl.eq i h1 h2 ah prog w _ _ ?_)
      cases hf : f i with
      | true =>
        rw [firstLt_yes hf] at hR
        wp_walk
        exact ⟨rfl, rfl, i + 1, ah.succ hf, hrest, hR⟩
      | false =>
        rw [firstLt_no hf] at hR
        rw [if_pos (show (!false) = true from rfl)]
        refine wpAny_bind (wpAny_rule (wpAny_bind (pl.lt i h1 h2 ah hf prog w _ _ ?_)))
        wp_walk
        exact ⟨_, rfl, hR⟩
    case fin =>
      rintro ⟨b1, b2⟩ s' ⟨hb', rfl, i, ah, hz, hR⟩
      simp only at hb'
      subst hb'
      have hge : min us.size ws.size ≤ i := by
        by_cases c : i < (us.toList.zip ws.toList).length
        · rw [List.drop_eq_getElem_cons c] at hz; cases hz
        · omega
      rw [List.drop_of_length_le (by simpa using hge)] at hR
      wp_walk
      refine ⟨_, rfl, ?_⟩
      simpa [Builtin.Tuple.tupleCompareSizes, firstLt] using hR
    case h =>
      exact ⟨rfl, rfl, 0, fun i hi => absurd hi (Nat.not_lt_zero i), rfl, by simpa using h⟩
theorem RcOp.tuples1_le {A : Around} {s : Shared} {p q : Addr} {us ws : Array Value} {f g : Nat → Bool} (hl : s.heap.IsTuple p us) (hb : s.heap.IsTuple q ws) (hu : A.units < cLine) (pl : PlacesLtE A.in1 s us ws f g) :
    RcOp .LtE A s (.ref p) (.ref q) (firstLt f g (decide (us.size ≤ ws.size)) (List.range (min us.size ws.size))) := fun prog w E Q h => by
  obtain ⟨⟨c1, d1, t1, s1⟩, o1, k1, n1, e1⟩ := id hl
  obtain ⟨⟨c2, d2, t2, s2⟩, o2, k2, n2, e2⟩ := id hb
  simp only at k1 e1 k2 e2
  subst k1 e1 k2 e2
  have nn : Value.bool (firstLt f g (decide (us.size ≤ ws.size)) (List.range (min us.size ws.size))) ≠ Value.notImplemented := fun x => nomatch x
  exact richCompare_meets_room (op := .LtE) ⟨_, o1, rfl⟩ ⟨_, o2, rfl⟩ F.slot_tuple_le F.entry_tuple_le (F.args_tuple_le_2 _ _) (tuple_le1 p q us ws n1 n2 d1 d2 s1 s2 f g) ⟨o1, o2, pl, nn, h⟩ hu
/-- what is asked of the places: == of each behind alike ones, and < of the first that differs -/
structure PlacesGt (A : Around) (s : Shared) (us ws : Array Value) (f g : Nat → Bool) : Prop where
  eq : ∀ j (h1 : j < us.size) (h2 : j < ws.size), Ahead f j → EqAt A s us[j] ws[j] (f j)
  lt : ∀ j (h1 : j < us.size) (h2 : j < ws.size), Ahead f j → f j = false → RcOp .Gt A s us[j] ws[j] (g j)
theorem tuple_gt1 (p q : Addr) (us ws : Array Value) (n m : Nat) (d1 d2 : Option Addr) (s1 s2 : Array (Option Value)) (f g : Nat → Bool) :
    Meets (Builtin.«tuple.__gt__» ⟨[.ref p, .ref q], []⟩)
      (fun A R s => s.heap.get? p = some { cls := .type "tuple", dict := d1, data := .seq us n, slots := s1 } ∧ s.heap.get? q = some { cls := .type "tuple", dict := d2, data := .seq ws m, slots := s2 } ∧
        PlacesGt A.in1 s us ws f g ∧ R (.ok (.ret (.bool (firstLt f g (decide (us.size > ws.size)) (List.range (min us.size ws.size)))))) s) :=
  .of_wp fun prog w A R s h => by
    obtain ⟨hp, ge, dr, tk, os⟩ := s
    obtain ⟨hl, hb, pl, h⟩ := h
    have f2 := AutoSeq1.sub_tuple_tuple
    have hZ : (us.toList.zip ws.toList).length = min us.size ws.size := by simp
    wp_walk using wpAny_loadPart' hl, wpAny_loadPart' hb, wpAny_forIn_list _ (fun rest b s' => b.1 = none ∧ s' = ⟨hp, ge, dr, tk, os⟩ ∧ ∃ i, Ahead f i ∧ rest = (us.toList.zip ws.toList).drop i ∧
      R (.ok (.ret (.bool (firstLt f g (decide (us.size > ws.size)) ((List.range (min us.size ws.size)).drop i))))) ⟨hp, ge, dr, tk, os⟩) _
    case turn =>
      rintro ⟨y, x⟩ rest b s' ⟨hb', rfl, i, ah, hz, hR⟩
      have hlt : i < (us.toList.zip ws.toList).length := by
        by_cases c : i < (us.toList.zip ws.toList).length
        · exact c
        · rw [List.drop_eq_nil_of_le (by omega)] at hz; cases hz
      have hm : i < min us.size ws.size := hZ ▸ hlt
      have h1 : i < us.size := by omega
      have h2 : i < ws.size := by omega
      rw [List.drop_eq_getElem_cons hlt] at hz
      injection hz with hyx hrest
      have hy : y = us[i] := by simpa using congrArg Prod.fst hyx
      have hx : x = ws[i] := by simpa using congrArg Prod.snd hyx
      subst hy hx
      have hd : (List.range (min us.size ws.size)).drop i = i :: (List.range (min us.size ws.size)).drop (i + 1) := by
        simp [List.drop_eq_getElem_cons, hm]
      rw [hd] at hR
      refine wpAny_bind (pl.eq i h1 h2 ah prog w _ _ ?_)
      cases hf : f i with
      | true =>
        rw [firstLt_yes hf] at hR
        wp_walk
        exact ⟨rfl, rfl, i + 1, ah.succ hf, hrest, hR⟩
      | false =>
        rw [firstLt_no hf] at hR
        rw [if_pos (show (!false) = true from rfl)]
        refine wpAny_bind (wpAny_rule (wpAny_bind (pl.lt i h1 h2 ah hf prog w _ _ ?_)))
        wp_walk
        exact ⟨_, rfl, hR⟩
    case fin =>
      rintro ⟨b1, b2⟩ s' ⟨hb', rfl, i, ah, hz, hR⟩
      simp only at hb'
      subst hb'
      have hge : min us.size ws.size ≤ i := by
        by_cases c : i < (us.toList.zip ws.toList).length
        · rw [List.drop_eq_getElem_cons c] at hz; cases hz
        · omega
      rw [List.drop_of_length_le (by simpa using hge)] at hR
      wp_walk
      refine ⟨_, rfl, ?_⟩
      simpa [Builtin.Tuple.tupleCompareSizes, firstLt] using hR
    case h =>
      exact ⟨rfl, rfl, 0, fun i hi => absurd hi (Nat.not_lt_zero i), rfl, by simpa using h⟩
theorem RcOp.tuples1_gt {A : Around} {s : Shared} {p q : Addr} {us ws : Array Value} {f g : Nat → Bool} (hl : s.heap.IsTuple p us) (hb : s.heap.IsTuple q ws) (hu : A.units < cLine) (pl : PlacesGt A.in1 s us ws f g) :
    RcOp .Gt A s (.ref p) (.ref q) (firstLt f g (decide (us.size > ws.size)) (List.range (min us.size ws.size))) := fun prog w E Q h => by
  obtain ⟨⟨c1, d1, t1, s1⟩, o1, k1, n1, e1⟩ := id hl
  obtain ⟨⟨c2, d2, t2, s2⟩, o2, k2, n2, e2⟩ := id hb
  simp only at k1 e1 k2 e2
  subst k1 e1 k2 e2
  have nn : Value.bool (firstLt f g (decide (us.size > ws.size)) (List.range (min us.size ws.size))) ≠ Value.notImplemented := fun x => nomatch x
  exact richCompare_meets_room (op := .Gt) ⟨_, o1, rfl⟩ ⟨_, o2, rfl⟩ F.slot_tuple_gt F.entry_tuple_gt (F.args_tuple_gt_2 _ _) (tuple_gt1 p q us ws n1 n2 d1 d2 s1 s2 f g) ⟨o1, o2, pl, nn, h⟩ hu
end PySem.SeqAt

set_option Elab.async false
set_option linter.all false
set_option maxRecDepth 100000
/-! D16: < of data in the heap; sorted(list) of data. -/
namespace DL
open PySem L2 PySem.Spec PyProof.Rows PySem.SeqAt

theorem depth_mem {x : D} : ∀ {xs : List D}, x ∈ xs → x.depth ≤ PyData.depthAll xs
  | [], h => by cases h
  | y :: ys, h => by
    simp only [PyData.depthAll]
    rcases List.mem_cons.mp h with rfl | h
    · omega
    · have := depth_mem h; omega
theorem lay_mem {x : D} : ∀ {xs : List D}, PyData.canLayAll0 xs = true → x ∈ xs → x.canLay0 = true
  | [], _, h => by cases h
  | y :: ys, c, h => by
    simp only [PyData.canLayAll0, Bool.and_eq_true] at c
    rcases List.mem_cons.mp h with rfl | h
    · exact c.1
    · exact lay_mem c.2 h
theorem plain_mem {x : D} : ∀ {xs : List D}, plainAll xs = true → x ∈ xs → keyOk x = true
  | [], _, h => by cases h
  | y :: ys, c, h => by
    simp only [plainAll, keyOk.keyOkAll, Bool.and_eq_true] at c
    rcases List.mem_cons.mp h with rfl | h
    · exact c.1
    · exact plain_mem c.2 h
theorem readsAll_get {h : Heap} : ∀ {vs : List Value} {ds : List D} {as : List Addr}, ReadsAll h vs ds as → vs.length = ds.length ∧ ∀ (j : Nat) (v : Value), vs[j]? = some v → ∃ d bs, ds[j]? = some d ∧ Reads h v d bs
  | [], [], _, _ => ⟨rfl, fun j v e => by simp at e⟩
  | v :: vs, d :: ds, _, r => by
    cases r with
    | cons a b =>
      obtain ⟨h1, h2⟩ := readsAll_get b
      refine ⟨by simp [h1], fun j u e => ?_⟩
      cases j with
      | zero => simp at e; subst e; exact ⟨d, _, rfl, a⟩
      | succ j => simpa using h2 j u (by simpa using e)
/-- alike at a place; less there -/
def eqF (xs ys : List D) (j : Nat) : Bool := match xs[j]?, ys[j]? with
  | some x, some y => PyData.eqv x y
  | _, _ => true
def ltF (xs ys : List D) (j : Nat) : Bool := match xs[j]?, ys[j]? with
  | some x, some y => (ltD x y).getD false
  | _, _ => true
theorem firstLt_map {f g : Nat → Bool} {fin : Bool} (h : Nat → Nat) : ∀ l : List Nat, firstLt f g fin (l.map h) = firstLt (fun i => f (h i)) (fun i => g (h i)) fin l
  | [] => rfl
  | a :: l => by simp only [List.map_cons, firstLt, firstLt_map h l]
theorem first_ok : ∀ (xs ys : List D) (r : Bool), ltD.ltAll xs ys = some r →
    firstLt (eqF xs ys) (ltF xs ys) (decide (xs.length < ys.length)) (List.range (min xs.length ys.length)) = r ∧
      ∀ j x y, xs[j]? = some x → ys[j]? = some y → Ahead (eqF xs ys) j → eqF xs ys j = false → ltD x y = some (ltF xs ys j)
  | [], [], r, h => by simp [ltD.ltAll] at h; subst h; exact ⟨rfl, fun j x y e => by simp at e⟩
  | [], _ :: _, r, h => by simp [ltD.ltAll] at h; subst h; exact ⟨by simp [firstLt], fun j x y e => by simp at e⟩
  | _ :: _, [], r, h => by simp [ltD.ltAll] at h; subst h; exact ⟨by simp [firstLt], fun j x y _ e => by simp at e⟩
  | x :: xs, y :: ys, r, h => by
    rw [ltD.ltAll] at h
    have e1 : (fun i => eqF (x :: xs) (y :: ys) (i + 1)) = eqF xs ys := by funext i; simp [eqF]
    have e2 : (fun i => ltF (x :: xs) (y :: ys) (i + 1)) = ltF xs ys := by funext i; simp [ltF]
    have e0 : eqF (x :: xs) (y :: ys) 0 = PyData.eqv x y := rfl
    have hr : List.range (min (x :: xs).length (y :: ys).length) = 0 :: (List.range (min xs.length ys.length)).map (· + 1) := by
      have : min (x :: xs).length (y :: ys).length = min xs.length ys.length + 1 := by simp
      rw [this, List.range_succ_eq_map]
    have hlen : decide ((x :: xs).length < (y :: ys).length) = decide (xs.length < ys.length) := by simp
    rw [hr, hlen]
    by_cases c : PyData.eqv x y = true
    · rw [if_pos c] at h
      obtain ⟨i1, i2⟩ := first_ok xs ys r h
      refine ⟨?_, fun j u v hu hv ah hf => ?_⟩
      · rw [firstLt_yes (by rw [e0]; exact c), firstLt_map, e1, e2]; exact i1
      · cases j with
        | zero => rw [e0, c] at hf; cases hf
        | succ j =>
          have hf' : eqF xs ys j = false := by rw [← e1]; exact hf
          have := i2 j u v (by simpa using hu) (by simpa using hv) (fun i hi => by rw [← e1]; exact ah (i + 1) (by omega)) hf'
          rw [this, ← e2]
    · have c' : PyData.eqv x y = false := by simpa using c
      rw [if_neg c] at h
      refine ⟨?_, fun j u v hu hv ah hf => ?_⟩
      · rw [firstLt_no (by rw [e0]; exact c')]
        simp [ltF, h]
      · cases j with
        | zero => simp at hu hv; subst hu hv; simp [ltF, h]
        | succ j =>
          have := ah 0 (by omega)
          rw [e0, c'] at this
          cases this
/-- < of plain data in the heap -/
theorem lt_reads : ∀ (n : Nat) (d e : D) (r : Bool) (A : Around) (s : Shared) (a b : Value) (as bs : List Addr), d.depth ≤ n → Reads s.heap a d as → Reads s.heap b e bs → d.canLay0 = true → e.canLay0 = true → keyOk d = true → keyOk e = true →
    A.units + n < cLine → ltD d e = some r → RcLt A s a b r := by
  intro n
  induction n with
  | zero =>
    intro d e r A s a b as bs hn ra rb ca cb pd pe hu h
    cases d <;> simp [keyOk] at pd <;> cases e <;> simp [keyOk] at pe <;> simp only [ltD, Option.some.injEq, reduceCtorEq] at h
    · cases ra; cases rb; subst h; exact fun prog w E Q q => lt_int q
    · cases ra; cases rb; subst h; exact fun prog w E Q q => lt_str q
    · simp [PyData.depth] at hn
  | succ n ih =>
    intro d e r A s a b as bs hn ra rb ca cb pd pe hu h
    cases d <;> simp [keyOk] at pd <;> cases e <;> simp [keyOk] at pe <;> simp only [ltD, Option.some.injEq, reduceCtorEq] at h
    · cases ra; cases rb; subst h; exact fun prog w E Q q => lt_int q
    · cases ra; cases rb; subst h; exact fun prog w E Q q => lt_str q
    · rename_i xs ys
      cases ra with
      | tuple o1 k1 e1 r1 =>
        cases rb with
        | tuple o2 k2 e2 r2 =>
          rename_i aa oa us na ab oc ws nb
          obtain ⟨f1, f2⟩ := first_ok xs ys r h
          obtain ⟨l1, g1⟩ := readsAll_get r1
          obtain ⟨l2, g2⟩ := readsAll_get r2
          have hc1 : PyData.canLayAll0 xs = true := by simpa [PyData.canLay0] using ca
          have hc2 : PyData.canLayAll0 ys = true := by simpa [PyData.canLay0] using cb
          have hdep : PyData.depthAll xs ≤ n := by simp [PyData.depth] at hn; omega
          have z1 : us.size = xs.length := by rw [← l1]; simp
          have z2 : ws.size = ys.length := by rw [← l2]; simp
          have hin : A.in1.units = A.units + 1 := rfl
          have item : ∀ j (h1 : j < us.size) (h2 : j < ws.size), ∃ x y as bs, xs[j]? = some x ∧ ys[j]? = some y ∧ Reads s.heap us[j] x as ∧ Reads s.heap ws[j] y bs := fun j h1 h2 => by
            obtain ⟨x, a1, q1, q2⟩ := g1 j us[j] (by simp [h1])
            obtain ⟨y, a2, q3, q4⟩ := g2 j ws[j] (by simp [h2])
            exact ⟨x, y, a1, a2, q1, q3, q2, q4⟩
          have main := RcLt.tuples1 (A := A) (s := s) (f := eqF xs ys) (g := ltF xs ys) ⟨oa, o1, k1, na, e1⟩ ⟨oc, o2, k2, nb, e2⟩ (by omega) ⟨fun j h1 h2 _ => by
            obtain ⟨x, y, a1, a2, q1, q2, q3, q4⟩ := item j h1 h2
            have hx := List.mem_of_getElem? q1
            have hy := List.mem_of_getElem? q2
            have := eqAt_reads x y A.in1 s us[j] ws[j] a1 a2 q3 q4 (lay_mem hc1 hx) (lay_mem hc2 hy) (by have := depth_mem hx; rw [hin]; have := Nat.min_le_left x.depth y.depth; omega)
            have e : eqF xs ys j = PyData.eqv x y := by simp [eqF, q1, q2]
            rw [e]; exact this, fun j h1 h2 ah hf => by
            obtain ⟨x, y, a1, a2, q1, q2, q3, q4⟩ := item j h1 h2
            have hx := List.mem_of_getElem? q1
            have hy := List.mem_of_getElem? q2
            exact ih x y _ A.in1 s us[j] ws[j] a1 a2 (Nat.le_trans (depth_mem hx) hdep) q3 q4 (lay_mem hc1 hx) (lay_mem hc2 hy) (plain_mem pd hx) (plain_mem pe hy) (by rw [hin]; omega) (f2 j x y q1 q2 ah hf)⟩
          rw [z1, z2, f1] at main
          exact main
theorem nle (i j : Int) : decide (i ≤ j) = !decide (j < i) := by
  by_cases h : j < i
  · have : ¬ i ≤ j := by omega
    simp [h, this]
  · have : i ≤ j := by omega
    simp [h, this]
theorem eqF_comm (xs ys : List D) : eqF ys xs = eqF xs ys := by
  funext j
  unfold eqF
  cases xs[j]? <;> cases ys[j]? <;> first | rfl | exact PySem.W.eqv_comm _ _
/-- > of plain data in the heap -/
theorem gt_reads : ∀ (n : Nat) (d e : D) (r : Bool) (A : Around) (s : Shared) (a b : Value) (as bs : List Addr), d.depth ≤ n → Reads s.heap a d as → Reads s.heap b e bs → d.canLay0 = true → e.canLay0 = true → keyOk d = true → keyOk e = true →
    A.units + n < cLine → ltD e d = some r → RcOp .Gt A s a b r := by
  intro n
  induction n with
  | zero =>
    intro d e r A s a b as bs hn ra rb ca cb pd pe hu h
    cases d <;> simp [keyOk] at pd <;> cases e <;> simp [keyOk] at pe <;> simp only [ltD, Option.some.injEq, reduceCtorEq] at h
    · cases ra; cases rb; subst h; exact fun prog w E Q q => gt_int q
    · cases ra; cases rb; subst h; exact fun prog w E Q q => PySem.P.gt_str q
    · simp [PyData.depth] at hn
  | succ n ih =>
    intro d e r A s a b as bs hn ra rb ca cb pd pe hu h
    cases d <;> simp [keyOk] at pd <;> cases e <;> simp [keyOk] at pe <;> simp only [ltD, Option.some.injEq, reduceCtorEq] at h
    · cases ra; cases rb; subst h; exact fun prog w E Q q => gt_int q
    · cases ra; cases rb; subst h; exact fun prog w E Q q => PySem.P.gt_str q
    · rename_i xs ys
      cases ra with
      | tuple o1 k1 e1 r1 =>
        cases rb with
        | tuple o2 k2 e2 r2 =>
          rename_i aa oa us na ab oc ws nb
          obtain ⟨f1, f2⟩ := first_ok ys xs r h
          obtain ⟨l1, g1⟩ := readsAll_get r1
          obtain ⟨l2, g2⟩ := readsAll_get r2
          have hc1 : PyData.canLayAll0 xs = true := by simpa [PyData.canLay0] using ca
          have hc2 : PyData.canLayAll0 ys = true := by simpa [PyData.canLay0] using cb
          have hdep : PyData.depthAll xs ≤ n := by simp [PyData.depth] at hn; omega
          have z1 : us.size = xs.length := by rw [← l1]; simp
          have z2 : ws.size = ys.length := by rw [← l2]; simp
          have hin : A.in1.units = A.units + 1 := rfl
          have item : ∀ j (h1 : j < us.size) (h2 : j < ws.size), ∃ x y as bs, xs[j]? = some x ∧ ys[j]? = some y ∧ Reads s.heap us[j] x as ∧ Reads s.heap ws[j] y bs := fun j h1 h2 => by
            obtain ⟨x, a1, q1, q2⟩ := g1 j us[j] (by simp [h1])
            obtain ⟨y, a2, q3, q4⟩ := g2 j ws[j] (by simp [h2])
            exact ⟨x, y, a1, a2, q1, q3, q2, q4⟩
          have main := RcOp.tuples1_gt (A := A) (s := s) (f := eqF xs ys) (g := ltF ys xs) ⟨oa, o1, k1, na, e1⟩ ⟨oc, o2, k2, nb, e2⟩ (by omega) ⟨fun j h1 h2 _ => by
            obtain ⟨x, y, a1, a2, q1, q2, q3, q4⟩ := item j h1 h2
            have hx := List.mem_of_getElem? q1
            have hy := List.mem_of_getElem? q2
            have := eqAt_reads x y A.in1 s us[j] ws[j] a1 a2 q3 q4 (lay_mem hc1 hx) (lay_mem hc2 hy) (by have := depth_mem hx; rw [hin]; have := Nat.min_le_left x.depth y.depth; omega)
            have e : eqF xs ys j = PyData.eqv x y := by simp [eqF, q1, q2]
            rw [e]; exact this, fun j h1 h2 ah hf => by
            obtain ⟨x, y, a1, a2, q1, q2, q3, q4⟩ := item j h1 h2
            have hx := List.mem_of_getElem? q1
            have hy := List.mem_of_getElem? q2
            exact ih x y _ A.in1 s us[j] ws[j] a1 a2 (Nat.le_trans (depth_mem hx) hdep) q3 q4 (lay_mem hc1 hx) (lay_mem hc2 hy) (plain_mem pd hx) (plain_mem pe hy) (by rw [hin]; omega) (f2 j y x q2 q1 (by rw [eqF_comm]; exact ah) (by rw [eqF_comm]; exact hf))⟩
          rw [eqF_comm, Nat.min_comm] at f1
          rw [z1, z2, show (decide (xs.length > ys.length)) = decide (ys.length < xs.length) from rfl, f1] at main
          exact main
/-- <= of plain data in the heap -/
theorem le_reads : ∀ (n : Nat) (d e : D) (r : Bool) (A : Around) (s : Shared) (a b : Value) (as bs : List Addr), d.depth ≤ n → Reads s.heap a d as → Reads s.heap b e bs → d.canLay0 = true → e.canLay0 = true → keyOk d = true → keyOk e = true →
    A.units + n < cLine → ltD e d = some r → RcOp .LtE A s a b (!r) := by
  intro n
  induction n with
  | zero =>
    intro d e r A s a b as bs hn ra rb ca cb pd pe hu h
    cases d <;> simp [keyOk] at pd <;> cases e <;> simp [keyOk] at pe <;> simp only [ltD, Option.some.injEq, reduceCtorEq] at h
    · cases ra; cases rb; subst h; exact fun prog w E Q q => le_int (by rw [nle]; exact q)
    · cases ra; cases rb; subst h; exact fun prog w E Q q => PySem.P.le_str (by simpa using q)
    · simp [PyData.depth] at hn
  | succ n ih =>
    intro d e r A s a b as bs hn ra rb ca cb pd pe hu h
    cases d <;> simp [keyOk] at pd <;> cases e <;> simp [keyOk] at pe <;> simp only [ltD, Option.some.injEq, reduceCtorEq] at h
    · cases ra; cases rb; subst h; exact fun prog w E Q q => le_int (by rw [nle]; exact q)
    · cases ra; cases rb; subst h; exact fun prog w E Q q => PySem.P.le_str (by simpa using q)
    · rename_i xs ys
      cases ra with
      | tuple o1 k1 e1 r1 =>
        cases rb with
        | tuple o2 k2 e2 r2 =>
          rename_i aa oa us na ab oc ws nb
          obtain ⟨f1, f2⟩ := first_ok ys xs r h
          obtain ⟨l1, g1⟩ := readsAll_get r1
          obtain ⟨l2, g2⟩ := readsAll_get r2
          have hc1 : PyData.canLayAll0 xs = true := by simpa [PyData.canLay0] using ca
          have hc2 : PyData.canLayAll0 ys = true := by simpa [PyData.canLay0] using cb
          have hdep : PyData.depthAll xs ≤ n := by simp [PyData.depth] at hn; omega
          have z1 : us.size = xs.length := by rw [← l1]; simp
          have z2 : ws.size = ys.length := by rw [← l2]; simp
          have hin : A.in1.units = A.units + 1 := rfl
          have item : ∀ j (h1 : j < us.size) (h2 : j < ws.size), ∃ x y as bs, xs[j]? = some x ∧ ys[j]? = some y ∧ Reads s.heap us[j] x as ∧ Reads s.heap ws[j] y bs := fun j h1 h2 => by
            obtain ⟨x, a1, q1, q2⟩ := g1 j us[j] (by simp [h1])
            obtain ⟨y, a2, q3, q4⟩ := g2 j ws[j] (by simp [h2])
            exact ⟨x, y, a1, a2, q1, q3, q2, q4⟩
          have main := RcOp.tuples1_le (A := A) (s := s) (f := eqF xs ys) (g := fun j => !ltF ys xs j) ⟨oa, o1, k1, na, e1⟩ ⟨oc, o2, k2, nb, e2⟩ (by omega) ⟨fun j h1 h2 _ => by
            obtain ⟨x, y, a1, a2, q1, q2, q3, q4⟩ := item j h1 h2
            have hx := List.mem_of_getElem? q1
            have hy := List.mem_of_getElem? q2
            have := eqAt_reads x y A.in1 s us[j] ws[j] a1 a2 q3 q4 (lay_mem hc1 hx) (lay_mem hc2 hy) (by have := depth_mem hx; rw [hin]; have := Nat.min_le_left x.depth y.depth; omega)
            have e : eqF xs ys j = PyData.eqv x y := by simp [eqF, q1, q2]
            rw [e]; exact this, fun j h1 h2 ah hf => by
            obtain ⟨x, y, a1, a2, q1, q2, q3, q4⟩ := item j h1 h2
            have hx := List.mem_of_getElem? q1
            have hy := List.mem_of_getElem? q2
            exact ih x y _ A.in1 s us[j] ws[j] a1 a2 (Nat.le_trans (depth_mem hx) hdep) q3 q4 (lay_mem hc1 hx) (lay_mem hc2 hy) (plain_mem pd hx) (plain_mem pe hy) (by rw [hin]; omega) (f2 j y x q2 q1 (by rw [eqF_comm]; exact ah) (by rw [eqF_comm]; exact hf))⟩
          rw [eqF_comm, Nat.min_comm] at f1
          have e3 : decide (xs.length ≤ ys.length) = !decide (ys.length < xs.length) := by by_cases c : ys.length < xs.length <;> simp [c] <;> omega
          rw [z1, z2, e3, firstLt_not, f1] at main
          exact main
theorem list_reads {A : Around} {s : Shared} {a b : Value} {xs ys : List D} {r : Bool} {as bs : List Addr} (ra : Reads s.heap a (.list xs) as) (rb : Reads s.heap b (.list ys) bs) (hx : ∀ x ∈ xs, keyOk x = true ∧ x.canLay0 = true ∧ x.depth ≤ 90) (hy : ∀ y ∈ ys, keyOk y = true ∧ y.canLay0 = true ∧ y.depth ≤ 90)
    (hc : ∀ (j : Nat) (x y : D), xs[j]? = some x → ys[j]? = some y → (ltD x y).isSome = true) (hu : A.units + 100 < cLine) (h : ltD.ltAll xs ys = some r) : RcLt A s a b r := by
  cases ra with
  | list o1 k1 e1 r1 =>
    cases rb with
    | list o2 k2 e2 r2 =>
      rename_i aa oa us na al ab oc ws nb bl
      obtain ⟨f1, f2⟩ := first_ok xs ys r h
      obtain ⟨l1, g1⟩ := readsAll_get r1
      obtain ⟨l2, g2⟩ := readsAll_get r2
      have z1 : us.size = xs.length := by rw [← l1]; simp
      have z2 : ws.size = ys.length := by rw [← l2]; simp
      have hin : A.in1.units = A.units + 1 := rfl
      have item : ∀ j (h1 : j < us.size) (h2 : j < ws.size), ∃ x y as bs, xs[j]? = some x ∧ ys[j]? = some y ∧ Reads s.heap us[j] x as ∧ Reads s.heap ws[j] y bs := fun j h1 h2 => by
        obtain ⟨x, a1, q1, q2⟩ := g1 j us[j] (by simp [h1])
        obtain ⟨y, a2, q3, q4⟩ := g2 j ws[j] (by simp [h2])
        exact ⟨x, y, a1, a2, q1, q3, q2, q4⟩
      have main := RcLt.lists (A := A) (s := s) (e := eqF xs ys) (r := ltF xs ys) ⟨oa, o1, k1, na, e1⟩ ⟨oc, o2, k2, nb, e2⟩ (by omega) (fun j h1 h2 => by
        obtain ⟨x, y, a1, a2, q1, q2, q3, q4⟩ := item j h1 h2
        have hx := hx x (List.mem_of_getElem? q1)
        have hy := hy y (List.mem_of_getElem? q2)
        have := eqAt_reads x y A.in1 s us[j] ws[j] a1 a2 q3 q4 hx.2.1 hy.2.1 (by rw [hin]; have := Nat.min_le_left x.depth y.depth; omega)
        have e : eqF xs ys j = PyData.eqv x y := by simp [eqF, q1, q2]
        rw [e]; exact this) (fun j h1 h2 _ => by
        obtain ⟨x, y, a1, a2, q1, q2, q3, q4⟩ := item j h1 h2
        have hx := hx x (List.mem_of_getElem? q1)
        have hy := hy y (List.mem_of_getElem? q2)
        have hs := hc j x y q1 q2
        cases e : ltD x y with
        | none => rw [e] at hs; cases hs
        | some c =>
          have := lt_reads 90 x y c A.in1 s us[j] ws[j] a1 a2 hx.2.2 q3 q4 hx.2.1 hy.2.1 hx.1 hy.1 (by rw [hin]; omega) e
          have e2 : ltF xs ys j = c := by simp [ltF, q1, q2, e]
          rw [e2]; exact this)
      rw [z1, z2, f1] at main
      exact main
end DL

set_option Elab.async false
set_option linter.all false
set_option maxRecDepth 100000
/-! D2: data in the heap; the state of a run by values over the abstract heap. -/
namespace DL
open PySem L2

mutual
/-- the value v is the data d, all of it in the part Z that is never changed -/
inductive Rep (Z : Hp) : V → D → Prop
  | non : Rep Z .non .none
  | bl (b : Bool) : Rep Z (.bl b) (.bool b)
  | int (i : Int) : Rep Z (.int i) (.int i)
  | str (x : Str) : Rep Z (.str x) (.str x)
  | lst {a : Addr} {xs : List V} {ds : List D} : Rd Z a (.lst xs) → Reps Z xs ds → Rep Z (.ref a) (.list ds)
  | tup {a : Addr} {xs : List V} {ds : List D} : Z a = some (.tup xs) → Reps Z xs ds → Rep Z (.ref a) (.tuple ds)
  | dic {a : Addr} {kvs : List (Key × V)} {es : List (D × D)} : Z a = some (.dK kvs) → RepKs Z kvs es → Rep Z (.ref a) (.dict es)
inductive Reps (Z : Hp) : List V → List D → Prop
  | nil : Reps Z [] []
  | cons {v : V} {d : D} {vs : List V} {ds : List D} : Rep Z v d → Reps Z vs ds → Reps Z (v :: vs) (d :: ds)
inductive RepKs (Z : Hp) : List (Key × V) → List (D × D) → Prop
  | nil : RepKs Z [] []
  | cons {k : Int} {v : V} {d : D} {kvs : List (Key × V)} {es : List (D × D)} : Rep Z v d → RepKs Z kvs es → RepKs Z ((.inl k, v) :: kvs) ((.int k, d) :: es)
end
theorem Rd.same {Z Z' : Hp} {a : Addr} {u : HO} (h : Same Z Z') (r : Rd Z a u) : Rd Z' a u := by
  rcases r with r | ⟨o, r⟩
  · exact .inl (h _ _ r)
  · exact .inr ⟨o, h _ _ r⟩
mutual
theorem Rep.mono {Z Z' : Hp} (h : Same Z Z') : ∀ (d : D) (v : V), Rep Z v d → Rep Z' v d
  | .none, _, r => by cases r; exact .non
  | .bool b, _, r => by cases r; exact .bl b
  | .int i, _, r => by cases r; exact .int i
  | .str x, _, r => by cases r; exact .str x
  | .list ds, _, r => by cases r with | lst a b => exact .lst (Rd.same h a) (Reps.mono h ds _ b)
  | .tuple ds, _, r => by cases r with | tup a b => exact .tup (h _ _ a) (Reps.mono h ds _ b)
  | .dict es, _, r => by cases r with | dic a b => exact .dic (h _ _ a) (RepKs.mono h es _ b)
theorem Reps.mono {Z Z' : Hp} (h : Same Z Z') : ∀ (ds : List D) (vs : List V), Reps Z vs ds → Reps Z' vs ds
  | [], _, r => by cases r; exact .nil
  | d :: ds, _, r => by cases r with | cons a b => exact .cons (Rep.mono h d _ a) (Reps.mono h ds _ b)
theorem RepKs.mono {Z Z' : Hp} (h : Same Z Z') : ∀ (es : List (D × D)) (kvs : List (Key × V)), RepKs Z kvs es → RepKs Z' kvs es
  | [], _, r => by cases r; exact .nil
  | (k, d) :: es, _, r => by cases r with | cons a b => exact .cons (Rep.mono h d _ a) (RepKs.mono h es _ b)
end
theorem Rep.up {Z Z' : Hp} {v : V} {d : D} (r : Rep Z v d) (h : Same Z Z') : Rep Z' v d := Rep.mono h d v r
theorem Reps.up {Z Z' : Hp} {vs : List V} {ds : List D} (r : Reps Z vs ds) (h : Same Z Z') : Reps Z' vs ds := Reps.mono h ds vs r
theorem RepKs.up {Z Z' : Hp} {vs : List (Key × V)} {ds : List (D × D)} (r : RepKs Z vs ds) (h : Same Z Z') : RepKs Z' vs ds := RepKs.mono h ds vs r
theorem Reps.length {Z : Hp} : ∀ {vs : List V} {ds : List D}, Reps Z vs ds → vs.length = ds.length
  | [], [], _ => rfl
  | [], _ :: _, r => by cases r
  | _ :: _, [], r => by cases r
  | v :: vs, d :: ds, r => by cases r with | cons a b => simp [Reps.length b]
theorem RepKs.length {Z : Hp} : ∀ {vs : List (Key × V)} {ds : List (D × D)}, RepKs Z vs ds → vs.length = ds.length
  | [], [], _ => rfl
  | [], _ :: _, r => by cases r
  | _ :: _, [], r => by cases r
  | v :: vs, d :: ds, r => by cases r with | cons a b => simp [RepKs.length b]
theorem Reps.append {Z : Hp} : ∀ {vs ws : List V} {ds es : List D}, Reps Z vs ds → Reps Z ws es → Reps Z (vs ++ ws) (ds ++ es)
  | [], _, [], _, _, s => s
  | [], _, _ :: _, _, r, _ => by cases r
  | _ :: _, _, [], _, r, _ => by cases r
  | v :: vs, _, d :: ds, _, r, s => by cases r with | cons a b => exact .cons a (Reps.append b s)
theorem Reps.take {Z : Hp} : ∀ (n : Nat) {vs : List V} {ds : List D}, Reps Z vs ds → Reps Z (vs.take n) (ds.take n)
  | 0, vs, ds, r => by simp; exact .nil
  | n + 1, [], [], r => .nil
  | n + 1, [], _ :: _, r => by cases r
  | n + 1, _ :: _, [], r => by cases r
  | n + 1, v :: vs, d :: ds, r => by cases r with | cons a b => exact .cons a (Reps.take n b)
theorem Reps.drop {Z : Hp} : ∀ (n : Nat) {vs : List V} {ds : List D}, Reps Z vs ds → Reps Z (vs.drop n) (ds.drop n)
  | 0, vs, ds, r => r
  | n + 1, [], [], r => .nil
  | n + 1, [], _ :: _, r => by cases r
  | n + 1, _ :: _, [], r => by cases r
  | n + 1, v :: vs, d :: ds, r => by cases r with | cons a b => exact Reps.drop n b
theorem Reps.get {Z : Hp} : ∀ {vs : List V} {ds : List D} {i : Nat} {d : D}, Reps Z vs ds → ds[i]? = some d → ∃ v, vs[i]? = some v ∧ Rep Z v d
  | [], [], _, _, _, h => by simp at h
  | [], _ :: _, _, _, r, _ => by cases r
  | _ :: _, [], _, _, r, _ => by cases r
  | v :: vs, d :: ds, 0, _, r, h => by
    cases r with | cons a b =>
    simp at h; subst h; exact ⟨v, rfl, a⟩
  | v :: vs, d :: ds, i + 1, _, r, h => by
    cases r with | cons a b =>
    have := Reps.get b (i := i) (by simpa using h)
    simpa using this
theorem Reps.get' {Z : Hp} {vs : List V} {ds : List D} {i : Nat} {v : V} (r : Reps Z vs ds) (h : vs[i]? = some v) : ∃ d, ds[i]? = some d ∧ Rep Z v d := by
  have hi : i < vs.length := (List.getElem?_eq_some_iff.mp h).1
  have hd : ds[i]? = some (ds[i]'(by rw [← r.length]; exact hi)) := List.getElem?_eq_getElem _
  obtain ⟨v', h', r'⟩ := r.get hd
  rw [h] at h'; cases h'
  exact ⟨_, hd, r'⟩
theorem Reps.reverse {Z : Hp} {vs : List V} {ds : List D} (r : Reps Z vs ds) : Reps Z vs.reverse ds.reverse := by
  induction vs generalizing ds with
  | nil => cases r; exact .nil
  | cons v vs ih =>
    cases r with | cons a b =>
    rw [List.reverse_cons, List.reverse_cons]
    exact Reps.append (ih b) (.cons a .nil)
theorem Reps.dropLast {Z : Hp} {vs : List V} {ds : List D} (r : Reps Z vs ds) : Reps Z vs.dropLast ds.dropLast := by
  rw [List.dropLast_eq_take, List.dropLast_eq_take, r.length]
  exact r.take _
theorem Reps.rep {Z : Hp} {vs : List V} {ds : List D} (r : Reps Z vs ds) : ∀ n : Nat, Reps Z (List.replicate n vs).flatten (List.replicate n ds).flatten
  | 0 => .nil
  | n + 1 => by
    rw [List.replicate_succ, List.replicate_succ, List.flatten_cons, List.flatten_cons]
    exact Reps.append r (Reps.rep r n)

/-! ### the data of a value, as the layer's == reads it -/
mutual
theorem Rep.dp {K : PySem.W.Frag} {Z H : Hp} (h : Same Z H) : ∀ (d : D) (v : V), d.canLay0 = true → Rep Z v d → Dp K H v d
  | .none, _, _, r => by cases r; exact .non
  | .bool b, _, _, r => by cases r; exact .bl b
  | .int i, _, _, r => by cases r; exact .int i
  | .str x, _, _, r => by cases r; exact .str x
  | .list ds, _, c, r => by cases r with | lst a b => exact .lst (.inl (Rd.same h a)) (Reps.dp h ds _ (by simpa [PyData.canLay0] using c) b)
  | .tuple ds, _, c, r => by cases r with | tup a b => exact .tup (.inl (.inl (h _ _ a))) (Reps.dp h ds _ (by simpa [PyData.canLay0] using c) b)
  | .dict _, _, c, _ => by simp [PyData.canLay0] at c
theorem Reps.dp {K : PySem.W.Frag} {Z H : Hp} (h : Same Z H) : ∀ (ds : List D) (vs : List V), PyData.canLayAll0 ds = true → Reps Z vs ds → DpAll K H vs ds
  | [], _, _, r => by cases r; exact .nil
  | d :: ds, _, c, r => by
    simp only [PyData.canLayAll0, Bool.and_eq_true] at c
    cases r with | cons a b => exact .cons (Rep.dp h d _ c.1 a) (Reps.dp h ds _ c.2 b)
end

/-! ### dicts whose keys are tuples -/
mutual
def nk : D → NestedKey
  | .int i => .num i
  | .str x => .text x
  | .tuple xs => .tup (nks xs)
  | _ => .none
def nks : List D → List NestedKey
  | [] => []
  | x :: xs => nk x :: nks xs
end
/-- the dict's one object: its entries -/
def phiN (P : Program) (w : World) (p : Addr) (xs : List (NestedKey × Addr × Value)) (h : Heap) : Prop :=
  ∃ o es ep, h.get? p = some o ∧ o.ExactDict ∧ o.data = .dict es ep ∧ es.toList = xs.map (entryOfKey (nestedKind P w))
inductive RepNs (Z : Hp) : List (NestedKey × Addr × Value) → List (D × D) → Prop
  | nil : RepNs Z [] []
  | cons {k d : D} {a : Addr} {v : V} {u : Value} {xs : List (NestedKey × Addr × Value)} {es : List (D × D)} :
      tupKey k = true → Rep Z (.ref a) k → RelV v u → Rep Z v d → RepNs Z xs es → RepNs Z ((nk k, a, u) :: xs) ((k, d) :: es)
theorem RepNs.up {Z Z' : Hp} {xs : List (NestedKey × Addr × Value)} {es : List (D × D)} (r : RepNs Z xs es) (h : Same Z Z') : RepNs Z' xs es := by
  induction r with
  | nil => exact .nil
  | cons a b c d _ ih => exact .cons a (b.up h) c (d.up h) ih
theorem RepNs.length {Z : Hp} {xs : List (NestedKey × Addr × Value)} {es : List (D × D)} (r : RepNs Z xs es) : xs.length = es.length := by
  induction r with
  | nil => rfl
  | cons _ _ _ _ _ ih => simp [ih]

/-! ### how a slot's value is held -/
/-- what the run takes as given: the address of the class Walker -/
class Cfg where
  wc : Addr
/-- the address of the object that slot 0 holds, in a method -/
class Fix where
  fx : Option Addr
/-- the list of the walker at p -/
def obLst (H : Hp) (p b : Addr) : Prop := ∃ C dx fs, H p = some (.ins C dx fs) ∧ fs.lookup ("taken" : Str) = some (.ref b)
/-- the addresses that a held value has for itself -/
def Adr (H : Hp) (v : V) (m : Md) (b : Addr) : Prop := m ≠ .fr ∧ (v = .ref b ∨ ∃ p, v = .ref p ∧ obLst H p b)
section
variable [Cfg]
/-- the walker at p: its term, its list -/
inductive WS (H Z : Hp) : Addr → Addr → D → List D → Prop
  | mk {p l dx : Addr} {tv : V} {t : D} {vs : List V} {ds : List D} : Z p = none → Z l = none → p ≠ l → H p = some (.ins Cfg.wc dx [("term", tv), ("taken", .ref l)]) → Rep Z tv t → H l = some (.lst vs) → Reps Z vs ds → WS H Z p l t ds
inductive Hold (P : Program) (w : World) (H Z : Hp) : V → D → Md → Prop
  | fr {v : V} {d : D} : Rep Z v d → Hold P w H Z v d .fr
  | owl {p : Addr} {vs : List V} {ds : List D} : Z p = none → H p = some (.lst vs) → Reps Z vs ds → Hold P w H Z (.ref p) (.list ds) .ow
  | owd {p : Addr} {kvs : List (Key × V)} {es : List (D × D)} : Z p = none → H p = some (.dK kvs) → RepKs Z kvs es → Hold P w H Z (.ref p) (.dict es) .ow
  | on {p : Addr} {xs : List (NestedKey × Addr × Value)} {es : List (D × D)} : Z p = none → H p = some (.ext (phiN P w p xs)) → (p == sysModules) = false → (xs.map (·.1)).Nodup → RepNs Z xs es → Hold P w H Z (.ref p) (.dict es) .on
  | ob {p l : Addr} {t : D} {ds : List D} : WS H Z p l t ds → Hold P w H Z (.ref p) (.tuple [t, .list ds]) .on
/-- it is no object of the program's own -/
def NoOb (d : D) (m : Md) : Prop := ∀ xs, d = .tuple xs → m ≠ .on
theorem noOb_of {d : D} {m : Md} (h : m ≠ .on) : NoOb d m := fun _ _ => h
end
section
variable [Cfg] {P : Program} {w : World} {H H' Z Z' : Hp} {v : V} {d : D} {m : Md} {b : Addr}
theorem obLst_one {p : Addr} {o : HO} (h : H p = some o) (ho : ∀ C dx fs, o ≠ .ins C dx fs) : ¬ obLst H p b := fun ⟨C, dx, fs, e, _⟩ => by
  rw [h] at e; cases e; exact ho _ _ _ rfl
omit [Cfg] in
theorem lk_taken (tv u : V) : List.lookup ("taken" : Str) [(("term" : Str), tv), (("taken" : Str), u)] = some u := by
  have h : (("taken" : Str) == ("term" : Str)) = false := by decide +kernel
  have h2 : (("taken" : Str) == ("taken" : Str)) = true := by decide +kernel
  rw [List.lookup_cons, h, List.lookup_cons, h2]
omit [Cfg] in
theorem lk_term (tv u : V) : List.lookup ("term" : Str) [(("term" : Str), tv), (("taken" : Str), u)] = some tv := by
  have h : (("term" : Str) == ("term" : Str)) = true := by decide +kernel
  rw [List.lookup_cons, h]
theorem WS.lst_of {p l : Addr} {t : D} {ds : List D} (h : WS H Z p l t ds) : obLst H p b ↔ b = l := by
  cases h with
  | mk a c n e r el rs =>
    constructor
    · rintro ⟨C, dx, fs, e2, lk⟩
      rw [e] at e2
      cases e2
      rw [lk_taken] at lk
      cases lk; rfl
    · rintro rfl
      exact ⟨_, _, _, e, lk_taken _ _⟩
/-- what it has for itself is not shared, and there -/
theorem Hold.adr (h : Hold P w H Z v d m) (a : Adr H v m b) : Z b = none ∧ ∃ o, H b = some o := by
  obtain ⟨hm, a⟩ := a
  cases h with
  | fr _ => exact absurd rfl hm
  | owl z e _ =>
    rcases a with a | ⟨p, a, a2⟩
    · cases a; exact ⟨z, _, e⟩
    · cases a; exact absurd a2 (obLst_one e (by intro _ _ _ z; cases z))
  | owd z e _ =>
    rcases a with a | ⟨p, a, a2⟩
    · cases a; exact ⟨z, _, e⟩
    · cases a; exact absurd a2 (obLst_one e (by intro _ _ _ z; cases z))
  | on z e _ _ _ =>
    rcases a with a | ⟨p, a, a2⟩
    · cases a; exact ⟨z, _, e⟩
    · cases a; exact absurd a2 (obLst_one e (by intro _ _ _ z; cases z))
  | ob ws =>
    rcases a with a | ⟨p, a, a2⟩
    · cases a; cases ws with | mk z1 z2 n e r el rs => exact ⟨z1, _, e⟩
    · cases a
      have := ws.lst_of.mp a2
      subst this
      cases ws with | mk z1 z2 n e r el rs => exact ⟨z2, _, el⟩
/-- what is not shared stands at an address that is not in Z -/
theorem Hold.at (h : Hold P w H Z v d m) (hm : m ≠ .fr) : ∃ p o, v = .ref p ∧ Z p = none ∧ H p = some o := by
  cases h with
  | fr _ => exact absurd rfl hm
  | owl a b _ => exact ⟨_, _, rfl, a, b⟩
  | owd a b _ => exact ⟨_, _, rfl, a, b⟩
  | on a b _ _ _ => exact ⟨_, _, rfl, a, b⟩
  | ob ws => cases ws with | mk z1 z2 n e r el rs => exact ⟨_, _, rfl, z1, e⟩
theorem Hold.step (h : Hold P w H Z v d m) (hz : Same Z Z') (hk : ∀ b, Adr H v m b → Z' b = none ∧ H' b = H b) : Hold P w H' Z' v d m := by
  cases h with
  | fr r => exact .fr (r.up hz)
  | owl a b c => obtain ⟨q1, q2⟩ := hk _ ⟨by decide, .inl rfl⟩; exact .owl q1 (q2.trans b) (c.up hz)
  | owd a b c => obtain ⟨q1, q2⟩ := hk _ ⟨by decide, .inl rfl⟩; exact .owd q1 (q2.trans b) (c.up hz)
  | on a b c n e => obtain ⟨q1, q2⟩ := hk _ ⟨by decide, .inl rfl⟩; exact .on q1 (q2.trans b) c n (e.up hz)
  | ob ws =>
    obtain ⟨q1, q2⟩ := hk _ ⟨by decide, .inl rfl⟩
    obtain ⟨q3, q4⟩ := hk _ ⟨by decide, .inr ⟨_, rfl, ws.lst_of.mpr rfl⟩⟩
    cases ws with | mk z1 z2 n e r el rs => exact .ob (.mk q1 q3 n (q2.trans e) (r.up hz) (q4.trans el) (rs.up hz))
theorem Adr.back (a : Adr H' v m b) (hk : ∀ p, v = .ref p → m ≠ .fr → H' p = H p) : Adr H v m b := by
  obtain ⟨hm, a⟩ := a
  refine ⟨hm, a.imp_right fun ⟨p, e, C, dx, fs, e1, e2⟩ => ⟨p, e, C, dx, fs, by rw [← hk p e hm]; exact e1, e2⟩⟩
/-- a list, however it is held -/
theorem Hold.list {xs : List D} (h : Hold P w H Z v (.list xs) m) (hz : Same Z H) : ∃ a vs, v = .ref a ∧ Rd H a (.lst vs) ∧ Reps Z vs xs := by
  cases h with
  | fr r => cases r with | lst a b => exact ⟨_, _, rfl, Rd.same hz a, b⟩
  | owl a b c => exact ⟨_, _, rfl, .inl b, c⟩
theorem Hold.tuple {xs : List D} (h : Hold P w H Z v (.tuple xs) m) (hz : Same Z H) (hm : NoOb (.tuple xs) m) : ∃ a vs, v = .ref a ∧ H a = some (.tup vs) ∧ Z a = some (.tup vs) ∧ Reps Z vs xs := by
  cases h with
  | fr r => cases r with | tup a b => exact ⟨_, _, rfl, hz _ _ a, a, b⟩
  | ob ws => exact absurd rfl (hm _ rfl)
theorem Hold.int {i : Int} (h : Hold P w H Z v (.int i) m) : v = .int i := by
  cases h with | fr r => cases r; rfl
theorem Hold.bool {b : Bool} (h : Hold P w H Z v (.bool b) m) : v = .bl b := by
  cases h with | fr r => cases r; rfl
theorem Hold.str {x : Str} (h : Hold P w H Z v (.str x) m) : v = .str x := by
  cases h with | fr r => cases r; rfl
theorem Hold.none (h : Hold P w H Z v .none m) : v = .non := by
  cases h with | fr r => cases r; rfl
/-- a dict whose keys are ints -/
theorem Hold.dict {es : List (D × D)} (h : Hold P w H Z v (.dict es) m) (hz : Same Z H) (hm : m ≠ .on) : ∃ a kvs, v = .ref a ∧ H a = some (.dK kvs) ∧ RepKs Z kvs es := by
  cases h with
  | fr r => cases r with | dic a b => exact ⟨_, _, rfl, hz _ _ a, b⟩
  | owd a b c => exact ⟨_, _, rfl, b, c⟩
  | on _ _ _ _ _ => exact absurd rfl hm
/-- as the layer's == reads it -/
theorem Hold.dp {K : PySem.W.Frag} (h : Hold P w H Z v d m) (hz : Same Z H) (hm : NoOb d m) (c : d.canLay0 = true) : Dp K H v d := by
  cases h with
  | fr r => exact Rep.dp hz _ _ c r
  | owl a b e => exact .lst (.inl (.inl b)) (Reps.dp hz _ _ (by simpa [PyData.canLay0] using c) e)
  | owd a b e => simp [PyData.canLay0] at c
  | on a b _ _ e => simp [PyData.canLay0] at c
  | ob ws => exact absurd rfl (hm _ rfl)
end

/-! ### the state -/
structure SR [Cfg] [Fix] (P : Program) (w : World) (H0 Z0 : Hp) (g : Sg) (σ : St) (H Z : Hp) : Prop where
  zh : Same Z H
  z0 : Same Z0 Z
  old : ∀ b, H0 b ≠ none → Z b = Z0 b
  keep : Same H0 H
  len : g.length = σ.length
  sl : ∀ (i : Nat) (d : D) (m : Md), g[i]? = some (some (d, m)) → ∃ v, σ[i]? = some (some v) ∧ Hold P w H Z v d m
  own : ∀ (i : Nat) (d : D) (m : Md) (v : V) (b : Addr), g[i]? = some (some (d, m)) → σ[i]? = some (some v) → Adr H v m b → H0 b = none
  inj : ∀ (i j : Nat) (d d' : D) (m m' : Md) (v v' : V) (b : Addr), g[i]? = some (some (d, m)) → g[j]? = some (some (d', m')) → σ[i]? = some (some v) → σ[j]? = some (some v') → Adr H v m b → Adr H v' m' b → i = j
  fix : ∀ (p : Addr) (xs : List D) (v : V), Fix.fx = some p → g[0]? = some (some (.tuple xs, .on)) → σ[0]? = some (some v) → v = .ref p
/-- a value that has come: held, new and no slot's own where it is not shared -/
structure Out [Cfg] (P : Program) (w : World) (H0 : Hp) (g : Sg) (σ : St) (H Z : Hp) (v : V) (d : D) (m : Md) : Prop where
  hold : Hold P w H Z v d m
  new : ∀ b, Adr H v m b → H0 b = none ∧ ∀ (j : Nat) (d' : D) (m' : Md) (v' : V), g[j]? = some (some (d', m')) → σ[j]? = some (some v') → ¬ Adr H v' m' b
  nob : NoOb d m
section
variable [Cfg] [Fix] {P : Program} {w : World} {H0 Z0 H H' Z Z' : Hp} {g : Sg} {σ : St} {v : V} {d : D} {m : Md} {p : Addr} {o : HO}
theorem Out.fr (h : Rep Z v d) : Out P w H0 g σ H Z v d .fr := ⟨.fr h, fun _ z => absurd rfl z.1, noOb_of (by decide)⟩
/-- what stood stays, new things may be shared -/
structure Tr (H Z H' Z' : Hp) : Prop where
  hh : Same H H'
  zz : Same Z Z'
  zh : Same Z' H'
  old : ∀ b, H b ≠ none → Z' b = Z b
omit [Cfg] [Fix] in
theorem Tr.refl (h : Same Z H) : Tr H Z H Z := ⟨Same.refl _, Same.refl _, h, fun _ _ => rfl⟩
omit [Cfg] [Fix] in
theorem Tr.trans {H2 Z2 : Hp} (a : Tr H Z H' Z') (b : Tr H' Z' H2 Z2) : Tr H Z H2 Z2 := by
  refine ⟨a.hh.trans b.hh, a.zz.trans b.zz, b.zh, fun c hc => ?_⟩
  have : H' c ≠ none := by
    cases q : H c with
    | none => exact absurd q hc
    | some o => rw [a.hh c o q]; exact fun z => by cases z
  rw [b.old c this, a.old c hc]
theorem Hold.tr (h : Hold P w H Z v d m) (t : Tr H Z H' Z') : Hold P w H' Z' v d m := by
  refine h.step t.zz fun b a => ?_
  obtain ⟨hz, o, ho⟩ := h.adr a
  refine ⟨by rw [t.old b (by rw [ho]; exact fun z => by cases z)]; exact hz, by rw [ho]; exact t.hh _ _ ho⟩
/-- .. has the same for itself as before -/
theorem Hold.adr_tr {b : Addr} (h : Hold P w H Z v d m) (hh : Same H H') (a : Adr H' v m b) : Adr H v m b := a.back fun p e hm => by
  obtain ⟨p', o, e', _, ho⟩ := h.at hm
  rw [e] at e'; cases e'
  rw [ho]; exact hh _ _ ho
theorem SR.tr (s : SR P w H0 Z0 g σ H Z) (t : Tr H Z H' Z') : SR P w H0 Z0 g σ H' Z' := by
  have back : ∀ (i : Nat) (d : D) (m : Md) (v : V) (b : Addr), g[i]? = some (some (d, m)) → σ[i]? = some (some v) → Adr H' v m b → Adr H v m b := fun i d m v b e hv a => by
    obtain ⟨v', hv', h⟩ := s.sl i d m e
    rw [hv] at hv'; cases hv'
    exact h.adr_tr t.hh a
  refine ⟨t.zh, s.z0.trans t.zz, fun b hb => ?_, s.keep.trans t.hh, s.len, fun i d m e => ?_, fun i d m v b e hv a => s.own i d m v b e hv (back i d m v b e hv a),
    fun i j d d' m m' v v' b e e' hv hv' a a' => s.inj i j d d' m m' v v' b e e' hv hv' (back i d m v b e hv a) (back j d' m' v' b e' hv' a'), s.fix⟩
  · have : H b ≠ none := by
      cases q : H0 b with
      | none => exact absurd q hb
      | some o => rw [s.keep b o q]; exact fun z => by cases z
    rw [t.old b this, s.old b hb]
  · obtain ⟨v, hv, h⟩ := s.sl i d m e
    exact ⟨v, hv, h.tr t⟩
theorem Out.tr (h : Out P w H0 g σ H Z v d m) (s : SR P w H0 Z0 g σ H Z) (t : Tr H Z H' Z') : Out P w H0 g σ H' Z' v d m := by
  refine ⟨h.hold.tr t, fun b a => ?_, h.nob⟩
  obtain ⟨h1, h2⟩ := h.new b (h.hold.adr_tr t.hh a)
  refine ⟨h1, fun j d' m' v' e hv a' => ?_⟩
  obtain ⟨v2, hv2, hh⟩ := s.sl j d' m' e
  rw [hv] at hv2; cases hv2
  exact h2 j d' m' v' e hv (hh.adr_tr t.hh a')
/-- a new object that no one looks at -/
theorem Tr.laid (hz : Same Z H) (hp : H p = none) : Tr H Z (upd H p o) Z := by
  have s1 : Same H (upd H p o) := fun b u q => by rw [upd_ne (ne_of_none q hp)]; exact q
  exact ⟨s1, Same.refl _, hz.trans s1, fun _ _ => rfl⟩
omit [Cfg] [Fix] in
theorem zfree (hz : Same Z H) (hp : H p = none) : Z p = none := Same.free hz hp
/-- .. that is shared from the start -/
theorem Tr.laidZ (hz : Same Z H) (hp : H p = none) : Tr H Z (upd H p o) (upd Z p o) := by
  have s1 : Same H (upd H p o) := fun b u q => by rw [upd_ne (ne_of_none q hp)]; exact q
  have zp := zfree hz hp
  refine ⟨s1, fun b u q => by rw [upd_ne (ne_of_none q zp)]; exact q, fun b u q => ?_, fun b hb => ?_⟩
  · by_cases e : b = p
    · subst e; rw [upd_same] at q ⊢; exact q
    · rw [upd_ne e] at q; rw [upd_ne e]; exact hz b u q
  · by_cases e : b = p
    · subst e; exact absurd hp hb
    · rw [upd_ne e]
/-- an own thing becomes shared -/
theorem Rep.ofHold (h : Hold P w H Z v d m) (hm : m ≠ .on) (hz : Same Z H) : ∃ Z', Same Z Z' ∧ Same Z' H ∧ Rep Z' v d ∧ (∀ b, (∀ p, v = .ref p → m ≠ .fr → b ≠ p) → Z' b = Z b) := by
  cases h with
  | fr r => exact ⟨Z, Same.refl _, hz, r, fun _ _ => rfl⟩
  | @owl p vs ds a b c =>
    have s1 : Same Z (upd Z p (.lst vs)) := fun b u q => by rw [upd_ne (ne_of_none q a)]; exact q
    refine ⟨upd Z p (.lst vs), s1, fun b' u q => ?_, .lst (.inl upd_same) (c.up s1), fun b' hb => upd_ne (hb p rfl (by decide))⟩
    by_cases e : b' = p
    · subst e; rw [upd_same] at q; cases q; exact b
    · rw [upd_ne e] at q; exact hz b' u q
  | @owd p vs ds a b c =>
    have s1 : Same Z (upd Z p (.dK vs)) := fun b u q => by rw [upd_ne (ne_of_none q a)]; exact q
    refine ⟨upd Z p (.dK vs), s1, fun b' u q => ?_, .dic upd_same (c.up s1), fun b' hb => upd_ne (hb p rfl (by decide))⟩
    by_cases e : b' = p
    · subst e; rw [upd_same] at q; cases q; exact b
    · rw [upd_ne e] at q; exact hz b' u q
  | on _ _ _ _ _ => exact absurd rfl hm
  | ob _ => exact absurd rfl hm
theorem SR.more (s : SR P w H0 Z0 g σ H Z) (zz : Same Z Z') (zh : Same Z' H) (hn : ∀ b, Z' b ≠ Z b → H0 b = none ∧ ∀ (j : Nat) (d' : D) (m' : Md) (v' : V), g[j]? = some (some (d', m')) → σ[j]? = some (some v') → ¬ Adr H v' m' b) : SR P w H0 Z0 g σ H Z' := by
  refine ⟨zh, s.z0.trans zz, fun b hb => ?_, s.keep, s.len, fun i d m e => ?_, s.own, s.inj, s.fix⟩
  · by_cases e : Z' b = Z b
    · rw [e, s.old b hb]
    · exact absurd (hn b e).1 hb
  · obtain ⟨v, hv, h⟩ := s.sl i d m e
    refine ⟨v, hv, h.step zz fun b a => ?_⟩
    obtain ⟨hz, _⟩ := h.adr a
    by_cases e2 : Z' b = Z b
    · exact ⟨by rw [e2, hz], rfl⟩
    · exact absurd a ((hn b e2).2 i d m v e hv)
theorem SR.share (s : SR P w H0 Z0 g σ H Z) (x : Out P w H0 g σ H Z v d m) (hm : m ≠ .on) : ∃ Z', Same Z Z' ∧ SR P w H0 Z0 g σ H Z' ∧ Rep Z' v d := by
  obtain ⟨Z', zz, zh, r, hn⟩ := Rep.ofHold x.hold hm s.zh
  refine ⟨Z', zz, s.more zz zh fun b hb => ?_, r⟩
  have : ¬ ∀ p, v = .ref p → m ≠ .fr → b ≠ p := fun z => hb (hn b z)
  by_cases e : v = .ref b ∧ m ≠ .fr
  · exact x.new b ⟨e.2, .inl e.1⟩
  · refine absurd ?_ this
    intro p e1 e2 e3
    exact e ⟨by rw [e3]; exact e1, e2⟩
/-- slot i is set -/
theorem SR.set' (s : SR P w H0 Z0 g σ H Z) (hold : Hold P w H Z v d m) (new : ∀ b, Adr H v m b → H0 b = none ∧ ∀ (j : Nat) (d' : D) (m' : Md) (v' : V), g[j]? = some (some (d', m')) → σ[j]? = some (some v') → ¬ Adr H v' m' b) (i : Nat) (hfx : i = 0 → NoOb d m) : SR P w H0 Z0 (g.set i (some (d, m))) (σ.set i (some v)) H Z := by
  have hl := s.len
  have get : ∀ (j : Nat) (d' : D) (m' : Md), (g.set i (some (d, m)))[j]? = some (some (d', m')) → (j = i ∧ d' = d ∧ m' = m ∧ (σ.set i (some v))[j]? = some (some v)) ∨ (j ≠ i ∧ g[j]? = some (some (d', m')) ∧ (σ.set i (some v))[j]? = σ[j]?) := by
    intro j d' m' e
    by_cases hj : j = i
    · subst hj
      by_cases hlt : j < g.length
      · rw [List.getElem?_set_self hlt] at e
        cases e
        exact .inl ⟨rfl, rfl, rfl, by rw [List.getElem?_set_self (by omega)]⟩
      · rw [List.getElem?_eq_none (by simpa using hlt)] at e; cases e
    · rw [List.getElem?_set_ne (Ne.symm hj)] at e
      exact .inr ⟨hj, e, by rw [List.getElem?_set_ne (Ne.symm hj)]⟩
  refine ⟨s.zh, s.z0, s.old, s.keep, by simpa using hl, fun j d' m' e => ?_, fun j d' m' u b e hv a => ?_, fun j k d1 d2 m1 m2 u1 u2 b e1 e2 v1 v2 a1 a2 => ?_, fun p xs u hp e hv => ?_⟩
  · rcases get j d' m' e with ⟨rfl, rfl, rfl, h⟩ | ⟨hj, h1, h2⟩
    · exact ⟨v, h, hold⟩
    · obtain ⟨u, hu, hh⟩ := s.sl j d' m' h1
      exact ⟨u, by rw [h2]; exact hu, hh⟩
  · rcases get j d' m' e with ⟨rfl, rfl, rfl, h⟩ | ⟨hj, h1, h2⟩
    · rw [h] at hv; cases hv; exact (new b a).1
    · rw [h2] at hv; exact s.own j d' m' u b h1 hv a
  · rcases get j d1 m1 e1 with ⟨rfl, rfl, rfl, h⟩ | ⟨hj, p1, p2⟩
    · rcases get k d2 m2 e2 with ⟨rfl, _⟩ | ⟨hk, q1, q2⟩
      · rfl
      · rw [h] at v1; cases v1
        rw [q2] at v2
        exact absurd a2 ((new b a1).2 k d2 m2 u2 q1 v2)
    · rcases get k d2 m2 e2 with ⟨rfl, rfl, rfl, h⟩ | ⟨hk, q1, q2⟩
      · rw [h] at v2; cases v2
        rw [p2] at v1
        exact absurd a1 ((new b a2).2 j d1 m1 u1 p1 v1)
      · rw [p2] at v1; rw [q2] at v2
        exact s.inj j k d1 d2 m1 m2 u1 u2 b p1 q1 v1 v2 a1 a2
  · rcases get 0 (.tuple xs) .on e with ⟨h0, hd, hm, h⟩ | ⟨hj, h1, h2⟩
    · exact absurd hm.symm (hfx h0.symm xs hd.symm)
    · rw [h2] at hv; exact s.fix p xs u hp h1 hv
theorem SR.set (s : SR P w H0 Z0 g σ H Z) (x : Out P w H0 g σ H Z v d m) (i : Nat) : SR P w H0 Z0 (g.set i (some (d, m))) (σ.set i (some v)) H Z := s.set' x.hold x.new i fun _ => x.nob
/-- slot i is forgotten -/
theorem SR.drop (s : SR P w H0 Z0 g σ H Z) (g' : Sg) (hl : g'.length = g.length) (hg : ∀ (i : Nat) (d : D) (m : Md), g'[i]? = some (some (d, m)) → g[i]? = some (some (d, m))) : SR P w H0 Z0 g' σ H Z :=
  ⟨s.zh, s.z0, s.old, s.keep, hl.trans s.len, fun i d m e => s.sl i d m (hg i d m e), fun i d m v b e => s.own i d m v b (hg i d m e),
    fun i j d d' m m' v v' b e e' => s.inj i j d d' m m' v v' b (hg i d m e) (hg j d' m' e'), fun p xs v hp e => s.fix p xs v hp (hg 0 _ _ e)⟩
theorem SR.none_at (s : SR P w H0 Z0 g σ H Z) (i : Nat) : SR P w H0 Z0 (g.set i none) σ H Z := s.drop _ (by simp) fun j d' m' q => by
  by_cases hj : j = i
  · subst hj
    by_cases hi : j < g.length
    · rw [List.getElem?_set_self hi] at q; cases q
    · rw [List.getElem?_eq_none (by simpa using hi)] at q; cases q
  · rw [List.getElem?_set_ne (Ne.symm hj)] at q; exact q
/-- what slot i holds, the slot forgotten -/
theorem SR.take (s : SR P w H0 Z0 g σ H Z) {i : Nat} (e : g[i]? = some (some (d, m))) (hv : σ[i]? = some (some v)) (h : Hold P w H Z v d m) (hm : m ≠ .on) : Out P w H0 (g.set i none) σ H Z v d m := by
  have hi : i < g.length := (List.getElem?_eq_some_iff.mp e).1
  refine ⟨h, fun b a => ⟨s.own i d m v b e hv a, fun j d' m' v' q hj a' => ?_⟩, noOb_of hm⟩
  by_cases hji : j = i
  · subst hji; rw [List.getElem?_set_self hi] at q; cases q
  · rw [List.getElem?_set_ne (Ne.symm hji)] at q
    exact hji (s.inj j i d' d m' m v' v b q e hj hv a' a)
omit [Cfg] [Fix] in
theorem isObj_of (h : isObj (d, m) = true) : ∃ xs, d = .tuple xs ∧ m = .on := by
  cases m <;> first | (cases d <;> first | exact ⟨_, rfl, rfl⟩ | cases h) | cases h
/-- slot i's own thing becomes shared -/
theorem SR.use (s : SR P w H0 Z0 g σ H Z) {i : Nat} (e : g[i]? = some (some (d, m))) (hm : m ≠ .on) : ∃ v Z', σ[i]? = some (some v) ∧ Same Z Z' ∧ SR P w H0 Z0 (g.set i (some (d, .fr))) σ H Z' ∧ Rep Z' v d := by
  obtain ⟨v, hv, h⟩ := s.sl i d m e
  have hi : i < g.length := (List.getElem?_eq_some_iff.mp e).1
  obtain ⟨Z', zz, s2, r⟩ := (s.none_at i).share (s.take e hv h hm) hm
  refine ⟨v, Z', hv, zz, ?_, r⟩
  have s3 := s2.set (Out.fr (P := P) (w := w) (H0 := H0) (g := g.set i none) (σ := σ) (H := H) r) i
  rw [List.set_set] at s3
  have : σ.set i (some v) = σ := by
    apply List.ext_getElem?
    intro j
    by_cases hj : i = j
    · subst hj; rw [List.getElem?_set_self (by rw [← s.len]; exact hi), hv]
    · rw [List.getElem?_set_ne hj]
  rw [this] at s3
  exact s3
/-- what slot i holds is changed: at its own addresses alone -/
theorem SR.chg (s : SR P w H0 Z0 g σ H Z) {i : Nat} {d' : D} {m' : Md} (e : g[i]? = some (some (d, m))) (hv : σ[i]? = some (some v)) (hh : ∀ b u, H b = some u → ¬ Adr H v m b → H' b = some u) (zz : Same Z Z') (zh : Same Z' H') (old : ∀ b, H b ≠ none → ¬ Adr H v m b → Z' b = Z b)
    (new : Hold P w H' Z' v d' m') (adr : ∀ b, Adr H' v m' b → Adr H v m b ∨ H b = none) (hob : NoOb d' m' ∨ isObj (d, m) = true) : SR P w H0 Z0 (g.set i (some (d', m'))) σ H' Z' := by
  have hi : i < g.length := (List.getElem?_eq_some_iff.mp e).1
  have h0 : ∀ b, H0 b ≠ none → ¬ Adr H v m b := fun b hb a => hb (s.own i d m v b e hv a)
  have get : ∀ (j : Nat) (d1 : D) (m1 : Md), (g.set i (some (d', m')))[j]? = some (some (d1, m1)) → (j = i ∧ d1 = d' ∧ m1 = m') ∨ (j ≠ i ∧ g[j]? = some (some (d1, m1))) := by
    intro j d1 m1 q
    by_cases hj : j = i
    · subst hj; rw [List.getElem?_set_self hi] at q; cases q; exact .inl ⟨rfl, rfl, rfl⟩
    · rw [List.getElem?_set_ne (Ne.symm hj)] at q; exact .inr ⟨hj, q⟩
  -- another slot's own addresses are not touched
  have far : ∀ (j : Nat) (d1 : D) (m1 : Md) (u : V) (b : Addr), j ≠ i → g[j]? = some (some (d1, m1)) → σ[j]? = some (some u) → Adr H u m1 b → ¬ Adr H v m b := fun j d1 m1 u b hj q hu a a' => hj (s.inj j i d1 d m1 m u v b q e hu hv a a')
  have same : ∀ (j : Nat) (d1 : D) (m1 : Md) (u : V) (b : Addr), j ≠ i → g[j]? = some (some (d1, m1)) → σ[j]? = some (some u) → Adr H u m1 b → H' b = H b := fun j d1 m1 u b hj q hu a => by
    obtain ⟨u', hu', h⟩ := s.sl j d1 m1 q
    rw [hu] at hu'; cases hu'
    obtain ⟨_, o, ho⟩ := h.adr a
    rw [ho]; exact hh b o ho (far j d1 m1 u b hj q hu a)
  have back : ∀ (j : Nat) (d1 : D) (m1 : Md) (u : V) (b : Addr), j ≠ i → g[j]? = some (some (d1, m1)) → σ[j]? = some (some u) → Adr H' u m1 b → Adr H u m1 b := fun j d1 m1 u b hj q hu a => a.back fun p ep hm => same j d1 m1 u p hj q hu ⟨hm, .inl ep⟩
  refine ⟨zh, s.z0.trans zz, fun b hb => ?_, fun b u q => ?_, by simpa using s.len, fun j d1 m1 q => ?_, fun j d1 m1 u b q hu a => ?_, fun j k d1 d2 m1 m2 u1 u2 b q1 q2 v1 v2 a1 a2 => ?_, fun p xs u hp q hu => ?_⟩
  · have hH : H b ≠ none := by
      cases q : H0 b with
      | none => exact absurd q hb
      | some o => rw [s.keep b o q]; exact fun z => by cases z
    rw [old b hH (h0 b hb), s.old b hb]
  · exact hh b u (s.keep b u q) (h0 b (by rw [q]; exact fun z => by cases z))
  · rcases get j d1 m1 q with ⟨rfl, rfl, rfl⟩ | ⟨hj, q⟩
    · exact ⟨v, hv, new⟩
    · obtain ⟨u, hu, h⟩ := s.sl j d1 m1 q
      refine ⟨u, hu, h.step zz fun b a => ⟨?_, same j d1 m1 u b hj q hu a⟩⟩
      obtain ⟨hz1, o, ho⟩ := h.adr a
      rw [old b (by rw [ho]; exact fun z => by cases z) (far j d1 m1 u b hj q hu a)]; exact hz1
  · rcases get j d1 m1 q with ⟨rfl, rfl, rfl⟩ | ⟨hj, q⟩
    · rw [hv] at hu; cases hu
      rcases adr b a with a | a
      · exact s.own j d m v b e hv a
      · exact Same.free s.keep a
    · exact s.own j d1 m1 u b q hu (back j d1 m1 u b hj q hu a)
  · rcases get j d1 m1 q1 with ⟨ej, ed, em⟩ | ⟨hj, p1⟩
    · rw [ej] at v1 ⊢
      rw [hv] at v1; cases v1
      rw [em] at a1
      rcases get k d2 m2 q2 with ⟨ek, _⟩ | ⟨hk, p2⟩
      · exact ek.symm
      · have a2' := back k d2 m2 u2 b hk p2 v2 a2
        rcases adr b a1 with a1 | a1
        · exact s.inj i k d d2 m m2 v u2 b e p2 hv v2 a1 a2'
        · obtain ⟨u3, hu3, h3⟩ := s.sl k d2 m2 p2
          rw [v2] at hu3; cases hu3
          obtain ⟨_, o, ho⟩ := h3.adr a2'
          rw [a1] at ho; cases ho
    · rcases get k d2 m2 q2 with ⟨ek, ed, em⟩ | ⟨hk, p2⟩
      · rw [ek] at v2 ⊢
        rw [hv] at v2; cases v2
        rw [em] at a2
        have a1' := back j d1 m1 u1 b hj p1 v1 a1
        rcases adr b a2 with a2 | a2
        · exact s.inj j i d1 d m1 m u1 v b p1 e v1 hv a1' a2
        · obtain ⟨u3, hu3, h3⟩ := s.sl j d1 m1 p1
          rw [v1] at hu3; cases hu3
          obtain ⟨_, o, ho⟩ := h3.adr a1'
          rw [a2] at ho; cases ho
      · exact s.inj j k d1 d2 m1 m2 u1 u2 b p1 p2 v1 v2 (back j d1 m1 u1 b hj p1 v1 a1) (back k d2 m2 u2 b hk p2 v2 a2)
  · rcases get 0 (.tuple xs) .on q with ⟨h0, hd, hm⟩ | ⟨hj, q⟩
    · rcases hob with hob | hob
      · exact absurd hm.symm (hob xs hd.symm)
      · subst h0
        obtain ⟨ys, rfl, rfl⟩ := isObj_of hob
        exact s.fix p ys u hp e hu
    · exact s.fix p xs u hp q hu
theorem adr_own {p b : Addr} (h : H p = some o) (ho : ∀ C dx fs, o ≠ .ins C dx fs) (a : Adr H (.ref p) m b) : b = p := by
  rcases a.2 with e | ⟨q, e, l⟩
  · cases e; rfl
  · cases e; exact absurd l (obLst_one h ho)
/-- the own thing of slot i, a list or a dict, is changed -/
theorem SR.mut (s : SR P w H0 Z0 g σ H Z) {i : Nat} {d' : D} (e : g[i]? = some (some (d, m))) (hm : m ≠ .fr) (hv : σ[i]? = some (some (.ref p))) (ho : H p ≠ none) (new : Hold P w (upd H p o) Z (.ref p) d' m) (hno : ∀ C dx fs, o ≠ .ins C dx fs := by intro _ _ _ z; cases z) (hob : NoOb d' m := by intro _ z _; cases z) : SR P w H0 Z0 (g.set i (some (d', m))) σ (upd H p o) Z := by
  have ap : Adr H (.ref p) m p := ⟨hm, .inl rfl⟩
  have zp : Z p = none := by
    obtain ⟨v, hv', h⟩ := s.sl i d m e
    rw [hv] at hv'; cases hv'
    exact (h.adr ap).1
  refine s.chg e hv (fun b u q na => ?_) (Same.refl _) (fun b u q => ?_) (fun _ _ _ => rfl) new (fun b a => ?_) (.inl hob)
  · rw [upd_ne (fun z => na (by rw [z]; exact ap))]; exact q
  · rw [upd_ne (ne_of_none q zp)]; exact s.zh b u q
  · rw [adr_own upd_same hno a]; exact .inl ap
end
end DL

set_option Elab.async false
set_option linter.all false
set_option maxRecDepth 100000
/-! D3: which text of the model's a small text stands for. -/
namespace DL
open PySem L2

def isStar : Expr → Bool
  | .Starred _ _ => true
  | _ => false
theorem star_no {e : Expr} {es : List Expr} {env : Env} (h : isStar e = false) : starEach (e :: es) env = (false, eval e env) :: starEach es env := by
  cases e <;> first | rfl | cases h
def isSetE : Expr → Bool
  | .Set _ _ _ => true
  | .SetComp _ _ _ _ => true
  | _ => false
theorem set_no {e : Expr} {env : Env} (h : isSetE e = false) : ∀ x, foldedSetIterable e env x = pure x := by
  intro x
  cases e <;> first | rfl | cases h
def isSlice : Expr → Bool
  | .Slice _ _ _ _ => true
  | .Tuple _ _ _ => true
  | .List _ _ => true
  | _ => false
theorem plain_ix {e : Expr} (h : isSlice e = false) : PlainIx e := by
  intro o i
  cases e <;> first | rfl | cases h
def isTst : Expr → Bool
  | .BoolOp _ _ _ => true
  | .UnaryOp .Not _ _ => true
  | .Compare _ _ _ _ => true
  | .IfExp _ _ _ _ => true
  | .NamedExpr _ _ _ => true
  | _ => false
theorem plain_tst {e : Expr} {env : Env} (h : isTst e = false) : ∀ whole, isTrue e env whole = (do let v ← whole; standAt e.pos; holding [v] (truthy v)) := by
  intro w
  cases e <;> first
    | rfl
    | (rename_i op _ _; cases op <;> first | rfl | cases h)
    | cases h
def isComp : Expr → Bool
  | .ListComp _ _ _ _ => true
  | .SetComp _ _ _ _ => true
  | .DictComp _ _ _ _ _ => true
  | _ => false
theorem swaps_no {e : Expr} {t : Option Expr} {l : Nat} {env : Env} (h : isComp e = false) : swapsWith e t l env = pure false := by
  cases e <;> first | rfl | cases h
/-- the methods of Walker: the name, the name in the table -/
def mths : List (Str × Str) := [("take", "Walker.take"), ("word_at", "Walker.word_at"), ("settle", "Walker.settle"), ("comb", "Walker.comb"), ("order", "Walker.order"), ("exchange", "Walker.exchange")]
def isM (f : Str) : Bool := decide (f = "Walker.__init__") || mths.any fun p => decide (p.2 = f)
def hasM (FN : List Str) : Bool := FN.contains "Walker.__init__"
def fnB (FN : List Str) (f : Str) : Bool := FN.contains f && !isM f
/-! ### the check -/
def visB (sc : Scope) (x : Str) : Bool := match sc.names.lookup x with
  | some .local => true
  | some .cell => true
  | some .free => true
  | _ => false
theorem vis_of {sc : Scope} {x : Str} (h : visB sc x = true) : Vis sc x := by
  unfold visB at h
  split at h <;> first | exact .inl (by assumption) | exact .inr (.inl (by assumption)) | exact .inr (.inr (by assumption)) | cases h
def gloB (sc : Scope) (x : Str) : Bool := (match sc.names.lookup x with
  | some .globalImplicit => true
  | _ => false) && !(x == ("__debug__" : Str)) && !(x == ("__name__" : Str))
theorem glo_of {sc : Scope} {x : Str} (h : gloB sc x = true) : sc.names.lookup x = some .globalImplicit ∧ (x == ("__debug__" : Str)) = false ∧ x ≠ ("__name__" : Str) := by
  unfold gloB at h
  simp only [Bool.and_eq_true, Bool.not_eq_true'] at h
  obtain ⟨⟨h1, h2⟩, h3⟩ := h
  refine ⟨?_, h2, fun e => by subst e; simp at h3⟩
  split at h1 <;> first | assumption | cases h1
def okN (x : Str) : Bool := !(x == ("__debug__" : Str)) && !(x == ("__classdict__" : Str))
theorem okN_of {x : Str} (h : okN x = true) : (x == ("__debug__" : Str)) = false ∧ (x == ("__classdict__" : Str)) = false := by
  unfold okN at h
  simpa using h
def locB (sc : Scope) (x : Str) : Bool := match sc.names.lookup x with
  | some .local => true
  | some .cell => true
  | _ => false
theorem loc_of {sc : Scope} {x : Str} (h : locB sc x = true) : Loc sc x := by
  unfold locB at h
  split at h <;> first | exact .inl (by assumption) | exact .inr (by assumption) | cases h
/-- a call of a name without keywords -/
def callOf : Expr → Option (Str × List Expr)
  | .Call (.Name x _) args [] _ => some (x, args)
  | _ => none
theorem callOf_eq {e : Expr} {x : Str} {args : List Expr} (h : callOf e = some (x, args)) : ∃ p pos, e = .Call (.Name x p) args [] pos := by
  unfold callOf at h
  split at h
  · cases h; exact ⟨_, _, rfl⟩
  · cases h
/-- a call of a name's method, the dot on the call's last line -/
def methOf : Expr → Option (Str × Str × List Expr)
  | .Call (.Attribute (.Name x _) m apos) args [] cpos => if (apos.endLine == cpos.line) = true then some (x, m, args) else none
  | _ => none
theorem methOf_eq {e : Expr} {x m : Str} {args : List Expr} (h : methOf e = some (x, m, args)) : ∃ p apos cpos, e = .Call (.Attribute (.Name x p) m apos) args [] cpos ∧ (apos.endLine == cpos.line) = true := by
  unfold methOf at h
  split at h
  · split at h
    · cases h; exact ⟨_, _, _, rfl, by assumption⟩
    · cases h
  · cases h
def call1 (sc : Scope) (nm : Str) (e : Expr) : Option Expr := match callOf e with
  | some (x, [a]) => if x = nm ∧ gloB sc x = true ∧ isStar a = false then some a else none
  | _ => none
theorem call1_eq {sc : Scope} {nm : Str} {e a : Expr} (h : call1 sc nm e = some a) : (∃ p pos, e = .Call (.Name nm p) [a] [] pos) ∧ gloB sc nm = true ∧ isStar a = false := by
  unfold call1 at h
  split at h
  · rename_i x a' q
    split at h
    · rename_i c
      cases h
      obtain ⟨rfl, c2, c3⟩ := c
      exact ⟨callOf_eq q, c2, c3⟩
    · cases h
  · cases h
def call2 (sc : Scope) (nm : Str) (e : Expr) : Option (Expr × Expr) := match callOf e with
  | some (x, [a, b]) => if x = nm ∧ gloB sc x = true ∧ isStar a = false ∧ isStar b = false then some (a, b) else none
  | _ => none
theorem call2_eq {sc : Scope} {nm : Str} {e a b : Expr} (h : call2 sc nm e = some (a, b)) : (∃ p pos, e = .Call (.Name nm p) [a, b] [] pos) ∧ gloB sc nm = true ∧ isStar a = false ∧ isStar b = false := by
  unfold call2 at h
  split at h
  · rename_i x a' b' q
    split at h
    · rename_i c
      cases h
      obtain ⟨rfl, c2, c3, c4⟩ := c
      exact ⟨callOf_eq q, c2, c3, c4⟩
    · cases h
  · cases h
def opB : B2 → Operator → Bool
  | .add, .Add => true
  | .sub, .Sub => true
  | .mul, .Mult => true
  | .fdiv, .FloorDiv => true
  | .mod, .Mod => true
  | .pow, .Pow => true
  | _, _ => false
def opC : C2 → CmpOp → Bool
  | .eq, .Eq => true
  | .ne, .NotEq => true
  | .lt, .Lt => true
  | .le, .LtE => true
  | .gt, .Gt => true
  | .ge, .GtE => true
  | .isn, .Is => true
  | .notn, .IsNot => true
  | .in_, .In => true
  | .nin, .NotIn => true
  | _, _ => false
def isNon : E → Bool
  | .non => true
  | _ => false
def isNilE : E → Bool
  | .nil => true
  | _ => false
def tyName : Ty → Str
  | .int => "int"
  | .bool => "bool"
  | .str => "str"
  | .tuple => "tuple"
  | .list => "list"
  | .dict => "dict"
def nameIs : Expr → Option Str
  | .Name x _ => some x
  | _ => none
def noneConst : Expr → Bool
  | .Constant .none _ _ => true
  | _ => false
/-- a test that is no conditional expression -/
def tstOk (x : Expr) : Bool := !isTst x || (match x with | .IfExp _ _ _ _ => false | .NamedExpr _ _ _ => false | _ => true)
/-- a display of texts by texts -/
def chkKV : List (Str × Str) → List (Option Expr) → List Expr → Bool
  | [], [], [] => true
  | (a, b) :: r, some (.Constant (.str x) _ _) :: ks, .Constant (.str y) _ _ :: vs => decide (x = a) && decide (y = b) && chkKV r ks vs
  | _, _, _ => false
mutual
/-- the text pe of the model is the small text e (b: where something is walked) -/
def chk (FN N : List Str) : E → Bool → Scope → Expr → Bool
  | .var i, _, sc, pe => match pe with | .Name x _ => decide (N[i]? = some x) && visB sc x && okN x | _ => false
  | .int i, _, _, pe => match pe with
    | .Constant (.int j) _ _ => decide (i = j)
    | .UnaryOp .USub (.Constant (.int j) _ _) _ => decide (i = -j)
    | _ => false
  | .str x, _, _, pe => match pe with | .Constant (.str y) _ _ => decide (x = y) | _ => false
  | .bl c, _, _, pe => match pe with | .Constant (.bool d) _ _ => decide (c = d) | _ => false
  | .non, _, _, pe => match pe with | .Constant .none _ _ => true | _ => false
  | .glob x, _, sc, pe => match pe with | .Name y _ => decide (x = y) && gloB sc x | _ => false
  | .tup es, _, sc, pe => match pe with | .Tuple elts _ _ => chkL FN N es sc elts | _ => false
  | .lst es, _, sc, pe => match pe with | .List elts _ => chkL FN N es sc elts | _ => false
  | .dnew n, _, _, pe => match pe with | .Dict [] [] _ => true | _ => false
  | .bin o a b, _, sc, pe => match pe with | .BinOp l op r _ => opB o op && chk FN N a false sc l && chk FN N b false sc r | _ => false
  | .cmp o a b, _, sc, pe => match pe with
    | .Compare l [op] [r] _ => opC o op && chk FN N a false sc l && chk FN N b false sc r && !behindInMarks op r && (match o with | .isn => isNon b | .notn => isNon b | _ => true)
    | _ => false
  | .and_ es, _, sc, pe => match pe with | .BoolOp .And vs _ => chkL FN N es sc vs && !isNilE es && vs.all tstOk | _ => false
  | .or_ es, _, sc, pe => match pe with | .BoolOp .Or vs _ => chkL FN N es sc vs && !isNilE es && vs.all tstOk | _ => false
  | .not_ a, _, sc, pe => match pe with | .UnaryOp .Not x _ => chk FN N a false sc x && tstOk x | _ => false
  | .ite t a b, _, sc, pe => match pe with | .IfExp c x y _ => chk FN N t false sc c && chk FN N a false sc x && chk FN N b false sc y && tstOk c | _ => false
  | .ix a i, _, sc, pe => match pe with | .Subscript x y _ => chk FN N a false sc x && chk FN N i false sc y && !isSlice y | _ => false
  | .sl a lo hi, _, sc, pe => match pe with
    | .Subscript x (.Slice l h none _) _ => chk FN N a false sc x && (match l with | none => isNilE lo | some y => chk FN N lo false sc y && !isNilE lo) && (match h with | none => isNilE hi | some y => chk FN N hi false sc y && !isNilE hi)
    | _ => false
  | .call f es, _, sc, pe => match callOf pe with | some (x, args) => decide (x = f) && fnB FN f && gloB sc x && chkL FN N es sc args && !isNilE es | none => false
  | .len a, _, sc, pe => match call1 sc "len" pe with | some x => chk FN N a false sc x | none => false
  | .list a, _, sc, pe => match call1 sc "list" pe with | some x => chk FN N a false sc x | none => false
  | .tuple a, _, sc, pe => match call1 sc "tuple" pe with | some x => chk FN N a false sc x | none => false
  | .sorted a, _, sc, pe => match call1 sc "sorted" pe with | some x => chk FN N a false sc x | none => false
  | .sortset a, _, sc, pe => match call1 sc "sorted" pe with | some y => (match call1 sc "set" y with | some x => chk FN N a false sc x | none => false) | none => false
  | .dict a, _, sc, pe => match call1 sc "dict" pe with | some x => chk FN N a false sc x | none => false
  | .min a b, _, sc, pe => match call2 sc "min" pe with | some (x, y) => chk FN N a false sc x && chk FN N b false sc y | none => false
  | .max a b, _, sc, pe => match call2 sc "max" pe with | some (x, y) => chk FN N a false sc x && chk FN N b false sc y | none => false
  | .toInt a, _, sc, pe => match call1 sc "int" pe with | some x => chk FN N a false sc x | none => false
  | .isi a t, _, sc, pe => match call2 sc "isinstance" pe with | some (x, y) => chk FN N a false sc x && decide (nameIs y = some (tyName t)) && gloB sc (tyName t) | none => false
  | .dictzip a b, _, sc, pe => match call1 sc "dict" pe with | some y => (match call1 sc "list" y with | some z => (match call2 sc "zip" z with | some (u, v) => chk FN N a false sc u && chk FN N b false sc v | none => false) | none => false) | none => false
  | .nnin i a, _, sc, pe => match pe with | .Compare l [.NotIn] [.Name y p] _ => decide (N[i]? = some y) && visB sc y && okN y && chk FN N a false sc l && !behindInMarks .NotIn (.Name y p) | _ => false
  | .nlist i, _, sc, pe => match call1 sc "list" pe with | some (.Name y _) => decide (N[i]? = some y) && visB sc y && okN y | _ => false
  | .nsorted i, _, sc, pe => match call1 sc "sorted" pe with | some (.Name y _) => decide (N[i]? = some y) && visB sc y && okN y | _ => false
  | .pop i, _, sc, pe => match methOf pe with | some (x, m, []) => decide (m = "pop") && decide (N[i]? = some x) && visB sc x && okN x | _ => false
  | .append i a, _, sc, pe => match methOf pe with | some (x, m, [y]) => decide (m = "append") && decide (N[i]? = some x) && visB sc x && okN x && chk FN N a false sc y && !isStar y | _ => false
  | .extend i a, _, sc, pe => match methOf pe with | some (x, m, [y]) => decide (m = "extend") && decide (N[i]? = some x) && visB sc x && okN x && chk FN N a false sc y && !isStar y | _ => false
  | .clear i, _, sc, pe => match methOf pe with | some (x, m, []) => decide (m = "clear") && decide (N[i]? = some x) && visB sc x && okN x | _ => false
  | .dpop i a, _, sc, pe => match methOf pe with | some (x, m, [y]) => decide (m = "pop") && decide (N[i]? = some x) && visB sc x && okN x && chk FN N a false sc y && !isStar y | _ => false
  | .lc elt i it cond fz, _, sc, pe => match pe with
    | .ListComp pelt [⟨.Name y _, piter, ifs, 0⟩] scope _ => decide (N[i]? = some y) && blkC N sc scope [(y, i)] && decide ((relS scope sc).names.lookup y = some .local) && chk FN N elt false (relS scope sc) pelt && chk FN N it true sc piter && !isSetE piter &&
      (match ifs with | [] => isNilE cond | [c] => chk FN N cond false (relS scope sc) c && !isNilE cond && tstOk c | _ => false)
    | _ => false
  | .range1 a, b, sc, pe => b && (match call1 sc "range" pe with | some x => chk FN N a false sc x | none => false)
  | .range2 x' y', b, sc, pe => b && (match call2 sc "range" pe with | some (x, y) => chk FN N x' false sc x && chk FN N y' false sc y | none => false)
  | .rev a, b, sc, pe => b && (match call1 sc "reversed" pe with | some x => chk FN N a false sc x | none => false)
  | .dpick kvs a, _, sc, pe => match pe with
    | .Subscript (.Dict ks vs _) e _ => chkKV kvs ks vs && !kvs.isEmpty && decide (kvs.length ≤ 15) && !isSlice e && chk FN N a false sc e
    | _ => false
  | .fld i, _, sc, pe => match pe with | .Attribute (.Name x _) f _ => decide (N[i]? = some x) && visB sc x && okN x && decide (f = "term") && hasM FN | _ => false
  | .mcall i m es, _, sc, pe => match pe with
    | .Call (.Attribute (.Name x _) f apos) args [] cpos => (decide (N[i]? = some x) && (apos.endLine == cpos.line) && decide (args.length < 10)) && visB sc x && okN x && decide (mths.lookup f = some m) && FN.contains m && hasM FN && chkL FN N es sc args && !isNilE es
    | _ => false
  | .gnin x a, _, sc, pe => match pe with | .Compare l [.NotIn] [.Name y p] _ => decide (x = y) && gloB sc x && chk FN N a false sc l && !behindInMarks .NotIn (.Name y p) | _ => false
  | .gix x a, _, sc, pe => match pe with | .Subscript (.Name y _) i _ => decide (x = y) && gloB sc x && chk FN N a false sc i && !isSlice i | _ => false
  | .dcmp n a b, _, sc, pe => match pe with | .Compare l [op] [r] _ => (match op with | .Eq => !n | .NotEq => n | _ => false) && chk FN N a false sc l && chk FN N b false sc r && !behindInMarks op r | _ => false
  | .nil, _, _, _ => false
  | .cons _ _, _, _, _ => false
def chkL (FN N : List Str) : E → Scope → List Expr → Bool
  | .nil, _, [] => true
  | .cons a r, sc, x :: xs => chk FN N a false sc x && !isStar x && chkL FN N r sc xs
  | _, _, _ => false
end
end DL

set_option Elab.async false
set_option linter.all false
set_option maxRecDepth 100000
/-! D4: the readings of the small texts, and that they hold: expressions. -/
namespace DL
open PySem L2

/-- the classes of errors: their addresses, which there are -/
structure Cls where
  f : Nat → Value
  on : List Nat
instance : CoeFun Cls (fun _ => Nat → Value) := ⟨Cls.f⟩
def clsName : Nat → Str
  | 0 => "TermError" | 1 => "NoTerm" | 2 => "TooGreat" | 3 => "NoMove" | 4 => "NoFilling" | 5 => "HasOpen" | _ => "NoRule"
structure ClsAt (K : PySem.W.Frag) (mg : Str → Option Value) (cls : Cls) (c : Nat) (C : Addr) : Prop where
  is : cls c = .ref C
  mg : mg (clsName c) = some (.ref C)
  ex : PySem.W.excIn K C [.type "ValueError", .type "Exception", .type "BaseException", .type "object"] "ValueError.__new__" = true
  kp : PySem.W.keepIn K (.ref C) = true
  sub : PySem.W.subIn K (.ref C) (.type "BaseException") = some true
  ty : PySem.W.typeIn K (.ref C) = some (.type "type")
  ec : ExcC K C
  kit : PySem.W.kitOne K (.ref C) (.type "ValueError") = some true
/-- a module's dict of texts -/
structure GDict (w : World) (K : PySem.W.Frag) (mg : Str → Option Value) (x : Str) (es : List (D × D)) (d : Addr) (a : Array DictEntry) (n : Nat) : Prop where
  mg : mg x = some (.ref d)
  kd : KDict K w d a n
  no : ∀ k, getKey es (.str k) = some .none → PySem.W.nsIn K d k = some none
  yes : ∀ k y, getKey es (.str k) = some (.str y) → ∃ t, PySem.W.nsIn K d k = some (some (.str y t))
variable [Cfg] [Fix]
/-- what is wanted behind a run by values -/
def Po {α : Type} (P : Program) (w : World) (W : WX) (cls : Cls) (σ : St) (H0 Z0 Z : Hp) (r : Res α) (K : α → Sg → Hp → Hp → Prop) : Prop := match r with
  | .ok a g => ∀ H' Z', SR P w H0 Z0 g σ H' Z' → Same Z Z' → K a g H' Z'
  | .exc c g => ∀ H' Z', SR P w H0 Z0 g σ H' Z' → Same Z Z' → W (cls c) none σ H'
  | .stuck => False
section
variable {α β : Type} {P : Program} {w : World} {W : WX} {cls : Cls} {σ : St} {H0 Z0 Z : Hp}
theorem Po.bd {r : Res α} {f : α → Sg → Res β} {K : β → Sg → Hp → Hp → Prop} (h : Po P w W cls σ H0 Z0 Z (r.bd f) K) :
    Po P w W cls σ H0 Z0 Z r (fun a g H' Z' => Po P w W cls σ H0 Z0 Z' (f a g) K) := by
  cases r with
  | ok a g =>
    intro H' Z' sr zz
    have h' : Po P w W cls σ H0 Z0 Z (f a g) K := h
    cases e : f a g with
    | ok b g2 => rw [e] at h'; exact fun H2 Z2 sr2 z2 => h' H2 Z2 sr2 (zz.trans z2)
    | exc c g2 => rw [e] at h'; exact fun H2 Z2 sr2 z2 => h' H2 Z2 sr2 (zz.trans z2)
    | stuck => rw [e] at h'; exact h'
  | exc c g => exact h
  | stuck => exact h
theorem Po.mono {r : Res α} {K K' : α → Sg → Hp → Hp → Prop} (h : Po P w W cls σ H0 Z0 Z r K) (hk : ∀ a g H' Z', SR P w H0 Z0 g σ H' Z' → Same Z Z' → K a g H' Z' → K' a g H' Z') : Po P w W cls σ H0 Z0 Z r K' := by
  cases r with
  | ok a g => exact fun H' Z' sr zz => hk a g H' Z' sr zz (h H' Z' sr zz)
  | exc c g => exact h
  | stuck => exact h
theorem Po.map {r : Res α} {K K' : α → Sg → Hp → Hp → Prop} (h : Po P w W cls σ H0 Z0 Z r K)
    (hk : ∀ a g, (∀ H' Z', SR P w H0 Z0 g σ H' Z' → Same Z Z' → K a g H' Z') → ∀ H' Z', SR P w H0 Z0 g σ H' Z' → Same Z Z' → K' a g H' Z') : Po P w W cls σ H0 Z0 Z r K' := by
  cases r with
  | ok a g => exact hk a g h
  | exc c g => exact h
  | stuck => exact h
theorem Po.ofO {o : Option α} {g : Sg} {K : α → Sg → Hp → Hp → Prop} (h : Po P w W cls σ H0 Z0 Z (ofO o g) K) : ∃ a, o = some a ∧ ∀ H' Z', SR P w H0 Z0 g σ H' Z' → Same Z Z' → K a g H' Z' := by
  cases o with
  | none => exact h.elim
  | some a => exact ⟨a, rfl, h⟩
end

section
variable (P : Program) (w : World) (W : WX) (cls : Cls)
/-- a value, held somehow -/
def tE (f : Sg → Res (D × Md)) : TE := fun σ H Q => ∃ H0 Z0 g Z, SR P w H0 Z0 g σ H Z ∧ Po P w W cls σ H0 Z0 Z (f g) fun p g' H' Z' => ∀ v, Out P w H0 g' σ H' Z' v p.1 p.2 → Q v H'
/-- a value that is shared from now on -/
def tF (f : Sg → Res (D × Md)) : TE := fun σ H Q => ∃ H0 Z0 g Z, SR P w H0 Z0 g σ H Z ∧ Po P w W cls σ H0 Z0 Z (f g) fun p g' H' Z' => p.2 ≠ .on ∧ ∀ v, Rep Z' v p.1 → Q v H'
def OO (σ : St) (Z : Hp) (v : V) : Opn → Prop
  | .v d => Rep Z v d
  | .s i => σ[i]? = some (some v)
/-- an operand -/
def tO (f : Sg → Res Opn) : TE := fun σ H Q => ∃ H0 Z0 g Z, SR P w H0 Z0 g σ H Z ∧ Po P w W cls σ H0 Z0 Z (f g) fun o g' H' Z' => ∀ v, OO σ Z' v o → Q v H'
def tA (f : Sg → Res (List D)) : TA := fun σ H Q => ∃ H0 Z0 g Z, SR P w H0 Z0 g σ H Z ∧ Po P w W cls σ H0 Z0 Z (f g) fun ds g' H' Z' => ∀ vs, Reps Z' vs ds → Q vs H'
/-- a test -/
def tT (f : Sg → Res (D × Md)) : TT := fun σ H Q => ∃ H0 Z0 g Z, SR P w H0 Z0 g σ H Z ∧ Po P w W cls σ H0 Z0 Z (f g) fun p g' H' Z' => ∃ c, p.1 = .bool c ∧ Q c H'
/-- the iterator J yields ds, all of it shared -/
structure ItOk (Z : Hp) (J : It) (ds : List D) : Prop where
  item : ∀ i d H, ds[i]? = some d → Same Z H → J.go i H ∧ ∀ x H', J.yld i H x H' → H' = H ∧ Rep Z x d
  stop : ∀ i H, Same Z H → ds.length ≤ i → J.stop i H
def tI (f : Sg → Res (D × Md)) : TI := fun σ H R => ∃ H0 Z0 g Z, SR P w H0 Z0 g σ H Z ∧ Po P w W cls σ H0 Z0 Z (f g) fun p g' H' Z' => p.2 ≠ .on ∧ ∃ ds, itemsD p.1 = some ds ∧ ∀ J, ItOk Z' J ds → R J H'
end
theorem pe_to {X : Cx} {e : Expr} {t t' : TE} (h : PE X e t) (i : ∀ σ H Q, t' σ H Q → t σ H Q) : PE X e t' := ⟨fun pins s σ H Q I q => h.run pins s σ H Q I (i σ H Q q)⟩
theorem pt_to {X : Cx} {e : Expr} {t t' : TT} (h : PT X e t) (i : ∀ σ H Q, t' σ H Q → t σ H Q) : PT X e t' := ⟨fun pins s σ H Q I q => h.run pins s σ H Q I (i σ H Q q)⟩
theorem pw_to {X : Cx} {e : Expr} {t t' : TT} (h : PW X e t) (i : ∀ σ H Q, t' σ H Q → t σ H Q) : PW X e t' := ⟨fun wh pins s σ H Q I q => h.run wh pins s σ H Q I (i σ H Q q)⟩
theorem pa_to {X : Cx} {es : List Expr} {t t' : TA} (h : PA X es t) (i : ∀ σ H Q, t' σ H Q → t σ H Q) : PA X es t' := ⟨fun pos pins s σ H Q I q => h.run pos pins s σ H Q I (i σ H Q q)⟩
theorem pi_to {X : Cx} {tg e : Expr} {t t' : TI} (h : PI X tg e t) (i : ∀ σ H Q, t' σ H Q → t σ H Q) : PI X tg e t' := ⟨fun pins s σ H R I q => h.run pins s σ H R I (i σ H R q)⟩
theorem po_to {X : Cx} {o : Option Expr} {t t' : TO} (h : PO X o t) (i : ∀ σ H Q, t' σ H Q → t σ H Q) : PO X o t' := ⟨fun pins s σ H Q I q => h.run pins s σ H Q I (i σ H Q q)⟩

/-- the heap without what the walker at p has for itself -/
def del (H : Hp) (p l : Addr) : Hp := fun b => if b = p ∨ b = l then none else H b
/-- what a method's run by values promises -/
def spM (P : Program) (w : World) (C : Orc) (f : Str) : Sp := fun vs H Q _ => ∃ Z p l t ts us ds, vs = .ref p :: us ∧ Same Z H ∧ WS H Z p l t ts ∧ Reps Z us ds ∧ match metD (C f (.tuple [t, .list ts] :: ds)) with
  | some (r, st) => ∀ v H' Z' l' t' ts', st = [t', .list ts'] → Tr (del H p l) Z H' Z' → del H p l l' = none → WS H' Z' p l' t' ts' → Rep Z' v r → Q v H'
  | none => False
/-- what __init__ promises -/
def spInit : Sp := fun vs H Q _ => ∃ p dx tv, vs = [.ref p, tv] ∧ H p = some (.ins Cfg.wc dx []) ∧ ∀ l H', H l = none → H' p = some (.ins Cfg.wc dx [("term", tv), ("taken", .ref l)]) → H' l = some (.lst []) → (∀ b u, H b = some u → b ≠ p → H' b = some u) → Q .non H'
/-- the class Walker -/
structure WK (P : Program) (w : World) (K : PySem.W.Frag) (mg : Str → Option Value) (base : Heap) : Prop where
  cl : L2.Cls K Cfg.wc
  n1 : NoAttr K Cfg.wc "term"
  n2 : NoAttr K Cfg.wc "taken"
  mgW : mg "Walker" = some (.ref Cfg.wc)
  mkW : ∃ fI fd, Mk K Cfg.wc fI ∧ FnOk P w K mg base (L2.CX P w) 1 fI fd ["self", "term"] spInit ∧ Binds K fd ["self", "term"] []
/-- what a def's run by values promises -/
def spD (P : Program) (w : World) (C : Orc) (cls : Cls) (f : Str) : Sp := fun vs H Q E => ∃ Z ds, Same Z H ∧ Reps Z vs ds ∧ match C f ds with
  | .ok d m => m ≠ .on ∧ ∀ v H' Z', Tr H Z H' Z' → Hold P w H' Z' v d m → (∀ p, v = .ref p → m ≠ .fr → H p = none) → Q v H'
  | .exc c => ∀ H', Same H H' → E (cls c) none H'
  | .stuck => False
def biNames : List Str := ["len", "list", "tuple", "sorted", "set", "dict", "min", "max", "int", "isinstance", "zip", "range", "reversed", "bool", "str", "ValueError"]
/-- what the module's names are -/
structure FT (P : Program) (w : World) (K : PySem.W.Frag) (mg : Str → Option Value) (base : Heap) (k : Nat) (GL : Str → Option D) (C : Orc) (cls : Cls) (FN : List Str) : Prop where
  gl : ∀ x i, GL x = some (.int i) → ∃ t, mg x = some (.int i t)
  gd : ∀ x es, GL x = some (.dict es) → ∃ d a n, GDict w K mg x es d a n
  cl : ∀ c ∈ cls.on, ∃ C, ClsAt K mg cls c C
  em : ∀ c ∈ cls.on, ∀ d ∈ cls.on, PySem.W.exmOne K (cls c) (cls d) = some (subC c d)
  fn : ∀ f, fnB FN f = true → ∃ fa fd ps, mg f = some (.ref fa) ∧ PySem.W.keepIn K (.ref fa) = true ∧ FnOk P w K mg base (L2.CX P w) k fa fd ps (spD P w C cls f) ∧ Binds K fd ps []
  bi : ∀ x ∈ biNames, mg x = none
  wk : hasM FN = true → WK P w K mg base
  ini : ∀ ds d m, C "Walker.__init__" ds = .ok d m → 2 ≤ k
  mt : ∀ x m, mths.lookup x = some m → FN.contains m = true → ∃ fa fd ps, Meth K Cfg.wc x fa ∧ FnOk P w K mg base (L2.CX P w) k fa fd ps (spM P w C m) ∧ Binds K fd ps []
structure SC (X : Cx) (FN N : List Str) (sc : Scope) (k : Nat) (GL : Str → Option D) (C : Orc) (cls : Cls) : Prop where
  hN : X.N = N
  nd : N.Nodup
  sc : X.env.scope = sc
  calm : X.calm = true
  room : Room k X.A
  ft : FT X.prog X.w X.K X.mg X.base k GL C cls FN

section
variable {X : Cx} {W : WX} {cls : Cls} {FN N : List Str} {sc : Scope} {k : Nat} {GL : Str → Option D} {C : Orc}
theorem SC.gl (S : SC X FN N sc k GL C cls) {x : Str} (h : gloB sc x = true) : Gl X x := by
  show X.env.scope.names.lookup x = some .globalImplicit
  rw [S.sc]; exact (glo_of h).1
theorem SC.bi (S : SC X FN N sc k GL C cls) {x : Str} (h : x ∈ biNames := by decide) : X.mg x = none := S.ft.bi x h
end

section
variable {P : Program} {w : World} {H0 Z0 H Z : Hp} {g : Sg} {σ : St} {v : V} {d : D} {m : Md} {vs : List V} {ds : List D} {Q : VK}
theorem OO.up {Z' : Hp} {o : Opn} (h : OO σ Z v o) (zz : Same Z Z') : OO σ Z' v o := by
  cases o with
  | v d => exact Rep.up h zz
  | s i => exact h
theorem isObj_no {d : D} {m : Md} (h : isObj (d, m) = false) : NoOb d m := fun xs e em => by subst e em; cases h
theorem OO.get2 {o : Opn} (h : OO σ Z v o) (sr : SR P w H0 Z0 g σ H Z) (e : o.get g = some (d, m)) : Hold P w H Z v d m ∧ NoOb d m := by
  cases o with
  | v d' => cases e; exact ⟨.fr h, noOb_of (by decide)⟩
  | s i =>
    unfold Opn.get at e
    simp only at e
    split at e
    · rename_i p q
      split at e
      · cases e
      · rename_i hob
        cases e
        obtain ⟨v', h1, h2⟩ := sr.sl i d m q
        have h' : σ[i]? = some (some v) := h
        rw [h'] at h1; cases h1
        exact ⟨h2, isObj_no (by simpa using hob)⟩
    · cases e
theorem OO.get {o : Opn} (h : OO σ Z v o) (sr : SR P w H0 Z0 g σ H Z) (e : o.get g = some (d, m)) : Hold P w H Z v d m := (h.get2 sr e).1
/-- the ends of an operation: a value, a new list, a new tuple -/
theorem fin_val {K : D × Md → Sg → Hp → Hp → Prop} (sr : SR P w H0 Z0 g σ H Z) (hK : ∀ H' Z', SR P w H0 Z0 g σ H' Z' → Same Z Z' → ∀ v, Out P w H0 g σ H' Z' v d .fr → Q v H') (r : Rep Z v d) : Q v H :=
  hK H Z sr (Same.refl _) v (Out.fr r)
theorem own_new (sr : SR P w H0 Z0 g σ H Z) {p : Addr} {o : HO} (hp : H p = none) (ho : ∀ C dx fs, o ≠ .ins C dx fs := by intro _ _ _ z; cases z) : ∀ b, Adr (upd H p o) (.ref p) m b → H0 b = none ∧ ∀ (j : Nat) (d' : D) (m' : Md) (v' : V), g[j]? = some (some (d', m')) → σ[j]? = some (some v') → ¬ Adr (upd H p o) v' m' b := by
  intro b a
  have := adr_own upd_same ho a
  subst this
  refine ⟨Same.free sr.keep hp, fun j d' m' v' e' hj a' => ?_⟩
  obtain ⟨v2, h1, h2⟩ := sr.sl j d' m' e'
  rw [hj] at h1; cases h1
  have s1 : Same H (upd H b o) := (Tr.laid sr.zh hp).hh
  obtain ⟨_, u, hu⟩ := h2.adr (h2.adr_tr s1 a')
  rw [hp] at hu; cases hu
/-- .. of a call's result -/
theorem own_res {H' Z' : Hp} (sr : SR P w H0 Z0 g σ H Z) (t : Tr H Z H' Z') (h : Hold P w H' Z' v d m) (hm : m ≠ .on) (hn : ∀ p, v = .ref p → m ≠ .fr → H p = none) : Out P w H0 g σ H' Z' v d m := by
  refine ⟨h, fun b a => ?_, noOb_of hm⟩
  have hb : v = .ref b := by
    rcases a.2 with e | ⟨p, e, l⟩
    · exact e
    · subst e
      cases h with
      | fr _ => exact absurd rfl a.1
      | owl z e _ => exact absurd l (obLst_one e (by intro _ _ _ z; cases z))
      | owd z e _ => exact absurd l (obLst_one e (by intro _ _ _ z; cases z))
      | on _ _ _ _ _ => exact absurd rfl hm
      | ob _ => exact absurd rfl hm
  have hp := hn b hb a.1
  refine ⟨Same.free sr.keep hp, fun j d' m' v' e' hj a' => ?_⟩
  obtain ⟨v2, h1, h2⟩ := sr.sl j d' m' e'
  rw [hj] at h1; cases h1
  obtain ⟨_, u, hu⟩ := h2.adr (h2.adr_tr t.hh a')
  rw [hp] at hu; cases hu
theorem fin_list (sr : SR P w H0 Z0 g σ H Z) (hK : ∀ H' Z', SR P w H0 Z0 g σ H' Z' → Same Z Z' → ∀ v, Out P w H0 g σ H' Z' v (.list ds) .ow → Q v H') (r : Reps Z vs ds) : ∀ p, H p = none → Q (.ref p) (upd H p (.lst vs)) := fun p hp => by
  refine hK _ Z (sr.tr (Tr.laid sr.zh hp)) (Same.refl _) _ ⟨.owl (zfree sr.zh hp) upd_same r, own_new sr hp, noOb_of (by decide)⟩
theorem fin_tup (sr : SR P w H0 Z0 g σ H Z) (hK : ∀ H' Z', SR P w H0 Z0 g σ H' Z' → Same Z Z' → ∀ v, Out P w H0 g σ H' Z' v (.tuple ds) .fr → Q v H') (r : Reps Z vs ds) : ∀ p, H p = none → Q (.ref p) (upd H p (.tup vs)) := fun p hp => by
  have t := Tr.laidZ (o := .tup vs) sr.zh hp
  exact hK _ _ (sr.tr t) t.zz _ (Out.fr (.tup upd_same (r.up t.zz)))
end

section
variable {X : Cx} {W : WX} {cls : Cls} {e : Expr} {f : Sg → Res (D × Md)}
/-- a value that is held somehow may be shared -/
theorem shared (h : PE X e (tE X.prog X.w W cls f)) : PE X e (tF X.prog X.w W cls f) := pe_to h fun σ H Q ⟨H0, Z0, g, Z, sr, po⟩ => by
  refine ⟨H0, Z0, g, Z, sr, po.map fun p g1 hk H1 Z1 sr1 zz v o => ?_⟩
  obtain ⟨Z2, z2, sr2, r⟩ := sr1.share o (hk H1 Z1 sr1 zz).1
  exact (hk H1 Z2 sr2 (zz.trans z2)).2 v r
theorem opnd {a : E} (hv : ∀ i, a ≠ .var i) (h : PE X e (tE X.prog X.w W cls f)) : PE X e (tO X.prog X.w W cls fun g => opn a (f g) g) := pe_to (shared h) fun σ H Q ⟨H0, Z0, g, Z, sr, po⟩ => by
  have e1 : opn a (f g) g = (f g).bd fun p g => if p.2 = Md.on then .stuck else .ok (.v p.1) g := by
    cases a <;> first | rfl | exact absurd rfl (hv _)
  dsimp only at po
  rw [e1] at po
  refine ⟨H0, Z0, g, Z, sr, po.bd.mono fun p g1 H1 Z1 sr1 zz q => ?_⟩
  by_cases c : p.2 = .on
  · rw [if_pos c] at q; exact q.elim
  · rw [if_neg c] at q
    exact ⟨c, fun v r => q H1 Z1 sr1 (Same.refl _) v r⟩
end

section
variable {X : Cx} {W : WX} {cls : Cls} {FN N : List Str} {sc : Scope} {k : Nat} {GL : Str → Option D} {C : Orc}
theorem s_opn {a : E} {pe : Expr} (S : SC X FN N sc k GL C cls) (hc : chk FN N a false sc pe = true) (h : PE X pe (tE X.prog X.w W cls (ev GL C a))) : PE X pe (tO X.prog X.w W cls fun g => opn a (ev GL C a g) g) := by
  by_cases hv : ∃ i, a = .var i
  · obtain ⟨i, rfl⟩ := hv
    unfold chk at hc
    split at hc
    · rename_i x pos
      simp only [Bool.and_eq_true, decide_eq_true_eq] at hc
      obtain ⟨⟨h1, h2⟩, h3⟩ := hc
      obtain ⟨h4, h5⟩ := okN_of h3
      refine pe_to (pe_var (by rw [S.hN]; exact h1) (by rw [S.sc]; exact vis_of h2) h4 h5) fun σ H Q ⟨H0, Z0, g, Z, sr, po⟩ => ?_
      dsimp only at po
      unfold opn at po
      simp only at po
      split at po
      · rename_i p q
        obtain ⟨d, m⟩ := p
        obtain ⟨v, hv, _⟩ := sr.sl i d m q
        exact ⟨v, hv, po H Z sr (Same.refl _) v hv⟩
      · exact po.elim
    · cases hc
  · exact opnd (fun i e => hv ⟨i, e⟩) h
theorem s_var {i : Nat} {pe : Expr} (S : SC X FN N sc k GL C cls) (hc : chk FN N (.var i) false sc pe = true) : PE X pe (tE X.prog X.w W cls (ev GL C (.var i))) := by
  unfold chk at hc
  split at hc
  · rename_i x pos
    simp only [Bool.and_eq_true, decide_eq_true_eq] at hc
    obtain ⟨⟨h1, h2⟩, h3⟩ := hc
    obtain ⟨h4, h5⟩ := okN_of h3
    refine pe_to (pe_var (by rw [S.hN]; exact h1) (by rw [S.sc]; exact vis_of h2) h4 h5) fun σ H Q ⟨H0, Z0, g, Z, sr, po⟩ => ?_
    unfold ev use at po
    split at po
    · rename_i d q
      obtain ⟨v, hv, h⟩ := sr.sl i d .fr q
      cases h with | fr r =>
      exact ⟨v, hv, po H Z sr (Same.refl _) v (Out.fr r)⟩
    · rename_i d q
      obtain ⟨v, Z', hv, zz, sr', r⟩ := sr.use q (by decide)
      exact ⟨v, hv, po H Z' sr' zz v (Out.fr r)⟩
    · exact po.elim
  · cases hc
end
end DL

set_option Elab.async false
set_option linter.all false
set_option maxRecDepth 100000
set_option maxHeartbeats 4000000
/-! D21: a tuple taken once, or not at all. -/
namespace DL
open PySem L2 PySem.Spec PyProof.Rows
theorem tuple_mulW0 (l : Addr) (items : Array Value) (n : Nat) (dd : Option Addr) (sl : Array (Option Value)) (x : Int) (u : Tok) (c0 : (decide (x < -(2 ^ 63)) || decide (x ≥ 2 ^ 63)) = false) (c1 : (items.isEmpty || x == 1) = false) (c2 : (decide (x ≤ 0) || items.isEmpty) = true) :
    Meets (Builtin.«tuple.__mul__» ⟨[.ref l, .int x u], []⟩) (fun _ R s => s.heap.get? l = some { cls := .type "tuple", dict := dd, data := .seq items n, slots := sl } ∧
      R (.ok (.ret (Value.ref s.heap.objs.size))) { s with heap := s.heap.push { cls := Value.type "tuple", data := Data.seq #[] }, toks := s.toks }) :=
  .of_wp fun prog w A R s h => by
    obtain ⟨hp, g, d, tk, os⟩ := s
    obtain ⟨hl, h⟩ := h
    have f1 := AutoSeq1.idx_int
    wp_walk using wpAny_loadPart' hl
    repeat (first
      | (refine wpAny_ite_false (decide_eq_false (by rw [c0]; exact Bool.false_ne_true)) ?_; wp_walk using wpAny_loadPart' hl)
      | (refine wpAny_ite_false (decide_eq_false (by rw [c1]; exact Bool.false_ne_true)) ?_; wp_walk using wpAny_loadPart' hl)
      | (refine wpAny_ite_true (decide_eq_true (by rw [c2])) ?_; wp_walk using wpAny_loadPart' hl))
    exact ⟨_, rfl, h⟩
theorem tuple_mulW1 (l : Addr) (items : Array Value) (n : Nat) (dd : Option Addr) (sl : Array (Option Value)) (x : Int) (u : Tok) (c0 : (decide (x < -(2 ^ 63)) || decide (x ≥ 2 ^ 63)) = false) (c1 : (items.isEmpty || x == 1) = true) :
    Meets (Builtin.«tuple.__mul__» ⟨[.ref l, .int x u], []⟩) (fun _ R s => s.heap.get? l = some { cls := .type "tuple", dict := dd, data := .seq items n, slots := sl } ∧
      R (.ok (.ret (Value.ref l))) s) :=
  .of_wp fun prog w A R s h => by
    obtain ⟨hp, g, d, tk, os⟩ := s
    obtain ⟨hl, h⟩ := h
    have f1 := AutoSeq1.idx_int
    wp_walk using wpAny_loadPart' hl
    repeat (first
      | (refine wpAny_ite_false (decide_eq_false (by rw [c0]; exact Bool.false_ne_true)) ?_; wp_walk using wpAny_loadPart' hl)
      | (refine wpAny_ite_true (decide_eq_true (by rw [c1])) ?_; wp_walk using wpAny_loadPart' hl))
    exact ⟨_, rfl, h⟩
section
variable {X : Cx}
def rRepT0 (K : PySem.W.Frag) : R2 := fun x y H Q => ∃ l xs, x = .ref l ∧ y = .int 0 ∧ SqT K H l xs ∧ xs ≠ [] ∧ ∀ p, H p = none → Q (.ref p) (upd H p (.tup []))
def rRepT1 (K : PySem.W.Frag) : R2 := fun x y H Q => ∃ l xs, x = .ref l ∧ y = .int 1 ∧ SqT K H l xs ∧ Q (.ref l) H
theorem op_repT0 : OpR X (binaryOp .Mult) (rRepT0 X.K) := by
  intro pins s σ H x y v u Q I rx ry h
  obtain ⟨l, xs, rfl, rfl, hT, hne, q⟩ := h
  cases rx
  obtain ⟨t, rfl⟩ := ry
  obtain ⟨its, r, ⟨⟨cls, dd, data, sl⟩, ho, hc, n, hd⟩, hs⟩ := I.tuple hT
  simp only at hc hd
  subst hc hd
  have hle : its.length = xs.length := r.length.symm
  have hn : its ≠ [] := fun e => hne (by
    rw [e] at hle
    exact List.eq_nil_of_length_eq_zero hle.symm)
  have hi : its.toArray.isEmpty = false := by
    cases its with
    | nil => exact absurd rfl hn
    | cons a b => rfl
  refine wpAny_binaryOp_repeat_ref (T := "tuple") (U := "int") (by decide) ⟨_, ho, rfl⟩ (fun s' => typeIs_int s' 0 t) noFill_tuple_mul F.fills_int_mul F.slot_int_rmul repeat_tuple F.slot_int_index.lookup
    (call_meets F.slot_int_rmul (typeIs_int s 0 t) F.entry_int_rmul (F.args_int_rmul_2 _ _) (int_rmul_tuple 0 t l its.toArray n dd sl)
      ⟨ho, rfl, ⟨_, ho, rfl⟩, call_meets F.slot_tuple_mul ⟨_, ho, rfl⟩ F.entry_tuple_mul (F.args_tuple_mul_2 _ _) (tuple_mulW0 l its.toArray n dd sl 0 t (by decide) (by rw [hi]; rfl) (by rw [hi]; rfl)) ⟨ho, ?_⟩⟩)
  refine ⟨.ref s.heap.objs.size, _, I.laid (t' := s.toks) (o := .tup []) (fun b ob q => Heap.get?_push_of_some _ q) (Nat.le_refl _) ?_, rfl, q _ (I.hok.fresh (Nat.le_refl _))⟩
  exact ⟨by simp, [], .nil, IsTup.new _ _⟩
theorem op_repT1 : OpR X (binaryOp .Mult) (rRepT1 X.K) := by
  intro pins s σ H x y v u Q I rx ry h
  obtain ⟨l, xs, rfl, rfl, hT, q⟩ := h
  cases rx
  obtain ⟨t, rfl⟩ := ry
  obtain ⟨its, r, ⟨⟨cls, dd, data, sl⟩, ho, hc, n, hd⟩, hs⟩ := I.tuple hT
  simp only at hc hd
  subst hc hd
  exact wpAny_binaryOp_repeat_ref (T := "tuple") (U := "int") (by decide) ⟨_, ho, rfl⟩ (fun s' => typeIs_int s' 1 t) noFill_tuple_mul F.fills_int_mul F.slot_int_rmul repeat_tuple F.slot_int_index.lookup
    (call_meets F.slot_int_rmul (typeIs_int s 1 t) F.entry_int_rmul (F.args_int_rmul_2 _ _) (int_rmul_tuple 1 t l its.toArray n dd sl)
      ⟨ho, rfl, ⟨_, ho, rfl⟩, call_meets F.slot_tuple_mul ⟨_, ho, rfl⟩ F.entry_tuple_mul (F.args_tuple_mul_2 _ _) (tuple_mulW1 l its.toArray n dd sl 1 t (by decide) (by simp)) ⟨ho, .ref l, H, I, rfl, q⟩⟩)
end
end DL

set_option Elab.async false
set_option linter.all false
set_option maxRecDepth 100000
/-! D5: each kind of expression. -/
namespace DL
open PySem L2 PySem.Spec PyProof.Rows
variable [Cfg] [Fix]

/-! ### a few more operators of the layer -/
section
variable {X : Cx}
theorem rd_lst {pins : List (Addr × Obj)} {s : Shared} {σ : L2.St} {H : Hp} {l : Addr} {xs : List V} (I : Inv X pins σ H s) (h : Rd H l (.lst xs)) :
    xs.length ≤ sizeLine ∧ ∃ (its : List Value) (n : Nat), Vals xs its ∧ xs.length = its.length ∧ s.heap.get? l = some { cls := .type "list", data := .seq its.toArray n } := by
  obtain ⟨z, its, n, r, e⟩ := h.ok I.hok
  exact ⟨z, its, n, r, r.length, e⟩
def rCatR : R2 := fun x y H Q => ∃ l b xs zs, x = .ref l ∧ y = .ref b ∧ Rd H l (.lst xs) ∧ Rd H b (.lst zs) ∧ xs.length + zs.length ≤ sizeLine ∧ ∀ p, H p = none → Q (.ref p) (upd H p (.lst (xs ++ zs)))
theorem op_catR : OpR X (binaryOp .Add) rCatR := fun pins s σ H x y v u Q I rx ry h => by
  obtain ⟨l, b, xs, zs, rfl, rfl, h1, h2, hz, q⟩ := h
  cases rx; cases ry
  obtain ⟨_, is, n, r, hl, e⟩ := rd_lst I h1
  obtain ⟨_, js, n2, r2, hl2, e2⟩ := rd_lst I h2
  refine PySem.P.add_list e e2 ?_ (by simp only [List.size_toArray]; omega)
  have ea : is.toArray ++ js.toArray = (is ++ js).toArray := List.append_toArray ..
  rw [ea]
  exact ⟨.ref _, _, I.lnew (t' := s.toks) (Vals.append r r2) (by simp only [List.length_append]; exact hz), rfl, q _ I.fresh⟩
def rRepR : R2 := fun x y H Q => ∃ l k xs, x = .ref l ∧ y = .int k ∧ Rd H l (.lst xs) ∧ 0 ≤ k ∧ k ≤ 1000 ∧ xs.length ≤ 1000 ∧ ∀ p, H p = none → Q (.ref p) (upd H p (.lst (List.replicate k.toNat xs).flatten))
theorem op_repR : OpR X (binaryOp .Mult) rRepR := fun pins s σ H x y v u Q I rx ry h => by
  obtain ⟨l, k, xs, rfl, rfl, h1, c0, c1, c2, q⟩ := h
  cases rx
  obtain ⟨t, rfl⟩ := ry
  obtain ⟨_, is, n, r, hl, e⟩ := rd_lst I h1
  have hm : xs.length * k.toNat ≤ 1000 * 1000 := Nat.mul_le_mul c2 (by omega)
  have z1 : is.toArray.size * k.toNat ≤ sizeLine := by
    simp only [List.size_toArray, ← hl]
    exact Nat.le_trans hm (by decide)
  have z2 : ¬ is.toArray.size * k.toNat > (2 ^ 63 - 1) / 8 := by
    have : (sizeLine : Nat) ≤ (2 ^ 63 - 1) / 8 := by decide
    omega
  have z3 : ¬ (!Builtin.List.listFitsIndex k) = true := by rw [fitsIndex_both (by omega) (by omega)]; decide
  have z4 : ¬ Builtin.List.listTooLong (is.toArray.size * k.toNat) = true := by rw [notLongL z1]; decide
  have z5 : ∀ m : Nat, List.foldl (fun a b => a ++ b) #[] (List.replicate m is.toArray) = (List.replicate m is).flatten.toArray := fun m => by
    have q := foldl_rep is m []
    rwa [List.nil_append] at q
  have z6 : List.foldl (fun a b => a ++ b) #[] (List.replicate (if is.toArray.isEmpty = true then 0 else k.toNat) is.toArray) = (List.replicate k.toNat is).flatten.toArray := by
    rw [z5]
    cases is with
    | nil => simp
    | cons a r' => simp
  have z7 : wpAny (model X.prog X.w) X.A (call (.builtin "list.__mul__") [.ref l, .int k t]) (EP X pins σ Q) X.xe s := call_meets F.slot_list_mul ⟨_, e, rfl⟩ F.entry_list_mul (F.args_list_mul_2 _ _) (AutoListH.list___mul___list_int_3 l is.toArray n k t z3 z2 z4)
    ⟨e, by
      rw [z6]
      exact ⟨.ref _, _, I.lnew (t' := s.toks) (r.rep k.toNat) (by rw [PyProof.Rows.lm_len_rep_flat, hl, Nat.mul_comm]; simpa using z1), rfl, q _ I.fresh⟩⟩
  exact wpAny_binaryOp_repeat_ref (T := "list") (U := "int") (by decide) ⟨_, e, rfl⟩ (fun s' => typeIs_int s' k t) noFill_list_mul F.fills_int_mul F.slot_int_rmul repeat_list
    F.slot_int_index.lookup (call_meets F.slot_int_rmul (typeIs_int s k t) F.entry_int_rmul (F.args_int_rmul_2 _ _) (int___rmul___int_list k t l is.toArray n) ⟨e, rfl, ⟨_, e, rfl⟩, z7⟩)
def rPowW : R2 := rI (fun i j => 0 ≤ j ∧ (Builtin.Int.intBits i : Int) * j ≤ 2 ^ 27) fun i j => .int (i ^ j.toNat)
theorem op_powW : OpR X (binaryOp .Pow) rPowW := opI fun _ _ _ _ _ _ _ hc q => pow_int hc.1 hc.2 q
def rExtR : V → List V → Hp → VK → Prop := fun x vs H Q => ∃ l b xs zs, x = .ref l ∧ vs = [.ref b] ∧ H l = some (.lst xs) ∧ Rd H b (.lst zs) ∧ xs.length + zs.length ≤ sizeLine ∧ Q .non (upd H l (.lst (xs ++ zs)))
theorem mt_extR : MtM X "list.extend" rExtR := fun pins s σ H x vs v us Q I rx rv h => by
  obtain ⟨l, b, xs, zs, rfl, rfl, h1, h2, hz, q⟩ := h
  cases rx
  obtain ⟨u, rfl, ru⟩ := rv.one
  cases ru
  obtain ⟨_, is, n, r, hl, e⟩ := I.lstM h1
  obtain ⟨_, js, n2, r2, hl2, e2⟩ := rd_lst I h2
  have hs : is.toArray.size + js.toArray.size ≤ sizeLine := by simp only [List.size_toArray]; omega
  have hlong : ¬ (!is.toArray.isEmpty && Builtin.List.listTooLong (is.toArray.size + js.toArray.size)) = true := by
    rw [notLongL hs, Bool.and_false]; decide
  refine call_meets F.slot_list_extend ⟨_, e, rfl⟩ F.entry_list_extend (F.args_list_extend_2 _ _)
    (AutoSeq1.list_extend_list_list_0 l is.toArray n b js.toArray n2 hlong (by simp only [List.size_toArray]; omega) (by omega)) ⟨e, e2, ?_⟩
  exact ⟨.non, _, I.lset (its' := is ++ js) h1 e (by simp) (Vals.append r r2) (by simp only [List.length_append]; exact hz), rfl, q⟩
/-- == of data that is 200 deep at most -/
def rEqW (K : PySem.W.Frag) : R2 := fun x y H Q => ∃ d e, Dp K H x d ∧ Dp K H y e ∧ eqOk d e = true ∧ Q (.bl (PyData.eqv d e)) H
def rNeW (K : PySem.W.Frag) : R2 := fun x y H Q => ∃ d e, Dp K H x d ∧ Dp K H y e ∧ eqOk d e = true ∧ Q (.bl (!PyData.eqv d e)) H
theorem eqOk_of {d e : D} (h : eqOk d e = true) : d.canLay0 = true ∧ e.canLay0 = true ∧ min d.depth e.depth ≤ 200 := by
  unfold eqOk at h
  simp only [Bool.and_eq_true, decide_eq_true_eq] at h
  exact ⟨h.1.1, h.1.2, h.2⟩
theorem op_eqW (hu : X.A.units + 200 < cLine) : OpR X (compareOp .Eq) (rEqW X.K) := fun pins s σ H x y v u Q I rx ry h => by
  obtain ⟨d, e, hd, he, ok, q⟩ := h
  obtain ⟨as, r1⟩ := Dp.reads I d x v hd rx
  obtain ⟨bs, r2⟩ := Dp.reads I e y u he ry
  obtain ⟨c1, c2, c3⟩ := eqOk_of ok
  exact SeqAt.compareEq_reads r1 r2 c1 c2 (by omega) ⟨.bl _, H, I, rfl, q⟩
theorem op_neW (hu : X.A.units + 200 < cLine) : OpR X (compareOp .NotEq) (rNeW X.K) := fun pins s σ H x y v u Q I rx ry h => by
  obtain ⟨d, e, hd, he, ok, q⟩ := h
  obtain ⟨as, r1⟩ := Dp.reads I d x v hd rx
  obtain ⟨bs, r2⟩ := Dp.reads I e y u he ry
  obtain ⟨c1, c2, c3⟩ := eqOk_of ok
  exact SeqAt.compareNe_reads r1 r2 c1 c2 (by omega) ⟨.bl _, H, I, rfl, q⟩
theorem room200 {k : Nat} {A : Around} (r : Room k A) : A.units + 200 < cLine := by have := r.un; omega
end

section
variable {X : Cx} {W : WX} {cls : Cls} {FN N : List Str} {sc : Scope} {k : Nat} {GL : Str → Option D} {C : Orc}
section
variable {l r : Expr} {pos : Pos} {fa fb : Sg → Res Opn} {r2 : R2}
/-- an operation of two operands, by what it does with them -/
theorem s_op2 {op : Operator} (ho : OpR X (binaryOp op) r2) (ha : PE X l (tO X.prog X.w W cls fa)) (hb : PE X r (tO X.prog X.w W cls fb)) (F : Opn → Opn → Sg → Option (D × Md))
    (hF : ∀ (H0 Z0 : Hp) (g : Sg) (σ : L2.St) (H Z : Hp) (x y : Opn) (v u : V) (d : D) (m : Md) (Q : VK), SR X.prog X.w H0 Z0 g σ H Z → OO σ Z v x → OO σ Z u y → F x y g = some (d, m) →
      (∀ H' Z', SR X.prog X.w H0 Z0 g σ H' Z' → Same Z Z' → ∀ v, Out X.prog X.w H0 g σ H' Z' v d m → Q v H') → r2 v u H Q) :
    PE X (.BinOp l op r pos) (tE X.prog X.w W cls fun g => (fa g).bd fun x g => (fb g).bd fun y g => ofO (F x y g) g) := pe_to (pe_op ho ha hb) fun σ H Q ⟨H0, Z0, g, Z, sr, po⟩ => by
  refine ⟨H0, Z0, g, Z, sr, po.bd.mono fun x g1 H1 Z1 sr1 zz1 po1 v ox => ⟨H0, Z0, g1, Z1, sr1, po1.bd.mono fun y g2 H2 Z2 sr2 zz2 po2 u oy => ?_⟩⟩
  obtain ⟨⟨d, m⟩, e, hk⟩ := po2.ofO
  exact hF H0 Z0 g2 σ H2 Z2 x y v u d m Q sr2 (ox.up zz2) oy e hk
theorem s_cmp2 {op : CmpOp} (ho : OpR X (compareOp op) r2) (ha : PE X l (tO X.prog X.w W cls fa)) (hb : PE X r (tO X.prog X.w W cls fb)) (hm : behindInMarks op r = false) (F : Opn → Opn → Sg → Option (D × Md))
    (hF : ∀ (H0 Z0 : Hp) (g : Sg) (σ : L2.St) (H Z : Hp) (x y : Opn) (v u : V) (d : D) (m : Md) (Q : VK), SR X.prog X.w H0 Z0 g σ H Z → OO σ Z v x → OO σ Z u y → F x y g = some (d, m) →
      (∀ H' Z', SR X.prog X.w H0 Z0 g σ H' Z' → Same Z Z' → ∀ v, Out X.prog X.w H0 g σ H' Z' v d m → Q v H') → r2 v u H Q) :
    PE X (.Compare l [op] [r] pos) (tE X.prog X.w W cls fun g => (fa g).bd fun x g => (fb g).bd fun y g => ofO (F x y g) g) := pe_to (pe_cmpR ho ha hb hm) fun σ H Q ⟨H0, Z0, g, Z, sr, po⟩ => by
  refine ⟨H0, Z0, g, Z, sr, po.bd.mono fun x g1 H1 Z1 sr1 zz1 po1 v ox => ⟨H0, Z0, g1, Z1, sr1, po1.bd.mono fun y g2 H2 Z2 sr2 zz2 po2 u oy => ?_⟩⟩
  obtain ⟨⟨d, m⟩, e, hk⟩ := po2.ofO
  exact hF H0 Z0 g2 σ H2 Z2 x y v u d m Q sr2 (ox.up zz2) oy e hk
/-- .. as a test -/
theorem s_tst2 {op : CmpOp} (ho : OpR X (compareOp op) r2) (ha : PE X l (tO X.prog X.w W cls fa)) (hb : PE X r (tO X.prog X.w W cls fb)) (hm : behindInMarks op r = false) (F : Opn → Opn → Sg → Option (D × Md))
    (hF : ∀ (H0 Z0 : Hp) (g : Sg) (σ : L2.St) (H Z : Hp) (x y : Opn) (v u : V) (d : D) (m : Md) (Q : VK), SR X.prog X.w H0 Z0 g σ H Z → OO σ Z v x → OO σ Z u y → F x y g = some (d, m) →
      (∀ H' Z', SR X.prog X.w H0 Z0 g σ H' Z' → Same Z Z' → ∀ v, Out X.prog X.w H0 g σ H' Z' v d m → Q v H') → r2 v u H Q) :
    PT X (.Compare l [op] [r] pos) (tT X.prog X.w W cls fun g => (fa g).bd fun x g => (fb g).bd fun y g => ofO (F x y g) g) := pt_to (pt_cmpR ho ha hb hm) fun σ H Q ⟨H0, Z0, g, Z, sr, po⟩ => by
  refine ⟨H0, Z0, g, Z, sr, po.bd.mono fun x g1 H1 Z1 sr1 zz1 po1 v ox => ⟨H0, Z0, g1, Z1, sr1, po1.bd.mono fun y g2 H2 Z2 sr2 zz2 po2 u oy => ?_⟩⟩
  obtain ⟨⟨d, m⟩, e, hk⟩ := po2.ofO
  refine hF H0 Z0 g2 σ H2 Z2 x y v u d m _ sr2 (ox.up zz2) oy e fun H' Z' sr' zz' v' ov => ?_
  obtain ⟨c, ec, q⟩ := hk H' Z' sr' zz'
  simp only at ec
  subst ec
  exact ⟨c, ov.hold.bool, q⟩
/-- what both operands hold -/
theorem two_of {H0 Z0 : Hp} {g : Sg} {σ : L2.St} {H Z : Hp} {x y : Opn} {v u : V} {β : Type} {G : D × Md → D × Md → Option β} {b : β} (sr : SR X.prog X.w H0 Z0 g σ H Z) (ox : OO σ Z v x) (oy : OO σ Z u y)
    (e : ((x.get g).bind fun d => (y.get g).bind fun e => G d e) = some b) : ∃ d m d' m', (Hold X.prog X.w H Z v d m ∧ NoOb d m) ∧ (Hold X.prog X.w H Z u d' m' ∧ NoOb d' m') ∧ G (d, m) (d', m') = some b := by
  cases q : x.get g with
  | none => rw [q] at e; cases e
  | some p =>
    rw [q] at e
    cases q2 : y.get g with
    | none => rw [q2] at e; cases e
    | some p' =>
      rw [q2] at e
      exact ⟨p.1, p.2, p'.1, p'.2, ox.get2 sr q, oy.get2 sr q2, e⟩
end

theorem bin_add {d e r : D} {m : Md} (h : binD .add d e = some (r, m)) : (∃ i j, d = .int i ∧ e = .int j ∧ r = .int (i + j) ∧ m = .fr) ∨
    (∃ xs ys, d = .list xs ∧ e = .list ys ∧ r = .list (xs ++ ys) ∧ m = .ow ∧ xs.length + ys.length ≤ sizeLine) ∨
    (∃ xs ys, d = .tuple xs ∧ e = .tuple ys ∧ r = .tuple (xs ++ ys) ∧ m = .fr ∧ xs.length + ys.length ≤ sizeLine) := by
  unfold binD at h
  split at h <;> first
    | contradiction
    | (cases h; exact .inl ⟨_, _, rfl, rfl, rfl, rfl⟩)
    | (split at h <;> first | (cases h; exact .inr (.inl ⟨_, _, rfl, rfl, rfl, rfl, by assumption⟩)) | (cases h; exact .inr (.inr ⟨_, _, rfl, rfl, rfl, rfl, by assumption⟩)) | cases h)
    | contradiction
    | cases h
theorem bin_mul {d e r : D} {m : Md} (h : binD .mul d e = some (r, m)) : (∃ i j, d = .int i ∧ e = .int j ∧ r = .int (i * j) ∧ m = .fr ∧ mulOk i j = true) ∨
    (∃ xs k, d = .list xs ∧ e = .int k ∧ r = .list (List.replicate k.toNat xs).flatten ∧ m = .ow ∧ 0 ≤ k ∧ k ≤ 1000 ∧ xs.length ≤ 1000) ∨
    (∃ xs k, d = .tuple xs ∧ e = .int k ∧ r = .tuple (List.replicate k.toNat xs).flatten ∧ m = .fr ∧ 0 ≤ k ∧ k ≤ 1000 ∧ 0 < xs.length ∧ xs.length ≤ 1000) := by
  unfold binD at h
  split at h <;> first
    | contradiction
    | (split at h <;> first | (cases h; exact .inl ⟨_, _, rfl, rfl, rfl, rfl, by assumption⟩) | (cases h; exact .inr (.inl ⟨_, _, rfl, rfl, rfl, rfl, by assumption⟩)) | (cases h; exact .inr (.inr ⟨_, _, rfl, rfl, rfl, rfl, by assumption⟩)) | cases h)
    | contradiction
    | cases h
theorem bin_sub {d e r : D} {m : Md} (h : binD .sub d e = some (r, m)) : ∃ i j, d = .int i ∧ e = .int j ∧ r = .int (i - j) ∧ m = .fr := by
  unfold binD at h
  split at h <;> first
    | contradiction
    | (cases h; exact ⟨_, _, rfl, rfl, rfl, rfl⟩)
    | contradiction
    | cases h
theorem bin_fdiv {d e r : D} {m : Md} (h : binD .fdiv d e = some (r, m)) : ∃ i j, d = .int i ∧ e = .int j ∧ r = .int (i / j) ∧ m = .fr ∧ 0 < j ∧ j.natAbs.log2 < 9000 := by
  unfold binD at h
  split at h <;> first
    | contradiction
    | (split at h <;> first | (cases h; exact ⟨_, _, rfl, rfl, rfl, rfl, by assumption⟩) | cases h)
    | contradiction
    | cases h
theorem bin_mod {d e r : D} {m : Md} (h : binD .mod d e = some (r, m)) : ∃ i j, d = .int i ∧ e = .int j ∧ r = .int (i % j) ∧ m = .fr ∧ 0 < j := by
  unfold binD at h
  split at h <;> first
    | contradiction
    | (split at h <;> first | (cases h; exact ⟨_, _, rfl, rfl, rfl, rfl, by assumption⟩) | cases h)
    | contradiction
    | cases h
theorem bin_pow {d e r : D} {m : Md} (h : binD .pow d e = some (r, m)) : ∃ i j, d = .int i ∧ e = .int j ∧ r = .int (i ^ j.toNat) ∧ m = .fr ∧ 0 ≤ j ∧ (Builtin.Int.intBits i : Int) * j ≤ 2 ^ 27 := by
  unfold binD at h
  split at h <;> first
    | contradiction
    | (split at h <;> first | (cases h; exact ⟨_, _, rfl, rfl, rfl, rfl, by assumption⟩) | cases h)
    | contradiction
    | cases h
theorem s_bin {o : B2} {a b : E} {l r : Expr} {op : Operator} {pos : Pos} (S : SC X FN N sc k GL C cls) (h1 : opB o op = true) (ha : PE X l (tO X.prog X.w W cls fun g => opn a (ev GL C a g) g)) (hb : PE X r (tO X.prog X.w W cls fun g => opn b (ev GL C b g) g)) :
    PE X (.BinOp l op r pos) (tE X.prog X.w W cls (ev GL C (.bin o a b))) := by
  have e : ev GL C (.bin o a b) = fun g => (opn a (ev GL C a g) g).bd fun x g => (opn b (ev GL C b g) g).bd fun y g => ofO ((x.get g).bind fun d => (y.get g).bind fun e => binD o d.1 e.1) g := by
    funext g; rw [ev]
  rw [e]
  cases o <;> cases op <;> first | cases h1 | skip
  · refine s_op2 (op_add.or (op_catR.or op_catA)) ha hb _ fun H0 Z0 g σ H Z x y v u d m Q sr ox oy e hk => ?_
    obtain ⟨d1, m1, d2, m2, ⟨h1, n1⟩, ⟨h2, n2⟩, e⟩ := two_of sr ox oy e
    rcases bin_add e with ⟨i, j, rfl, rfl, rfl, rfl⟩ | ⟨xs, ys, rfl, rfl, rfl, rfl, hz⟩ | ⟨xs, ys, rfl, rfl, rfl, rfl, hz⟩
    · exact .inl ⟨_, _, h1.int, h2.int, fin_val (K := fun _ _ _ _ => True) sr hk (.int _)⟩
    · obtain ⟨p, vs, rfl, r1, s1⟩ := h1.list sr.zh
      obtain ⟨q, ws, rfl, r2, s2⟩ := h2.list sr.zh
      exact .inr (.inl ⟨p, q, vs, ws, rfl, rfl, r1, r2, by rw [s1.length, s2.length]; exact hz, fin_list sr hk (s1.append s2)⟩)
    · obtain ⟨p, vs, rfl, r1, z1, s1⟩ := h1.tuple sr.zh n1
      obtain ⟨q, ws, rfl, r2, z2, s2⟩ := h2.tuple sr.zh n2
      refine .inr (.inr ⟨p, q, vs, ws, rfl, rfl, .of r1, .of r2, by rw [s1.length, s2.length]; exact hz, fun en => ?_, fun en en2 => ?_, fun _ _ => fin_tup sr hk (s1.append s2)⟩)
      · subst en
        cases s1
        exact fin_val (K := fun _ _ _ _ => True) sr hk (.tup z2 s2)
      · subst en2
        cases s2
        exact fin_val (K := fun _ _ _ _ => True) sr hk (by rw [List.append_nil]; exact .tup z1 s1)
  · refine s_op2 op_sub ha hb _ fun H0 Z0 g σ H Z x y v u d m Q sr ox oy e hk => ?_
    obtain ⟨d1, m1, d2, m2, ⟨h1, n1⟩, ⟨h2, n2⟩, e⟩ := two_of sr ox oy e
    obtain ⟨i, j, rfl, rfl, rfl, rfl⟩ := bin_sub e
    exact ⟨_, _, h1.int, h2.int, fin_val (K := fun _ _ _ _ => True) sr hk (.int _)⟩
  · refine s_op2 (op_mul.or (op_repR.or (op_repT0.or (op_repT1.or op_repT)))) ha hb _ fun H0 Z0 g σ H Z x y v u d m Q sr ox oy e hk => ?_
    obtain ⟨d1, m1, d2, m2, ⟨h1, n1⟩, ⟨h2, n2⟩, e⟩ := two_of sr ox oy e
    rcases bin_mul e with ⟨i, j, rfl, rfl, rfl, rfl, c⟩ | ⟨xs, j, rfl, rfl, rfl, rfl, c0, c1, c2⟩ | ⟨xs, j, rfl, rfl, rfl, rfl, c0, c1, c2, c3⟩
    · exact .inl ⟨_, _, h1.int, h2.int, mulOk_of c, fin_val (K := fun _ _ _ _ => True) sr hk (.int _)⟩
    · obtain ⟨p, vs, rfl, r1, s1⟩ := h1.list sr.zh
      exact .inr (.inl ⟨p, j, vs, rfl, h2.int, r1, c0, c1, by rw [s1.length]; exact c2, fin_list sr hk (s1.rep _)⟩)
    · obtain ⟨p, vs, rfl, r1, z1, s1⟩ := h1.tuple sr.zh n1
      have hne : vs ≠ [] := fun z => by rw [z] at s1; rw [← s1.length] at c2; simp at c2
      by_cases j0 : j = 0
      · subst j0
        exact .inr (.inr (.inl ⟨p, vs, rfl, h2.int, .of r1, hne, fin_tup sr hk .nil⟩))
      · by_cases j1 : j = 1
        · subst j1
          have e1 : (List.replicate (1 : Int).toNat xs).flatten = xs := by simp
          rw [e1] at hk
          exact .inr (.inr (.inr (.inl ⟨p, vs, rfl, h2.int, .of r1, fin_val (K := fun _ _ _ _ => True) sr hk (.tup z1 s1)⟩)))
        · exact .inr (.inr (.inr (.inr ⟨p, j, vs, rfl, h2.int, .of r1, hne, by omega, c1, by rw [s1.length]; exact c3, fin_tup sr hk (s1.rep _)⟩)))
  · refine s_op2 op_fdivW ha hb _ fun H0 Z0 g σ H Z x y v u d m Q sr ox oy e hk => ?_
    obtain ⟨d1, m1, d2, m2, ⟨h1, n1⟩, ⟨h2, n2⟩, e⟩ := two_of sr ox oy e
    obtain ⟨i, j, rfl, rfl, rfl, rfl, c⟩ := bin_fdiv e
    exact ⟨_, _, h1.int, h2.int, c, fin_val (K := fun _ _ _ _ => True) sr hk (.int _)⟩
  · refine s_op2 op_mod ha hb _ fun H0 Z0 g σ H Z x y v u d m Q sr ox oy e hk => ?_
    obtain ⟨d1, m1, d2, m2, ⟨h1, n1⟩, ⟨h2, n2⟩, e⟩ := two_of sr ox oy e
    obtain ⟨i, j, rfl, rfl, rfl, rfl, c⟩ := bin_mod e
    exact ⟨_, _, h1.int, h2.int, c, fin_val (K := fun _ _ _ _ => True) sr hk (.int _)⟩
  · refine s_op2 op_powW ha hb _ fun H0 Z0 g σ H Z x y v u d m Q sr ox oy e hk => ?_
    obtain ⟨d1, m1, d2, m2, ⟨h1, n1⟩, ⟨h2, n2⟩, e⟩ := two_of sr ox oy e
    obtain ⟨i, j, rfl, rfl, rfl, rfl, c⟩ := bin_pow e
    exact ⟨_, _, h1.int, h2.int, c, fin_val (K := fun _ _ _ _ => True) sr hk (.int _)⟩
end
end DL

set_option Elab.async false
set_option linter.all false
set_option maxRecDepth 100000
/-! D6: comparisons. -/
namespace DL
open PySem L2 PySem.Spec PyProof.Rows
variable [Cfg] [Fix]

section
variable {Z : Hp}
theorem int_key {d : D} (h : isInt d = true) : ∃ i, d = .int i := by
  cases d <;> first | exact ⟨_, rfl⟩ | cases h
theorem repks_has {kvs : List (Key × V)} {es : List (D × D)} (r : RepKs Z kvs es) (i : Int) : (valV kvs (.inl i)).isSome = hasKey es (.int i) := by
  induction kvs generalizing es with
  | nil => cases r; rfl
  | cons kv kvs ih =>
    cases r with
    | @cons k v d _ es' rv r =>
      have e := ih r
      unfold hasKey at e ⊢
      simp only [List.any_cons]
      by_cases hk : k = i
      · subst hk
        simp [valV, PyData.eqv]
      · have h1 : PyData.eqv (.int k) (.int i) = false := by simp [PyData.eqv, hk]
        rw [h1, Bool.false_or, ← e]
        simp [valV, hk]
theorem cmp_eq {d e : D} {m : Md} {c : Bool} (h : cmpD .eq d e m = some c) : eqOk d e = true ∧ c = PyData.eqv d e := by
  simp only [cmpD] at h
  split at h
  · cases h; exact ⟨by assumption, rfl⟩
  · cases h
theorem cmp_ne {d e : D} {m : Md} {c : Bool} (h : cmpD .ne d e m = some c) : eqOk d e = true ∧ c = !PyData.eqv d e := by
  simp only [cmpD] at h
  split at h
  · cases h; exact ⟨by assumption, rfl⟩
  · cases h
theorem lts_of {d e : D} {c : Bool} (h : ltS d e = some c) : (∃ i j, d = .int i ∧ e = .int j ∧ c = decide (i < j)) ∨ (∃ x y : Str, d = .str x ∧ e = .str y ∧ c = decide (x.cps.toList < y.cps.toList)) := by
  unfold ltS at h
  split at h
  · cases h; exact .inl ⟨_, _, rfl, rfl, rfl⟩
  · cases h; exact .inr ⟨_, _, rfl, rfl, rfl⟩
  · cases h
theorem orO_of {a b : Option Bool} {c : Bool} (h : orO a b = some c) : a = some c ∨ b = some c := by
  cases a with
  | none => exact .inr h
  | some x => exact .inl h
theorem plainD_of {d : D} (h : plainD d = true) : keyOk d = true ∧ d.canLay0 = true ∧ d.depth ≤ 90 := by
  unfold plainD at h
  simp only [Bool.and_eq_true, decide_eq_true_eq] at h
  exact ⟨h.1.1, h.1.2, h.2⟩
theorem ltT_of {d e : D} {c : Bool} (h : ltT d e = some c) : plainD d = true ∧ plainD e = true ∧ ltD d e = some c := by
  unfold ltT at h
  split at h
  · split at h
    · rename_i q
      rw [Bool.and_eq_true] at q
      exact ⟨q.1, q.2, by rw [ltD]; exact h⟩
    · cases h
  · cases h
theorem ltL_of {d e : D} {c : Bool} (h : ltL d e = some c) : ∃ xs ys, d = .list xs ∧ e = .list ys ∧ (∀ x ∈ xs, plainD x = true) ∧ (∀ y ∈ ys, plainD y = true) ∧ (∀ (j : Nat) (x y : D), xs[j]? = some x → ys[j]? = some y → (ltD x y).isSome = true) ∧ ltD.ltAll xs ys = some c := by
  unfold ltL at h
  split at h
  · split at h
    · rename_i xs ys q
      simp only [Bool.and_eq_true, List.all_eq_true] at q
      refine ⟨xs, ys, rfl, rfl, q.1.1, q.1.2, fun j x y hx hy => ?_, h⟩
      exact q.2 (x, y) (List.mem_of_getElem? (i := j) (by rw [List.getElem?_zip_eq_some]; exact ⟨hx, hy⟩))
    · cases h
  · cases h
theorem in_of {d e : D} {m : Md} {c : Bool} (h : cmpD.inD d e m = some c) : (∃ xs, e = .list xs ∧ SeqAt.shaped d = true ∧ SeqAt.shaped (.list xs) = true ∧ c = xs.any fun z => PyData.eqv z d) ∨
    (∃ kvs i, e = .dict kvs ∧ m ≠ .on ∧ d = .int i ∧ c = hasKey kvs d) := by
  unfold cmpD.inD at h
  split at h
  · split at h
    · rename_i q
      simp only [Bool.and_eq_true] at q
      cases h; exact .inl ⟨_, rfl, q.1, q.2, rfl⟩
    · cases h
  · split at h
    · cases h
    · split at h
      · rename_i hm q
        obtain ⟨i, rfl⟩ := int_key q
        cases h; exact .inr ⟨_, i, rfl, fun z => by subst z; exact hm rfl, rfl, rfl⟩
      · cases h
  · cases h
end
section
variable {X : Cx}
theorem op_dIn (hu : X.A.units + 1 < cLine) : OpR X (compareOp .In) (fun x y H Q => ∃ a o, y = .ref a ∧ DGet H a x o ∧ Q (.bl o.isSome) H) := fun pins s σ H x y v u Q I rx ry h => by
  obtain ⟨a, o, rfl, g, q⟩ := h
  obtain rfl : u = Value.ref a := ry
  exact d_in hu I g rx fun s3 I3 => ⟨.bl o.isSome, H, I3, rfl, q⟩
theorem op_dNin (hu : X.A.units + 1 < cLine) : OpR X (compareOp .NotIn) (fun x y H Q => ∃ a o, y = .ref a ∧ DGet H a x o ∧ Q (.bl (!o.isSome)) H) := fun pins s σ H x y v u Q I rx ry h => by
  obtain ⟨a, o, rfl, g, q⟩ := h
  obtain rfl : u = Value.ref a := ry
  exact d_notIn hu I g rx fun s3 I3 => ⟨.bl (!o.isSome), H, I3, rfl, q⟩
theorem non_iff {P : Program} {w : World} {H Z : Hp} {v : V} {d : D} {m : Md} (h : Hold P w H Z v d m) : decide (v = .non) = isNoneD d := by
  cases h with
  | fr r => cases r <;> rfl
  | owl _ _ _ => rfl
  | owd _ _ _ => rfl
  | on _ _ _ _ _ => rfl
  | ob _ => rfl
theorem not_lt_le (i j : Int) : decide (i ≤ j) = !decide (j < i) := by
  by_cases h : j < i
  · have : ¬ i ≤ j := by omega
    simp [h, this]
  · have : i ≤ j := by omega
    simp [h, this]
end
section
variable {X : Cx} {W : WX} {cls : Cls} {FN N : List Str} {sc : Scope} {k : Nat} {GL : Str → Option D} {C : Orc}
/-- < of plain data (tuples), of lists of such -/
def rLtT (K : PySem.W.Frag) (sw ng : Bool) : R2 := fun x y H Q => ∃ d e c, Dp K H x d ∧ Dp K H y e ∧ plainD d = true ∧ plainD e = true ∧ (if sw = true then ltD e d else ltD d e) = some c ∧ Q (.bl (if ng = true then !c else c)) H
def rLtL (K : PySem.W.Frag) : R2 := fun x y H Q => ∃ xs ys c, Dp K H x (.list xs) ∧ Dp K H y (.list ys) ∧ (∀ x ∈ xs, plainD x = true) ∧ (∀ y ∈ ys, plainD y = true) ∧ (∀ (j : Nat) (x y : D), xs[j]? = some x → ys[j]? = some y → (ltD x y).isSome = true) ∧ ltD.ltAll xs ys = some c ∧ Q (.bl c) H
theorem lay_list {xs : List D} (h : ∀ x ∈ xs, plainD x = true) : (PyData.list xs).canLay0 = true := by
  simp only [PyData.canLay0]
  induction xs with
  | nil => simp [PyData.canLayAll0]
  | cons x r ih => simp only [PyData.canLayAll0, Bool.and_eq_true]; exact ⟨(plainD_of (h x List.mem_cons_self)).2.1, ih fun y hy => h y (List.mem_cons_of_mem _ hy)⟩
theorem op_ltT (hu : X.A.units + 200 < cLine) : OpR X (compareOp .Lt) (rLtT X.K false false) := fun pins s σ H x y v u Q I rx ry h => by
  obtain ⟨d, e, c, h1, h2, p1, p2, hc, q⟩ := h
  obtain ⟨as, r1⟩ := Dp.reads I d _ _ h1 rx
  obtain ⟨bs, r2⟩ := Dp.reads I e _ _ h2 ry
  have k1 := plainD_of p1
  have k2 := plainD_of p2
  exact lt_reads 90 d e c X.A s v u as bs k1.2.2 r1 r2 k1.2.1 k2.2.1 k1.1 k2.1 (by omega) hc X.prog X.w X.xe _ ⟨.bl c, H, I, rfl, q⟩
theorem op_gtT (hu : X.A.units + 200 < cLine) : OpR X (compareOp .Gt) (rLtT X.K true false) := fun pins s σ H x y v u Q I rx ry h => by
  obtain ⟨d, e, c, h1, h2, p1, p2, hc, q⟩ := h
  obtain ⟨as, r1⟩ := Dp.reads I d _ _ h1 rx
  obtain ⟨bs, r2⟩ := Dp.reads I e _ _ h2 ry
  have k1 := plainD_of p1
  have k2 := plainD_of p2
  exact gt_reads 90 d e c X.A s v u as bs k1.2.2 r1 r2 k1.2.1 k2.2.1 k1.1 k2.1 (by omega) hc X.prog X.w X.xe _ ⟨.bl c, H, I, rfl, q⟩
theorem op_leT1 (hu : X.A.units + 200 < cLine) : OpR X (compareOp .LtE) (rLtT X.K true true) := fun pins s σ H x y v u Q I rx ry h => by
  obtain ⟨d, e, c, h1, h2, p1, p2, hc, q⟩ := h
  obtain ⟨as, r1⟩ := Dp.reads I d _ _ h1 rx
  obtain ⟨bs, r2⟩ := Dp.reads I e _ _ h2 ry
  have k1 := plainD_of p1
  have k2 := plainD_of p2
  exact le_reads 90 d e c X.A s v u as bs k1.2.2 r1 r2 k1.2.1 k2.2.1 k1.1 k2.1 (by omega) hc X.prog X.w X.xe _ ⟨.bl (!c), H, I, rfl, q⟩
theorem op_ltL (hu : X.A.units + 200 < cLine) : OpR X (compareOp .Lt) (rLtL X.K) := fun pins s σ H x y v u Q I rx ry h => by
  obtain ⟨xs, ys, c, h1, h2, p1, p2, hj, hc, q⟩ := h
  obtain ⟨as, r1⟩ := Dp.reads I _ _ _ h1 rx
  obtain ⟨bs, r2⟩ := Dp.reads I _ _ _ h2 ry
  exact list_reads r1 r2 (fun x hx => plainD_of (p1 x hx)) (fun y hy => plainD_of (p2 y hy)) hj (by omega) hc X.prog X.w X.xe _ ⟨.bl c, H, I, rfl, q⟩
/-- the rules of the ten comparisons -/
def cR (K : PySem.W.Frag) : C2 → R2
  | .eq => rEqW K
  | .ne => rNeW K
  | .lt => fun x y H Q => (rI0 (fun i j => .bl (decide (i < j))) x y H Q ∨ ∃ i j, x = .str i ∧ y = .str j ∧ Q (.bl (decide (i.cps.toList < j.cps.toList))) H) ∨ (rLtT K false false x y H Q ∨ rLtL K x y H Q)
  | .gt => fun x y H Q => (rI0 (fun i j => .bl (decide (j < i))) x y H Q ∨ ∃ i j, x = .str i ∧ y = .str j ∧ Q (.bl (decide (j.cps.toList < i.cps.toList))) H) ∨ rLtT K true false x y H Q
  | .le => fun x y H Q => (rI0 (fun i j => .bl (decide (i ≤ j))) x y H Q ∨ ∃ i j, x = .str i ∧ y = .str j ∧ Q (.bl (!decide (j.cps.toList < i.cps.toList))) H) ∨ rLtT K true true x y H Q
  | .ge => fun x y H Q => rI0 (fun i j => .bl (decide (j ≤ i))) x y H Q ∨ ∃ i j, x = .str i ∧ y = .str j ∧ Q (.bl (!decide (i.cps.toList < j.cps.toList))) H
  | .isn => fun x y H Q => y = .non ∧ Q (.bl (decide (x = .non))) H
  | .notn => fun x y H Q => y = .non ∧ Q (.bl (!decide (x = .non))) H
  | .in_ => fun x y H Q => rInD K x y H Q ∨ ∃ a o, y = .ref a ∧ DGet H a x o ∧ Q (.bl o.isSome) H
  | .nin => fun x y H Q => rNotInD K x y H Q ∨ ∃ a o, y = .ref a ∧ DGet H a x o ∧ Q (.bl (!o.isSome)) H
theorem cR_ok {o : C2} {op : CmpOp} (h : opC o op = true) (hr : Room k X.A) : OpR X (compareOp op) (cR X.K o) := by
  have u1 := room200 hr
  cases o <;> cases op <;> first | cases h | skip
  · exact op_eqW u1
  · exact op_neW u1
  · exact (op_lt.or op_lt_str).or ((op_ltT u1).or (op_ltL u1))
  · exact (op_le.or op_le_str).or (op_leT1 u1)
  · exact (op_gt.or op_gt_str).or (op_gtT u1)
  · exact op_ge.or op_ge_str
  · exact op_isN
  · exact op_notN
  · exact (op_inD (by omega)).or (op_dIn (by omega))
  · exact (op_notInD (by omega)).or (op_dNin (by omega))
theorem cR_holds {P : Program} {w : World} {K : PySem.W.Frag} {o : C2} {H0 Z0 : Hp} {g : Sg} {σ : L2.St} {H Z : Hp} {v u : V} {d e : D} {m m' : Md} {c : Bool} {Q : VK} (sr : SR P w H0 Z0 g σ H Z)
    (h1 : Hold P w H Z v d m) (h2 : Hold P w H Z u e m') (n1 : NoOb d m) (n2 : NoOb e m') (hc : cmpD o d e m' = some c) (q : Q (.bl c) H) : cR K o v u H Q := by
  cases o with
  | eq =>
    obtain ⟨ok, rfl⟩ := cmp_eq hc
    obtain ⟨c1, c2, _⟩ := eqOk_of ok
    exact ⟨d, e, h1.dp sr.zh n1 c1, h2.dp sr.zh n2 c2, ok, q⟩
  | ne =>
    obtain ⟨ok, rfl⟩ := cmp_ne hc
    obtain ⟨c1, c2, _⟩ := eqOk_of ok
    exact ⟨d, e, h1.dp sr.zh n1 c1, h2.dp sr.zh n2 c2, ok, q⟩
  | lt =>
    rcases orO_of (show orO (ltS d e) (orO (ltT d e) (ltL d e)) = some c from hc) with hc | hc
    · rcases lts_of hc with ⟨i, j, rfl, rfl, rfl⟩ | ⟨i, j, rfl, rfl, rfl⟩
      · exact .inl (.inl ⟨i, j, h1.int, h2.int, q⟩)
      · exact .inl (.inr ⟨i, j, h1.str, h2.str, q⟩)
    · rcases orO_of hc with hc | hc
      · obtain ⟨p1, p2, p3⟩ := ltT_of hc
        exact .inr (.inl ⟨d, e, c, h1.dp sr.zh n1 (plainD_of p1).2.1, h2.dp sr.zh n2 (plainD_of p2).2.1, p1, p2, p3, q⟩)
      · obtain ⟨xs, ys, rfl, rfl, p1, p2, p3, p4⟩ := ltL_of hc
        exact .inr (.inr ⟨xs, ys, c, h1.dp sr.zh n1 (lay_list p1), h2.dp sr.zh n2 (lay_list p2), p1, p2, p3, p4, q⟩)
  | gt =>
    rcases orO_of (show orO (ltS e d) (ltT e d) = some c from hc) with hc | hc
    · rcases lts_of hc with ⟨i, j, rfl, rfl, rfl⟩ | ⟨i, j, rfl, rfl, rfl⟩
      · exact .inl (.inl ⟨j, i, h1.int, h2.int, q⟩)
      · exact .inl (.inr ⟨j, i, h1.str, h2.str, q⟩)
    · obtain ⟨p2, p1, p3⟩ := ltT_of hc
      exact .inr ⟨d, e, c, h1.dp sr.zh n1 (plainD_of p1).2.1, h2.dp sr.zh n2 (plainD_of p2).2.1, p1, p2, p3, q⟩
  | le =>
    have hc' : (orO (ltS e d) (ltT e d)).map (!·) = some c := hc
    rw [Option.map_eq_some_iff] at hc'
    obtain ⟨c', h', rfl⟩ := hc'
    rcases orO_of h' with hc | hc
    · rcases lts_of hc with ⟨i, j, rfl, rfl, rfl⟩ | ⟨i, j, rfl, rfl, rfl⟩
      · exact .inl (.inl ⟨j, i, h1.int, h2.int, by dsimp only; rw [not_lt_le]; exact q⟩)
      · exact .inl (.inr ⟨j, i, h1.str, h2.str, q⟩)
    · obtain ⟨p2, p1, p3⟩ := ltT_of hc
      exact .inr ⟨d, e, c', h1.dp sr.zh n1 (plainD_of p1).2.1, h2.dp sr.zh n2 (plainD_of p2).2.1, p1, p2, p3, q⟩
  | ge =>
    have hc' : (ltS d e).map (!·) = some c := hc
    rw [Option.map_eq_some_iff] at hc'
    obtain ⟨c', h', rfl⟩ := hc'
    rcases lts_of h' with ⟨i, j, rfl, rfl, rfl⟩ | ⟨i, j, rfl, rfl, rfl⟩
    · exact .inl ⟨i, j, h1.int, h2.int, by dsimp only; rw [not_lt_le]; exact q⟩
    · exact .inr ⟨i, j, h1.str, h2.str, q⟩
  | isn =>
    simp only [cmpD] at hc
    split at hc
    · cases hc
      exact ⟨h2.none, by rw [non_iff h1]; exact q⟩
    · cases hc
  | notn =>
    simp only [cmpD] at hc
    split at hc
    · cases hc
      exact ⟨h2.none, by rw [non_iff h1]; exact q⟩
    · cases hc
  | in_ =>
    rcases in_of (show cmpD.inD d e m' = some c from hc) with ⟨xs, rfl, s1, s2, rfl⟩ | ⟨kvs, i, rfl, hm, rfl, rfl⟩
    · exact .inl ⟨d, xs, h1.dp sr.zh n1 (SeqAt.canLay_of_shaped s1), h2.dp sr.zh n2 (SeqAt.canLay_of_shaped s2), s1, s2, q⟩
    · obtain ⟨a, ks, rfl, e1, r⟩ := h2.dict sr.zh hm
      rw [h1.int]
      exact .inr ⟨a, _, rfl, DGet.k (k := .inl i) e1, by rw [repks_has r]; exact q⟩
  | nin =>
    have hc' : (cmpD.inD d e m').map (!·) = some c := hc
    rw [Option.map_eq_some_iff] at hc'
    obtain ⟨c', h', rfl⟩ := hc'
    rcases in_of h' with ⟨xs, rfl, s1, s2, rfl⟩ | ⟨kvs, i, rfl, hm, rfl, rfl⟩
    · exact .inl ⟨d, xs, h1.dp sr.zh n1 (SeqAt.canLay_of_shaped s1), h2.dp sr.zh n2 (SeqAt.canLay_of_shaped s2), s1, s2, q⟩
    · obtain ⟨a, ks, rfl, e1, r⟩ := h2.dict sr.zh hm
      rw [h1.int]
      exact .inr ⟨a, _, rfl, DGet.k (k := .inl i) e1, by rw [repks_has r]; exact q⟩
theorem s_cmp {o : C2} {a b : E} {l r : Expr} {op : CmpOp} {pos : Pos} (S : SC X FN N sc k GL C cls) (h1 : opC o op = true) (hm : behindInMarks op r = false) (ha : PE X l (tO X.prog X.w W cls fun g => opn a (ev GL C a g) g)) (hb : PE X r (tO X.prog X.w W cls fun g => opn b (ev GL C b g) g)) :
    PE X (.Compare l [op] [r] pos) (tE X.prog X.w W cls (ev GL C (.cmp o a b))) ∧ PT X (.Compare l [op] [r] pos) (tT X.prog X.w W cls (ev GL C (.cmp o a b))) := by
  have e : ev GL C (.cmp o a b) = fun g => (opn a (ev GL C a g) g).bd fun x g => (opn b (ev GL C b g) g).bd fun y g => ofO ((x.get g).bind fun d => (y.get g).bind fun e => (cmpD o d.1 e.1 e.2).map fun c => (.bool c, .fr)) g := by
    funext g; rw [ev]
  rw [e]
  have key : ∀ (H0 Z0 : Hp) (g : Sg) (σ : L2.St) (H Z : Hp) (x y : Opn) (v u : V) (d : D) (m : Md) (Q : VK), SR X.prog X.w H0 Z0 g σ H Z → OO σ Z v x → OO σ Z u y →
      ((x.get g).bind fun d => (y.get g).bind fun e => (cmpD o d.1 e.1 e.2).map fun c => ((.bool c, .fr) : D × Md)) = some (d, m) →
      (∀ H' Z', SR X.prog X.w H0 Z0 g σ H' Z' → Same Z Z' → ∀ v, Out X.prog X.w H0 g σ H' Z' v d m → Q v H') → cR X.K o v u H Q := by
    intro H0 Z0 g σ H Z x y v u d m Q sr ox oy e hk
    obtain ⟨d1, m1, d2, m2, ⟨h1, n1⟩, ⟨h2, n2⟩, e⟩ := two_of sr ox oy e
    rw [Option.map_eq_some_iff] at e
    obtain ⟨c, hc, e⟩ := e
    cases e
    exact cR_holds sr h1 h2 n1 n2 hc (fin_val (K := fun _ _ _ _ => True) sr hk (.bl c))
  exact ⟨s_cmp2 (cR_ok h1 S.room) ha hb hm _ key, s_tst2 (cR_ok h1 S.room) ha hb hm _ key⟩
end
end DL

set_option Elab.async false
set_option linter.all false
set_option maxRecDepth 100000
/-! D7: displays, and, or, not, conditional expressions, subscripts, slices, calls, built-ins, methods of lists. -/
namespace DL
open PySem L2 PySem.Spec PyProof.Rows
variable [Cfg] [Fix]

section
variable {X : Cx} {W : WX} {cls : Cls} {FN N : List Str} {sc : Scope} {k : Nat} {GL : Str → Option D} {C : Orc} {pos : Pos}
theorem pe_or' {e : Expr} {t t' : TE} (h : PE X e t) (h' : PE X e t') : PE X e (fun σ H Q => t σ H Q ∨ t' σ H Q) := ⟨fun pins s σ H Q I q => q.elim (h.run pins s σ H Q I) (h'.run pins s σ H Q I)⟩
theorem CallR.or' {f : Value} {r r' : List V → Hp → VK → Prop} (h : CallR X f r) (h' : CallR X f r') : CallR X f (fun x H Q => r x H Q ∨ r' x H Q) := fun pins s σ H vs us Q I rv q => q.elim (h pins s σ H vs us Q I rv) (h' pins s σ H vs us Q I rv)

/-! ### lists of expressions -/
theorem s_nil : PA X [] (tA X.prog X.w W cls (evs GL C .nil)) := pa_to pa_nil fun σ H Q ⟨H0, Z0, g, Z, sr, po⟩ => by
  rw [evs] at po
  exact po H Z sr (Same.refl _) [] .nil
theorem s_cons {a r : E} {e : Expr} {es : List Expr} (hs : isStar e = false) (ha : PE X e (tE X.prog X.w W cls (ev GL C a))) (hr : PA X es (tA X.prog X.w W cls (evs GL C r))) : PA X (e :: es) (tA X.prog X.w W cls (evs GL C (.cons a r))) :=
  pa_to (pa_cons (shared ha) hr (star_no hs)) fun σ H Q ⟨H0, Z0, g, Z, sr, po⟩ => by
    rw [evs] at po
    refine ⟨H0, Z0, g, Z, sr, po.bd.mono fun p g1 H1 Z1 sr1 zz po1 => ?_⟩
    by_cases c : p.2 = .on
    · rw [if_pos c] at po1; exact po1.elim
    · rw [if_neg c] at po1
      exact ⟨c, fun v rv => ⟨H0, Z0, g1, Z1, sr1, po1.bd.mono fun ds g2 H2 Z2 sr2 zz2 hk vs rs => hk H2 Z2 sr2 (Same.refl _) (v :: vs) (.cons (rv.up zz2) rs)⟩⟩
theorem s_tup {es : E} {elts : List Expr} {n : Nat} (h : PA X elts (tA X.prog X.w W cls (evs GL C es))) : PE X (.Tuple elts n pos) (tE X.prog X.w W cls (ev GL C (.tup es))) := pe_to (pe_tup h) fun σ H Q ⟨H0, Z0, g, Z, sr, po⟩ => by
  rw [ev] at po
  refine ⟨H0, Z0, g, Z, sr, po.bd.mono fun ds g1 H1 Z1 sr1 zz po1 vs rs => ?_⟩
  split at po1
  · exact ⟨by rw [rs.length]; assumption, fin_tup sr1 po1 rs⟩
  · exact po1.elim
theorem s_lst {es : E} {elts : List Expr} (h : PA X elts (tA X.prog X.w W cls (evs GL C es))) : PE X (.List elts pos) (tE X.prog X.w W cls (ev GL C (.lst es))) := pe_to (pe_lst h) fun σ H Q ⟨H0, Z0, g, Z, sr, po⟩ => by
  rw [ev] at po
  refine ⟨H0, Z0, g, Z, sr, po.bd.mono fun ds g1 H1 Z1 sr1 zz po1 vs rs => ?_⟩
  split at po1
  · exact ⟨by rw [rs.length]; assumption, fin_list sr1 po1 rs⟩
  · exact po1.elim

/-! ### constants -/
theorem s_int {i : Int} {n : Nat} : PE X (.Constant (.int i) n pos) (tE X.prog X.w W cls (ev GL C (.int i))) := pe_to pe_int fun σ H Q ⟨H0, Z0, g, Z, sr, po⟩ => by
  rw [ev] at po; exact po H Z sr (Same.refl _) _ (Out.fr (.int i))
theorem s_neg {i : Int} {n : Nat} {p : Pos} : PE X (.UnaryOp .USub (.Constant (.int i) n p) pos) (tE X.prog X.w W cls (ev GL C (.int (-i)))) := pe_to (pe_un un_neg pe_int) fun σ H Q ⟨H0, Z0, g, Z, sr, po⟩ => by
  rw [ev] at po; exact ⟨i, rfl, po H Z sr (Same.refl _) _ (Out.fr (.int (-i)))⟩
theorem s_str {x : Str} {n : Nat} : PE X (.Constant (.str x) n pos) (tE X.prog X.w W cls (ev GL C (.str x))) := pe_to pe_str fun σ H Q ⟨H0, Z0, g, Z, sr, po⟩ => by
  rw [ev] at po; exact po H Z sr (Same.refl _) _ (Out.fr (.str x))
theorem s_bl {b : Bool} {n : Nat} : PE X (.Constant (.bool b) n pos) (tE X.prog X.w W cls (ev GL C (.bl b))) := pe_to pe_bl fun σ H Q ⟨H0, Z0, g, Z, sr, po⟩ => by
  rw [ev] at po; exact po H Z sr (Same.refl _) _ (Out.fr (.bl b))
theorem s_non {n : Nat} : PE X (.Constant .none n pos) (tE X.prog X.w W cls (ev GL C .non)) := pe_to pe_non fun σ H Q ⟨H0, Z0, g, Z, sr, po⟩ => by
  rw [ev] at po; exact po H Z sr (Same.refl _) _ (Out.fr .non)
theorem s_glob {x : Str} (S : SC X FN N sc k GL C cls) (h : gloB sc x = true) : PE X (.Name x pos) (tE X.prog X.w W cls (ev GL C (.glob x))) := by
  by_cases c : ∃ i, GL x = some (.int i)
  · obtain ⟨i, hd⟩ := c
    obtain ⟨t, h1⟩ := S.ft.gl x i hd
    refine pe_to (pe_glob (v := .int i) (S.gl h) h1 ⟨t, rfl⟩ (glo_of h).2.1) fun σ H Q ⟨H0, Z0, g, Z, sr, po⟩ => ?_
    rw [ev, hd] at po
    exact po H Z sr (Same.refl _) _ (Out.fr (.int i))
  · refine ⟨fun pins s σ H Q I ⟨H0, Z0, g, Z, sr, po⟩ => ?_⟩
    rw [ev] at po
    cases q : GL x with
    | none => rw [q] at po; exact po.elim
    | some d =>
      rw [q] at po
      cases d <;> first | exact po.elim | exact absurd ⟨_, q⟩ c

/-! ### a dict of the module by texts -/
theorem isDictO_of {o : Option D} (h : isDictO o = true) : ∃ es, o = some (.dict es) := by
  unfold isDictO at h
  split at h
  · exact ⟨_, rfl⟩
  · cases h
theorem gnin_of {o : Option D} {d : D} {r : D × Md} (h : gninD o d = some r) : ∃ es k, o = some (.dict es) ∧ d = .str k ∧ ((getKey es (.str k) = some .none ∧ r = (.bool true, .fr)) ∨ ∃ y, getKey es (.str k) = some (.str y) ∧ r = (.bool false, .fr)) := by
  unfold gninD at h
  split at h
  · split at h
    · cases h; exact ⟨_, _, rfl, rfl, .inl ⟨by assumption, rfl⟩⟩
    · cases h; exact ⟨_, _, rfl, rfl, .inr ⟨_, by assumption, rfl⟩⟩
    · cases h
  · cases h
theorem gix_of {o : Option D} {d : D} {r : D × Md} (h : gixD o d = some r) : ∃ es k y, o = some (.dict es) ∧ d = .str k ∧ getKey es (.str k) = some (.str y) ∧ r = (.str y, .fr) := by
  unfold gixD at h
  split at h
  · split at h
    · cases h; exact ⟨_, _, _, rfl, rfl, by assumption, rfl⟩
    · cases h
  · cases h
theorem s_gnin {x : Str} {a : E} {e : Expr} {p : Pos} (S : SC X FN N sc k GL C cls) (h : gloB sc x = true) (hm : behindInMarks .NotIn (.Name x p) = false) (ha : PE X e (tE X.prog X.w W cls (ev GL C a))) :
    PE X (.Compare e [.NotIn] [.Name x p] pos) (tE X.prog X.w W cls (ev GL C (.gnin x a))) ∧ PT X (.Compare e [.NotIn] [.Name x p] pos) (tT X.prog X.w W cls (ev GL C (.gnin x a))) := by
  by_cases c : ∃ es, GL x = some (.dict es)
  · obtain ⟨es, hd⟩ := c
    obtain ⟨d, ar, n, G⟩ := S.ft.gd x es hd
    have hdo : isDictO (GL x) = true := by rw [hd]; rfl
    have nm := pe_glob (X := X) (pos := p) (v := .ref d) (S.gl h) G.mg rfl (glo_of h).2.1
    have key : ∀ (q : D × Md) (r : D × Md) (H0 Z0 H Z : Hp) (g : Sg) (σ : L2.St) (v : V) (Q : VK), SR X.prog X.w H0 Z0 g σ H Z → Out X.prog X.w H0 g σ H Z v q.1 q.2 → gninD (GL x) q.1 = some r → ∀ b, r = (.bool b, .fr) → Q (.bl b) H →
        ∃ (z : Str) (r : Option Value), v = .str z ∧ V.ref d = .ref d ∧ PySem.W.nsIn X.K d z = some r ∧ Q (.bl (!r.isSome)) H := fun q r H0 Z0 H Z g σ v Q sr ov e b eb hQ => by
      obtain ⟨es', z, e1, e2, e3⟩ := gnin_of e
      rw [hd] at e1
      cases e1
      obtain ⟨q1, q2⟩ := q
      simp only at e2
      subst e2
      rcases e3 with ⟨e3, rfl⟩ | ⟨y, e3, rfl⟩
      · cases eb; exact ⟨z, none, ov.hold.str, rfl, G.no z e3, hQ⟩
      · obtain ⟨t, e4⟩ := G.yes z y e3
        cases eb; exact ⟨z, some (.str y t), ov.hold.str, rfl, e4, hQ⟩
    refine ⟨pe_to (pe_cmpR (op_notIn_kd G.kd) ha nm hm) fun σ H Q ⟨H0, Z0, g, Z, sr, po⟩ => ?_, pt_to (pt_cmpR (op_notIn_kd G.kd) ha nm hm) fun σ H Q ⟨H0, Z0, g, Z, sr, po⟩ => ?_⟩
    · rw [ev, if_pos hdo] at po
      refine ⟨H0, Z0, g, Z, sr, po.bd.mono fun q g1 H1 Z1 sr1 zz po1 v ov => ?_⟩
      obtain ⟨r, e, hk⟩ := po1.ofO
      obtain ⟨_, _, _, _, e3⟩ := gnin_of e
      rcases e3 with ⟨_, rfl⟩ | ⟨_, _, rfl⟩
      · exact key q _ H0 Z0 H1 Z1 g1 σ v Q sr1 ov e _ rfl (hk H1 Z1 sr1 (Same.refl _) _ (Out.fr (.bl true)))
      · exact key q _ H0 Z0 H1 Z1 g1 σ v Q sr1 ov e _ rfl (hk H1 Z1 sr1 (Same.refl _) _ (Out.fr (.bl false)))
    · rw [ev, if_pos hdo] at po
      refine ⟨H0, Z0, g, Z, sr, po.bd.mono fun q g1 H1 Z1 sr1 zz po1 v ov => ?_⟩
      obtain ⟨r, e, hk⟩ := po1.ofO
      obtain ⟨c, ec, hq⟩ := hk H1 Z1 sr1 (Same.refl _)
      obtain ⟨_, _, _, _, e3⟩ := gnin_of e
      rcases e3 with ⟨_, rfl⟩ | ⟨_, _, rfl⟩
      · cases ec; exact key q _ H0 Z0 H1 Z1 g1 σ v (fun x H' => ∃ k, x = V.bl k ∧ Q k H') sr1 ov e _ rfl ⟨_, rfl, hq⟩
      · cases ec; exact key q _ H0 Z0 H1 Z1 g1 σ v (fun x H' => ∃ k, x = V.bl k ∧ Q k H') sr1 ov e _ rfl ⟨_, rfl, hq⟩
  · have no : isDictO (GL x) = false := by
      cases q : isDictO (GL x) with
      | false => rfl
      | true => exact absurd (isDictO_of q) c
    have e1 : ∀ g, ev GL C (.gnin x a) g = .stuck := fun g => by rw [ev, no]; rfl
    exact ⟨⟨fun pins s σ H Q I ⟨H0, Z0, g, Z, sr, po⟩ => by rw [e1] at po; exact po.elim⟩, ⟨fun pins s σ H Q I ⟨H0, Z0, g, Z, sr, po⟩ => by rw [e1] at po; exact po.elim⟩⟩

/-! ### and, or, not, a if t else b -/
theorem bool_res {K : D × Md → Sg → Hp → Hp → Prop} {P : Program} {w : World} {σ : L2.St} {H0 Z0 Z : Hp} {p : D × Md} {g : Sg} {f1 f2 : Res (D × Md)} {H : Hp} {v : V}
    (po : Po P w W cls σ H0 Z0 Z (match p.1 with | .bool true => f1 | .bool false => f2 | _ => .stuck) K) (ov : Out P w H0 g σ H Z v p.1 p.2) :
    ∃ c, p.1 = .bool c ∧ v = .bl c ∧ Po P w W cls σ H0 Z0 Z (if c = true then f1 else f2) K := by
  obtain ⟨d, m⟩ := p
  cases d with
  | bool c => exact ⟨c, rfl, ov.hold.bool, by cases c <;> exact po⟩
  | _ => exact po.elim
theorem s_not {a : E} {e : Expr} (h : PE X e (tE X.prog X.w W cls (ev GL C a))) : PE X (.UnaryOp .Not e pos) (tE X.prog X.w W cls (ev GL C (.not_ a))) := pe_to (pe_not h) fun σ H Q ⟨H0, Z0, g, Z, sr, po⟩ => by
  rw [ev] at po
  refine ⟨H0, Z0, g, Z, sr, po.bd.mono fun p g1 H1 Z1 sr1 zz po1 v ov => ?_⟩
  obtain ⟨d, m⟩ := p
  cases d with
  | bool c => exact ⟨c, ov.hold.bool, po1 H1 Z1 sr1 (Same.refl _) _ (Out.fr (.bl (!c)))⟩
  | _ => exact po1.elim
theorem s_notT {a : E} {e : Expr} (h : PT X e (tT X.prog X.w W cls (ev GL C a))) : PT X (.UnaryOp .Not e pos) (tT X.prog X.w W cls (ev GL C (.not_ a))) := pt_to (pt_not h) fun σ H Q ⟨H0, Z0, g, Z, sr, po⟩ => by
  rw [ev] at po
  refine ⟨H0, Z0, g, Z, sr, po.bd.mono fun p g1 H1 Z1 sr1 zz po1 => ?_⟩
  obtain ⟨d, m⟩ := p
  cases d with
  | bool c =>
    obtain ⟨c', e, q⟩ := po1 H1 Z1 sr1 (Same.refl _)
    cases e
    exact ⟨c, rfl, q⟩
  | _ => exact po1.elim
theorem s_tst {a : E} {e : Expr} (hn : isTst e = false) (h : PE X e (tE X.prog X.w W cls (ev GL C a))) : PT X e (tT X.prog X.w W cls (ev GL C a)) := pt_to (pt_val h (plain_tst hn)) fun σ H Q ⟨H0, Z0, g, Z, sr, po⟩ => by
  refine ⟨H0, Z0, g, Z, sr, po.mono fun p g1 H1 Z1 sr1 zz q v ov => ?_⟩
  obtain ⟨c, e, q⟩ := q
  have hh := ov.hold
  rw [e] at hh
  exact ⟨c, hh.bool, q⟩
theorem s_ite {t a b : E} {c x y : Expr} (hc : PT X c (tT X.prog X.w W cls (ev GL C t))) (ha : PE X x (tE X.prog X.w W cls (ev GL C a))) (hb : PE X y (tE X.prog X.w W cls (ev GL C b))) : PE X (.IfExp c x y pos) (tE X.prog X.w W cls (ev GL C (.ite t a b))) := pe_to (pe_ifExp hc ha hb) fun σ H Q ⟨H0, Z0, g, Z, sr, po⟩ => by
  rw [ev] at po
  refine ⟨H0, Z0, g, Z, sr, po.bd.mono fun p g1 H1 Z1 sr1 zz po1 => ?_⟩
  obtain ⟨d, m⟩ := p
  cases d with
  | bool c =>
    refine ⟨c, rfl, ?_⟩
    cases c with
    | true => exact iteT ⟨H0, Z0, g1, Z1, sr1, po1⟩
    | false => exact iteF ⟨H0, Z0, g1, Z1, sr1, po1⟩
  | _ => exact po1.elim
/-- the parts of an and, of an or -/
inductive EL (X : Cx) (W : WX) (cls : Cls) (GL : Str → Option D) (C : Orc) : E → List Expr → Prop
  | nil : EL X W cls GL C .nil []
  | cons {a r : E} {e : Expr} {es : List Expr} : PE X e (tE X.prog X.w W cls (ev GL C a)) → PT X e (tT X.prog X.w W cls (ev GL C a)) → EL X W cls GL C r es → EL X W cls GL C (.cons a r) (e :: es)
theorem one_bool {a : E} {g : Sg} {K : D × Md → Sg → Hp → Hp → Prop} {P : Program} {w : World} {σ : L2.St} {H0 Z0 Z : Hp}
    (po : Po P w W cls σ H0 Z0 Z ((ev GL C a g).bd fun p g => match p.1 with | .bool c => .ok (.bool c, .fr) g | _ => .stuck) K) :
    Po P w W cls σ H0 Z0 Z (ev GL C a g) fun p g' H' Z' => ∃ c, p.1 = .bool c ∧ K (.bool c, .fr) g' H' Z' := po.bd.mono fun p g1 H1 Z1 sr1 zz po1 => by
  obtain ⟨d, m⟩ := p
  cases d with
  | bool c => exact ⟨c, rfl, po1 H1 Z1 sr1 (Same.refl _)⟩
  | _ => exact po1.elim
theorem s_and : ∀ {es : E} {vs : List Expr}, EL X W cls GL C es vs → isNilE es = false → PE X (.BoolOp .And vs pos) (tE X.prog X.w W cls (evAnd GL C es)) ∧ PW X (.BoolOp .And vs pos) (tT X.prog X.w W cls (evAnd GL C es))
  | _, _, .nil, h => by cases h
  | _, _, .cons (a := a) h1 h2 .nil, _ => by
    refine ⟨pe_to (pe_one h1) fun σ H Q ⟨H0, Z0, g, Z, sr, po⟩ => ?_, pw_to (pw_and1 h2) fun σ H Q ⟨H0, Z0, g, Z, sr, po⟩ => ?_⟩
    · rw [evAnd] at po
      refine ⟨H0, Z0, g, Z, sr, (one_bool po).mono fun p g1 H1 Z1 sr1 zz q v ov => ?_⟩
      obtain ⟨c, e, q⟩ := q
      have hh := ov.hold
      rw [e] at hh
      rw [hh.bool]
      exact q _ (Out.fr (.bl c))
    · rw [evAnd] at po
      refine ⟨H0, Z0, g, Z, sr, (one_bool po).mono fun p g1 H1 Z1 sr1 zz q => ?_⟩
      obtain ⟨c, e, c', e', q⟩ := q
      cases e'
      exact ⟨c, e, q⟩
  | _, _, .cons (a := a) h1 h2 (.cons (a := a') (r := r') g1 g2 t), _ => by
    obtain ⟨i1, i2⟩ := s_and (.cons g1 g2 t) rfl
    have ee : ∀ g, evAnd GL C (.cons a (.cons a' r')) g = (ev GL C a g).bd fun p g => match p.1 with | .bool true => evAnd GL C (.cons a' r') g | .bool false => .ok (.bool false, .fr) g | _ => .stuck := fun g => by
      rw [evAnd] <;> first | rfl | (intro h; cases h)
    refine ⟨pe_to (pe_and h1 i1) fun σ H Q ⟨H0, Z0, g, Z, sr, po⟩ => ?_, pw_to (pw_and h2 i2) fun σ H Q ⟨H0, Z0, g, Z, sr, po⟩ => ?_⟩
    · rw [ee] at po
      refine ⟨H0, Z0, g, Z, sr, po.bd.mono fun p g1 H1 Z1 sr1 zz po1 v ov => ?_⟩
      obtain ⟨c, e, ev, po2⟩ := bool_res po1 ov
      refine ⟨c, ev, ?_⟩
      cases c with
      | true => exact iteT ⟨H0, Z0, g1, Z1, sr1, po2⟩
      | false => exact iteF (po2 H1 Z1 sr1 (Same.refl _) _ (Out.fr (.bl false)))
    · rw [ee] at po
      refine ⟨H0, Z0, g, Z, sr, po.bd.mono fun p g1 H1 Z1 sr1 zz po1 => ?_⟩
      obtain ⟨d, m⟩ := p
      cases d with
      | bool c =>
        refine ⟨c, rfl, ?_⟩
        cases c with
        | true => exact iteT ⟨H0, Z0, g1, Z1, sr1, po1⟩
        | false =>
          obtain ⟨c', e, q⟩ := po1 H1 Z1 sr1 (Same.refl _)
          cases e
          exact iteF q
      | _ => exact po1.elim
theorem s_or : ∀ {es : E} {vs : List Expr}, EL X W cls GL C es vs → isNilE es = false → PE X (.BoolOp .Or vs pos) (tE X.prog X.w W cls (evOr GL C es)) ∧ PW X (.BoolOp .Or vs pos) (tT X.prog X.w W cls (evOr GL C es))
  | _, _, .nil, h => by cases h
  | _, _, .cons (a := a) h1 h2 .nil, _ => by
    refine ⟨pe_to (pe_one h1) fun σ H Q ⟨H0, Z0, g, Z, sr, po⟩ => ?_, pw_to (pw_or1 h2) fun σ H Q ⟨H0, Z0, g, Z, sr, po⟩ => ?_⟩
    · rw [evOr] at po
      refine ⟨H0, Z0, g, Z, sr, (one_bool po).mono fun p g1 H1 Z1 sr1 zz q v ov => ?_⟩
      obtain ⟨c, e, q⟩ := q
      have hh := ov.hold
      rw [e] at hh
      rw [hh.bool]
      exact q _ (Out.fr (.bl c))
    · rw [evOr] at po
      refine ⟨H0, Z0, g, Z, sr, (one_bool po).mono fun p g1 H1 Z1 sr1 zz q => ?_⟩
      obtain ⟨c, e, c', e', q⟩ := q
      cases e'
      exact ⟨c, e, q⟩
  | _, _, .cons (a := a) h1 h2 (.cons (a := a') (r := r') g1 g2 t), _ => by
    obtain ⟨i1, i2⟩ := s_or (.cons g1 g2 t) rfl
    have ee : ∀ g, evOr GL C (.cons a (.cons a' r')) g = (ev GL C a g).bd fun p g => match p.1 with | .bool false => evOr GL C (.cons a' r') g | .bool true => .ok (.bool true, .fr) g | _ => .stuck := fun g => by
      rw [evOr] <;> first | rfl | (intro h; cases h)
    refine ⟨pe_to (pe_or h1 i1) fun σ H Q ⟨H0, Z0, g, Z, sr, po⟩ => ?_, pw_to (pw_or h2 i2) fun σ H Q ⟨H0, Z0, g, Z, sr, po⟩ => ?_⟩
    · rw [ee] at po
      refine ⟨H0, Z0, g, Z, sr, po.bd.mono fun p g1 H1 Z1 sr1 zz po1 v ov => ?_⟩
      obtain ⟨d, m⟩ := p
      cases d with
      | bool c =>
        refine ⟨c, ov.hold.bool, ?_⟩
        cases c with
        | false => exact iteF ⟨H0, Z0, g1, Z1, sr1, po1⟩
        | true => exact iteT (po1 H1 Z1 sr1 (Same.refl _) _ (Out.fr (.bl true)))
      | _ => exact po1.elim
    · rw [ee] at po
      refine ⟨H0, Z0, g, Z, sr, po.bd.mono fun p g1 H1 Z1 sr1 zz po1 => ?_⟩
      obtain ⟨d, m⟩ := p
      cases d with
      | bool c =>
        refine ⟨c, rfl, ?_⟩
        cases c with
        | false => exact iteF ⟨H0, Z0, g1, Z1, sr1, po1⟩
        | true =>
          obtain ⟨c', e, q⟩ := po1 H1 Z1 sr1 (Same.refl _)
          cases e
          exact iteT q
      | _ => exact po1.elim

/-! ### subscripts and slices -/
theorem reps_at {Z : Hp} {vs : List V} {ds : List D} {i : Int} {d : D} (r : Reps Z vs ds) (h : atI ds i = some d) : ∃ v, atI vs i = some v ∧ Rep Z v d := by
  unfold atI at h ⊢
  rw [r.length]
  cases e : ixN ds.length i with
  | none => rw [e] at h; cases h
  | some j =>
    rw [e] at h
    exact r.get h
theorem repks_get {Z : Hp} {kvs : List (Key × V)} {es : List (D × D)} (r : RepKs Z kvs es) {i : Int} {d : D} (h : getKey es (.int i) = some d) : ∃ v, valV kvs (.inl i) = some v ∧ Rep Z v d := by
  induction kvs generalizing es with
  | nil => cases r; cases h
  | cons kv kvs ih =>
    cases r with
    | @cons k v d' _ es' rv r =>
      unfold getKey at h
      rw [List.find?_cons] at h
      by_cases hk : k = i
      · subst hk
        have e1 : PyData.eqv (.int k) (.int k) = true := by simp [PyData.eqv]
        rw [e1] at h
        cases h
        exact ⟨v, by simp [valV], rv⟩
      · have e1 : PyData.eqv (.int k) (.int i) = false := by simp [PyData.eqv, hk]
        rw [e1] at h
        obtain ⟨v', h1, h2⟩ := ih r (by unfold getKey; exact h)
        exact ⟨v', by rw [← h1]; simp [valV, hk], h2⟩
theorem ix_of {d i r : D} (h : ixD d i = some r) : (∃ xs k, d = .list xs ∧ i = .int k ∧ atI xs k = some r) ∨ (∃ xs k, d = .tuple xs ∧ i = .int k ∧ atI xs k = some r) ∨ (∃ kvs k, d = .dict kvs ∧ i = .int k ∧ getKey kvs (.int k) = some r) := by
  unfold ixD at h
  split at h
  · exact .inl ⟨_, _, rfl, rfl, h⟩
  · exact .inr (.inl ⟨_, _, rfl, rfl, h⟩)
  · exact .inr (.inr ⟨_, _, rfl, rfl, h⟩)
  · cases h
theorem s_ix {a i : E} {x y : Expr} (S : SC X FN N sc k GL C cls) (hs : isSlice y = false) (ha : PE X x (tO X.prog X.w W cls fun g => opn a (ev GL C a g) g)) (hi : PE X y (tE X.prog X.w W cls (ev GL C i))) : PE X (.Subscript x y pos) (tE X.prog X.w W cls (ev GL C (.ix a i))) := by
  have u1 := room200 S.room
  have hp : PE X (.Subscript x y pos) (fun σ H Q => ∃ H0 Z0 g Z, SR X.prog X.w H0 Z0 g σ H Z ∧ Po X.prog X.w W cls σ H0 Z0 Z (ev GL C (.ix a i) g) fun p g' H' Z' => ∀ v, Out X.prog X.w H0 g' σ H' Z' v p.1 p.2 → Q v H') := by
    refine ⟨fun pins s σ H Q I q => ?_⟩
    obtain ⟨H0, Z0, g, Z, sr, po⟩ := q
    rw [ev] at po
    refine Subscript_ (thn (ha.run pins s σ H (fun v H1 => ∃ o g1 Z1, SR X.prog X.w H0 Z0 g1 σ H1 Z1 ∧ OO σ Z1 v o ∧ Po X.prog X.w W cls σ H0 Z0 Z1 ((ev GL C i g1).bd fun k g => ofO ((o.get g).bind fun d => if d.2 = .on then none else (ixD d.1 k.1).map fun r => (r, .fr)) g) fun p g' H' Z' => ∀ v, Out X.prog X.w H0 g' σ H' Z' v p.1 p.2 → Q v H') I ⟨H0, Z0, g, Z, sr, po.bd.mono fun o g1 H1 Z1 sr1 zz po1 v ov => ⟨o, g1, Z1, sr1, ov, po1⟩⟩) fun u s1 ⟨v, H1, I1, r1, o, g1, Z1, sr1, ov, po1⟩ => ?_)
    refine thn (hi.run pins s1 σ H1 (fun w' H2 => ∃ d m j r g2 Z2, SR X.prog X.w H0 Z0 g2 σ H2 Z2 ∧ m ≠ .on ∧ Hold X.prog X.w H2 Z2 v d m ∧ w' = .int j ∧ ixD d (.int j) = some r ∧ ∀ v, Rep Z2 v r → Q v H2) I1 ⟨H0, Z0, g1, Z1, sr1, po1.bd.mono fun p g2 H2 Z2 sr2 zz2 po2 w' ow => ?_⟩) fun u2 s2 ⟨w', H2, I2, r2, d, m, j, r, g2, Z2, sr2, hm, hd, ew, ed, hk⟩ => ?_
    · obtain ⟨⟨r, m'⟩, e, hk⟩ := po2.ofO
      cases q : o.get g2 with
      | none => rw [q] at e; cases e
      | some dm =>
        rw [q] at e
        have e' : (if dm.2 = .on then none else (ixD dm.1 p.1).map (fun r => ((r, Md.fr) : D × Md))) = some (r, m') := e
        split at e'
        · cases e'
        rename_i hm
        rw [Option.map_eq_some_iff] at e'
        obtain ⟨r', e1, e2⟩ := e'
        cases e2
        obtain ⟨pd, pm⟩ := p
        have hh := ow.hold
        have key : ∃ j, pd = .int j := by
          rcases ix_of e1 with ⟨_, j, _, h, _⟩ | ⟨_, j, _, h, _⟩ | ⟨_, j, _, h, _⟩ <;> exact ⟨j, h⟩
        obtain ⟨j, rfl⟩ := key
        exact ⟨dm.1, dm.2, j, r, g2, Z2, sr2, hm, (ov.up zz2).get sr2 q, hh.int, e1, fun v rv => hk H2 Z2 sr2 (Same.refl _) v (Out.fr rv)⟩
    · subst ew
      rcases ix_of ed with ⟨xs, j', rfl, ej, ea⟩ | ⟨xs, j', rfl, ej, ea⟩ | ⟨kvs, j', rfl, ej, ea⟩
      · cases ej
        obtain ⟨b, vs, rfl, rd, rs⟩ := hd.list sr2.zh
        obtain ⟨v', h1, h2⟩ := reps_at rs ea
        exact ix_list x y pins s2 σ H2 _ _ _ _ Q I2 r1 r2 ⟨b, vs, j, v', rfl, rfl, .inl rd, h1, hk v' h2⟩ (plain_ix hs _ _)
      · cases ej
        obtain ⟨b, vs, rfl, rd, zd, rs⟩ := hd.tuple sr2.zh (noOb_of hm)
        obtain ⟨v', h1, h2⟩ := reps_at rs ea
        exact ix_tup x y pins s2 σ H2 _ _ _ _ Q I2 r1 r2 ⟨b, vs, j, v', rfl, rfl, .of rd, h1, hk v' h2⟩ (plain_ix hs _ _)
      · cases ej
        obtain ⟨b, ks, rfl, e1, rs⟩ := hd.dict sr2.zh hm
        obtain ⟨v', h1, h2⟩ := repks_get rs ea
        have dg : DGet H2 b (kV (.inl j)) (some v') := by rw [← h1]; exact DGet.k e1
        obtain rfl : u = Value.ref b := r1
        exact tail_any (dict_typeIs I2 dg) PySem.F.slot_dict_getitem.lookup (d_getItem (by omega) I2 dg r2 fun w'' s' I' rw' => ⟨v', H2, I', rw', hk v' h2⟩) (plain_ix hs _ _)
  exact hp
/-- X[e], X a dict of the module -/
theorem s_gix {x : Str} {a : E} {e : Expr} {p : Pos} (S : SC X FN N sc k GL C cls) (h : gloB sc x = true) (hs : isSlice e = false) (ha : PE X e (tE X.prog X.w W cls (ev GL C a))) :
    PE X (.Subscript (.Name x p) e pos) (tE X.prog X.w W cls (ev GL C (.gix x a))) := by
  refine ⟨fun pins s σ H Q I ⟨H0, Z0, g, Z, sr, po⟩ => ?_⟩
  by_cases c : ∃ es, GL x = some (.dict es)
  · obtain ⟨es, hd⟩ := c
    obtain ⟨d, ar, n, G⟩ := S.ft.gd x es hd
    have hdo : isDictO (GL x) = true := by rw [hd]; rfl
    have nm := pe_glob (X := X) (pos := p) (v := .ref d) (S.gl h) G.mg rfl (glo_of h).2.1
    rw [ev, if_pos hdo] at po
    refine Subscript_ (thn (nm.run pins s σ H (fun v H1 => v = .ref d ∧ H1 = H) I ⟨rfl, rfl⟩) fun u s1 ⟨v, H1, I1, r1, e1, e2⟩ => ?_)
    subst e1
    rw [e2] at I1
    refine thn (ha.run pins s1 σ H (fun v H2 => ∃ z y t, v = .str z ∧ PySem.W.nsIn X.K d z = some (some (.str y t)) ∧ Q (.str y) H2) I1 ⟨H0, Z0, g, Z, sr, po.bd.mono fun q g1 H1 Z1 sr1 zz po1 v ov => ?_⟩) fun w s2 ⟨w', H2, I2, r2, z, y, t, ew, en, hq⟩ => ?_
    · obtain ⟨r, e, hk⟩ := po1.ofO
      obtain ⟨es', z, y, e1, e2, e3, rfl⟩ := gix_of e
      rw [hd] at e1
      cases e1
      obtain ⟨q1, q2⟩ := q
      simp only at e2
      subst e2
      obtain ⟨t, e4⟩ := G.yes z y e3
      exact ⟨z, y, t, ov.hold.str, e4, hk H1 Z1 sr1 (Same.refl _) _ (Out.fr (.str y))⟩
    · obtain rfl : u = Value.ref d := r1
      exact tail_any (kd_type G.kd I2) PySem.F.slot_dict_getitem.lookup (op_item_kd G.kd pins s2 σ H2 (.ref d) w' (.ref d) w Q I2 rfl r2 ⟨z, .str y t, .str y, rfl, ew, en, ⟨t, rfl⟩, hq⟩) (plain_ix hs _ _)
  · have no : isDictO (GL x) = false := by
      cases q : isDictO (GL x) with
      | false => rfl
      | true => exact absurd (isDictO_of q) c
    rw [ev, no] at po
    exact po.elim
end
end DL

set_option Elab.async false
set_option linter.all false
set_option maxRecDepth 100000
/-! D8: slices, calls, built-ins, methods of lists. -/
namespace DL
open PySem L2 PySem.Spec PyProof.Rows
variable [Cfg] [Fix]

theorem star_any {env : Env} {pos : Pos} : ∀ {es : List Expr}, (∀ e ∈ es, isStar e = false) → (backTo pos (starEach es env)).any (·.1) = false
  | [], _ => rfl
  | e :: es, h => by
    rw [star_no (h e (by simp))]
    have := star_any (env := env) (pos := pos) (es := es) fun x hx => h x (by simp [hx])
    unfold backTo at this ⊢
    simp only [List.map_cons, List.any_cons, Bool.false_or]
    exact this

section
variable {X : Cx} {W : WX} {cls : Cls} {FN N : List Str} {sc : Scope} {k : Nat} {GL : Str → Option D} {C : Orc} {pos : Pos}
def tP (P : Program) (w : World) (W : WX) (cls : Cls) (f : Sg → Res (Option Int)) : TO := fun σ H Q => ∃ H0 Z0 g Z, SR P w H0 Z0 g σ H Z ∧ Po P w W cls σ H0 Z0 Z (f g) fun o g' H' Z' => Q o H'
theorem s_part0 : PO X none (tP X.prog X.w W cls fun g => part .nil (ev GL C .nil g) g) := po_to po_none fun σ H Q ⟨H0, Z0, g, Z, sr, po⟩ => po H Z sr (Same.refl _)
theorem s_part1 {a : E} {e : Expr} (hn : isNilE a = false) (h : PE X e (tE X.prog X.w W cls (ev GL C a))) : PO X (some e) (tP X.prog X.w W cls fun g => part a (ev GL C a g) g) := po_to (po_some h) fun σ H Q ⟨H0, Z0, g, Z, sr, po⟩ => by
  have e1 : part a (ev GL C a g) g = (ev GL C a g).bd fun p g => match p.1 with | .int i => .ok (some i) g | _ => .stuck := by
    cases a <;> first | rfl | cases hn
  dsimp only at po
  rw [e1] at po
  refine ⟨H0, Z0, g, Z, sr, po.bd.mono fun p g1 H1 Z1 sr1 zz po1 v ov => ?_⟩
  obtain ⟨d, m⟩ := p
  cases d with
  | int i => exact ⟨i, ov.hold.int, po1 H1 Z1 sr1 (Same.refl _)⟩
  | _ => exact po1.elim
theorem reps_cut {Z : Hp} {vs : List V} {ds : List D} (r : Reps Z vs ds) (lo hi : Option Int) : Reps Z (cutV vs lo hi) (cutL ds lo hi) := by
  unfold cutV cutL
  rw [r.length]
  exact (r.drop _).take _
theorem cut_all {α : Type} {xs : List α} {lo hi : Option Int} (h : HT.sIx xs.length 0 lo = 0 ∧ HT.sIx xs.length xs.length hi = xs.length) : cutL xs lo hi = xs := by
  unfold cutL
  rw [h.1, h.2]
  simp
theorem s_sl {a lo hi : E} {x : Expr} {l h : Option Expr} {p2 : Pos} (ha : PE X x (tO X.prog X.w W cls fun g => opn a (ev GL C a g) g))
    (hl : PO X l (tP X.prog X.w W cls fun g => part lo (ev GL C lo g) g)) (hh : PO X h (tP X.prog X.w W cls fun g => part hi (ev GL C hi g) g)) :
    PE X (.Subscript x (.Slice l h none p2) pos) (tE X.prog X.w W cls (ev GL C (.sl a lo hi))) := pe_to (pe_slice (sl_list.or sl_tupA) ha hl hh) fun σ H Q ⟨H0, Z0, g, Z, sr, po⟩ => by
  rw [ev] at po
  refine ⟨H0, Z0, g, Z, sr, po.bd.mono fun o g1 H1 Z1 sr1 zz1 po1 v ov => ⟨H0, Z0, g1, Z1, sr1, po1.bd.mono fun l g2 H2 Z2 sr2 zz2 po2 => ⟨H0, Z0, g2, Z2, sr2, po2.bd.mono fun h g3 H3 Z3 sr3 zz3 po3 => ?_⟩⟩⟩
  obtain ⟨⟨r, m'⟩, e, hk⟩ := po3.ofO
  cases q : o.get g3 with
  | none => rw [q] at e; cases e
  | some dm =>
    rw [q] at e
    have e' : slD dm.1 l h = some (r, m') := e
    obtain ⟨hd, hno⟩ := ((ov.up zz2).up zz3).get2 sr3 q
    obtain ⟨d, m⟩ := dm
    unfold slD at e'
    split at e'
    · rename_i xs ed
      cases e'
      cases ed
      obtain ⟨b, vs, rfl, rd, rs⟩ := hd.list sr3.zh
      exact .inl ⟨b, vs, rfl, .inl rd, fin_list sr3 hk (reps_cut rs l h)⟩
    · rename_i xs ed
      cases e'
      cases ed
      obtain ⟨b, vs, rfl, rd, zd, rs⟩ := hd.tuple sr3.zh hno
      refine .inr ⟨b, vs, rfl, .of rd, fun c => ?_, fun _ => fin_tup sr3 hk (reps_cut rs l h)⟩
      rw [rs.length] at c
      refine fin_val (K := fun _ _ _ _ => True) sr3 hk ?_
      rw [cut_all c]
      exact .tup zd rs
    · cases e'

/-! ### calls -/
theorem s_call {f : Str} {es : E} {e : Expr} {args : List Expr} {p : Pos} (S : SC X FN N sc k GL C cls) (tk : Takes X W) (hg : gloB sc f = true) (hf : fnB FN f = true) (hn : ∀ x ∈ e :: args, isStar x = false)
    (ha : PA X (e :: args) (tA X.prog X.w W cls (evs GL C es))) : PE X (.Call (.Name f p) (e :: args) [] pos) (tE X.prog X.w W cls (ev GL C (.call f es))) := by
  obtain ⟨fa, fd, ps, h1, h2, h3, h4⟩ := S.ft.fn f hf
  refine pe_to (pe_callS h3 S.room (S.gl hg) h1 h2 h4 (fun σ => passAt tk σ) ha (glo_of hg).2.1 (star_no (hn e (by simp))) (star_any fun x hx => hn x (by simp [hx]))) fun σ H Q ⟨H0, Z0, g, Z, sr, po⟩ => ?_
  rw [ev] at po
  refine ⟨H0, Z0, g, Z, sr, po.bd.mono fun ds g1 H1 Z1 sr1 zz po1 vs rs => ⟨Z1, ds, sr1.zh, rs, ?_⟩⟩
  cases q : C f ds with
  | ok d m =>
    rw [q] at po1
    simp only at po1 ⊢
    split at po1
    · exact po1.elim
    · rename_i hm
      exact ⟨hm, fun v H' Z' t hh hnew => po1 H' Z' (sr1.tr t) t.zz v (own_res sr1 t hh hm hnew)⟩
  | exc c =>
    rw [q] at po1
    intro H' hs
    exact po1 H' Z1 (sr1.tr ⟨hs, Same.refl _, sr1.zh.trans hs, fun _ _ => rfl⟩) (Same.refl _)
  | stuck => rw [q] at po1; exact po1.elim

/-! ### built-ins of one argument -/
theorem s_bi1 {f : Value} {nm : Str} {a : E} {x : Expr} {p : Pos} {r : List V → Hp → VK → Prop} {id : String} (S : SC X FN N sc k GL C cls) (hg : gloB sc nm = true) (hb : nm ∈ biNames) (hv : bootBuiltins nm = some (.builtin id)) (hs : isStar x = false)
    (hc : CallR X (.builtin id) r) (ha : PE X x (tO X.prog X.w W cls fun g => opn a (ev GL C a g) g)) (F : D × Md → Option (D × Md))
    (hF : ∀ (H0 Z0 : Hp) (g : Sg) (σ : L2.St) (H Z : Hp) (v : V) (d : D) (m : Md) (d' : D) (m' : Md) (Q : VK), SR X.prog X.w H0 Z0 g σ H Z → Hold X.prog X.w H Z v d m → NoOb d m → F (d, m) = some (d', m') →
      (∀ H' Z', SR X.prog X.w H0 Z0 g σ H' Z' → Same Z Z' → ∀ v, Out X.prog X.w H0 g σ H' Z' v d' m' → Q v H') → r [v] H Q) :
    PE X (.Call (.Name nm p) [x] [] pos) (tE X.prog X.w W cls fun g => (opn a (ev GL C a g) g).bd fun x g => ofO ((x.get g).bind F) g) :=
  pe_to (pe_callB hc (S.gl hg) (S.ft.bi nm hb) hv (pa_cons ha pa_nil (star_no hs)) (glo_of hg).2.2 (glo_of hg).2.1 (star_no hs) rfl) fun σ H Q ⟨H0, Z0, g, Z, sr, po⟩ => by
    refine ⟨H0, Z0, g, Z, sr, po.bd.mono fun o g1 H1 Z1 sr1 zz1 po1 v ov => ?_⟩
    obtain ⟨⟨d', m'⟩, e, hk⟩ := po1.ofO
    cases q : o.get g1 with
    | none => rw [q] at e; cases e
    | some dm =>
      rw [q] at e
      exact hF H0 Z0 g1 σ H1 Z1 v dm.1 dm.2 d' m' Q sr1 (ov.get2 sr1 q).1 (ov.get2 sr1 q).2 e hk
theorem s_ty1 {f : Value} {nm : Str} {a : E} {x : Expr} {p : Pos} {r : List V → Hp → VK → Prop} {id : String} (S : SC X FN N sc k GL C cls) (hg : gloB sc nm = true) (hb : nm ∈ biNames) (hv : bootBuiltins nm = some (.type id)) (hs : isStar x = false)
    (hc : CallR X (.type id) r) (ha : PE X x (tO X.prog X.w W cls fun g => opn a (ev GL C a g) g)) (F : D × Md → Option (D × Md))
    (hF : ∀ (H0 Z0 : Hp) (g : Sg) (σ : L2.St) (H Z : Hp) (v : V) (d : D) (m : Md) (d' : D) (m' : Md) (Q : VK), SR X.prog X.w H0 Z0 g σ H Z → Hold X.prog X.w H Z v d m → NoOb d m → F (d, m) = some (d', m') →
      (∀ H' Z', SR X.prog X.w H0 Z0 g σ H' Z' → Same Z Z' → ∀ v, Out X.prog X.w H0 g σ H' Z' v d' m' → Q v H') → r [v] H Q) :
    PE X (.Call (.Name nm p) [x] [] pos) (tE X.prog X.w W cls fun g => (opn a (ev GL C a g) g).bd fun x g => ofO ((x.get g).bind F) g) :=
  pe_to (pe_callTy hc (S.gl hg) (S.ft.bi nm hb) hv (pa_cons ha pa_nil (star_no hs)) (glo_of hg).2.2 (glo_of hg).2.1 (star_no hs) rfl) fun σ H Q ⟨H0, Z0, g, Z, sr, po⟩ => by
    refine ⟨H0, Z0, g, Z, sr, po.bd.mono fun o g1 H1 Z1 sr1 zz1 po1 v ov => ?_⟩
    obtain ⟨⟨d', m'⟩, e, hk⟩ := po1.ofO
    cases q : o.get g1 with
    | none => rw [q] at e; cases e
    | some dm =>
      rw [q] at e
      exact hF H0 Z0 g1 σ H1 Z1 v dm.1 dm.2 d' m' Q sr1 (ov.get2 sr1 q).1 (ov.get2 sr1 q).2 e hk
theorem s_len {a : E} {x : Expr} {p : Pos} (S : SC X FN N sc k GL C cls) (hg : gloB sc "len" = true) (hs : isStar x = false) (ha : PE X x (tO X.prog X.w W cls fun g => opn a (ev GL C a g) g)) :
    PE X (.Call (.Name "len" p) [x] [] pos) (tE X.prog X.w W cls (ev GL C (.len a))) := by
  have e : ev GL C (.len a) = fun g => (opn a (ev GL C a g) g).bd fun x g => ofO ((x.get g).bind fun d => if d.2 = .on then none else (lenD d.1).map fun (n : Nat) => (((.int (n : Int)), .fr) : D × Md)) g := by funext g; rw [ev]
  rw [e]
  refine s_bi1 (f := .none) S hg (by decide) PySem.boot_len hs (CallR.or' call_len_seq call_lenD) ha _ fun H0 Z0 g σ H Z v d m d' m' Q sr h hno e hk => ?_
  dsimp only at e
  split at e
  · cases e
  rename_i hm
  rw [Option.map_eq_some_iff] at e
  obtain ⟨n, e, e2⟩ := e
  cases e2
  have fin := fun r => fin_val (d := .int n) (v := .int n) (K := fun _ _ _ _ => True) sr hk r
  unfold lenD at e
  split at e
  · cases e
    obtain ⟨b, vs, rfl, rd, rs⟩ := h.list sr.zh
    exact .inl ⟨b, vs, rfl, .inl (.inl rd), by rw [rs.length]; exact fin (.int _)⟩
  · cases e
    obtain ⟨b, vs, rfl, rd, zd, rs⟩ := h.tuple sr.zh hno
    exact .inl ⟨b, vs, rfl, .inr (.of rd), by rw [rs.length]; exact fin (.int _)⟩
  · cases e
    obtain ⟨b, ks, rfl, e1, rs⟩ := h.dict sr.zh hm
    exact .inr ⟨b, ks, rfl, e1, by rw [rs.length]; exact fin (.int _)⟩
  · cases e
theorem repks_keys {Z : Hp} : ∀ {kvs : List (Key × V)} {es : List (D × D)}, RepKs Z kvs es → Reps Z (kvs.map fun kv => kV kv.1) (es.map (·.1))
  | [], [], _ => .nil
  | [], _ :: _, r => by cases r
  | _ :: _, [], r => by cases r
  | _ :: _, _ :: _, r => by cases r with | cons a b => exact .cons (.int _) (repks_keys b)
theorem s_list {a : E} {x : Expr} {p : Pos} (S : SC X FN N sc k GL C cls) (hg : gloB sc "list" = true) (hs : isStar x = false) (ha : PE X x (tO X.prog X.w W cls fun g => opn a (ev GL C a g) g)) :
    PE X (.Call (.Name "list" p) [x] [] pos) (tE X.prog X.w W cls (ev GL C (.list a))) := by
  have e : ev GL C (.list a) = fun g => (opn a (ev GL C a g) g).bd fun x g => ofO ((x.get g).bind listD) g := by funext g; rw [ev]
  rw [e]
  refine s_ty1 (f := .none) S hg (by decide) PyProof.Rows.boot_list hs (CallR.or' call_list_of (call_list_dK S.calm)) ha _ fun H0 Z0 g σ H Z v d m d' m' Q sr h hno e hk => ?_
  unfold listD at e
  split at e
  · cases e; rename_i e; cases e
    obtain ⟨b, vs, rfl, rd, rs⟩ := h.list sr.zh
    exact .inl ⟨b, vs, rfl, .inl (.inl rd), fin_list sr hk rs⟩
  · cases e; rename_i e; cases e
    obtain ⟨b, vs, rfl, rd, zd, rs⟩ := h.tuple sr.zh hno
    exact .inl ⟨b, vs, rfl, .inr (.of rd), fin_list sr hk rs⟩
  · cases e; rename_i e; cases e
    obtain ⟨b, ks, rfl, e1, rs⟩ := h.dict sr.zh (by decide)
    exact .inr ⟨b, ks, rfl, e1, fin_list sr hk (repks_keys rs)⟩
  · cases e; rename_i e; cases e
    obtain ⟨b, ks, rfl, e1, rs⟩ := h.dict sr.zh (by decide)
    exact .inr ⟨b, ks, rfl, e1, fin_list sr hk (repks_keys rs)⟩
  · cases e
theorem s_tuple {a : E} {x : Expr} {p : Pos} (S : SC X FN N sc k GL C cls) (hg : gloB sc "tuple" = true) (hs : isStar x = false) (ha : PE X x (tO X.prog X.w W cls fun g => opn a (ev GL C a g) g)) :
    PE X (.Call (.Name "tuple" p) [x] [] pos) (tE X.prog X.w W cls (ev GL C (.tuple a))) := by
  have e : ev GL C (.tuple a) = fun g => (opn a (ev GL C a g) g).bd fun x g => ofO ((x.get g).bind tupleD) g := by funext g; rw [ev]
  rw [e]
  refine s_ty1 (f := .none) S hg (by decide) PyProof.Rows.boot_tuple hs call_tuple_of ha _ fun H0 Z0 g σ H Z v d m d' m' Q sr h hno e hk => ?_
  unfold tupleD at e
  split at e
  · cases e; rename_i e; cases e
    obtain ⟨b, vs, rfl, rd, rs⟩ := h.list sr.zh
    exact ⟨b, vs, rfl, .inl ⟨.inl rd, fin_tup sr hk rs⟩⟩
  · cases e; rename_i e; cases e
    obtain ⟨b, vs, rfl, rd, zd, rs⟩ := h.tuple sr.zh hno
    exact ⟨b, vs, rfl, .inr ⟨.of rd, fin_val (K := fun _ _ _ _ => True) sr hk (.tup zd rs)⟩⟩
  · cases e
theorem s_bi2 {nm : Str} {a b : E} {x y : Expr} {p : Pos} {r : List V → Hp → VK → Prop} {id : String} (S : SC X FN N sc k GL C cls) (hg : gloB sc nm = true) (hb : nm ∈ biNames) (hv : bootBuiltins nm = some (.builtin id)) (hs : isStar x = false) (hs2 : isStar y = false)
    (hc : CallR X (.builtin id) r) (ha : PE X x (tE X.prog X.w W cls (ev GL C a))) (hb' : PE X y (tE X.prog X.w W cls (ev GL C b))) (F : Int → Int → Int)
    (hF : ∀ (H : Hp) (i j : Int) (Q : VK), Q (.int (F i j)) H → r [.int i, .int j] H Q) :
    PE X (.Call (.Name nm p) [x, y] [] pos) (tE X.prog X.w W cls fun g => (ev GL C a g).bd fun x g => (ev GL C b g).bd fun y g => match x.1, y.1 with | .int i, .int j => .ok (.int (F i j), .fr) g | _, _ => .stuck) :=
  pe_to (pe_callB hc (S.gl hg) (S.ft.bi nm hb) hv (pa_cons ha (pa_cons hb' pa_nil (star_no hs2)) (star_no hs)) (glo_of hg).2.2 (glo_of hg).2.1 (star_no hs) (star_any fun z hz => by simp at hz; rw [hz]; exact hs2)) fun σ H Q ⟨H0, Z0, g, Z, sr, po⟩ => by
    refine ⟨H0, Z0, g, Z, sr, po.bd.mono fun q g1 H1 Z1 sr1 zz1 po1 v ov => ⟨H0, Z0, g1, Z1, sr1, po1.bd.mono fun q2 g2 H2 Z2 sr2 zz2 po2 u ou => ?_⟩⟩
    obtain ⟨d1, m1⟩ := q
    obtain ⟨d2, m2⟩ := q2
    cases d1 <;> cases d2 <;> first | exact po2.elim | skip
    rename_i i j
    rw [ov.hold.int, ou.hold.int]
    exact hF H2 i j Q (po2 H2 Z2 sr2 (Same.refl _) _ (Out.fr (.int _)))
theorem s_min {a b : E} {x y : Expr} {p : Pos} (S : SC X FN N sc k GL C cls) (hg : gloB sc "min" = true) (hs : isStar x = false) (hs2 : isStar y = false) (ha : PE X x (tE X.prog X.w W cls (ev GL C a))) (hb' : PE X y (tE X.prog X.w W cls (ev GL C b))) :
    PE X (.Call (.Name "min" p) [x, y] [] pos) (tE X.prog X.w W cls (ev GL C (.min a b))) := by
  have e : ev GL C (.min a b) = fun g => (ev GL C a g).bd fun x g => (ev GL C b g).bd fun y g => match x.1, y.1 with | .int i, .int j => .ok (.int (if j < i then j else i), .fr) g | _, _ => .stuck := by funext g; rw [ev] <;> rfl
  rw [e]
  exact s_bi2 S hg (by decide) PyProof.Rows.boot_min hs hs2 (call_min2 S.calm) ha hb' (fun i j => if j < i then j else i) fun H i j Q q => ⟨i, j, rfl, q⟩
theorem s_max {a b : E} {x y : Expr} {p : Pos} (S : SC X FN N sc k GL C cls) (hg : gloB sc "max" = true) (hs : isStar x = false) (hs2 : isStar y = false) (ha : PE X x (tE X.prog X.w W cls (ev GL C a))) (hb' : PE X y (tE X.prog X.w W cls (ev GL C b))) :
    PE X (.Call (.Name "max" p) [x, y] [] pos) (tE X.prog X.w W cls (ev GL C (.max a b))) := by
  have e : ev GL C (.max a b) = fun g => (ev GL C a g).bd fun x g => (ev GL C b g).bd fun y g => match x.1, y.1 with | .int i, .int j => .ok (.int (if j > i then j else i), .fr) g | _, _ => .stuck := by funext g; rw [ev] <;> rfl
  rw [e]
  exact s_bi2 S hg (by decide) (by decide +kernel) hs hs2 (call_max2 S.calm) ha hb' (fun i j => if j > i then j else i) fun H i j Q q => ⟨i, j, rfl, q⟩
theorem s_toInt {a : E} {x : Expr} {p : Pos} (S : SC X FN N sc k GL C cls) (hg : gloB sc "int" = true) (hs : isStar x = false) (ha : PE X x (tE X.prog X.w W cls (ev GL C a))) :
    PE X (.Call (.Name "int" p) [x] [] pos) (tE X.prog X.w W cls (ev GL C (.toInt a))) :=
  pe_to (pe_callTy call_int1 (S.gl hg) S.bi PyProof.Rows.boot_int (pa_cons ha pa_nil (star_no hs)) (glo_of hg).2.2 (glo_of hg).2.1 (star_no hs) rfl) fun σ H Q ⟨H0, Z0, g, Z, sr, po⟩ => by
    rw [ev] at po
    refine ⟨H0, Z0, g, Z, sr, po.bd.mono fun q g1 H1 Z1 sr1 zz1 po1 v ov => ?_⟩
    obtain ⟨d, m⟩ := q
    cases d <;> first | exact po1.elim | skip
    · rename_i c
      rw [ov.hold.bool]
      exact .inr ⟨c, rfl, po1 H1 Z1 sr1 (Same.refl _) _ (Out.fr (.int _))⟩
    · rename_i i
      rw [ov.hold.int]
      exact .inl ⟨i, rfl, po1 H1 Z1 sr1 (Same.refl _) _ (Out.fr (.int _))⟩
/-- the type's name as the model has it -/
def tyS : Ty → String
  | .int => "int"
  | .bool => "bool"
  | .str => "str"
  | .tuple => "tuple"
  | .list => "list"
  | .dict => "dict"
def subTy : Ty → Ty → Bool
  | .bool, .int => true
  | a, b => decide (a = b)
theorem kit_sub (s t : Ty) : kitB (tyS s) (tyS t) = some (subTy s t) := by
  cases s <;> cases t <;> decide +kernel
theorem kit_none (t : Ty) : kitB "NoneType" (tyS t) = some false := by
  cases t <;> decide +kernel
theorem hold_ty {P : Program} {w : World} {K : PySem.W.Frag} {H Z : Hp} {v : V} {d : D} {m : Md} (h : Hold P w H Z v d m) (hz : Same Z H) (hm : m ≠ .on) (t : Ty) : ∃ u, TyX K H v u ∧ PySem.W.kitOne K u (.type (tyS t)) = some (isiD d t) := by
  cases d with
  | none => rw [h.none]; exact ⟨_, .base .non, by have q := kit_none t; cases t <;> exact kit_ty q⟩
  | bool b => rw [h.bool]; exact ⟨_, .base (.bl b), by have q := kit_sub .bool t; cases t <;> exact kit_ty q⟩
  | int i => rw [h.int]; exact ⟨_, .base (.int i), by have q := kit_sub .int t; cases t <;> exact kit_ty q⟩
  | str x => rw [h.str]; exact ⟨_, .base (.str x), by have q := kit_sub .str t; cases t <;> exact kit_ty q⟩
  | list xs =>
    obtain ⟨b, vs, rfl, rd, rs⟩ := h.list hz
    refine ⟨.type "list", ?_, by have q := kit_sub .list t; cases t <;> exact kit_ty q⟩
    rcases rd with rd | ⟨o, rd⟩
    · exact .base (.lst rd)
    · exact .base (.frz rd)
  | tuple xs =>
    obtain ⟨b, vs, rfl, rd, zd, rs⟩ := h.tuple hz (noOb_of hm)
    exact ⟨_, .base (.tup rd), by have q := kit_sub .tuple t; cases t <;> exact kit_ty q⟩
  | dict es =>
    obtain ⟨b, ks, rfl, e1, rs⟩ := h.dict hz hm
    exact ⟨_, .base (.dK e1), by have q := kit_sub .dict t; cases t <;> exact kit_ty q⟩
theorem tyName_eq (t : Ty) : bootBuiltins (tyName t) = some (.type (tyS t)) ∧ tyName t ∈ biNames := by
  cases t <;> exact ⟨by decide +kernel, by decide⟩
theorem s_isi {a : E} {t : Ty} {x : Expr} {p p2 : Pos} (S : SC X FN N sc k GL C cls) (hg : gloB sc "isinstance" = true) (hg2 : gloB sc (tyName t) = true) (hs : isStar x = false) (ha : PE X x (tO X.prog X.w W cls fun g => opn a (ev GL C a g) g)) :
    PE X (.Call (.Name "isinstance" p) [x, .Name (tyName t) p2] [] pos) (tE X.prog X.w W cls (ev GL C (.isi a t))) := by
  obtain ⟨hb, hm⟩ := tyName_eq t
  refine pe_to (pe_callB call_isi (S.gl hg) S.bi PyProof.Rows.boot_isinstance (pa_cons ha (pa_cons (pe_bltn (v := .ty (tyS t)) (S.gl hg2) (S.ft.bi _ hm) hb rfl (glo_of hg2).2.2 (glo_of hg2).2.1) pa_nil rfl) (star_no hs)) (glo_of hg).2.2 (glo_of hg).2.1 (star_no hs) rfl) fun σ H Q ⟨H0, Z0, g, Z, sr, po⟩ => ?_
  rw [ev] at po
  refine ⟨H0, Z0, g, Z, sr, po.bd.mono fun o g1 H1 Z1 sr1 zz1 po1 v ov => ?_⟩
  obtain ⟨⟨d', m'⟩, e, hk⟩ := po1.ofO
  cases q : o.get g1 with
  | none => rw [q] at e; cases e
  | some dm =>
    rw [q] at e
    obtain ⟨d, m⟩ := dm
    have e' : (if m = .on then none else some ((.bool (isiD d t), .fr) : D × Md)) = some (d', m') := e
    split at e'
    · cases e'
    · rename_i hm'
      cases e'
      obtain ⟨u, h1, h2⟩ := hold_ty (K := X.K) (ov.get sr1 q) sr1.zh hm' t
      exact ⟨v, .ty (tyS t), u, .type (tyS t), isiD d t, rfl, .ty _, h1, h2, fin_val (K := fun _ _ _ _ => True) sr1 hk (.bl _)⟩

/-! ### methods of a slot's own list -/
theorem own_list {P : Program} {w : World} {H0 Z0 H Z : Hp} {g : Sg} {σ : L2.St} (sr : SR P w H0 Z0 g σ H Z) {i : Nat} (h : ownL i g = true) : ∃ p vs ds, g[i]? = some (some (.list ds, .ow)) ∧ σ[i]? = some (some (.ref p)) ∧ H p = some (.lst vs) ∧ Z p = none ∧ Reps Z vs ds := by
  unfold ownL at h
  split at h
  · rename_i ds q
    obtain ⟨v, hv, hh⟩ := sr.sl i _ _ q
    cases hh with
    | owl a b c => exact ⟨_, _, ds, q, hv, b, a, c⟩
  · cases h
theorem ownL_of {g : Sg} {i : Nat} {ds : List D} (h : g[i]? = some (some (.list ds, .ow))) : ownL i g = true := by
  unfold ownL; rw [h]
section
variable {i : Nat} {x : Str} {p apos cpos : Pos}
theorem s_pop (S : SC X FN N sc k GL C cls) (hi : N[i]? = some x) (hv : visB sc x = true) (hx : okN x = true) (hl : (apos.endLine == cpos.line) = true) :
    PE X (.Call (.Attribute (.Name x p) "pop" apos) [] [] cpos) (tE X.prog X.w W cls (ev GL C (.pop i))) := by
  obtain ⟨h4, h5⟩ := okN_of hx
  refine pe_to (pe_bm0 PySem.F.plainAttrs_list PySem.F.slot_list_pop PySem.F.type_list_pop mt_pop (pe_var (i := i) (by rw [S.hN]; exact hi) (by rw [S.sc]; exact vis_of hv) h4 h5) rfl hl) fun σ H Q ⟨H0, Z0, g, Z, sr, po⟩ => ?_
  rw [ev] at po
  split at po
  · rename_i ds q
    obtain ⟨a, vs, ds', q', hs, hp, zp, rs⟩ := own_list sr (ownL_of q)
    rw [q] at q'; cases q'
    split at po
    · rename_i d hd
      obtain ⟨v, e1, r1⟩ := rs.get hd
      refine ⟨.ref a, hs, .inl ⟨rfl, vs, .of hp⟩, a, vs, v, rfl, rfl, hp, by rw [rs.length]; exact e1, ?_⟩
      have sr' := sr.mut (p := a) (o := .lst vs.dropLast) (d' := .list ds.dropLast) q (by decide) hs (by rw [hp]; exact fun z => by cases z) (.owl zp upd_same rs.dropLast)
      exact po _ Z sr' (Same.refl _) v (Out.fr r1)
    · exact po.elim
  · exact po.elim
theorem s_clear (S : SC X FN N sc k GL C cls) (hi : N[i]? = some x) (hv : visB sc x = true) (hx : okN x = true) (hl : (apos.endLine == cpos.line) = true) :
    PE X (.Call (.Attribute (.Name x p) "clear" apos) [] [] cpos) (tE X.prog X.w W cls (ev GL C (.clear i))) := by
  obtain ⟨h4, h5⟩ := okN_of hx
  refine pe_to (pe_bm0 PySem.F.plainAttrs_list PySem.F.slot_list_clear PySem.F.type_list_clear mt_clear (pe_var (i := i) (by rw [S.hN]; exact hi) (by rw [S.sc]; exact vis_of hv) h4 h5) rfl hl) fun σ H Q ⟨H0, Z0, g, Z, sr, po⟩ => ?_
  rw [ev] at po
  split at po
  · rename_i ds q
    obtain ⟨a, vs, ds', q', hs, hp, zp, rs⟩ := own_list sr (ownL_of q)
    refine ⟨.ref a, hs, .inl ⟨rfl, vs, .of hp⟩, a, vs, rfl, rfl, hp, ?_⟩
    have sr' := sr.mut (p := a) (o := .lst []) (d' := .list []) q (by decide) hs (by rw [hp]; exact fun z => by cases z) (.owl zp upd_same .nil)
    exact po _ Z sr' (Same.refl _) _ (Out.fr .non)
  · exact po.elim
theorem few1 {e : Expr} {env : Env} (h : isStar e = false) : ((backTo cpos (starEach [e] env)).all (fun x => !x.1) && (backToKw cpos (keywordEach [] env)).all (fun x => x.1.isSome)
      && decide ([e].length + ([] : List Keyword).length + (if ([] : List Keyword).isEmpty then 0 else 1) < 30)) = true := by
  rw [star_no h]
  rfl
theorem s_append {a : E} {e : Expr} (S : SC X FN N sc k GL C cls) (hi : N[i]? = some x) (hv : visB sc x = true) (hx : okN x = true) (hl : (apos.endLine == cpos.line) = true) (hs : isStar e = false) (ha : PE X e (tE X.prog X.w W cls (ev GL C a))) :
    PE X (.Call (.Attribute (.Name x p) "append" apos) [e] [] cpos) (tE X.prog X.w W cls (ev GL C (.append i a))) := by
  obtain ⟨h4, h5⟩ := okN_of hx
  refine pe_to (pe_bm PySem.F.plainAttrs_list PySem.F.slot_list_append PySem.F.type_list_append mt_append (pe_var (i := i) (by rw [S.hN]; exact hi) (by rw [S.sc]; exact vis_of hv) h4 h5) (pa_cons (shared ha) pa_nil (star_no hs)) rfl (few1 hs) hl (star_no hs) rfl) fun σ H Q ⟨H0, Z0, g, Z, sr, po⟩ => ?_
  rw [ev] at po
  split at po
  · rename_i ho
    obtain ⟨a1, vs1, ds1, q1, hs1, hp1, zp1, rs1⟩ := own_list sr ho
    refine ⟨.ref a1, hs1, .inl ⟨rfl, vs1, .of hp1⟩, H0, Z0, g, Z, sr, po.bd.mono fun d g1 H1 Z1 sr1 zz1 po1 => ?_⟩
    split at po1
    · exact po1.elim
    · rename_i hm
      refine ⟨hm, fun u ru => ?_⟩
      split at po1
      · rename_i ds q
        obtain ⟨a2, vs, ds', q', hs2, hp, zp, rs⟩ := own_list sr1 (ownL_of q)
        rw [q] at q'; cases q'
        rw [hs1] at hs2; cases hs2
        split at po1
        · rename_i hz
          refine ⟨a1, vs, u, rfl, rfl, hp, by rw [rs.length]; exact hz, ?_⟩
          have sr' := sr1.mut (p := a1) (o := .lst (vs ++ [u])) (d' := .list (ds ++ [d.1])) q (by decide) hs1 (by rw [hp]; exact fun z => by cases z) (.owl zp upd_same (rs.append (.cons ru .nil)))
          exact po1 _ Z1 sr' (Same.refl _) _ (Out.fr .non)
        · exact po1.elim
      · exact po1.elim
  · exact po.elim
theorem s_extend {a : E} {e : Expr} (S : SC X FN N sc k GL C cls) (hi : N[i]? = some x) (hv : visB sc x = true) (hx : okN x = true) (hl : (apos.endLine == cpos.line) = true) (hs : isStar e = false) (ha : PE X e (tE X.prog X.w W cls (ev GL C a))) :
    PE X (.Call (.Attribute (.Name x p) "extend" apos) [e] [] cpos) (tE X.prog X.w W cls (ev GL C (.extend i a))) := by
  obtain ⟨h4, h5⟩ := okN_of hx
  refine pe_to (pe_bm PySem.F.plainAttrs_list PySem.F.slot_list_extend PySem.F.type_list_extend mt_extR (pe_var (i := i) (by rw [S.hN]; exact hi) (by rw [S.sc]; exact vis_of hv) h4 h5) (pa_cons ha pa_nil (star_no hs)) rfl (few1 hs) hl (star_no hs) rfl) fun σ H Q ⟨H0, Z0, g, Z, sr, po⟩ => ?_
  rw [ev] at po
  split at po
  · rename_i ho
    obtain ⟨a1, vs1, ds1, q1, hs1, hp1, zp1, rs1⟩ := own_list sr ho
    refine ⟨.ref a1, hs1, .inl ⟨rfl, vs1, .of hp1⟩, H0, Z0, g, Z, sr, po.bd.mono fun d g1 H1 Z1 sr1 zz1 po1 u ou => ?_⟩
    split at po1
    · rename_i es ds ed q
      obtain ⟨a2, vs, ds', q', hs2, hp, zp, rs⟩ := own_list sr1 (ownL_of q)
      rw [q] at q'; cases q'
      rw [hs1] at hs2; cases hs2
      split at po1
      · rename_i hz
        obtain ⟨d1, m1⟩ := d
        simp only at ed
        subst ed
        obtain ⟨b, ws, rfl, rd, rs2⟩ := ou.hold.list sr1.zh
        refine ⟨a1, b, vs, ws, rfl, rfl, hp, rd, by rw [rs.length, rs2.length]; exact hz, ?_⟩
        have rs3 : Reps Z1 ws es := rs2
        have sr' := sr1.mut (p := a1) (o := .lst (vs ++ ws)) (d' := .list (ds ++ es)) q (by decide) hs1 (by rw [hp]; exact fun z => by cases z) (.owl zp upd_same (rs.append rs3))
        exact po1 _ Z1 sr' (Same.refl _) _ (Out.fr .non)
      · exact po1.elim
    · exact po1.elim
  · exact po.elim
end
end
end DL

set_option Elab.async false
set_option linter.all false
set_option maxRecDepth 100000
/-! D9: what is walked; comprehensions. -/
namespace DL
open PySem L2 PySem.Spec PyProof.Rows
variable [Cfg] [Fix]

section
variable {X : Cx} {W : WX} {cls : Cls} {FN N : List Str} {sc : Scope} {k : Nat} {GL : Str → Option D} {C : Orc} {pos : Pos} {tg : Expr}
theorem pi_or {e : Expr} {t t' : TI} (h : PI X tg e t) (h' : PI X tg e t') : PI X tg e (fun σ H R => t σ H R ∨ t' σ H R) := ⟨fun pins s σ H R I q => q.elim (h.run pins s σ H R I) (h'.run pins s σ H R I)⟩
theorem it_list {K : PySem.W.Frag} {Z : Hp} {a : Addr} {xs : List V} {ds : List D} (h : Rd Z a (.lst xs)) (r : Reps Z xs ds) : ItOk Z (Itl K a) ds := by
  refine ⟨fun i d H e zh => ?_, fun i H zh hi => ⟨xs, .inl (Rd.same zh h), by rw [r.length]; exact hi⟩⟩
  obtain ⟨v, e1, r1⟩ := r.get e
  refine ⟨⟨xs, v, .inl (Rd.same zh h), e1⟩, fun x H' y => ⟨y.1, ?_⟩⟩
  have e2 := y.2 xs (.inl (Rd.same zh h))
  rw [e1] at e2; cases e2
  exact r1
theorem it_tup {K : PySem.W.Frag} {Z : Hp} {a : Addr} {xs : List V} {ds : List D} (h : Z a = some (.tup xs)) (r : Reps Z xs ds) : ItOk Z (Itt K a) ds := by
  refine ⟨fun i d H e zh => ?_, fun i H zh hi => ⟨xs, .of (zh _ _ h), by rw [r.length]; exact hi⟩⟩
  obtain ⟨v, e1, r1⟩ := r.get e
  refine ⟨⟨xs, v, .of (zh _ _ h), e1⟩, fun x H' y => ⟨y.1, ?_⟩⟩
  have e2 := y.2 xs (.of (zh _ _ h))
  rw [e1] at e2; cases e2
  exact r1
theorem it_rng {Z : Hp} {lo hi : Int} : ItOk Z (Itr lo (hi - lo).toNat) (rangeD lo hi) := by
  have hl : (rangeD lo hi).length = (hi - lo).toNat := by simp [rangeD]
  refine ⟨fun i d H e zh => ?_, fun i H zh hi' => by rw [hl] at hi'; exact hi'⟩
  have hi' : i < (hi - lo).toNat := by rw [← hl]; exact (List.getElem?_eq_some_iff.mp e).1
  refine ⟨hi', fun x H' y => ⟨y.1, ?_⟩⟩
  have : d = .int (lo + (i : Nat)) := by
    unfold rangeD at e
    rw [List.getElem?_map, List.getElem?_range hi'] at e
    cases e; rfl
  rw [this, y.2]
  exact .int _
theorem it_revL {K : PySem.W.Frag} {Z : Hp} {a : Addr} {xs : List V} {ds : List D} (h : Rd Z a (.lst xs)) (r : Reps Z xs ds) : ItOk Z (Itv K a xs.length) ds.reverse := by
  have hl := r.length
  refine ⟨fun i d H e zh => ?_, fun i H zh hi => by rw [List.length_reverse, ← hl] at hi; exact hi⟩
  have hi : i < ds.length := by have := (List.getElem?_eq_some_iff.mp e).1; simpa using this
  rw [List.getElem?_reverse hi] at e
  obtain ⟨v, e1, r1⟩ := r.get e
  rw [← hl] at e1
  refine ⟨⟨by omega, xs, v, .inl (Rd.same zh h), e1⟩, fun x H' y => ⟨y.1, ?_⟩⟩
  have e2 := y.2 xs (.inl (Rd.same zh h))
  rw [e1] at e2; cases e2
  exact r1
theorem it_revT {K : PySem.W.Frag} {Z : Hp} {a : Addr} {xs : List V} {ds : List D} (h : Z a = some (.tup xs)) (r : Reps Z xs ds) : ItOk Z (RT.ItvT K a xs.length) ds.reverse := by
  have hl := r.length
  refine ⟨fun i d H e zh => ?_, fun i H zh hi => by rw [List.length_reverse, ← hl] at hi; exact hi⟩
  have hi : i < ds.length := by have := (List.getElem?_eq_some_iff.mp e).1; simpa using this
  rw [List.getElem?_reverse hi] at e
  obtain ⟨v, e1, r1⟩ := r.get e
  rw [← hl] at e1
  refine ⟨⟨by omega, xs, v, .of (zh _ _ h), e1⟩, fun x H' y => ⟨y.1, ?_⟩⟩
  have e2 := y.2 xs (.of (zh _ _ h))
  rw [e1] at e2; cases e2
  exact r1
theorem s_iter {f : Sg → Res (D × Md)} {e : Expr} (h : PE X e (tE X.prog X.w W cls f)) : PI X tg e (tI X.prog X.w W cls f) := pi_to (pi_or (pi_list (shared h)) (pi_tup (shared h))) fun σ H R ⟨H0, Z0, g, Z, sr, po⟩ => by
  by_cases c : ∃ xs m g1, f g = .ok (.list xs, m) g1
  · obtain ⟨xs, m, g1, e⟩ := c
    refine .inl ⟨H0, Z0, g, Z, sr, ?_⟩
    rw [e] at po ⊢
    intro H' Z' sr' zz
    obtain ⟨hm, ds, e1, q⟩ := po H' Z' sr' zz
    refine ⟨hm, fun v r => ?_⟩
    cases e1
    cases r with
    | lst a b => exact ⟨_, rfl, ⟨_, .inl (Rd.same sr'.zh a)⟩, q _ (it_list a b)⟩
  · refine .inr ⟨H0, Z0, g, Z, sr, ?_⟩
    cases e : f g with
    | ok p g1 =>
      rw [e] at po
      intro H' Z' sr' zz
      obtain ⟨hm, ds, e1, q⟩ := po H' Z' sr' zz
      refine ⟨hm, fun v r => ?_⟩
      obtain ⟨d, m⟩ := p
      cases d with
      | list xs => exact absurd ⟨xs, m, g1, e⟩ c
      | tuple xs =>
        cases e1
        cases r with
        | tup a b => exact ⟨_, rfl, ⟨_, .of (sr'.zh _ _ a)⟩, q _ (it_tup a b)⟩
      | _ => cases e1
    | exc c' g1 => rw [e] at po; exact po
    | stuck => rw [e] at po; exact po
theorem s_rng1 {a : E} {x : Expr} {p : Pos} (S : SC X FN N sc k GL C cls) (hg : gloB sc "range" = true) (hs : isStar x = false) (ha : PE X x (tE X.prog X.w W cls (ev GL C a))) :
    PI X tg (.Call (.Name "range" p) [x] [] pos) (tI X.prog X.w W cls (ev GL C (.range1 a))) := pi_to (pi_range1 (S.gl hg) S.bi (pa_cons ha pa_nil (star_no hs)) (star_no hs)) fun σ H R ⟨H0, Z0, g, Z, sr, po⟩ => by
  rw [ev] at po
  refine ⟨H0, Z0, g, Z, sr, po.bd.mono fun q g1 H1 Z1 sr1 zz1 po1 v ov => ?_⟩
  obtain ⟨d, m⟩ := q
  cases d <;> first | exact po1.elim | skip
  rename_i j
  dsimp only at po1
  split at po1
  · rename_i hj
    have hb : -(2 ^ 62) ≤ j ∧ j < 2 ^ 62 := rngOk_of hj
    obtain ⟨hm, ds, e1, q⟩ := po1 H1 Z1 sr1 (Same.refl _)
    cases e1
    have q' := q _ (it_rng (lo := 0) (hi := j))
    rw [Int.sub_zero] at q'
    exact ⟨j, by rw [ov.hold.int], hb.1, hb.2, q'⟩
  · exact po1.elim
theorem s_rng2 {a b : E} {x y : Expr} {p : Pos} (S : SC X FN N sc k GL C cls) (hg : gloB sc "range" = true) (hs : isStar x = false) (hs2 : isStar y = false) (ha : PE X x (tE X.prog X.w W cls (ev GL C a))) (hb : PE X y (tE X.prog X.w W cls (ev GL C b))) :
    PI X tg (.Call (.Name "range" p) [x, y] [] pos) (tI X.prog X.w W cls (ev GL C (.range2 a b))) := pi_to (pi_range2 (S.gl hg) S.bi (pa_cons ha (pa_cons hb pa_nil (star_no hs2)) (star_no hs)) (by rw [star_no hs, star_no hs2] <;> rfl) (star_no hs2)) fun σ H R ⟨H0, Z0, g, Z, sr, po⟩ => by
  rw [ev] at po
  refine ⟨H0, Z0, g, Z, sr, po.bd.mono fun q g1 H1 Z1 sr1 zz1 po1 v ov => ⟨H0, Z0, g1, Z1, sr1, po1.bd.mono fun q2 g2 H2 Z2 sr2 zz2 po2 u ou => ?_⟩⟩
  obtain ⟨d, m⟩ := q
  obtain ⟨d2, m2⟩ := q2
  cases d <;> cases d2 <;> first | exact po2.elim | skip
  rename_i i j
  dsimp only at po2
  split at po2
  · rename_i hj
    rw [Bool.and_eq_true] at hj
    have h1 : -(2 ^ 62) ≤ i ∧ i < 2 ^ 62 := rngOk_of hj.1
    have h2 : -(2 ^ 62) ≤ j ∧ j < 2 ^ 62 := rngOk_of hj.2
    obtain ⟨hm, ds, e1, q⟩ := po2 H2 Z2 sr2 (Same.refl _)
    cases e1
    exact ⟨i, j, by rw [ov.hold.int, ou.hold.int], ⟨h1.1, h1.2, h2.1, h2.2⟩, q _ it_rng⟩
  · exact po2.elim
theorem s_rev {a : E} {x : Expr} {p : Pos} (S : SC X FN N sc k GL C cls) (hg : gloB sc "reversed" = true) (hs : isStar x = false) (ha : PE X x (tE X.prog X.w W cls (ev GL C a))) :
    PI X tg (.Call (.Name "reversed" p) [x] [] pos) (tI X.prog X.w W cls (ev GL C (.rev a))) := pi_to (RT.pi_revA (S.gl hg) S.bi (shared ha) (star_no hs)) fun σ H R ⟨H0, Z0, g, Z, sr, po⟩ => by
  rw [ev] at po
  refine ⟨H0, Z0, g, Z, sr, po.bd.mono fun q g1 H1 Z1 sr1 zz1 po1 => ?_⟩
  split at po1
  · exact po1.elim
  rename_i hm
  refine ⟨hm, fun v r => ?_⟩
  obtain ⟨d, m⟩ := q
  cases d <;> first | exact po1.elim | skip
  · rename_i xs
    obtain ⟨_, ds, e1, q⟩ := po1 H1 Z1 sr1 (Same.refl _)
    cases e1
    cases r with
    | lst a b => exact ⟨_, _, rfl, .inl ⟨.inl (Rd.same sr1.zh a), q _ (it_revL a b)⟩⟩
  · rename_i xs
    obtain ⟨_, ds, e1, q⟩ := po1 H1 Z1 sr1 (Same.refl _)
    cases e1
    cases r with
    | tup a b => exact ⟨_, _, rfl, .inr ⟨.of (sr1.zh _ _ a), q _ (it_revT a b)⟩⟩
end

/-! ### comprehensions -/
section
variable {P : Program} {w : World} {H0 Z0 H Z H' Z' : Hp} {g : Sg} {σ : L2.St} {v : V} {d : D} {m : Md} {p : Addr} {o : HO}
theorem hide_get {g : Sg} {i : Nat} {d : D} {m : Md} (h : (hide g)[i]? = some (some (d, m))) : m = .fr ∧ g[i]? = some (some (d, .fr)) := by
  unfold hide at h
  rw [List.getElem?_map] at h
  cases q : g[i]? with
  | none => rw [q] at h; cases h
  | some s =>
    rw [q] at h
    have h' : hide1 s = some (d, m) := by simpa using h
    unfold hide1 at h'
    split at h'
    · cases h'; exact ⟨rfl, rfl⟩
    · cases h'
/-- a block within: all that stands now is kept, the slots' own things are out of sight -/
theorem SR.block (s : SR P w H0 Z0 g σ H Z) : SR P w H Z (hide g) σ H Z := by
  refine ⟨s.zh, Same.refl _, fun _ _ => rfl, Same.refl _, by unfold hide; rw [List.length_map]; exact s.len, fun i d m e => ?_, fun i d m v b e hv a => ?_, fun i j d d' m m' v v' b e e' hv hv' a a' => ?_, fun p xs v hp e hv => absurd (hide_get e).1 (by decide)⟩
  · obtain ⟨rfl, q⟩ := hide_get e
    obtain ⟨v, hv, h⟩ := s.sl i d .fr q
    exact ⟨v, hv, h⟩
  · exact absurd (hide_get e).1 a.1
  · exact absurd (hide_get e).1 a.1
theorem SR.toTr (s : SR P w H Z g σ H' Z') : Tr H Z H' Z' := ⟨s.keep, s.z0, s.zh, s.old⟩
/-- the address L is no slot's own -/
def NotOwn (g : Sg) (σ : L2.St) (H : Hp) (L : Addr) : Prop := ∀ (j : Nat) (d' : D) (m' : Md) (v' : V), g[j]? = some (some (d', m')) → σ[j]? = some (some v') → ¬ Adr H v' m' L
theorem NotOwn.tr {L : Addr} (n : NotOwn g σ H L) (s : SR P w H0 Z0 g σ H Z) (t : Tr H Z H' Z') : NotOwn g σ H' L := fun j d' m' v' e hv a => by
  obtain ⟨v2, hv2, hh⟩ := s.sl j d' m' e
  rw [hv] at hv2; cases hv2
  exact n j d' m' v' e hv (hh.adr_tr t.hh a)
omit [Cfg] [Fix] in
theorem NotOwn.upd {L : Addr} (n : NotOwn g σ H L) : NotOwn g σ (upd H L o) L := fun j d' m' v' e hv a => by
  obtain ⟨hm, a⟩ := a
  rcases a with a | ⟨q, a, l⟩
  · exact n j d' m' v' e hv ⟨hm, .inl a⟩
  · by_cases hq : q = L
    · subst hq; exact n j d' m' v' e hv ⟨hm, .inl a⟩
    · obtain ⟨C, dx, fs, e1, e2⟩ := l
      rw [upd_ne hq] at e1
      exact n j d' m' v' e hv ⟨hm, .inr ⟨q, a, C, dx, fs, e1, e2⟩⟩
/-- an object that is no slot's is changed -/
theorem SR.other (s : SR P w H0 Z0 g σ H Z) (hz : Z p = none) (h0 : H0 p = none) (hn : NotOwn g σ H p) : SR P w H0 Z0 g σ (upd H p o) Z := by
  have back : ∀ (i : Nat) (d : D) (m : Md) (v : V) (b : Addr), g[i]? = some (some (d, m)) → σ[i]? = some (some v) → Adr (upd H p o) v m b → Adr H v m b := fun i d m v b e hv a => a.back fun q eq hm => upd_ne fun z => hn i d m v e hv ⟨hm, .inl (by rw [eq, z])⟩
  refine ⟨fun b u q => ?_, s.z0, s.old, fun b u q => ?_, s.len, fun i d m e => ?_, fun i d m v b e hv a => s.own i d m v b e hv (back i d m v b e hv a),
    fun i j d d' m m' v v' b e e' hv hv' a a' => s.inj i j d d' m m' v v' b e e' hv hv' (back i d m v b e hv a) (back j d' m' v' b e' hv' a'), s.fix⟩
  · rw [upd_ne (ne_of_none q hz)]; exact s.zh b u q
  · rw [upd_ne (ne_of_none q h0)]; exact s.keep b u q
  · obtain ⟨v, hv, h⟩ := s.sl i d m e
    refine ⟨v, hv, h.step (Same.refl _) fun q a => ?_⟩
    exact ⟨(h.adr a).1, upd_ne fun z => hn i d m v e hv (by rw [← z]; exact a)⟩
theorem freeze_len : ∀ (fz : List Nat) (g : Sg), (freeze fz g).length = g.length
  | [], _ => rfl
  | i :: fz, g => by
    show (freeze fz (frz1 g i)).length = _
    rw [freeze_len fz]
    unfold frz1
    split <;> simp
theorem SR.freeze : ∀ (fz : List Nat) {g : Sg} {Z : Hp}, SR P w H0 Z0 g σ H Z → ∃ Z', Same Z Z' ∧ SR P w H0 Z0 (DL.freeze fz g) σ H Z'
  | [], _, Z, s => ⟨Z, Same.refl _, s⟩
  | i :: fz, g, Z, s => by
    have : ∃ Z', Same Z Z' ∧ SR P w H0 Z0 (frz1 g i) σ H Z' := by
      unfold frz1
      split
      · rename_i d q
        obtain ⟨_, Z', _, zz, s', _⟩ := s.use q (by decide)
        exact ⟨Z', zz, s'⟩
      · exact ⟨Z, Same.refl _, s⟩
    obtain ⟨Z1, z1, s1⟩ := this
    obtain ⟨Z2, z2, s2⟩ := SR.freeze fz s1
    exact ⟨Z2, z1.trans z2, s2⟩
end
theorem Po.later {α : Type} {P : Program} {w : World} {W : WX} {cls : Cls} {σ : L2.St} {H0 Z0 Z Z1 : Hp} {r : Res α} {K : α → Sg → Hp → Hp → Prop} (h : Po P w W cls σ H0 Z0 Z r K) (zz : Same Z Z1) : Po P w W cls σ H0 Z0 Z1 r K := by
  cases r with
  | ok a g => exact fun H' Z' s z => h H' Z' s (zz.trans z)
  | exc c g => exact fun H' Z' s z => h H' Z' s (zz.trans z)
  | stuck => exact h
abbrev W0 : WX := fun _ _ _ _ => False
section
variable {X : Cx} {W : WX} {cls : Cls} {FN N : List Str} {sc : Scope} {k : Nat} {GL : Str → Option D} {C : Orc} {pos : Pos}
theorem SC.blk (S : SC X FN N sc k GL C cls) (s : Shared) (H : Hp) (scope : Scope) (cl : List (Str × Addr)) (c : Addr) (fp : List Addr) : SC (X.blk s H scope (compEnvC scope cl c X.env) fp) FN N (relS scope sc) k GL C cls :=
  ⟨S.hN, S.nd, by rw [← S.sc]; rfl, S.calm, S.room, S.ft⟩
/-- one item of a comprehension -/
def lcF (GL : Str → Option D) (C : Orc) (elt cond : E) (i : Nat) (g : Sg) (d : D) : Res (Option D) :=
  (iff_ cond (ev GL C cond ((hide g).set i (some (d, .fr)))) ((hide g).set i (some (d, .fr)))).bd fun c g => if c then (ev GL C elt g).bd fun p g => if p.2 = .on then .stuck else .ok (some p.1) g else .ok none g
def tI1 (P : Program) (w : World) (W : WX) (cls : Cls) (f : Sg → Res Bool) : TT := fun σ H Q => ∃ H0 Z0 g Z, SR P w H0 Z0 g σ H Z ∧ Po P w W cls σ H0 Z0 Z (f g) fun c g' H' Z' => Q c H'
theorem s_if0 : PTs X [] (tI1 X.prog X.w W cls fun g => iff_ .nil (ev GL C .nil g) g) := ⟨fun pins s σ H Q I ⟨H0, Z0, g, Z, sr, po⟩ => pts_nil.run pins s σ H Q I (po H Z sr (Same.refl _))⟩
theorem s_if1 {a : E} {e : Expr} (hn : isNilE a = false) (h : PT X e (tT X.prog X.w W cls (ev GL C a))) : PTs X [e] (tI1 X.prog X.w W cls fun g => iff_ a (ev GL C a g) g) := by
  refine ⟨fun pins s σ H Q I ⟨H0, Z0, g, Z, sr, po⟩ => (pts_one h).run pins s σ H Q I ?_⟩
  have e1 : iff_ a (ev GL C a g) g = (ev GL C a g).bd fun p g => match p.1 with | .bool c => .ok c g | _ => .stuck := by
    cases a <;> first | rfl | cases hn
  dsimp only at po
  rw [e1] at po
  refine ⟨H0, Z0, g, Z, sr, po.bd.mono fun p g1 H1 Z1 sr1 zz po1 => ?_⟩
  obtain ⟨d, m⟩ := p
  cases d with
  | bool c => exact ⟨c, rfl, po1 H1 Z1 sr1 (Same.refl _)⟩
  | _ => exact po1.elim
theorem lcGo_cons {f : D → Res (Option D)} {d : D} {ds out : List D} (h : lcGo f (d :: ds) = some out) : (∃ g, f d = .ok none g ∧ lcGo f ds = some out) ∨ ∃ e g r, f d = .ok (some e) g ∧ lcGo f ds = some r ∧ out = e :: r := by
  rw [lcGo] at h
  split at h
  · exact .inl ⟨_, by assumption, h⟩
  · rw [Option.map_eq_some_iff] at h
    obtain ⟨r, h1, h2⟩ := h
    exact .inr ⟨_, _, r, by assumption, h1, h2.symm⟩
  · cases h
theorem lc_imp {P : Program} {w : World} {elt it cond : E} {i : Nat} {fz : List Nat} (y : Str) {σ : L2.St} {H : Hp} {Q : VK} (h : tE P w W cls (ev GL C (.lc elt i it cond fz)) σ H Q) :
    tLc (tI P w W cls (ev GL C it)) (gName i) (tI1 P w W0 cls fun g => iff_ cond (ev GL C cond g) g) (tE P w W0 cls (ev GL C elt)) ([(y, i)].map (·.2)) σ H Q := by
  obtain ⟨H0, Z0, g0, Z0', sr0, po0⟩ := h
  rw [ev] at po0
  obtain ⟨Z1, zz0, sr1⟩ := sr0.freeze fz
  have po1 : Po P w W cls σ H0 Z0 Z1 ((ev GL C it (DL.freeze fz g0)).bd fun p g => if p.2 = .on then .stuck else match itemsD p.1 with
    | some ds => match lcGo (lcF GL C elt cond i g) ds with
      | some out => if out.length ≤ sizeLine then .ok (.list out, .ow) g else .stuck
      | none => .stuck
    | none => .stuck) fun p g' H' Z' => ∀ v, Out P w H0 g' σ H' Z' v p.1 p.2 → Q v H' := by
    exact po0.later zz0
  refine ⟨H0, Z0, DL.freeze fz g0, Z1, sr1, po1.bd.mono fun p g H1 Z2 sr2 zz1 po2 => ?_⟩
  split at po2
  · exact po2.elim
  rename_i hm
  refine ⟨hm, ?_⟩
  split at po2
  case h_2 => exact po2.elim
  rename_i ds hds
  refine ⟨ds, hds, fun J hJ L hL => ?_⟩
  split at po2
  case h_2 => exact po2.elim
  rename_i out hout
  split at po2
  case isFalse => exact po2.elim
  rename_i hsz
  have hk := po2
  -- the new list's address is nobody's
  have hL0 : H0 L = none := Same.free sr2.keep hL
  have hLn : NotOwn g σ (upd H1 L (.lst [])) L := fun j d' m' v' e' hv => (own_new (m := .ow) sr2 hL (by intro _ _ _ z; cases z) L ⟨by decide, .inl rfl⟩).2 j d' m' v' e' hv
  refine ⟨fun n m H => m = ds.length - n ∧ n ≤ ds.length ∧ ∃ Z acc outs rest, SR P w H0 Z0 g σ H Z ∧ NotOwn g σ H L ∧ Same Z2 Z ∧ H L = some (.lst acc) ∧ Z L = none ∧ Reps Z acc outs ∧ lcGo (lcF GL C elt cond i g) (ds.drop n) = some rest ∧ out = outs ++ rest,
    ⟨ds.length, by simp, Nat.zero_le _, Z2, [], [], out, sr2.tr (Tr.laid sr2.zh hL), hLn, Same.refl _, upd_same, zfree sr2.zh hL, .nil, hout, rfl⟩, ?_⟩
  rintro n m H ⟨rfl, hn, Z, acc, outs, rest, srn, nn, zzn, hHL, hZL, hacc, hgo, hrest⟩
  by_cases hlt : n < ds.length
  · have hd : ds[n]? = some ds[n] := List.getElem?_eq_getElem hlt
    rw [List.drop_eq_getElem_cons hlt] at hgo
    obtain ⟨j1, j2⟩ := hJ.item n ds[n] H hd (zzn.trans srn.zh)
    refine .inr ⟨j1, fun H' => ∃ m', m' < ds.length - n ∧ (m' = ds.length - (n + 1) ∧ n + 1 ≤ ds.length ∧ ∃ Z acc outs rest, SR P w H0 Z0 g σ H' Z ∧ NotOwn g σ H' L ∧ Same Z2 Z ∧ H' L = some (.lst acc) ∧ Z L = none ∧ Reps Z acc outs ∧ lcGo (lcF GL C elt cond i g) (ds.drop (n + 1)) = some rest ∧ out = outs ++ rest),
      fun H' q => q, fun x H' yl => ?_⟩
    obtain ⟨rfl, rx⟩ := j2 x H' yl
    have hw : ∀ τ : L2.St, wipe τ ([(y, i)].map (·.2)) = τ.set i none := fun τ => rfl
    refine ⟨by rw [hw, hw]; simp [List.set_set], ?_⟩
    -- the block's state
    have sb : SR P w H' Z ((hide g).set i (some (ds[n], .fr))) ((wipe σ ([(y, i)].map (·.2))).set i (some x)) H' Z := by
      have s1 := (srn.block).set (Out.fr (rx.up zzn)) i
      rw [hw, List.set_set]
      exact s1
    have post : Po P w W0 cls ((wipe σ ([(y, i)].map (·.2))).set i (some x)) H' Z Z (lcF GL C elt cond i g ds[n]) fun o _ H3 Z3 => match o with
        | none => ∃ m', m' < ds.length - n ∧ (m' = ds.length - (n + 1) ∧ n + 1 ≤ ds.length ∧ ∃ Z acc outs rest, SR P w H0 Z0 g σ H3 Z ∧ NotOwn g σ H3 L ∧ Same Z2 Z ∧ H3 L = some (.lst acc) ∧ Z L = none ∧ Reps Z acc outs ∧ lcGo (lcF GL C elt cond i g) (ds.drop (n + 1)) = some rest ∧ out = outs ++ rest)
        | some d' => ∀ v, Rep Z3 v d' → ∃ acc, H3 L = some (.lst acc) ∧ acc.length < sizeLine ∧ ∃ m', m' < ds.length - n ∧ (m' = ds.length - (n + 1) ∧ n + 1 ≤ ds.length ∧ ∃ Z acc' outs rest, SR P w H0 Z0 g σ (upd H3 L (.lst (acc ++ [v]))) Z ∧ NotOwn g σ (upd H3 L (.lst (acc ++ [v]))) L ∧ Same Z2 Z ∧ upd H3 L (.lst (acc ++ [v])) L = some (.lst acc') ∧ Z L = none ∧ Reps Z acc' outs ∧ lcGo (lcF GL C elt cond i g) (ds.drop (n + 1)) = some rest ∧ out = outs ++ rest) := by
      rcases lcGo_cons hgo with ⟨gx, e1, e2⟩ | ⟨e, gx, r, e1, e2, e3⟩
      · rw [e1]
        intro H3 Z3 sr3 zz3
        have t := sr3.toTr
        refine ⟨ds.length - (n + 1), by omega, rfl, hlt, Z3, acc, outs, rest, srn.tr t, nn.tr srn t, zzn.trans t.zz, t.hh _ _ hHL, by rw [t.old L (by rw [hHL]; exact fun z => by cases z)]; exact hZL, hacc.up t.zz, e2, hrest⟩
      · rw [e1]
        intro H3 Z3 sr3 zz3 v rv
        have t := sr3.toTr
        have h3 := t.hh _ _ hHL
        have z3 : Z3 L = none := by rw [t.old L (by rw [hHL]; exact fun z => by cases z)]; exact hZL
        have hlen : acc.length < sizeLine := by
          have := hacc.length
          rw [hrest, e3] at hsz
          simp only [List.length_append, List.length_cons] at hsz
          omega
        refine ⟨acc, h3, hlen, ds.length - (n + 1), by omega, rfl, hlt, Z3, acc ++ [v], outs ++ [e], r, (srn.tr t).other z3 hL0 (nn.tr srn t), (nn.tr srn t).upd, zzn.trans t.zz, upd_same, z3, (hacc.up t.zz).append (.cons rv .nil), e2, ?_⟩
        rw [hrest, e3]; simp
    unfold lcF at post
    refine ⟨H', Z, _, Z, sb, post.bd.mono fun c g3 H3 Z3 sr3 zz3 q3 => ?_⟩
    cases c with
    | false =>
      refine iteF ?_
      exact q3 H3 Z3 sr3 (Same.refl _)
    | true =>
      refine iteT ⟨H', Z, g3, Z3, sr3, q3.bd.map fun pe g4 hk4 H4 Z4 sr4 zz4 v ov => ?_⟩
      by_cases hon : pe.2 = .on
      · have := hk4 H4 Z4 sr4 zz4
        rw [if_pos hon] at this
        exact this.elim
      · obtain ⟨Z5, z45, sr5, r5⟩ := sr4.share ov hon
        have := hk4 H4 Z5 sr5 (zz4.trans z45)
        rw [if_neg hon] at this
        exact this H4 Z5 sr5 (Same.refl _) v r5
  · have e : n = ds.length := by omega
    subst e
    rw [List.drop_length, lcGo] at hgo
    cases hgo
    rw [List.append_nil] at hrest
    subst hrest
    refine .inl ⟨hJ.stop _ H (zzn.trans srn.zh) (Nat.le_refl _), ?_⟩
    exact hk H Z srn zzn _ ⟨.owl hZL hHL hacc, fun b a => by
      have := adr_own hHL (by intro _ _ _ z; cases z) a
      subst this
      exact ⟨hL0, nn⟩, fun _ z => by cases z⟩
theorem s_lc {elt it cond : E} {i : Nat} {fz : List Nat} {pelt piter : Expr} {ifs : List Expr} {scope : Scope} {y : Str} {py : Pos} (S : SC X FN N sc k GL C cls) (hi : N[i]? = some y) (hb : blkC N sc scope [(y, i)] = true) (hy : (relS scope sc).names.lookup y = some .local)
    (hs : isSetE piter = false) (hit : PI X (.Name y py) piter (tI X.prog X.w W cls (ev GL C it)))
    (hc : ∀ X', X'.prog = X.prog → X'.w = X.w → SC X' FN N (relS scope sc) k GL C cls → PTs X' ifs (tI1 X.prog X.w W0 cls fun g => iff_ cond (ev GL C cond g) g))
    (he : ∀ X', X'.prog = X.prog → X'.w = X.w → SC X' FN N (relS scope sc) k GL C cls → PE X' pelt (tE X.prog X.w W0 cls (ev GL C elt))) :
    PE X (.ListComp pelt [⟨.Name y py, piter, ifs, 0⟩] scope pos) (tE X.prog X.w W cls (ev GL C (.lc elt i it cond fz))) := by
  have nd : X.N.Nodup := by rw [S.hN]; exact S.nd
  exact pe_to (pe_lc (own := [(y, i)]) S.calm nd hit (by rw [S.hN, S.sc]; exact blkOk_by hb) (g := gName i)
    (fun s H c cl fp => pg_name nd (by rw [S.hN]; exact hi) (by rw [(S.blk s H scope cl c fp).sc]; exact .inl hy) (.inr (by rw [(S.blk s H scope cl c fp).sc]; exact hy)))
    (fun s H c cl fp => hc _ rfl rfl (S.blk s H scope cl c fp)) (fun s H c cl fp => he _ rfl rfl (S.blk s H scope cl c fp)) (set_no hs)) fun σ H Q h => lc_imp y h
end
end DL

set_option Elab.async false
set_option linter.all false
set_option maxRecDepth 100000
/-! D10: sorted(set(xs)) of a list of ints. -/
namespace DL
open PySem L2 PySem.Spec PyProof.Rows
/-- the set as it is made -/
abbrev newSet (w : World) : Obj := { cls := .type "set", dict := none, data := .set #[] 0 (.fresh 0 0 (!w.params.followText "set-order")) }
section
variable {P : Program} {w : World} {A : Around} {E : Value → Shared → Prop} {s : Shared}
set_option maxHeartbeats 3200000 in
/-- set(xs), xs a list of ints -/
theorem set_of_list {l : Addr} {its : Array Value} (ns : List Int) {Q : Value → Shared → Prop} (hh : A.handled = none) (hl : s.heap.IsList l its) (hi : IntsAre its.toList ns) (hb : ns.length + 1 < scanBound)
    (h : ∀ (h' : Heap) (tk c : Nat), SetR w h' s.heap.objs.size (fun j => decide (j ∈ ns)) c → c ≤ ns.length → (∀ b o, s.heap.get? b = some o → h'.get? b = some o) → Q (.ref s.heap.objs.size) { s with heap := h', toks := tk }) :
    wpAny (model P w) A (call (.type "set") [.ref l]) Q E s := by
  have hz : its.size = ns.length := by have q := IntsAre.length hi; simpa using q
  obtain ⟨c, tl, hmro⟩ := F.called_set.mro
  have a1 := F.called_set.made; have a2 := F.called_set.sub; have a3 := F.called_set.notType; have a4 := F.called_set.canCreate
  have a5 := F.typeCall_set_1 (.ref l)
  refine wpAny_call (codeAny_of_tree (show wpAny _ _ (callAny (.type "set") _) _ _ _ from wpAny_pure ⟨Code.quiet_builtin _ (by decide +kernel), codeAny_builtin F.entry_type_call ?_⟩))
  rw [Around.under_plain (weight_type_call_type "set" [.ref l] []) rfl]
  repeat (any_goals (first | assumption | wp_step))
  refine codeAny_mono (code_set_led1 (.ref l) (E := E) (Q₁ := fun ob t => ob = .ref s.heap.objs.size ∧ t = { s with heap := s.heap.push (newSet w) }) ⟨rfl, rfl⟩) fun r t hr => ?_
  cases r with
  | error e => exact hr
  | ok fl =>
    cases fl with
    | ret ob =>
      obtain ⟨rfl, rfl⟩ := hr
      have b1 : (s.heap.push (newSet w)).get? s.heap.objs.size = some (newSet w) := Heap.get?_push_size _ rfl
      have b2 : Shared.TypeIs { s with heap := s.heap.push (newSet w) } (.ref s.heap.objs.size) "set" := ⟨_, b1, rfl⟩
      have b3 := F.called_set.init.lookup; have b4 := F.called_set.init.bind (.ref s.heap.objs.size)
      repeat (any_goals (first | assumption | wp_step))
      refine codeAny_mono (codeAny_call_builtin (R := wants (fun r t => r = .none ∧ ∃ h' tk c, t = { s with heap := h', toks := tk } ∧ SetR w h' s.heap.objs.size (fun j => decide (j ∈ ns)) c ∧ c ≤ ns.length ∧
          ∀ b o, s.heap.get? b = some o → h'.get? b = some o) E) F.called_set.init.plain F.entry_set_init (check_set_init_1 b2 ?_)) fun r2 t2 hr2 => ?_
      · obtain ⟨⟨oc, od, odt, osl⟩, hol, hcl, nl, hdl⟩ := hl
        simp only at hcl hdl
        subst hcl hdl
        have c1 : (s.heap.push (newSet w)).get? l = some { cls := .type "list", dict := od, data := .seq its nl, slots := osl } := Heap.get?_push_of_some _ hol
        have c2 := F.sub_list_set; have c3 := F.sub_list_frozenset
        have c4 : (Value.type "list" == Value.type "dict") = false := by decide
        have c5 : (s.heap.push (newSet w)).IsList l its := ⟨_, c1, rfl, nl, rfl⟩
        unfold Builtin.«set.__init__» noKeywords Builtin.Frozenset.updateFrom
        generalize hPI : pyIter = PI
        wp_walk
        subst hPI
        refine wpAny_pyIter_list c5 (wpAny_bind (wpAny_runValue ?_))
        have d1 : l < s.heap.objs.size := Heap.lt_size hol
        have d2 : A.in1.in1.in1.handled = none := by simp [hh]
        have d3 : l ≠ (s.heap.push (newSet w)).objs.size := by rw [Heap.size_push]; exact Nat.ne_of_lt (Nat.lt_succ_of_lt d1)
        have d4 : s.heap.objs.size ∉ [(s.heap.push (newSet w)).objs.size, l] := by
          rw [Heap.size_push]
          simp only [List.mem_cons, List.not_mem_nil, or_false, not_or]
          exact ⟨Nat.ne_of_lt (Nat.lt_succ_self _), Nat.ne_of_gt d1⟩
        have d5 : ∀ (i : Nat) (v : Value), its[i]? = some v → ∃ k t, ns[i]? = some k ∧ v = .int k t := fun i v hv => by
          have q : i < ns.length := by rw [← hz]; exact (Array.getElem?_eq_some_iff.mp hv).1
          obtain ⟨t, e⟩ := IntsAre.int_at hi i v (by rw [Array.getElem?_toList]; exact hv)
          exact ⟨ns[i], t, List.getElem?_eq_getElem q, by rw [e, List.getD_eq_getElem?_getD, List.getElem?_eq_getElem q] <;> rfl⟩
        refine set_update_ints ((Walks.list d2 _ l d3 its).toS) s.heap.objs.size d4 ns hz hb d5 (its.size - 0) 0 _ (by omega) (Nat.zero_le _) ⟨⟨_, Heap.get?_push_size _ rfl, rfl, rfl⟩, (c5.push _)⟩
          ⟨0, Nat.le_refl 0, setR_new_at (Heap.get?_push_of_some _ b1)⟩ fun s' c' hm hc' hS' => ?_
        obtain ⟨h', g2, d', tk', os'⟩ := s'
        have e1 : g2 = s.gens := hm.gens
        have e2 : d' = s.drawn := hm.drawn
        have e3 : os' = s.os := hm.os
        subst e1 e2 e3
        refine (show wpAny _ _ _ _ _ _ from wpAny_pure (show wpAny _ _ (ret Value.none) _ _ _ from ?_))
        rw [hz] at hc'
        refine wpAny_pure ⟨rfl, h', tk', c', rfl, hS', hc', fun b o e => hm.heap b o ?_ (Heap.get?_push_of_some _ (Heap.get?_push_of_some _ e))⟩
        have q := Heap.lt_size e
        simp only [List.mem_cons, List.not_mem_nil, or_false, not_or]
        exact ⟨Nat.ne_of_lt q, by rw [Heap.size_push]; exact Nat.ne_of_lt (Nat.lt_succ_of_lt q)⟩
      · cases r2 with
        | error e => exact hr2
        | ok fl2 =>
          cases fl2 with
          | ret r =>
            obtain ⟨rfl, h', tk, c', rfl, q1, q2, q3⟩ := hr2
            repeat (any_goals (first | assumption | wp_step))
            exact h _ _ _ q1 q2 q3
          | _ => exact hr2.elim
    | _ => exact hr.elim
end
section
variable {X : Cx}
def rSetOfL (K : PySem.W.Frag) (w : World) : List V → Hp → VK → Prop := fun vs H Q => ∃ (a : Addr) (ns : List Int), vs = [.ref a] ∧ SqL K H a (ns.map V.int) ∧ ns.length ≤ 1000 ∧
  ∀ p c, H p = none → c ≤ ns.length → Q (.ref p) (upd H p (SetO w p (fun j => decide (j ∈ ns)) c))
theorem cr_setOfL (hc : X.calm = true) : CallR X (.type "set") (rSetOfL X.K X.w) := fun pins s σ H vs us Q I r h => by
  obtain ⟨a, ns, rfl, hs, hn, q⟩ := h
  obtain ⟨its, rv, pl, hz⟩ := I.list hs
  rw [Vals.ref1 r]
  refine set_of_list ns (I.ok.hd hc) pl.isList (by simpa using intsAre_of rv) (by unfold scanBound; omega) fun h' tk c hR hle kp => ?_
  have hf : H s.heap.objs.size = none := I.hok.fresh (Nat.le_refl _)
  exact ⟨.ref s.heap.objs.size, _, I.laid (t' := tk) kp (Nat.le_refl _) (setO_new hR), rfl, q _ c hf hle⟩
end
/-! ### strictly rising lists -/
theorem insI_mem {x k : Int} : ∀ {l : List Int}, k ∈ insI x l ↔ k = x ∨ k ∈ l
  | [] => by simp [insI]
  | y :: ys => by
    unfold insI
    split
    · simp
    · split
      · rename_i h; subst h; simp
      · rw [List.mem_cons, insI_mem, List.mem_cons]
        constructor
        · rintro (h | h | h)
          · exact .inr (.inl h)
          · exact .inl h
          · exact .inr (.inr h)
        · rintro (h | h | h)
          · exact .inr (.inl h)
          · exact .inl h
          · exact .inr (.inr h)
theorem insI_up {x : Int} : ∀ {l : List Int}, l.Pairwise (· < ·) → (insI x l).Pairwise (· < ·)
  | [], _ => by simp [insI]
  | y :: ys, h => by
    obtain ⟨h1, h2⟩ := List.pairwise_cons.mp h
    unfold insI
    split
    · rename_i c
      refine List.pairwise_cons.mpr ⟨fun z hz => ?_, h⟩
      rcases List.mem_cons.mp hz with rfl | hz
      · exact c
      · exact Int.lt_trans c (h1 z hz)
    · split
      · exact h
      · refine List.pairwise_cons.mpr ⟨fun z hz => ?_, insI_up h2⟩
        rcases insI_mem.mp hz with rfl | hz
        · omega
        · exact h1 z hz
theorem sortI_mem {k : Int} : ∀ {l : List Int}, k ∈ sortI l ↔ k ∈ l
  | [] => by simp [sortI]
  | x :: xs => by rw [sortI, insI_mem, sortI_mem, List.mem_cons]
theorem sortI_up : ∀ l : List Int, (sortI l).Pairwise (· < ·)
  | [] => List.Pairwise.nil
  | x :: xs => insI_up (sortI_up xs)
theorem up_uniq : ∀ {l m : List Int}, l.Pairwise (· < ·) → m.Pairwise (· < ·) → (∀ k, k ∈ l ↔ k ∈ m) → l = m
  | [], [], _, _, _ => rfl
  | [], y :: m, _, _, h => by have := (h y).mpr (by simp); simp at this
  | x :: l, [], _, _, h => by have := (h x).mp (by simp); simp at this
  | x :: l, y :: m, hl, hm, h => by
    obtain ⟨l1, l2⟩ := List.pairwise_cons.mp hl
    obtain ⟨m1, m2⟩ := List.pairwise_cons.mp hm
    have e : x = y := by
      have a := (h x).mp (by simp)
      have b := (h y).mpr (by simp)
      rcases List.mem_cons.mp a with a | a
      · exact a
      · rcases List.mem_cons.mp b with b | b
        · exact b.symm
        · have := l1 y b; have := m1 x a; omega
    subst e
    rw [up_uniq l2 m2 fun k => ?_]
    constructor
    · intro hk
      rcases List.mem_cons.mp ((h k).mp (by simp [hk])) with e | e
      · subst e; have := l1 k hk; omega
      · exact e
    · intro hk
      rcases List.mem_cons.mp ((h k).mpr (by simp [hk])) with e | e
      · subst e; have := m1 k hk; omega
      · exact e
theorem intsD_eq : ∀ {ds : List D} {ns : List Int}, intsD ds = some ns → ds = ns.map .int
  | [], _, h => by cases h; rfl
  | d :: ds, ns, h => by
    cases d <;> first | cases h | skip
    rename_i i
    have h' : (intsD ds).map (i :: ·) = some ns := h
    rw [Option.map_eq_some_iff] at h'
    obtain ⟨r, h1, rfl⟩ := h'
    rw [intsD_eq h1]; rfl
variable [Cfg] [Fix]
theorem reps_ints {Z : Hp} : ∀ {vs : List V} {ns : List Int}, Reps Z vs (ns.map .int) → vs = ns.map V.int
  | [], [], _ => rfl
  | [], _ :: _, r => by cases r
  | _ :: _, [], r => by cases r
  | v :: vs, n :: ns, r => by
    cases r with | cons a b =>
    cases a
    rw [reps_ints b]; rfl
theorem ints_reps {Z : Hp} : ∀ (ns : List Int), Reps Z (ns.map V.int) (ns.map .int)
  | [] => .nil
  | n :: ns => .cons (.int n) (ints_reps ns)
section
variable {X : Cx} {W : WX} {cls : Cls} {FN N : List Str} {sc : Scope} {k : Nat} {GL : Str → Option D} {C : Orc} {pos : Pos}
theorem s_sortset {a : E} {x : Expr} {p p2 pos2 : Pos} (S : SC X FN N sc k GL C cls) (hg : gloB sc "sorted" = true) (hg2 : gloB sc "set" = true) (hs : isStar x = false) (ha : PE X x (tO X.prog X.w W cls fun g => opn a (ev GL C a g) g)) :
    PE X (.Call (.Name "sorted" p) [.Call (.Name "set" p2) [x] [] pos2] [] pos) (tE X.prog X.w W cls (ev GL C (.sortset a))) :=
  pe_to (pe_callB (cr_sortedSet S.calm) (S.gl hg) S.bi PyProof.Rows.boot_sorted (pa_cons (pe_callTy (cr_setOfL S.calm) (S.gl hg2) S.bi PyProof.Rows.boot_set (pa_cons ha pa_nil (star_no hs)) (glo_of hg2).2.2 (glo_of hg2).2.1 (star_no hs) rfl) pa_nil rfl) (glo_of hg).2.2 (glo_of hg).2.1 rfl rfl) fun σ H Q ⟨H0, Z0, g, Z, sr, po⟩ => by
    rw [ev] at po
    refine ⟨H0, Z0, g, Z, sr, po.bd.mono fun o g1 H1 Z1 sr1 zz1 po1 v ov => ?_⟩
    obtain ⟨⟨d', m'⟩, e, hk⟩ := po1.ofO
    cases q : o.get g1 with
    | none => rw [q] at e; cases e
    | some dm =>
      rw [q] at e
      have e' : sortsetD dm.1 = some (d', m') := e
      have hh := ov.get sr1 q
      obtain ⟨d, m⟩ := dm
      unfold sortsetD at e'
      split at e'
      · rename_i xs ed
        cases ed
        obtain ⟨ns, h1, h2⟩ := Option.bind_eq_some_iff.mp e'
        split at h2
        · rename_i hn
          cases h2
          have ex := intsD_eq h1
          subst ex
          obtain ⟨b, vs, rfl, rd, rs⟩ := hh.list sr1.zh
          have ev := reps_ints rs
          subst ev
          refine ⟨b, ns, rfl, .inl rd, by omega, fun p c hp hc => ⟨p, _, c, rfl, upd_same, by omega, fun ms p' hup hmem hlen hp' => ?_⟩⟩
          have em : ms = sortI ns := up_uniq hup (sortI_up ns) fun k => by
            rw [hmem, sortI_mem]; simp
          rw [em]
          have sr2 := sr1.tr (Tr.laid (o := SetO X.w p (fun j => decide (j ∈ ns)) c) sr1.zh hp)
          exact fin_list sr2 (fun H' Z' s z => hk H' Z' s z) (ints_reps _) p' hp'
        · cases h2
      · cases e'
end
end DL

set_option Elab.async false
set_option linter.all false
set_option maxRecDepth 100000
/-! D17: sorted(list) of plain data. -/
namespace DL
open PySem L2 PySem.Spec PyProof.Rows PySem.SeqAt SrtO

/-! ### reading plain data off the heap -/
mutual
theorem reads_keep {h h' : Heap} {a : Addr} (k : ∀ b o, b ≠ a → h.get? b = some o → h'.get? b = some o) (ha : ∀ o, h.get? a = some o → o.cls ≠ .type "tuple") :
    ∀ (d : D) (v : Value) (as : List Addr), keyOk d = true → Reads h v d as → Reads h' v d as
  | .int i, _, _, _, r => by cases r; exact .int i _
  | .str i, _, _, _, r => by cases r; exact .str i _
  | .tuple xs, _, _, p, r => by
    cases r with
    | tuple e1 e2 e3 e4 => exact .tuple (k _ _ (fun z => by subst z; exact ha _ e1 e2) e1) e2 e3 (readsAll_keep k ha xs _ _ (by simpa [keyOk] using p) e4)
  | .none, _, _, p, _ => by simp [keyOk] at p
  | .bool _, _, _, p, _ => by simp [keyOk] at p
  | .list _, _, _, p, _ => by simp [keyOk] at p
  | .dict _, _, _, p, _ => by simp [keyOk] at p
theorem readsAll_keep {h h' : Heap} {a : Addr} (k : ∀ b o, b ≠ a → h.get? b = some o → h'.get? b = some o) (ha : ∀ o, h.get? a = some o → o.cls ≠ .type "tuple") :
    ∀ (ds : List D) (vs : List Value) (as : List Addr), plainAll ds = true → ReadsAll h vs ds as → ReadsAll h' vs ds as
  | [], _, _, _, r => by cases r; exact .nil
  | d :: ds, _, _, p, r => by
    simp only [plainAll, keyOk.keyOkAll, Bool.and_eq_true] at p
    cases r with
    | cons a b => exact .cons (reads_keep k ha d _ _ p.1 a) (readsAll_keep k ha ds _ _ p.2 b)
end
/-- what an item of sorted is -/
def RdP (h : Heap) (v : Value) (d : D) : Prop := (∃ as, Reads h v d as) ∧ keyOk d = true ∧ d.canLay0 = true ∧ d.depth ≤ 100
open Classical in
noncomputable def rdF (h : Heap) (v : Value) : D := if q : ∃ d, RdP h v d then Classical.choose q else .int 0
theorem rdF_eq {h : Heap} {v : Value} {d : D} (r : RdP h v d) : rdF h v = d := by
  unfold rdF
  rw [dif_pos ⟨d, r⟩]
  obtain ⟨⟨as, r1⟩, _⟩ := r
  obtain ⟨⟨bs, r2⟩, _⟩ := Classical.choose_spec (⟨d, ⟨as, r1⟩, by assumption⟩ : ∃ d, RdP h v d)
  exact (Reads.unique r2 _ _ r1).1
theorem rdF_plain (h : Heap) (v : Value) : keyOk (rdF h v) = true := by
  unfold rdF
  split
  · rename_i q
    exact (Classical.choose_spec q).2.1
  · rfl
/-- the order of the items -/
noncomputable def ltV (h : Heap) (v u : Value) : Bool := ltB (rdF h v) (rdF h u)
theorem swoV (h : Heap) : Swo (ltV h) := ⟨fun x y q => ltB_asym q, fun x y z q1 q2 => ltB_tr (rdF_plain h x) (rdF_plain h y) (rdF_plain h z) q1 q2⟩

/-! ### two items compared -/
section
variable {prog : Program} {w : World} {A : Around} {s : Shared}
theorem kat_data {b fin : Bool} {Q : Bool → Shared → Prop} : ∀ (xs ys : List D) (vs us : List Value) (as bs : List Addr) (i : Nat) (r : Bool), ReadsAll s.heap vs xs as → ReadsAll s.heap us ys bs → plainAll xs = true → plainAll ys = true →
    PyData.canLayAll0 xs = true → PyData.canLayAll0 ys = true → PyData.depthAll xs ≤ 100 → A.units + 101 < cLine → fin = decide (xs.length < ys.length) → ltD.ltAll xs ys = some r →
    (∀ x y, (b && i == 0) = true → xs[0]? = some x → ys[0]? = some y → ∃ p q, x = .str p ∧ y = .str q) → Q r s → PySem.W.KatLex prog w A b fin Q (vs.zip us) i s
  | [], [], _, _, _, _, i, r, ra, rb, _, _, _, _, _, _, hf, h, _, q => by
    cases ra; cases rb
    simp [ltD.ltAll] at h
    simp at hf
    subst h hf
    exact PySem.W.kat_nil q
  | [], _ :: _, _, _, _, _, i, r, ra, rb, _, _, _, _, _, _, hf, h, _, q => by
    cases ra; cases rb
    simp [ltD.ltAll] at h
    simp at hf
    subst h hf
    exact PySem.W.kat_nil q
  | _ :: _, [], _, _, _, _, i, r, ra, rb, _, _, _, _, _, _, hf, h, _, q => by
    cases ra; cases rb
    simp [ltD.ltAll] at h
    simp at hf
    subst h hf
    exact PySem.W.kat_nil q
  | x :: xs, y :: ys, _, _, _, _, i, r, ra, rb, px, py, lx, ly, dx, hu, hf, h, h0, q => by
    simp only [plainAll, keyOk.keyOkAll, Bool.and_eq_true] at px py
    simp only [PyData.canLayAll0, Bool.and_eq_true] at lx ly
    simp only [PyData.depthAll] at dx
    have dx1 : x.depth ≤ 100 := by omega
    have dx2 : PyData.depthAll xs ≤ 100 := by omega
    cases ra with
    | cons a1 a2 =>
      cases rb with
      | cons b1 b2 =>
        rw [ltD.ltAll] at h
        refine PySem.W.kat_cons (eqAt_reads x y A s _ _ _ _ a1 b1 lx.1 ly.1 (by have := Nat.min_le_left x.depth y.depth; omega) prog w _ _ ?_)
        refine PySem.W.kat_go (fun e => ?_) (fun e => ?_)
        · rw [if_pos e] at h
          exact PySem.W.kat_yes (kat_data xs ys _ _ _ _ (i + 1) r a2 b2 px.2 py.2 lx.2 ly.2 dx2 hu (by rw [hf]; simp) h (fun x y hb => by simp at hb) q)
        · rw [if_neg (by rw [e]; decide)] at h
          refine PySem.W.kat_no ?_
          cases c : (b && i == 0) with
          | true =>
            obtain ⟨p, p', rfl, rfl⟩ := h0 x y c rfl rfl
            cases a1; cases b1
            simp only [ltD, Option.some.injEq] at h
            subst h
            exact oneLt_str q
          | false => exact PySem.W.kat_one _ _ (lt_reads 100 x y r A s _ _ _ _ dx1 a1 b1 lx.1 ly.1 px.1 py.1 (by omega) h prog w _ _ q)
theorem fst_items {d : D} (h : fstStr d = true ∨ fstTup d = true) : ∃ x xs, d = .tuple (x :: xs) ∧ ((fstStr d = true ∧ ∃ p, x = .str p) ∨ (fstTup d = true ∧ ∃ p, x = .tuple p)) := by
  unfold fstStr fstTup at h
  rcases h with h | h
  · split at h
    · exact ⟨_, _, rfl, .inl ⟨rfl, _, rfl⟩⟩
    · cases h
  · split at h
    · exact ⟨_, _, rfl, .inr ⟨rfl, _, rfl⟩⟩
    · cases h
/-- the first items -/
theorem kat_tups {h : Heap} {T : Value} (b : Bool) (hb : (b = true ∧ T = .type "str") ∨ (b = false ∧ T = .type "tuple")) : ∀ (vs : List Value), (∀ v ∈ vs, ∃ d, RdP h v d ∧ (if b = true then fstStr d = true else fstTup d = true)) →
    ∃ fs : List Value, PySem.W.KatTups h vs fs ∧ fs.length = vs.length ∧ ∀ f ∈ fs, ∀ M : Model, PySem.W.Looks M h (typeOf f) T
  | [], _ => ⟨[], PySem.W.KatTups.nil, rfl, fun f hf => by cases hf⟩
  | v :: vs, hv => by
    obtain ⟨fs, h1, h2, h3⟩ := kat_tups b hb vs fun u hu => hv u (List.mem_cons_of_mem _ hu)
    obtain ⟨d, ⟨⟨as, r⟩, hp, _⟩, hk⟩ := hv v List.mem_cons_self
    have : ∃ x xs, d = .tuple (x :: xs) ∧ ((b = true ∧ ∃ p, x = .str p) ∨ (b = false ∧ ∃ p, x = .tuple p)) := by
      cases b with
      | true =>
        obtain ⟨x, xs, rfl, q⟩ := fst_items (.inl hk)
        rcases q with ⟨_, p, rfl⟩ | ⟨q, p, rfl⟩
        · exact ⟨_, _, rfl, .inl ⟨rfl, p, rfl⟩⟩
        · cases hk
      | false =>
        obtain ⟨x, xs, rfl, q⟩ := fst_items (.inr hk)
        rcases q with ⟨_, p, rfl⟩ | ⟨q, p, rfl⟩
        · cases hk
        · exact ⟨_, _, rfl, .inr ⟨rfl, p, rfl⟩⟩
    obtain ⟨x, xs, rfl, hx⟩ := this
    cases r with
    | tuple e1 e2 e3 e4 =>
      rename_i a o us n
      obtain ⟨us⟩ := us
      cases us with
      | nil => cases e4
      | cons u0 us =>
        cases e4 with
        | cons f1 f2 =>
          refine ⟨u0 :: fs, PySem.W.KatTups.cons e1 e2 e3 (by simp) h1, by simp [h2], fun f hf M => ?_⟩
          rcases List.mem_cons.mp hf with rfl | hf
          · rcases hx with ⟨rfl, p, rfl⟩ | ⟨rfl, p, rfl⟩
            · rcases hb with ⟨_, rfl⟩ | ⟨z, _⟩
              · cases f1; exact PySem.W.Looks.now
              · cases z
            · rcases hb with ⟨z, _⟩ | ⟨_, rfl⟩
              · cases z
              · cases f1 with
                | tuple g1 g2 g3 g4 =>
                  have q := show PySem.W.Looks M h (typeOf (.ref _)) _ from (PySem.W.Looks.ld g1).andThen .now
                  rw [g2] at q
                  exact q
          · exact h3 f hf M
/-- two of the items compare -/
theorem cmp_data {h : Heap} {b : Bool} {vs : List Value} {ds : List D} (hh : s.heap = h) (hs : ∀ x ∈ ds, ∀ y ∈ ds, (ltD x y).isSome = true) (hv : ∀ v ∈ vs, ∃ d, d ∈ ds ∧ RdP h v d ∧ (if b = true then fstStr d = true else fstTup d = true)) {ltv : Value → Value → Bool} (hlt : ∀ v u d e, v ∈ vs → u ∈ vs → RdP h v d → RdP h u e → ltv v u = ltB d e) (hu : A.units + 101 < cLine) :
    Cmp prog w A s (tuples' b) (fun p => p.1 ∈ vs) (lt2 ltv) := by
  subst hh
  intro p q hp hq
  obtain ⟨d, hd, rd, kd⟩ := hv _ hp
  obtain ⟨e, he, re, ke⟩ := hv _ hq
  show wpAny (model prog w) A (keyLt' (tuples' b) p.1 q.1) (fun r s' => s' = s ∧ r = ltv p.1 q.1) (fun _ _ => False) s
  rw [hlt _ _ _ _ hp hq rd re]
  obtain ⟨r, hr⟩ := Option.isSome_iff_exists.mp (hs d hd e he)
  obtain ⟨⟨as, r1⟩, pd, ld, dd⟩ := rd
  obtain ⟨⟨bs, r2⟩, pe, le, de⟩ := re
  rw [← ltD_plain d e r pd pe hr]
  have sh : ∀ d : D, (if b = true then fstStr d = true else fstTup d = true) → ∃ x xs, d = .tuple (x :: xs) ∧ (b = true → ∃ p, x = .str p) := fun d k => by
    cases b with
    | true =>
      obtain ⟨x, xs, rfl, q⟩ := fst_items (.inl k)
      rcases q with ⟨_, p, rfl⟩ | ⟨q, p, rfl⟩
      · exact ⟨_, _, rfl, fun _ => ⟨p, rfl⟩⟩
      · cases k
    | false =>
      obtain ⟨x, xs, rfl, q⟩ := fst_items (.inr k)
      exact ⟨_, _, rfl, fun z => by cases z⟩
  obtain ⟨x, xs, rfl, hx⟩ := sh d kd
  obtain ⟨y, ys, rfl, hy⟩ := sh e ke
  generalize hd1 : x :: xs = xs1 at *
  generalize hd2 : y :: ys = ys1 at *
  generalize p.1 = pv at *
  generalize q.1 = qv at *
  cases r1 with
  | tuple a1 a2 a3 a4 =>
    cases r2 with
    | tuple b1 b2 b3 b4 =>
      refine PySem.W.kat_lt a1 a3 b1 b3 (kat_data xs1 ys1 _ _ _ _ 0 r a4 b4 (by simpa [keyOk] using pd) (by simpa [keyOk] using pe) (by simpa [PyData.canLay0] using ld) (by simpa [PyData.canLay0] using le) (by simp [PyData.depth] at dd; omega) hu ?_ (by simpa [ltD] using hr) ?_ ⟨rfl, rfl⟩)
      · obtain ⟨l1, _⟩ := readsAll_get a4
        obtain ⟨l2, _⟩ := readsAll_get b4
        rw [← l1, ← l2]; simp
      · intro u v hb h1 h2
        have hb' : b = true := by simpa using hb
        subst hd1 hd2
        simp at h1 h2
        subst h1 h2
        obtain ⟨p1, e1⟩ := hx hb'
        obtain ⟨p2, e2⟩ := hy hb'
        exact ⟨p1, p2, e1, e2⟩
end
/-! ### there is one sorted list -/
abbrev Up (l : List D) : Prop := l.Pairwise fun x y => ltB y x = false
theorem up_one : ∀ {l m : List D}, (∀ x ∈ l, keyOk x = true) → Up l → Up m → l.Perm m → l = m
  | [], m, _, _, _, p => (List.Perm.nil_eq p)
  | x :: l, [], _, _, _, p => absurd p.length_eq (by simp)
  | x :: l, y :: m, hk, hl, hm, p => by
    have hx : x ∈ y :: m := p.mem_iff.mp List.mem_cons_self
    have hy : y ∈ x :: l := p.mem_iff.mpr List.mem_cons_self
    have e : x = y := by
      by_cases c : x = y
      · exact c
      · have h1 : ltB x y = false := (List.pairwise_cons.mp hm).1 x ((List.mem_cons.mp hx).resolve_left c)
        have h2 : ltB y x = false := (List.pairwise_cons.mp hl).1 y ((List.mem_cons.mp hy).resolve_left (fun z => c z.symm))
        exact ltB_total (hk x List.mem_cons_self) (hk y hy) h1 h2
    subst e
    rw [up_one (fun z hz => hk z (List.mem_cons_of_mem _ hz)) (List.pairwise_cons.mp hl).2 (List.pairwise_cons.mp hm).2 (List.Perm.cons_inv p)]
theorem insD_perm (x : D) : ∀ l : List D, (insD x l).Perm (x :: l)
  | [] => .refl _
  | y :: ys => by
    unfold insD
    split
    · exact ((insD_perm x ys).cons y).trans (List.Perm.swap x y ys)
    · exact .refl _
theorem sortD_perm : ∀ l : List D, (sortD l).Perm l
  | [] => .refl _
  | x :: xs => (insD_perm x (sortD xs)).trans ((sortD_perm xs).cons x)
theorem insD_up {x : D} (px : keyOk x = true) : ∀ {l : List D}, (∀ y ∈ l, keyOk y = true ∧ (ltD y x).isSome = true) → Up l → Up (insD x l)
  | [], _, _ => List.pairwise_singleton _ _
  | y :: ys, h, u => by
    obtain ⟨hy, c⟩ := h y List.mem_cons_self
    obtain ⟨r, hr⟩ := Option.isSome_iff_exists.mp c
    have er := ltD_plain y x r hy px hr
    obtain ⟨u1, u2⟩ := List.pairwise_cons.mp u
    unfold insD
    by_cases q : r = true
    · subst q
      rw [if_pos hr]
      refine List.pairwise_cons.mpr ⟨fun z hz => ?_, insD_up px (fun z hz => h z (List.mem_cons_of_mem _ hz)) u2⟩
      rcases List.mem_cons.mp ((insD_perm x ys).mem_iff.mp hz) with rfl | hz
      · exact ltB_asym er.symm
      · exact u1 z hz
    · have q' : r = false := by simpa using q
      subst q'
      rw [if_neg (by rw [hr]; simp)]
      refine List.pairwise_cons.mpr ⟨fun z hz => ?_, u⟩
      rcases List.mem_cons.mp hz with rfl | hz
      · exact er.symm
      · exact ltB_tr px hy (h z (List.mem_cons_of_mem _ hz)).1 er.symm (u1 z hz)
theorem sortD_up : ∀ {l : List D}, (∀ x ∈ l, keyOk x = true) → (∀ x ∈ l, ∀ y ∈ l, (ltD x y).isSome = true) → Up (sortD l)
  | [], _, _ => List.Pairwise.nil
  | x :: xs, h, c => by
    refine insD_up (h x List.mem_cons_self) (fun y hy => ?_) (sortD_up (fun z hz => h z (List.mem_cons_of_mem _ hz)) fun a ha b hb => c a (List.mem_cons_of_mem _ ha) b (List.mem_cons_of_mem _ hb))
    have hy' : y ∈ xs := (sortD_perm xs).mem_iff.mp hy
    exact ⟨h y (List.mem_cons_of_mem _ hy'), c y (List.mem_cons_of_mem _ hy') x List.mem_cons_self⟩
structure SortOk (ds : List D) : Prop where
  plain : ∀ d ∈ ds, keyOk d = true ∧ d.canLay0 = true ∧ d.depth ≤ 100
  cmp : ∀ x ∈ ds, ∀ y ∈ ds, (ltD x y).isSome = true
  sz : ds.length ≤ sizeLine
  kind : ds.length < 2 ∨ (∀ d ∈ ds, fstStr d = true) ∨ (∀ d ∈ ds, fstTup d = true)
theorem sortOk_of {ds : List D} (h : sortable ds = true) : SortOk ds := by
  unfold sortable at h
  simp only [Bool.and_eq_true, Bool.or_eq_true, List.all_eq_true, decide_eq_true_eq] at h
  obtain ⟨⟨⟨h1, h2⟩, h3⟩, h4⟩ := h
  refine ⟨fun d hd => ⟨(h1 d hd).1.1, (h1 d hd).1.2, (h1 d hd).2⟩, h2, h3, ?_⟩
  rcases h4 with (h4 | h4) | h4
  · exact .inl h4
  · exact .inr (.inl h4)
  · exact .inr (.inr h4)
theorem paired_mem {α β : Type} {F : α → β → Prop} : ∀ {l : List α} {m : List β}, Paired F l m → ∀ a ∈ l, ∃ b, b ∈ m ∧ F a b
  | _, _, .nil, a, h => by cases h
  | _, _, .cons r t, a, h => by
    rcases List.mem_cons.mp h with rfl | h
    · exact ⟨_, List.mem_cons_self, r⟩
    · obtain ⟨b, h1, h2⟩ := paired_mem t a h
      exact ⟨b, List.mem_cons_of_mem _ h1, h2⟩
theorem paired_rdF {h : Heap} : ∀ {vs : List Value} {ds : List D}, Paired (RdP h) vs ds → vs.map (rdF h) = ds
  | _, _, .nil => rfl
  | _, _, .cons r t => by rw [List.map_cons, rdF_eq r, paired_rdF t]
section
variable {prog : Program} {w : World} {A : Around} {E : Value → Shared → Prop} {s : Shared}
theorem sorted_data {l : Addr} {vs : List Value} {ds : List D} {Q : Value → Shared → Prop} (hl : s.heap.IsList l vs.toArray) (hp : Paired (RdP s.heap) vs ds) (ok : SortOk ds) (hu : A.units + 110 < cLine)
    (h : ∀ (h' : Heap) (d : Addr) (out : List Value), out.Perm vs → out.map (rdF s.heap) = sortD ds → (∀ b o, s.heap.get? b = some o → h'.get? b = some o) → s.heap.objs.size ≤ d → (∃ n, h'.get? d = some (seqObj "list" out.toArray n)) → Q (.ref d) { s with heap := h' }) :
    wpAny (model prog w) A (call (.builtin "sorted") [.ref l]) Q E s := by
  have hlen : vs.length = ds.length := Paired.length hp
  have ein : A.in1.in1.units = A.units + 2 := rfl
  refine sorted_ord (swoV s.heap) hl (by rw [hlen]; exact ok.sz) (fun h2 h₁ a ha kk => ?_) fun out hs hb => ?_
  · intro h' keep
    have nt : ∀ o, h₁.get? a = some o → o.cls ≠ .type "tuple" := fun o e => by
      have e' : some o = some (seqObj "list" vs.toArray 0) := e.symm.trans ha
      cases e'
      intro c
      exact absurd (Value.type.inj c) (by decide)
    have up : ∀ {v : Value} {d : D}, RdP s.heap v d → RdP h' v d := fun {v d} ⟨⟨as, r⟩, p1, p2, p3⟩ => by
      have r1 : Reads h₁ v d as := Reads.keeps (fun b o e => (kk b o e).2) r
      exact ⟨⟨as, reads_keep keep nt d v as p1 r1⟩, p1, p2, p3⟩
    have kd : (∀ d ∈ ds, fstStr d = true) ∨ (∀ d ∈ ds, fstTup d = true) := ok.kind.resolve_left (by omega)
    have fin : ∀ (b : Bool) (T : Value), (b = true ∧ T = .type "str") ∨ (b = false ∧ T = .type "tuple") → (∀ d ∈ ds, if b = true then fstStr d = true else fstTup d = true) →
        ∃ κ, (∀ (Q : SortKind → Shared → Prop) (E : Value → Shared → Prop), Q κ { s with heap := h' } → wpAny (model prog w) A.in1.in1 (keyKind' vs.toArray) Q E { s with heap := h' }) ∧ Cmp prog w A.in1.in1 { s with heap := h' } κ (fun p => p.1 ∈ vs) (lt2 (ltV s.heap)) := fun b T hb hk => by
      have hv : ∀ v ∈ vs, ∃ d, d ∈ ds ∧ RdP h' v d ∧ (if b = true then fstStr d = true else fstTup d = true) := fun v hm => by
        obtain ⟨d, h1, h2⟩ := paired_mem hp v hm
        exact ⟨d, h1, up h2, hk d h1⟩
      obtain ⟨fs, f1, f2, f3⟩ := kat_tups (h := h') b hb vs fun v hm => by
        obtain ⟨d, _, h2, h3⟩ := hv v hm
        exact ⟨d, h2, h3⟩
      refine ⟨tuples' b, fun Q E hq => ?_, cmp_data rfl ok.cmp hv (fun v u d e hv hu r1 r2 => ?_) (by rw [ein]; omega)⟩
      · refine PySem.W.kat_kind (T := T) f1 (by omega) (fun f hm => f3 f hm _) ?_ ?_
        · rcases hb with ⟨_, rfl⟩ | ⟨_, rfl⟩ <;> rfl
        · rcases hb with ⟨rfl, rfl⟩ | ⟨rfl, rfl⟩
          · have e : (Value.type "str" != Value.type "tuple") = true := by first | decide +kernel | rfl | decide
            rw [e]; exact hq
          · have e : (Value.type "tuple" != Value.type "tuple") = false := by first | decide +kernel | rfl | decide
            rw [e]; exact hq
      · obtain ⟨d', _, q1⟩ := paired_mem hp v hv
        obtain ⟨e', _, q2⟩ := paired_mem hp u hu
        have e1 : d = d' := by rw [← rdF_eq r1, rdF_eq (up q1)]
        have e2 : e = e' := by rw [← rdF_eq r2, rdF_eq (up q2)]
        unfold ltV
        rw [rdF_eq q1, rdF_eq q2, e1, e2]
    rcases kd with kd | kd
    · exact fin true _ (.inl ⟨rfl, rfl⟩) (fun d hd => by simpa using kd d hd)
    · exact fin false _ (.inr ⟨rfl, rfl⟩) (fun d hd => by simpa using kd d hd)
  · refine h _ _ out hb.perm ?_ (fun b o e => sortedAll_old e) (Nat.le_succ _) (sortedAll_at s.heap vs out.toArray)
    have pm : (out.map (rdF s.heap)).Perm ds := by
      have := hb.perm.map (rdF s.heap)
      rwa [paired_rdF hp] at this
    refine up_one (fun x hx => (ok.plain x (pm.mem_iff.mp hx)).1) (List.pairwise_map.mpr hs) (sortD_up (fun x hx => (ok.plain x hx).1) ok.cmp) (pm.trans (sortD_perm ds).symm)
end
end DL

set_option Elab.async false
set_option linter.all false
set_option maxRecDepth 100000
/-! D18: sorted(list), the rule. -/
namespace DL
open PySem L2 PySem.Spec PyProof.Rows SrtO
variable [Cfg] [Fix]
theorem out_vals {h : Heap} {Z : Hp} : ∀ (out : List Value), (∀ u ∈ out, ∃ x d, RelV x u ∧ Rep Z x d ∧ RdP h u d) → ∃ outV, Vals outV out ∧ Reps Z outV (out.map (rdF h))
  | [], _ => ⟨[], .nil, .nil⟩
  | u :: out, hu => by
    obtain ⟨x, d, h1, h2, h3⟩ := hu u List.mem_cons_self
    obtain ⟨outV, v1, v2⟩ := out_vals out fun w hw => hu w (List.mem_cons_of_mem _ hw)
    exact ⟨x :: outV, .cons h1 v1, by rw [List.map_cons, rdF_eq h3]; exact .cons h2 v2⟩
section
variable {X : Cx}
def rSorted : List V → Hp → VK → Prop := fun vs H Q => ∃ (a : Addr) (xs : List V) (ds : List D) (Z : Hp), vs = [.ref a] ∧ Rd H a (.lst xs) ∧ Same Z H ∧ Reps Z xs ds ∧ SortOk ds ∧
  ∀ p outV, H p = none → Reps Z outV (sortD ds) → Q (.ref p) (upd H p (.lst outV))
theorem cr_sorted (hu : X.A.units + 110 < cLine) : CallR X (.builtin "sorted") rSorted := fun pins s σ H vs us Q I r h => by
  obtain ⟨a, xs, ds, Z, rfl, hs, zh, rs, ok, q⟩ := h
  obtain ⟨its, rv, pl, hz⟩ := I.list (.inl hs)
  rw [Vals.ref1 r]
  have lay : PyData.canLayAll0 ds = true := by
    have : ∀ l : List D, (∀ d ∈ l, d.canLay0 = true) → PyData.canLayAll0 l = true := fun l => by
      induction l with
      | nil => intro _; simp [PyData.canLayAll0]
      | cons d l ih => intro hl; simp [PyData.canLayAll0, hl d List.mem_cons_self, ih fun e he => hl e (List.mem_cons_of_mem _ he)]
    exact this ds fun d hd => (ok.plain d hd).2.1
  have pair : ∀ (ds : List D) (xs : List V) (its : List Value), Reps Z xs ds → Vals xs its → (∀ d ∈ ds, keyOk d = true ∧ d.canLay0 = true ∧ d.depth ≤ 100) → Paired (RdP s.heap) its ds ∧ ∀ u ∈ its, ∃ x d, RelV x u ∧ Rep Z x d ∧ RdP s.heap u d := by
    intro ds
    induction ds with
    | nil =>
      intro xs its r v _
      cases r; cases v
      exact ⟨.nil, fun u hu => by cases hu⟩
    | cons d ds ih =>
      intro xs its r v hp
      cases r with
      | cons r1 r2 =>
        cases v with
        | cons v1 v2 =>
          obtain ⟨p1, p2⟩ := ih _ _ r2 v2 fun e he => hp e (List.mem_cons_of_mem _ he)
          obtain ⟨k1, k2, k3⟩ := hp d List.mem_cons_self
          obtain ⟨as, rr⟩ := Dp.reads I d _ _ (Rep.dp zh d _ k2 r1) v1
          have rd : RdP s.heap _ d := ⟨⟨as, rr⟩, k1, k2, k3⟩
          refine ⟨.cons rd p1, fun u hu => ?_⟩
          rcases List.mem_cons.mp hu with rfl | hu
          · exact ⟨_, d, v1, r1, rd⟩
          · exact p2 u hu
  obtain ⟨p1, p2⟩ := pair ds xs its rs rv ok.plain
  refine sorted_data pl.isList p1 ok hu fun h' d out hperm hmap kp hd hget => ?_
  obtain ⟨n, hget⟩ := hget
  obtain ⟨outV, w1, w2⟩ := out_vals (h := s.heap) (Z := Z) out fun u hu => p2 u (hperm.mem_iff.mp hu)
  rw [hmap] at w2
  have hf : H d = none := I.hok.fresh hd
  have hlen : outV.length ≤ sizeLine := by
    rw [w2.length, (sortD_perm ds).length_eq]; exact ok.sz
  exact ⟨.ref d, _, I.laid (t' := s.toks) kp hd (show ObjOk X.prog X.w (upd H d (.lst outV)) h' d (.lst outV) from ⟨hlen, out, n, w1, hget⟩), rfl, q d outV hf w2⟩
end
end DL

set_option Elab.async false
set_option linter.all false
set_option maxRecDepth 100000
/-! D19: dicts whose keys are ints: copied, popped from, compared, stored in. -/
namespace DL
open PySem L2 PySem.Spec PyProof.Rows PySem.SeqAt
variable [Cfg] [Fix]

section
variable {Z : Hp}
theorem repks_any {kvs : List (Key × V)} {es : List (D × D)} (r : RepKs Z kvs es) (i : Int) : (kvs.any fun kv => decide (kv.1 = Sum.inl i)) = hasKey es (.int i) := by
  rw [valV_any]; exact repks_has r i
theorem repks_map {kvs : List (Key × V)} {es : List (D × D)} (r : RepKs Z kvs es) (i : Int) {v : V} {d : D} (rv : Rep Z v d) : RepKs Z (kvs.map fun kv => if kv.1 = Sum.inl i then (kv.1, v) else kv) (es.map fun p => if PyData.eqv p.1 (.int i) then (p.1, d) else p) := by
  induction kvs generalizing es with
  | nil => cases r; exact .nil
  | cons kv kvs ih =>
    cases r with
    | @cons k v0 d0 _ es' rv0 r =>
      simp only [List.map_cons]
      by_cases hk : k = i
      · subst hk
        have e1 : PyData.eqv (.int k) (.int k) = true := by simp [PyData.eqv]
        simp only [e1, if_true]
        exact .cons rv (ih r)
      · have e1 : PyData.eqv (.int k) (.int i) = false := by simp [PyData.eqv, hk]
        have e2 : ¬ (Sum.inl k : Key) = Sum.inl i := fun z => hk (by cases z; rfl)
        simp only [e1, e2, if_false, Bool.false_eq_true]
        exact .cons rv0 (ih r)
theorem repks_snoc {kvs : List (Key × V)} {es : List (D × D)} (r : RepKs Z kvs es) (i : Int) {v : V} {d : D} (rv : Rep Z v d) : RepKs Z (kvs ++ [(Sum.inl i, v)]) (es ++ [(.int i, d)]) := by
  induction kvs generalizing es with
  | nil => cases r; exact .cons rv .nil
  | cons kv kvs ih => cases r with | cons a b => exact .cons a (ih b)
theorem repks_put {kvs : List (Key × V)} {es : List (D × D)} (r : RepKs Z kvs es) (i : Int) {v : V} {d : D} (rv : Rep Z v d) : RepKs Z (putK kvs (Sum.inl i) v) (putKey es (.int i) d) := by
  unfold putK putKey
  rw [repks_any r]
  split
  · exact repks_map r i rv
  · exact repks_snoc r i rv
theorem repks_drop {kvs : List (Key × V)} {es : List (D × D)} (r : RepKs Z kvs es) (i : Int) : RepKs Z (dropK kvs (Sum.inl i)) (dropKey es (.int i)) := by
  unfold dropK dropKey
  induction kvs generalizing es with
  | nil => cases r; exact .nil
  | cons kv kvs ih =>
    cases r with
    | @cons k v0 d0 _ es' rv0 r =>
      by_cases hk : k = i
      · subst hk
        have e1 : PyData.eqv (.int k) (.int k) = true := by simp [PyData.eqv]
        simp [e1]
        simpa using ih r
      · have e1 : PyData.eqv (.int k) (.int i) = false := by simp [PyData.eqv, hk]
        simp [e1, hk]
        exact .cons rv0 (by simpa using ih r)
end
theorem ownDD_of {i : Nat} {g : Sg} (h : ownDD i g = true) : ∃ es, g[i]? = some (some (.dict es, .ow)) := by
  unfold ownDD at h
  split at h
  · exact ⟨_, by assumption⟩
  · cases h
theorem own_dict {P : Program} {w : World} {H0 Z0 H Z : Hp} {g : Sg} {σ : L2.St} (sr : SR P w H0 Z0 g σ H Z) {i : Nat} {es : List (D × D)} (h : g[i]? = some (some (.dict es, .ow))) : ∃ p kvs, σ[i]? = some (some (.ref p)) ∧ H p = some (.dK kvs) ∧ Z p = none ∧ RepKs Z kvs es := by
  obtain ⟨v, hv, hh⟩ := sr.sl i _ _ h
  cases hh with
  | owd a b c => exact ⟨_, _, hv, b, a, c⟩
section
variable {X : Cx} {W : WX} {cls : Cls} {FN N : List Str} {sc : Scope} {k : Nat} {GL : Str → Option D} {C : Orc} {pos : Pos} {L : Nat}
theorem s_dict {a : E} {x : Expr} {p : Pos} (S : SC X FN N sc k GL C cls) (hg : gloB sc "dict" = true) (hs : isStar x = false) (ha : PE X x (tO X.prog X.w W cls fun g => opn a (ev GL C a g) g)) :
    PE X (.Call (.Name "dict" p) [x] [] pos) (tE X.prog X.w W cls (ev GL C (.dict a))) := by
  have e : ev GL C (.dict a) = fun g => (opn a (ev GL C a g) g).bd fun x g => ofO ((x.get g).bind dictD) g := by funext g; rw [ev]
  rw [e]
  refine s_ty1 (f := Value.none) S hg (by decide) (by decide +kernel) hs call_dictD ha dictD fun H0 Z0 g σ H Z v d m d' m' Q sr h hno e hk => ?_
  have key : ∀ es, d = .dict es → m ≠ .on → d' = .dict es → m' = .ow → ∃ (a : Addr) (kvs : List (Key × V)), [v] = [.ref a] ∧ Rd H a (.dK kvs) ∧ ∀ p, H p = none → Q (.ref p) (upd H p (.dK kvs)) := fun es e1 hm e2 e3 => by
    subst e1 e2 e3
    obtain ⟨b, ks, rfl, e1, rs⟩ := h.dict sr.zh hm
    refine ⟨b, ks, rfl, .inl e1, fun p hp => ?_⟩
    exact hk _ Z (sr.tr (Tr.laid sr.zh hp)) (Same.refl _) _ ⟨.owd (zfree sr.zh hp) upd_same rs, own_new sr hp, noOb_of (by decide)⟩
  unfold dictD at e
  split at e
  · rename_i q; cases e; cases q; exact key _ rfl (by decide) rfl rfl
  · rename_i q; cases e; cases q; exact key _ rfl (by decide) rfl rfl
  · cases e
theorem isD_k {H : Hp} {a : Addr} {kvs : List (Key × V)} (h : H a = some (.dK kvs)) : IsD H a := .inl ⟨kvs, .inl h⟩
theorem s_dpop {i : Nat} {x : Str} {e : Expr} {a : E} {p apos cpos : Pos} (S : SC X FN N sc k GL C cls) (hi : N[i]? = some x) (hv : visB sc x = true) (hx : okN x = true) (hl : (apos.endLine == cpos.line) = true) (hs : isStar e = false)
    (ha : PE X e (tE X.prog X.w W cls (ev GL C a))) : PE X (.Call (.Attribute (.Name x p) "pop" apos) [e] [] cpos) (tE X.prog X.w W cls (ev GL C (.dpop i a))) := by
  obtain ⟨h4, h5⟩ := okN_of hx
  have es1 : starEach [e] X.env = [(false, eval e X.env)] := by rw [star_no hs]; rfl
  have m : M1 X (.Name x p) "pop" apos e cpos := ⟨rfl, by rw [es1] <;> rfl, hl, by rw [es1] <;> rfl⟩
  refine pe_to (pe_dpop1 (pe_var (i := i) (by rw [S.hN]; exact hi) (by rw [S.sc]; exact vis_of hv) h4 h5) ha m) fun σ H Q ⟨H0, Z0, g, Z, sr, po⟩ => ?_
  rw [ev] at po
  split at po
  case isFalse => exact po.elim
  rename_i hod
  have hod' : ∃ es, g[i]? = some (some (.dict es, .ow)) := by
    unfold ownD at hod
    split at hod
    · exact ⟨_, by assumption⟩
    · cases hod
  obtain ⟨es, q⟩ := hod'
  obtain ⟨b, kvs, hs', hp, zp, rs⟩ := own_dict sr q
  refine ⟨.ref b, hs', b, rfl, isD_k hp, H0, Z0, g, Z, sr, po.bd.mono fun p g1 H1 Z1 sr1 zz po1 v ov => ?_⟩
  obtain ⟨d, md⟩ := p
  dsimp only at po1
  split at po1
  case h_2 => exact po1.elim
  rename_i es1 q1
  split at po1
  case isFalse => exact po1.elim
  rename_i hint
  obtain ⟨j, rfl⟩ := int_key hint
  split at po1
  case h_2 => exact po1.elim
  rename_i r hr
  obtain ⟨b1, kvs1, hs1, hp1, zp1, rs1⟩ := own_dict sr1 q1
  rw [hs'] at hs1
  cases hs1
  obtain ⟨v', h1, h2⟩ := repks_get rs1 hr
  refine ⟨kvs1, Sum.inl j, v', hp1, ov.hold.int, h1, ?_⟩
  have sr' := sr1.mut (p := b) (o := .dK (dropK kvs1 (Sum.inl j))) (d' := .dict (dropKey es1 (.int j))) q1 (by decide) hs' (by rw [hp1]; exact fun z => by cases z) (.owd zp1 upd_same (repks_drop rs1 j))
  exact po1 _ Z1 sr' (Same.refl _) v' (Out.fr h2)

/-! ### two dicts that are alike -/
theorem hits_data {A : Around} {s : Shared} {H : Hp} {pins : List (Addr × Obj)} {σ : L2.St} (I : Inv X pins σ H s) {Z : Hp} (zh : Same Z H) (hu : A.units + 100 < cLine) {ls : List (Key × V)} {vb : List (Key × Value)} (rb : KV ls vb) {fs : List (D × D)} (rl : RepKs Z ls fs) {ks : List (Key × V)} {va : List (Key × Value)} (ra : KV ks va) :
    ∀ {es : List (D × D)}, RepKs Z ks es → (∀ p ∈ es, plainD p.2 = true ∧ ∃ v, getKey fs p.1 = some v ∧ plainD v = true ∧ PyData.eqv p.2 v = true) → PySem.W.KeqHits A s vb va true := by
  unfold KV at ra
  induction ra with
  | nil => intro es _ _; exact .nil
  | @cons p q ps qs h t ih =>
    intro es re hp
    obtain ⟨h1, h2⟩ := h
    cases re with
    | @cons k v d _ es' rv re =>
      obtain ⟨pd, v2, g2, pd2, ev2⟩ := hp (.int k, d) List.mem_cons_self
      obtain ⟨w2, hw2, rw2⟩ := repks_get rl g2
      have rr : RelO (some w2) (valueAt vb (Sum.inl k)) := by rw [← hw2]; exact rb.val _
      obtain ⟨y, hy, ry⟩ := rr.some_of
      obtain ⟨k', v'⟩ := q
      have h1' : Sum.inl k = k' := h1
      subst h1'
      have k1 := plainD_of pd
      have k2 := plainD_of pd2
      obtain ⟨as, r1⟩ := Dp.reads I d _ _ (Rep.dp zh d _ k1.2.1 rv) h2
      obtain ⟨bs, r2⟩ := Dp.reads I v2 _ _ (Rep.dp zh v2 _ k2.2.1 rw2) ry
      have e := eqAt_reads d v2 A s v' y as bs r1 r2 k1.2.1 k2.2.1 (by have := Nat.min_le_left d.depth v2.depth; have := k1.2.2; omega)
      rw [ev2] at e
      show PySem.W.KeqHits A s vb ((Sum.inl k, v') :: qs) (true && true)
      exact .hit hy e (ih re fun p hm => hp p (List.mem_cons_of_mem _ hm))
def rAlike (n : Bool) : R2 := fun x y H Q => ∃ a b ks ls es fs Z, x = .ref a ∧ y = .ref b ∧ H a = some (.dK ks) ∧ H b = some (.dK ls) ∧ Same Z H ∧ RepKs Z ks es ∧ RepKs Z ls fs ∧ es.length = fs.length ∧
  (∀ p ∈ es, plainD p.2 = true ∧ ∃ v, getKey fs p.1 = some v ∧ plainD v = true ∧ PyData.eqv p.2 v = true) ∧ Q (.bl (!n)) H
theorem op_alike (hu : X.A.units + 200 < cLine) : OpR X (compareOp .Eq) (rAlike false) := by
  intro pins s σ H x y v u Q I rx ry h
  obtain ⟨a, b, ks, ls, es, fs, Z, rfl, rfl, ea, eb, zh, r1, r2, hlen, hp, q⟩ := h
  obtain rfl : v = Value.ref a := rx
  obtain rfl : u = Value.ref b := ry
  obtain ⟨_, ya, va, ra, da⟩ := (show ObjOk X.prog X.w H s.heap a (.dK ks) from I.hok a _ ea)
  obtain ⟨_, yb, vb, rb, db⟩ := (show ObjOk X.prog X.w H s.heap b (.dK ls) from I.hok b _ eb)
  have hl : va.length = vb.length := by rw [← ra.length, ← rb.length, r1.length, r2.length]; exact hlen
  exact PySem.W.keq_eq (knd := mixKind X.prog X.w) (r := true) ya yb da db (by omega) (fun _ => hits_data I zh (by show X.A.units + 1 + 100 < cLine; omega) rb r2 ra r1 hp) ⟨.bl true, H, I, by simp [hl]; rfl, q⟩
theorem op_nalike (hu : X.A.units + 200 < cLine) : OpR X (compareOp .NotEq) (rAlike true) := by
  intro pins s σ H x y v u Q I rx ry h
  obtain ⟨a, b, ks, ls, es, fs, Z, rfl, rfl, ea, eb, zh, r1, r2, hlen, hp, q⟩ := h
  obtain rfl : v = Value.ref a := rx
  obtain rfl : u = Value.ref b := ry
  obtain ⟨_, ya, va, ra, da⟩ := (show ObjOk X.prog X.w H s.heap a (.dK ks) from I.hok a _ ea)
  obtain ⟨_, yb, vb, rb, db⟩ := (show ObjOk X.prog X.w H s.heap b (.dK ls) from I.hok b _ eb)
  have hl : va.length = vb.length := by rw [← ra.length, ← rb.length, r1.length, r2.length]; exact hlen
  exact PySem.W.keq_ne (knd := mixKind X.prog X.w) (r := true) ya yb da db (by omega) (fun _ => hits_data I zh (by show X.A.units + 1 + 100 < cLine; omega) rb r2 ra r1 hp) ⟨.bl false, H, I, by simp [hl]; rfl, q⟩
theorem alikeD_of {d e : D × Md} (h : alikeD d e = true) : ∃ es fs m m', d = (.dict es, m) ∧ e = (.dict fs, m') ∧ m ≠ .on ∧ m' ≠ .on ∧ es.length = fs.length ∧ ∀ p ∈ es, plainD p.2 = true ∧ ∃ v, getKey fs p.1 = some v ∧ plainD v = true ∧ PyData.eqv p.2 v = true := by
  unfold alikeD at h
  split at h
  · rename_i es m fs m'
    simp only [Bool.and_eq_true, decide_eq_true_eq, List.all_eq_true] at h
    obtain ⟨⟨⟨h1, h2⟩, h3⟩, h4⟩ := h
    refine ⟨es, fs, m, m', rfl, rfl, h1, h2, h3, fun p hp => ?_⟩
    obtain ⟨h5, h6⟩ := h4 p hp
    refine ⟨h5, ?_⟩
    split at h6
    · simp only [Bool.and_eq_true] at h6; exact ⟨_, by assumption, h6.1, h6.2⟩
    · cases h6
  · cases h
theorem s_dcmp {n : Bool} {a b : E} {l r : Expr} {op : CmpOp} {pos : Pos} (S : SC X FN N sc k GL C cls) (h1 : op = if n = true then .NotEq else .Eq) (hm : behindInMarks op r = false) (ha : PE X l (tO X.prog X.w W cls fun g => opn a (ev GL C a g) g)) (hb : PE X r (tO X.prog X.w W cls fun g => opn b (ev GL C b g) g)) :
    PE X (.Compare l [op] [r] pos) (tE X.prog X.w W cls (ev GL C (.dcmp n a b))) ∧ PT X (.Compare l [op] [r] pos) (tT X.prog X.w W cls (ev GL C (.dcmp n a b))) := by
  have e : ev GL C (.dcmp n a b) = fun g => (opn a (ev GL C a g) g).bd fun x g => (opn b (ev GL C b g) g).bd fun y g => ofO ((x.get g).bind fun d => (y.get g).bind fun e => if alikeD d e then some (.bool (!n), .fr) else none) g := by
    funext g; rw [ev]
  rw [e]
  have ho : OpR X (compareOp op) (rAlike n) := by
    subst h1
    cases n
    · exact op_alike (room200 S.room)
    · exact op_nalike (room200 S.room)
  have key : ∀ (H0 Z0 : Hp) (g : Sg) (σ : L2.St) (H Z : Hp) (x y : Opn) (v u : V) (d : D) (m : Md) (Q : VK), SR X.prog X.w H0 Z0 g σ H Z → OO σ Z v x → OO σ Z u y →
      ((x.get g).bind fun d => (y.get g).bind fun e => if alikeD d e then some ((.bool (!n), .fr) : D × Md) else none) = some (d, m) →
      (∀ H' Z', SR X.prog X.w H0 Z0 g σ H' Z' → Same Z Z' → ∀ v, Out X.prog X.w H0 g σ H' Z' v d m → Q v H') → rAlike n v u H Q := by
    intro H0 Z0 g σ H Z x y v u d m Q sr ox oy e hk
    obtain ⟨d1, m1, d2, m2, ⟨h1, no1⟩, ⟨h2, no2⟩, e⟩ := two_of (G := fun d e => if alikeD d e then some ((.bool (!n), .fr) : D × Md) else none) sr ox oy e
    split at e
    case isFalse => cases e
    rename_i hal
    cases e
    obtain ⟨es, fs, m, m', e1, e2, n1, n2, hlen, hp⟩ := alikeD_of hal
    cases e1
    cases e2
    obtain ⟨a, ks, rfl, ea, ra⟩ := h1.dict sr.zh n1
    obtain ⟨b, ls, rfl, eb, rb⟩ := h2.dict sr.zh n2
    exact ⟨a, b, ks, ls, es, fs, Z, rfl, rfl, ea, eb, sr.zh, ra, rb, hlen, hp, fin_val (K := fun _ _ _ _ => True) sr hk (.bl _)⟩
  exact ⟨s_cmp2 ho ha hb hm _ key, s_tst2 ho ha hb hm _ key⟩
end
end DL

set_option Elab.async false
set_option linter.all false
set_option maxRecDepth 100000
/-! D20: the walker in a slot: its term read, its methods called. -/
namespace DL
open PySem L2 PySem.Spec PyProof.Rows
variable [Cfg] [Fix]

section
variable {P : Program} {w : World} {H0 Z0 H Z H' Z' : Hp} {g : Sg} {σ : L2.St}
omit [Cfg] [Fix] in
theorem objAt_of {i : Nat} {st : List D} (h : objAt i g = some st) : g[i]? = some (some (.tuple st, .on)) := by
  unfold objAt at h
  split at h
  · cases h; assumption
  · cases h
theorem obj_of (sr : SR P w H0 Z0 g σ H Z) {i : Nat} {st : List D} (h : objAt i g = some st) : ∃ p l t ts, g[i]? = some (some (.tuple st, .on)) ∧ σ[i]? = some (some (.ref p)) ∧ st = [t, .list ts] ∧ WS H Z p l t ts := by
  have q := objAt_of h
  obtain ⟨v, hv, hh⟩ := sr.sl i _ _ q
  cases hh with
  | ob ws => exact ⟨_, _, _, _, q, hv, rfl, ws⟩
omit [Cfg] [Fix] in
theorem del_ne {p l b : Addr} (h1 : b ≠ p) (h2 : b ≠ l) : del H p l b = H b := by
  unfold del
  rw [if_neg (fun z => z.elim h1 h2)]
omit [Cfg] [Fix] in
theorem del_none {p l b : Addr} (h : del H p l b = none) : b = p ∨ b = l ∨ H b = none := by
  unfold del at h
  split at h
  · rename_i c; exact c.elim .inl fun c => .inr (.inl c)
  · exact .inr (.inr h)
theorem WS.adr {p l b : Addr} {t : D} {ts : List D} (ws : WS H Z p l t ts) (a : Adr H (.ref p) .on b) : b = p ∨ b = l := by
  rcases a.2 with e | ⟨q, e, lo⟩
  · cases e; exact .inl rfl
  · cases e; exact .inr (ws.lst_of.mp lo)
omit [Cfg] [Fix] in
theorem WS.adr1 {p : Addr} : Adr H (.ref p) .on p := ⟨by decide, .inl rfl⟩
theorem WS.adr2 {p l : Addr} {t : D} {ts : List D} (ws : WS H Z p l t ts) : Adr H (.ref p) .on l := ⟨by decide, .inr ⟨p, rfl, ws.lst_of.mpr rfl⟩⟩
/-- the walker of slot i has gone on -/
theorem SR.walk (sr : SR P w H0 Z0 g σ H Z) {i : Nat} {p l l' : Addr} {t t' : D} {ts ts' : List D} (q : g[i]? = some (some (.tuple [t, .list ts], .on))) (hv : σ[i]? = some (some (.ref p))) (ws : WS H Z p l t ts)
    (tr : Tr (del H p l) Z H' Z') (hd : del H p l l' = none) (ws' : WS H' Z' p l' t' ts') : SR P w H0 Z0 (g.set i (some (.tuple [t', .list ts'], .on))) σ H' Z' := by
  refine sr.chg q hv (fun b u hb na => ?_) tr.zz tr.zh (fun b hb na => ?_) (.ob ws') (fun b a => ?_) (.inr rfl)
  · have h1 : b ≠ p := fun z => na (by rw [z]; exact WS.adr1)
    have h2 : b ≠ l := fun z => na (by rw [z]; exact ws.adr2)
    exact tr.hh b u (by rw [del_ne h1 h2]; exact hb)
  · have h1 : b ≠ p := fun z => na (by rw [z]; exact WS.adr1)
    have h2 : b ≠ l := fun z => na (by rw [z]; exact ws.adr2)
    exact tr.old b (by rw [del_ne h1 h2]; exact hb)
  · rcases ws'.adr a with rfl | rfl
    · exact .inl WS.adr1
    · rcases del_none hd with rfl | rfl | hn
      · exact .inl WS.adr1
      · exact .inl ws.adr2
      · exact .inr hn
omit [Cfg] [Fix] in
theorem lk_mem {α : Type} : ∀ {l : List (Str × α)} {x : Str} {e : α}, l.lookup x = some e → (x, e) ∈ l
  | [], _, _, h => by cases h
  | (y, a) :: r, x, e, h => by
    rw [List.lookup_cons] at h
    split at h
    · rename_i q
      have : x = y := by simpa using q
      subst this
      cases h
      exact List.mem_cons_self
    · exact List.mem_cons_of_mem _ (lk_mem h)
omit [Cfg] [Fix] in
theorem no_fld {f m : Str} (h : mths.lookup f = some m) (tv u : V) : List.lookup f [(("term" : Str), tv), (("taken" : Str), u)] = none := by
  have h1 : (f == ("term" : Str)) = false ∧ (f == ("taken" : Str)) = false := by
    have := lk_mem h
    unfold mths at this
    simp only [List.mem_cons, List.not_mem_nil, or_false, Prod.mk.injEq] at this
    rcases this with ⟨rfl, _⟩ | ⟨rfl, _⟩ | ⟨rfl, _⟩ | ⟨rfl, _⟩ | ⟨rfl, _⟩ | ⟨rfl, _⟩ <;> decide +kernel
  rw [List.lookup_cons, h1.1, List.lookup_cons, h1.2]
  rfl
end
section
variable {X : Cx} {W : WX} {cls : Cls} {FN N : List Str} {sc : Scope} {k : Nat} {GL : Str → Option D} {C : Orc} {pos : Pos} {i : Nat} {x : Str} {p apos : Pos}
theorem fldD_of {st : List D} {t : D} (h : fldD st = some t) : ∃ ts, st = [t, .list ts] := by
  unfold fldD at h
  split at h
  · cases h; exact ⟨_, rfl⟩
  · cases h
theorem s_fld (S : SC X FN N sc k GL C cls) (hi : N[i]? = some x) (hv : visB sc x = true) (hx : okN x = true) (hm : hasM FN = true) : PE X (.Attribute (.Name x p) "term" pos) (tE X.prog X.w W cls (ev GL C (.fld i))) := by
  obtain ⟨h4, h5⟩ := okN_of hx
  have K := S.ft.wk hm
  refine pe_to (pe_fld (pe_var (i := i) (by rw [S.hN]; exact hi) (by rw [S.sc]; exact vis_of hv) h4 h5) rfl) fun σ H Q ⟨H0, Z0, g, Z, sr, po⟩ => ?_
  rw [ev] at po
  obtain ⟨⟨d, m⟩, e, hk⟩ := po.ofO
  rw [Option.map_eq_some_iff] at e
  obtain ⟨t, e, e2⟩ := e
  cases e2
  rw [Option.bind_eq_some_iff] at e
  obtain ⟨st, e1, e2⟩ := e
  obtain ⟨q, l, t', ts, hg, hs, est, ws⟩ := obj_of sr e1
  subst est
  cases e2
  cases ws with
  | mk z1 z2 n e3 rt el rs =>
    exact ⟨.ref q, hs, q, _, _, _, _, rfl, e3, K.cl, K.n1, lk_term _ _, fin_val (K := fun _ _ _ _ => True) sr hk rt⟩
theorem s_mcall {f m : Str} {es : E} {e : Expr} {args : List Expr} (S : SC X FN N sc k GL C cls) (tk : Takes X W) (hi : N[i]? = some x) (hv : visB sc x = true) (hx : okN x = true) (hm : hasM FN = true) (hl : mths.lookup f = some m) (hc : FN.contains m = true)
    (hln : (apos.endLine == pos.line) = true) (hnum : (e :: args).length < 10) (hn : ∀ y ∈ e :: args, isStar y = false) (ha : PA X (e :: args) (tA X.prog X.w W cls (evs GL C es))) : PE X (.Call (.Attribute (.Name x p) f apos) (e :: args) [] pos) (tE X.prog X.w W cls (ev GL C (.mcall i m es))) := by
  obtain ⟨h4, h5⟩ := okN_of hx
  have K := S.ft.wk hm
  obtain ⟨fa, fd, ps, h1, h2, h3⟩ := S.ft.mt f m hl hc
  have hf : methodCallForm ((e :: args).length + ([] : List Keyword).length) (backTo pos (starEach (e :: args) X.env)) (backToKw pos (keywordEach [] X.env)) = true := by
    have h1 := star_any (env := X.env) (pos := pos) hn
    have h2 : (backTo pos (starEach (e :: args) X.env)).all (fun x => !x.1) = true := by
      rw [List.all_eq_not_any_not]
      simpa using h1
    have h3 : decide ((e :: args).length + ([] : List Keyword).length + (if (backToKw pos (keywordEach [] X.env)).isEmpty = true then 0 else 1) < 30) = true := by
      have : (if (backToKw pos (keywordEach [] X.env)).isEmpty = true then 0 else 1) ≤ 1 := by split <;> omega
      rw [decide_eq_true_iff]
      simp only [List.length_nil] at *
      omega
    unfold methodCallForm
    rw [h2, h3]
    rfl
  have ht : eval (.Call (.Attribute (.Name x p) f apos) (e :: args) [] pos) X.env = (do
      let ov ← eval (.Name x p) X.env
      standAt apos.atName
      let (f, first) ← holding [ov] (getMethod ov f (plainOf (.Name x p) X.env))
      callWith pos f first (backTo pos (starEach (e :: args) X.env)) (backToKw pos (keywordEach [] X.env))) := by
    rw [arm_eval_Call]
    show (do
      let ov ← eval (.Name x p) X.env
      standAt apos.atName
      methodCall (.Name x p) f apos pos X.env ov ((e :: args).length + ([] : List Keyword).length) (backTo pos (starEach (e :: args) X.env)) (backToKw pos (keywordEach [] X.env))) = _
    congr 1
    funext ov
    rw [mcall_line hf hln]
  refine pe_to (pe_meth (CX := L2.CX X.prog X.w) (E := fun _ _ _ => False) (pe_var (i := i) (by rw [S.hN]; exact hi) (by rw [S.sc]; exact vis_of hv) h4 h5) K.cl h1 h2 S.room h3 .nil (passes_call tk (fun _ _ _ _ h => h.elim)) ha (star_no (hn e (by simp))) (star_any fun y hy => hn y (by simp [hy])) ht) fun σ H Q ⟨H0, Z0, g, Z, sr, po⟩ => ?_
  rw [ev] at po
  split at po
  case isFalse => exact po.elim
  rename_i ho
  obtain ⟨st, ho⟩ := Option.isSome_iff_exists.mp ho
  obtain ⟨q, l, t, ts, hg, hs, est, ws⟩ := obj_of sr ho
  have he : ∃ dx tv, H q = some (.ins Cfg.wc dx [("term", tv), ("taken", .ref l)]) := by
    cases ws with
    | mk z1 z2 n e3 rt el rs => exact ⟨_, _, e3⟩
  obtain ⟨dx, tv, he⟩ := he
  refine ⟨.ref q, hs, q, dx, _, rfl, he, no_fld hl _ _, H0, Z0, g, Z, sr, po.bd.mono fun ds g1 H1 Z1 sr1 zz po1 us rs => ?_⟩
  split at po1
  case h_2 => exact po1.elim
  rename_i r st' hmet
  rw [Option.bind_eq_some_iff] at hmet
  obtain ⟨st1, ho1, hmet⟩ := hmet
  obtain ⟨q1, l1, t1, ts1, hg1, hs1, est1, ws1⟩ := obj_of sr1 ho1
  rw [hs] at hs1
  cases hs1
  subst est1
  refine ⟨Z1, q, l1, t1, ts1, us, ds, by rw [List.append_nil], sr1.zh, ws1, rs, ?_⟩
  rw [hmet]
  intro v H' Z' l' t' ts' est tr hd ws' rv
  subst est
  exact po1 H' Z' (sr1.walk hg1 hs ws1 tr hd ws') tr.zz v (Out.fr rv)
end
end DL

set_option Elab.async false
set_option linter.all false
set_option maxRecDepth 100000
/-! D22: a displayed dict of texts, read at once. -/
namespace DL
open PySem L2 PySem.Spec PyProof.Rows
variable [Cfg] [Fix]

def kvV (kvs : List (Str × Str)) : List (Key × V) := kvs.map fun p => (Sum.inr p.1, V.str p.2)
theorem valV_merge (k : Str) : ∀ (kvs : List (Str × Str)) (acc : List (Key × V)), valV (mergeK acc (kvV kvs)) (Sum.inr k : Key) = match pickS kvs k none with | some y => some (.str y) | none => valV acc (Sum.inr k) := by
  have out : ∀ (kvs : List (Str × Str)) (o : Option Str), pickS kvs k o = match pickS kvs k none with | some y => some y | none => o := by
    intro kvs
    induction kvs with
    | nil => intro o; rfl
    | cons p r ih =>
      intro o
      simp only [pickS]
      by_cases e : k = p.1
      · rw [if_pos e, if_pos e, ih (some p.2)]
        cases pickS r k none <;> rfl
      · rw [if_neg e, if_neg e, ih o]
  intro kvs
  induction kvs with
  | nil => intro acc; rfl
  | cons p r ih =>
    intro acc
    show valV (mergeK (putK acc (Sum.inr p.1) (.str p.2)) (kvV r)) _ = _
    rw [ih, valV_put]
    simp only [pickS]
    by_cases e : k = p.1
    · subst e
      rw [if_pos rfl, if_pos rfl, out r (some p.2)]
      cases pickS r p.1 none <;> rfl
    · rw [if_neg (fun z => e (Sum.inr.inj z)), if_neg e]
section
variable {X : Cx} {W : WX} {cls : Cls} {FN N : List Str} {sc : Scope} {k : Nat} {GL : Str → Option D} {C : Orc} {pos : Pos}
theorem pps_of : ∀ {kvs : List (Str × Str)} {ks : List (Option Expr)} {vs : List Expr}, chkKV kvs ks vs = true → ks.all (·.isSome) = true ∧ ks.length = vs.length ∧ ks.length = kvs.length ∧ ∃ trs, PPs X pos ks vs trs ∧ ∀ (σ : L2.St) (H : Hp) (Q : List (V × V) → Hp → Prop), Q ((kvV kvs).map fun kv => (kV kv.1, kv.2)) H → tPairs trs σ H Q
  | [], [], [], _ => ⟨rfl, rfl, rfl, [], pps_nil, fun σ H Q q => q⟩
  | [], _ :: _, _, h => by simp [chkKV] at h
  | [], [], _ :: _, h => by simp [chkKV] at h
  | (a, b) :: r, ks, vs, h => by
    unfold chkKV at h
    split at h
    · rename_i e1; cases e1
    · rename_i a' b' r' x p1 p2 ks' y p3 p4 vs' e1
      cases e1
      simp only [Bool.and_eq_true, decide_eq_true_eq] at h
      obtain ⟨⟨rfl, rfl⟩, h⟩ := h
      obtain ⟨h1, h2, h3, trs, h4, h5⟩ := pps_of h
      exact ⟨by simpa using h1, by simp [h2], by simp [h3], _, pps_cons pe_str pe_str h4, fun σ H Q q => h5 σ H _ q⟩
    · cases h
theorem s_dpick {kvs : List (Str × Str)} {a : E} {ks : List (Option Expr)} {vs : List Expr} {e : Expr} {p : Pos} (S : SC X FN N sc k GL C cls) (hk : chkKV kvs ks vs = true) (h0 : kvs.isEmpty = false) (h15 : kvs.length ≤ 15) (hs : isSlice e = false) (ha : PE X e (tE X.prog X.w W cls (ev GL C a))) :
    PE X (.Subscript (.Dict ks vs p) e pos) (tE X.prog X.w W cls (ev GL C (.dpick kvs a))) := by
  have u1 := room200 S.room
  obtain ⟨h1, h2, h3, trs, h4, h5⟩ := pps_of (X := X) (pos := p) hk
  have hne : ks ≠ [] := fun z => by rw [z] at h3; cases kvs <;> simp at h3 h0
  refine pe_to (pe_dget (by omega) (pe_disp h4 h1 h2 hne (by omega)) ha (fun ov iv => by have := plain_ix hs ov iv; exact this)) fun σ H Q ⟨H0, Z0, g, Z, sr, po⟩ => ?_
  rw [ev] at po
  intro d hd
  refine h5 _ _ _ ⟨upd_same, kvV kvs, rfl, by simp [kvV]; exact h15, ?_⟩
  have t : Tr H Z (upd (upd H d (.dK [])) d (.dK (mergeK [] (kvV kvs)))) Z := by
    have s1 : Same H (upd (upd H d (.dK [])) d (.dK (mergeK [] (kvV kvs)))) := fun b u q => by rw [upd_ne (ne_of_none q hd), upd_ne (ne_of_none q hd)]; exact q
    exact ⟨s1, Same.refl _, sr.zh.trans s1, fun _ _ => rfl⟩
  have hd2 : (upd (upd H d (.dK [])) d (.dK (mergeK [] (kvV kvs)))) d = some (.dK (mergeK [] (kvV kvs))) := upd_same
  generalize upd (upd H d (.dK [])) d (.dK (mergeK [] (kvV kvs))) = H1 at t hd2
  cases hev : ev GL C a (hide g) with
  | exc c g' => rw [hev] at po; exact po.elim
  | stuck => rw [hev] at po; exact po.elim
  | ok r g' =>
    rw [hev] at po
    obtain ⟨⟨d', m'⟩, e1, hk'⟩ := po.ofO
    refine ⟨H1, Z, hide g, Z, (sr.tr t).block, ?_⟩
    rw [hev]
    intro H2 Z2 sr2 zz v ov
    have tr := sr2.toTr
    have e2 := tr.hh _ _ hd2
    obtain ⟨rd, rm⟩ := r
    unfold dpickD at e1
    split at e1
    case h_2 => cases e1
    rename_i x ex
    simp only at ex
    subst ex
    rw [Option.map_eq_some_iff] at e1
    obtain ⟨y, e3, e4⟩ := e1
    cases e4
    rw [ov.hold.str]
    refine ⟨d, .str y, rfl, ?_, hk' H2 Z2 ((sr.tr t).tr tr) (t.zz.trans tr.zz) _ (Out.fr (.str y))⟩
    have := DGet.k (k := (Sum.inr x : Key)) e2
    rw [valV_merge, e3] at this
    exact this
end
end DL

set_option Elab.async false
set_option linter.all false
set_option maxRecDepth 100000
/-! D23: dicts of a slot's own whose keys are tuples: asked, stored in, listed, sorted. -/
namespace DL
open PySem L2 PySem.Spec PyProof.Rows PySem.SeqAt SrtO

/-! ### keys -/
mutual
theorem nested_of_reads {h : Heap} : ∀ (d : D) (v : Value) (as : List Addr), keyOk d = true → Reads h v d as → NestedIs h (nk d) v
  | .int i, _, _, _, r => by cases r; exact .int i _
  | .str x, _, _, _, r => by cases r; exact .text x _
  | .tuple xs, _, _, p, r => by
    cases r with
    | tuple e1 e2 e3 e4 => exact .tup e1 e2 e3 (nesteds_of_reads xs _ _ (by simpa [keyOk] using p) e4)
  | .none, _, _, p, _ => by simp [keyOk] at p
  | .bool _, _, _, p, _ => by simp [keyOk] at p
  | .list _, _, _, p, _ => by simp [keyOk] at p
  | .dict _, _, _, p, _ => by simp [keyOk] at p
theorem nesteds_of_reads {h : Heap} : ∀ (ds : List D) (vs : List Value) (as : List Addr), plainAll ds = true → ReadsAll h vs ds as → NestedAll h (nks ds) vs
  | [], _, _, _, r => by cases r; exact .nil
  | d :: ds, _, _, p, r => by
    simp only [plainAll, keyOk.keyOkAll, Bool.and_eq_true] at p
    cases r with
    | cons a b => exact .cons (nested_of_reads d _ _ p.1 a) (nesteds_of_reads ds _ _ p.2 b)
end
mutual
theorem nk_depth : ∀ d : D, keyOk d = true → (nk d).depth ≤ d.depth
  | .int i, _ => by simp [nk, NestedKey.depth]
  | .str x, _ => by simp [nk, NestedKey.depth]
  | .tuple xs, p => by
    have := nks_depth xs (by simpa [keyOk] using p)
    simp only [nk, NestedKey.depth, PyData.depth]
    omega
  | .none, p => by simp [keyOk] at p
  | .bool _, p => by simp [keyOk] at p
  | .list _, p => by simp [keyOk] at p
  | .dict _, p => by simp [keyOk] at p
theorem nks_depth : ∀ ds : List D, plainAll ds = true → NestedKey.depthAll (nks ds) ≤ PyData.depthAll ds
  | [], _ => by simp [nks, NestedKey.depthAll]
  | d :: ds, p => by
    simp only [plainAll, keyOk.keyOkAll, Bool.and_eq_true] at p
    have := nk_depth d p.1
    have := nks_depth ds p.2
    simp only [nks, NestedKey.depthAll, PyData.depthAll]
    omega
end
mutual
theorem nk_inj : ∀ d e : D, keyOk d = true → keyOk e = true → nk d = nk e → d = e
  | .int i, e, _, q, h => by cases e <;> simp [keyOk] at q <;> simp [nk] at h <;> rw [h]
  | .str x, e, _, q, h => by cases e <;> simp [keyOk] at q <;> simp [nk] at h <;> rw [h]
  | .tuple xs, e, p, q, h => by
    cases e <;> simp [keyOk] at q <;> simp [nk] at h
    rw [nks_inj xs _ (by simpa [keyOk] using p) q h]
  | .none, _, p, _, _ => by simp [keyOk] at p
  | .bool _, _, p, _, _ => by simp [keyOk] at p
  | .list _, _, p, _, _ => by simp [keyOk] at p
  | .dict _, _, p, _, _ => by simp [keyOk] at p
theorem nks_inj : ∀ xs ys : List D, plainAll xs = true → plainAll ys = true → nks xs = nks ys → xs = ys
  | [], [], _, _, _ => rfl
  | [], _ :: _, _, _, h => by simp [nks] at h
  | _ :: _, [], _, _, h => by simp [nks] at h
  | x :: xs, y :: ys, p, q, h => by
    simp only [plainAll, keyOk.keyOkAll, Bool.and_eq_true] at p q
    simp only [nks, List.cons.injEq] at h
    rw [nk_inj x y p.1 q.1 h.1, nks_inj xs ys p.2 q.2 h.2]
end
theorem tupKey_of {d : D} (h : tupKey d = true) : (∃ xs, d = .tuple xs) ∧ keyOk d = true ∧ d.canLay0 = true ∧ d.depth ≤ 8 := by
  unfold tupKey at h
  simp only [Bool.and_eq_true, decide_eq_true_eq] at h
  refine ⟨?_, h.1.1.2, h.1.2, h.2⟩
  have := h.1.1.1
  split at this
  · exact ⟨_, rfl⟩
  · cases this
theorem nk_eq {d e : D} (hd : tupKey d = true) (he : tupKey e = true) : decide (nk d = nk e) = PyData.eqv d e := by
  have h1 := (tupKey_of hd).2.1
  have h2 := (tupKey_of he).2.1
  by_cases c : d = e
  · rw [decide_eq_true (by rw [c]), (eqv_plain d e h1 h2).mpr c]
  · rw [decide_eq_false fun z => c (nk_inj d e h1 h2 z)]
    cases q : PyData.eqv d e with
    | false => rfl
    | true => exact absurd ((eqv_plain d e h1 h2).mp q) c
theorem repns_key {Z : Hp} {xs : List (NestedKey × Addr × Value)} {es : List (D × D)} (r : RepNs Z xs es) {k : D} (hk : tupKey k = true) : (atKey xs (nk k)).isSome = hasKey es k := by
  induction r with
  | nil => rfl
  | @cons k0 d a v u xs es h1 h2 h3 h4 h5 ih =>
    have e := nk_eq h1 hk
    unfold atKey hasKey at *
    rw [List.find?_cons, List.any_cons]
    by_cases c : nk k0 = nk k
    · rw [decide_eq_true c] at e
      simp [c, ← e]
    · rw [decide_eq_false c] at e
      simp only [c, decide_false, ← e, Bool.false_or]
      exact ih
theorem RepNs.snoc {Z : Hp} {xs : List (NestedKey × Addr × Value)} {es : List (D × D)} (r : RepNs Z xs es) {k d : D} {a : Addr} {v : V} {u : Value} (hk : tupKey k = true) (rk : Rep Z (.ref a) k) (rv : RelV v u) (rd : Rep Z v d) : RepNs Z (xs ++ [(nk k, a, u)]) (es ++ [(k, d)]) := by
  induction r with
  | nil => exact .cons hk rk rv rd .nil
  | cons h1 h2 h3 h4 _ ih => exact .cons h1 h2 h3 h4 ih
theorem RepNs.putAt {Z : Hp} {xs : List (NestedKey × Addr × Value)} {es : List (D × D)} (r : RepNs Z xs es) {k d : D} {v : V} {u : Value} (hk : tupKey k = true) (rv : RelV v u) (rd : Rep Z v d) : RepNs Z (xs.map (PySem.putAt (nk k) u)) (es.map fun p => if PyData.eqv p.1 k then (p.1, d) else p) := by
  induction r with
  | nil => exact .nil
  | @cons k0 d0 a v0 u0 xs es h1 h2 h3 h4 h5 ih =>
    have e := nk_eq h1 hk
    simp only [List.map_cons]
    by_cases c : nk k0 = nk k
    · rw [decide_eq_true c] at e
      rw [← e]
      unfold PySem.putAt
      simp only [c, if_true]
      rw [← c]
      exact .cons h1 h2 rv rd (by rw [c]; exact ih)
    · rw [decide_eq_false c] at e
      rw [← e]
      have e2 : PySem.putAt (nk k) u (nk k0, a, u0) = (nk k0, a, u0) := by unfold PySem.putAt; rw [if_neg c]
      rw [e2]
      exact .cons h1 h2 h3 h4 ih
theorem RepNs.put {Z : Hp} {xs : List (NestedKey × Addr × Value)} {es : List (D × D)} (r : RepNs Z xs es) {k d : D} {a : Addr} {v : V} {u : Value} (hk : tupKey k = true) (rk : Rep Z (.ref a) k) (rv : RelV v u) (rd : Rep Z v d) : RepNs Z (storedH xs (nk k) a u) (putKey es k d) := by
  unfold storedH putKey
  rw [repns_key r hk]
  split
  · exact r.putAt hk rv rd
  · exact r.snoc hk rk rv rd
theorem RepNs.keys {Z : Hp} {xs : List (NestedKey × Addr × Value)} {es : List (D × D)} (r : RepNs Z xs es) : Reps Z (xs.map fun x => V.ref x.2.1) (es.map (·.1)) := by
  induction r with
  | nil => exact .nil
  | cons h1 h2 h3 h4 _ ih => exact .cons h2 ih
section
variable {X : Cx} {pins : List (Addr × Obj)} {σ : L2.St} {H Z : Hp} {s : Shared}
theorem key_is (I : Inv X pins σ H s) (zh : Same Z H) {k : D} {a : Addr} (hk : tupKey k = true) (r : Rep Z (.ref a) k) : (nestedKind X.prog X.w).is s.heap (nk k) a := by
  obtain ⟨_, h1, h2, h3⟩ := tupKey_of hk
  obtain ⟨as, rr⟩ := Dp.reads I k (.ref a) (.ref a) (Rep.dp zh k _ h2 r) rfl
  exact ⟨nested_of_reads k _ as h1 rr, Nat.le_trans (nk_depth k h1) h3⟩
theorem repns_is (I : Inv X pins σ H s) (zh : Same Z H) {xs : List (NestedKey × Addr × Value)} {es : List (D × D)} (r : RepNs Z xs es) : ∀ x ∈ xs, (nestedKind X.prog X.w).is s.heap x.1 x.2.1 := by
  induction r with
  | nil => intro x hx; cases hx
  | cons h1 h2 h3 h4 _ ih =>
    intro x hx
    rcases List.mem_cons.mp hx with rfl | hx
    · exact key_is I zh h1 h2
    · exact ih x hx
theorem phi_at (I : Inv X pins σ H s) {p : Addr} {xs : List (NestedKey × Addr × Value)} (hp : H p = some (.ext (phiN X.prog X.w p xs))) : phiN X.prog X.w p xs s.heap :=
  (show phiN X.prog X.w p xs s.heap ∧ _ from I.hok p _ hp).1
theorem dictH (I : Inv X pins σ H s) (zh : Same Z H) {p : Addr} {xs : List (NestedKey × Addr × Value)} {es : List (D × D)} (hp : H p = some (.ext (phiN X.prog X.w p xs))) (nd : (xs.map (·.1)).Nodup) (r : RepNs Z xs es) : s.heap.DictOfH (nestedKind X.prog X.w) p xs := by
  obtain ⟨o, es', ep, h1, h2, h3, h4⟩ := phi_at I hp
  exact ⟨o, es', ep, h1, h2, h3, h4, repns_is I zh r, nd⟩
theorem phi_ok {P : Program} {w : World} {H' : Hp} {h : Heap} {p : Addr} {xs : List (NestedKey × Addr × Value)} (q : phiN P w p xs h) : ObjOk P w H' h p (.ext (phiN P w p xs)) := by
  obtain ⟨o, es', ep, h1, h2, h3, h4⟩ := id q
  exact ⟨q, ⟨o, h1⟩, fun a b ⟨o, es, ep, e, r⟩ k => ⟨o, es, ep, k _ e, r⟩⟩
end
section
variable {X : Cx} {pos : Pos}
def tDNewN (P : Program) (w : World) : TE := fun σ H Q => ∀ p, H p = none → (p == sysModules) = false → Q (.ref p) (upd H p (.ext (phiN P w p [])))
theorem pe_dnewN : PE X (.Dict [] [] pos) (tDNewN X.prog X.w) := ⟨fun pins s σ H Q I h =>
  wpAny_Dict_empty ⟨.ref s.heap.objs.size, _, I.laid (a := s.heap.objs.size) (o := .ext (phiN X.prog X.w s.heap.objs.size [])) (t' := s.toks) (fun _ _ q => Heap.get?_push_of_some _ q) (Nat.le_refl _)
    (phi_ok ⟨_, #[], 0, Heap.get?_push_size _ rfl, ⟨rfl, rfl, rfl⟩, rfl, rfl⟩), rfl, h _ (I.hok.fresh (Nat.le_refl _)) (beq_eq_false_iff_ne.mpr (Ne.symm (Nat.ne_of_lt I.big)))⟩⟩
def rNin (P : Program) (w : World) : R2 := fun x y H Q => ∃ Z k a p xs es, x = .ref a ∧ y = .ref p ∧ Same Z H ∧ tupKey k = true ∧ Rep Z (.ref a) k ∧ H p = some (.ext (phiN P w p xs)) ∧ (p == sysModules) = false ∧ (xs.map (·.1)).Nodup ∧ RepNs Z xs es ∧ Q (.bl (!hasKey es k)) H
theorem op_nin (hu : X.A.units + 200 < cLine) : OpR X (compareOp .NotIn) (rNin X.prog X.w) := by
  intro pins s σ H x y v u Q I rx ry h
  obtain ⟨Z, k, a, p, xs, es, rfl, rfl, zh, hk, rk, hp, hs, nd, rs, q⟩ := h
  obtain rfl : v = Value.ref a := rx
  obtain rfl : u = Value.ref p := ry
  refine notIn_keyed (knd := nestedKind X.prog X.w) (by show X.A.units + 1 + 8 < cLine; omega) (key_is I zh hk rk) hs ⟨xs, dictH I zh hp nd rs, rfl⟩ ?_
  rw [valueAt_pairsH, Option.isSome_map, repns_key rs hk]
  exact ⟨.bl (!hasKey es k), H, I.tok _, rfl, q⟩
def PutN (P : Program) (w : World) (H : Hp) (a : Addr) (y v : V) (Q : Hp → Prop) : Prop := ∃ Z k d b xs es, y = .ref b ∧ Same Z H ∧ tupKey k = true ∧ Rep Z (.ref b) k ∧ Rep Z v d ∧ H a = some (.ext (phiN P w a xs)) ∧ xs.length < sizeLine ∧ (xs.map (·.1)).Nodup ∧ RepNs Z xs es ∧
  ∀ xs', (xs'.map (·.1)).Nodup → RepNs Z xs' (putKey es k d) → Q (upd H a (.ext (phiN P w a xs')))
def sPutN (P : Program) (w : World) (td ty tv : TE) : TS := fun D σ H => tv σ H fun v H1 => td σ H1 fun x H2 => ty σ H2 fun y H3 => ∃ a, x = .ref a ∧ PutN P w H3 a y v (D.nx σ)
theorem ps_nput {o i value : Expr} {pos' : Pos} {td ty tv : TE} (hu : X.A.units + 200 < cLine) (ho : PE X o td) (hi : PE X i ty) (hv : PE X value tv) (hs : swapsWith value (some (.Subscript o i pos')) pos.line X.env = pure false) :
    PS X (.Assign [.Subscript o i pos'] value pos) (sPutN X.prog X.w td ty tv) := by
  refine ⟨fun pins s σ H D I h => ?_⟩
  refine wpAny_Assign_Subscript (thn (hv.run pins s σ H _ I h) fun r s1 ⟨v, H1, I1, rv, q1⟩ => thn (ho.run pins s1 σ H1 _ I1 q1) fun u s2 ⟨x, H2, I2, rx, q2⟩ => thn (hi.run pins s2 σ H2 _ I2 q2) fun iv s3 ⟨y, H3, I3, ry, a, ex, g⟩ => ?_) hs
  subst ex
  obtain rfl : u = Value.ref a := rx
  obtain ⟨Z, k, d, b, xs, es, rfl, zh, hk, rk, rd, hp, hl, nd, rs, q⟩ := g
  obtain rfl : iv = Value.ref b := ry
  refine wpAny_setItem_heap (hsz := Nat.le_of_lt hl) (by show X.A.units + 1 + 8 < cLine; omega) (key_is I3 zh hk rk) (dictH I3 zh hp nd rs) fun h' dd' hs' => ?_
  obtain ⟨o', es', ep', k1, k2, k3, k4, k5, k6⟩ := dd'
  exact ⟨σ, _, d_write I3 (by rw [hp]; exact True.intro) hs' ⟨o', k1⟩ (phi_ok ⟨o', es', ep', k1, k2, k3, k4⟩), q _ k6 (rs.put hk rk rv rd)⟩
/-! ### all keys -/
theorem keys_acc {P : Program} {w : World} {xs : List (NestedKey × Addr × Value)} {es : Array DictEntry} {acc : Array Value} (he : es.toList = xs.map (entryOfKey (nestedKind P w))) (hacc : ItemsOf (fun i v => ∃ hi : i < es.size, v = es[i].key) acc es.size) : acc.toList = xs.map fun x => Value.ref x.2.1 := by
  have hs : es.size = xs.length := size_of_entries he
  apply List.ext_getElem?
  intro j
  rw [List.getElem?_map, Array.getElem?_toList]
  by_cases hj : j < es.size
  · have h1 : j < acc.size := by rw [hacc.1]; exact hj
    have e := entry_at he j
    rw [Array.getElem?_eq_getElem hj, List.getElem?_eq_getElem (by omega)] at e
    obtain ⟨_, e2⟩ := hacc.2 j acc[j] (Array.getElem?_eq_getElem h1)
    rw [Array.getElem?_eq_getElem h1, e2, List.getElem?_eq_getElem (by omega)]
    simp only [Option.map_some, Option.some.injEq] at e ⊢
    rw [e]
    rfl
  · rw [Array.getElem?_eq_none (by rw [hacc.1]; omega), List.getElem?_eq_none (by omega)]
    rfl
theorem vals_refs : ∀ xs : List (NestedKey × Addr × Value), Vals (xs.map fun x => V.ref x.2.1) (xs.map fun x => Value.ref x.2.1)
  | [] => .nil
  | x :: xs => .cons rfl (vals_refs xs)
def rListN (P : Program) (w : World) : List V → Hp → VK → Prop := fun vs H Q => ∃ (p : Addr) (xs : List (NestedKey × Addr × Value)), vs = [.ref p] ∧ H p = some (.ext (phiN P w p xs)) ∧ (p == sysModules) = false ∧ xs.length ≤ sizeLine ∧ ∀ q, H q = none → Q (.ref q) (upd H q (.lst (xs.map fun x => V.ref x.2.1)))
theorem call_listN (hc : X.calm = true) : CallR X (.type "list") (rListN X.prog X.w) := fun pins s σ H vs us Q I r h => by
  obtain ⟨p, xs, rfl, hp, lo, hz, q⟩ := h
  rw [Vals.ref1 r]
  obtain ⟨o, es, ep, h1, h2, h3, h4⟩ := phi_at I hp
  have hs : es.size = xs.length := size_of_entries h4
  refine PySem.W.kdl_call (KdlSrc.rawDict (es := es) (ep := ep) lo) (I.ok.hd hc) ⟨o, h1, h2, h3⟩ (by rw [hs]; exact hz) fun h' tk acc c hk hS hacc => ?_
  have ea := keys_acc h4 hacc
  refine ⟨.ref s.heap.objs.size, _, I.laid (t' := tk) hk (Nat.le_refl _) (show ObjOk X.prog X.w _ h' s.heap.objs.size (.lst (xs.map fun x => V.ref x.2.1)) from ⟨by rw [List.length_map]; exact hz, acc.toList, c, by rw [ea]; exact vals_refs xs, by rw [Array.toArray_toList]; exact hS⟩), rfl, q _ (I.hok.fresh (Nat.le_refl _))⟩
end
/-! ### sorted(d) -/
section
variable {prog : Program} {w : World} {A : Around} {E : Value → Shared → Prop} {s : Shared}
/-- the items may be sorted -/
theorem sortable_data {h0 : Heap} {vs : List Value} {ds : List D} (hp : Paired (RdP h0) vs ds) (ok : SortOk ds) (hu : A.units + 101 < cLine) (h2 : 2 ≤ vs.length) (a : Addr) (ha : s.heap.get? a = some (seqObj "list" vs.toArray 0)) (kk : ∀ b o, h0.get? b = some o → s.heap.get? b = some o) :
    SortableO prog w A s a vs (ltV h0) := by
  have hlen : vs.length = ds.length := Paired.length hp
  intro h' keep
  have nt : ∀ o, s.heap.get? a = some o → o.cls ≠ .type "tuple" := fun o e => by
    have e' : some o = some (seqObj "list" vs.toArray 0) := e.symm.trans ha
    cases e'
    intro c
    exact absurd (Value.type.inj c) (by decide)
  have up : ∀ {v : Value} {d : D}, RdP h0 v d → RdP h' v d := fun {v d} ⟨⟨as, r⟩, p1, p2, p3⟩ => by
    have r1 : Reads s.heap v d as := Reads.keeps (fun b o e => kk b o e) r
    exact ⟨⟨as, reads_keep keep nt d v as p1 r1⟩, p1, p2, p3⟩
  have kd : (∀ d ∈ ds, fstStr d = true) ∨ (∀ d ∈ ds, fstTup d = true) := ok.kind.resolve_left (by omega)
  have fin : ∀ (b : Bool) (T : Value), (b = true ∧ T = .type "str") ∨ (b = false ∧ T = .type "tuple") → (∀ d ∈ ds, if b = true then fstStr d = true else fstTup d = true) →
      ∃ κ, (∀ (Q : SortKind → Shared → Prop) (E : Value → Shared → Prop), Q κ { s with heap := h' } → wpAny (model prog w) A (keyKind' vs.toArray) Q E { s with heap := h' }) ∧ Cmp prog w A { s with heap := h' } κ (fun p => p.1 ∈ vs) (lt2 (ltV h0)) := fun b T hb hk => by
    have hv : ∀ v ∈ vs, ∃ d, d ∈ ds ∧ RdP h' v d ∧ (if b = true then fstStr d = true else fstTup d = true) := fun v hm => by
      obtain ⟨d, h1, h2⟩ := paired_mem hp v hm
      exact ⟨d, h1, up h2, hk d h1⟩
    obtain ⟨fs, f1, f2, f3⟩ := kat_tups (h := h') b hb vs fun v hm => by
      obtain ⟨d, _, h2, h3⟩ := hv v hm
      exact ⟨d, h2, h3⟩
    refine ⟨tuples' b, fun Q E hq => ?_, cmp_data rfl ok.cmp hv (fun v u d e hv hu r1 r2 => ?_) hu⟩
    · refine PySem.W.kat_kind (T := T) f1 (by omega) (fun f hm => f3 f hm _) ?_ ?_
      · rcases hb with ⟨_, rfl⟩ | ⟨_, rfl⟩ <;> rfl
      · rcases hb with ⟨rfl, rfl⟩ | ⟨rfl, rfl⟩
        · have e : (Value.type "str" != Value.type "tuple") = true := by first | decide +kernel | rfl | decide
          rw [e]; exact hq
        · have e : (Value.type "tuple" != Value.type "tuple") = false := by first | decide +kernel | rfl | decide
          rw [e]; exact hq
    · obtain ⟨d', _, q1⟩ := paired_mem hp v hv
      obtain ⟨e', _, q2⟩ := paired_mem hp u hu
      have e1 : d = d' := by rw [← rdF_eq r1, rdF_eq (up q1)]
      have e2 : e = e' := by rw [← rdF_eq r2, rdF_eq (up q2)]
      unfold ltV
      rw [rdF_eq q1, rdF_eq q2, e1, e2]
  rcases kd with kd | kd
  · exact fin true _ (.inl ⟨rfl, rfl⟩) (fun d hd => by simpa using kd d hd)
  · exact fin false _ (.inr ⟨rfl, rfl⟩) (fun d hd => by simpa using kd d hd)
theorem sorted_dict {p : Addr} {es : Array DictEntry} {ep : Nat} {vs : List Value} {ds : List D} {Q : Value → Shared → Prop} (hh : A.handled = none) (lo : (p == sysModules) = false) (hm : s.heap.DictRaw p es ep) (hv : ∀ acc : Array Value, ItemsOf (fun i v => ∃ hi : i < es.size, v = es[i].key) acc es.size → acc.toList = vs)
    (hl : es.size = vs.length) (hp : Paired (RdP s.heap) vs ds) (ok : SortOk ds) (hu : A.units + 110 < cLine)
    (h : ∀ (h1 h' : Heap) (tk : Nat) (out : List Value), out.Perm vs → out.map (rdF s.heap) = sortD ds → (∀ b o, s.heap.get? b = some o → h1.get? b = some o) → (∀ b o, h1.get? b = some o → h'.get? b = some o) → (∃ n, h'.get? h1.objs.size = some (seqObj "list" out.toArray n)) → Q (.ref h1.objs.size) { s with heap := h', toks := tk }) :
    wpAny (model prog w) A (call (.builtin "sorted") [.ref p]) Q E s := by
  have hlen : vs.length = ds.length := Paired.length hp
  have hz : vs.length ≤ sizeLine := by rw [hlen]; exact ok.sz
  have ein : A.in1.in1.units = A.units + 2 := rfl
  refine Calls.call_function_entry PyProof.Rows.kind_sorted PyProof.Rows.plain_sorted PyProof.Rows.entry_sorted (PyProof.Rows.args_sorted1 _) ?_
  unfold Builtin.«sorted»
  refine wpAny_bind (m := checkCount "sorted" 1 1 _) (wpAny_pure ?_)
  refine wpAny_bind (PySem.W.kdu_collect (A := A.in1) (KdlSrc.rawDict (es := es) (ep := ep) lo) hh hm (by rw [hl]; exact hz) fun h' tk acc hk hacc => ?_)
  have ea := hv acc hacc
  rw [ea]
  refine wpAny_bind (wpAny_newList ?_ hz)
  have hoL : (h'.push (seqObj "list" vs.toArray 0)).get? h'.objs.size = some (seqObj "list" vs.toArray 0) := Heap.get?_push_size _ rfl
  show wpAny _ _ _ _ _ { s with heap := h'.push (seqObj "list" vs.toArray 0), toks := tk }
  refine wpAny_bind (wpAny_holding (wpAny_call_entry PyProof.Rows.slot_list_sort ⟨_, hoL, rfl⟩ PyProof.Rows.entry_list_sort
    (list_sort_ord (s := { s with heap := h'.push (seqObj "list" vs.toArray 0), toks := tk }) (swoV s.heap) hoL hz (fun h2 => sortable_data hp ok (by rw [ein]; omega) h2 _ hoL fun b o e => Heap.get?_push_of_some _ (hk b o e)) fun out hs hb => ⟨_, rfl, ?_⟩)
    (PyProof.Rows.args_list_sort _)))
  obtain ⟨e', he'⟩ := PyProof.Rows.sortedHeap_at (vs := vs) (out := out.toArray) hoL
  refine wpAny_pure ⟨_, rfl, h h' _ tk out hb.perm ?_ hk (fun b u e => ?_) ⟨e', he'⟩⟩
  · have pm : (out.map (rdF s.heap)).Perm ds := by
      have := hb.perm.map (rdF s.heap)
      rwa [paired_rdF hp] at this
    exact up_one (fun x hx => (ok.plain x (pm.mem_iff.mp hx)).1) (List.pairwise_map.mpr hs) (sortD_up (fun x hx => (ok.plain x hx).1) ok.cmp) (pm.trans (sortD_perm ds).symm)
  · have hb : b < h'.objs.size := Heap.lt_size e
    rw [PyProof.Rows.sortedHeap_old (Nat.ne_of_lt hb) (by rw [size_push']; exact Nat.lt_succ_of_lt hb)]
    exact Heap.get?_push_of_some _ e
end
section
variable {X : Cx}
/-- the values of some keys, as the sort reads them -/
theorem pair_read {pins : List (Addr × Obj)} {σ : L2.St} {H Z : Hp} {s : Shared} (I : Inv X pins σ H s) (zh : Same Z H) : ∀ (ds : List D) (xs : List V) (its : List Value), Reps Z xs ds → Vals xs its → (∀ d ∈ ds, keyOk d = true ∧ d.canLay0 = true ∧ d.depth ≤ 100) → Paired (RdP s.heap) its ds ∧ ∀ u ∈ its, ∃ x d, RelV x u ∧ Rep Z x d ∧ RdP s.heap u d := by
  intro ds
  induction ds with
  | nil =>
    intro xs its r v _
    cases r; cases v
    exact ⟨.nil, fun u hu => by cases hu⟩
  | cons d ds ih =>
    intro xs its r v hp
    cases r with
    | cons r1 r2 =>
      cases v with
      | cons v1 v2 =>
        obtain ⟨p1, p2⟩ := ih _ _ r2 v2 fun e he => hp e (List.mem_cons_of_mem _ he)
        obtain ⟨k1, k2, k3⟩ := hp d List.mem_cons_self
        obtain ⟨as, rr⟩ := Dp.reads I d _ _ (Rep.dp zh d _ k2 r1) v1
        have rd : RdP s.heap _ d := ⟨⟨as, rr⟩, k1, k2, k3⟩
        refine ⟨.cons rd p1, fun u hu => ?_⟩
        rcases List.mem_cons.mp hu with rfl | hu
        · exact ⟨_, d, v1, r1, rd⟩
        · exact p2 u hu
end
section
variable [Cfg] [Fix]
section
variable {X : Cx}
def rSortN (P : Program) (w : World) : List V → Hp → VK → Prop := fun vs H Q => ∃ (p : Addr) (xs : List (NestedKey × Addr × Value)) (es : List (D × D)) (Z : Hp), vs = [.ref p] ∧ H p = some (.ext (phiN P w p xs)) ∧ (p == sysModules) = false ∧ Same Z H ∧ RepNs Z xs es ∧ SortOk (es.map (·.1)) ∧
  ∀ q outV, H q = none → Reps Z outV (sortD (es.map (·.1))) → Q (.ref q) (upd H q (.lst outV))
theorem cr_sortN (hc : X.calm = true) (hu : X.A.units + 110 < cLine) : CallR X (.builtin "sorted") (rSortN X.prog X.w) := fun pins s σ H vs us Q I r h => by
  obtain ⟨p, xs, es, Z, rfl, hp, lo, zh, rs, ok, q⟩ := h
  rw [Vals.ref1 r]
  obtain ⟨o, es', ep, h1, h2, h3, h4⟩ := phi_at I hp
  have hs : es'.size = xs.length := size_of_entries h4
  obtain ⟨p1, p2⟩ := pair_read I zh (es.map (·.1)) _ _ rs.keys (vals_refs xs) ok.plain
  refine sorted_dict (es := es') (ep := ep) (I.ok.hd hc) lo ⟨o, h1, h2, h3⟩ (fun acc ha => keys_acc h4 ha) (by rw [hs, List.length_map]) p1 ok hu fun h1' h' tk out hperm hmap k1 k2 hget => ?_
  obtain ⟨n, hget⟩ := hget
  obtain ⟨outV, w1, w2⟩ := out_vals (h := s.heap) (Z := Z) out fun u hu => p2 u (hperm.mem_iff.mp hu)
  rw [hmap] at w2
  have I1 : Inv X pins σ H { s with heap := h1', toks := tk } := I.kept k1
  have hf : H h1'.objs.size = none := I1.hok.fresh (Nat.le_refl _)
  have hlen : outV.length ≤ sizeLine := by
    rw [w2.length, (sortD_perm _).length_eq]; exact ok.sz
  exact ⟨.ref h1'.objs.size, _, I1.laid (t' := tk) k2 (Nat.le_refl _) (show ObjOk X.prog X.w (upd H _ (.lst outV)) h' _ (.lst outV) from ⟨hlen, out, n, w1, hget⟩), rfl, q _ outV hf w2⟩
end
section
variable {X : Cx} {W : WX} {cls : Cls} {FN N : List Str} {sc : Scope} {k : Nat} {GL : Str → Option D} {C : Orc} {pos : Pos} {L : Nat}
theorem nestAt_of {i : Nat} {g : Sg} {kvs : List (D × D)} (h : nestAt i g = some kvs) : g[i]? = some (some (.dict kvs, .on)) := by
  unfold nestAt at h
  split at h
  · cases h; assumption
  · cases h
theorem own_nest {P : Program} {w : World} {H0 Z0 H Z : Hp} {g : Sg} {σ : L2.St} (sr : SR P w H0 Z0 g σ H Z) {i : Nat} {kvs : List (D × D)} (h : nestAt i g = some kvs) :
    ∃ p xs, σ[i]? = some (some (.ref p)) ∧ Z p = none ∧ H p = some (.ext (phiN P w p xs)) ∧ (p == sysModules) = false ∧ (xs.map (·.1)).Nodup ∧ RepNs Z xs kvs := by
  obtain ⟨v, hv, hh⟩ := sr.sl i _ _ (nestAt_of h)
  cases hh with
  | on a b c d e => exact ⟨_, _, hv, a, b, c, d, e⟩
theorem s_dnew {n : Bool} : PE X (.Dict [] [] pos) (tE X.prog X.w W cls (ev GL C (.dnew n))) := by
  cases n with
  | false =>
    exact pe_to pe_dnewK fun σ H Q ⟨H0, Z0, g, Z, sr, po⟩ p hp => by
      rw [ev] at po
      exact po _ Z (sr.tr (Tr.laid sr.zh hp)) (Same.refl _) _ ⟨.owd (zfree sr.zh hp) upd_same .nil, own_new sr hp, noOb_of (by decide)⟩
  | true =>
    exact pe_to pe_dnewN fun σ H Q ⟨H0, Z0, g, Z, sr, po⟩ p hp hs => by
      rw [ev] at po
      exact po _ Z (sr.tr (Tr.laid sr.zh hp)) (Same.refl _) _ ⟨.on (zfree sr.zh hp) upd_same hs List.nodup_nil .nil, own_new sr hp, fun xs e => by cases e⟩
theorem hold_key {P : Program} {w : World} {H Z : Hp} {v : V} {d : D} {m : Md} (h : Hold P w H Z v d m) (hm : m ≠ .on) (hk : tupKey d = true) : ∃ a, v = .ref a ∧ Rep Z (.ref a) d := by
  obtain ⟨⟨xs, rfl⟩, _⟩ := tupKey_of hk
  cases h with
  | fr r => cases r with | tup a b => exact ⟨_, rfl, .tup a b⟩
  | ob _ => exact absurd rfl hm
theorem nnin_res {K : D × Md → Sg → Hp → Hp → Prop} {P : Program} {w : World} {σ : L2.St} {H0 Z0 H1 Z1 : Hp} {i : Nat} {q : D × Md} {g1 : Sg} {v : V} (sr1 : SR P w H0 Z0 g1 σ H1 Z1) (ov : Out P w H0 g1 σ H1 Z1 v q.1 q.2)
    (po1 : Po P w W cls σ H0 Z0 Z1 (if q.2 = .on then .stuck else match nestAt i g1 with | some kvs => if tupKey q.1 then .ok (.bool (!hasKey kvs q.1), .fr) g1 else .stuck | none => .stuck) K) :
    ∃ (p : Addr) (c : Bool), σ[i]? = some (some (.ref p)) ∧ K (.bool c, .fr) g1 H1 Z1 ∧ ∀ Q : VK, Q (.bl c) H1 → rNin P w v (.ref p) H1 Q := by
  split at po1
  · exact po1.elim
  rename_i hm
  split at po1
  case h_2 => exact po1.elim
  rename_i kvs hn
  split at po1
  case isFalse => exact po1.elim
  rename_i hk
  obtain ⟨p, xs, hs, zp, hp, lo, nd, rs⟩ := own_nest sr1 hn
  obtain ⟨a, rfl, rk⟩ := hold_key ov.hold hm hk
  exact ⟨p, _, hs, po1 H1 Z1 sr1 (Same.refl _), fun Q hq => ⟨Z1, q.1, a, p, xs, kvs, rfl, rfl, sr1.zh, hk, rk, hp, lo, nd, rs, hq⟩⟩
theorem s_nnin {i : Nat} {y : Str} {a : E} {e : Expr} {p : Pos} (S : SC X FN N sc k GL C cls) (hi : N[i]? = some y) (hv : visB sc y = true) (hx : okN y = true) (hm : behindInMarks .NotIn (.Name y p) = false) (ha : PE X e (tE X.prog X.w W cls (ev GL C a))) :
    PE X (.Compare e [.NotIn] [.Name y p] pos) (tE X.prog X.w W cls (ev GL C (.nnin i a))) ∧ PT X (.Compare e [.NotIn] [.Name y p] pos) (tT X.prog X.w W cls (ev GL C (.nnin i a))) := by
  obtain ⟨h4, h5⟩ := okN_of hx
  have nm := pe_var (X := X) (pos := p) (i := i) (by rw [S.hN]; exact hi) (by rw [S.sc]; exact vis_of hv) h4 h5
  refine ⟨pe_to (pe_cmpR (op_nin (room200 S.room)) ha nm hm) fun σ H Q ⟨H0, Z0, g, Z, sr, po⟩ => ?_, pt_to (pt_cmpR (op_nin (room200 S.room)) ha nm hm) fun σ H Q ⟨H0, Z0, g, Z, sr, po⟩ => ?_⟩
  · rw [ev] at po
    refine ⟨H0, Z0, g, Z, sr, po.bd.mono fun q g1 H1 Z1 sr1 zz po1 v ov => ?_⟩
    obtain ⟨p, c, hs, hk, r⟩ := nnin_res sr1 ov po1
    exact ⟨.ref p, hs, r _ (hk _ (Out.fr (.bl c)))⟩
  · rw [ev] at po
    refine ⟨H0, Z0, g, Z, sr, po.bd.mono fun q g1 H1 Z1 sr1 zz po1 v ov => ?_⟩
    obtain ⟨p, c, hs, hk, r⟩ := nnin_res sr1 ov po1
    obtain ⟨c', e, q⟩ := hk
    cases e
    exact ⟨.ref p, hs, r _ ⟨c, rfl, q⟩⟩
theorem s_nlist {i : Nat} {y : Str} {p p2 : Pos} (S : SC X FN N sc k GL C cls) (hg : gloB sc "list" = true) (hi : N[i]? = some y) (hv : visB sc y = true) (hx : okN y = true) :
    PE X (.Call (.Name "list" p) [.Name y p2] [] pos) (tE X.prog X.w W cls (ev GL C (.nlist i))) := by
  obtain ⟨h4, h5⟩ := okN_of hx
  have nm := pe_var (X := X) (pos := p2) (i := i) (by rw [S.hN]; exact hi) (by rw [S.sc]; exact vis_of hv) h4 h5
  refine pe_to (pe_callTy (call_listN S.calm) (S.gl hg) S.bi PyProof.Rows.boot_list (pa_cons nm pa_nil rfl) (glo_of hg).2.2 (glo_of hg).2.1 rfl rfl) fun σ H Q ⟨H0, Z0, g, Z, sr, po⟩ => ?_
  rw [ev] at po
  split at po
  case h_2 => exact po.elim
  rename_i kvs hn
  split at po
  case isFalse => exact po.elim
  rename_i hz
  obtain ⟨q, xs, hs, zp, hp, lo, nd, rs⟩ := own_nest sr hn
  exact ⟨.ref q, hs, q, xs, rfl, hp, lo, by rw [rs.length]; exact hz, fun r hr => fin_list sr po rs.keys r hr⟩
theorem s_nsorted {i : Nat} {y : Str} {p p2 : Pos} (S : SC X FN N sc k GL C cls) (hg : gloB sc "sorted" = true) (hi : N[i]? = some y) (hv : visB sc y = true) (hx : okN y = true) :
    PE X (.Call (.Name "sorted" p) [.Name y p2] [] pos) (tE X.prog X.w W cls (ev GL C (.nsorted i))) := by
  obtain ⟨h4, h5⟩ := okN_of hx
  have nm := pe_var (X := X) (pos := p2) (i := i) (by rw [S.hN]; exact hi) (by rw [S.sc]; exact vis_of hv) h4 h5
  refine pe_to (pe_callB (cr_sortN S.calm (by have := S.room.un; omega)) (S.gl hg) S.bi PyProof.Rows.boot_sorted (pa_cons nm pa_nil rfl) (glo_of hg).2.2 (glo_of hg).2.1 rfl rfl) fun σ H Q ⟨H0, Z0, g, Z, sr, po⟩ => ?_
  rw [ev] at po
  split at po
  case h_2 => exact po.elim
  rename_i kvs hn
  split at po
  case isFalse => exact po.elim
  rename_i ok
  obtain ⟨q, xs, hs, zp, hp, lo, nd, rs⟩ := own_nest sr hn
  exact ⟨.ref q, hs, q, xs, kvs, Z, rfl, hp, lo, sr.zh, rs, sortOk_of ok, fun r outV hr w => fin_list sr po w r hr⟩
theorem r_nput {i : Nat} {y : Str} {py p2 : Pos} {k v : E} {ke ve : Expr} {kk : Nat} (S : SC X FN N sc kk GL C cls) (hi : N[i]? = some y) (hv : visB sc y = true) (hx : okN y = true) (hsw : swapsWith ve (some (.Subscript (.Name y py) ke p2)) pos.line X.env = pure false) (hk : PE X ke (tE X.prog X.w W cls (ev GL C k))) (hv' : PE X ve (tE X.prog X.w W cls (ev GL C v))) :
    PS X (.Assign [.Subscript (.Name y py) ke p2] ve pos) (sPutN X.prog X.w (fun σ H Q => ∃ u, σ[i]? = some (some u) ∧ Q u H) (tE X.prog X.w W cls (ev GL C k)) (tF X.prog X.w W cls (ev GL C v))) := by
  obtain ⟨h4, h5⟩ := okN_of hx
  exact ps_nput (room200 S.room) (pe_var (i := i) (by rw [S.hN]; exact hi) (by rw [S.sc]; exact vis_of hv) h4 h5) hk (shared hv') hsw
end
end
end DL

set_option Elab.async false
set_option linter.all false
set_option maxRecDepth 100000
/-! D26: sorted(list), sorted(tuple). -/
namespace DL
open PySem L2 PySem.Spec PyProof.Rows PySem.SeqAt SrtO
section
variable {prog : Program} {w : World} {A : Around} {E : Value → Shared → Prop} {s : Shared}
theorem sorted_tup {p : Addr} {o : Obj} {n : Nat} {vs : List Value} {ds : List D} {Q : Value → Shared → Prop} (ho : s.heap.get? p = some o) (hc : o.cls = .type "tuple") (hd : o.data = .seq vs.toArray n)
    (hp : Paired (RdP s.heap) vs ds) (ok : SortOk ds) (hu : A.units + 110 < cLine)
    (h : ∀ (h1 h' : Heap) (tk : Nat) (out : List Value), out.Perm vs → out.map (rdF s.heap) = sortD ds → (∀ b o, s.heap.get? b = some o → h1.get? b = some o) → (∀ b o, h1.get? b = some o → h'.get? b = some o) → (∃ n, h'.get? h1.objs.size = some (seqObj "list" out.toArray n)) → Q (.ref h1.objs.size) { s with heap := h', toks := tk }) :
    wpAny (model prog w) A (call (.builtin "sorted") [.ref p]) Q E s := by
  have hlen : vs.length = ds.length := Paired.length hp
  have hz : vs.length ≤ sizeLine := by rw [hlen]; exact ok.sz
  have ein : A.in1.in1.units = A.units + 2 := rfl
  refine Calls.call_function_entry PyProof.Rows.kind_sorted PyProof.Rows.plain_sorted PyProof.Rows.entry_sorted (PyProof.Rows.args_sorted1 _) ?_
  unfold Builtin.«sorted»
  refine wpAny_bind (m := checkCount "sorted" 1 1 _) (wpAny_pure ?_)
  refine wpAny_bind (wpAny_collect_seq (A := A.in1) p (.inr rfl) ho hc hd (fun h' hk => ?_) (by simpa using hz))
  refine wpAny_bind (wpAny_newList ?_ (by simpa using hz))
  have ea : vs.toArray.toList = vs := by simp
  rw [ea]
  have hoL : (h'.push (seqObj "list" vs.toArray 0)).get? h'.objs.size = some (seqObj "list" vs.toArray 0) := Heap.get?_push_size _ rfl
  show wpAny _ _ _ _ _ { s with heap := h'.push (seqObj "list" vs.toArray 0) }
  refine wpAny_bind (wpAny_holding (wpAny_call_entry PyProof.Rows.slot_list_sort ⟨_, hoL, rfl⟩ PyProof.Rows.entry_list_sort
    (list_sort_ord (s := { s with heap := h'.push (seqObj "list" vs.toArray 0) }) (swoV s.heap) hoL hz (fun h2 => sortable_data hp ok (by rw [ein]; omega) h2 _ hoL fun b o e => Heap.get?_push_of_some _ (hk b o e)) fun out hs hb => ⟨_, rfl, ?_⟩)
    (PyProof.Rows.args_list_sort _)))
  obtain ⟨e', he'⟩ := PyProof.Rows.sortedHeap_at (vs := vs) (out := out.toArray) hoL
  refine wpAny_pure ⟨_, rfl, h h' _ s.toks out hb.perm ?_ hk (fun b u e => ?_) ⟨e', he'⟩⟩
  · have pm : (out.map (rdF s.heap)).Perm ds := by
      have := hb.perm.map (rdF s.heap)
      rwa [paired_rdF hp] at this
    exact up_one (fun x hx => (ok.plain x (pm.mem_iff.mp hx)).1) (List.pairwise_map.mpr hs) (sortD_up (fun x hx => (ok.plain x hx).1) ok.cmp) (pm.trans (sortD_perm ds).symm)
  · have hb : b < h'.objs.size := Heap.lt_size e
    rw [PyProof.Rows.sortedHeap_old (Nat.ne_of_lt hb) (by rw [size_push']; exact Nat.lt_succ_of_lt hb)]
    exact Heap.get?_push_of_some _ e
end
variable [Cfg] [Fix]
section
variable {X : Cx}
def rSortedT : List V → Hp → VK → Prop := fun vs H Q => ∃ (a : Addr) (xs : List V) (ds : List D) (Z : Hp), vs = [.ref a] ∧ SqT X.K H a xs ∧ Same Z H ∧ Reps Z xs ds ∧ SortOk ds ∧
  ∀ p outV, H p = none → Reps Z outV (sortD ds) → Q (.ref p) (upd H p (.lst outV))
theorem cr_sortedT (hu : X.A.units + 110 < cLine) : CallR X (.builtin "sorted") (rSortedT (X := X)) := fun pins s σ H vs us Q I r h => by
  obtain ⟨a, xs, ds, Z, rfl, hs, zh, rs, ok, q⟩ := h
  obtain ⟨its, rv, pl, hz⟩ := I.tuple hs
  rw [Vals.ref1 r]
  obtain ⟨p1, p2⟩ := pair_read I zh ds xs its rs rv ok.plain
  obtain ⟨o, ho, hc, n, hd⟩ := pl
  refine sorted_tup ho hc hd p1 ok hu fun h1 h' tk out hperm hmap k1 k2 hget => ?_
  obtain ⟨n', hget⟩ := hget
  obtain ⟨outV, w1, w2⟩ := out_vals (h := s.heap) (Z := Z) out fun u hu => p2 u (hperm.mem_iff.mp hu)
  rw [hmap] at w2
  have I1 : Inv X pins σ H { s with heap := h1, toks := tk } := I.kept k1
  have hf : H h1.objs.size = none := I1.hok.fresh (Nat.le_refl _)
  have hlen : outV.length ≤ sizeLine := by
    rw [w2.length, (sortD_perm ds).length_eq]; exact ok.sz
  exact ⟨.ref h1.objs.size, _, I1.laid (t' := tk) k2 (Nat.le_refl _) (show ObjOk X.prog X.w (upd H _ (.lst outV)) h' _ (.lst outV) from ⟨hlen, out, n', w1, hget⟩), rfl, q _ outV hf w2⟩
end
section
variable {X : Cx} {W : WX} {cls : Cls} {FN N : List Str} {sc : Scope} {k : Nat} {GL : Str → Option D} {C : Orc} {pos : Pos}
theorem s_sorted {a : E} {x : Expr} {p : Pos} (S : SC X FN N sc k GL C cls) (hg : gloB sc "sorted" = true) (hs : isStar x = false) (ha : PE X x (tO X.prog X.w W cls fun g => opn a (ev GL C a g) g)) :
    PE X (.Call (.Name "sorted" p) [x] [] pos) (tE X.prog X.w W cls (ev GL C (.sorted a))) := by
  have e : ev GL C (.sorted a) = fun g => (opn a (ev GL C a g) g).bd fun x g => ofO ((x.get g).bind sortedD) g := by funext g; rw [ev]
  rw [e]
  have hu : X.A.units + 110 < cLine := by have := S.room.un; omega
  refine s_bi1 (f := Value.none) S hg (by decide) PyProof.Rows.boot_sorted hs (CallR.or' (cr_sorted hu) (cr_sortedT hu)) ha sortedD fun H0 Z0 g σ H Z v d m d' m' Q sr hh hno hF hk => ?_
  cases d with
  | list xs =>
    have hF : (if sortable xs then some ((.list (sortD xs), .ow) : D × Md) else none) = some (d', m') := hF
    split at hF
    · rename_i ok
      cases hF
      obtain ⟨b, vs, rfl, rd, rs⟩ := hh.list sr.zh
      exact .inl ⟨b, vs, xs, Z, rfl, rd, sr.zh, rs, sortOk_of ok, fun p outV hp w => fin_list sr hk w p hp⟩
    · cases hF
  | tuple xs =>
    cases m with
    | fr =>
      have hF : (if sortable xs then some ((.list (sortD xs), .ow) : D × Md) else none) = some (d', m') := hF
      split at hF
      · rename_i ok
        cases hF
        obtain ⟨b, vs, rfl, rd, zd, rs⟩ := hh.tuple sr.zh hno
        exact .inr ⟨b, vs, xs, Z, rfl, .inl (.of rd), sr.zh, rs, sortOk_of ok, fun p outV hp w => fin_list sr hk w p hp⟩
      · cases hF
    | _ => cases hF
  | _ => cases hF
end
end DL

set_option Elab.async false
set_option linter.all false
set_option maxRecDepth 100000
/-! D24: dict(list(zip(xs, ys))). -/
namespace DL
open PySem L2 PySem.Spec PyProof.Rows
theorem zip_no_len : typeLookup (.type "zip") "__len__" = pure none := am_miss_of_fast (by decide +kernel)
theorem zip_no_hint : typeLookup (.type "zip") "__length_hint__" = pure none := am_miss_of_fast (by decide +kernel)
section
variable {prog : Program} {w : World} {A : Around} {E : Value → Shared → Prop} {s : Shared} {z TI TO T i1 i2 : Addr} {f : Bool} {oT : Obj} {fp1 fp2 : List Addr} {n1 n2 n i : Nat} {P1 P2 : Nat → Value → Prop} {St1 St2 : Nat → Heap → Prop}
theorem zip_hint {Q : Bool → Shared → Prop} (hT : s.TypeIs (.ref z) "zip") (h : Q true s) : wpAny (model prog w) A (Builtin.List.listLengthHint (.ref z)) Q E s := by
  unfold Builtin.List.listLengthHint
  refine wpAny_bind (wpAny_specialOf hT zip_no_len ?_)
  refine wpAny_ite_split (fun hab => absurd hab (by decide)) (fun _ => ?_)
  refine wpAny_ite_split (fun hab => absurd hab (by decide)) (fun _ => ?_)
  refine wpAny_bind (wpAny_specialOf hT zip_no_hint ?_)
  exact wpAny_pure h
/-- the next of a zip whose tuple is out -/
theorem zipG_next_item {Q : Value → Shared → Prop} (S : ZipSep2 z TI TO i1 i2 fp1 fp2) (D1 : Draws prog w A i1 fp1 n1 P1 St1) (D2 : Draws prog w A i2 fp2 n2 P2 St2)
    (hz : IsZipHeld s.heap z TI TO T f) (hT : s.heap.get? T = some oT) (hTI : IsTupOf2 s.heap TI (.ref i1) (.ref i2)) (st1 : St1 i s.heap) (st2 : St2 i s.heap) (hlt1 : i < n1) (hlt2 : i < n2)
    (hQ : ∀ x1 x2 h' tk, P1 i x1 → P2 i x2 → IsZipHeld h' z TI TO T true → St1 (i + 1) h' → St2 (i + 1) h' → IsTupOf2 h' s.heap.objs.size x1 x2 → h'.objs.size = s.heap.objs.size + 1 →
      (∀ c o, c ≠ z → c ≠ i1 → c ≠ i2 → s.heap.get? c = some o → h'.get? c = some o) → Q (.ref s.heap.objs.size) { s with heap := h', toks := tk }) :
    wpAny (model prog w) A (Builtin.«zip.__next__» ⟨[.ref z], []⟩) (fun fin s' => ∃ v, fin = .done (.ret v) ∧ Q v s') E s := by
  obtain ⟨hp, g, d, tk0, os⟩ := s
  show wpAny _ _ (field (.ref z) 2 >>= _) _ _ _
  refine wpAny_bind (wpAny_field hz rfl (x := .bool false) rfl ?_)
  show wpAny _ _ (field (.ref z) 3 >>= _) _ _ _
  refine wpAny_bind (wpAny_field hz rfl (x := .ref TI) rfl ?_)
  refine wpAny_bind (wpAny_seqItems hTI rfl ?_)
  show wpAny _ _ (Builtin.SmallTypes.ownedTupleIsFree (.ref z) >>= _) _ _ _
  refine wpAny_bind (wpAny_tupleHeld_zip hz hT fun h₁ hz₁ hs₁ => ?_)
  simp only [Bool.false_eq_true, if_false]
  refine wpAny_bind ?_
  rw [← Array.forIn_toList]
  simp only [List.forIn_cons, List.forIn_nil]
  refine wpAny_bind (wpAny_bind (wpAny_holding ?_))
  show wpAny _ _ (Builtin.SmallTypes.nextOf (.ref i1) >>= _) _ _ ⟨h₁, g, d, tk0, os⟩
  refine wpAny_bind (D1.item i _ _ _ hlt1 (D1.over st1 hs₁ S.zf1) fun x1 p1 tk1 hx1 sn1 hp1 => wpAny_pure ?_)
  refine wpAny_pure ?_
  refine wpAny_bind (wpAny_bind (wpAny_holding ?_))
  show wpAny _ _ (Builtin.SmallTypes.nextOf (.ref i2) >>= _) _ _ ⟨p1, g, d, tk1, os⟩
  refine wpAny_bind (D2.item i _ _ _ hlt2 (D2.over (D2.over st2 hs₁ S.zf2) hp1 S.sep1_2) fun x2 p2 tk2 hx2 sn2 hp2 => wpAny_pure ?_)
  refine wpAny_pure (wpAny_pure ?_)
  show wpAny _ _ (newTuple [x1, x2] >>= _) _ _ _
  refine wpAny_bind (wpAny_newTuple ?_)
  replace hp1 : Heap.SameBut i1 h₁ p1 := hp1
  replace hp2 : Heap.SameBut i2 p1 p2 := hp2
  replace hs₁ : Heap.SameBut z hp h₁ := hs₁
  have hsz : p2.objs.size = hp.objs.size := by rw [hp2.1, hp1.1, hs₁.1]
  have hz₃ : IsZipHeld p2 z TI TO T true := hp2.extBut _ _ S.zi2 (hp1.extBut _ _ S.zi1 hz₁)
  have hk : ∀ c o, c ≠ z → c ≠ i1 → c ≠ i2 → hp.get? c = some o → p2.get? c = some o := fun c o c1 c2 c3 e => hp2.extBut _ _ c3 (hp1.extBut _ _ c2 (hs₁.extBut _ _ c1 e))
  have h1₃ : St1 (i + 1) p2 := D1.over sn1 hp2 S.sep2_1
  refine wpAny_pure ⟨_, rfl, ?_⟩
  show Q (.ref p2.objs.size) _
  have hpp : IsTupOf2 (p2.push { cls := .type "tuple", data := .seq #[x1, x2] }) p2.objs.size x1 x2 := Heap.get?_push_size _ rfl
  have hz4 : (p2.push { cls := .type "tuple", data := .seq #[x1, x2] }).objs.size = p2.objs.size + 1 := Heap.size_push ..
  rw [hsz] at hpp hz4 ⊢
  exact hQ x1 x2 _ _ hx1 hx2 (Heap.get?_push_of_some _ hz₃) (D1.frame _ _ _ h1₃ fun b _ o e => Heap.get?_push_of_some _ e) (D2.frame _ _ _ sn2 fun b _ o e => Heap.get?_push_of_some _ e) hpp hz4 fun c o c1 c2 c3 e => Heap.get?_push_of_some _ (hk c o c1 c2 c3 e)
theorem zipG_next_end {Q : Fin → Shared → Prop} (S : ZipSep2 z TI TO i1 i2 fp1 fp2) (D1 : Draws prog w A i1 fp1 n1 P1 St1)
    (hz : IsZipHeld s.heap z TI TO T f) (hT : s.heap.get? T = some oT) (hTI : IsTupOf2 s.heap TI (.ref i1) (.ref i2)) (st1 : St1 n1 s.heap)
    (hE : ∀ h' e, (∀ c o, c ≠ z → c ≠ i1 → c ≠ i2 → s.heap.get? c = some o → h'.get? c = some o) → (∃ o, h'.get? e = some o ∧ o.cls = .type "StopIteration") → E (.ref e) { s with heap := h' }) :
    wpAny (model prog w) A (Builtin.«zip.__next__» ⟨[.ref z], []⟩) Q E s := by
  show wpAny _ _ (field (.ref z) 2 >>= _) _ _ _
  refine wpAny_bind (wpAny_field hz rfl (x := .bool false) rfl ?_)
  show wpAny _ _ (field (.ref z) 3 >>= _) _ _ _
  refine wpAny_bind (wpAny_field hz rfl (x := .ref TI) rfl ?_)
  refine wpAny_bind (wpAny_seqItems hTI rfl ?_)
  show wpAny _ _ (Builtin.SmallTypes.ownedTupleIsFree (.ref z) >>= _) _ _ _
  refine wpAny_bind (wpAny_tupleHeld_zip hz hT fun h₁ hz₁ hs₁ => ?_)
  simp only [Bool.false_eq_true, if_false]
  refine wpAny_bind ?_
  rw [← Array.forIn_toList]
  simp only [List.forIn_cons, List.forIn_nil]
  refine wpAny_bind (wpAny_bind (wpAny_holding ?_))
  show wpAny _ _ (Builtin.SmallTypes.nextOf (.ref i1) >>= _) _ _ _
  refine wpAny_bind (D1.done { s with heap := h₁ } _ _ (D1.over st1 hs₁ S.zf1) fun q e hq he => ?_)
  exact hE q e (fun c o c1 c2 _ x => hq _ _ c2 (hs₁.extBut _ _ c1 x)) he
/-- a zip on its way -/
def ZSt (h : Heap) (z TI TO i1 i2 S : Addr) : Prop := IsTupOf2 h TI (.ref i1) (.ref i2) ∧ ((IsZip h z TI TO .none ∧ ∃ a1 a2, IsTupOf2 h TO a1 a2) ∨ ∃ T f oT, IsZipHeld h z TI TO T f ∧ h.get? T = some oT ∧ T ≠ z ∧ T ≠ TO ∧ T ≠ i1 ∧ T ≠ i2 ∧ T ≠ S)
theorem ZSt.typeIs {S : Addr} (h : ZSt s.heap z TI TO i1 i2 S) : s.TypeIs (.ref z) "zip" := by
  rcases h.2 with ⟨h, _⟩ | ⟨_, _, _, h, _⟩
  · exact ⟨_, h, rfl⟩
  · exact ⟨_, h, rfl⟩
theorem ZSt.keep {S : Addr} {h h' : Heap} (x : ZSt h z TI TO i1 i2 S) (k : ∀ b o, b ≠ S → h.get? b = some o → h'.get? b = some o) (h1 : TI ≠ S) (h2 : z ≠ S) (h3 : TO ≠ S) : ZSt h' z TI TO i1 i2 S := by
  obtain ⟨a, b⟩ := x
  refine ⟨k _ _ h1 a, ?_⟩
  rcases b with ⟨c, a1, a2, d⟩ | ⟨T, f, oT, c, d, e⟩
  · exact .inl ⟨k _ _ h2 c, a1, a2, k _ _ h3 d⟩
  · exact .inr ⟨T, f, oT, k _ _ h2 c, k _ _ e.2.2.2.2 d, e⟩
theorem nxtZ {S' : Addr} {Q : Option Value → Shared → Prop} (S : ZipSep2 z TI TO i1 i2 fp1 fp2) (D1 : Draws prog w A.in1 i1 fp1 n P1 St1) (D2 : Draws prog w A.in1 i2 fp2 n P2 St2) (hst : ZSt s.heap z TI TO i1 i2 S') (hS : S' < s.heap.objs.size) (hz0 : TO ≠ S')
    (st1 : St1 i s.heap) (st2 : St2 i s.heap) (hlt : i < n)
    (hQ : ∀ x1 x2 h' tk, P1 i x1 → P2 i x2 → ZSt h' z TI TO i1 i2 S' → St1 (i + 1) h' → St2 (i + 1) h' → IsTupOf2 h' s.heap.objs.size x1 x2 → h'.objs.size = s.heap.objs.size + 1 →
      (∀ c o, c ≠ z → c ≠ TO → c ≠ i1 → c ≠ i2 → s.heap.get? c = some o → h'.get? c = some o) → Q (some (.ref s.heap.objs.size)) { s with heap := h', toks := tk }) :
    wpAny (model prog w) A (pyNext (.ref z)) Q E s := by
  have lt : ∀ {c o}, s.heap.get? c = some o → s.heap.objs.size ≠ c := fun e => Nat.ne_of_gt (Heap.lt_size e)
  have l1 : s.heap.objs.size ≠ i1 := by obtain ⟨_, e⟩ := D1.live _ _ st1; exact lt e
  have l2 : s.heap.objs.size ≠ i2 := by obtain ⟨_, e⟩ := D2.live _ _ st2; exact lt e
  obtain ⟨hTI, hst⟩ := hst
  rcases hst with ⟨hz, a1, a2, hTO⟩ | ⟨T, f, oT, hz, hT, n1, n2, n3, n4, n5⟩
  · refine wpAny_pyNext_zipD2_item S D1 D2 hz hTI hTO st1 st2 hlt hlt fun x1 x2 h' tk y1 y2 b1 b2 d1 d2 b5 b6 hk => ?_
    exact hQ x1 x2 h' tk y1 y2 ⟨hk _ _ S.TIz S.TITO S.TIi1 S.TIi2 hTI, .inr ⟨_, false, _, b1, b5, lt hz, lt hTO, l1, l2, Nat.ne_of_gt hS⟩⟩ d1 d2 b5 b6 hk
  · have hTy : s.TypeIs (.ref z) "zip" := ⟨_, hz, rfl⟩
    unfold pyNext
    refine wpAny_bind (wpAny_attempt (wpAny_callSpecial?_slot (name := Str.ofString "__next__") hTy PySem.F.slot_zip_next
      (wpAny_call_entry PySem.F.slot_zip_next hTy PySem.F.entry_zip_next
        (zipG_next_item S D1 D2 hz hT hTI st1 st2 hlt hlt fun x1 x2 h' tk y1 y2 b1 d1 d2 b5 b6 hk => wpAny_pure ?_) (PySem.F.args_zip_next_1 _))))
    exact hQ x1 x2 h' tk y1 y2 ⟨hk _ _ S.TIz S.TIi1 S.TIi2 hTI, .inr ⟨T, true, oT, b1, hk _ _ n1 n3 n4 hT, n1, n2, n3, n4, n5⟩⟩ d1 d2 b5 b6 fun c o c1 _ c3 c4 e => hk c o c1 c3 c4 e
theorem finZ {S' : Addr} {Q : Option Value → Shared → Prop} (S : ZipSep2 z TI TO i1 i2 fp1 fp2) (D1 : Draws prog w A.in1 i1 fp1 n P1 St1) (D2 : Draws prog w A.in1 i2 fp2 n P2 St2) (hst : ZSt s.heap z TI TO i1 i2 S')
    (st1 : St1 n s.heap) (st2 : St2 n s.heap)
    (hQ : ∀ h' tk, (∀ c o, c ≠ z → c ≠ TO → c ≠ i1 → c ≠ i2 → s.heap.get? c = some o → h'.get? c = some o) → Q none { s with heap := h', toks := tk }) : wpAny (model prog w) A (pyNext (.ref z)) Q E s := by
  obtain ⟨hTI, hst⟩ := hst
  rcases hst with ⟨hz, a1, a2, hTO⟩ | ⟨T, f, oT, hz, hT, n1, n2, n3, n4, n5⟩
  · exact wpAny_pyNext_zipD2_end S D1 D2 hz hTI hTO st1 st2 (Nat.le_refl _) (Nat.le_refl _) (.inl rfl) hQ
  · have hTy : s.TypeIs (.ref z) "zip" := ⟨_, hz, rfl⟩
    unfold pyNext
    refine wpAny_bind (wpAny_attempt (wpAny_callSpecial?_slot (name := Str.ofString "__next__") hTy PySem.F.slot_zip_next
      (wpAny_call_entry PySem.F.slot_zip_next hTy PySem.F.entry_zip_next (zipG_next_end S D1 hz hT hTI st1 fun h' e hk he => ?_) (PySem.F.args_zip_next_1 _))))
    obtain ⟨o, ho, hc⟩ := he
    refine wpAny_bind (wpAny_isInstance (T := "StopIteration") (b := true) ⟨o, ho, hc⟩ isSubtype_stop ?_)
    exact wpAny_pure (hQ h' s.toks fun c o c1 _ c3 c4 e => hk c o c1 c3 c4 e)
/-- the pairs made -/
structure MadeZ (P1 P2 : Nat → Value → Prop) (lo : Addr) (h : Heap) (as : List Addr) : Prop where
  rise : as.Pairwise (· < ·)
  above : ∀ a ∈ as, lo < a
  pairs : ∀ (j : Nat) (a : Addr), as[j]? = some a → ∃ x1 x2, P1 j x1 ∧ P2 j x2 ∧ IsTupOf2 h a x1 x2
theorem MadeZ.there {lo : Addr} {h : Heap} {as : List Addr} (g : MadeZ P1 P2 lo h as) {a : Addr} (ha : a ∈ as) : a < h.objs.size := by
  obtain ⟨j, hj⟩ := List.mem_iff_getElem?.mp ha
  obtain ⟨_, _, _, _, e⟩ := g.pairs j a hj
  exact Heap.lt_size e
theorem loopZ {S0 : Addr} {R : Result → Shared → Prop} {lo : Addr} (hh : A.handled = none) (S : ZipSep2 z TI TO i1 i2 fp1 fp2) (D1 : Draws prog w A.in1.in1 i1 fp1 n P1 St1) (D2 : Draws prog w A.in1.in1 i2 fp2 n P2 St2) (hSz : S0 ∉ [z, TI, TO, i1, i2]) (hf1 : S0 ∉ fp1) (hf2 : S0 ∉ fp2)
    (hlz : z ≤ lo) (hlt0 : TO ≤ lo) (hl1 : i1 ≤ lo) (hl2 : i2 ≤ lo) (hlS : S0 ≤ lo) (hn : n ≤ sizeLine) (res : Value) {h₁ : Heap}
    (hR : ∀ h' tk acc c as, (∀ b o, b ≠ S0 → b ≠ z → b ≠ TO → b ≠ i1 → b ≠ i2 → h₁.get? b = some o → h'.get? b = some o) → h'.get? S0 = some { cls := .type "list", dict := none, data := .seq acc c, slots := #[] } → as.length = n → MadeZ P1 P2 lo h' as →
      acc.toList = as.map Value.ref → R (.ok (.ret res)) { s with heap := h', toks := tk }) :
    ∀ (k i : Nat) (h : Heap) (tk c : Nat) (acc : Array Value) (as : List Addr), n - i = k → i ≤ n → ZSt h z TI TO i1 i2 S0 → St1 i h → St2 i h → (∀ b o, b ≠ S0 → b ≠ z → b ≠ TO → b ≠ i1 → b ≠ i2 → h₁.get? b = some o → h.get? b = some o) →
      h.get? S0 = some { cls := .type "list", dict := none, data := .seq acc c, slots := #[] } → acc.toList = as.map Value.ref → as.length = i → MadeZ P1 P2 lo h as → lo < h.objs.size →
      codeAny (model prog w) A (.builtin "list.extend.loop" ⟨[.ref S0, .ref z, res], []⟩) R { s with heap := h, toks := tk } := by
  simp only [List.mem_cons, List.not_mem_nil, or_false, not_or] at hSz
  obtain ⟨z1, z2, z3, z4, z5⟩ := hSz
  intro k
  induction k with
  | zero =>
    intro i h tk c acc as hk hi hst st1 st2 hkeep hS hacc hal hG hIs
    have ei : i = n := by omega
    subst ei
    refine codeAny_builtin PySem.F.entry_extend_loop ?_
    rw [Around.under_plainId PySem.F.plain_extend_loop _]
    show wpAny _ A.in1 (pyNext (.ref z) >>= _) _ _ _
    refine wpAny_bind (finZ (s := { s with heap := h, toks := tk }) (A := A.in1) S D1 D2 hst st1 st2 fun h' tk' he => ?_)
    refine wpAny_pure (hR h' tk' acc c as (fun b o b1 b2 b3 b4 b5 e => he b o b2 b3 b4 b5 (hkeep b o b1 b2 b3 b4 b5 e)) (he S0 _ z1 z3 z4 z5 hS) hal ⟨hG.rise, hG.above, fun j a hj => ?_⟩ hacc)
    obtain ⟨x1, x2, p1, p2, e3⟩ := hG.pairs j a hj
    have hb := hG.above a (List.mem_of_getElem? hj)
    exact ⟨x1, x2, p1, p2, he a _ (Nat.ne_of_gt (Nat.lt_of_le_of_lt hlz hb)) (Nat.ne_of_gt (Nat.lt_of_le_of_lt hlt0 hb)) (Nat.ne_of_gt (Nat.lt_of_le_of_lt hl1 hb)) (Nat.ne_of_gt (Nat.lt_of_le_of_lt hl2 hb)) e3⟩
  | succ k ih =>
    intro i h tk c acc as hk hi hst st1 st2 hkeep hS hacc hal hG hIs
    have hlt : i < n := by omega
    have hsz : acc.size = i := by rw [← Array.length_toList, hacc, List.length_map, hal]
    refine codeAny_builtin PySem.F.entry_extend_loop ?_
    rw [Around.under_plainId PySem.F.plain_extend_loop _]
    show wpAny _ A.in1 (pyNext (.ref z) >>= _) _ _ _
    refine wpAny_bind (nxtZ (s := { s with heap := h, toks := tk }) (A := A.in1) S D1 D2 hst (Heap.lt_size hS) (Ne.symm z3) st1 st2 hlt fun x1 x2 h' tk' p1 p2 hst' sn1 sn2 ht hz hkp => ?_)
    dsimp only at ht hz hkp ⊢
    have hS' := hkp S0 _ z1 z3 z4 z5 hS
    have up : ∀ b o, b ≠ S0 → h'.get? b = some o → (h'.update S0 (Obj.mapSeq (·.push (Value.ref h.objs.size)))).get? b = some o := fun b o hb e => (Heap.get?_update_other _ _ (Ne.symm hb)).trans e
    have hSl : S0 < h.objs.size := Heap.lt_size hS
    show wpAny _ A.in1 (updateSeq S0 (·.push (Value.ref h.objs.size)) >>= _) _ _ _
    refine wpAny_bind ?_
    refine wpAny_updateSeq hS' rfl (wpAny_pure ⟨plainId_quiet PySem.F.plain_extend_loop _, ih (i + 1) _ tk' _ (acc.push (Value.ref h.objs.size)) (as ++ [h.objs.size]) (by omega) hlt (hst'.keep up (Ne.symm z2) (Ne.symm z1) (Ne.symm z3))
      (D1.frame _ _ _ sn1 fun b hb o e => up b o (fun q => hf1 (q ▸ hb)) e) (D2.frame _ _ _ sn2 fun b hb o e => up b o (fun q => hf2 (q ▸ hb)) e)
      (fun b o b1 b2 b3 b4 b5 e => up b o b1 (hkp b o b2 b3 b4 b5 (hkeep b o b1 b2 b3 b4 b5 e))) (Heap.get?_update_self _ hS' rfl) (by rw [Array.toList_push, hacc, List.map_append]; rfl) (by rw [List.length_append, hal]; rfl) ⟨?_, ?_, ?_⟩ ?_⟩) (by rw [hsz]; omega) (by show (acc.push (Value.ref h.objs.size)).size ≤ sizeLine + 1; rw [Array.size_push, hsz]; omega)
    · refine List.pairwise_append.mpr ⟨hG.rise, List.pairwise_singleton _ _, fun a ha b hb => ?_⟩
      rw [List.mem_singleton.mp hb]
      exact hG.there ha
    · intro a ha
      rcases List.mem_append.mp ha with ha | ha
      · exact hG.above a ha
      · rw [List.mem_singleton.mp ha]; exact hIs
    · intro j b hj
      rcases Nat.lt_trichotomy j as.length with h1 | h1 | h1
      · rw [List.getElem?_append_left h1] at hj
        obtain ⟨y1, y2, q1, q2, e3⟩ := hG.pairs j b hj
        have hb := hG.above b (List.mem_of_getElem? hj)
        exact ⟨y1, y2, q1, q2, up b _ (Nat.ne_of_gt (Nat.lt_of_le_of_lt hlS hb)) (hkp b _ (Nat.ne_of_gt (Nat.lt_of_le_of_lt hlz hb)) (Nat.ne_of_gt (Nat.lt_of_le_of_lt hlt0 hb)) (Nat.ne_of_gt (Nat.lt_of_le_of_lt hl1 hb)) (Nat.ne_of_gt (Nat.lt_of_le_of_lt hl2 hb)) e3)⟩
      · subst h1
        have hb : h.objs.size = b := by simpa using hj
        subst hb
        exact ⟨x1, x2, by rw [hal]; exact p1, by rw [hal]; exact p2, up _ _ (Nat.ne_of_gt hSl) ht⟩
      · have hnone : (as ++ [h.objs.size])[j]? = none := List.getElem?_eq_none (by rw [List.length_append, List.length_singleton]; omega)
        rw [hnone] at hj; cases hj
    · have e : (h'.update S0 (Obj.mapSeq (·.push (Value.ref h.objs.size)))).get? h.objs.size = _ := up _ _ (Nat.ne_of_gt hSl) ht
      exact Nat.lt_trans hIs (Heap.lt_size e)
/-- list(z) -/
theorem call_listZ {Q : Value → Shared → Prop} (hh : A.handled = none) (S : ZipSep2 z TI TO i1 i2 fp1 fp2) (D1 : Draws prog w A.in1.in1.in1 i1 fp1 n P1 St1) (D2 : Draws prog w A.in1.in1.in1 i2 fp2 n P2 St2)
    (hz : IsZip s.heap z TI TO .none) (hTI : IsTupOf2 s.heap TI (.ref i1) (.ref i2)) (hTO : ∃ a1 a2, IsTupOf2 s.heap TO a1 a2) (st1 : St1 0 s.heap) (st2 : St2 0 s.heap) (b1 : ∀ b ∈ fp1, b < s.heap.objs.size) (b2 : ∀ b ∈ fp2, b < s.heap.objs.size) (hn : n ≤ sizeLine)
    (hQ : ∀ h' tk acc c as, (∀ b o, b ≠ z → b ≠ TO → b ≠ i1 → b ≠ i2 → s.heap.get? b = some o → h'.get? b = some o) → h'.get? s.heap.objs.size = some { cls := .type "list", dict := none, data := .seq acc c, slots := #[] } → as.length = n → MadeZ P1 P2 s.heap.objs.size h' as → acc.toList = as.map Value.ref →
      Q (.ref s.heap.objs.size) { s with heap := h', toks := tk }) :
    wpAny (model prog w) A (call (.type "list") [.ref z]) Q E s := by
  have lz := Heap.lt_size hz
  have lTI := Heap.lt_size hTI
  obtain ⟨a1, a2, hTO⟩ := hTO
  have lTO := Heap.lt_size hTO
  have l1 := b1 _ S.mem1
  have l2 := b2 _ S.mem2
  refine callType_codes (Q₁ := fun obj s₁ => obj = .ref s.heap.objs.size ∧ s₁ = { s with heap := s.heap.push { cls := .type "list", data := .seq #[] } }) PySem.F.called_list (PySem.F.typeCall_list_1 _) PySem.F.entry_list_init
    (code_list_new _ ⟨rfl, rfl⟩) fun obj s₁ h₁ => ?_
  obtain ⟨rfl, rfl⟩ := h₁
  have hS : (s.heap.push { cls := .type "list", data := .seq #[] }).get? s.heap.objs.size = some { cls := .type "list", data := .seq #[] } := Heap.get?_push_size _ rfl
  refine ⟨⟨_, hS, rfl⟩, PySem.F.args_list_init_2 _ _, ?_⟩
  show wpAny _ _ (do let old ← Builtin.List.listItems (.ref s.heap.objs.size); Builtin.List.listUpdate (.ref s.heap.objs.size) (fun _ => #[]); letGo old.toList.reverse; Builtin.List.listExtendWith (.ref s.heap.objs.size) (.ref z) .none) _ _ _
  refine wpAny_bind ?_
  unfold Builtin.List.listItems
  refine wpAny_bind (wpAny_seqItems hS rfl (wpAny_pure ?_))
  show wpAny _ _ (updateSeq s.heap.objs.size (fun _ => #[]) >>= fun _ => letGo (#[] : Array Value).toList.reverse >>= fun _ => Builtin.List.listExtendWith (.ref s.heap.objs.size) (.ref z) .none) _ _ _
  refine wpAny_bind (wpAny_updateSeq hS rfl ?_)
  have hS₂ := Heap.get?_update_self (Obj.mapSeq (fun _ => (#[] : Array Value))) hS rfl
  have oth : ∀ b o, s.heap.get? b = some o → ((s.heap.push { cls := .type "list", data := .seq #[] }).update s.heap.objs.size (Obj.mapSeq (fun _ => (#[] : Array Value)))).get? b = some o :=
    fun b o e => (Heap.get?_update_other _ _ (Nat.ne_of_gt (Heap.lt_size e))).trans (Heap.get?_push_of_some _ e)
  refine wpAny_bind (wpAny_letGo ?_)
  have key : ∀ (h : Heap) (c tk : Nat), (∀ b o, s.heap.get? b = some o → h.get? b = some o) → h.get? s.heap.objs.size = some { cls := .type "list", data := .seq #[] c } →
      codeAny (model prog w) A.in1 (.builtin "list.extend.loop" ⟨[.ref s.heap.objs.size, .ref z, .none], []⟩) (wants (fun r s₂ => r = .none ∧ Q (.ref s.heap.objs.size) s₂) E) { s with heap := h, toks := tk } := by
    intro h c tk hk hS₁
    refine loopZ (A := A.in1) (lo := s.heap.objs.size) (h₁ := s.heap) hh S D1 D2 (by simp only [List.mem_cons, List.not_mem_nil, or_false, not_or]; exact ⟨Nat.ne_of_gt lz, Nat.ne_of_gt lTI, Nat.ne_of_gt lTO, Nat.ne_of_gt l1, Nat.ne_of_gt l2⟩) (fun hm => absurd (b1 _ hm) (Nat.lt_irrefl _)) (fun hm => absurd (b2 _ hm) (Nat.lt_irrefl _))
      (Nat.le_of_lt lz) (Nat.le_of_lt lTO) (Nat.le_of_lt l1) (Nat.le_of_lt l2) (Nat.le_refl _) hn .none (fun h' tk acc c as k1 k2 k3 k4 k5 => ?_) n 0 h tk c #[] [] (by omega) (Nat.zero_le _) ⟨hk _ _ hTI, .inl ⟨hk _ _ hz, a1, a2, hk _ _ hTO⟩⟩ (D1.frame _ _ _ st1 fun b _ o e => hk b o e) (D2.frame _ _ _ st2 fun b _ o e => hk b o e)
      (fun b o _ _ _ _ _ e => hk b o e) hS₁ rfl rfl ⟨List.Pairwise.nil, fun a ha => (by cases ha), fun j a hj => (by simp at hj)⟩ (Heap.lt_size hS₁)
    exact ⟨rfl, hQ h' tk acc c as (fun b o c1 c2 c3 c4 e => k1 b o (Nat.ne_of_lt (Heap.lt_size e)) c1 c2 c3 c4 e) k2 k3 k4 k5⟩
  unfold Builtin.List.listExtendWith
  refine wpAny_bind (wpAny_typeOf (T := "zip") ⟨_, oth _ _ hz, rfl⟩ ?_)
  have h1 : Builtin.List.listSameRef (.ref s.heap.objs.size) (.ref z) = false := by simp [Builtin.List.listSameRef]; exact Nat.ne_of_gt lz
  have h2 : (Value.type "zip" == Value.type "list") = false := by decide
  have h3 : (Value.type "zip" == Value.type "tuple") = false := by decide
  simp only [h1, h2, h3, Bool.or_false, Bool.false_eq_true, if_false]
  refine wpAny_bind (wpAny_pyIter_zip (oth _ _ hz) ?_)
  refine wpAny_bind (wpAny_holding (zip_hint ⟨_, oth _ _ hz, rfl⟩ ?_))
  refine wpAny_ite_split (fun _ => ?_) (fun _ => wpAny_pure ⟨plainId_quiet PySem.F.plain_extend_loop _, key _ _ _ (fun b o e => oth b o e) hS₂⟩)
  refine wpAny_bind (wpAny_rule ?_)
  refine wpAny_bind ?_
  show wpAny _ _ (updateSeq s.heap.objs.size (·.push .none) >>= fun _ => updateSeq s.heap.objs.size (·.pop)) _ _ _
  refine wpAny_bind (wpAny_updateSeq hS₂ rfl ?_)
  have hS₃ := Heap.get?_update_self (Obj.mapSeq (·.push Value.none)) hS₂ rfl
  refine wpAny_updateSeq (hz := by seq_fits) hS₃ rfl ?_
  have hS₄ := Heap.get?_update_self (Obj.mapSeq (·.pop)) hS₃ rfl
  refine wpAny_pure ⟨plainId_quiet PySem.F.plain_extend_loop _, key _ _ _ (fun b o e => ?_) hS₄⟩
  have hb : s.heap.objs.size ≠ b := Nat.ne_of_gt (Heap.lt_size e)
  exact (Heap.get?_update_other _ _ hb).trans ((Heap.get?_update_other _ _ hb).trans (oth b o e))
end
/-! ### the rule -/
section
variable {prog : Program} {w : World} {A : Around} {E : Value → Shared → Prop} {s : Shared}
theorem isTuple_of {h : Heap} {a : Addr} {its : Array Value} (p : IsTup h a its) : h.IsTuple a its := by
  obtain ⟨o, ho, hc, n, hd⟩ := p
  exact ⟨o, ho, hc, n, hd⟩
theorem list_zip {a b : Addr} {its its2 : Array Value} {n : Nat} {Q : Value → Shared → Prop} (hh : A.handled = none) (h1 : s.heap.IsList a its) (h2 : s.heap.IsList b its2 ∨ s.heap.IsTuple b its2) (e1 : its.size = n) (e2 : its2.size = n) (hn : n ≤ sizeLine)
    (hQ : ∀ (h' : Heap) (tk : Nat) (acc : Array Value) (c : Nat) (as : List Addr) (l : Addr), (∀ b o, s.heap.get? b = some o → h'.get? b = some o) → s.heap.objs.size ≤ l → (∀ x ∈ as, l < x) → as.Nodup → h'.get? l = some { cls := .type "list", dict := none, data := .seq acc c, slots := #[] } → as.length = n →
      (∀ (j : Nat) (x : Addr), as[j]? = some x → ∃ x1 x2, its[j]? = some x1 ∧ its2[j]? = some x2 ∧ IsTupOf2 h' x x1 x2) → acc.toList = as.map Value.ref → Q (.ref l) { s with heap := h', toks := tk }) :
    wpAny (model prog w) A (call (.type "zip") [.ref a, .ref b]) (fun z s1 => wpAny (model prog w) A (call (.type "list") [z]) Q E s1) E s := by
  have la : a < s.heap.objs.size := by obtain ⟨_, e, _⟩ := h1; exact Heap.lt_size e
  have fin : ∀ (h' : Heap) (P2 : Nat → Value → Prop) (St2 : Nat → Heap → Prop), (∀ j v, P2 j v → its2[j]? = some v) → b < s.heap.objs.size → (∀ A : Around, A.handled = none → Draws prog w A (s.heap.objs.size + 1) [s.heap.objs.size + 1, b] n P2 St2) → St2 0 h' →
      IsZip h' (s.heap.objs.size + 4) (s.heap.objs.size + 2) (s.heap.objs.size + 3) .none → IsTupOf2 h' (s.heap.objs.size + 2) (.ref s.heap.objs.size) (.ref (s.heap.objs.size + 1)) → IsTupOf2 h' (s.heap.objs.size + 3) .none .none →
      h'.get? s.heap.objs.size = some { cls := .type "list_iterator", data := .fields #[.ref a, .int 0 0] } → h'.objs.size = s.heap.objs.size + 5 → (∀ c o, s.heap.get? c = some o → h'.get? c = some o) →
      wpAny (model prog w) A (call (.type "list") [.ref (s.heap.objs.size + 4)]) Q E { s with heap := h' } := by
    intro h' P2 St2 hP lb D2 st2 hz hTI hTO g1 hsz hk
    have D1 : ∀ A : Around, A.handled = none → Draws prog w A s.heap.objs.size [s.heap.objs.size, a] n (fun i v => its[i]? = some v) (fun i h => h.IsListIter s.heap.objs.size a i ∧ h.IsList a its) := fun A hA => by
      rw [← e1]; exact Draws.list hA s.heap.objs.size a (Nat.ne_of_lt la) its
    have ge : ∀ j : Nat, s.heap.objs.size ≤ s.heap.objs.size + j := fun j => Nat.le_add_right _ _
    refine call_listZ (s := { s with heap := h' }) hh (zip_sep2 (fp1 := [a]) (fp2 := [b]) (fun c hc => by rw [List.mem_singleton.mp hc]; exact la) (fun c hc => by rw [List.mem_singleton.mp hc]; exact lb)) (D1 _ hh) (D2 _ hh) hz hTI ⟨_, _, hTO⟩ ⟨⟨_, g1, rfl, rfl⟩, h1.at fun o e => hk a o e⟩ st2
      (fun c hc => ?_) (fun c hc => ?_) hn fun h2 tk acc c as k1 k2 k3 k4 k5 => ?_
    · rw [hsz]
      rcases List.mem_cons.mp hc with rfl | hc
      · exact Nat.lt_add_of_pos_right (by decide)
      · rw [List.mem_singleton.mp hc]; exact Nat.lt_of_lt_of_le la (ge _)
    · rw [hsz]
      rcases List.mem_cons.mp hc with rfl | hc
      · exact Nat.add_lt_add_left (by decide) _
      · rw [List.mem_singleton.mp hc]; exact Nat.lt_of_lt_of_le lb (ge _)
    · refine hQ h2 tk acc c as _ (fun b o e => ?_) (by rw [hsz]; exact ge _) k4.above (k4.rise.imp fun h => Nat.ne_of_lt h) k2 k3 (fun j x hj => ?_) k5
      · have hb := Heap.lt_size e
        have ne : ∀ j : Nat, b ≠ s.heap.objs.size + j := fun j => Nat.ne_of_lt (Nat.lt_of_lt_of_le hb (ge j))
        exact k1 b o (ne 4) (ne 3) (ne 0) (ne 1) (hk b o e)
      · obtain ⟨x1, x2, p1, p2, e⟩ := k4.pairs j x hj
        exact ⟨x1, x2, p1, hP j x2 p2, e⟩
  rcases h2 with h2 | h2
  · have lb : b < s.heap.objs.size := by obtain ⟨_, e, _⟩ := h2; exact Heap.lt_size e
    refine zip_begins2 (begins_list a its) (begins_list b its2) h1 h2 fun h' hz hTI hTO g1 g2 hsz hk => ?_
    exact fin h' (fun i v => its2[i]? = some v) (fun i h => h.IsListIter (s.heap.objs.size + 1) b i ∧ h.IsList b its2) (fun j v h => h) lb (fun A hA => by rw [← e2]; exact Draws.list hA (s.heap.objs.size + 1) b (Nat.ne_of_lt (Nat.lt_succ_of_lt lb)) its2) ⟨⟨_, g2, rfl, rfl⟩, h2.at fun o e => hk b o e⟩ hz hTI hTO g1 hsz hk
  · have lb : b < s.heap.objs.size := by obtain ⟨_, e, _⟩ := h2; exact Heap.lt_size e
    refine zip_begins2 (begins_list a its) (begins_tuple b its2) h1 h2 fun h' hz hTI hTO g1 g2 hsz hk => ?_
    exact fin h' (fun i v => its2[i]? = some v) (fun i h => h.IsTupleIter (s.heap.objs.size + 1) b i ∧ h.IsTuple b its2) (fun j v h => h) lb (fun A hA => by rw [← e2]; exact Draws.tuple hA (s.heap.objs.size + 1) b (Nat.ne_of_lt (Nat.lt_succ_of_lt lb)) its2) ⟨⟨_, g2, rfl, rfl⟩, h2.at fun o e => hk b o e⟩ hz hTI hTO g1 hsz hk
end
/-- new things are tracked -/
theorem HOk.news {P : Program} {w : World} {H : Hp} {h h' : Heap} {N : Addr → Option HO} (x : HOk P w H h) (k : ∀ b u, h.get? b = some u → h'.get? b = some u) (hp : ∀ b o, N b = some o → h.objs.size ≤ b) (new : ∀ b o, N b = some o → ObjOk P w (fun c => (N c).or (H c)) h' b o) : HOk P w (fun c => (N c).or (H c)) h' := fun b u e => by
  have up : ∀ c v, H c = some v → (N c).or (H c) = some v := fun c v q => by
    cases hN : N c with
    | none => exact q
    | some o => rw [x.fresh (hp c o hN)] at q; cases q
  cases hN : N b with
  | some o =>
    have e' : (N b).or (H b) = some u := e
    rw [hN] at e'
    cases e'
    exact new b _ hN
  | none =>
    have e' : (N b).or (H b) = some u := e
    rw [hN] at e'
    exact (x b u e').stay (fun c v _ q => k c v q) (fun c q => up c _ q) fun c xs q => up c _ q
theorem Inv_news {X : Cx} {pins : List (Addr × Obj)} {σ : L2.St} {H : Hp} {s : Shared} {h' : Heap} {t' : Nat} {N : Addr → Option HO} (I : Inv X pins σ H s) (k : ∀ b u, s.heap.get? b = some u → h'.get? b = some u) (hp : ∀ b o, N b = some o → s.heap.objs.size ≤ b)
    (new : ∀ b o, N b = some o → ObjOk X.prog X.w (fun c => (N c).or (H c)) h' b o) : Inv X pins σ (fun c => (N c).or (H c)) { s with heap := h', toks := t' } := by
  have up : ∀ c v, H c = some v → (N c).or (H c) = some v := fun c v q => by
    cases hN : N c with
    | none => exact q
    | some o => rw [I.hok.fresh (hp c o hN)] at q; cases q
  refine I.un ⟨fun b o q _ _ _ => k b o q, fun b o q _ _ _ => ⟨o.slots, k b o q⟩, fun b o q n _ => ?_, fun b o q _ => ⟨o, k b o q⟩, fun b xs q => up b _ q, fun b o xs q => up b _ q, fun b ps q => ⟨#[], by rw [up b _ q]; simp⟩⟩ (HOk.news I.hok k hp new)
  cases hN : N b with
  | none => exact n
  | some o' => exact absurd (hp b o' hN) (Nat.not_le.mpr (Heap.lt_size q))
/-- list(zip(xs, ys)) -/
def tLZ (K : PySem.W.Frag) (ta : TA) : TE := fun σ H Q => ta σ H fun vs H1 => ∃ a b xs ys, vs = [.ref a, .ref b] ∧ SqL K H1 a xs ∧ (SqL K H1 b ys ∨ SqT K H1 b ys) ∧ xs.length = ys.length ∧
  ∀ (l : Addr) (ps : List Addr) (H2 : Hp), Same H1 H2 → H1 l = none → ps.length = xs.length → H2 l = some (.lst (ps.map V.ref)) → (∀ (j : Nat) (p : Addr), ps[j]? = some p → ∃ x y, xs[j]? = some x ∧ ys[j]? = some y ∧ H2 p = some (.tup [x, y])) → Q (.ref l) H2
theorem vals_refA : ∀ as : List Addr, Vals (as.map V.ref) (as.map Value.ref)
  | [] => .nil
  | a :: as => .cons rfl (vals_refA as)
section
variable [Cfg] [Fix]
theorem pe_listzip {X : Cx} {e1 e2 : Expr} {p2 p3 pos2 pos3 : Pos} {ta : TA} (hc : X.calm = true) (hgL : Gl X "list") (hmL : X.mg "list" = none) (hgZ : Gl X "zip") (hmZ : X.mg "zip" = none) (hs1 : isStar e1 = false) (hs2 : isStar e2 = false) (ha : PA X [e1, e2] ta) :
    PE X (.Call (.Name "list" p2) [.Call (.Name "zip" p3) [e1, e2] [] pos3] [] pos2) (tLZ X.K ta) := by
  refine ⟨fun pins s σ H Q I h => ?_⟩
  have hh : X.A.handled = none := I.ok.hd hc
  refine wpAny_Call_Name_kw (ld_blt I hgL hmL PyProof.Rows.boot_list ?_ (by decide) (by decide))
  refine PyProof.Rows.callWith_type1 ?_ (star_no rfl) rfl
  rw [star_no (show isStar (.Call (.Name "zip" p3) [e1, e2] [] pos3) = false from rfl)]
  show wpAny _ _ (spliced ((false, eval (.Call (.Name "zip" p3) [e1, e2] [] pos3) X.env) :: backTo pos2 (starEach [] X.env))) _ _ s
  refine Calls.spliced_cons ?_
  refine wpAny_Call_Name_kw (ld_blt I hgZ hmZ PyProof.Rows.boot_zip ?_ (by decide) (by decide))
  refine PyProof.Rows.callWith_type1 (thn (ha.run pos3 pins s σ H _ I h) fun us s1 ⟨vs, H1, I1, r1, q1⟩ => ?_) (star_no hs1) (star_any fun z hz => by simp at hz; rw [hz]; exact hs2)
  obtain ⟨a, b, xs, ys, ex, hqx, hqy, hl, q⟩ := q1
  subst ex
  cases r1 with
  | cons r rr =>
    cases rr with
    | cons r' rr =>
      cases rr
      cases r
      cases r'
      obtain ⟨its, rv, p1, hz1⟩ := I1.list hqx
      have ex : ∃ its2 : List Value, Vals ys its2 ∧ (s1.heap.IsList b its2.toArray ∨ s1.heap.IsTuple b its2.toArray) := by
        rcases hqy with hqy | hqy
        · obtain ⟨its2, rv2, p2, _⟩ := I1.list hqy
          exact ⟨its2, rv2, .inl p2.isList⟩
        · obtain ⟨its2, rv2, p2, _⟩ := I1.tuple hqy
          exact ⟨its2, rv2, .inr (isTuple_of p2)⟩
      obtain ⟨its2, rv2, p2⟩ := ex
      have l1 := rv.length
      have l2 := rv2.length
      refine thn (list_zip (Q := EP X pins σ Q) (E := X.xe) (n := xs.length) hh p1.isList p2 (by simp [l1]) (by simp; omega) hz1 fun h' tk acc c as l hk hle hlt hnd hget hlen hpair hacc => ?_) fun z s2 hz => Calls.spliced_nil hz
      have hle2 : ∀ x ∈ as, s1.heap.objs.size ≤ x := fun x hx => Nat.le_of_lt (Nat.lt_of_le_of_lt hle (hlt x hx))
      let N : Addr → Option HO := fun c => if c = l then some (.lst (as.map V.ref)) else ((as.zip (xs.zip ys)).find? fun t => decide (t.1 = c)).map fun t => .tup [t.2.1, t.2.2]
      have Nat' : ∀ (j : Nat) (p : Addr), as[j]? = some p → ∃ x y, xs[j]? = some x ∧ ys[j]? = some y ∧ N p = some (.tup [x, y]) := fun j p hj => by
        have hj1 : j < as.length := (List.getElem?_eq_some_iff.mp hj).1
        have hjp : as[j] = p := (List.getElem?_eq_some_iff.mp hj).2
        have hx : j < xs.length := by omega
        have hy : j < ys.length := by omega
        refine ⟨xs[j], ys[j], List.getElem?_eq_getElem hx, List.getElem?_eq_getElem hy, ?_⟩
        have hpl : p ≠ l := Nat.ne_of_gt (hlt p (List.mem_of_getElem? hj))
        show (if p = l then _ else _) = _
        rw [if_neg hpl]
        have hz : j < (as.zip (xs.zip ys)).length := by simp; omega
        have hm : (p, xs[j], ys[j]) ∈ as.zip (xs.zip ys) := by
          refine List.mem_iff_getElem.mpr ⟨j, hz, ?_⟩
          simp [hjp]
        cases hf : (as.zip (xs.zip ys)).find? (fun t => decide (t.1 = p)) with
        | none =>
          have := List.find?_eq_none.mp hf _ hm
          simp at this
        | some t =>
          have h1 := List.find?_some hf
          simp at h1
          have h2 := List.mem_of_find?_eq_some hf
          obtain ⟨k, hk1, hk2⟩ := List.mem_iff_getElem.mp h2
          have hka : k < as.length := by simp at hk1; omega
          have e1 : as[k] = p := by rw [← h1, ← hk2]; simp
          have : k = j := by
            have pw := List.pairwise_iff_getElem.mp hnd
            rcases Nat.lt_trichotomy k j with h | h | h
            · exact absurd (e1.trans hjp.symm) (pw k j hka hj1 h)
            · exact h
            · exact absurd (hjp.trans e1.symm) (pw j k hj1 hka h)
          subst this
          rw [← hk2]
          simp
      have Nmem : ∀ c o, N c = some o → c = l ∨ c ∈ as := fun c o e => by
        by_cases h : c = l
        · exact .inl h
        · right
          have e' : (if c = l then _ else ((as.zip (xs.zip ys)).find? fun t => decide (t.1 = c)).map fun t => HO.tup [t.2.1, t.2.2]) = some o := e
          rw [if_neg h, Option.map_eq_some_iff] at e'
          obtain ⟨t, h1, _⟩ := e'
          have h3 := List.find?_some h1
          simp at h3
          have h2 := List.mem_of_find?_eq_some h1
          rw [← h3]
          exact (List.of_mem_zip h2).1
      have Nl : N l = some (.lst (as.map V.ref)) := if_pos rfl
      have Nge : ∀ b o, N b = some o → s1.heap.objs.size ≤ b := fun b o e => by
        rcases Nmem b o e with rfl | h
        · exact hle
        · exact hle2 b h
      have hfr : ∀ c o, N c = some o → H1 c = none := fun c o e => I1.hok.fresh (Nge c o e)
      have I2 : Inv X pins σ (fun c => (N c).or (H1 c)) { s1 with heap := h', toks := tk } := by
        refine Inv_news I1 hk Nge fun b' o e => ?_
        rcases Nmem b' o e with rfl | h
        · rw [Nl] at e
          cases e
          refine ⟨by rw [List.length_map, hlen]; exact hz1, acc.toList, c, ?_, by rw [Array.toArray_toList]; exact hget⟩
          rw [hacc]
          exact vals_refA as
        · obtain ⟨j, hj⟩ := List.mem_iff_getElem?.mp h
          obtain ⟨x, y, hx, hy, hN⟩ := Nat' j b' hj
          rw [hN] at e
          cases e
          obtain ⟨x1, x2, g1, g2, gt⟩ := hpair j b' hj
          obtain ⟨u1, v1, r1⟩ := rv.get hx
          obtain ⟨u2, v2, r2⟩ := rv2.get hy
          rw [List.getElem?_toArray, v1] at g1
          rw [List.getElem?_toArray, v2] at g2
          cases g1
          cases g2
          exact ⟨by rw [sizeLine_eq]; simp, [_, _], .cons r1 (.cons r2 .nil), _, gt, rfl, 0, rfl⟩
      refine ⟨.ref l, _, I2, rfl, q l as _ (fun b' u e => ?_) (hfr l _ Nl) hlen (by show (N l).or _ = _; rw [Nl]; rfl) fun j p hj => ?_⟩
      · show (N b').or (H1 b') = some u
        cases hN : N b' with
        | none => exact e
        | some o => rw [hfr b' o hN] at e; cases e
      · obtain ⟨x, y, hx, hy, hN⟩ := Nat' j p hj
        exact ⟨x, y, hx, hy, by show (N p).or _ = _; rw [hN]; rfl⟩
theorem dictzip_of {d e : D} {r : D × Md} (h : dictzipD d e = some r) : ∃ ks vs, d = .list ks ∧ (e = .list vs ∨ e = .tuple vs) ∧ (ks.all isInt) = true ∧ ks.length = vs.length ∧ r = (.dict (zipKV ks vs []), .ow) := by
  unfold dictzipD at h
  split at h
  · split at h
    · rename_i c
      simp only [Bool.and_eq_true, beq_iff_eq] at c
      cases h
      exact ⟨_, _, rfl, .inl rfl, c.1.1, c.1.2, rfl⟩
    · cases h
  · split at h
    · rename_i c
      simp only [Bool.and_eq_true, beq_iff_eq] at c
      cases h
      exact ⟨_, _, rfl, .inr rfl, c.1.1, c.1.2, rfl⟩
    · cases h
  · cases h
theorem ints_of : ∀ {ks : List D}, (ks.all isInt) = true → ∃ ns : List Int, ks = ns.map .int
  | [], _ => ⟨[], rfl⟩
  | d :: ds, h => by
    simp only [List.all_cons, Bool.and_eq_true] at h
    obtain ⟨ns, e⟩ := ints_of h.2
    obtain ⟨i, rfl⟩ := int_key h.1
    exact ⟨i :: ns, by rw [e]; rfl⟩
theorem merge_zip {Z : Hp} : ∀ (is : List Int) {ys : List V} {vs : List D} {acc : List (Key × V)} {accD : List (D × D)}, Reps Z ys vs → is.length = vs.length → RepKs Z acc accD → RepKs Z (mergeK acc ((is.map Sum.inl).zip ys)) (zipKV (is.map .int) vs accD)
  | [], [], [], _, _, _, _, r => r
  | [], _ :: _, _, _, _, h, hl, _ => by
    cases h with | cons _ _ => simp at hl
  | [], [], _ :: _, _, _, h, _, _ => by cases h
  | i :: is, [], [], _, _, _, hl, _ => by simp at hl
  | _ :: _, [], _ :: _, _, _, h, _, _ => by cases h
  | _ :: _, _ :: _, [], _, _, h, _, _ => by cases h
  | i :: is, y :: ys, v :: vs, acc, accD, h, hl, r => by
    cases h with
    | cons h1 h2 =>
      show RepKs Z (mergeK (putK acc (Sum.inl i) y) ((is.map Sum.inl).zip ys)) (zipKV (is.map .int) vs (putKey accD (.int i) v))
      exact merge_zip is h2 (by simpa using hl) (repks_put r i h1)
theorem paired_at {α β : Type} {F : α → β → Prop} : ∀ {l : List α} {m : List β}, l.length = m.length → (∀ (j : Nat) (a : α) (b : β), l[j]? = some a → m[j]? = some b → F a b) → Paired F l m
  | [], [], _, _ => .nil
  | [], _ :: _, h, _ => by simp at h
  | _ :: _, [], h, _ => by simp at h
  | a :: l, b :: m, h, f => .cons (f 0 a b rfl rfl) (paired_at (by simpa using h) fun j a' b' h1 h2 => f (j + 1) a' b' (by simpa using h1) (by simpa using h2))
section
variable {X : Cx} {W : WX} {cls : Cls} {FN N : List Str} {sc : Scope} {k : Nat} {GL : Str → Option D} {C : Orc} {pos : Pos}
theorem s_dictzip {a b : E} {u v : Expr} {p p2 p3 pos2 pos3 : Pos} (S : SC X FN N sc k GL C cls) (hg : gloB sc "dict" = true) (hg2 : gloB sc "list" = true) (hg3 : gloB sc "zip" = true) (hs : isStar u = false) (hs2 : isStar v = false) (ha : PE X u (tE X.prog X.w W cls (ev GL C a))) (hb : PE X v (tE X.prog X.w W cls (ev GL C b))) :
    PE X (.Call (.Name "dict" p) [.Call (.Name "list" p2) [.Call (.Name "zip" p3) [u, v] [] pos3] [] pos2] [] pos) (tE X.prog X.w W cls (ev GL C (.dictzip a b))) := by
  refine pe_to (pe_callTy (call_dictP S.calm) (S.gl hg) S.bi (show bootBuiltins "dict" = some (.type "dict") by decide +kernel) (pa_cons (pe_listzip S.calm (S.gl hg2) S.bi (S.gl hg3) S.bi hs hs2 (pa_cons (shared ha) (pa_cons (shared hb) pa_nil (star_no hs2)) (star_no hs))) pa_nil rfl) (glo_of hg).2.2 (glo_of hg).2.1 rfl rfl) fun σ H Q ⟨H0, Z0, g, Z, sr, po⟩ => ?_
  rw [ev] at po
  refine ⟨H0, Z0, g, Z, sr, po.bd.mono fun x g1 H1 Z1 sr1 zz1 po1 => ?_⟩
  split at po1
  · exact po1.elim
  rename_i hm
  refine ⟨hm, fun v rv => ⟨H0, Z0, g1, Z1, sr1, po1.bd.mono fun y g2 H2 Z2 sr2 zz2 po2 => ?_⟩⟩
  split at po2
  · exact po2.elim
  rename_i hm2
  refine ⟨hm2, fun u ru => ?_⟩
  obtain ⟨⟨d, m⟩, e, hk⟩ := po2.ofO
  obtain ⟨ks, vs, e1, e2, hint, hlen, er⟩ := dictzip_of e
  cases er
  obtain ⟨ns, rfl⟩ := ints_of hint
  have rv' := rv.up zz2
  rw [e1] at rv'
  cases rv' with
  | @lst a xs _ rd rs =>
    have ex := reps_ints rs
    subst ex
    have ey : ∃ b ys, u = .ref b ∧ (SqL X.K H2 b ys ∨ SqT X.K H2 b ys) ∧ Reps Z2 ys vs := by
      rcases e2 with e2 | e2
      · rw [e2] at ru
        cases ru with
        | lst r1 r2 => exact ⟨_, _, rfl, .inl (.inl (Rd.same sr2.zh r1)), r2⟩
      · rw [e2] at ru
        cases ru with
        | tup r1 r2 => exact ⟨_, _, rfl, .inr (.inl (.of (sr2.zh _ _ r1))), r2⟩
    obtain ⟨b, ys, rfl, hq, rs2⟩ := ey
    have hl2 : ns.length = ys.length := by rw [rs2.length]; simpa using hlen
    refine ⟨a, b, ns.map V.int, ys, rfl, .inl (Rd.same sr2.zh rd), hq, by simpa using hl2, fun l ps H3 same hfree hpl hl hp => ?_⟩
    have hpl' : ps.length = ns.length := by simpa using hpl
    refine ⟨l, ps, (ns.map Sum.inl).zip ys, rfl, .inl (.of hl), paired_at (by simp [hpl']; omega) fun j p kv h1 h2 => ?_, fun q hq => ?_⟩
    · obtain ⟨x', y', hx, hy, ht⟩ := hp j p h1
      rw [List.getElem?_zip_eq_some] at h2
      obtain ⟨h3, h4⟩ := h2
      rw [hy] at h4
      rw [List.getElem?_map, Option.map_eq_some_iff] at h3 hx
      obtain ⟨i, h5, h6⟩ := h3
      obtain ⟨i2, h7, h8⟩ := hx
      rw [h5] at h7
      cases h7
      rw [← h6, ← Option.some.inj h4]
      rw [← h8] at ht
      exact .inl (.of ht)
    · have sr3 := sr2.tr ⟨same, Same.refl _, sr2.zh.trans same, fun _ _ => rfl⟩
      exact hk _ Z2 (sr3.tr (Tr.laid sr3.zh hq)) (Same.refl _) _ ⟨.owd (zfree sr3.zh hq) upd_same (merge_zip ns rs2 (by simpa using hlen) .nil), own_new sr3 hq, noOb_of (show Md.ow ≠ Md.on by decide)⟩
end
end
end DL

set_option Elab.async false
set_option linter.all false
set_option maxRecDepth 100000
/-! D12: expressions hold. -/
namespace DL
open PySem L2 PySem.Spec PyProof.Rows
variable [Cfg] [Fix]

section
variable {X : Cx} {W : WX} {cls : Cls} {FN N : List Str} {sc : Scope} {k : Nat} {GL : Str → Option D} {C : Orc} {pos : Pos}
theorem allStar {es : E} {pes : List Expr} (h : chkL FN N es sc pes = true) : ∀ x ∈ pes, isStar x = false := by
  induction pes generalizing es with
  | nil => intro x hx; cases hx
  | cons p ps ih =>
    unfold chkL at h
    split at h
    · rename_i e1 e2; cases e2
    · rename_i a r sc' x xs e
      cases e
      simp only [Bool.and_eq_true, Bool.not_eq_true'] at h
      intro y hy
      rcases List.mem_cons.mp hy with rfl | hy
      · exact h.1.2
      · exact ih h.2 y hy
    · cases h
/-- all that is shown of a small expression -/
structure Good (FN N : List Str) (k : Nat) (GL : Str → Option D) (C : Orc) (cls : Cls) (e : E) : Prop where
  pe : ∀ (X : Cx) (W : WX) (sc : Scope) (p : Expr), SC X FN N sc k GL C cls → Takes X W → chk FN N e false sc p = true → PE X p (tE X.prog X.w W cls (ev GL C e))
  pt : ∀ (X : Cx) (W : WX) (sc : Scope) (p : Expr), SC X FN N sc k GL C cls → Takes X W → chk FN N e false sc p = true → tstOk p = true → PT X p (tT X.prog X.w W cls (ev GL C e))
  pi : ∀ (X : Cx) (W : WX) (sc : Scope) (p tg : Expr), SC X FN N sc k GL C cls → Takes X W → chk FN N e true sc p = true → PI X tg p (tI X.prog X.w W cls (ev GL C e))
  pa : ∀ (X : Cx) (W : WX) (sc : Scope) (ps : List Expr), SC X FN N sc k GL C cls → Takes X W → chkL FN N e sc ps = true → PA X ps (tA X.prog X.w W cls (evs GL C e))
  el : ∀ (X : Cx) (W : WX) (sc : Scope) (ps : List Expr), SC X FN N sc k GL C cls → Takes X W → chkL FN N e sc ps = true → ps.all tstOk = true → EL X W cls GL C e ps
/-- .. of one whose value decides all -/
theorem Good.of {e : E} (h : ∀ (X : Cx) (W : WX) (sc : Scope) (p : Expr), SC X FN N sc k GL C cls → Takes X W → chk FN N e false sc p = true → PE X p (tE X.prog X.w W cls (ev GL C e)) ∧ (isTst p = true → tstOk p = true → PT X p (tT X.prog X.w W cls (ev GL C e))))
    (hb : ∀ sc p, chk FN N e true sc p = chk FN N e false sc p) (hl : ∀ sc ps, chkL FN N e sc ps = false) : Good FN N k GL C cls e where
  pe := fun X W sc p S tk c => (h X W sc p S tk c).1
  pt := fun X W sc p S tk c ht => by
    cases q : isTst p with
    | false => exact s_tst q (h X W sc p S tk c).1
    | true => exact (h X W sc p S tk c).2 q ht
  pi := fun X W sc p tg S tk c => s_iter (h X W sc p S tk (by rw [← hb]; exact c)).1
  pa := fun X W sc ps S tk c => by rw [hl] at c; cases c
  el := fun X W sc ps S tk c => by rw [hl] at c; cases c
theorem Good.plain {e : E} (h : ∀ (X : Cx) (W : WX) (sc : Scope) (p : Expr), SC X FN N sc k GL C cls → Takes X W → chk FN N e false sc p = true → PE X p (tE X.prog X.w W cls (ev GL C e)) ∧ isTst p = false)
    (hb : ∀ sc p, chk FN N e true sc p = chk FN N e false sc p) (hl : ∀ sc ps, chkL FN N e sc ps = false) : Good FN N k GL C cls e :=
  .of (fun X W sc p S tk c => ⟨(h X W sc p S tk c).1, fun q => by rw [(h X W sc p S tk c).2] at q; cases q⟩) hb hl
theorem nl {e : E} (h : isNilE e = false) (h2 : ∀ a r, e ≠ .cons a r) : ∀ sc ps, chkL FN N e sc ps = false := by
  intro sc ps
  cases e <;> first
    | exact absurd rfl (h2 _ _)
    | (simp [isNilE] at h; done)
    | (cases ps <;> simp [chkL])
theorem good : ∀ e : E, Good FN N k GL C cls e := by
  intro e
  induction e with
  | nil => exact ⟨fun X W sc p S tk c => (by simp [chk] at c), fun X W sc p S tk c => (by simp [chk] at c), fun X W sc p tg S tk c => by simp [chk] at c,
      fun X W sc ps S tk c => by
        cases ps with
        | nil => exact s_nil
        | cons _ _ => simp [chkL] at c,
      fun X W sc ps S tk c _ => by
        cases ps with
        | nil => exact .nil
        | cons _ _ => simp [chkL] at c⟩
  | cons a r iha ihr =>
    refine ⟨fun X W sc p S tk c => (by simp [chk] at c), fun X W sc p S tk c => (by simp [chk] at c), fun X W sc p tg S tk c => (by simp [chk] at c), fun X W sc ps S tk c => ?_, fun X W sc ps S tk c ht => ?_⟩
    · cases ps with
      | nil => simp [chkL] at c
      | cons x xs =>
        simp only [chkL, Bool.and_eq_true, Bool.not_eq_true'] at c
        exact s_cons c.1.2 (iha.pe X W sc x S tk c.1.1) (ihr.pa X W sc xs S tk c.2)
    · cases ps with
      | nil => simp [chkL] at c
      | cons x xs =>
        simp only [chkL, Bool.and_eq_true, Bool.not_eq_true'] at c
        simp only [List.all_cons, Bool.and_eq_true] at ht
        exact .cons (iha.pe X W sc x S tk c.1.1) (iha.pt X W sc x S tk c.1.1 ht.1) (ihr.el X W sc xs S tk c.2 ht.2)
  | var i => exact .plain (fun X W sc p S tk c => ⟨s_var S c, by unfold chk at c; split at c <;> first | rfl | cases c⟩) (fun _ _ => rfl) (nl rfl (fun _ _ h => nomatch h))
  | int i =>
    refine .of (fun X W sc p S tk c => ?_) (fun _ _ => rfl) (nl rfl (fun _ _ h => nomatch h))
    unfold chk at c
    split at c
    · have := of_decide_eq_true c; subst this; exact ⟨s_int, fun q => nomatch q⟩
    · have := of_decide_eq_true c; subst this; exact ⟨s_neg, fun q => nomatch q⟩
    · cases c
  | str x =>
    refine .plain (fun X W sc p S tk c => ?_) (fun _ _ => rfl) (nl rfl (fun _ _ h => nomatch h))
    unfold chk at c
    split at c
    · have := of_decide_eq_true c; subst this; exact ⟨s_str, rfl⟩
    · cases c
  | bl x =>
    refine .plain (fun X W sc p S tk c => ?_) (fun _ _ => rfl) (nl rfl (fun _ _ h => nomatch h))
    unfold chk at c
    split at c
    · have := of_decide_eq_true c; subst this; exact ⟨s_bl, rfl⟩
    · cases c
  | non =>
    refine .plain (fun X W sc p S tk c => ?_) (fun _ _ => rfl) (nl rfl (fun _ _ h => nomatch h))
    unfold chk at c
    split at c
    · exact ⟨s_non, rfl⟩
    · cases c
  | glob x =>
    refine .plain (fun X W sc p S tk c => ?_) (fun _ _ => rfl) (nl rfl (fun _ _ h => nomatch h))
    unfold chk at c
    split at c
    · simp only [Bool.and_eq_true, decide_eq_true_eq] at c
      obtain ⟨rfl, c⟩ := c
      exact ⟨s_glob S c, rfl⟩
    · cases c
  | tup es ih =>
    refine .plain (fun X W sc p S tk c => ?_) (fun _ _ => rfl) (nl rfl (fun _ _ h => nomatch h))
    unfold chk at c
    split at c
    · exact ⟨s_tup (ih.pa X W sc _ S tk c), rfl⟩
    · cases c
  | lst es ih =>
    refine .plain (fun X W sc p S tk c => ?_) (fun _ _ => rfl) (nl rfl (fun _ _ h => nomatch h))
    unfold chk at c
    split at c
    · exact ⟨s_lst (ih.pa X W sc _ S tk c), rfl⟩
    · cases c
  | dnew n =>
    refine .plain (fun X W sc p S tk c => ?_) (fun _ _ => rfl) (nl rfl (fun _ _ h => nomatch h))
    unfold chk at c
    split at c
    · exact ⟨s_dnew, rfl⟩
    · cases c
  | bin o a b iha ihb =>
    refine .plain (fun X W sc p S tk c => ?_) (fun _ _ => rfl) (nl rfl (fun _ _ h => nomatch h))
    unfold chk at c
    split at c
    · simp only [Bool.and_eq_true] at c
      obtain ⟨⟨c1, c2⟩, c3⟩ := c
      exact ⟨s_bin S c1 (s_opn S c2 (iha.pe X W sc _ S tk c2)) (s_opn S c3 (ihb.pe X W sc _ S tk c3)), rfl⟩
    · cases c
  | cmp o a b iha ihb =>
    refine .of (fun X W sc p S tk c => ?_) (fun _ _ => rfl) (nl rfl (fun _ _ h => nomatch h))
    unfold chk at c
    split at c
    · simp only [Bool.and_eq_true, Bool.not_eq_true'] at c
      obtain ⟨⟨⟨⟨c1, c2⟩, c3⟩, c4⟩, _⟩ := c
      rename_i l op r pos _
      have q := s_cmp (pos := pos) S c1 c4 (s_opn S c2 (iha.pe X W sc _ S tk c2)) (s_opn S c3 (ihb.pe X W sc _ S tk c3))
      exact ⟨q.1, fun _ _ => q.2⟩
    · cases c
  | and_ es ih =>
    refine .of (fun X W sc p S tk c => ?_) (fun _ _ => rfl) (nl rfl (fun _ _ h => nomatch h))
    unfold chk at c
    split at c
    · simp only [Bool.and_eq_true, Bool.not_eq_true'] at c
      obtain ⟨⟨c1, c2⟩, c3⟩ := c
      rename_i vs pos
      have q := s_and (pos := pos) (ih.el X W sc _ S tk c1 c3) c2
      have e1 : ev GL C (.and_ es) = evAnd GL C es := by funext g; rw [ev]
      rw [e1]
      exact ⟨q.1, fun _ _ => q.2.pt⟩
    · cases c
  | or_ es ih =>
    refine .of (fun X W sc p S tk c => ?_) (fun _ _ => rfl) (nl rfl (fun _ _ h => nomatch h))
    unfold chk at c
    split at c
    · simp only [Bool.and_eq_true, Bool.not_eq_true'] at c
      obtain ⟨⟨c1, c2⟩, c3⟩ := c
      rename_i vs pos
      have q := s_or (pos := pos) (ih.el X W sc _ S tk c1 c3) c2
      have e1 : ev GL C (.or_ es) = evOr GL C es := by funext g; rw [ev]
      rw [e1]
      exact ⟨q.1, fun _ _ => q.2.pt⟩
    · cases c
  | not_ a ih =>
    refine .of (fun X W sc p S tk c => ?_) (fun _ _ => rfl) (nl rfl (fun _ _ h => nomatch h))
    unfold chk at c
    split at c
    · simp only [Bool.and_eq_true] at c
      exact ⟨s_not (ih.pe X W sc _ S tk c.1), fun _ _ => s_notT (ih.pt X W sc _ S tk c.1 c.2)⟩
    · cases c
  | ite t a b iht iha ihb =>
    refine .of (fun X W sc p S tk c => ?_) (fun _ _ => rfl) (nl rfl (fun _ _ h => nomatch h))
    unfold chk at c
    split at c
    · simp only [Bool.and_eq_true] at c
      obtain ⟨⟨⟨c1, c2⟩, c3⟩, c4⟩ := c
      exact ⟨s_ite (iht.pt X W sc _ S tk c1 c4) (iha.pe X W sc _ S tk c2) (ihb.pe X W sc _ S tk c3), fun _ q => nomatch q⟩
    · cases c
  | ix a i iha ihi =>
    refine .plain (fun X W sc p S tk c => ?_) (fun _ _ => rfl) (nl rfl (fun _ _ h => nomatch h))
    unfold chk at c
    split at c
    · simp only [Bool.and_eq_true, Bool.not_eq_true'] at c
      obtain ⟨⟨c1, c2⟩, c3⟩ := c
      exact ⟨s_ix S c3 (s_opn S c1 (iha.pe X W sc _ S tk c1)) (ihi.pe X W sc _ S tk c2), rfl⟩
    · cases c
  | sl a lo hi iha ihl ihh =>
    refine .plain (fun X W sc p S tk c => ?_) (fun _ _ => rfl) (nl rfl (fun _ _ h => nomatch h))
    unfold chk at c
    split at c
    · simp only [Bool.and_eq_true] at c
      obtain ⟨⟨c1, c2⟩, c3⟩ := c
      rename_i x l h p2 pos
      have hl : PO X l (tP X.prog X.w W cls fun g => part lo (ev GL C lo g) g) := by
        cases l with
        | none => cases lo <;> first | exact s_part0 | (simp [isNilE] at c2; done)
        | some y =>
          simp only [Bool.and_eq_true, Bool.not_eq_true'] at c2
          exact s_part1 c2.2 (ihl.pe X W sc _ S tk c2.1)
      have hh : PO X h (tP X.prog X.w W cls fun g => part hi (ev GL C hi g) g) := by
        cases h with
        | none => cases hi <;> first | exact s_part0 | (simp [isNilE] at c3; done)
        | some y =>
          simp only [Bool.and_eq_true, Bool.not_eq_true'] at c3
          exact s_part1 c3.2 (ihh.pe X W sc _ S tk c3.1)
      exact ⟨s_sl (s_opn S c1 (iha.pe X W sc _ S tk c1)) hl hh, rfl⟩
    · cases c
  | call f es ih =>
    refine .plain (fun X W sc p S tk c => ?_) (fun _ _ => rfl) (nl rfl (fun _ _ h => nomatch h))
    unfold chk at c
    split at c
    · rename_i x args q
      simp only [Bool.and_eq_true, Bool.not_eq_true', decide_eq_true_eq] at c
      obtain ⟨⟨⟨⟨rfl, c1⟩, c2⟩, c3⟩, c4⟩ := c
      obtain ⟨pp, pos, rfl⟩ := callOf_eq q
      cases args with
      | nil => cases es <;> first | (simp [isNilE] at c4; done) | (simp [chkL] at c3; done)
      | cons y ys => exact ⟨s_call S tk c2 c1 (allStar c3) (ih.pa X W sc _ S tk c3), rfl⟩
    · cases c
  | len a ih =>
    refine .plain (fun X W sc p S tk c => ?_) (fun _ _ => rfl) (nl rfl (fun _ _ h => nomatch h))
    unfold chk at c
    split at c
    · rename_i x q
      obtain ⟨⟨pp, pos, rfl⟩, q2, q3⟩ := call1_eq q
      exact ⟨s_len S q2 q3 (s_opn S c (ih.pe X W sc _ S tk c)), rfl⟩
    · cases c
  | list a ih =>
    refine .plain (fun X W sc p S tk c => ?_) (fun _ _ => rfl) (nl rfl (fun _ _ h => nomatch h))
    unfold chk at c
    split at c
    · rename_i x q
      obtain ⟨⟨pp, pos, rfl⟩, q2, q3⟩ := call1_eq q
      exact ⟨s_list S q2 q3 (s_opn S c (ih.pe X W sc _ S tk c)), rfl⟩
    · cases c
  | tuple a ih =>
    refine .plain (fun X W sc p S tk c => ?_) (fun _ _ => rfl) (nl rfl (fun _ _ h => nomatch h))
    unfold chk at c
    split at c
    · rename_i x q
      obtain ⟨⟨pp, pos, rfl⟩, q2, q3⟩ := call1_eq q
      exact ⟨s_tuple S q2 q3 (s_opn S c (ih.pe X W sc _ S tk c)), rfl⟩
    · cases c
  | sorted a ih =>
    refine .plain (fun X W sc p S tk c => ?_) (fun _ _ => rfl) (nl rfl (fun _ _ h => nomatch h))
    unfold chk at c
    split at c
    · rename_i x q
      obtain ⟨⟨pp, pos, rfl⟩, q2, q3⟩ := call1_eq q
      exact ⟨s_sorted S q2 q3 (s_opn S c (ih.pe X W sc _ S tk c)), rfl⟩
    · cases c
  | sortset a ih =>
    refine .plain (fun X W sc p S tk c => ?_) (fun _ _ => rfl) (nl rfl (fun _ _ h => nomatch h))
    unfold chk at c
    split at c
    · rename_i y q
      split at c
      · rename_i x qq
        obtain ⟨⟨pp, pos, rfl⟩, q2, q3⟩ := call1_eq q
        obtain ⟨⟨pp2, pos2, rfl⟩, q4, q5⟩ := call1_eq qq
        exact ⟨s_sortset S q2 q4 q5 (s_opn S c (ih.pe X W sc _ S tk c)), rfl⟩
      · cases c
    · cases c
  | dict a ih =>
    refine .plain (fun X W sc p S tk c => ?_) (fun _ _ => rfl) (nl rfl (fun _ _ h => nomatch h))
    unfold chk at c
    split at c
    · rename_i x q
      obtain ⟨⟨pp, pos, rfl⟩, q2, q3⟩ := call1_eq q
      exact ⟨s_dict S q2 q3 (s_opn S c (ih.pe X W sc _ S tk c)), rfl⟩
    · cases c
  | gnin x a ih =>
    refine .of (fun X W sc p S tk c => ?_) (fun _ _ => rfl) (nl rfl (fun _ _ h => nomatch h))
    unfold chk at c
    split at c
    · simp only [Bool.and_eq_true, Bool.not_eq_true', decide_eq_true_eq] at c
      obtain ⟨⟨⟨rfl, c2⟩, c3⟩, c4⟩ := c
      rename_i pos
      have q := s_gnin (pos := pos) S c2 c4 (ih.pe X W sc _ S tk c3)
      exact ⟨q.1, fun _ _ => q.2⟩
    · cases c
  | gix x a ih =>
    refine .plain (fun X W sc p S tk c => ?_) (fun _ _ => rfl) (nl rfl (fun _ _ h => nomatch h))
    unfold chk at c
    split at c
    · simp only [Bool.and_eq_true, Bool.not_eq_true', decide_eq_true_eq] at c
      obtain ⟨⟨⟨rfl, c2⟩, c3⟩, c4⟩ := c
      exact ⟨s_gix S c2 c4 (ih.pe X W sc _ S tk c3), rfl⟩
    · cases c
  | dcmp n a b iha ihb =>
    refine .of (fun X W sc p S tk c => ?_) (fun _ _ => rfl) (nl rfl (fun _ _ h => nomatch h))
    unfold chk at c
    split at c
    · simp only [Bool.and_eq_true, Bool.not_eq_true'] at c
      obtain ⟨⟨⟨c1, c2⟩, c3⟩, c4⟩ := c
      rename_i l op r pos
      have e1 : op = if n = true then .NotEq else .Eq := by
        split at c1
        · cases n <;> first | rfl | cases c1
        · subst c1; rfl
        · cases c1
      have q := s_dcmp (pos := pos) (n := n) S e1 c4 (s_opn S c2 (iha.pe X W sc _ S tk c2)) (s_opn S c3 (ihb.pe X W sc _ S tk c3))
      exact ⟨q.1, fun _ _ => q.2⟩
    · cases c
  | min a b iha ihb =>
    refine .plain (fun X W sc p S tk c => ?_) (fun _ _ => rfl) (nl rfl (fun _ _ h => nomatch h))
    unfold chk at c
    split at c
    · rename_i x y q
      simp only [Bool.and_eq_true] at c
      obtain ⟨⟨pp, pos, rfl⟩, q2, q3, q4⟩ := call2_eq q
      exact ⟨s_min S q2 q3 q4 (iha.pe X W sc _ S tk c.1) (ihb.pe X W sc _ S tk c.2), rfl⟩
    · cases c
  | max a b iha ihb =>
    refine .plain (fun X W sc p S tk c => ?_) (fun _ _ => rfl) (nl rfl (fun _ _ h => nomatch h))
    unfold chk at c
    split at c
    · rename_i x y q
      simp only [Bool.and_eq_true] at c
      obtain ⟨⟨pp, pos, rfl⟩, q2, q3, q4⟩ := call2_eq q
      exact ⟨s_max S q2 q3 q4 (iha.pe X W sc _ S tk c.1) (ihb.pe X W sc _ S tk c.2), rfl⟩
    · cases c
  | toInt a ih =>
    refine .plain (fun X W sc p S tk c => ?_) (fun _ _ => rfl) (nl rfl (fun _ _ h => nomatch h))
    unfold chk at c
    split at c
    · rename_i x q
      obtain ⟨⟨pp, pos, rfl⟩, q2, q3⟩ := call1_eq q
      exact ⟨s_toInt S q2 q3 (ih.pe X W sc _ S tk c), rfl⟩
    · cases c
  | isi a t ih =>
    refine .plain (fun X W sc p S tk c => ?_) (fun _ _ => rfl) (nl rfl (fun _ _ h => nomatch h))
    unfold chk at c
    split at c
    · rename_i x y q
      simp only [Bool.and_eq_true, decide_eq_true_eq] at c
      obtain ⟨⟨c1, c2⟩, c3⟩ := c
      obtain ⟨⟨pp, pos, rfl⟩, q2, q3, q4⟩ := call2_eq q
      have : ∃ p2, y = .Name (tyName t) p2 := by
        unfold nameIs at c2
        split at c2
        · cases c2; exact ⟨_, rfl⟩
        · cases c2
      obtain ⟨p2, rfl⟩ := this
      exact ⟨s_isi S q2 c3 q3 (s_opn S c1 (ih.pe X W sc _ S tk c1)), rfl⟩
    · cases c
  | dictzip a b iha ihb =>
    refine .plain (fun X W sc p S tk c => ?_) (fun _ _ => rfl) (nl rfl (fun _ _ h => nomatch h))
    unfold chk at c
    split at c
    · rename_i y q
      split at c
      · rename_i z qq
        split at c
        · rename_i u v q3
          simp only [Bool.and_eq_true] at c
          obtain ⟨⟨pp, pos, rfl⟩, q2, q2'⟩ := call1_eq q
          obtain ⟨⟨pp2, pos2, rfl⟩, q4, q5⟩ := call1_eq qq
          obtain ⟨⟨pp3, pos3, rfl⟩, q6, q7, q8⟩ := call2_eq q3
          exact ⟨s_dictzip S q2 q4 q6 q7 q8 (iha.pe X W sc _ S tk c.1) (ihb.pe X W sc _ S tk c.2), rfl⟩
        · cases c
      · cases c
    · cases c
  | nnin i a ih =>
    refine .of (fun X W sc p S tk c => ?_) (fun _ _ => rfl) (nl rfl (fun _ _ h => nomatch h))
    unfold chk at c
    split at c
    · simp only [Bool.and_eq_true, Bool.not_eq_true', decide_eq_true_eq] at c
      obtain ⟨⟨⟨⟨c1, c2⟩, c3⟩, c4⟩, c5⟩ := c
      rename_i pos
      have q := s_nnin (pos := pos) S c1 c2 c3 c5 (ih.pe X W sc _ S tk c4)
      exact ⟨q.1, fun _ _ => q.2⟩
    · cases c
  | nlist i =>
    refine .plain (fun X W sc p S tk c => ?_) (fun _ _ => rfl) (nl rfl (fun _ _ h => nomatch h))
    unfold chk at c
    split at c
    · rename_i y py q
      simp only [Bool.and_eq_true, decide_eq_true_eq] at c
      obtain ⟨⟨c1, c2⟩, c3⟩ := c
      obtain ⟨⟨pp, pos, rfl⟩, q2, q3⟩ := call1_eq q
      exact ⟨s_nlist S q2 c1 c2 c3, rfl⟩
    · cases c
  | nsorted i =>
    refine .plain (fun X W sc p S tk c => ?_) (fun _ _ => rfl) (nl rfl (fun _ _ h => nomatch h))
    unfold chk at c
    split at c
    · rename_i y py q
      simp only [Bool.and_eq_true, decide_eq_true_eq] at c
      obtain ⟨⟨c1, c2⟩, c3⟩ := c
      obtain ⟨⟨pp, pos, rfl⟩, q2, q3⟩ := call1_eq q
      exact ⟨s_nsorted S q2 c1 c2 c3, rfl⟩
    · cases c
  | pop i =>
    refine .plain (fun X W sc p S tk c => ?_) (fun _ _ => rfl) (nl rfl (fun _ _ h => nomatch h))
    unfold chk at c
    split at c
    · rename_i x m q
      simp only [Bool.and_eq_true, decide_eq_true_eq] at c
      obtain ⟨⟨⟨rfl, c1⟩, c2⟩, c3⟩ := c
      obtain ⟨pp, apos, cpos, rfl, hl⟩ := methOf_eq q
      exact ⟨s_pop S c1 c2 c3 hl, rfl⟩
    · cases c
  | append i a ih =>
    refine .plain (fun X W sc p S tk c => ?_) (fun _ _ => rfl) (nl rfl (fun _ _ h => nomatch h))
    unfold chk at c
    split at c
    · rename_i x m y q
      simp only [Bool.and_eq_true, Bool.not_eq_true', decide_eq_true_eq] at c
      obtain ⟨⟨⟨⟨⟨rfl, c1⟩, c2⟩, c3⟩, c4⟩, c5⟩ := c
      obtain ⟨pp, apos, cpos, rfl, hl⟩ := methOf_eq q
      exact ⟨s_append S c1 c2 c3 hl c5 (ih.pe X W sc _ S tk c4), rfl⟩
    · cases c
  | extend i a ih =>
    refine .plain (fun X W sc p S tk c => ?_) (fun _ _ => rfl) (nl rfl (fun _ _ h => nomatch h))
    unfold chk at c
    split at c
    · rename_i x m y q
      simp only [Bool.and_eq_true, Bool.not_eq_true', decide_eq_true_eq] at c
      obtain ⟨⟨⟨⟨⟨rfl, c1⟩, c2⟩, c3⟩, c4⟩, c5⟩ := c
      obtain ⟨pp, apos, cpos, rfl, hl⟩ := methOf_eq q
      exact ⟨s_extend S c1 c2 c3 hl c5 (ih.pe X W sc _ S tk c4), rfl⟩
    · cases c
  | clear i =>
    refine .plain (fun X W sc p S tk c => ?_) (fun _ _ => rfl) (nl rfl (fun _ _ h => nomatch h))
    unfold chk at c
    split at c
    · rename_i x m q
      simp only [Bool.and_eq_true, decide_eq_true_eq] at c
      obtain ⟨⟨⟨rfl, c1⟩, c2⟩, c3⟩ := c
      obtain ⟨pp, apos, cpos, rfl, hl⟩ := methOf_eq q
      exact ⟨s_clear S c1 c2 c3 hl, rfl⟩
    · cases c
  | dpop i a ih =>
    refine .plain (fun X W sc p S tk c => ?_) (fun _ _ => rfl) (nl rfl (fun _ _ h => nomatch h))
    unfold chk at c
    split at c
    · rename_i x m y q
      simp only [Bool.and_eq_true, Bool.not_eq_true', decide_eq_true_eq] at c
      obtain ⟨⟨⟨⟨⟨rfl, c1⟩, c2⟩, c3⟩, c4⟩, c5⟩ := c
      obtain ⟨pp, apos, cpos, rfl, hl⟩ := methOf_eq q
      exact ⟨s_dpop S c1 c2 c3 hl c5 (ih.pe X W sc _ S tk c4), rfl⟩
    · cases c
  | lc elt i it cond fz ihe ihi ihc =>
    refine .plain (fun X W sc p S tk c => ?_) (fun _ _ => rfl) (nl rfl (fun _ _ h => nomatch h))
    unfold chk at c
    split at c
    · rename_i pelt y py piter ifs scope pos
      simp only [Bool.and_eq_true, Bool.not_eq_true', decide_eq_true_eq] at c
      obtain ⟨⟨⟨⟨⟨⟨c1, c2⟩, c3⟩, c4⟩, c5⟩, c6⟩, c7⟩ := c
      refine ⟨s_lc S c1 c2 c3 c6 (ihi.pi X W sc _ _ S tk c5) (fun X' e1 e2 S' => ?_) (fun X' e1 e2 S' => ?_), rfl⟩
      · rw [← e1, ← e2]
        cases ifs with
        | nil => cases cond <;> first | exact s_if0 | (simp [isNilE] at c7; done)
        | cons c0 r0 =>
          cases r0 with
          | nil =>
            simp only [Bool.and_eq_true, Bool.not_eq_true'] at c7
            exact s_if1 c7.1.2 (ihc.pt X' W0 _ _ S' takes0 c7.1.1 c7.2)
          | cons _ _ => cases c7
      · rw [← e1, ← e2]
        exact ihe.pe X' W0 _ _ S' takes0 c4
    · cases c
  | range1 a ih =>
    refine ⟨fun X W sc p S tk c => (by simp [chk] at c), fun X W sc p S tk c => (by simp [chk] at c), fun X W sc p tg S tk c => ?_, fun X W sc ps S tk c => (by rw [nl (e := .range1 a) rfl (fun _ _ h => nomatch h)] at c; cases c), fun X W sc ps S tk c _ => (by rw [nl (e := .range1 a) rfl (fun _ _ h => nomatch h)] at c; cases c)⟩
    unfold chk at c
    rw [Bool.true_and] at c
    split at c
    · rename_i x q
      obtain ⟨⟨pp, pos, rfl⟩, q2, q3⟩ := call1_eq q
      exact s_rng1 S q2 q3 (ih.pe X W sc _ S tk c)
    · cases c
  | range2 a b iha ihb =>
    refine ⟨fun X W sc p S tk c => (by simp [chk] at c), fun X W sc p S tk c => (by simp [chk] at c), fun X W sc p tg S tk c => ?_, fun X W sc ps S tk c => (by rw [nl (e := .range2 a b) rfl (fun _ _ h => nomatch h)] at c; cases c), fun X W sc ps S tk c _ => (by rw [nl (e := .range2 a b) rfl (fun _ _ h => nomatch h)] at c; cases c)⟩
    unfold chk at c
    rw [Bool.true_and] at c
    split at c
    · rename_i x y q
      simp only [Bool.and_eq_true] at c
      obtain ⟨⟨pp, pos, rfl⟩, q2, q3, q4⟩ := call2_eq q
      exact s_rng2 S q2 q3 q4 (iha.pe X W sc _ S tk c.1) (ihb.pe X W sc _ S tk c.2)
    · cases c
  | rev a ih =>
    refine ⟨fun X W sc p S tk c => (by simp [chk] at c), fun X W sc p S tk c => (by simp [chk] at c), fun X W sc p tg S tk c => ?_, fun X W sc ps S tk c => (by rw [nl (e := .rev a) rfl (fun _ _ h => nomatch h)] at c; cases c), fun X W sc ps S tk c _ => (by rw [nl (e := .rev a) rfl (fun _ _ h => nomatch h)] at c; cases c)⟩
    unfold chk at c
    rw [Bool.true_and] at c
    split at c
    · rename_i x q
      obtain ⟨⟨pp, pos, rfl⟩, q2, q3⟩ := call1_eq q
      exact s_rev S q2 q3 (ih.pe X W sc _ S tk c)
    · cases c
  | dpick kvs a ih =>
    refine .plain (fun X W sc p S tk c => ?_) (fun _ _ => rfl) (nl rfl (fun _ _ h => nomatch h))
    unfold chk at c
    split at c
    · simp only [Bool.and_eq_true, Bool.not_eq_true', decide_eq_true_eq] at c
      obtain ⟨⟨⟨⟨c1, c2⟩, c3⟩, c4⟩, c5⟩ := c
      exact ⟨s_dpick S c1 c2 c3 c4 (ih.pe X W sc _ S tk c5), rfl⟩
    · cases c
  | fld i =>
    refine .plain (fun X W sc p S tk c => ?_) (fun _ _ => rfl) (nl rfl (fun _ _ h => nomatch h))
    unfold chk at c
    split at c
    · simp only [Bool.and_eq_true, decide_eq_true_eq] at c
      obtain ⟨⟨⟨⟨c1, c2⟩, c3⟩, rfl⟩, c5⟩ := c
      exact ⟨s_fld S c1 c2 c3 c5, rfl⟩
    · cases c
  | mcall i m es ih =>
    refine .plain (fun X W sc p S tk c => ?_) (fun _ _ => rfl) (nl rfl (fun _ _ h => nomatch h))
    unfold chk at c
    split at c
    · simp only [Bool.and_eq_true, Bool.not_eq_true', decide_eq_true_eq] at c
      obtain ⟨⟨⟨⟨⟨⟨⟨⟨⟨c1, cl⟩, cn⟩, c2⟩, c3⟩, c4⟩, c5⟩, c6⟩, c7⟩, c8⟩ := c
      rename_i args pos
      cases args with
      | nil => cases es <;> first | (simp [isNilE] at c8; done) | (simp [chkL] at c7; done)
      | cons e args => exact ⟨s_mcall S tk c1 c2 c3 c6 c4 c5 cl cn (allStar c7) (ih.pa X W sc _ S tk c7), rfl⟩
    · cases c
end
end DL

set_option Elab.async false
set_option linter.all false
set_option maxRecDepth 100000
/-! D13: statements hold. -/
namespace DL
open PySem L2 PySem.Spec PyProof.Rows

/-- a comprehension on the line of its name; or the name is a cell -/
def lcSw (sc : Scope) (y : Str) (py : Pos) (pe : Expr) : Bool := match pe with
  | .ListComp _ _ scope p2 => (match sc.names.lookup y with
    | some .local => decide (sc.kind = .function) && (py.line == p2.line) && !(scope.names.any fun (n, k) => n == y && (k == .local || k == .cell))
    | some .cell => true
    | _ => false)
  | _ => false
theorem sw_cell {elt : Expr} {gs : List Comprehension} {scope : Scope} {pos py : Pos} {y : Str} {l : Nat} {env : Env} (hy : env.scope.names.lookup y = some .cell) : swapsWith (.ListComp elt gs scope pos) (some (.Name y py)) l env = pure false := by
  have ky : env.kindOf y = some .cell := hy
  have e : (some NameKind.cell == some NameKind.local) = false := by decide
  unfold swapsWith
  simp only [ky, e, Bool.and_false, Bool.false_and]
structure SE (X : Cx) : Prop where
  hp : PassesOwn (model X.prog X.w) X.A X.env X.xe
  fn : ∀ x, X.fn x = true
  st : X.stack = X.env :: X.outer
  fr : X.env.frame = some X.env.locals
/-- what an except suite hands back -/
def sufB : Expr → D → Bool
  | .Constant (.bool b) _ _, .bool c => decide (b = c)
  | .Constant (.str x) _ _, .str y => decide (x = y)
  | .Constant .none _ _, .none => true
  | _, _ => false
def isTrueD : D → Bool
  | .bool true => true
  | _ => false
/-- except x: return constant -/
def chkH (sc : Scope) (cn : List Nat) : List (Nat × D) → List ExceptHandler → Bool
  | [], [] => true
  | (c, d) :: r, h :: hs => (match h with
    | .ExceptHandler (some (.Name x _)) none [.Return (some e) _] _ => decide (x = clsName c) && cn.contains c && gloB sc x && sufB e d
    | _ => false) && chkH sc cn r hs
  | _, _ => false
/-- except x as n: return isinstance(n, ValueError) -/
def chkA (N : List Str) (sc : Scope) (cn : List Nat) (c : Nat) (d : D) : List ExceptHandler → Bool
  | [.ExceptHandler (some (.Name x _)) (some n) [.Return (some (.Call (.Name f _) [.Name n2 _, .Name t _] [] _)) _] _] => decide (x = clsName c) && cn.contains c && gloB sc x && isTrueD d && decide (n2 = n) && decide (f = "isinstance") && decide (t = "ValueError") && gloB sc f && gloB sc t &&
    decide (N.contains n) && decide (sc.names.lookup n = some .local) && okN n
  | _ => false
mutual
/-- the statement st of the model is the small statement -/
def chkS (FN N : List Str) (CN : List Nat) : S → Scope → Stmt → Bool
  | .set i e, sc, st => match st with
    | .Assign [.Name y py] pe _ => decide (N[i]? = some y) && locB sc y && chk FN N e false sc pe && (match e with | .lc _ _ _ _ _ => lcSw sc y py pe | _ => !isComp pe)
    | _ => false
  | .ite t a b, sc, st => match st with | .If c x y _ => chk FN N t false sc c && tstOk c && chkB FN N CN a sc x && chkB FN N CN b sc y | _ => false
  | .whl t b, sc, st => match st with | .While c x [] _ => chk FN N t false sc c && tstOk c && chkB FN N CN b sc x | _ => false
  | .for_ i it b, sc, st => match st with | .For (.Name y _) pe x [] _ => decide (N[i]? = some y) && locB sc y && chk FN N it true sc pe && !isSetE pe && chkB FN N CN b sc x | _ => false
  | .ret e, sc, st => match st with
    | .Return (some pe) _ => chk FN N e false sc pe
    | .Return none _ => isNon e
    | _ => false
  | .expr e, sc, st => match st with | .Expr pe _ => chk FN N e false sc pe && !isComp pe | _ => false
  | .never, _, _ => true
  | .put i k v, sc, st => match st with
    | .Assign [.Subscript (.Name y _) ke _] ve _ => decide (N[i]? = some y) && visB sc y && okN y && chk FN N k false sc ke && !isSlice ke && chk FN N v false sc ve && !isComp ve
    | _ => false
  | .nput i k v, sc, st => match st with
    | .Assign [.Subscript (.Name y _) ke _] ve _ => decide (N[i]? = some y) && visB sc y && okN y && chk FN N k false sc ke && chk FN N v false sc ve && !isComp ve
    | _ => false
  | .raise c, sc, st => match st with
    | .Raise (some (.Call (.Name x _) [.Constant (.str _) _ _] [] _)) none _ => decide (x = clsName c) && CN.contains c && gloB sc x
    | _ => false
  | .try_ cn b hs, sc, st => match st with
    | .Try body (h :: hds) [] [] _ => decide (cn = CN) && chkB FN N CN b sc body && (chkH sc CN hs (h :: hds) || (match hs with | [(c, d)] => chkA N sc CN c d (h :: hds) | _ => false))
    | _ => false
  | .mk i e, sc, st => match st with
    | .Assign [.Name y _] (.Call (.Name c _) [a] [] _) _ => decide (N[i]? = some y) && locB sc y && decide (c = "Walker") && gloB sc c && !isStar a && chk FN N e false sc a && hasM FN
    | _ => false
  | .setT i e, sc, st => match st with
    | .Assign [.Attribute (.Name x _) f _] pe _ => decide (N[i]? = some x) && visB sc x && okN x && decide (f = "term") && hasM FN && chk FN N e false sc pe && !isComp pe
    | _ => false
  | .appT i e, sc, st => match st with
    | .Expr (.Call (.Attribute (.Attribute (.Name x _) f _) m apos) [a] [] cpos) _ => decide (N[i]? = some x) && visB sc x && okN x && decide (f = "taken") && decide (m = "append") && (apos.endLine == cpos.line) && !isStar a && chk FN N e false sc a && hasM FN
    | _ => false
  | .retT i, sc, st => match st with
    | .Return (some (.Attribute (.Name x _) f _)) _ => decide (N[i]? = some x) && visB sc x && okN x && decide (f = "taken") && hasM FN
    | _ => false
  | .skip, _, _ => false
  | .seq _ _, _, _ => false
def chkB (FN N : List Str) (CN : List Nat) : S → Scope → List Stmt → Bool
  | .skip, _, [] => true
  | .seq a r, sc, x :: xs => chkS FN N CN a sc x && chkB FN N CN r sc xs
  | _, _, _ => false
end

variable [Cfg] [Fix]
/-- what is wanted behind a statement's run by values -/
def PoS (P : Program) (w : World) (W : WX) (cls : Cls) (D : Ends) (H0 Z0 Z : Hp) (r : Res Ctl) : Prop := match r with
  | .ok .next g => ∀ σ H' Z', SR P w H0 Z0 g σ H' Z' → Same Z Z' → D.nx σ H'
  | .ok .brk g => ∀ σ H' Z', SR P w H0 Z0 g σ H' Z' → Same Z Z' → D.bk σ H'
  | .ok .cont g => ∀ σ H' Z', SR P w H0 Z0 g σ H' Z' → Same Z Z' → D.ct σ H'
  | .ok (.ret d m) g => ∀ v σ H' Z', SR P w H0 Z0 g σ H' Z' → Hold P w H' Z' v d m → (∀ p, v = .ref p → m ≠ .fr → H0 p = none) → D.rt v H'
  | .exc c g => ∀ σ H' Z', SR P w H0 Z0 g σ H' Z' → Same Z Z' → W (cls c) none σ H'
  | .stuck => False
def tS (P : Program) (w : World) (W : WX) (cls : Cls) (f : Sg → Res Ctl) : TS := fun D σ H => ∃ H0 Z0 g Z, SR P w H0 Z0 g σ H Z ∧ PoS P w W cls D H0 Z0 Z (f g)
section
variable {P : Program} {w : World} {W : WX} {cls : Cls} {D : Ends} {σ : L2.St} {H0 Z0 Z : Hp}
theorem PoS.later {r : Res Ctl} {Z1 : Hp} (h : PoS P w W cls D H0 Z0 Z r) (zz : Same Z Z1) : PoS P w W cls D H0 Z0 Z1 r := by
  unfold PoS at h ⊢
  split at h <;> first
    | exact fun σ H' Z' s z => h σ H' Z' s (zz.trans z)
    | exact h
theorem PoS.bd {α : Type} {r : Res α} {f : α → Sg → Res Ctl} (h : PoS P w W cls D H0 Z0 Z (r.bd f)) : Po P w W cls σ H0 Z0 Z r (fun a g H' Z' => PoS P w W cls D H0 Z0 Z' (f a g)) := by
  cases r with
  | ok a g => exact fun H' Z' sr zz => PoS.later (r := f a g) h zz
  | exc c g => exact fun H' Z' sr zz => h σ H' Z' sr zz
  | stuck => exact h
/-- .. behind a statement -/
theorem PoS.sq {r : Res Ctl} {k : Ctl → Sg → Res Ctl} {D' : Ends} (h : PoS P w W cls D H0 Z0 Z (r.bd k)) (hn : ∀ g, PoS P w W cls D H0 Z0 Z (k .next g) → ∀ σ H' Z', SR P w H0 Z0 g σ H' Z' → Same Z Z' → D'.nx σ H')
    (hb : ∀ g, PoS P w W cls D H0 Z0 Z (k .brk g) → ∀ σ H' Z', SR P w H0 Z0 g σ H' Z' → Same Z Z' → D'.bk σ H') (hc : ∀ g, PoS P w W cls D H0 Z0 Z (k .cont g) → ∀ σ H' Z', SR P w H0 Z0 g σ H' Z' → Same Z Z' → D'.ct σ H')
    (hr : ∀ d m g, k (.ret d m) g = .ok (.ret d m) g) (ht : D'.rt = D.rt) : PoS P w W cls D' H0 Z0 Z r := by
  cases r with
  | ok a g => cases a with
    | next => exact hn g h
    | brk => exact hb g h
    | cont => exact hc g h
    | ret d m =>
      have h' : PoS P w W cls D H0 Z0 Z (k (.ret d m) g) := h
      rw [hr] at h'
      intro v σ' H' Z' t hh hnew
      rw [ht]
      exact h' v σ' H' Z' t hh hnew
  | exc c g => exact h
  | stuck => exact h
end
theorem ps_to {X : Cx} {e : Stmt} {t t' : TS} (h : PS X e t) (i : ∀ D σ H, t' D σ H → t D σ H) : PS X e t' := ⟨fun pins s σ H D I q => h.run pins s σ H D I (i D σ H q)⟩
theorem pss_to {X : Cx} {e : List Stmt} {t t' : TS} (h : PSs X e t) (i : ∀ D σ H, t' D σ H → t D σ H) : PSs X e t' := ⟨fun pins s σ H D I q => h.run pins s σ H D I (i D σ H q)⟩

section
variable {X : Cx} {W : WX} {cls : Cls} {FN N : List Str} {sc : Scope} {k : Nat} {GL : Str → Option D} {C : Orc} {pos : Pos} {L : Nat}
theorem r_never {st : Stmt} : PS X st (tS X.prog X.w W cls (ex GL C L .never)) := ps_to ps_never fun D σ H ⟨_, _, _, _, _, po⟩ => po
theorem r_nil : PSs X [] (tS X.prog X.w W cls (ex GL C L .skip)) := pss_to pss_nil fun D σ H ⟨H0, Z0, g, Z, sr, po⟩ => po σ H Z sr (Same.refl _)
theorem r_cons {a r : S} {x : Stmt} {xs : List Stmt} (ha : PS X x (tS X.prog X.w W cls (ex GL C L a))) (hr : PSs X xs (tS X.prog X.w W cls (ex GL C L r))) : PSs X (x :: xs) (tS X.prog X.w W cls (ex GL C L (.seq a r))) :=
  pss_to (pss_cons ha hr) fun D σ H ⟨H0, Z0, g, Z, sr, po⟩ => by
    rw [ex] at po
    refine ⟨H0, Z0, g, Z, sr, po.sq (fun g1 q σ1 H1 Z1 sr1 zz => ⟨H0, Z0, g1, Z1, sr1, q.later zz⟩) (fun g1 q σ1 H1 Z1 sr1 zz => q σ1 H1 Z1 sr1 zz) (fun g1 q σ1 H1 Z1 sr1 zz => q σ1 H1 Z1 sr1 zz) (fun _ _ _ => rfl) rfl⟩
/-- what name = value leaves -/
theorem set_imp {P : Program} {w : World} {i : Nat} {e : E} {D : Ends} {σ : L2.St} {H : Hp} (h : tS P w W cls (ex GL C L (.set i e)) D σ H) : tE P w W cls (ev GL C e) σ H fun x H1 => gName i x σ H1 D.nx := by
  obtain ⟨H0, Z0, g, Z, sr, po⟩ := h
  rw [ex] at po
  exact ⟨H0, Z0, g, Z, sr, po.bd.mono fun p g1 H1 Z1 sr1 zz q v o => q _ H1 Z1 (sr1.set o i) (Same.refl _)⟩
theorem r_set {i : Nat} {y : Str} {py : Pos} {e : E} {pe : Expr} (S : SC X FN N sc k GL C cls) (hp : SE X) (hi : N[i]? = some y) (hl : Loc sc y) (hc : isComp pe = false) (he : PE X pe (tE X.prog X.w W cls (ev GL C e))) :
    PS X (.Assign [.Name y py] pe pos) (tS X.prog X.w W cls (ex GL C L (.set i e))) := by
  have nd : X.N.Nodup := by rw [S.hN]; exact S.nd
  have hl' : Loc X.env.scope y := by rw [S.sc]; exact hl
  exact ps_to (ps_set nd (by rw [S.hN]; exact hi) hl' he (swaps_no hc) (.inl (hp.fn y))) fun D σ H h => set_imp h
theorem r_if {t : E} {a b : S} {c : Expr} {x y : List Stmt} (ht : PT X c (tT X.prog X.w W cls (ev GL C t))) (ha : PSs X x (tS X.prog X.w W cls (ex GL C L a))) (hb : PSs X y (tS X.prog X.w W cls (ex GL C L b))) :
    PS X (.If c x y pos) (tS X.prog X.w W cls (ex GL C L (.ite t a b))) := ps_to (ps_if ht ha hb) fun D σ H ⟨H0, Z0, g, Z, sr, po⟩ => by
  rw [ex] at po
  refine ⟨H0, Z0, g, Z, sr, po.bd.mono fun p g1 H1 Z1 sr1 zz q => ?_⟩
  split at q
  · rename_i e
    exact ⟨true, e, iteT ⟨H0, Z0, g1, Z1, sr1, q⟩⟩
  · rename_i e
    exact ⟨false, e, iteF ⟨H0, Z0, g1, Z1, sr1, q⟩⟩
  · exact q.elim
theorem r_while {t : E} {b : S} {c : Expr} {x : List Stmt} (hp : SE X) (ht : PT X c (tT X.prog X.w W cls (ev GL C t))) (hb : PSs X x (tS X.prog X.w W cls (ex GL C L b))) :
    PS X (.While c x [] pos) (tS X.prog X.w W cls (ex GL C L (.whl t b))) := ps_to (ps_while hp.hp ht hb) fun D σ H ⟨H0, Z0, g, Z, sr, po⟩ => by
  rw [ex] at po
  refine ⟨fun m σ H => ∃ g Z, SR X.prog X.w H0 Z0 g σ H Z ∧ PoS X.prog X.w W cls D H0 Z0 Z (whlGo (ev GL C t) (ex GL C L b) m g), ⟨L, g, Z, sr, po⟩, ?_⟩
  rintro m σ1 H1 ⟨g1, Z1, sr1, po1⟩
  cases m with
  | zero => exact po1.elim
  | succ n =>
    rw [whlGo] at po1
    refine ⟨H0, Z0, g1, Z1, sr1, po1.bd.mono fun p g2 H2 Z2 sr2 zz q => ?_⟩
    split at q
    · rename_i e
      refine ⟨true, e, iteT ⟨fun σ' H' => ∃ g Z, SR X.prog X.w H0 Z0 g σ' H' Z ∧ PoS X.prog X.w W cls D H0 Z0 Z (whlGo (ev GL C t) (ex GL C L b) n g), fun σ' H' h => ⟨n, Nat.lt_succ_self n, h⟩, H0, Z0, g2, Z2, sr2, ?_⟩⟩
      exact q.sq (fun g3 q3 σ3 H3 Z3 sr3 zz3 => ⟨g3, Z3, sr3, q3.later zz3⟩) (fun g3 q3 σ3 H3 Z3 sr3 zz3 => q3 σ3 H3 Z3 sr3 zz3) (fun g3 q3 σ3 H3 Z3 sr3 zz3 => ⟨g3, Z3, sr3, q3.later zz3⟩) (fun _ _ _ => rfl) rfl
    · rename_i e
      exact ⟨false, e, iteF (q σ1 H2 Z2 sr2 (Same.refl _))⟩
    · exact q.elim
theorem r_for {i : Nat} {y : Str} {py : Pos} {it : E} {b : S} {pe : Expr} {x : List Stmt} (S : SC X FN N sc k GL C cls) (hp : SE X) (hi : N[i]? = some y) (hl : Loc sc y) (hs : isSetE pe = false)
    (hit : PI X (.Name y py) pe (tI X.prog X.w W cls (ev GL C it))) (hb : PSs X x (tS X.prog X.w W cls (ex GL C L b))) : PS X (.For (.Name y py) pe x [] pos) (tS X.prog X.w W cls (ex GL C L (.for_ i it b))) := by
  have nd : X.N.Nodup := by rw [S.hN]; exact S.nd
  have hl' : Loc X.env.scope y := by rw [S.sc]; exact hl
  refine ps_to (ps_for hp.hp S.calm hit (pg_name nd (by rw [S.hN]; exact hi) hl' (.inl (hp.fn y))) hb (set_no hs)) fun D σ H ⟨H0, Z0, g, Z, sr, po⟩ => ?_
  rw [ex] at po
  refine ⟨H0, Z0, g, Z, sr, po.bd.mono fun p g1 H1 Z1 sr1 zz q => ?_⟩
  split at q
  · exact q.elim
  rename_i hm
  split at q
  case h_2 => exact q.elim
  rename_i ds hds
  refine ⟨hm, ds, hds, fun J hJ => ?_⟩
  refine ⟨fun n m σ H => m = ds.length - n ∧ n ≤ ds.length ∧ ∃ g Z, SR X.prog X.w H0 Z0 g σ H Z ∧ Same Z1 Z ∧ PoS X.prog X.w W cls D H0 Z0 Z (forGo (fun d g => ex GL C L b (g.set i (some (d, .fr)))) (ds.drop n) g), ⟨ds.length, by simp, Nat.zero_le _, g1, Z1, sr1, Same.refl _, q⟩, ?_⟩
  rintro n m σ2 H2 ⟨rfl, hn, g2, Z2, sr2, zz2, q2⟩
  by_cases hlt : n < ds.length
  · rw [List.drop_eq_getElem_cons hlt, forGo] at q2
    obtain ⟨j1, j2⟩ := hJ.item n ds[n] H2 (List.getElem?_eq_getElem hlt) (zz2.trans sr2.zh)
    refine .inr ⟨j1, fun σ' H' => ∃ g Z, SR X.prog X.w H0 Z0 g σ' H' Z ∧ Same Z1 Z ∧ PoS X.prog X.w W cls D H0 Z0 Z (forGo (fun d g => ex GL C L b (g.set i (some (d, .fr)))) (ds.drop (n + 1)) g), fun σ' H' h => ⟨ds.length - (n + 1), by omega, rfl, hlt, h⟩, fun x H' yl => ?_⟩
    obtain ⟨rfl, rx⟩ := j2 x H' yl
    refine ⟨H0, Z0, _, Z2, sr2.set (Out.fr (rx.up zz2)) i, ?_⟩
    exact q2.sq (fun g3 q3 σ3 H3 Z3 sr3 zz3 => ⟨g3, Z3, sr3, zz2.trans zz3, q3.later zz3⟩) (fun g3 q3 σ3 H3 Z3 sr3 zz3 => q3 σ3 H3 Z3 sr3 zz3) (fun g3 q3 σ3 H3 Z3 sr3 zz3 => ⟨g3, Z3, sr3, zz2.trans zz3, q3.later zz3⟩) (fun _ _ _ => rfl) rfl
  · have e : n = ds.length := by omega
    subst e
    rw [List.drop_length, forGo] at q2
    exact .inl ⟨hJ.stop _ H2 (zz2.trans sr2.zh) (Nat.le_refl _), q2 σ2 H2 Z2 sr2 (Same.refl _)⟩
theorem r_expr {e : E} {pe : Expr} (hc : isComp pe = false) (he : PE X pe (tE X.prog X.w W cls (ev GL C e))) : PS X (.Expr pe pos) (tS X.prog X.w W cls (ex GL C L (.expr e))) :=
  ps_to (ps_expr he (swaps_no hc)) fun D σ H ⟨H0, Z0, g, Z, sr, po⟩ => by
    rw [ex] at po
    exact ⟨H0, Z0, g, Z, sr, po.bd.mono fun p g1 H1 Z1 sr1 zz q v o => q σ H1 Z1 sr1 (Same.refl _)⟩
theorem r_ret {e : E} {pe : Expr} (S : SC X FN N sc k GL C cls) (hc : chk FN N e false sc pe = true) (he : PE X pe (tE X.prog X.w W cls (ev GL C e))) : PS X (.Return (some pe) pos) (tS X.prog X.w W cls (ex GL C L (.ret e))) := by
  by_cases hv : ∃ i, e = .var i
  · obtain ⟨i, rfl⟩ := hv
    unfold chk at hc
    split at hc
    · rename_i x p
      simp only [Bool.and_eq_true, decide_eq_true_eq] at hc
      obtain ⟨⟨h1, h2⟩, h3⟩ := hc
      obtain ⟨h4, h5⟩ := okN_of h3
      refine ps_to (ps_ret (pe_var (by rw [S.hN]; exact h1) (by rw [S.sc]; exact vis_of h2) h4 h5)) fun D σ H ⟨H0, Z0, g, Z, sr, po⟩ => ?_
      rw [ex, retv] at po
      split at po
      · rename_i d q
        obtain ⟨v, hv, hh⟩ := sr.sl i d .ow q
        exact ⟨v, hv, po v σ H Z sr hh fun p ep hm => sr.own i d .ow v p q hv ⟨hm, .inl ep⟩⟩
      · rename_i d q
        obtain ⟨v, hv, hh⟩ := sr.sl i d .fr q
        exact ⟨v, hv, po v σ H Z sr hh fun p ep hm => absurd rfl hm⟩
      · exact po.elim
    · cases hc
  · refine ps_to (ps_ret he) fun D σ H ⟨H0, Z0, g, Z, sr, po⟩ => ?_
    have e1 : retv GL C e g = ev GL C e g := by
      cases e <;> first | rfl | exact absurd ⟨_, rfl⟩ hv
    rw [ex, e1] at po
    exact ⟨H0, Z0, g, Z, sr, po.bd.mono fun p g1 H1 Z1 sr1 zz q v o => q v σ H1 Z1 sr1 o.hold fun pp ep hm => (o.new pp ⟨hm, .inl ep⟩).1⟩
theorem r_setLc {elt it cond : E} {i j : Nat} {fz : List Nat} {pe : Expr} {z : Str} {pz : Pos} (S : SC X FN N sc k GL C cls) (hp : SE X) (tk : Takes X W) (hj : N[j]? = some z) (hl : Loc sc z) (c : chk FN N (.lc elt i it cond fz) false sc pe = true) (sw : lcSw sc z pz pe = true) :
    PS X (.Assign [.Name z pz] pe pos) (tS X.prog X.w W cls (ex GL C L (.set j (.lc elt i it cond fz)))) := by
  have nd : X.N.Nodup := by rw [S.hN]; exact S.nd
  have c0 := c
  have hl' : Loc X.env.scope z := by rw [S.sc]; exact hl
  unfold chk at c
  split at c
  case h_2 => cases c
  rename_i pelt y py piter ifs scope p2
  unfold lcSw at sw
  simp only at sw
  split at sw
  case h_3 => cases sw
  case h_2 =>
    rename_i hcell
    have hcell' : X.env.scope.names.lookup z = some .cell := by rw [S.sc]; exact hcell
    exact ps_to (ps_set nd (by rw [S.hN]; exact hj) hl' ((good (.lc elt i it cond fz)).pe X W sc _ S tk c0) (sw_cell hcell') (.inl (hp.fn z))) fun D σ H h => set_imp h
  rename_i hloc
  have hl' : X.env.scope.names.lookup z = some .local := by rw [S.sc]; exact hloc
  simp only [Bool.and_eq_true, Bool.not_eq_true', decide_eq_true_eq] at sw
  obtain ⟨⟨w1, w2⟩, w3⟩ := sw
  simp only [Bool.and_eq_true, Bool.not_eq_true', decide_eq_true_eq] at c
  obtain ⟨⟨⟨⟨⟨⟨c1, c2⟩, c3⟩, c4⟩, c5⟩, c6⟩, c7⟩ := c
  have hc : ∀ X', X'.prog = X.prog → X'.w = X.w → SC X' FN N (relS scope sc) k GL C cls → PTs X' ifs (tI1 X.prog X.w W0 cls fun g => iff_ cond (ev GL C cond g) g) := fun X' e1 e2 S' => by
    rw [← e1, ← e2]
    cases ifs with
    | nil => cases cond <;> first | exact s_if0 | (simp [isNilE] at c7; done)
    | cons c0 r0 =>
      cases r0 with
      | nil =>
        simp only [Bool.and_eq_true, Bool.not_eq_true'] at c7
        exact s_if1 c7.1.2 ((good cond).pt X' W0 _ _ S' takes0 c7.1.1 c7.2)
      | cons _ _ => cases c7
  have he : ∀ X', X'.prog = X.prog → X'.w = X.w → SC X' FN N (relS scope sc) k GL C cls → PE X' pelt (tE X.prog X.w W0 cls (ev GL C elt)) := fun X' e1 e2 S' => by
    rw [← e1, ← e2]
    exact (good elt).pe X' W0 _ _ S' takes0 c4
  exact ps_to (ps_setLc (own := [(y, i)]) S.calm nd (by rw [S.hN]; exact hj) hl' (sw_true (by rw [S.sc]; exact w1) hl' w2 w3) ((good it).pi X W _ _ _ S tk c5) (by rw [S.hN, S.sc]; exact blkOk_by c2) (g := gName i)
    (fun s H c cl fp => pg_name nd (by rw [S.hN]; exact c1) (by rw [(S.blk s H scope cl c fp).sc]; exact .inl c3) (.inr (by rw [(S.blk s H scope cl c fp).sc]; exact c3)))
    (fun s H c cl fp => hc _ rfl rfl (S.blk s H scope cl c fp)) (fun s H c cl fp => he _ rfl rfl (S.blk s H scope cl c fp)) (set_no c6)) fun D σ H h => lc_imp y (set_imp h)
theorem r_put {i : Nat} {y : Str} {py p2 : Pos} {k v : E} {ke ve : Expr} {kk : Nat} (S : SC X FN N sc kk GL C cls) (hi : N[i]? = some y) (hv : visB sc y = true) (hx : okN y = true) (hs : isSlice ke = false) (hc : isComp ve = false) (hk : PE X ke (tE X.prog X.w W cls (ev GL C k))) (hv' : PE X ve (tE X.prog X.w W cls (ev GL C v))) :
    PS X (.Assign [.Subscript (.Name y py) ke p2] ve pos) (tS X.prog X.w W cls (ex GL C L (.put i k v))) := by
  obtain ⟨h4, h5⟩ := okN_of hx
  have u1 := room200 S.room
  refine ps_to (ps_dput (by omega) (pe_var (i := i) (by rw [S.hN]; exact hi) (by rw [S.sc]; exact vis_of hv) h4 h5) hk (shared hv') (swaps_no hc)) fun D σ H ⟨H0, Z0, g, Z, sr, po⟩ => ?_
  rw [ex] at po
  refine ⟨H0, Z0, g, Z, sr, po.bd.map fun p g1 hk1 H1 Z1 sr1 zz => ?_⟩
  have po1 := hk1 H1 Z1 sr1 zz
  split at po1
  · exact po1.elim
  rename_i hm
  split at po1
  case isFalse => exact po1.elim
  rename_i hod
  refine ⟨hm, fun u ru => ?_⟩
  obtain ⟨es, q⟩ := ownDD_of hod
  · obtain ⟨b, kvs, hs', hp, zp, rs⟩ := own_dict sr1 q
    refine ⟨.ref b, hs', H0, Z0, g1, Z1, sr1, po1.bd.mono fun p2 g2 H2 Z2 sr2 zz2 po2 w ow => ?_⟩
    split at po2
    · rename_i es2 q2
      split at po2
      case isFalse => exact po2.elim
      rename_i hcond
      obtain ⟨hint, hlen⟩ := hcond
      obtain ⟨d2, m2⟩ := p2
      obtain ⟨j, rfl⟩ := int_key hint
      obtain ⟨b1, kvs1, hs1, hp1, zp1, rs1⟩ := own_dict sr2 q2
      rw [hs'] at hs1
      cases hs1
      rw [ow.hold.int]
      refine ⟨b, _, rfl, DPut.k (k := Sum.inl j) hp1 (by rw [rs1.length]; exact hlen), ?_⟩
      have sr' := sr2.mut (p := b) (o := .dK (putK kvs1 (Sum.inl j) u)) (d' := .dict (putKey es2 (.int j) p.1)) q2 (by decide) hs' (by rw [hp1]; exact fun z => by cases z) (.owd zp1 upd_same (repks_put rs1 j (ru.up zz2)))
      exact po2 σ _ Z2 sr' (Same.refl _)
    · exact po2.elim
theorem r_nput' {i : Nat} {y : Str} {py p2 : Pos} {k v : E} {ke ve : Expr} {kk : Nat} (S : SC X FN N sc kk GL C cls) (hi : N[i]? = some y) (hv : visB sc y = true) (hx : okN y = true) (hc : isComp ve = false) (hk : PE X ke (tE X.prog X.w W cls (ev GL C k))) (hv' : PE X ve (tE X.prog X.w W cls (ev GL C v))) :
    PS X (.Assign [.Subscript (.Name y py) ke p2] ve pos) (tS X.prog X.w W cls (ex GL C L (.nput i k v))) := by
  refine ps_to (r_nput S hi hv hx (swaps_no hc) hk hv') fun D σ H ⟨H0, Z0, g, Z, sr, po⟩ => ?_
  rw [ex] at po
  refine ⟨H0, Z0, g, Z, sr, po.bd.map fun p g1 hk1 H1 Z1 sr1 zz => ?_⟩
  have po1 := hk1 H1 Z1 sr1 zz
  split at po1
  · exact po1.elim
  rename_i hm
  split at po1
  case isFalse => exact po1.elim
  rename_i hod
  refine ⟨hm, fun u ru => ?_⟩
  obtain ⟨es, q⟩ := Option.isSome_iff_exists.mp hod
  obtain ⟨b, xs, hs', zp, hp, lo, nd, rs⟩ := own_nest sr1 q
  refine ⟨.ref b, hs', H0, Z0, g1, Z1, sr1, po1.bd.mono fun p2 g2 H2 Z2 sr2 zz2 po2 w ow => ?_⟩
  split at po2
  · exact po2.elim
  rename_i hm2
  split at po2
  case h_2 => exact po2.elim
  rename_i es2 q2
  split at po2
  case isFalse => exact po2.elim
  rename_i hcond
  obtain ⟨hkey, hlen⟩ := hcond
  obtain ⟨b1, xs1, hs1, zp1, hp1, lo1, nd1, rs1⟩ := own_nest sr2 q2
  rw [hs'] at hs1
  cases hs1
  obtain ⟨a, rfl, rk⟩ := hold_key ow.hold hm2 hkey
  refine ⟨b, rfl, Z2, p2.1, p.1, a, xs1, es2, rfl, sr2.zh, hkey, rk, ru.up zz2, hp1, by rw [rs1.length]; exact hlen, nd1, rs1, fun xs' nd' rs' => ?_⟩
  have sr' := sr2.mut (p := b) (o := .ext (phiN X.prog X.w b xs')) (d' := .dict (putKey es2 p2.1 p.1)) (nestAt_of q2) (by decide) hs' (by rw [hp1]; exact fun z => by cases z) (.on zp1 upd_same lo1 nd' rs')
  exact po2 σ _ Z2 sr' (Same.refl _)
/-! ### errors -/
theorem r_raise {c : Nat} {m : Str} {j : Nat} {p p2 pp : Pos} (S : SC X FN N sc k GL C cls) (tk : Takes X W) (hg : gloB sc (clsName c) = true) (hc : c ∈ cls.on) :
    PS X (.Raise (some (.Call (.Name (clsName c) p) [.Constant (.str m) j p2] [] pp)) none pos) (tS X.prog X.w W cls (ex GL C L (.raise c))) := by
  obtain ⟨A, h⟩ := S.ft.cl c hc
  refine ps_to (ps_raise S.calm tk (pmk_own PySem.F.excBase_ValueError h.ex h.mg h.kp (raises_own h.sub h.ty) (S.gl hg) (glo_of hg).2.1)) fun D σ H ⟨H0, Z0, g, Z, sr, po⟩ => ?_
  rw [ex] at po
  have := po σ H Z sr (Same.refl _)
  rw [h.is] at this
  exact this
theorem suf_rep {e : Expr} {d : D} (h : sufB e d = true) : ∃ v, (∀ Z, Rep Z v d) ∧ ∀ X : Cx, PE X e (tC v) := by
  unfold sufB at h
  split at h
  · have := of_decide_eq_true h; subst this; exact ⟨_, fun _ => .bl _, fun X => pe_bl⟩
  · have := of_decide_eq_true h; subst this; exact ⟨_, fun _ => .str _, fun X => pe_str⟩
  · exact ⟨_, fun _ => .non, fun X => pe_non⟩
  · cases h
theorem isTrueD_of {d : D} (h : isTrueD d = true) : d = .bool true := by
  unfold isTrueD at h
  split at h
  · rfl
  · cases h
theorem PoS.otherW {P : Program} {w : World} {W W' : WX} {D : Ends} {H0 Z0 Z : Hp} {ct : Ctl} {g : Sg} (h : PoS P w W cls D H0 Z0 Z (.ok ct g)) : PoS P w W' cls D H0 Z0 Z (.ok ct g) := by cases ct <;> exact h
theorem catch_yes {c' : Nat} {d : D} {r : List (Nat × D)} {c : Nat} (h : subC c c' = true) : catchD ((c', d) :: r) c = some d := by unfold catchD; simp [h]
theorem catch_no {c' : Nat} {d : D} {r : List (Nat × D)} {c : Nat} (h : subC c c' = false) : catchD ((c', d) :: r) c = catchD r c := by unfold catchD; simp [h]
theorem r_tryM {b : S} {hs : List (Nat × D)} {body : List Stmt} {h : ExceptHandler} {hds : List ExceptHandler} {CN : List Nat} (S : SC X FN N sc k GL C cls) (tk : Takes X W) (hp : SE X) (hcn : cls.on = CN)
    (hb : ∀ (W' : WX) (pn : List (Addr × Obj)) (xe : Value → Shared → Prop), Takes (X.tr pn xe) W' → PassesOwn (model X.prog X.w) X.A X.env xe → PSs (X.tr pn xe) body (tS X.prog X.w W' cls (ex GL C L b)))
    (hh : chkH sc CN hs (h :: hds) = true) : PS X (.Try body (h :: hds) [] [] pos) (tS X.prog X.w W cls (ex GL C L (.try_ CN b hs))) := by
  have mk : ∀ (hs : List (Nat × D)) (hds : List ExceptHandler), chkH sc CN hs hds = true → ∃ l, HdsOk X hds l ∧ ∀ (D : Ends) (c : Nat) (σ : L2.St) (H0 Z0 H' Z' : Hp) (g : Sg), c ∈ cls.on → SR X.prog X.w H0 Z0 g σ H' Z' →
      (match catchD hs c with | some d => PoS X.prog X.w W cls D H0 Z0 Z' (.ok (.ret d .fr) g) | none => PoS X.prog X.w W cls D H0 Z0 Z' (.exc c g)) → wMany X.K W D l (cls c) none σ H' := by
    intro hs
    induction hs with
    | nil =>
      intro hds c
      cases hds with
      | cons _ _ => simp [chkH] at c
      | nil =>
        refine ⟨[], .nil, fun D c σ H0 Z0 H' Z' g hc sr po => ?_⟩
        have po : PoS X.prog X.w W cls D H0 Z0 Z' (.exc c g) := po
        exact po σ H' Z' sr (Same.refl _)
    | cons p r ih =>
      obtain ⟨c0, d0⟩ := p
      intro hds c
      cases hds with
      | nil => simp [chkH] at c
      | cons hd hds =>
        simp only [chkH, Bool.and_eq_true] at c
        obtain ⟨c1, c2⟩ := c
        split at c1
        case h_2 => cases c1
        rename_i x px e pr ph
        simp only [Bool.and_eq_true, decide_eq_true_eq] at c1
        obtain ⟨⟨⟨rfl, k1⟩, k2⟩, k3⟩ := c1
        have hc0 : c0 ∈ cls.on := by rw [hcn]; exact List.contains_iff_mem.mp k1
        obtain ⟨A, hA⟩ := S.ft.cl c0 hc0
        obtain ⟨v, hv, hpe⟩ := suf_rep k3
        obtain ⟨l, hl, hw⟩ := ih hds c2
        refine ⟨(cls c0, fun _ _ _ => fun D σ H => D.rt v H) :: l, .cons ⟨S.gl k2, (glo_of k2).2.1, .inl (by rw [hA.is]; exact hA.mg)⟩ (fun a oe cv dd pn hz hf => pss_to (pss_one (ps_ret (hpe _))) fun D σ H q => q) hl, fun D c σ H0 Z0 H' Z' g hc sr po => ?_⟩
        refine ⟨subC c c0, S.ft.em c hc c0 hc0, fun hb a ha => ?_, fun hb => ?_⟩
        · rw [catch_yes hb] at po
          exact po v σ H' Z' sr (.fr (hv _)) fun p ep hm => absurd rfl hm
        · rw [catch_no hb] at po
          exact hw D c σ H0 Z0 H' Z' g hc sr po
  obtain ⟨l, hl, hw⟩ := mk hs (h :: hds) hh
  refine ps_to (ps_try_many hp.st hp.fr tk hb hl) fun D σ H ⟨H0, Z0, g, Z, sr, po⟩ => ?_
  rw [ex] at po
  refine ⟨H0, Z0, g, Z, sr, ?_⟩
  cases q : ex GL C L b g with
  | ok ct g1 => rw [q] at po; exact PoS.otherW po
  | stuck => rw [q] at po; exact po.elim
  | exc c g1 =>
    rw [q] at po
    dsimp only at po
    split at po
    case isFalse => exact po.elim
    rename_i hc
    have hc : c ∈ cls.on := by rw [hcn]; exact List.contains_iff_mem.mp hc
    intro σ' H' Z' sr' zz
    refine hw D c σ' H0 Z0 H' Z' g1 hc sr' ?_
    cases q2 : catchD hs c with
    | none => rw [q2] at po; exact PoS.later po zz
    | some d => rw [q2] at po; exact PoS.later po zz
theorem r_tryA {b : S} {c0 : Nat} {d0 : D} {body : List Stmt} {h : ExceptHandler} {hds : List ExceptHandler} {CN : List Nat} (S : SC X FN N sc k GL C cls) (tk : Takes X W) (hp : SE X) (hcn : cls.on = CN)
    (hb : ∀ (W' : WX) (pn : List (Addr × Obj)) (xe : Value → Shared → Prop), Takes (X.tr pn xe) W' → PassesOwn (model X.prog X.w) X.A X.env xe → PSs (X.tr pn xe) body (tS X.prog X.w W' cls (ex GL C L b)))
    (hh : chkA N sc CN c0 d0 (h :: hds) = true) : PS X (.Try body (h :: hds) [] [] pos) (tS X.prog X.w W cls (ex GL C L (.try_ CN b [(c0, d0)]))) := by
  unfold chkA at hh
  split at hh
  case h_2 => cases hh
  rename_i x px n f pf n2 pn2 t pt pc pr ph e1
  cases e1
  simp only [Bool.and_eq_true, decide_eq_true_eq] at hh
  obtain ⟨⟨⟨⟨⟨⟨⟨⟨⟨⟨⟨rfl, k1⟩, k2⟩, k0⟩, rfl⟩, rfl⟩, rfl⟩, k3⟩, k4⟩, k5⟩, k6⟩, k7⟩ := hh
  have k0 := isTrueD_of k0
  subst k0
  have hc0 : c0 ∈ cls.on := by rw [hcn]; exact List.contains_iff_mem.mp k1
  obtain ⟨A, hA⟩ := S.ft.cl c0 hc0
  obtain ⟨i, hi⟩ := List.getElem?_of_mem (List.contains_iff_mem.mp k5)
  obtain ⟨h4, h5⟩ := okN_of k7
  have nd : X.N.Nodup := by rw [S.hN]; exact S.nd
  have hi' : X.N[i]? = some n2 := by rw [S.hN]; exact hi
  have hln : X.env.kindOf n2 = some .local := by show X.env.scope.names.lookup n2 = _; rw [S.sc]; exact k6
  have hsuf : ∀ (a : Addr) (oe : Obj) (cv : Value) (d : Option Addr) (pn : List (Addr × Obj)), Zc cv d oe → (∃ vs, oe.data = .fields vs) → PSs (X.suite a ((a, oe) :: pn)) [.Return (some (.Call (.Name "isinstance" pf) [.Name n2 pn2, .Name "ValueError" pt] [] pc)) pr]
      (fun D σ H => (∃ A, cv = .ref A ∧ d = none ∧ ExcC X.K A ∧ PySem.W.kitOne X.K (.ref A) (.type "ValueError") = some true) ∧ (∃ σ0 : L2.St, σ = σ0.set i (some (.ref a))) ∧ D.rt (.bl true) H) := fun a oe cv d pn hz hf => by
    refine ⟨fun pins s σ H D I q => ?_⟩
    obtain ⟨⟨A, rfl, rfl, ec, kit⟩, ⟨σ0, es⟩, q⟩ := q
    have hs : σ[i]? = some (some (.ref a)) := by
      have h1 : σ.length = X.N.length := I.len
      have h2 : i < X.N.length := (List.getElem?_eq_some_iff.mp hi').1
      rw [es] at h1 ⊢
      rw [List.length_set] at h1
      rw [List.getElem?_set_self (by omega)]
    have hgl : ∀ {y : Str}, gloB sc y = true → Gl (X.suite a ((a, oe) :: pn)) y := fun {y} h => S.gl h
    refine (pss_one (ps_ret (pe_callB (call_isE ec hz hf) (hgl k3) (S.ft.bi _ (by decide)) PyProof.Rows.boot_isinstance (pa_cons (pe_var (X := X.suite a ((a, oe) :: pn)) (i := i) hi' (.inl hln) h4 h5) (pa_cons (pe_bltn (v := .ty "ValueError") (u := .type "ValueError") (hgl k4) (S.ft.bi _ (by decide)) (by decide +kernel) rfl) pa_nil))))).run pins s σ H D I ?_
    exact ⟨_, hs, .ty "ValueError", .type "ValueError", true, rfl, fun u r => r, kit, q⟩
  refine ps_to (ps_try_as (i := i) hp.st hp.fr nd hi' hln ⟨S.gl k2, (glo_of k2).2.1, .inl hA.mg⟩ tk hb hsuf) fun D σ H ⟨H0, Z0, g, Z, sr, po⟩ => ?_
  rw [ex] at po
  refine ⟨H0, Z0, g, Z, sr, ?_⟩
  cases q : ex GL C L b g with
  | ok ct g1 => rw [q] at po; exact PoS.otherW po
  | stuck => rw [q] at po; exact po.elim
  | exc c g1 =>
    rw [q] at po
    dsimp only at po
    split at po
    case isFalse => exact po.elim
    rename_i hc
    have hc : c ∈ cls.on := by rw [hcn]; exact List.contains_iff_mem.mp hc
    obtain ⟨B, hB⟩ := S.ft.cl c hc
    intro σ' H' Z' sr' zz
    refine ⟨subC c c0, by rw [← hA.is]; exact S.ft.em c hc c0 hc0, fun hb' a ha => ?_, fun hb' => ?_⟩
    · rw [catch_yes hb'] at po
      exact ⟨⟨B, hB.is, rfl, hB.ec, hB.kit⟩, ⟨σ', rfl⟩, po (.bl true) σ' H' Z' sr' (.fr (.bl true)) fun p ep hm => absurd rfl hm⟩
    · rw [catch_no hb'] at po
      exact po σ' H' Z' sr' zz
/-! ### the walker -/
theorem put_term (v tv u : V) : putF "term" v [(("term" : Str), tv), (("taken" : Str), u)] = [(("term" : Str), v), (("taken" : Str), u)] := by
  show (if ("term" : Str) = "term" then _ else _) = _
  rw [if_pos rfl]
theorem setTD_of {t : D} {st st' : List D} (h : setTD t st = some st') : ∃ t0 ds, st = [t0, .list ds] ∧ st' = [t, .list ds] := by
  unfold setTD at h
  split at h
  · cases h; exact ⟨_, _, rfl, rfl⟩
  · cases h
theorem appTD_of {x : D} {st st' : List D} (h : appTD x st = some st') : ∃ t ds, st = [t, .list ds] ∧ st' = [t, .list (ds ++ [x])] ∧ ds.length < sizeLine := by
  unfold appTD at h
  split at h
  · split at h
    · cases h; exact ⟨_, _, rfl, rfl, by assumption⟩
    · cases h
  · cases h
theorem takD_of {st ds : List D} (h : takD st = some ds) : ∃ t, st = [t, .list ds] := by
  unfold takD at h
  split at h
  · cases h; exact ⟨_, rfl⟩
  · cases h
theorem r_mk {i : Nat} {y : Str} {py p p2 : Pos} {e : E} {a : Expr} (S : SC X FN N sc k GL C cls) (tk : Takes X W) (hp : SE X) (hi : N[i]? = some y) (hl : Loc sc y) (hg : gloB sc "Walker" = true) (hs : isStar a = false) (hm : hasM FN = true) (he : PE X a (tE X.prog X.w W cls (ev GL C e))) :
    PS X (.Assign [.Name y py] (.Call (.Name "Walker" p) [a] [] p2) pos) (tS X.prog X.w W cls (ex GL C L (.mk i e))) := by
  have nd : X.N.Nodup := by rw [S.hN]; exact S.nd
  have hl' : Loc X.env.scope y := by rw [S.sc]; exact hl
  have K := S.ft.wk hm
  by_cases hk : 2 ≤ k
  case neg =>
    refine ⟨fun pins s σ H D I q => ?_⟩
    obtain ⟨H0, Z0, g, Z, sr, po⟩ := q
    exfalso
    rw [ex] at po
    split at po
    · exact po.elim
    · split at po
      · rename_i d m e1
        exact hk (S.ft.ini _ _ _ e1)
      · exact po.elim
  obtain ⟨fI, fd, M, F, hb⟩ := K.mkW
  refine ps_to (ps_set nd (by rw [S.hN]; exact hi) hl' (pe_make (CX := L2.CX X.prog X.w) (E := fun _ _ _ => False) M F (S.room.mono hk) (S.gl hg) K.mgW hb .nil (passes_call tk (fun _ _ _ _ h => h.elim)) (pa_cons (shared he) pa_nil (star_no hs)) (glo_of hg).2.1 (star_no hs) rfl) (swaps_no rfl) (.inl (hp.fn y))) fun D σ H ⟨H0, Z0, g, Z, sr, po⟩ => ?_
  rw [ex] at po
  split at po
  · exact po.elim
  rename_i hi0
  split at po
  case h_2 => exact po.elim
  refine ⟨H0, Z0, g, Z, sr, po.bd.mono fun q g1 H1 Z1 sr1 zz po1 => ?_⟩
  split at po1
  · exact po1.elim
  rename_i hon
  refine ⟨hon, fun v rv x dx hx hdx hne => ⟨x, dx, v, rfl, upd_same, fun l H' hl0 h1 h2 h3 => ⟨rfl, ?_⟩⟩⟩
  have nx : l ≠ x := fun z => by rw [z, upd_same] at hl0; cases hl0
  have ndx : l ≠ dx := fun z => by rw [z, upd_ne hne, upd_same] at hl0; cases hl0
  have hl1 : H1 l = none := by rw [upd_ne nx, upd_ne ndx] at hl0; exact hl0
  have hh : Same H1 H' := fun b u e => h3 b u (by rw [upd_ne (ne_of_none e hx), upd_ne (ne_of_none e hdx)]; exact e) (ne_of_none e hx)
  have t : Tr H1 Z1 H' Z1 := ⟨hh, Same.refl _, sr1.zh.trans hh, fun _ _ => rfl⟩
  have ws : WS H' Z1 x l q.1 [] := .mk (zfree sr1.zh hx) (zfree sr1.zh hl1) (Ne.symm nx) h1 rv h2 .nil
  refine po1 _ H' Z1 ((sr1.tr t).set' (.ob ws) (fun b ab => ?_) i fun h0 => absurd h0 hi0) (Same.refl _)
  have hb1 : H1 b = none := by
    rcases ws.adr ab with rfl | rfl
    · exact hx
    · exact hl1
  refine ⟨Same.free sr1.keep hb1, fun j d' m' v' ej vj aj => ?_⟩
  obtain ⟨v2, hv2, h2'⟩ := sr1.sl j d' m' ej
  rw [vj] at hv2; cases hv2
  obtain ⟨_, u, hu⟩ := h2'.adr (h2'.adr_tr hh aj)
  rw [hb1] at hu; cases hu
theorem r_setT {i : Nat} {x : Str} {p p2 : Pos} {e : E} {pe : Expr} (S : SC X FN N sc k GL C cls) (hi : N[i]? = some x) (hv : visB sc x = true) (hx : okN x = true) (hm : hasM FN = true) (hc : isComp pe = false) (he : PE X pe (tE X.prog X.w W cls (ev GL C e))) :
    PS X (.Assign [.Attribute (.Name x p) "term" p2] pe pos) (tS X.prog X.w W cls (ex GL C L (.setT i e))) := by
  obtain ⟨h4, h5⟩ := okN_of hx
  have K := S.ft.wk hm
  refine ps_to (ps_fld (pe_var (i := i) (by rw [S.hN]; exact hi) (by rw [S.sc]; exact vis_of hv) h4 h5) (shared he) (swaps_no hc)) fun D σ H ⟨H0, Z0, g, Z, sr, po⟩ => ?_
  rw [ex] at po
  refine ⟨H0, Z0, g, Z, sr, po.bd.mono fun r g1 H1 Z1 sr1 zz po1 => ?_⟩
  split at po1
  · exact po1.elim
  rename_i hon
  refine ⟨hon, fun v rv => ?_⟩
  split at po1
  case h_2 => exact po1.elim
  rename_i st' hst
  rw [Option.bind_eq_some_iff] at hst
  obtain ⟨st, ho, hst⟩ := hst
  obtain ⟨q, l, t, ts, hg, hs, est, ws⟩ := obj_of sr1 ho
  obtain ⟨t0, ds, e1, e2⟩ := setTD_of hst
  subst est
  cases e1
  subst e2
  have ws0 := ws
  cases ws with
  | mk z1 z2 n e3 rt el rs =>
    refine ⟨.ref q, hs, q, _, _, _, rfl, e3, K.cl, K.n1, (by show 2 < 1000; decide), ?_⟩
    rw [put_term]
    refine po1 σ _ Z1 (sr1.walk hg hs ws0 ⟨fun b u eb => ?_, Same.refl _, fun b u eb => ?_, fun _ _ => rfl⟩ (by unfold del; rw [if_pos (.inr rfl)]) (.mk z1 z2 n upd_same rv (by rw [upd_ne (Ne.symm n)]; exact el) rs)) (Same.refl _)
    · have hb : b ≠ q := fun z => by rw [z] at eb; unfold del at eb; rw [if_pos (.inl rfl)] at eb; cases eb
      rw [upd_ne hb]
      unfold del at eb
      split at eb
      · cases eb
      · exact eb
    · rw [upd_ne (ne_of_none eb z1)]; exact sr1.zh b u eb
theorem r_appT {i : Nat} {x : Str} {p p2 apos cpos : Pos} {e : E} {a : Expr} (S : SC X FN N sc k GL C cls) (hi : N[i]? = some x) (hv : visB sc x = true) (hx : okN x = true) (hm : hasM FN = true) (hl : (apos.endLine == cpos.line) = true) (hs : isStar a = false) (he : PE X a (tE X.prog X.w W cls (ev GL C e))) :
    PS X (.Expr (.Call (.Attribute (.Attribute (.Name x p) "taken" p2) "append" apos) [a] [] cpos) pos) (tS X.prog X.w W cls (ex GL C L (.appT i e))) := by
  obtain ⟨h4, h5⟩ := okN_of hx
  have K := S.ft.wk hm
  refine ps_to (ps_expr (pe_bm PySem.F.plainAttrs_list PySem.F.slot_list_append PySem.F.type_list_append mt_append (pe_fld (pe_var (i := i) (by rw [S.hN]; exact hi) (by rw [S.sc]; exact vis_of hv) h4 h5) rfl) (pa_cons (shared he) pa_nil (star_no hs)) rfl (few1 hs) hl (star_no hs) rfl) (swaps_no rfl)) fun D σ H ⟨H0, Z0, g, Z, sr, po⟩ => ?_
  rw [ex] at po
  cases hev : ev GL C e (hide g) with
  | exc c g' => rw [hev] at po; exact po.elim
  | stuck => rw [hev] at po; exact po.elim
  | ok r g' =>
    rw [hev] at po
    dsimp only at po
    split at po
    · exact po.elim
    rename_i hon
    split at po
    case h_2 => exact po.elim
    rename_i st' hst
    rw [Option.bind_eq_some_iff] at hst
    obtain ⟨st, ho, hst⟩ := hst
    obtain ⟨q, l, t, ts, hg, hs', est, ws⟩ := obj_of sr ho
    obtain ⟨t0, ds, e1, e2, hz⟩ := appTD_of hst
    subst est
    cases e1
    subst e2
    have ws0 := ws
    cases ws with
    | mk z1 z2 n e3 rt el rs =>
      refine ⟨.ref q, hs', q, _, _, _, _, rfl, e3, K.cl, K.n2, lk_taken _ _, .inl ⟨rfl, _, .of el⟩, H, Z, hide g, Z, sr.block, ?_⟩
      rw [hev]
      intro H' Z' sr' zz
      refine ⟨hon, fun v rv => ?_⟩
      have tr := sr'.toTr
      have z1' : Z' q = none := by rw [tr.old q (by rw [e3]; exact fun z => by cases z)]; exact z1
      have z2' : Z' l = none := by rw [tr.old l (by rw [el]; exact fun z => by cases z)]; exact z2
      have el' := tr.hh _ _ el
      have e3' := tr.hh _ _ e3
      have sr2 := sr.tr tr
      have ws2 : WS H' Z' q l t ts := .mk z1' z2' n e3' (rt.up tr.zz) el' (rs.up tr.zz)
      refine ⟨l, _, v, rfl, rfl, el', by rw [rs.length]; exact hz, ?_⟩
      refine po σ _ Z' (sr2.walk hg hs' ws2 ⟨fun b u eb => ?_, Same.refl _, fun b u eb => ?_, fun _ _ => rfl⟩ (by unfold del; rw [if_pos (.inr rfl)]) (.mk z1' z2' n (by rw [upd_ne n]; exact e3') (rt.up tr.zz) upd_same ((rs.up tr.zz).append (.cons rv .nil)))) tr.zz
      · have hb : b ≠ l := fun z => by rw [z] at eb; unfold del at eb; rw [if_pos (.inr rfl)] at eb; cases eb
        rw [upd_ne hb]
        unfold del at eb
        split at eb
        · cases eb
        · exact eb
      · rw [upd_ne (ne_of_none eb z2')]; exact tr.zh b u eb
theorem r_retT {i : Nat} {x : Str} {p p2 : Pos} (S : SC X FN N sc k GL C cls) (hi : N[i]? = some x) (hv : visB sc x = true) (hx : okN x = true) (hm : hasM FN = true) :
    PS X (.Return (some (.Attribute (.Name x p) "taken" p2)) pos) (tS X.prog X.w W cls (ex GL C L (.retT i))) := by
  obtain ⟨h4, h5⟩ := okN_of hx
  have K := S.ft.wk hm
  refine ps_to (ps_ret (pe_fld (pe_var (i := i) (by rw [S.hN]; exact hi) (by rw [S.sc]; exact vis_of hv) h4 h5) rfl)) fun D σ H ⟨H0, Z0, g, Z, sr, po⟩ => ?_
  rw [ex] at po
  split at po
  case h_2 => exact po.elim
  rename_i ds' hst
  rw [Option.bind_eq_some_iff] at hst
  obtain ⟨st, ho, hst⟩ := hst
  obtain ⟨q, l, t, ts, hg, hs', est, ws⟩ := obj_of sr ho
  obtain ⟨t0, e1⟩ := takD_of hst
  subst est
  cases e1
  have ws0 := ws
  cases ws with
  | mk z1 z2 n e3 rt el rs =>
    refine ⟨.ref q, hs', q, _, _, _, _, rfl, e3, K.cl, K.n2, lk_taken _ _, ?_⟩
    exact po (.ref l) σ H Z (sr.none_at i) (.owl z2 el rs) fun b eb _ => by
      cases eb
      exact sr.own i _ .on (.ref q) l hg hs' ws0.adr2
structure GoodS (FN N : List Str) (CN : List Nat) (k : Nat) (GL : Str → Option D) (C : Orc) (cls : Cls) (L : Nat) (s : S) : Prop where
  one : ∀ (X : Cx) (W : WX) (sc : Scope) (st : Stmt), SC X FN N sc k GL C cls → Takes X W → SE X → chkS FN N CN s sc st = true → PS X st (tS X.prog X.w W cls (ex GL C L s))
  all : ∀ (X : Cx) (W : WX) (sc : Scope) (st : List Stmt), SC X FN N sc k GL C cls → Takes X W → SE X → chkB FN N CN s sc st = true → PSs X st (tS X.prog X.w W cls (ex GL C L s))
theorem GoodS.of {CN : List Nat} {s : S} (h : ∀ (X : Cx) (W : WX) (sc : Scope) (st : Stmt), SC X FN N sc k GL C cls → Takes X W → SE X → chkS FN N CN s sc st = true → PS X st (tS X.prog X.w W cls (ex GL C L s)))
    (hn : ∀ sc st, chkB FN N CN s sc st = false) : GoodS FN N CN k GL C cls L s := ⟨h, fun X W sc st S tk hp c => by rw [hn] at c; cases c⟩
theorem goodS {CN : List Nat} (hcn : cls.on = CN) : ∀ s : S, GoodS FN N CN k GL C cls L s := by
  intro s
  induction s with
  | skip => exact ⟨fun X W sc st S tk hp c => by simp [chkS] at c, fun X W sc st S tk hp c => by
      cases st with
      | nil => exact r_nil
      | cons _ _ => simp [chkB] at c⟩
  | seq a r iha ihr => exact ⟨fun X W sc st S tk hp c => by simp [chkS] at c, fun X W sc st S tk hp c => by
      cases st with
      | nil => simp [chkB] at c
      | cons x xs =>
        simp only [chkB, Bool.and_eq_true] at c
        exact r_cons (iha.one X W sc x S tk hp c.1) (ihr.all X W sc xs S tk hp c.2)⟩
  | set i e =>
    refine .of (fun X W sc st S tk hp c => ?_) (fun sc st => by cases st <;> simp [chkB])
    unfold chkS at c
    split at c
    · rename_i y py pe pos
      simp only [Bool.and_eq_true, decide_eq_true_eq] at c
      obtain ⟨⟨⟨c1, c2⟩, c3⟩, c4⟩ := c
      split at c4
      · exact r_setLc S hp tk c1 (loc_of c2) c3 c4
      · simp only [Bool.not_eq_true'] at c4
        exact r_set S hp c1 (loc_of c2) c4 ((good _).pe X W sc pe S tk c3)
    · cases c
  | put i k v =>
    refine .of (fun X W sc st S tk hp c => ?_) (fun sc st => by cases st <;> simp [chkB])
    unfold chkS at c
    split at c
    · simp only [Bool.and_eq_true, Bool.not_eq_true', decide_eq_true_eq] at c
      obtain ⟨⟨⟨⟨⟨⟨c1, c2⟩, c3⟩, c4⟩, c5⟩, c6⟩, c7⟩ := c
      exact r_put S c1 c2 c3 c5 c7 ((good k).pe X W sc _ S tk c4) ((good v).pe X W sc _ S tk c6)
    · cases c
  | nput i k v =>
    refine .of (fun X W sc st S tk hp c => ?_) (fun sc st => by cases st <;> simp [chkB])
    unfold chkS at c
    split at c
    · simp only [Bool.and_eq_true, Bool.not_eq_true', decide_eq_true_eq] at c
      obtain ⟨⟨⟨⟨⟨c1, c2⟩, c3⟩, c4⟩, c6⟩, c7⟩ := c
      exact r_nput' S c1 c2 c3 c7 ((good k).pe X W sc _ S tk c4) ((good v).pe X W sc _ S tk c6)
    · cases c
  | ite t a b iha ihb =>
    refine .of (fun X W sc st S tk hp c => ?_) (fun sc st => by cases st <;> simp [chkB])
    unfold chkS at c
    split at c
    · simp only [Bool.and_eq_true] at c
      obtain ⟨⟨⟨c1, c2⟩, c3⟩, c4⟩ := c
      exact r_if ((good t).pt X W sc _ S tk c1 c2) (iha.all X W sc _ S tk hp c3) (ihb.all X W sc _ S tk hp c4)
    · cases c
  | whl t b ihb =>
    refine .of (fun X W sc st S tk hp c => ?_) (fun sc st => by cases st <;> simp [chkB])
    unfold chkS at c
    split at c
    · simp only [Bool.and_eq_true] at c
      obtain ⟨⟨c1, c2⟩, c3⟩ := c
      exact r_while hp ((good t).pt X W sc _ S tk c1 c2) (ihb.all X W sc _ S tk hp c3)
    · cases c
  | for_ i it b ihb =>
    refine .of (fun X W sc st S tk hp c => ?_) (fun sc st => by cases st <;> simp [chkB])
    unfold chkS at c
    split at c
    · simp only [Bool.and_eq_true, Bool.not_eq_true', decide_eq_true_eq] at c
      obtain ⟨⟨⟨⟨c1, c2⟩, c3⟩, c4⟩, c5⟩ := c
      exact r_for S hp c1 (loc_of c2) c4 ((good it).pi X W sc _ _ S tk c3) (ihb.all X W sc _ S tk hp c5)
    · cases c
  | ret e =>
    refine .of (fun X W sc st S tk hp c => ?_) (fun sc st => by cases st <;> simp [chkB])
    unfold chkS at c
    split at c
    · exact r_ret S c ((good e).pe X W sc _ S tk c)
    · have : e = .non := by cases e <;> first | rfl | cases c
      subst this
      refine ps_to ps_retN fun D σ H ⟨H0, Z0, g, Z, sr, po⟩ => ?_
      rw [ex] at po
      exact po .non σ H Z sr (.fr .non) fun p ep hm => absurd rfl hm
    · cases c
  | expr e =>
    refine .of (fun X W sc st S tk hp c => ?_) (fun sc st => by cases st <;> simp [chkB])
    unfold chkS at c
    split at c
    · simp only [Bool.and_eq_true, Bool.not_eq_true'] at c
      exact r_expr c.2 ((good e).pe X W sc _ S tk c.1)
    · cases c
  | raise c0 =>
    refine .of (fun X W sc st S tk hp c => ?_) (fun sc st => by cases st <;> simp [chkB])
    unfold chkS at c
    split at c
    · simp only [Bool.and_eq_true, decide_eq_true_eq] at c
      obtain ⟨⟨rfl, c2⟩, c3⟩ := c
      exact r_raise S tk c3 (by rw [hcn]; exact List.contains_iff_mem.mp c2)
    · cases c
  | try_ cn b hs ihb =>
    refine .of (fun X W sc st S tk hp c => ?_) (fun sc st => by cases st <;> simp [chkB])
    unfold chkS at c
    split at c
    · simp only [Bool.and_eq_true, Bool.or_eq_true, decide_eq_true_eq] at c
      obtain ⟨⟨rfl, c2⟩, c3⟩ := c
      rename_i body h hds pos
      have hb : ∀ (W' : WX) (pn : List (Addr × Obj)) (xe : Value → Shared → Prop), Takes (X.tr pn xe) W' → PassesOwn (model X.prog X.w) X.A X.env xe → PSs (X.tr pn xe) body (tS X.prog X.w W' cls (ex GL C L b)) := fun W' pn xe tk' po =>
        ihb.all (X.tr pn xe) W' sc body ⟨S.hN, S.nd, S.sc, S.calm, S.room, S.ft⟩ tk' ⟨po, hp.fn, hp.st, hp.fr⟩ c2
      rcases c3 with c3 | c3
      · exact r_tryM S tk hp hcn hb c3
      · split at c3
        · exact r_tryA S tk hp hcn hb c3
        · cases c3
    · cases c
  | never => exact .of (fun X W sc st S tk hp c => r_never) (fun sc st => by cases st <;> simp [chkB])
  | mk i e =>
    refine .of (fun X W sc st S tk hp c => ?_) (fun sc st => by cases st <;> simp [chkB])
    unfold chkS at c
    split at c
    · simp only [Bool.and_eq_true, Bool.not_eq_true', decide_eq_true_eq] at c
      obtain ⟨⟨⟨⟨⟨⟨c1, c2⟩, rfl⟩, c4⟩, c5⟩, c6⟩, c7⟩ := c
      exact r_mk S tk hp c1 (loc_of c2) c4 c5 c7 ((good e).pe X W sc _ S tk c6)
    · cases c
  | setT i e =>
    refine .of (fun X W sc st S tk hp c => ?_) (fun sc st => by cases st <;> simp [chkB])
    unfold chkS at c
    split at c
    · simp only [Bool.and_eq_true, Bool.not_eq_true', decide_eq_true_eq] at c
      obtain ⟨⟨⟨⟨⟨⟨c1, c2⟩, c3⟩, rfl⟩, c5⟩, c6⟩, c7⟩ := c
      exact r_setT S c1 c2 c3 c5 c7 ((good e).pe X W sc _ S tk c6)
    · cases c
  | appT i e =>
    refine .of (fun X W sc st S tk hp c => ?_) (fun sc st => by cases st <;> simp [chkB])
    unfold chkS at c
    split at c
    · simp only [Bool.and_eq_true, Bool.not_eq_true', decide_eq_true_eq] at c
      obtain ⟨⟨⟨⟨⟨⟨⟨⟨c1, c2⟩, c3⟩, rfl⟩, rfl⟩, c6⟩, c7⟩, c8⟩, c9⟩ := c
      exact r_appT S c1 c2 c3 c9 c6 c7 ((good e).pe X W sc _ S tk c8)
    · cases c
  | retT i =>
    refine .of (fun X W sc st S tk hp c => ?_) (fun sc st => by cases st <;> simp [chkB])
    unfold chkS at c
    split at c
    · simp only [Bool.and_eq_true, Bool.not_eq_true', decide_eq_true_eq] at c
      obtain ⟨⟨⟨⟨c1, c2⟩, c3⟩, rfl⟩, c5⟩ := c
      exact r_retT S c1 c2 c3 c5
    · cases c
end
end DL

set_option Elab.async false
set_option linter.all false
set_option maxRecDepth 100000
/-! D25: a def that clears what it was told (the law's own asked, k10). -/
namespace DL
open PySem L2 PySem.Spec PyProof.Rows
/-! ### the part that is no dict -/
def nod (Z : Hp) : Hp := fun b => match Z b with
  | some (.dK _) => none
  | o => o
theorem nod_some {Z : Hp} {b : Addr} {o : HO} (h : nod Z b = some o) : Z b = some o ∧ ∀ kvs, o ≠ .dK kvs := by
  unfold nod at h
  split at h
  · cases h
  · rename_i hn
    refine ⟨h, fun kvs e => ?_⟩
    subst e
    exact hn _ h
theorem nod_same (Z : Hp) : Same (nod Z) Z := fun b o h => (nod_some h).1
theorem nod_at {Z : Hp} {b : Addr} {o : HO} (h : Z b = some o) (hn : ∀ kvs, o ≠ .dK kvs) : nod Z b = some o := by
  unfold nod
  split
  · rename_i q
    rw [h] at q
    cases q
    exact absurd rfl (hn _)
  · exact h
/-- Z' has all of Z that is no dict -/
def Nod (Z Z' : Hp) : Prop := ∀ a o, Z a = some o → (∀ kvs, o ≠ .dK kvs) → Z' a = some o
theorem Rd.nod {Z Z' : Hp} (h : Nod Z Z') {a : Addr} {xs : List V} (r : Rd Z a (.lst xs)) : Rd Z' a (.lst xs) := by
  rcases r with r | ⟨o, r⟩
  · exact .inl (h _ _ r (fun _ e => by cases e))
  · exact .inr ⟨o, h _ _ r (fun _ e => by cases e)⟩
mutual
theorem Rep.nod {Z Z' : Hp} (h : Nod Z Z') : ∀ (d : D) (v : V), ndD d = true → Rep Z v d → Rep Z' v d
  | .none, _, _, r => by cases r; exact .non
  | .bool b, _, _, r => by cases r; exact .bl b
  | .int i, _, _, r => by cases r; exact .int i
  | .str x, _, _, r => by cases r; exact .str x
  | .list ds, _, n, r => by cases r with | lst a b => exact .lst (Rd.nod h a) (Reps.nod h ds _ (by simpa [ndD] using n) b)
  | .tuple ds, _, n, r => by cases r with | tup a b => exact .tup (h _ _ a (fun _ e => by cases e)) (Reps.nod h ds _ (by simpa [ndD] using n) b)
  | .dict es, _, n, r => by simp [ndD] at n
theorem Reps.nod {Z Z' : Hp} (h : Nod Z Z') : ∀ (ds : List D) (vs : List V), ndL ds = true → Reps Z vs ds → Reps Z' vs ds
  | [], _, _, r => by cases r; exact .nil
  | d :: ds, _, n, r => by
    simp only [ndL, Bool.and_eq_true] at n
    cases r with | cons a b => exact .cons (Rep.nod h d _ n.1 a) (Reps.nod h ds _ n.2 b)
end
/-- .. without what stands at p -/
def cut (p : Addr) (Z : Hp) : Hp := fun b => if b = p then none else nod Z b
theorem cut_same (p : Addr) (Z : Hp) : Same (cut p Z) Z := fun b o h => by
  unfold cut at h
  split at h
  · cases h
  · exact nod_same Z b o h
theorem cut_p (p : Addr) (Z : Hp) : cut p Z p = none := if_pos rfl
theorem cut_at {Z : Hp} {p b : Addr} {o : HO} (h : Z b = some o) (hn : ∀ kvs, o ≠ .dK kvs) (hp : b ≠ p) : cut p Z b = some o := by
  unfold cut
  rw [if_neg hp]
  exact nod_at h hn
section
variable {Z : Hp} {p q : Addr} {vs : List V} {kvs : List (Key × V)}
mutual
theorem Rep.cut (hp : Z p = some (.lst (.ref q :: vs))) (hq : Z q = some (.dK kvs)) : ∀ (d : D) (v : V), ndD d = true → Rep Z v d → Rep (cut p Z) v d
  | .none, _, _, r => by cases r; exact .non
  | .bool b, _, _, r => by cases r; exact .bl b
  | .int i, _, _, r => by cases r; exact .int i
  | .str x, _, _, r => by cases r; exact .str x
  | .list ds, _, n, r => by
    have n : ndL ds = true := by simpa [ndD] using n
    cases r with
    | @lst a xs _ ra rs =>
      have hne : a ≠ p := by
        rintro rfl
        have ex : xs = .ref q :: vs := by
          rcases ra with ra | ⟨o, ra⟩
          · rw [hp] at ra; cases ra; rfl
          · rw [hp] at ra; cases ra
        subst ex
        cases rs with
        | @cons _ d0 _ ds0 r0 _ =>
          simp only [ndL, Bool.and_eq_true] at n
          cases r0 with
          | lst x _ =>
            rcases x with x | ⟨o, x⟩
            · rw [hq] at x; cases x
            · rw [hq] at x; cases x
          | tup x _ => rw [hq] at x; cases x
          | dic x _ => simp [ndD] at n
      refine .lst ?_ (Reps.cut hp hq ds _ n rs)
      rcases ra with ra | ⟨o, ra⟩
      · exact .inl (cut_at ra (fun _ e => by cases e) hne)
      · exact .inr ⟨o, cut_at ra (fun _ e => by cases e) hne⟩
  | .tuple ds, _, n, r => by
    cases r with
    | @tup a xs _ ra rs =>
      have hne : a ≠ p := by
        rintro rfl
        rw [hp] at ra; cases ra
      exact .tup (cut_at ra (fun _ e => by cases e) hne) (Reps.cut hp hq ds _ (by simpa [ndD] using n) rs)
  | .dict es, _, n, r => by simp [ndD] at n
theorem Reps.cut (hp : Z p = some (.lst (.ref q :: vs))) (hq : Z q = some (.dK kvs)) : ∀ (ds : List D) (us : List V), ndL ds = true → Reps Z us ds → Reps (cut p Z) us ds
  | [], _, _, r => by cases r; exact .nil
  | d :: ds, _, n, r => by
    simp only [ndL, Bool.and_eq_true] at n
    cases r with | cons a b => exact .cons (Rep.cut hp hq d _ n.1 a) (Reps.cut hp hq ds _ n.2 b)
end
end
theorem startG_get {ns : Nat} {ds : List D} {i : Nat} {d : D} {m : Md} (h : (startG ns ds)[i]? = some (some (d, m))) : m = .fr ∧ ds[i]? = some d := by
  unfold startG at h
  by_cases hi : i < ds.length
  · rw [List.getElem?_append_left (by simpa using hi), List.getElem?_map] at h
    cases e : ds[i]? with
    | none => rw [e] at h; cases h
    | some d' => rw [e] at h; cases h; exact ⟨rfl, rfl⟩
  · rw [List.getElem?_append_right (by simpa using hi), List.getElem?_replicate] at h
    split at h <;> cases h
theorem start_get {N : List Str} {vs : List V} {i : Nat} {v : V} (h : vs[i]? = some v) : (L2.start N vs)[i]? = some (some v) := by
  have hi : i < vs.length := (List.getElem?_eq_some_iff.mp h).1
  unfold L2.start
  rw [List.getElem?_append_left (by simpa using hi), List.getElem?_map, h]
  rfl
theorem sr_start [Cfg] [Fix] (hfx : Fix.fx = none) {P : Program} {w : World} {H Z : Hp} {N : List Str} {vs : List V} {ds : List D} (zh : Same Z H) (r : Reps Z vs ds) (hl : vs.length ≤ N.length) : SR P w H Z (startG N.length ds) (L2.start N vs) H Z := by
  refine ⟨zh, Same.refl _, fun _ _ => rfl, Same.refl _, ?_, fun i d m h => ?_, fun i d m v b h hv a => ?_, fun i j d d' m m' v v' b h h' hv hv' a a' => ?_, fun p xs v hp => by rw [hfx] at hp; cases hp⟩
  · unfold startG L2.start
    simp [r.length]
  · obtain ⟨rfl, h1⟩ := startG_get h
    obtain ⟨v, h2, h3⟩ := r.get h1
    exact ⟨v, start_get h2, .fr h3⟩
  · exact absurd (startG_get h).1 a.1
  · exact absurd (startG_get h).1 a.1
/-! ### the def -/
def eF : E := .call "fillings" (.cons (.var 0) (.cons (.var 1) .nil))
def eN : E := .not_ (.isi (.var 3) .list)
def eR : E := .call "_law_rows" (.cons (.var 3) (.cons (.var 2) .nil))
/-- its text: told, asked whether it is a list, rows, each dict cleared, the list cleared, the rows handed back -/
def askB (FN N : List Str) (CN : List Nat) (sc : Scope) (st : List Stmt) : Bool := match st with
  | [.Assign [.Name a _] p1 _, .If c th [] _, .Assign [.Name b _] p3 _,
     .For (.Name k _) (.Call (.Name rg _) [.Call (.Name ln _) [.Name f0 _] [] _] [] _) [.Expr (.Call (.Attribute (.Subscript (.Name f1 _) (.Name k1 _) _) m1 ap1) [] [] cp1) _] [] _,
     .Expr (.Call (.Attribute (.Name f2 _) m2 ap2) [] [] cp2) _, .Return (some (.Name b1 _)) _] =>
    (decide (N[3]? = some a) && locB sc a && chk FN N eF false sc p1 && !isComp p1) && (chk FN N eN false sc c && tstOk c && chkB FN N CN (.seq (.ret .non) .skip) sc th) &&
    (decide (N[4]? = some b) && locB sc b && chk FN N eR false sc p3 && !isComp p3) && (decide (N[5]? = some k) && locB sc k) && (decide (rg = "range") && gloB sc "range" && decide (ln = "len") && gloB sc "len") &&
    (decide (f0 = a) && decide (f1 = a) && decide (f2 = a) && decide (k1 = k) && decide (b1 = b)) && (decide (m1 = "clear") && decide (m2 = "clear")) && (visB sc a && okN a && visB sc k && okN k && visB sc b && okN b) &&
    ((ap1.endLine == cp1.line) && (ap2.endLine == cp2.line))
  | _ => false
theorem dct_items {Z : Hp} : ∀ {us : List V} {xs : List D}, Reps Z us xs → xs.all isDct = true → ∀ v ∈ us, ∃ q kvs, v = .ref q ∧ Z q = some (.dK kvs)
  | [], [], _, _, v, hv => by cases hv
  | [], _ :: _, r, _, _, _ => by cases r
  | _ :: _, [], r, _, _, _ => by cases r
  | u :: us, x :: xs, r, h, v, hv => by
    simp only [List.all_cons, Bool.and_eq_true] at h
    cases r with
    | cons a b =>
      rcases List.mem_cons.mp hv with rfl | hv
      · cases a with
        | dic e _ => exact ⟨_, _, rfl, e⟩
        | _ => simp [isDct] at h
      · exact dct_items b h.2 v hv
/-- the told list is p, its items are dicts that are new; Zr has none of them -/
structure AI (H0 : Hp) (p : Addr) (vs : List V) (Zr H : Hp) : Prop where
  hp : H p = some (.lst vs)
  ds : ∀ v ∈ vs, ∃ q kvs, v = .ref q ∧ H0 q = none ∧ H q = some (.dK kvs) ∧ Zr q = none
  zr : Same Zr H
  keep : Same H0 H
theorem AI.clr {H0 Zr H : Hp} {p : Addr} {vs : List V} (h : AI H0 p vs Zr H) {v : V} (hv : v ∈ vs) : ∃ q kvs, v = .ref q ∧ H q = some (.dK kvs) ∧ AI H0 p vs Zr (upd H q (.dK [])) := by
  obtain ⟨q, kvs, rfl, h1, h2, h3⟩ := h.ds v hv
  refine ⟨q, kvs, rfl, h2, ?_, fun u hu => ?_, fun b o e => ?_, fun b o e => ?_⟩
  · have : p ≠ q := by rintro rfl; rw [h.hp] at h2; cases h2
    rw [upd_ne this]; exact h.hp
  · obtain ⟨q', kvs', e, g1, g2, g3⟩ := h.ds u hu
    by_cases c : q' = q
    · subst c; exact ⟨q', [], e, g1, upd_same, g3⟩
    · exact ⟨q', kvs', e, g1, by rw [upd_ne c]; exact g2, g3⟩
  · rw [upd_ne (ne_of_none e h3)]; exact h.zr b o e
  · rw [upd_ne (ne_of_none e h1)]; exact h.keep b o e
section
variable [Cfg] [Fix] {X : Cx} {W : WX} {cls : Cls} {FN N : List Str} {sc : Scope} {k : Nat} {GL : Str → Option D} {C : Orc} {L : Nat} {CN : List Nat}
theorem ask_run (hfx : Fix.fx = none) (S : SC X FN N sc k GL C cls) (tk : Takes X W) (hp : SE X) (hcn : cls.on = CN) (hN : N.length = 6) {st : List Stmt} (c : askB FN N CN sc st = true) :
    PSs X st (fun EE σ H => ∃ (Z : Hp) (vs : List V) (a b cc : D) (rs : List D), Same Z H ∧ Reps Z vs [a, b, cc] ∧ σ = L2.start N vs ∧ askD C [a, b, cc] = .ok (.list rs) .fr ∧ ∀ v H' Z', Tr H Z H' Z' → Rep Z' v (.list rs) → EE.rt v H') := by
  unfold askB at c
  split at c
  case h_2 => cases c
  rename_i a pa p1 pos1 cnd th pos2 b pb p3 pos3 kk pk rg prg ln pln f0 pf0 pl2 pr2 f1 pf1 k1 pk1 psb m1 ap1 cp1 pe1 pfor f2 pf2 m2 ap2 cp2 pe2 b1 pb1 pret
  simp only [Bool.and_eq_true, Bool.not_eq_true', decide_eq_true_eq] at c
  obtain ⟨⟨⟨⟨⟨⟨⟨⟨⟨⟨⟨ha, la⟩, c1⟩, n1⟩, ⟨c2, t2⟩, c2b⟩, ⟨⟨hb, lb⟩, c3⟩, n3⟩, hk, lk⟩, ⟨⟨rfl, g1⟩, rfl⟩, g2⟩, ⟨⟨⟨rfl, rfl⟩, rfl⟩, rfl⟩, rfl⟩, rfl, rfl⟩, ⟨⟨⟨⟨va, oa⟩, vk⟩, ok⟩, vb⟩, ob⟩, e1, e2⟩ := c
  have nd : X.N.Nodup := by rw [S.hN]; exact S.nd
  have loc : ∀ {y : Str}, locB sc y = true → Loc X.env.scope y := fun h => by rw [S.sc]; exact loc_of h
  have pv : ∀ {i : Nat} {y : Str} {pz : Pos}, N[i]? = some y → visB sc y = true → okN y = true → PE X (.Name y pz) (tVar i) := fun {i y pz} h1 h2 h3 =>
    pe_var (by rw [S.hN]; exact h1) (by rw [S.sc]; exact vis_of h2) (okN_of h3).1 (okN_of h3).2
  have plen : PE X (.Call (.Name "len" pln) [.Name f2 pf0] [] pl2) _ := pe_callB call_len_seq (S.gl g2) (S.ft.bi "len" (by decide)) PySem.boot_len (pa_cons (pv ha va oa) pa_nil)
  refine pss_to (pss_cons (ps_set nd (by rw [S.hN]; exact ha) (loc la) ((good eF).pe X W sc _ S tk c1) (swaps_no n1) (.inl (hp.fn _)))
    (pss_cons (ps_if ((good eN).pt X W sc _ S tk c2 t2) ((goodS hcn (.seq (.ret .non) .skip)).all (L := 0) X W sc _ S tk hp c2b) pss_nil)
    (pss_cons (ps_set nd (by rw [S.hN]; exact hb) (loc lb) ((good eR).pe X W sc _ S tk c3) (swaps_no n3) (.inl (hp.fn _)))
    (pss_cons (ps_for hp.hp S.calm (pi_range1 (S.gl g1) S.bi (pa_cons plen pa_nil)) (pg_name nd (by rw [S.hN]; exact hk) (loc lk) (.inl (hp.fn _)))
        (pss_one (ps_expr (pe_dclear (pe_ix ix_list (pv ha va oa) (pv hk vk ok) (plain_ix rfl)) rfl e1))))
    (pss_cons (ps_expr (pe_bm0 PySem.F.plainAttrs_list PySem.F.slot_list_clear PySem.F.type_list_clear mt_clear (pv ha va oa) rfl e2))
    (pss_one (ps_ret (pv hb vb ob)))))))) fun D σ H ⟨Z, vs, d1, d2, d3, rs, zh, r, hσ, hask, fin⟩ => ?_
  -- the values
  have hd : ndD d1 = true ∧ ndD d2 = true ∧ ndD d3 = true ∧ ∃ xs m, C "fillings" [d1, d2] = .ok (.list xs) .ow ∧ xs.all isDct = true ∧ rngOk (xs.length : Int) = true ∧ C "_law_rows" [.list xs, d3] = .ok (.list rs) m ∧ m ≠ .on ∧ ndL rs = true := by
    unfold askD at hask
    simp only at hask
    split at hask
    case isFalse => cases hask
    rename_i hn
    simp only [Bool.and_eq_true] at hn
    split at hask
    case h_2 => cases hask
    rename_i xs hC1
    split at hask
    case isFalse => cases hask
    rename_i hx
    simp only [Bool.and_eq_true] at hx
    split at hask
    case h_2 => cases hask
    rename_i rs' m hC2
    split at hask
    · cases hask
    rename_i hm
    split at hask
    case isFalse => cases hask
    rename_i hr
    cases hask
    exact ⟨hn.1.1, hn.1.2, hn.2, xs, m, hC1, hx.1, hx.2, hC2, hm, hr⟩
  obtain ⟨nd1, nd2, nd3, xs, m, hC1, hx, hxr, hC2, hm, hrs⟩ := hd
  subst hσ
  have hg0 : startG N.length [d1, d2, d3] = [some (d1, .fr), some (d2, .fr), some (d3, .fr), none, none, none] := by rw [hN]; rfl
  have sr0 := sr_start (P := X.prog) (w := X.w) (N := N) hfx (Same.trans (nod_same Z) zh) (Reps.nod (Z' := nod Z) (fun a o e hn => nod_at e hn) [d1, d2, d3] vs (by simp [ndL, nd1, nd2, nd3]) r) (by rw [r.length, hN]; simp)
  rw [hg0] at sr0
  refine ⟨H, nod Z, _, nod Z, sr0, ?_⟩
  have ex1 : ev GL C eF [some (d1, .fr), some (d2, .fr), some (d3, .fr), none, none, none] = .ok (.list xs, .ow) [some (d1, .fr), some (d2, .fr), some (d3, .fr), none, none, none] := by
    simp [eF, ev, evs, use, Res.bd, hC1]
  rw [ex1]
  intro H1 Z1 sr1 zz1 v1 o1
  have srA := sr1.set o1 3
  have l6 : (L2.start N vs).length = 6 := by rw [← sr0.len]; rfl
  simp only [List.set_cons_zero, List.set_cons_succ] at srA
  -- asked whether it is a list
  refine ⟨H, nod Z, _, Z1, srA, ?_⟩
  have ex2 : ev GL C eN [some (d1, .fr), some (d2, .fr), some (d3, .fr), some (.list xs, .ow), none, none] = .ok (.bool false, .fr) [some (d1, .fr), some (d2, .fr), some (d3, .fr), some (.list xs, .ow), none, none] := by
    simp [eN, ev, opn, Res.bd, Opn.get, ofO, isiD, isObj]
  rw [ex2]
  intro H2 Z2 sr2 zz2
  refine ⟨false, rfl, ?_⟩
  show (if (false : Bool) = true then _ else _)
  rw [if_neg (by decide)]
  -- what slot 3 holds
  obtain ⟨w2, hw2, hold2⟩ := sr2.sl 3 (.list xs) .ow rfl
  have ew : w2 = v1 := by
    rw [List.getElem?_set_self (by omega)] at hw2
    cases hw2; rfl
  subst ew
  obtain ⟨p, us, rfl, zp2, hp2, ru2⟩ : ∃ p us, w2 = .ref p ∧ Z2 p = none ∧ H2 p = some (.lst us) ∧ Reps Z2 us xs := by
    cases hold2 with
    | owl a b c => exact ⟨_, _, rfl, a, b, c⟩
  have hHp : H p = none := sr2.own 3 (.list xs) .ow (.ref p) p rfl hw2 ⟨by decide, .inl rfl⟩
  obtain ⟨w3, Z2', hw3, zz2', sr2', r2⟩ := sr2.use (i := 3) (d := .list xs) (m := .ow) rfl (by decide)
  rw [hw2] at hw3
  cases hw3
  simp only [List.set_cons_zero, List.set_cons_succ] at sr2'
  obtain ⟨zp', ru'⟩ : Z2' p = some (.lst us) ∧ Reps Z2' us xs := by
    cases r2 with
    | @lst _ us' _ ra rs' =>
      rcases ra with ra | ⟨o, ra⟩
      · have := sr2'.zh _ _ ra
        rw [hp2] at this
        cases this
        exact ⟨ra, rs'⟩
      · have := sr2'.zh _ _ ra
        rw [hp2] at this
        cases this
  -- the rows
  refine ⟨H, nod Z, _, Z2', sr2', ?_⟩
  have ex3 : ev GL C eR [some (d1, .fr), some (d2, .fr), some (d3, .fr), some (.list xs, .fr), none, none] = .ok (.list rs, m) [some (d1, .fr), some (d2, .fr), some (d3, .fr), some (.list xs, .fr), none, none] := by
    simp [eR, ev, evs, use, Res.bd, hC2, hm]
  rw [ex3]
  intro H3 Z3 sr3 zz3 u o3
  obtain ⟨Z4, zz4, sr4, r4⟩ := sr3.share o3 hm
  have zp4 : Z4 p = some (.lst us) := zz4 _ _ (zz3 _ _ zp')
  have hp3 : H3 p = some (.lst us) := sr4.zh _ _ zp4
  have ru4 : Reps Z4 us xs := (ru'.up zz3).up zz4
  have items : ∀ v ∈ us, ∃ q kvs, v = .ref q ∧ Z4 q = some (.dK kvs) ∧ H q = none := fun v hv => by
    obtain ⟨q, kvs, e, h⟩ := dct_items ru4 hx v hv
    refine ⟨q, kvs, e, h, ?_⟩
    cases c : H q with
    | none => rfl
    | some o =>
      have := sr4.old q (by rw [c]; exact fun z => by cases z)
      rw [h] at this
      exact absurd rfl ((nod_some this.symm).2 kvs)
  -- what stays shared
  obtain ⟨Zr, ai, rru, hzr, hzp⟩ : ∃ Zr, AI H p us Zr H3 ∧ Rep Zr u (.list rs) ∧ Same Zr Z4 ∧ ∀ H', Same Zr H' → H' p = some (.lst us) → Same Zr (upd H' p (.lst [])) := by
    cases us with
    | nil =>
      refine ⟨nod Z4, ⟨hp3, fun v hv => (by cases hv), Same.trans (nod_same Z4) sr4.zh, sr4.keep⟩, Rep.nod (fun a o e hn => nod_at e hn) _ _ (by simpa [ndD] using hrs) r4, nod_same Z4, fun H' hs hp' b o e => ?_⟩
      by_cases c : b = p
      · subst c
        rw [upd_same]
        have := hs _ _ e
        rw [hp'] at this
        exact this
      · rw [upd_ne c]; exact hs b o e
    | cons v0 us =>
      obtain ⟨q0, kvs0, rfl, hq0, _⟩ := items v0 (by simp)
      refine ⟨cut p Z4, ⟨hp3, fun v hv => ?_, Same.trans (cut_same p Z4) sr4.zh, sr4.keep⟩, Rep.cut zp4 hq0 _ _ (by simpa [ndD] using hrs) r4, cut_same p Z4, fun H' hs hp' b o e => ?_⟩
      · obtain ⟨q, kvs, e, h1, h2⟩ := items v hv
        refine ⟨q, kvs, e, h2, sr4.zh _ _ h1, ?_⟩
        unfold cut
        split
        · rfl
        · unfold nod; rw [h1]
      · have : b ≠ p := by rintro rfl; rw [cut_p] at e; cases e
        rw [upd_ne this]; exact hs b o e
  have l3 : ((L2.start N vs).set 3 (some (.ref p))).length = 6 := by rw [List.length_set]; exact l6
  -- the dicts are cleared
  have s3 : (((L2.start N vs).set 3 (some (.ref p))).set 4 (some u))[3]? = some (some (.ref p)) := by
    rw [List.getElem?_set_ne (by decide)]; exact hw2
  have s4 : (((L2.start N vs).set 3 (some (.ref p))).set 4 (some u))[4]? = some (some u) := List.getElem?_set_self (by omega)
  have l4 : (((L2.start N vs).set 3 (some (.ref p))).set 4 (some u)).length = 6 := by rw [List.length_set]; exact l3
  have hlen : us.length = xs.length := ru4.length
  have hbnd := rngOk_of hxr
  rw [← hlen] at hbnd
  show tSeq _ _ _ (((L2.start N vs).set 3 (some (.ref p))).set 4 (some u)) H3
  generalize ((L2.start N vs).set 3 (some (.ref p))).set 4 (some u) = σ3 at *
  refine ⟨.ref p, s3, p, us, rfl, .inl (.inl (.of hp3)), (us.length : Int), rfl, hbnd.1, hbnd.2, ?_⟩
  refine ⟨fun i m σ H' => m = us.length - i ∧ i ≤ us.length ∧ σ[3]? = some (some (.ref p)) ∧ σ[4]? = some (some u) ∧ σ.length = 6 ∧ AI H p us Zr H', ⟨us.length, by simp, Nat.zero_le _, s3, s4, l4, ai⟩, ?_⟩
  rintro i mm σ H5 ⟨rfl, hi, q3, q4, q6, ai5⟩
  by_cases hlt : i < us.length
  · refine .inr ⟨by show i < (us.length : Int).toNat; omega, fun σ' H' => i + 1 ≤ us.length ∧ σ'[3]? = some (some (.ref p)) ∧ σ'[4]? = some (some u) ∧ σ'.length = 6 ∧ AI H p us Zr H', fun σ' H' h => ⟨us.length - (i + 1), by omega, rfl, h⟩, fun x H' yl => ?_⟩
    obtain ⟨rfl, rfl⟩ := yl
    have hget : us[i]? = some us[i] := List.getElem?_eq_getElem hlt
    obtain ⟨q, kvs, e, hq, ai6⟩ := ai5.clr (List.mem_of_getElem? hget)
    refine ⟨.ref p, by rw [List.getElem?_set_ne (by decide)]; exact q3, .int (0 + (i : Nat)), List.getElem?_set_self (by omega), p, us, 0 + (i : Nat), .ref q, rfl, rfl, .inl (.of ai5.hp), ?_, .inr (.inr (.inl ⟨rfl, .inl ⟨kvs, hq⟩⟩)), q, kvs, rfl, rfl, hq, ?_⟩
    · rw [Int.zero_add, atI_nat hget, e]
    · exact ⟨hlt, by rw [List.getElem?_set_ne (by decide)]; exact q3, by rw [List.getElem?_set_ne (by decide)]; exact q4, by rw [List.length_set]; exact q6, ai6⟩
  · refine .inl ⟨by show (us.length : Int).toNat ≤ i; omega, ?_⟩
    -- the list is cleared, the rows are handed back
    refine ⟨.ref p, q3, .inl ⟨rfl, us, .inl (.of ai5.hp)⟩, p, us, rfl, rfl, ai5.hp, ?_⟩
    refine ⟨u, q4, ?_⟩
    classical
    have hold_ : ∀ b o, Zr b = some o → H b ≠ none → Z b = some o := fun b o e hb => by
      have h1 := hzr b o e
      rw [sr4.old b hb] at h1
      exact nod_same Z b o h1
    have szf : Same Zr (fun b => if H b = none then Zr b else Z b) := fun b o e => by
      by_cases c : H b = none
      · simp only [if_pos c]; exact e
      · simp only [if_neg c]; exact hold_ b o e c
    refine fin u (upd H5 p (.lst [])) (fun b => if H b = none then Zr b else Z b) ⟨fun b o e => ?_, fun b o e => ?_, fun b o e => ?_, fun b hb => if_neg hb⟩ (rru.up szf)
    · rw [upd_ne (ne_of_none e hHp)]; exact ai5.keep b o e
    · have : H b ≠ none := by rw [zh b o e]; exact fun z => by cases z
      simp only [if_neg this]; exact e
    · by_cases c : H b = none
      · simp only [if_pos c] at e
        exact hzp H5 ai5.zr ai5.hp b o e
      · simp only [if_neg c] at e
        have h1 := ai5.keep b o (zh b o e)
        have : b ≠ p := by rintro rfl; exact c hHp
        rw [upd_ne this]; exact h1
end
end DL

set_option Elab.async false
set_option linter.all false
set_option maxRecDepth 100000
/-! D14: defs hold, at every number of calls; the law's end. -/
namespace DL
open PySem L2 PySem.Spec PyProof.Rows

/-- a def: its small text, the names of its slots (the parameters first), its text -/
structure Ent where
  np : Nat
  N : List Str
  body : S
  st : Stmt
  kd : Nat
def Ent.fd (e : Ent) : Fd := ⟨e.np, e.N.length, e.body, e.kd⟩
abbrev Tab := List (Str × Ent)
def tabT (tab : Tab) : Str → Option Fd := fun x => (tab.lookup x).map Ent.fd
def tabN (tab : Tab) : List Str := tab.map (·.1)
/-- its scope is as a def's is -/
def scB (N : List Str) (np : Nat) (sc : Scope) : Bool := decide (sc.kind = .function) && !sc.isCoroutine && !sc.isGenerator && decide N.Nodup && decide (np ≤ N.length) &&
  ((N.take np).all fun x => match sc.names.lookup x with | some .local => true | some .cell => true | _ => false) && (sc.names.all fun y => match y.2 with | .free => false | _ => true)
theorem sc_of {N : List Str} {np : Nat} {sc : Scope} (h : scB N np sc = true) : FnScope N (N.take np) sc := by
  simp only [scB, Bool.and_eq_true, Bool.not_eq_true', decide_eq_true_eq, List.all_eq_true] at h
  obtain ⟨⟨⟨⟨⟨⟨h1, h2⟩, h3⟩, h4⟩, h5⟩, h6⟩, h7⟩ := h
  refine ⟨h1, h2, h3, h4, ?_, fun x hx => ?_, fun y hy e => ?_⟩
  · rw [List.length_take, Nat.min_eq_left h5]
  · have := h6 x hx
    split at this <;> first | exact .inl (by assumption) | exact .inr (by assumption) | cases this
  · have := h7 y hy
    rw [e] at this
    cases this
/-- 0: a def, 1: a method, 2: the class's __init__ -/
def kdOf (x : Str) : Nat := if x = "Walker.__init__" then 2 else if isM x = true then 1 else 0
/-- the text of __init__ -/
def initB (sc : Scope) : List Stmt → Bool
  | [.Assign [.Attribute (.Name a _) f _] (.Name b _) _, .Assign [.Attribute (.Name c _) g _] (.List [] _) _] => decide (a = "self") && decide (f = "term") && decide (b = "term") && decide (c = "self") && decide (g = "taken") && visB sc "self" && visB sc "term"
  | _ => false
def entB (FN : List Str) (CN : List Nat) (x : Str) (e : Ent) : Bool := (decide (e.kd = kdOf x) || (decide (e.kd = 3) && decide (kdOf x = 0))) && scB e.N e.np (defScope e.st) && (if e.kd = 2 then decide (e.N = (["self", "term"] : List Str)) && decide (e.np = 2) && initB (defScope e.st) (defBody e.st) else
  if e.kd = 3 then decide (e.N.length = 6) && decide (e.np = 3) && askB FN e.N CN (defScope e.st) (defBody e.st) else (decide (e.kd = 0) || decide (0 < e.np)) && chkB FN e.N CN e.body (defScope e.st) (defBody e.st))
def tabB (CN : List Nat) (tab : Tab) : Bool := tab.all fun p => entB (tabN tab) CN p.1 p.2
/-- the module's own: each def of the table stands under its name -/
structure FnAt (K : PySem.W.Frag) (mg : Str → Option Value) (x : Str) (e : Ent) (f : Addr) (fd : FuncData) : Prop where
  fn : Fun K x x e.st f fd
  mg : mg x = some (.ref f)
  bd : Binds K fd (e.N.take e.np) []
  z : (e.kd == 0 || e.kd == 3) = true
section
variable [Cfg]
/-- a method -/
structure MtAt (K : PySem.W.Frag) (a x : Str) (e : Ent) (f : Addr) (fd : FuncData) : Prop where
  fn : Fun K a x e.st f fd
  mt : Meth K Cfg.wc a f
  bd : Binds K fd (e.N.take e.np) []
inductive FnsAt (K : PySem.W.Frag) (mg : Str → Option Value) : Tab → Prop
  | nil : FnsAt K mg []
  | cons {x : Str} {e : Ent} {f : Addr} {fd : FuncData} {tab : Tab} : FnAt K mg x e f fd → FnsAt K mg tab → FnsAt K mg ((x, e) :: tab)
  | meth {a x : Str} {e : Ent} {f : Addr} {fd : FuncData} {tab : Tab} : e.kd = 1 → mths.lookup a = some x → MtAt K a x e f fd → FnsAt K mg tab → FnsAt K mg ((x, e) :: tab)
  | init {x : Str} {e : Ent} {tab : Tab} : e.kd = 2 → x = "Walker.__init__" → FnsAt K mg tab → FnsAt K mg ((x, e) :: tab)
theorem FnsAt.get {K : PySem.W.Frag} {mg : Str → Option Value} {tab : Tab} (h : FnsAt K mg tab) {x : Str} {e : Ent} (l : tab.lookup x = some e) (hk : (e.kd == 0 || e.kd == 3) = true) : ∃ f fd, FnAt K mg x e f fd := by
  induction h with
  | nil => cases l
  | cons a _ ih =>
    rw [List.lookup_cons] at l
    split at l
    · rename_i q
      have q := (beq_iff_eq.mp q)
      subst q
      cases l
      exact ⟨_, _, a⟩
    · exact ih l
  | meth k1 _ _ _ ih =>
    rw [List.lookup_cons] at l
    split at l
    · cases l; rw [k1] at hk; simp at hk
    · exact ih l
  | init k1 _ _ ih =>
    rw [List.lookup_cons] at l
    split at l
    · cases l; rw [k1] at hk; simp at hk
    · exact ih l
theorem mths_inj {a b x : Str} (h : mths.lookup a = some x) (h2 : mths.lookup b = some x) : a = b := by
  have h := lk_mem h
  have h2 := lk_mem h2
  have key : ∀ p ∈ mths, ∀ q ∈ mths, p.2 = q.2 → p.1 = q.1 := by decide +kernel
  exact key _ h _ h2 rfl
theorem mths_isM {a x : Str} (h : mths.lookup a = some x) : kdOf x = 1 := by
  have h := lk_mem h
  have key : ∀ p ∈ mths, kdOf p.2 = 1 := by decide +kernel
  exact key _ h
theorem FnsAt.getM {K : PySem.W.Frag} {mg : Str → Option Value} {tab : Tab} (h : FnsAt K mg tab) {a x : Str} {e : Ent} (ha : mths.lookup a = some x) (l : tab.lookup x = some e) (hk : e.kd = 1) : ∃ f fd, MtAt K a x e f fd := by
  induction h with
  | nil => cases l
  | @cons y e' f fd tab A _ ih =>
    rw [List.lookup_cons] at l
    split at l
    · rename_i q
      cases l
      have q := (beq_iff_eq.mp q)
      subst q
      exact absurd A.z (by rw [hk]; decide)
    · exact ih l
  | @meth b y e' f fd tab k1 hb A _ ih =>
    rw [List.lookup_cons] at l
    split at l
    · rename_i q
      have q := (beq_iff_eq.mp q)
      subst q
      cases l
      have := mths_inj ha hb
      subst this
      exact ⟨_, _, A⟩
    · exact ih l
  | init k1 _ _ ih =>
    rw [List.lookup_cons] at l
    split at l
    · cases l; rw [k1] at hk; cases hk
    · exact ih l
/-- the class Walker as the top has made it -/
structure WC (K : PySem.W.Frag) (mg : Str → Option Value) (tab : Tab) : Prop where
  cl : L2.Cls K Cfg.wc
  n1 : NoAttr K Cfg.wc "term"
  n2 : NoAttr K Cfg.wc "taken"
  mgW : mg "Walker" = some (.ref Cfg.wc)
  ini : ∃ e fI fd, tab.lookup ("Walker.__init__" : Str) = some e ∧ Mk K Cfg.wc fI ∧ Fun K "__init__" "Walker.__init__" e.st fI fd ∧ Binds K fd ["self", "term"] []
structure Mods (w : World) (K : PySem.W.Frag) (mg : Str → Option Value) (tab : Tab) (GL : Str → Option D) (cls : Cls) : Prop where
  fns : FnsAt K mg tab
  gl : ∀ x i, GL x = some (.int i) → ∃ t, mg x = some (.int i t)
  gd : ∀ x es, GL x = some (.dict es) → ∃ d a n, GDict w K mg x es d a n
  cl : ∀ c ∈ cls.on, ∃ C, ClsAt K mg cls c C
  em : ∀ c ∈ cls.on, ∀ d ∈ cls.on, PySem.W.exmOne K (cls c) (cls d) = some (subC c d)
  bi : ∀ x ∈ biNames, mg x = none
  wc : hasM (tabN tab) = true → WC K mg tab
end
/-- the state in which a method begins -/
theorem sr_startM [Cfg] [Fix] {P : Program} {w : World} {H Z : Hp} {N : List Str} {us : List V} {ds : List D} {p l : Addr} {t : D} {ts : List D} (hfx : Fix.fx = some p) (zh : Same Z H) (ws : WS H Z p l t ts) (r : Reps Z us ds) (hl : us.length + 1 ≤ N.length) :
    SR P w (del H p l) Z (startM N.length (.tuple [t, .list ts] :: ds)) (L2.start N (.ref p :: us)) H Z := by
  have get : ∀ (i : Nat) (d : D) (m : Md), (startM N.length (.tuple [t, .list ts] :: ds))[i]? = some (some (d, m)) → (i = 0 ∧ d = .tuple [t, .list ts] ∧ m = .on) ∨ (m = .fr ∧ ∃ j, i = j + 1 ∧ ds[j]? = some d) := fun i d m h => by
    unfold startM at h
    cases i with
    | zero => cases h; exact .inl ⟨rfl, rfl, rfl⟩
    | succ j =>
      have h : (startG (N.length - 1) ds)[j]? = some (some (d, m)) := h
      exact .inr ⟨(startG_get h).1, j, rfl, (startG_get h).2⟩
  have s0 : (L2.start N (.ref p :: us))[0]? = some (some (.ref p)) := start_get (i := 0) rfl
  refine ⟨zh, Same.refl _, fun _ _ => rfl, fun b u e => ?_, ?_, fun i d m h => ?_, fun i d m v b h hv a => ?_, fun i j d d' m m' v v' b h h' hv hv' a a' => ?_, fun q xs v hq h hv => ?_⟩
  · unfold del at e
    split at e
    · cases e
    · exact e
  · unfold startM startG L2.start
    simp [r.length]
    have := r.length
    omega
  · rcases get i d m h with ⟨rfl, rfl, rfl⟩ | ⟨rfl, j, rfl, hj⟩
    · exact ⟨_, s0, .ob ws⟩
    · obtain ⟨v, h2, h3⟩ := r.get hj
      exact ⟨v, start_get (by simpa using h2), .fr h3⟩
  · rcases get i d m h with ⟨rfl, rfl, rfl⟩ | ⟨rfl, _⟩
    · rw [s0] at hv
      cases hv
      unfold del
      rw [if_pos (ws.adr a)]
    · exact absurd rfl a.1
  · rcases get i d m h with ⟨rfl, rfl, rfl⟩ | ⟨rfl, _⟩
    · rcases get j d' m' h' with ⟨rfl, _⟩ | ⟨rfl, _⟩
      · rfl
      · exact absurd rfl a'.1
    · exact absurd rfl a.1
  · rw [hfx] at hq
    cases hq
    rw [s0] at hv
    cases hv; rfl
theorem lookup_mem {α : Type} : ∀ {l : List (Str × α)} {x : Str} {e : α}, l.lookup x = some e → (x, e) ∈ l
  | [], _, _, h => by cases h
  | (y, a) :: r, x, e, h => by
    rw [List.lookup_cons] at h
    split at h
    · rename_i q
      have : x = y := by simpa using q
      subst this
      cases h
      exact List.mem_cons_self
    · exact List.mem_cons_of_mem _ (lookup_mem h)
theorem lookup_name {tab : Tab} {x : Str} (h : (tabN tab).contains x = true) : ∃ e, tab.lookup x = some e := by
  induction tab with
  | nil => simp [tabN] at h
  | cons p r ih =>
    obtain ⟨y, a⟩ := p
    rw [List.lookup_cons]
    by_cases q : x = y
    · subst q; exact ⟨a, by simp⟩
    · have hb : (x == y) = false := by simpa using q
      rw [hb]
      apply ih
      simp only [tabN, List.map_cons, List.contains_cons, Bool.or_eq_true] at h ⊢
      rcases h with h | h
      · rw [hb] at h; cases h
      · exact h
section
variable [Cfg] {P : Program} {w : World} {K : PySem.W.Frag} {mg : Str → Option Value} {base : Heap} {tab : Tab} {GL : Str → Option D} {cls : Cls} {L : Nat}
theorem ent_ok {CN : List Nat} (ok : tabB CN tab = true) {x : Str} {e : Ent} (hT : tab.lookup x = some e) : (e.kd = kdOf x ∨ (e.kd = 3 ∧ kdOf x = 0)) ∧ scB e.N e.np (defScope e.st) = true ∧ (e.kd = 2 → e.N = (["self", "term"] : List Str) ∧ e.np = 2 ∧ initB (defScope e.st) (defBody e.st) = true) ∧ (e.kd ≠ 2 → e.kd ≠ 3 → (e.kd = 0 ∨ 0 < e.np) ∧ chkB (tabN tab) e.N CN e.body (defScope e.st) (defBody e.st) = true) ∧
    (e.kd = 3 → e.N.length = 6 ∧ e.np = 3 ∧ askB (tabN tab) e.N CN (defScope e.st) (defBody e.st) = true) := by
  have hok : entB (tabN tab) CN x e = true := List.all_eq_true.mp ok (x, e) (lookup_mem hT)
  simp only [entB, Bool.and_eq_true, Bool.or_eq_true, decide_eq_true_eq] at hok
  obtain ⟨⟨h1, h2⟩, h3⟩ := hok
  refine ⟨h1, h2, fun hk => ?_, fun hk hk3 => ?_, fun hk => ?_⟩
  · rw [if_pos hk] at h3
    simp only [Bool.and_eq_true, decide_eq_true_eq] at h3
    exact ⟨h3.1.1, h3.1.2, h3.2⟩
  · rw [if_neg hk, if_neg hk3] at h3
    simp only [Bool.and_eq_true, Bool.or_eq_true, decide_eq_true_eq] at h3
    exact h3
  · rw [if_neg (by omega), if_pos hk] at h3
    simp only [Bool.and_eq_true, decide_eq_true_eq] at h3
    exact ⟨h3.1.1, h3.1.2, h3.2⟩
theorem ask_shape {C : Orc} {ds : List D} : askD C ds = .stuck ∨ ∃ a b c rs, ds = [a, b, c] ∧ askD C ds = .ok (.list rs) .fr := by
  unfold askD
  repeat' split
  all_goals first | exact .inl rfl | exact .inr ⟨_, _, _, _, rfl, rfl⟩
theorem np_le {N : List Str} {np : Nat} {sc : Scope} (h : scB N np sc = true) : np ≤ N.length := by
  simp only [scB, Bool.and_eq_true, decide_eq_true_eq] at h
  exact h.1.1.2
/-- __init__ holds -/
theorem initOk {CN : List Nat} (ok : tabB CN tab = true) {e : Ent} (hT : tab.lookup ("Walker.__init__" : Str) = some e) {fI : Addr} {fd : FuncData} (F : Fun K "__init__" "Walker.__init__" e.st fI fd) (W : WC K mg tab) : FnOk P w K mg base (L2.CX P w) 1 fI fd ["self", "term"] spInit := by
  obtain ⟨k1, k2, k3, _⟩ := ent_ok ok hT
  have k1 : e.kd = kdOf ("Walker.__init__" : Str) := k1.resolve_right fun z => absurd z.2 (by decide +kernel)
  obtain ⟨eN, en, hb⟩ := k3 (by rw [k1]; decide +kernel)
  have hs := sc_of k2
  rw [eN, en] at hs
  refine F.okX (k := 0) (N := ["self", "term"]) hs (fun vs H Q E h => ?_) (fun cdv A outer s H vs Q E hr h => ?_)
  · obtain ⟨p, dx, tv, rfl, _⟩ := h; rfl
  obtain ⟨p, dx, tv, rfl, hp, q⟩ := h
  generalize hst : defBody e.st = body at hb ⊢
  unfold initB at hb
  split at hb
  case h_2 => cases hb
  simp only [Bool.and_eq_true, decide_eq_true_eq] at hb
  obtain ⟨⟨⟨⟨⟨⟨rfl, rfl⟩, rfl⟩, rfl⟩, rfl⟩, v1⟩, v2⟩ := hb
  refine ⟨_, pss_cons (ps_fld (pe_var (i := 0) rfl (vis_of v1) (by decide +kernel) (by decide +kernel)) (pe_var (i := 1) rfl (vis_of v2) (by decide +kernel) (by decide +kernel)) (swaps_no rfl)) (pss_one (ps_fld (pe_var (i := 0) rfl (vis_of v1) (by decide +kernel) (by decide +kernel)) (pe_lst pa_nil) (swaps_no rfl))), ?_⟩
  refine ⟨tv, rfl, .ref p, rfl, p, Cfg.wc, dx, [], rfl, hp, W.cl, W.n1, (by show 0 < 1000; decide), ?_⟩
  refine ⟨(by show 0 ≤ sizeLine; exact Nat.zero_le _), fun l hl => ?_⟩
  have npl : p ≠ l := fun z => by rw [← z, upd_same] at hl; cases hl
  refine ⟨.ref p, rfl, p, Cfg.wc, dx, putF "term" tv [], rfl, (by rw [upd_ne npl, upd_same]), W.cl, W.n2, (by show 1 < 1000; decide), ?_⟩
  have hl0 : H l = none := by rw [upd_ne (Ne.symm npl)] at hl; exact hl
  have e1 : putF "taken" (V.ref l) (putF "term" tv []) = [(("term" : Str), tv), (("taken" : Str), V.ref l)] := by
    show (if ("term" : Str) = "taken" then _ else _) = _
    rw [if_neg (by decide +kernel)]
    rfl
  rw [e1]
  refine q l _ hl0 upd_same (by rw [upd_ne (Ne.symm npl), upd_same]) fun b u eb hbp => ?_
  have hbl : b ≠ l := ne_of_none eb hl0
  rw [upd_ne hbp, upd_ne hbl, upd_ne hbp]
  exact eb
structure AllOk (P : Program) (w : World) (K : PySem.W.Frag) (mg : Str → Option Value) (base : Heap) (tab : Tab) (GL : Str → Option D) (cls : Cls) (L n : Nat) : Prop where
  f : ∀ (x : Str) (e : Ent) (f : Addr) (fd : FuncData), tab.lookup x = some e → FnAt K mg x e f fd → FnOk P w K mg base (L2.CX P w) n f fd (e.N.take e.np) (spD P w (callD GL (tabT tab) L n) cls x)
  m : ∀ (a x : Str) (e : Ent) (f : Addr) (fd : FuncData), mths.lookup a = some x → tab.lookup x = some e → MtAt K a x e f fd → FnOk P w K mg base (L2.CX P w) n f fd (e.N.take e.np) (spM P w (callD GL (tabT tab) L n) x)
theorem allOk (M : Mods w K mg tab GL cls) (ok : tabB cls.on tab = true) : ∀ n : Nat, AllOk P w K mg base tab GL cls L n
  | 0 => by
    refine ⟨fun x e f fd hT A => ?_, fun a x e f fd ha hT A => ?_⟩
    · have no : ∀ vs H Q E, ¬ spD P w (callD GL (tabT tab) L 0) cls x vs H Q E := fun vs H Q E ⟨_, _, _, _, h⟩ => h
      exact ⟨fun vs H Q E h => absurd h (no vs H Q E), fun A outer s H args us vs Q E _ _ _ _ h => absurd h (no vs H Q E)⟩
    · have no : ∀ vs H Q E, ¬ spM P w (callD GL (tabT tab) L 0) x vs H Q E := fun vs H Q E ⟨_, _, _, _, _, _, _, _, _, _, _, h⟩ => h
      exact ⟨fun vs H Q E h => absurd h (no vs H Q E), fun A outer s H args us vs Q E _ _ _ _ h => absurd h (no vs H Q E)⟩
  | n + 1 => by
    have I := allOk M ok n
    have ft : FT P w K mg base n GL (callD GL (tabT tab) L n) cls (tabN tab) := by
      refine ⟨M.gl, M.gd, M.cl, M.em, fun g hg => ?_, M.bi, fun hm => ?_, fun ds d m h => ?_, fun a x ha hc => ?_⟩
      · unfold fnB at hg
        simp only [Bool.and_eq_true, Bool.not_eq_true'] at hg
        obtain ⟨e', he'⟩ := lookup_name hg.1
        have hk : (e'.kd == 0 || e'.kd == 3) = true := by
          rcases (ent_ok ok he').1 with hk0 | hk0
          case inr => rw [hk0.1]; rfl
          rw [hk0]
          have h1 : g ≠ "Walker.__init__" := fun z => by subst z; have := hg.2; revert this; decide +kernel
          unfold kdOf
          rw [if_neg h1, if_neg (by rw [hg.2]; decide)]
          rfl
        obtain ⟨fa, fd', A2⟩ := M.fns.get he' hk
        exact ⟨fa, fd', _, A2.mg, A2.fn.kp, I.f g e' fa fd' he' A2, A2.bd⟩
      · have W := M.wc hm
        obtain ⟨e, fI, fd, he, mk, F, hb⟩ := W.ini
        exact ⟨W.cl, W.n1, W.n2, W.mgW, fI, fd, mk, initOk ok he F W, hb⟩
      · cases n with
        | zero => cases h
        | succ n' =>
          rw [callD] at h
          cases q : tab.lookup ("Walker.__init__" : Str) with
          | none =>
            have e1 : tabT tab "Walker.__init__" = none := by simp [tabT, q]
            simp only [e1] at h
            cases h
          | some e =>
            have e1 : tabT tab "Walker.__init__" = some e.fd := by simp [tabT, q]
            simp only [e1] at h
            have hk : e.fd.kd = 2 := by
              show e.kd = 2
              rw [(ent_ok ok q).1.resolve_right fun z => absurd z.2 (by decide +kernel)]; decide +kernel
            rw [hk] at h
            split at h
            · simp only at h
              split at h
              · cases h
              · omega
            · cases h
      · obtain ⟨e', he'⟩ := lookup_name hc
        have hk : e'.kd = 1 := by
          have := mths_isM ha
          rcases (ent_ok ok he').1 with z | z
          · rw [z]; exact this
          · rw [this] at z; cases z.2
        obtain ⟨fa, fd', A2⟩ := M.fns.getM ha he' hk
        exact ⟨fa, fd', _, A2.mt, I.m a x e' fa fd' ha he' A2, A2.bd⟩
    refine ⟨fun x e f fd hT A => ?_, fun a x e f fd ha hT A => ?_⟩
    · letI : Fix := ⟨none⟩
      obtain ⟨k1, hsc, _, k4, k5⟩ := ent_ok ok hT
      have hnp := np_le hsc
      have e1 : tabT tab x = some e.fd := by simp [tabT, hT]
      by_cases hk3 : e.kd = 3
      · obtain ⟨hN6, hnp3, hck⟩ := k5 hk3
        have hkd : e.fd.kd = 3 := hk3
        refine A.fn.okX (sc_of hsc) (fun vs H Q E h => ?_) (fun cdv A' outer s H vs Q E hr h => ?_)
        · obtain ⟨Z, ds, _, r, h⟩ := h
          rw [callD] at h
          simp only [e1] at h
          by_cases c : ds.length = e.fd.np
          · rw [List.length_take, Nat.min_eq_left hnp, r.length, c]; rfl
          · rw [if_neg c] at h; exact h.elim
        obtain ⟨Z, ds, zh, r, h⟩ := h
        rw [callD] at h
        simp only [e1] at h
        by_cases c : ds.length = e.fd.np
        case neg => rw [if_neg c] at h; exact h.elim
        rw [if_pos c, hkd] at h
        simp only at h
        have S : SC (cxOf (L2.CX P w) P w K mg base e.N x (defScope e.st) f cdv A' outer s H E) (tabN tab) e.N (defScope e.st) n GL (callD GL (tabT tab) L n) cls :=
          ⟨rfl, (sc_of hsc).nd, rfl, rfl, hr, ft⟩
        have tk : Takes (cxOf (L2.CX P w) P w K mg base e.N x (defScope e.st) f cdv A' outer s H E) (fun c d _ H' => E c d H') := takes_of rfl rfl rfl rfl
        have hp : PassesOwn (model P w) (cxOf (L2.CX P w) P w K mg base e.N x (defScope e.st) f cdv A' outer s H E).A (cxOf (L2.CX P w) P w K mg base e.N x (defScope e.st) f cdv A' outer s H E).env (cxOf (L2.CX P w) P w K mg base e.N x (defScope e.st) f cdv A' outer s H E).xe := passes_of rfl
        rcases ask_shape (C := callD GL (tabT tab) L n) (ds := ds) with q | ⟨a, b, cc, rs, rfl, q⟩
        · rw [q] at h; exact h.elim
        rw [q] at h
        exact ⟨_, ask_run rfl S tk ⟨hp, fun _ => rfl, rfl, rfl⟩ rfl hN6 hck, Z, vs, a, b, cc, rs, zh, r, rfl, q, fun v H' Z' t rv => h.2 v H' Z' t (.fr rv) fun p ep hm => absurd rfl hm⟩
      have hk0 : e.kd = 0 := by
        have := A.z
        simp only [Bool.or_eq_true, beq_iff_eq] at this
        exact this.resolve_right hk3
      obtain ⟨_, hck⟩ := k4 (by omega) hk3
      have hkd : e.fd.kd = 0 := hk0
      refine A.fn.okX (sc_of hsc) (fun vs H Q E h => ?_) (fun cdv A' outer s H vs Q E hr h => ?_)
      · obtain ⟨Z, ds, _, r, h⟩ := h
        rw [callD] at h
        simp only [e1] at h
        by_cases c : ds.length = e.fd.np
        · rw [List.length_take, Nat.min_eq_left hnp, r.length, c]; rfl
        · rw [if_neg c] at h; exact h.elim
      obtain ⟨Z, ds, zh, r, h⟩ := h
      rw [callD] at h
      simp only [e1] at h
      by_cases c : ds.length = e.fd.np
      case neg => rw [if_neg c] at h; exact h.elim
      rw [if_pos c, hkd] at h
      simp only at h
      have S : SC (cxOf (L2.CX P w) P w K mg base e.N x (defScope e.st) f cdv A' outer s H E) (tabN tab) e.N (defScope e.st) n GL (callD GL (tabT tab) L n) cls :=
        ⟨rfl, (sc_of hsc).nd, rfl, rfl, hr, ft⟩
      have tk : Takes (cxOf (L2.CX P w) P w K mg base e.N x (defScope e.st) f cdv A' outer s H E) (fun c d _ H' => E c d H') := takes_of rfl rfl rfl rfl
      have hp : PassesOwn (model P w) (cxOf (L2.CX P w) P w K mg base e.N x (defScope e.st) f cdv A' outer s H E).A (cxOf (L2.CX P w) P w K mg base e.N x (defScope e.st) f cdv A' outer s H E).env (cxOf (L2.CX P w) P w K mg base e.N x (defScope e.st) f cdv A' outer s H E).xe := passes_of rfl
      refine ⟨_, (goodS rfl e.body).all (L := L) _ _ _ _ S tk ⟨hp, fun _ => rfl, rfl, rfl⟩ hck, H, Z, startG e.N.length ds, Z, sr_start rfl zh r (by rw [r.length, c]; exact hnp), ?_⟩
      have hs : e.fd.ns = e.N.length := rfl
      rw [hs] at h
      show PoS P w (fun c d _ H' => E c d H') cls _ H Z Z (ex GL (callD GL (tabT tab) L n) L e.fd.body (startG e.N.length ds))
      cases q : ex GL (callD GL (tabT tab) L n) L e.fd.body (startG e.N.length ds) with
      | ok ct g =>
        rw [q] at h
        cases ct with
        | next =>
          intro σ H' Z' sr zz
          exact h.2 .non H' Z' sr.toTr (.fr .non) fun p ep hm => absurd rfl hm
        | brk => exact h.elim
        | cont => exact h.elim
        | ret d m =>
          intro v σ' H' Z' sr hh hnew
          have t := sr.toTr
          unfold toCR at h
          simp only at h
          by_cases hm : m = .on
          · rw [if_pos hm] at h; exact h.elim
          · rw [if_neg hm] at h; exact h.2 v H' Z' t hh hnew
      | exc c0 g =>
        rw [q] at h
        intro σ H' Z' sr zz
        have h : ∀ H', Same H H' → E (cls c0) none H' := h
        exact h H' sr.keep
      | stuck => rw [q] at h; exact h.elim
    · obtain ⟨k1, hsc, _, k4, _⟩ := ent_ok ok hT
      have hk1 : e.kd = 1 := by
        have hz := mths_isM ha
        rcases k1 with z | z
        · rw [z]; exact hz
        · exact absurd (hz.symm.trans z.2) (by decide)
      obtain ⟨hpos, hck⟩ := k4 (by rw [hk1]; decide) (by rw [hk1]; decide)
      have hpos : 0 < e.np := hpos.resolve_left (by rw [hk1]; decide)
      have hnp := np_le hsc
      have e1 : tabT tab x = some e.fd := by simp [tabT, hT]
      have hkd : e.fd.kd = 1 := hk1
      refine A.fn.okX (sc_of hsc) (fun vs H Q E h => ?_) (fun cdv A' outer s H vs Q E hr h => ?_)
      · obtain ⟨Z, p, l, t, ts, us, ds, rfl, _, _, r, h⟩ := h
        rw [callD] at h
        simp only [e1] at h
        by_cases c : (PyData.tuple [t, .list ts] :: ds).length = e.fd.np
        · rw [List.length_take, Nat.min_eq_left hnp, List.length_cons, r.length]; exact c
        · rw [if_neg c] at h; exact h.elim
      obtain ⟨Z, p, l, t, ts, us, ds, rfl, zh, ws, r, h⟩ := h
      letI : Fix := ⟨some p⟩
      rw [callD] at h
      simp only [e1] at h
      by_cases c : (PyData.tuple [t, .list ts] :: ds).length = e.fd.np
      case neg => rw [if_neg c] at h; exact h.elim
      rw [if_pos c, hkd] at h
      simp only at h
      have S : SC (cxOf (L2.CX P w) P w K mg base e.N x (defScope e.st) f cdv A' outer s H E) (tabN tab) e.N (defScope e.st) n GL (callD GL (tabT tab) L n) cls :=
        ⟨rfl, (sc_of hsc).nd, rfl, rfl, hr, ft⟩
      have tk : Takes (cxOf (L2.CX P w) P w K mg base e.N x (defScope e.st) f cdv A' outer s H E) (fun c d _ H' => E c d H') := takes_of rfl rfl rfl rfl
      have hp : PassesOwn (model P w) (cxOf (L2.CX P w) P w K mg base e.N x (defScope e.st) f cdv A' outer s H E).A (cxOf (L2.CX P w) P w K mg base e.N x (defScope e.st) f cdv A' outer s H E).env (cxOf (L2.CX P w) P w K mg base e.N x (defScope e.st) f cdv A' outer s H E).xe := passes_of rfl
      have hlen : us.length + 1 ≤ e.N.length := by
        have c' : ds.length + 1 = e.np := c
        rw [r.length]; omega
      refine ⟨_, (goodS rfl e.body).all (L := L) _ _ _ _ S tk ⟨hp, fun _ => rfl, rfl, rfl⟩ hck, del H p l, Z, startM e.N.length (.tuple [t, .list ts] :: ds), Z, sr_startM rfl zh ws r hlen, ?_⟩
      have hs : e.fd.ns = e.N.length := rfl
      rw [hs] at h
      show PoS P w (fun c d _ H' => E c d H') cls _ (del H p l) Z Z (ex GL (callD GL (tabT tab) L n) L e.fd.body (startM e.N.length (.tuple [t, .list ts] :: ds)))
      have fin : ∀ (g : Sg) (st : List D) (r : D) (σ : L2.St) (H' Z' : Hp) (v : V), objAt 0 g = some st → SR P w (del H p l) Z g σ H' Z' → Rep Z' v r →
          (∀ v H' Z' l' t' ts', st = [t', .list ts'] → Tr (del H p l) Z H' Z' → del H p l l' = none → WS H' Z' p l' t' ts' → Rep Z' v r → Q v H') → Q v H' := fun g st r σ H' Z' v ho sr rv hq => by
        obtain ⟨q, l', t', ts', hg, hσ, est, ws'⟩ := obj_of sr ho
        have := sr.fix p st (.ref q) rfl hg hσ
        cases this
        exact hq v H' Z' l' t' ts' est sr.toTr (sr.own 0 _ .on (.ref p) l' hg hσ ws'.adr2) ws' rv
      cases q : ex GL (callD GL (tabT tab) L n) L e.fd.body (startM e.N.length (.tuple [t, .list ts] :: ds)) with
      | ok ct g =>
        rw [q] at h
        cases ct with
        | next =>
          intro σ H' Z' sr zz
          unfold toCM at h
          simp only at h
          cases ho : objAt 0 g with
          | none => rw [ho] at h; exact h.elim
          | some st => rw [ho] at h; exact fin g st .none σ H' Z' .non ho sr .non h
        | brk => exact h.elim
        | cont => exact h.elim
        | ret d m =>
          intro v σ' H' Z' sr hh hnew
          unfold toCM at h
          simp only at h
          cases ho : objAt 0 g with
          | none => rw [ho] at h; exact h.elim
          | some st =>
            rw [ho] at h
            simp only at h
            by_cases hm : m = .fr
            · subst hm
              cases hh with
              | fr rv => exact fin g st d σ' H' Z' v ho sr rv h
            · rw [if_neg hm] at h; exact h.elim
      | exc c0 g => rw [q] at h; exact h.elim
      | stuck => rw [q] at h; exact h.elim

/-! ### the law's end -/
/-- no list is one of the module's own things -/
def noLst (K : PySem.W.Frag) : Bool := K.all fun p => match p.2.cls with | .type x => !(x == "list") | _ => true
theorem noLst_of {K : PySem.W.Frag} (h : noLst K = true) {a : Addr} {o : Obj} (l : K.lookup a = some o) : o.cls ≠ .type "list" := by
  induction K with
  | nil => cases l
  | cons p r ih =>
    obtain ⟨b, x⟩ := p
    simp only [noLst, List.all_cons, Bool.and_eq_true] at h
    rw [List.lookup_cons] at l
    split at l
    · cases l
      intro e
      rw [e] at h
      exact absurd h.1 (by decide)
    · exact ih h.2 l
/-- the script -/
theorem script_rep {H : Hp} {a : Addr} {ns : List Int} (h : SqL K H a (ns.map V.int)) (hL : noLst K = true) : Rep H (.ref a) (.list (ns.map .int)) := by
  rcases h with h | ⟨o, its, n, hk, hc, _⟩
  · refine .lst h ?_
    clear h
    induction ns with
    | nil => exact .nil
    | cons i r ih => exact .cons (.int i) ih
  · exact absurd hc (noLst_of hL hk)
/-- what the law's def promises -/
def spEnd (K : PySem.W.Frag) : Sp := fun vs H Q _ => ∃ (a : Addr) (ns : List Int), vs = [.ref a] ∧ SqL K H a (ns.map V.int) ∧ ns.length ≤ 63 ∧ (∀ z ∈ ns, Builtin.Int.intBits z ≤ 1048576) ∧ ∀ H', Q (.bl true) H'
theorem sp_end {C : Orc} {f : Str} {H : Hp} {vs : List V} {Q : VK} {E : XK} (h : spEnd K vs H Q E) (hL : noLst K = true) (law : ∀ ns : List Int, ns.length ≤ 63 → (∀ z ∈ ns, Builtin.Int.intBits z ≤ 1048576) → C f [.list (ns.map .int)] = .ok (.bool true) .fr) :
    spD P w C cls f vs H Q E := by
  obtain ⟨a, ns, rfl, hS, hl, hb, q⟩ := h
  refine ⟨H, [.list (ns.map .int)], Same.refl _, .cons (script_rep hS hL) .nil, ?_⟩
  rw [law ns hl hb]
  refine ⟨(by decide), fun v H' Z' t hh _ => ?_⟩
  rw [hh.bool]
  exact q H'
end
theorem FnOk.weak {P : Program} {w : World} {K : PySem.W.Frag} {mg : Str → Option Value} {base : Heap} {CX : CXT} {k : Nat} {f : Addr} {fd : FuncData} {ps : List Str} {sp sp' : Sp} (F : FnOk P w K mg base CX k f fd ps sp) (h : ∀ vs H Q E, sp' vs H Q E → sp vs H Q E) : FnOk P w K mg base CX k f fd ps sp' :=
  ⟨fun vs H Q E q => F.len vs H Q E (h vs H Q E q), fun A outer s H args us vs Q E a b c d q => F.run A outer s H args us vs Q E a b c d (h vs H Q E q)⟩
/-- THE WALK of a law: its table, checked; the module's things; the run by values says True at every script -/
theorem walkD {l : PySem.W.OpenLaw} {q : Program} {loose : List Str} {XP : (Str → Option Value) → Heap → Prop} {YP : World → Heap → Prop} {d : DefRec} {K : Params → PySem.W.Frag} {tab : Tab} {GL : Str → Option D} {CN : List Nat} {e : Ent} {x : Str} {k L : Nat}
    (hn : l.most = some 63) (hdf : d.params.defaults = []) (hr : Room k callerA) (hY : ∀ (w : World) (h : Heap), YP w h → (K w.params).In h) (hT : tab.lookup ("law" : Str) = some e) (ok : tabB CN tab = true) (hx : e.N.take e.np = [x]) (hL : ∀ w : World, noLst (K w.params) = true)
    (F : ∀ (w : World) (mg : Str → Option Value) (fa : Addr) (h : Heap), (K w.params).In h → h.Ns mainGlobals mg → mg d.name = some (.ref fa) →
      ∃ (cf : Cfg) (cls : Cls), cls.on = CN ∧ Mods w (K w.params) mg tab GL cls ∧ ∃ fd, FnAt (K w.params) mg "law" e fa fd ∧ (∀ (s : Shared) (u : Value), BindsTo s fd ⟨[u], []⟩ [(x, u)]))
    (law : ∀ ns : List Int, ns.length ≤ 63 → (∀ z ∈ ns, Builtin.Int.intBits z ≤ 1048576) → callD GL (tabT tab) L k "law" [.list (ns.map .int)] = .ok (.bool true) .fr) :
    PySem.W.WalkO q loose XP YP l.row.toRowW d [] (fun f vs => PySem.call f vs) := by
  refine L2.walk_ofB (n := 63) (k := k) (x := x) (CX := fun w => L2.CX l.prog w) (sp := fun w => spEnd (K w.params)) hn (by decide) hdf hr hY ?_ ?_ ?_
  · intro w mg fa h KX G hmg
    obtain ⟨cf, cls, hcn, M, fd, A, hb⟩ := F w mg fa h KX G hmg
    refine ⟨fd, hb, fun base _ _ => ?_⟩
    have := (allOk (P := l.prog) (w := w) (base := base) (cls := cls) (L := L) M (by rw [hcn]; exact ok) k).f "law" e fa fd hT A
    rw [hx] at this
    exact FnOk.weak this fun vs H Q E q => sp_end q (hL w) law
  · intro w H a ns hl hb hO hS
    exact ⟨a, ns, rfl, hS, hl, hb, fun H' => rfl⟩
  · intro w H s e s' h
    obtain ⟨_, _, _, _, _, _, _, _, _, _, _, _, z⟩ := h
    exact z.elim
theorem getKey_mem {k : Str} {es : List (D × D)} {v x y : D} (h : getKey ((x, y) :: es) (.str k) = some v) : (∃ z, x = .str z ∧ z = k ∧ y = v) ∨ getKey es (.str k) = some v := by
  unfold getKey at h
  rw [List.find?_cons] at h
  split at h
  · rename_i q
    cases x <;> simp [PyData.eqv] at q
    exact .inl ⟨_, rfl, q, by simpa using h⟩
  · exact .inr h
theorem kit_of {K : PySem.W.Frag} {C : Addr} (h : PySem.W.subIn K (.ref C) (.type "ValueError") = some true) : PySem.W.kitOne K (.ref C) (.type "ValueError") = some true := by
  unfold PySem.W.kitOne
  rw [if_neg (by intro z; cases (beq_iff_eq.mp z))]
  show (if PySem.W.kitMeta "ValueError" = true then PySem.W.subIn K (.ref C) (.type "ValueError") else none) = some true
  rw [if_pos (by decide +kernel)]
  exact h
end DL

set_option Elab.async false
set_option linter.all false
set_option maxRecDepth 100000
/-! B: the small texts of the defs that more than one law has (printed by gen.py lib). R: what a raise is. -/
namespace DL
open PySem L2
/-- is_whole: 0 thing -/
def b_is_whole : S := (.seq (.ret (.and_ (.cons (.isi (.var 0) .int) (.cons (.not_ (.isi (.var 0) .bool)) .nil))))
  .skip)
def N_is_whole : List Str := ["thing"]
/-- is_leaf: 0 term -/
def b_is_leaf : S := (.seq (.ret (.or_ (.cons (.cmp .eq (.ix (.var 0) (.int (0))) (.str "name")) (.cons (.cmp .eq (.ix (.var 0) (.int (0))) (.str "open")) .nil))))
  .skip)
def N_is_leaf : List Str := ["term"]
/-- has_shape: 0 thing -/
def b_has_shape : S := (.seq (.ite (.or_ (.cons (.not_ (.isi (.var 0) .tuple)) (.cons (.cmp .eq (.len (.var 0)) (.int (0))) (.cons (.not_ (.isi (.ix (.var 0) (.int (0))) .str)) .nil)))) (.seq (.ret (.bl false))
  .skip) .skip)
  (.seq (.ite (.or_ (.cons (.cmp .eq (.ix (.var 0) (.int (0))) (.str "sum")) (.cons (.cmp .eq (.ix (.var 0) (.int (0))) (.str "mul")) (.cons (.cmp .eq (.ix (.var 0) (.int (0))) (.str "pair")) .nil)))) (.seq (.ret (.cmp .eq (.len (.var 0)) (.int (3))))
  .skip) .skip)
  (.seq (.ite (.or_ (.cons (.cmp .ne (.len (.var 0)) (.int (2))) (.cons (.not_ (.call "is_whole" (.cons (.ix (.var 0) (.int (1))) .nil))) (.cons (.cmp .lt (.ix (.var 0) (.int (1))) (.int (0))) .nil)))) (.seq (.ret (.bl false))
  .skip) .skip)
  (.seq (.ite (.cmp .eq (.ix (.var 0) (.int (0))) (.str "name")) (.seq (.ret (.cmp .le (.ix (.var 0) (.int (1))) (.glob "GREATEST")))
  .skip) .skip)
  (.seq (.ret (.and_ (.cons (.cmp .eq (.ix (.var 0) (.int (0))) (.str "open")) (.cons (.cmp .lt (.ix (.var 0) (.int (1))) (.glob "OPENS")) .nil))))
  .skip)))))
def N_has_shape : List Str := ["thing"]
/-- leaves_of: 0 term, 1 found, 2 waiting, 3 part -/
def b_leaves_of (R : Nat → S) : S := (.seq (.set 1 (.lst .nil))
  (.seq (.set 2 (.lst (.cons (.var 0) .nil)))
  (.seq (.whl (.cmp .ne (.var 2) (.lst .nil)) (.seq (.set 3 (.pop 2))
  (.seq (.ite (.not_ (.call "has_shape" (.cons (.var 3) .nil))) (.seq (R 1)
  .skip) .skip)
  (.seq (.ite (.call "is_leaf" (.cons (.var 3) .nil)) (.seq (.expr (.append 1 (.var 3)))
  .skip) (.seq (.expr (.append 2 (.ix (.var 3) (.int (2)))))
  (.seq (.expr (.append 2 (.ix (.var 3) (.int (1)))))
  .skip)))
  .skip))))
  (.seq (.ite (.cmp .gt (.len (.var 1)) (.glob "LEAVES")) (.seq (R 2)
  .skip) .skip)
  (.seq (.ret (.var 1))
  .skip)))))
def N_leaves_of : List Str := ["term", "found", "waiting", "part"]
/-- leaves: 0 term -/
def b_leaves : S := (.seq (.ret (.len (.call "leaves_of" (.cons (.var 0) .nil))))
  .skip)
def N_leaves : List Str := ["term"]
/-- opens: 0 term, 1 leaf -/
def b_opens : S := (.seq (.ret (.sortset (.lc (.ix (.var 1) (.int (1))) 1 (.call "leaves_of" (.cons (.var 0) .nil)) (.cmp .eq (.ix (.var 1) (.int (0))) (.str "open")) [])))
  .skip)
def N_opens : List Str := ["term", "leaf"]
/-- _law_cell_at: 0 _law_script, 1 _law_k -/
def b__law_cell_at : S := (.seq (.ite (.cmp .lt (.var 1) (.len (.var 0))) (.seq (.ret (.ix (.var 0) (.var 1)))
  .skip) .skip)
  (.seq (.ret (.int (0)))
  .skip))
def N__law_cell_at : List Str := ["_law_script", "_law_k"]
/-- _law_cells_by: 0 _law_script, 1 _law_first, 2 _law_most, 3 _law_size, 4 _law_k -/
def b__law_cells_by : S := (.seq (.set 3 (.call "_law_cell_at" (.cons (.var 0) (.cons (.int (0)) .nil))))
  (.seq (.ite (.cmp .eq (.bin .mod (.var 3) (.int (4))) (.int (1))) (.seq (.ret (.lc (.bin .mod (.bin .pow (.bin .add (.bin .add (.bin .fdiv (.var 3) (.int (4))) (.bin .mul (.int (104729)) (.var 4))) (.int (1))) (.int (3))) (.int (2147483647))) 4 (.range1 (.bin .mod (.bin .fdiv (.var 3) (.int (4))) (.bin .add (.var 2) (.int (1))))) .nil [3]))
  .skip) .skip)
  (.seq (.ret (.sl (.var 0) (.var 1) (.bin .add (.var 1) (.var 2))))
  .skip)))
def N__law_cells_by : List Str := ["_law_script", "_law_first", "_law_most", "_law_size", "_law_k"]
/-- parts_of: 0 one, 1 sign -/
def b_parts_of : S := (.seq (.ite (.cmp .eq (.ix (.var 0) (.int (0))) (.var 1)) (.seq (.ret (.list (.sl (.var 0) (.int (1)) .nil)))
  .skip) .skip)
  (.seq (.ret (.lst (.cons (.var 0) .nil)))
  .skip))
def N_parts_of : List Str := ["one", "sign"]
/-- joined: 0 sign, 1 ones, 2 row, 3 one -/
def b_joined : S := (.seq (.set 2 (.lst .nil))
  (.seq (.for_ 3 (.var 1) (.seq (.expr (.extend 2 (.call "parts_of" (.cons (.var 3) (.cons (.var 0) .nil)))))
  .skip))
  (.seq (.ite (.cmp .eq (.len (.var 2)) (.int (1))) (.seq (.ret (.ix (.var 2) (.int (0))))
  .skip) .skip)
  (.seq (.ret (.bin .add (.tup (.cons (.var 0) .nil)) (.tuple (.sorted (.var 2)))))
  .skip))))
def N_joined : List Str := ["sign", "ones", "row", "one"]
/-- flat: 0 term -/
def b_flat : S := (.seq (.ite (.call "is_leaf" (.cons (.var 0) .nil)) (.seq (.ret (.var 0))
  .skip) .skip)
  (.seq (.ite (.cmp .eq (.ix (.var 0) (.int (0))) (.str "pair")) (.seq (.ret (.tup (.cons (.str "pair") (.cons (.call "flat" (.cons (.ix (.var 0) (.int (1))) .nil)) (.cons (.call "flat" (.cons (.ix (.var 0) (.int (2))) .nil)) .nil)))))
  .skip) .skip)
  (.seq (.ret (.call "joined" (.cons (.ix (.var 0) (.int (0))) (.cons (.lst (.cons (.call "flat" (.cons (.ix (.var 0) (.int (1))) .nil)) (.cons (.call "flat" (.cons (.ix (.var 0) (.int (2))) .nil)) .nil))) .nil))))
  .skip)))
def N_flat : List Str := ["term"]
/-- form: 0 term -/
def b_form : S := (.seq (.expr (.call "leaves" (.cons (.var 0) .nil)))
  (.seq (.ret (.call "flat" (.cons (.var 0) .nil)))
  .skip))
def N_form : List Str := ["term"]
/-- put: 0 one, 1 filling, 2 part -/
def b_put : S := (.seq (.ite (.cmp .eq (.ix (.var 0) (.int (0))) (.str "open")) (.seq (.ret (.ix (.var 1) (.ix (.var 0) (.int (1)))))
  .skip) .skip)
  (.seq (.ite (.cmp .eq (.ix (.var 0) (.int (0))) (.str "name")) (.seq (.ret (.var 0))
  .skip) .skip)
  (.seq (.ite (.cmp .eq (.ix (.var 0) (.int (0))) (.str "pair")) (.seq (.ret (.tup (.cons (.str "pair") (.cons (.call "put" (.cons (.ix (.var 0) (.int (1))) (.cons (.var 1) .nil))) (.cons (.call "put" (.cons (.ix (.var 0) (.int (2))) (.cons (.var 1) .nil))) .nil)))))
  .skip) .skip)
  (.seq (.ret (.call "joined" (.cons (.ix (.var 0) (.int (0))) (.cons (.lc (.call "put" (.cons (.var 2) (.cons (.var 1) .nil))) 2 (.sl (.var 0) (.int (1)) .nil) .nil [1]) .nil))))
  .skip))))
def N_put : List Str := ["one", "filling", "part"]
/-- filled: 0 term, 1 filling, 2 number -/
def b_filled (R : Nat → S) : S := (.seq (.for_ 2 (.call "opens" (.cons (.var 0) .nil)) (.seq (.ite (.cmp .nin (.var 2) (.var 1)) (.seq (R 4)
  .skip) .skip)
  .skip))
  (.seq (.ret (.call "put" (.cons (.call "flat" (.cons (.var 0) .nil)) (.cons (.var 1) .nil))))
  .skip))
def N_filled : List Str := ["term", "filling", "number"]
/-- picks: 0 size, 1 most, 2 found, 3 rows, 4 place, 5 longer, 6 row -/
def b_picks : S := (.seq (.set 2 (.lst .nil))
  (.seq (.set 3 (.lst (.cons (.lst .nil) .nil)))
  (.seq (.for_ 4 (.range1 (.var 0)) (.seq (.set 5 (.lc (.bin .add (.var 6) (.lst (.cons (.var 4) .nil))) 6 (.var 3) (.cmp .lt (.len (.var 6)) (.var 1)) [1, 4]))
  (.seq (.expr (.extend 2 (.var 5)))
  (.seq (.set 3 (.bin .add (.var 3) (.var 5)))
  .skip))))
  (.seq (.ret (.var 2))
  .skip))))
def N_picks : List Str := ["size", "most", "found", "rows", "place", "longer", "row"]
/-- shared: 0 sign, 1 wanted, 2 there, 3 filling, 4 most, 5 found, 6 tried, 7 pick, 8 taken, 9 others, 10 one, 11 place -/
def b_shared : S := (.seq (.ite (.cmp .eq (.var 1) (.lst .nil)) (.seq (.ret (.ite (.cmp .eq (.var 2) (.lst .nil)) (.lst (.cons (.var 3) .nil)) (.lst .nil)))
  .skip) .skip)
  (.seq (.set 4 (.int (1)))
  (.seq (.ite (.cmp .eq (.ix (.ix (.var 1) (.int (0))) (.int (0))) (.str "open")) (.seq (.set 4 (.bin .add (.bin .sub (.len (.var 2)) (.len (.var 1))) (.int (1))))
  .skip) .skip)
  (.seq (.set 5 (.lst .nil))
  (.seq (.set 6 (.dnew true))
  (.seq (.for_ 7 (.call "picks" (.cons (.len (.var 2)) (.cons (.var 4) .nil))) (.seq (.set 8 (.call "joined" (.cons (.var 0) (.cons (.lc (.ix (.var 2) (.var 11)) 11 (.var 7) .nil [2]) .nil))))
  (.seq (.ite (.nnin 6 (.var 8)) (.seq (.nput 6 (.var 8) (.bl true))
  (.seq (.set 9 (.lc (.ix (.var 2) (.var 11)) 11 (.range1 (.len (.var 2))) (.cmp .nin (.var 11) (.var 7)) [2, 7]))
  (.seq (.for_ 10 (.call "matched" (.cons (.ix (.var 1) (.int (0))) (.cons (.var 8) (.cons (.var 3) .nil)))) (.seq (.expr (.extend 5 (.call "shared" (.cons (.var 0) (.cons (.sl (.var 1) (.int (1)) .nil) (.cons (.var 9) (.cons (.var 10) .nil)))))))
  .skip))
  .skip))) .skip)
  .skip)))
  (.seq (.ret (.var 5))
  .skip)))))))
def N_shared : List Str := ["sign", "wanted", "there", "filling", "most", "found", "tried", "pick", "taken", "others", "one", "place"]
/-- matched: 0 one, 1 whole, 2 filling, 3 more, 4 found -/
def b_matched : S := (.seq (.ite (.cmp .eq (.ix (.var 0) (.int (0))) (.str "open")) (.seq (.ite (.cmp .in_ (.ix (.var 0) (.int (1))) (.var 2)) (.seq (.ret (.ite (.cmp .eq (.ix (.var 2) (.ix (.var 0) (.int (1)))) (.var 1)) (.lst (.cons (.var 2) .nil)) (.lst .nil)))
  .skip) .skip)
  (.seq (.set 3 (.dict (.var 2)))
  (.seq (.put 3 (.ix (.var 0) (.int (1))) (.var 1))
  (.seq (.ret (.lst (.cons (.var 3) .nil)))
  .skip)))) .skip)
  (.seq (.ite (.or_ (.cons (.cmp .eq (.ix (.var 0) (.int (0))) (.str "name")) (.cons (.cmp .ne (.ix (.var 0) (.int (0))) (.ix (.var 1) (.int (0)))) .nil))) (.seq (.ret (.ite (.cmp .eq (.var 0) (.var 1)) (.lst (.cons (.var 2) .nil)) (.lst .nil)))
  .skip) .skip)
  (.seq (.ite (.cmp .eq (.ix (.var 0) (.int (0))) (.str "pair")) (.seq (.set 4 (.lst .nil))
  (.seq (.for_ 3 (.call "matched" (.cons (.ix (.var 0) (.int (1))) (.cons (.ix (.var 1) (.int (1))) (.cons (.var 2) .nil)))) (.seq (.expr (.extend 4 (.call "matched" (.cons (.ix (.var 0) (.int (2))) (.cons (.ix (.var 1) (.int (2))) (.cons (.var 3) .nil))))))
  .skip))
  (.seq (.ret (.var 4))
  .skip))) .skip)
  (.seq (.ret (.call "shared" (.cons (.ix (.var 0) (.int (0))) (.cons (.list (.sl (.var 0) (.int (1)) .nil)) (.cons (.list (.sl (.var 1) (.int (1)) .nil)) (.cons (.var 2) .nil))))))
  .skip))))
def N_matched : List Str := ["one", "whole", "filling", "more", "found"]
/-- need_plain: 0 term -/
def b_need_plain (R : Nat → S) : S := (.seq (.ite (.cmp .ne (.call "opens" (.cons (.var 0) .nil)) (.lst .nil)) (.seq (R 5)
  .skip) .skip)
  .skip)
def N_need_plain : List Str := ["term"]
/-- fillings: 0 pattern, 1 term, 2 numbers, 3 rows, 4 filling, 5 row, 6 number -/
def b_fillings : S := (.seq (.expr (.call "leaves" (.cons (.var 0) .nil)))
  (.seq (.expr (.call "need_plain" (.cons (.var 1) .nil)))
  (.seq (.set 2 (.call "opens" (.cons (.var 0) .nil)))
  (.seq (.set 3 (.dnew true))
  (.seq (.for_ 4 (.call "matched" (.cons (.call "flat" (.cons (.var 0) .nil)) (.cons (.call "flat" (.cons (.var 1) .nil)) (.cons (.dnew false) .nil)))) (.seq (.nput 3 (.tuple (.lc (.ix (.var 4) (.var 6)) 6 (.var 2) .nil [4])) (.bl true))
  .skip))
  (.seq (.ret (.lc (.dictzip (.var 2) (.var 5)) 5 (.nsorted 3) .nil [2]))
  .skip))))))
def N_fillings : List Str := ["pattern", "term", "numbers", "rows", "filling", "row", "number"]
/-- part_at: 0 term, 1 place, 2 step -/
def b_part_at (R : Nat → S) : S := (.seq (.for_ 2 (.var 1) (.seq (.ite (.or_ (.cons (.call "is_leaf" (.cons (.var 0) .nil)) (.cons (.cmp .lt (.var 2) (.int (0))) (.cons (.cmp .gt (.var 2) (.int (1))) .nil)))) (.seq (R 3)
  .skip) .skip)
  (.seq (.set 0 (.ix (.var 0) (.bin .add (.int (1)) (.var 2))))
  .skip)))
  (.seq (.ret (.var 0))
  .skip))
def N_part_at : List Str := ["term", "place", "step"]
/-- with_part: 0 term, 1 place, 2 part -/
def b_with_part : S := (.seq (.ite (.cmp .eq (.var 1) (.tup .nil)) (.seq (.ret (.var 2))
  .skip) .skip)
  (.seq (.ite (.cmp .eq (.ix (.var 1) (.int (0))) (.int (0))) (.seq (.ret (.tup (.cons (.ix (.var 0) (.int (0))) (.cons (.call "with_part" (.cons (.ix (.var 0) (.int (1))) (.cons (.sl (.var 1) (.int (1)) .nil) (.cons (.var 2) .nil)))) (.cons (.ix (.var 0) (.int (2))) .nil)))))
  .skip) .skip)
  (.seq (.ret (.tup (.cons (.ix (.var 0) (.int (0))) (.cons (.ix (.var 0) (.int (1))) (.cons (.call "with_part" (.cons (.ix (.var 0) (.int (2))) (.cons (.sl (.var 1) (.int (1)) .nil) (.cons (.var 2) .nil)))) .nil)))))
  .skip)))
def N_with_part : List Str := ["term", "place", "part"]
/-- turned: 0 part, 1 word, 2 sign -/
def b_turned (R : Nat → S) : S := (.seq (.set 2 (.ix (.var 0) (.int (0))))
  (.seq (.ite (.and_ (.cons (.cmp .ne (.var 2) (.str "sum")) (.cons (.cmp .ne (.var 2) (.str "mul")) .nil))) (.seq (R 3)
  .skip) .skip)
  (.seq (.ite (.cmp .eq (.var 1) (.str "swap")) (.seq (.ret (.tup (.cons (.var 2) (.cons (.ix (.var 0) (.int (2))) (.cons (.ix (.var 0) (.int (1))) .nil)))))
  .skip) .skip)
  (.seq (.ite (.and_ (.cons (.cmp .eq (.var 1) (.str "left")) (.cons (.cmp .eq (.ix (.ix (.var 0) (.int (2))) (.int (0))) (.var 2)) .nil))) (.seq (.ret (.tup (.cons (.var 2) (.cons (.tup (.cons (.var 2) (.cons (.ix (.var 0) (.int (1))) (.cons (.ix (.ix (.var 0) (.int (2))) (.int (1))) .nil)))) (.cons (.ix (.ix (.var 0) (.int (2))) (.int (2))) .nil)))))
  .skip) .skip)
  (.seq (.ite (.and_ (.cons (.cmp .eq (.var 1) (.str "right")) (.cons (.cmp .eq (.ix (.ix (.var 0) (.int (1))) (.int (0))) (.var 2)) .nil))) (.seq (.ret (.tup (.cons (.var 2) (.cons (.ix (.ix (.var 0) (.int (1))) (.int (1))) (.cons (.tup (.cons (.var 2) (.cons (.ix (.ix (.var 0) (.int (1))) (.int (2))) (.cons (.ix (.var 0) (.int (2))) .nil)))) .nil)))))
  .skip) .skip)
  (.seq (R 3)
  .skip))))))
def N_turned : List Str := ["part", "word", "sign"]
/-- done: 0 term, 1 move -/
def b_done : S := (.seq (.ret (.call "with_part" (.cons (.var 0) (.cons (.ix (.var 1) (.int (1))) (.cons (.call "turned" (.cons (.call "part_at" (.cons (.var 0) (.cons (.ix (.var 1) (.int (1))) .nil))) (.cons (.ix (.var 1) (.int (0))) .nil))) .nil)))))
  .skip)
def N_done : List Str := ["term", "move"]
/-- moved: 0 term, 1 move -/
def b_moved : S := (.seq (.expr (.call "leaves" (.cons (.var 0) .nil)))
  (.seq (.ret (.call "done" (.cons (.var 0) (.cons (.var 1) .nil))))
  .skip))
def N_moved : List Str := ["term", "move"]
/-- back: 0 move -/
def b_back (R : Nat → S) : S := (.seq (.ite (.gnin "BACK" (.ix (.var 0) (.int (0)))) (.seq (R 3)
  .skip) .skip)
  (.seq (.ret (.tup (.cons (.gix "BACK" (.ix (.var 0) (.int (0)))) (.cons (.ix (.var 0) (.int (1))) .nil))))
  .skip))
def N_back : List Str := ["move"]
/-- moves: 0 term, 1 walker -/
def b_moves : S := (.seq (.expr (.call "leaves" (.cons (.var 0) .nil)))
  (.seq (.mk 1 (.var 0))
  (.seq (.expr (.mcall 1 "Walker.settle" (.cons (.tup .nil) .nil)))
  (.seq (.retT 1)
  .skip))))
def N_moves : List Str := ["term", "walker"]
/-- way: 0 one, 1 other, 2 move -/
def b_way : S := (.seq (.expr (.call "leaves" (.cons (.var 0) .nil)))
  (.seq (.expr (.call "leaves" (.cons (.var 1) .nil)))
  (.seq (.ite (.cmp .ne (.call "flat" (.cons (.var 0) .nil)) (.call "flat" (.cons (.var 1) .nil))) (.seq (.ret .non)
  .skip) .skip)
  (.seq (.ret (.bin .add (.call "moves" (.cons (.var 0) .nil)) (.lc (.call "back" (.cons (.var 2) .nil)) 2 (.rev (.call "moves" (.cons (.var 1) .nil))) .nil [])))
  .skip))))
def N_way : List Str := ["one", "other", "move"]
/-- uses: 0 pattern, 1 result, 2 whole, 3 filling -/
def b_uses : S := (.seq (.ret (.lc (.call "put" (.cons (.var 1) (.cons (.var 3) .nil))) 3 (.call "matched" (.cons (.var 0) (.cons (.var 2) (.cons (.dnew false) .nil)))) .nil [1]))
  .skip)
def N_uses : List Str := ["pattern", "result", "whole", "filling"]
/-- ones: 0 pattern, 1 result, 2 whole, 3 found, 4 there, 5 pick, 6 taken, 7 others, 8 came, 9 one, 10 place -/
def b_ones : S := (.seq (.set 3 (.call "uses" (.cons (.var 0) (.cons (.var 1) (.cons (.var 2) .nil)))))
  (.seq (.ite (.cmp .eq (.ix (.var 2) (.int (0))) (.str "pair")) (.seq (.expr (.extend 3 (.lc (.tup (.cons (.str "pair") (.cons (.var 9) (.cons (.ix (.var 2) (.int (2))) .nil)))) 9 (.call "ones" (.cons (.var 0) (.cons (.var 1) (.cons (.ix (.var 2) (.int (1))) .nil)))) .nil [2])))
  (.seq (.expr (.extend 3 (.lc (.tup (.cons (.str "pair") (.cons (.ix (.var 2) (.int (1))) (.cons (.var 9) .nil)))) 9 (.call "ones" (.cons (.var 0) (.cons (.var 1) (.cons (.ix (.var 2) (.int (2))) .nil)))) .nil [2])))
  .skip)) .skip)
  (.seq (.ite (.or_ (.cons (.cmp .eq (.ix (.var 2) (.int (0))) (.str "sum")) (.cons (.cmp .eq (.ix (.var 2) (.int (0))) (.str "mul")) .nil))) (.seq (.set 4 (.sl (.var 2) (.int (1)) .nil))
  (.seq (.for_ 5 (.call "picks" (.cons (.len (.var 4)) (.cons (.bin .sub (.len (.var 4)) (.int (1))) .nil))) (.seq (.set 6 (.lc (.ix (.var 4) (.var 10)) 10 (.var 5) .nil [4]))
  (.seq (.set 7 (.lc (.ix (.var 4) (.var 10)) 10 (.range1 (.len (.var 4))) (.cmp .nin (.var 10) (.var 5)) [4, 5]))
  (.seq (.ite (.cmp .eq (.len (.var 6)) (.int (1))) (.seq (.set 8 (.call "ones" (.cons (.var 0) (.cons (.var 1) (.cons (.ix (.var 6) (.int (0))) .nil)))))
  .skip) (.seq (.set 8 (.call "uses" (.cons (.var 0) (.cons (.var 1) (.cons (.call "joined" (.cons (.ix (.var 2) (.int (0))) (.cons (.var 6) .nil))) .nil)))))
  .skip))
  (.seq (.expr (.extend 3 (.lc (.call "joined" (.cons (.ix (.var 2) (.int (0))) (.cons (.bin .add (.lst (.cons (.var 9) .nil)) (.var 7)) .nil))) 9 (.var 8) .nil [2, 7])))
  .skip)))))
  .skip)) .skip)
  (.seq (.ret (.var 3))
  .skip))))
def N_ones : List Str := ["pattern", "result", "whole", "found", "there", "pick", "taken", "others", "came", "one", "place"]
/-- made: 0 rule, 1 term, 2 known, 3 number, 4 rows, 5 one -/
def b_made (R : Nat → S) : S := (.seq (.expr (.call "leaves" (.cons (.ix (.var 0) (.int (0))) .nil)))
  (.seq (.expr (.call "leaves" (.cons (.ix (.var 0) (.int (1))) .nil)))
  (.seq (.expr (.call "leaves" (.cons (.var 1) .nil)))
  (.seq (.set 2 (.call "opens" (.cons (.ix (.var 0) (.int (0))) .nil)))
  (.seq (.for_ 3 (.call "opens" (.cons (.ix (.var 0) (.int (1))) .nil)) (.seq (.ite (.cmp .nin (.var 3) (.var 2)) (.seq (R 6)
  .skip) .skip)
  .skip))
  (.seq (.ite (.cmp .ne (.call "opens" (.cons (.var 1) .nil)) (.lst .nil)) (.seq (R 5)
  .skip) .skip)
  (.seq (.set 4 (.dnew true))
  (.seq (.for_ 5 (.call "ones" (.cons (.call "flat" (.cons (.ix (.var 0) (.int (0))) .nil)) (.cons (.call "flat" (.cons (.ix (.var 0) (.int (1))) .nil)) (.cons (.call "flat" (.cons (.var 1) .nil)) .nil)))) (.seq (.nput 4 (.var 5) (.bl true))
  .skip))
  (.seq (.ret (.nsorted 4))
  .skip)))))))))
def N_made : List Str := ["rule", "term", "known", "number", "rows", "one"]
/-- _law_same: 0 _law_found, 1 _law_due, 2 _law_k -/
def b__law_same : S := (.seq (.ite (.isi (.var 1) .tuple) (.seq (.ite (.or_ (.cons (.not_ (.isi (.var 0) .tuple)) (.cons (.cmp .ne (.len (.var 0)) (.len (.var 1))) .nil))) (.seq (.ret (.bl false))
  .skip) .skip)
  (.seq (.for_ 2 (.range1 (.len (.var 1))) (.seq (.ite (.not_ (.call "_law_same" (.cons (.ix (.var 0) (.var 2)) (.cons (.ix (.var 1) (.var 2)) .nil)))) (.seq (.ret (.bl false))
  .skip) .skip)
  .skip))
  (.seq (.ret (.bl true))
  .skip))) .skip)
  (.seq (.ite (.isi (.var 1) .str) (.seq (.ret (.and_ (.cons (.isi (.var 0) .str) (.cons (.cmp .eq (.var 0) (.var 1)) .nil))))
  .skip) .skip)
  (.seq (.ret (.and_ (.cons (.isi (.var 0) .int) (.cons (.not_ (.isi (.var 0) .bool)) (.cons (.cmp .eq (.var 0) (.var 1)) .nil)))))
  .skip)))
def N__law_same : List Str := ["_law_found", "_law_due", "_law_k"]
/-- _law_places: 0 _law_term, 1 _law_found, 2 _law_waiting, 3 _law_pair -/
def b__law_places : S := (.seq (.set 1 (.lst .nil))
  (.seq (.set 2 (.lst (.cons (.tup (.cons (.var 0) (.cons (.tup .nil) .nil))) .nil)))
  (.seq (.whl (.cmp .ne (.var 2) (.lst .nil)) (.seq (.set 3 (.pop 2))
  (.seq (.expr (.append 1 (.ix (.var 3) (.int (1)))))
  (.seq (.ite (.cmp .eq (.len (.ix (.var 3) (.int (0)))) (.int (3))) (.seq (.expr (.append 2 (.tup (.cons (.ix (.ix (.var 3) (.int (0))) (.int (2))) (.cons (.bin .add (.ix (.var 3) (.int (1))) (.tup (.cons (.int (1)) .nil))) .nil)))))
  (.seq (.expr (.append 2 (.tup (.cons (.ix (.ix (.var 3) (.int (0))) (.int (1))) (.cons (.bin .add (.ix (.var 3) (.int (1))) (.tup (.cons (.int (0)) .nil))) .nil)))))
  .skip)) .skip)
  .skip))))
  (.seq (.ret (.var 1))
  .skip))))
def N__law_places : List Str := ["_law_term", "_law_found", "_law_waiting", "_law_pair"]
/-- _law_joins: 0 _law_term, 1 _law_found, 2 _law_waiting, 3 _law_pair -/
def b__law_joins : S := (.seq (.set 1 (.lst .nil))
  (.seq (.set 2 (.lst (.cons (.tup (.cons (.var 0) (.cons (.tup .nil) .nil))) .nil)))
  (.seq (.whl (.cmp .ne (.var 2) (.lst .nil)) (.seq (.set 3 (.pop 2))
  (.seq (.ite (.cmp .eq (.len (.ix (.var 3) (.int (0)))) (.int (3))) (.seq (.ite (.cmp .ne (.ix (.ix (.var 3) (.int (0))) (.int (0))) (.str "pair")) (.seq (.expr (.append 1 (.ix (.var 3) (.int (1)))))
  .skip) .skip)
  (.seq (.expr (.append 2 (.tup (.cons (.ix (.ix (.var 3) (.int (0))) (.int (2))) (.cons (.bin .add (.ix (.var 3) (.int (1))) (.tup (.cons (.int (1)) .nil))) .nil)))))
  (.seq (.expr (.append 2 (.tup (.cons (.ix (.ix (.var 3) (.int (0))) (.int (1))) (.cons (.bin .add (.ix (.var 3) (.int (1))) (.tup (.cons (.int (0)) .nil))) .nil)))))
  .skip))) .skip)
  .skip)))
  (.seq (.ret (.var 1))
  .skip))))
def N__law_joins : List Str := ["_law_term", "_law_found", "_law_waiting", "_law_pair"]
/-- Walker_take: 0 self, 1 word, 2 place -/
def b_Walker_take : S := (.seq (.setT 0 (.call "done" (.cons (.fld 0) (.cons (.tup (.cons (.var 1) (.cons (.var 2) .nil))) .nil))))
  (.seq (.appT 0 (.tup (.cons (.var 1) (.cons (.var 2) .nil))))
  .skip))
def N_Walker_take : List Str := ["self", "word", "place"]
/-- Walker_word_at: 0 self, 1 place -/
def b_Walker_word_at : S := (.seq (.ret (.ix (.call "part_at" (.cons (.fld 0) (.cons (.var 1) .nil))) (.int (0))))
  .skip)
def N_Walker_word_at : List Str := ["self", "place"]
/-- Walker_settle: 0 self, 1 place, 2 word -/
def b_Walker_settle : S := (.seq (.set 2 (.mcall 0 "Walker.word_at" (.cons (.var 1) .nil)))
  (.seq (.ite (.cmp .eq (.var 2) (.str "pair")) (.seq (.expr (.mcall 0 "Walker.settle" (.cons (.bin .add (.var 1) (.tup (.cons (.int (0)) .nil))) .nil)))
  (.seq (.expr (.mcall 0 "Walker.settle" (.cons (.bin .add (.var 1) (.tup (.cons (.int (1)) .nil))) .nil)))
  .skip)) .skip)
  (.seq (.ite (.or_ (.cons (.cmp .eq (.var 2) (.str "sum")) (.cons (.cmp .eq (.var 2) (.str "mul")) .nil))) (.seq (.expr (.mcall 0 "Walker.order" (.cons (.var 1) (.cons (.mcall 0 "Walker.comb" (.cons (.var 1) (.cons (.var 2) .nil))) .nil))))
  .skip) .skip)
  .skip)))
def N_Walker_settle : List Str := ["self", "place", "word"]
/-- Walker_comb: 0 self, 1 place, 2 sign, 3 many -/
def b_Walker_comb : S := (.seq (.set 3 (.int (1)))
  (.seq (.whl (.cmp .eq (.mcall 0 "Walker.word_at" (.cons (.var 1) .nil)) (.var 2)) (.seq (.whl (.cmp .eq (.mcall 0 "Walker.word_at" (.cons (.bin .add (.var 1) (.tup (.cons (.int (0)) .nil))) .nil)) (.var 2)) (.seq (.expr (.mcall 0 "Walker.take" (.cons (.str "right") (.cons (.var 1) .nil))))
  .skip))
  (.seq (.expr (.mcall 0 "Walker.settle" (.cons (.bin .add (.var 1) (.tup (.cons (.int (0)) .nil))) .nil)))
  (.seq (.set 1 (.bin .add (.var 1) (.tup (.cons (.int (1)) .nil))))
  (.seq (.set 3 (.bin .add (.var 3) (.int (1))))
  .skip)))))
  (.seq (.expr (.mcall 0 "Walker.settle" (.cons (.var 1) .nil)))
  (.seq (.ret (.var 3))
  .skip))))
def N_Walker_comb : List Str := ["self", "place", "sign", "many"]
/-- Walker_order: 0 self, 1 place, 2 many, 3 turn, 4 k -/
def b_Walker_order : S := (.seq (.for_ 3 (.range1 (.var 2)) (.seq (.for_ 4 (.range1 (.bin .sub (.var 2) (.int (1)))) (.seq (.expr (.mcall 0 "Walker.exchange" (.cons (.bin .add (.var 1) (.bin .mul (.tup (.cons (.int (1)) .nil)) (.var 4))) (.cons (.cmp .eq (.var 4) (.bin .sub (.var 2) (.int (2)))) .nil))))
  .skip))
  .skip))
  .skip)
def N_Walker_order : List Str := ["self", "place", "many", "turn", "k"]
/-- Walker_exchange: 0 self, 1 place, 2 is_last, 3 other -/
def b_Walker_exchange : S := (.seq (.set 3 (.ite (.var 2) (.bin .add (.var 1) (.tup (.cons (.int (1)) .nil))) (.bin .add (.var 1) (.tup (.cons (.int (1)) (.cons (.int (0)) .nil))))))
  (.seq (.ite (.cmp .le (.call "flat" (.cons (.call "part_at" (.cons (.fld 0) (.cons (.bin .add (.var 1) (.tup (.cons (.int (0)) .nil))) .nil))) .nil)) (.call "flat" (.cons (.call "part_at" (.cons (.fld 0) (.cons (.var 3) .nil))) .nil))) (.seq (.ret .non)
  .skip) .skip)
  (.seq (.ite (.var 2) (.seq (.expr (.mcall 0 "Walker.take" (.cons (.str "swap") (.cons (.var 1) .nil))))
  .skip) (.seq (.expr (.mcall 0 "Walker.take" (.cons (.str "left") (.cons (.var 1) .nil))))
  (.seq (.expr (.mcall 0 "Walker.take" (.cons (.str "swap") (.cons (.bin .add (.var 1) (.tup (.cons (.int (0)) .nil))) .nil))))
  (.seq (.expr (.mcall 0 "Walker.take" (.cons (.str "right") (.cons (.var 1) .nil))))
  .skip))))
  .skip)))
def N_Walker_exchange : List Str := ["self", "place", "is_last", "other"]
end DL

set_option Elab.async false
set_option linter.all false
set_option maxRecDepth 100000
/-! G0: the rules by which a run by values is worked out (printed by gsimp.py). -/
namespace DL
open PySem L2
section
variable (GL : Str → Option D) (C : Orc) (L : Nat)
@[simp] theorem ev_var_i {i} {g : Sg} : ev GL C (.var i) g = use i g := by first | (rw [ev] <;> rfl) | rfl
@[simp] theorem ev_int_i {i} {g : Sg} : ev GL C (.int i) g = .ok (.int i, .fr) g := by first | (rw [ev] <;> rfl) | rfl
@[simp] theorem ev_str_x {x} {g : Sg} : ev GL C (.str x) g = .ok (.str x, .fr) g := by first | (rw [ev] <;> rfl) | rfl
@[simp] theorem ev_bl_b {b} {g : Sg} : ev GL C (.bl b) g = .ok (.bool b, .fr) g := by first | (rw [ev] <;> rfl) | rfl
@[simp] theorem ev_non  {g : Sg} : ev GL C .non g = .ok (.none, .fr) g := by first | (rw [ev] <;> rfl) | rfl
@[simp] theorem ev_glob_x {x} {g : Sg} : ev GL C (.glob x) g = ofO ((GL x).bind globD) g := by first | (rw [ev] <;> rfl) | rfl
@[simp] theorem ev_tup_es {es} {g : Sg} : ev GL C (.tup es) g = (evs GL C es g).bd fun ds g => if ds.length ≤ sizeLine then .ok (.tuple ds, .fr) g else .stuck := by first | (rw [ev] <;> rfl) | rfl
@[simp] theorem ev_lst_es {es} {g : Sg} : ev GL C (.lst es) g = (evs GL C es g).bd fun ds g => if ds.length ≤ sizeLine then .ok (.list ds, .ow) g else .stuck := by first | (rw [ev] <;> rfl) | rfl
@[simp] theorem ev_dnew_n {n} {g : Sg} : ev GL C (.dnew n) g = .ok (.dict [], (match n with | true => Md.on | false => Md.ow)) g := by first | (rw [ev] <;> rfl) | rfl
@[simp] theorem ev_bin_o_a_b {o} {a} {b} {g : Sg} : ev GL C (.bin o a b) g = (opn a (ev GL C a g) g).bd fun x g => (opn b (ev GL C b g) g).bd fun y g => ofO ((x.get g).bind fun d => (y.get g).bind fun e => binD o d.1 e.1) g := by first | (rw [ev] <;> rfl) | rfl
@[simp] theorem ev_cmp_o_a_b {o} {a} {b} {g : Sg} : ev GL C (.cmp o a b) g = (opn a (ev GL C a g) g).bd fun x g => (opn b (ev GL C b g) g).bd fun y g => ofO ((x.get g).bind fun d => (y.get g).bind fun e => (cmpD o d.1 e.1 e.2).map fun c => (.bool c, .fr)) g := by first | (rw [ev] <;> rfl) | rfl
@[simp] theorem ev_and_es {es} {g : Sg} : ev GL C (.and_ es) g = evAnd GL C es g := by first | (rw [ev] <;> rfl) | rfl
@[simp] theorem ev_or_es {es} {g : Sg} : ev GL C (.or_ es) g = evOr GL C es g := by first | (rw [ev] <;> rfl) | rfl
@[simp] theorem ev_not_a {a} {g : Sg} : ev GL C (.not_ a) g = (ev GL C a g).bd fun p g => match p.1 with | .bool c => .ok (.bool (!c), .fr) g | _ => .stuck := by first | (rw [ev] <;> rfl) | rfl
@[simp] theorem ev_ite_t_a_b {t} {a} {b} {g : Sg} : ev GL C (.ite t a b) g = (ev GL C t g).bd fun p g => match p.1 with | .bool true => ev GL C a g | .bool false => ev GL C b g | _ => .stuck := by first | (rw [ev] <;> rfl) | rfl
@[simp] theorem ev_ix_a_i {a} {i} {g : Sg} : ev GL C (.ix a i) g = (opn a (ev GL C a g) g).bd fun x g => (ev GL C i g).bd fun k g => ofO ((x.get g).bind fun d => if d.2 = .on then none else (ixD d.1 k.1).map fun r => (r, .fr)) g := by first | (rw [ev] <;> rfl) | rfl
@[simp] theorem ev_sl_a_lo_hi {a} {lo} {hi} {g : Sg} : ev GL C (.sl a lo hi) g = (opn a (ev GL C a g) g).bd fun x g => (part lo (ev GL C lo g) g).bd fun l g => (part hi (ev GL C hi g) g).bd fun h g => ofO ((x.get g).bind fun d => slD d.1 l h) g := by first | (rw [ev] <;> rfl) | rfl
@[simp] theorem ev_call_f_es {f} {es} {g : Sg} : ev GL C (.call f es) g = (evs GL C es g).bd fun ds g => match C f ds with
    | .ok d m => if m = .on then .stuck else .ok (d, m) g
    | .exc c => .exc c g
    | .stuck => .stuck := by first | (rw [ev] <;> rfl) | rfl
@[simp] theorem ev_len_a {a} {g : Sg} : ev GL C (.len a) g = (opn a (ev GL C a g) g).bd fun x g => ofO ((x.get g).bind fun d => if d.2 = .on then none else (lenD d.1).map fun (n : Nat) => (((.int (n : Int)), .fr) : D × Md)) g := by first | (rw [ev] <;> rfl) | rfl
@[simp] theorem ev_list_a {a} {g : Sg} : ev GL C (.list a) g = (opn a (ev GL C a g) g).bd fun x g => ofO ((x.get g).bind listD) g := by first | (rw [ev] <;> rfl) | rfl
@[simp] theorem ev_tuple_a {a} {g : Sg} : ev GL C (.tuple a) g = (opn a (ev GL C a g) g).bd fun x g => ofO ((x.get g).bind tupleD) g := by first | (rw [ev] <;> rfl) | rfl
@[simp] theorem ev_sorted_a {a} {g : Sg} : ev GL C (.sorted a) g = (opn a (ev GL C a g) g).bd fun x g => ofO ((x.get g).bind sortedD) g := by first | (rw [ev] <;> rfl) | rfl
@[simp] theorem ev_sortset_a {a} {g : Sg} : ev GL C (.sortset a) g = (opn a (ev GL C a g) g).bd fun x g => ofO ((x.get g).bind fun d => sortsetD d.1) g := by first | (rw [ev] <;> rfl) | rfl
@[simp] theorem ev_dict_a {a} {g : Sg} : ev GL C (.dict a) g = (opn a (ev GL C a g) g).bd fun x g => ofO ((x.get g).bind dictD) g := by first | (rw [ev] <;> rfl) | rfl
@[simp] theorem ev_min_a_b {a} {b} {g : Sg} : ev GL C (.min a b) g = (ev GL C a g).bd fun x g => (ev GL C b g).bd fun y g => match x.1, y.1 with | .int i, .int j => .ok (.int (if j < i then j else i), .fr) g | _, _ => .stuck := by first | (rw [ev] <;> rfl) | rfl
@[simp] theorem ev_max_a_b {a} {b} {g : Sg} : ev GL C (.max a b) g = (ev GL C a g).bd fun x g => (ev GL C b g).bd fun y g => match x.1, y.1 with | .int i, .int j => .ok (.int (if j > i then j else i), .fr) g | _, _ => .stuck := by first | (rw [ev] <;> rfl) | rfl
@[simp] theorem ev_toInt_a {a} {g : Sg} : ev GL C (.toInt a) g = (ev GL C a g).bd fun x g => match x.1 with | .bool c => .ok (.int (if c then 1 else 0), .fr) g | .int i => .ok (.int i, .fr) g | _ => .stuck := by first | (rw [ev] <;> rfl) | rfl
@[simp] theorem ev_isi_a_t {a} {t} {g : Sg} : ev GL C (.isi a t) g = (opn a (ev GL C a g) g).bd fun x g => ofO ((x.get g).bind fun d => if d.2 = .on then none else some (.bool (isiD d.1 t), .fr)) g := by first | (rw [ev] <;> rfl) | rfl
@[simp] theorem ev_dictzip_a_b {a} {b} {g : Sg} : ev GL C (.dictzip a b) g = (ev GL C a g).bd fun x g => if x.2 = .on then .stuck else (ev GL C b g).bd fun y g => if y.2 = .on then .stuck else ofO (dictzipD x.1 y.1) g := by first | (rw [ev] <;> rfl) | rfl
@[simp] theorem ev_pop_i {i} {g : Sg} : ev GL C (.pop i) g = match g[i]? with
    | some (some (.list ds, .ow)) => match ds[ds.length - 1]? with
      | some d => .ok (d, .fr) (g.set i (some (.list ds.dropLast, .ow)))
      | none => .stuck
    | _ => .stuck := by first | (rw [ev] <;> rfl) | rfl
@[simp] theorem ev_append_i_a {i} {a} {g : Sg} : ev GL C (.append i a) g = if ownL i g then (ev GL C a g).bd fun p g => if p.2 = .on then .stuck else match g[i]? with
    | some (some (.list ds, .ow)) => if ds.length < sizeLine then .ok (.none, .fr) (g.set i (some (.list (ds ++ [p.1]), .ow))) else .stuck
    | _ => .stuck
    else .stuck := by first | (rw [ev] <;> rfl) | rfl
@[simp] theorem ev_extend_i_a {i} {a} {g : Sg} : ev GL C (.extend i a) g = if ownL i g then (ev GL C a g).bd fun p g => match p.1, g[i]? with
    | .list es, some (some (.list ds, .ow)) => if ds.length + es.length ≤ sizeLine then .ok (.none, .fr) (g.set i (some (.list (ds ++ es), .ow))) else .stuck
    | _, _ => .stuck
    else .stuck := by first | (rw [ev] <;> rfl) | rfl
@[simp] theorem ev_clear_i {i} {g : Sg} : ev GL C (.clear i) g = match g[i]? with
    | some (some (.list _, .ow)) => .ok (.none, .fr) (g.set i (some (.list [], .ow)))
    | _ => .stuck := by first | (rw [ev] <;> rfl) | rfl
@[simp] theorem ev_dpop_i_a {i} {a} {g : Sg} : ev GL C (.dpop i a) g = if ownD i g then (ev GL C a g).bd fun p g => match g[i]? with
    | some (some (.dict kvs, .ow)) => if isInt p.1 then match getKey kvs p.1 with
      | some d => .ok (d, .fr) (g.set i (some (.dict (dropKey kvs p.1), .ow)))
      | none => .stuck
      else .stuck
    | _ => .stuck
    else .stuck := by first | (rw [ev] <;> rfl) | rfl
@[simp] theorem ev_lc_elt_i_it_cond_fz {elt} {i} {it} {cond} {fz} {g : Sg} : ev GL C (.lc elt i it cond fz) g = (ev GL C it (freeze fz g)).bd fun p g => if p.2 = .on then .stuck else match itemsD p.1 with
    | some ds => match lcGo (fun d => (iff_ cond (ev GL C cond ((hide g).set i (some (d, .fr)))) ((hide g).set i (some (d, .fr)))).bd fun c g => if c then (ev GL C elt g).bd fun p g => if p.2 = .on then .stuck else .ok (some p.1) g else .ok none g) ds with
      | some out => if out.length ≤ sizeLine then .ok (.list out, .ow) g else .stuck
      | none => .stuck
    | none => .stuck := by first | (rw [ev] <;> rfl) | rfl
@[simp] theorem ev_range1_a {a} {g : Sg} : ev GL C (.range1 a) g = (ev GL C a g).bd fun p g => match p.1 with | .int n => if rngOk n then .ok (.list (rangeD 0 n), .fr) g else .stuck | _ => .stuck := by first | (rw [ev] <;> rfl) | rfl
@[simp] theorem ev_range2_a_b {a} {b} {g : Sg} : ev GL C (.range2 a b) g = (ev GL C a g).bd fun x g => (ev GL C b g).bd fun y g => match x.1, y.1 with | .int lo, .int hi => if rngOk lo && rngOk hi then .ok (.list (rangeD lo hi), .fr) g else .stuck | _, _ => .stuck := by first | (rw [ev] <;> rfl) | rfl
@[simp] theorem ev_rev_a {a} {g : Sg} : ev GL C (.rev a) g = (ev GL C a g).bd fun p g => if p.2 = .on then .stuck else match itemsD p.1 with | some ds => .ok (.list ds.reverse, .fr) g | none => .stuck := by first | (rw [ev] <;> rfl) | rfl
@[simp] theorem ev_gnin_x_a {x} {a} {g : Sg} : ev GL C (.gnin x a) g = if isDictO (GL x) then (ev GL C a g).bd fun p g => ofO (gninD (GL x) p.1) g else .stuck := by first | (rw [ev] <;> rfl) | rfl
@[simp] theorem ev_gix_x_a {x} {a} {g : Sg} : ev GL C (.gix x a) g = if isDictO (GL x) then (ev GL C a g).bd fun p g => ofO (gixD (GL x) p.1) g else .stuck := by first | (rw [ev] <;> rfl) | rfl
@[simp] theorem ev_dcmp_n_a_b {n} {a} {b} {g : Sg} : ev GL C (.dcmp n a b) g = (opn a (ev GL C a g) g).bd fun x g => (opn b (ev GL C b g) g).bd fun y g => ofO ((x.get g).bind fun d => (y.get g).bind fun e => if alikeD d e then some (.bool (!n), .fr) else none) g := by first | (rw [ev] <;> rfl) | rfl
@[simp] theorem ev_dpick_kvs_a {kvs} {a} {g : Sg} : ev GL C (.dpick kvs a) g = match ev GL C a (hide g) with
    | .ok p _ => ofO (dpickD kvs p.1) g
    | _ => .stuck := by first | (rw [ev] <;> rfl) | rfl
@[simp] theorem ev_fld_i {i} {g : Sg} : ev GL C (.fld i) g = ofO (((objAt i g).bind fldD).map fun t => (t, .fr)) g := by first | (rw [ev] <;> rfl) | rfl
@[simp] theorem ev_mcall_i_m_es {i} {m} {es} {g : Sg} : ev GL C (.mcall i m es) g = if (objAt i g).isSome then (evs GL C es g).bd fun ds g => match (objAt i g).bind fun st => metD (C m (.tuple st :: ds)) with
    | some (r, st) => .ok (r, .fr) (g.set i (some (.tuple st, .on)))
    | none => .stuck
    else .stuck := by first | (rw [ev] <;> rfl) | rfl
@[simp] theorem ev_nnin_i_a {i} {a} {g : Sg} : ev GL C (.nnin i a) g = (ev GL C a g).bd fun p g => if p.2 = .on then .stuck else match nestAt i g with
    | some kvs => if tupKey p.1 then .ok (.bool (!hasKey kvs p.1), .fr) g else .stuck
    | none => .stuck := by first | (rw [ev] <;> rfl) | rfl
@[simp] theorem ev_nlist_i {i} {g : Sg} : ev GL C (.nlist i) g = match nestAt i g with
    | some kvs => if kvs.length ≤ sizeLine then .ok (.list (kvs.map (·.1)), .ow) g else .stuck
    | none => .stuck := by first | (rw [ev] <;> rfl) | rfl
@[simp] theorem ev_nsorted_i {i} {g : Sg} : ev GL C (.nsorted i) g = match nestAt i g with
    | some kvs => if sortable (kvs.map (·.1)) then .ok (.list (sortD (kvs.map (·.1))), .ow) g else .stuck
    | none => .stuck := by first | (rw [ev] <;> rfl) | rfl
@[simp] theorem ev_nil  {g : Sg} : ev GL C .nil g = .stuck := by first | (rw [ev] <;> rfl) | rfl
@[simp] theorem ev_cons_u0_u1 {u0} {u1} {g : Sg} : ev GL C (.cons u0 u1) g = .stuck := by first | (rw [ev] <;> rfl) | rfl
@[simp] theorem evs_nil  {g : Sg} : evs GL C .nil g = .ok [] g := by first | (rw [evs] <;> rfl) | rfl
@[simp] theorem evs_cons_a_r {a} {r} {g : Sg} : evs GL C (.cons a r) g = (ev GL C a g).bd fun p g => if p.2 = .on then .stuck else (evs GL C r g).bd fun ds g => .ok (p.1 :: ds) g := by first | (rw [evs] <;> rfl) | rfl
@[simp] theorem ex_skip  {g : Sg} : ex GL C L .skip g = .ok .next g := by first | (rw [ex] <;> rfl) | rfl
@[simp] theorem ex_seq_a_r {a} {r} {g : Sg} : ex GL C L (.seq a r) g = (ex GL C L a g).bd fun c g => match c with
    | .next => ex GL C L r g
    | .brk => .ok .brk g
    | .cont => .ok .cont g
    | .ret d m => .ok (.ret d m) g := by first | (rw [ex] <;> rfl) | rfl
@[simp] theorem ex_set_i_e {i} {e} {g : Sg} : ex GL C L (.set i e) g = (ev GL C e g).bd fun p g => .ok .next (g.set i (some p)) := by first | (rw [ex] <;> rfl) | rfl
@[simp] theorem ex_put_i_k_v {i} {k} {v} {g : Sg} : ex GL C L (.put i k v) g = (ev GL C v g).bd fun p g => if p.2 = .on then .stuck else if ownDD i g then (ev GL C k g).bd fun q g => match g[i]? with
    | some (some (.dict kvs, .ow)) => if isInt q.1 ∧ kvs.length < sizeLine then .ok .next (g.set i (some (.dict (putKey kvs q.1 p.1), .ow))) else .stuck
    | _ => .stuck
    else .stuck := by first | (rw [ex] <;> rfl) | rfl
@[simp] theorem ex_ite_t_a_b {t} {a} {b} {g : Sg} : ex GL C L (.ite t a b) g = (ev GL C t g).bd fun p g => match p.1 with
    | .bool true => ex GL C L a g
    | .bool false => ex GL C L b g
    | _ => .stuck := by first | (rw [ex] <;> rfl) | rfl
@[simp] theorem ex_whl_t_b {t} {b} {g : Sg} : ex GL C L (.whl t b) g = whlGo (ev GL C t) (ex GL C L b) L g := by first | (rw [ex] <;> rfl) | rfl
@[simp] theorem ex_for_i_it_b {i} {it} {b} {g : Sg} : ex GL C L (.for_ i it b) g = (ev GL C it g).bd fun p g => if p.2 = .on then .stuck else match itemsD p.1 with
    | some ds => forGo (fun d g => ex GL C L b (g.set i (some (d, .fr)))) ds g
    | none => .stuck := by first | (rw [ex] <;> rfl) | rfl
@[simp] theorem ex_ret_e {e} {g : Sg} : ex GL C L (.ret e) g = (retv GL C e g).bd fun p g => .ok (.ret p.1 p.2) g := by first | (rw [ex] <;> rfl) | rfl
@[simp] theorem ex_expr_e {e} {g : Sg} : ex GL C L (.expr e) g = (ev GL C e g).bd fun _ g => .ok .next g := by first | (rw [ex] <;> rfl) | rfl
@[simp] theorem ex_raise_c {c} {g : Sg} : ex GL C L (.raise c) g = .exc c g := by first | (rw [ex] <;> rfl) | rfl
@[simp] theorem ex_try_cn_b_hs {cn} {b} {hs} {g : Sg} : ex GL C L (.try_ cn b hs) g = match ex GL C L b g with
    | .exc c g => if cn.contains c then match catchD hs c with
        | some d => .ok (.ret d .fr) g
        | none => .exc c g
      else .stuck
    | r => r := by first | (rw [ex] <;> rfl) | rfl
@[simp] theorem ex_never  {g : Sg} : ex GL C L .never g = .stuck := by first | (rw [ex] <;> rfl) | rfl
@[simp] theorem ex_mk_i_e {i} {e} {g : Sg} : ex GL C L (.mk i e) g = if i = 0 then .stuck else match C "Walker.__init__" [.none, .none] with
    | .ok _ _ => (ev GL C e g).bd fun p g => if p.2 = .on then .stuck else .ok .next (g.set i (some (.tuple [p.1, .list []], .on)))
    | _ => .stuck := by first | (rw [ex] <;> rfl) | rfl
@[simp] theorem ex_setT_i_e {i} {e} {g : Sg} : ex GL C L (.setT i e) g = (ev GL C e g).bd fun p g => if p.2 = .on then .stuck else match (objAt i g).bind (setTD p.1) with
    | some st => .ok .next (g.set i (some (.tuple st, .on)))
    | none => .stuck := by first | (rw [ex] <;> rfl) | rfl
@[simp] theorem ex_appT_i_e {i} {e} {g : Sg} : ex GL C L (.appT i e) g = match ev GL C e (hide g) with
    | .ok p _ => if p.2 = .on then .stuck else match (objAt i g).bind (appTD p.1) with
      | some st => .ok .next (g.set i (some (.tuple st, .on)))
      | none => .stuck
    | _ => .stuck := by first | (rw [ex] <;> rfl) | rfl
@[simp] theorem ex_retT_i {i} {g : Sg} : ex GL C L (.retT i) g = match (objAt i g).bind takD with
    | some ds => .ok (.ret (.list ds) .ow) (g.set i none)
    | none => .stuck := by first | (rw [ex] <;> rfl) | rfl
@[simp] theorem ex_nput_i_k_v {i} {k} {v} {g : Sg} : ex GL C L (.nput i k v) g = (ev GL C v g).bd fun p g => if p.2 = .on then .stuck else if (nestAt i g).isSome then (ev GL C k g).bd fun q g => if q.2 = .on then .stuck else match nestAt i g with
    | some kvs => if tupKey q.1 ∧ kvs.length < sizeLine then .ok .next (g.set i (some (.dict (putKey kvs q.1 p.1), .on))) else .stuck
    | none => .stuck
    else .stuck := by first | (rw [ex] <;> rfl) | rfl
@[simp] theorem evAnd_one {a : E} {g : Sg} : evAnd GL C (.cons a .nil) g = (ev GL C a g).bd fun p g => match p.1 with | .bool c => .ok (.bool c, .fr) g | _ => .stuck := by rw [evAnd] <;> rfl
@[simp] theorem evAnd_more {a b r : E} {g : Sg} : evAnd GL C (.cons a (.cons b r)) g = (ev GL C a g).bd fun p g => match p.1 with | .bool true => evAnd GL C (.cons b r) g | .bool false => .ok (.bool false, .fr) g | _ => .stuck := by rw [evAnd] <;> first | rfl | (intro h; cases h)
@[simp] theorem evOr_one {a : E} {g : Sg} : evOr GL C (.cons a .nil) g = (ev GL C a g).bd fun p g => match p.1 with | .bool c => .ok (.bool c, .fr) g | _ => .stuck := by rw [evOr] <;> rfl
@[simp] theorem evOr_more {a b r : E} {g : Sg} : evOr GL C (.cons a (.cons b r)) g = (ev GL C a g).bd fun p g => match p.1 with | .bool false => evOr GL C (.cons b r) g | .bool true => .ok (.bool true, .fr) g | _ => .stuck := by rw [evOr] <;> first | rfl | (intro h; cases h)
end
@[simp] theorem opn_def (a : E) (r : Res (D × Md)) (g : Sg) : opn a r g = (match a with
  | .var i => match g[i]? with
    | some (some _) => .ok (.s i) g
    | _ => .stuck
  | _ => r.bd fun p g => if p.2 = Md.on then .stuck else .ok (.v p.1) g) := rfl
@[simp] theorem Opn_get_def (o : Opn) (g : Sg) : Opn.get o g = (match o with
  | .v d => some (d, .fr)
  | .s i => match g[i]? with
    | some (some p) => if isObj p then none else some p
    | _ => none) := rfl
@[simp] theorem use_def (i : Nat) (g : Sg) : use i g = (match g[i]? with
  | some (some (d, .fr)) => .ok (d, .fr) g
  | some (some (d, .ow)) => .ok (d, .fr) (g.set i (some (d, .fr)))
  | _ => .stuck) := rfl
@[simp] theorem ofO_def {α : Type} (o : Option α) (g : Sg) : ofO o g = (match o with
  | some a => .ok a g
  | none => .stuck) := rfl
@[simp] theorem part_def (a : E) (r : Res (D × Md)) (g : Sg) : part a r g = (match a with
  | .nil => .ok none g
  | _ => r.bd fun p g => match p.1 with | .int i => .ok (some i) g | _ => .stuck) := rfl
@[simp] theorem iff__def (a : E) (r : Res (D × Md)) (g : Sg) : iff_ a r g = (match a with
  | .nil => .ok true g
  | _ => r.bd fun p g => match p.1 with | .bool c => .ok c g | _ => .stuck) := rfl
@[simp] theorem ixD_def (d i : D) : ixD d i = (match d, i with
  | .list xs, .int k => atI xs k
  | .tuple xs, .int k => atI xs k
  | .dict kvs, .int k => getKey kvs (.int k)
  | _, _ => none) := rfl
@[simp] theorem slD_def (d : D) (lo hi : Option Int) : slD d lo hi = (match d with
  | .list xs => some (.list (cutL xs lo hi), .ow)
  | .tuple xs => some (.tuple (cutL xs lo hi), .fr)
  | _ => none) := rfl
@[simp] theorem ownL_def (i : Nat) (g : Sg) : ownL i g = (match g[i]? with
  | some (some (.list _, .ow)) => true
  | _ => false) := rfl
@[simp] theorem ownD_def (i : Nat) (g : Sg) : ownD i g = (match g[i]? with
  | some (some (.dict _, .ow)) => true
  | _ => false) := rfl
@[simp] theorem ownDD_def (i : Nat) (g : Sg) : ownDD i g = (match g[i]? with
  | some (some (.dict _, .ow)) => true
  | _ => false) := rfl
@[simp] theorem freeze_def (fz : List Nat) (g : Sg) : freeze fz g = (fz.foldl frz1 g) := rfl
@[simp] theorem frz1_def (g : Sg) (i : Nat) : frz1 g i = (match g[i]? with
  | some (some (d, .ow)) => g.set i (some (d, .fr))
  | _ => g) := rfl
@[simp] theorem cmpD_def (o : C2) (d e : D) (m : Md) : cmpD o d e m = (match o with
  | .eq => if eqOk d e then some (PyData.eqv d e) else none
  | .ne => if eqOk d e then some (!PyData.eqv d e) else none
  | .lt => orO (ltS d e) (orO (ltT d e) (ltL d e))
  | .gt => orO (ltS e d) (ltT e d)
  | .le => (orO (ltS e d) (ltT e d)).map (!·)
  | .ge => (ltS d e).map (!·)
  | .isn => match e with | .none => some (isNoneD d) | _ => none
  | .notn => match e with | .none => some (!isNoneD d) | _ => none
  | .in_ => cmpD.inD d e m
  | .nin => (cmpD.inD d e m).map (!·)) := rfl
@[simp] theorem startG_def (ns : Nat) (ds : List D) : startG ns ds = (ds.map (fun d => some (d, .fr)) ++ List.replicate (ns - ds.length) none) := rfl
@[simp] theorem hide_def (g : Sg) : hide g = (g.map hide1) := rfl
@[simp] theorem objAt_def (i : Nat) (g : Sg) : objAt i g = (match g[i]? with
  | some (some (.tuple st, .on)) => some st
  | _ => none) := rfl
@[simp] theorem nestAt_def (i : Nat) (g : Sg) : nestAt i g = (match g[i]? with
  | some (some (.dict kvs, .on)) => some kvs
  | _ => none) := rfl
@[simp] theorem isObj_def (p : D × Md) : isObj p = (match p.2 with
  | .on => (match p.1 with | .tuple _ => true | _ => false)
  | _ => false) := rfl
@[simp] theorem fldD_mk {t : D} {ds : List D} : fldD [t, .list ds] = some t := rfl
@[simp] theorem dpickD_str {kvs : List (Str × Str)} {k : Str} : dpickD kvs (.str k) = (pickS kvs k none).map fun y => (.str y, .fr) := rfl
@[simp] theorem pickS_nil {k : Str} {o : Option Str} : pickS [] k o = o := rfl
@[simp] theorem pickS_cons {k : Str} {o : Option Str} {p : Str × Str} {r : List (Str × Str)} : pickS (p :: r) k o = pickS r k (if k = p.1 then some p.2 else o) := rfl
@[simp] theorem takD_mk {t : D} {ds : List D} : takD [t, .list ds] = some ds := rfl
@[simp] theorem setTD_mk {t t0 : D} {ds : List D} : setTD t [t0, .list ds] = some [t, .list ds] := rfl
@[simp] theorem appTD_mk {x t : D} {ds : List D} : appTD x [t, .list ds] = if ds.length < sizeLine then some [t, .list (ds ++ [x])] else none := rfl
@[simp] theorem metD_mk {r : D} {st : List D} : metD (.ok (.tuple [r, .tuple st]) .on) = some (r, st) := rfl
section
variable {GL : Str → Option D} {C : Orc}
@[simp] theorem retv_var {i : Nat} {g : Sg} : retv GL C (.var i) g = (match g[i]? with | some (some (d, .ow)) => .ok (d, .ow) g | some (some (d, .fr)) => .ok (d, .fr) g | _ => .stuck) := rfl
theorem retv_ev {e : E} {g : Sg} (h : (match e with | .var _ => false | _ => true) = true) : retv GL C e g = ev GL C e g := by cases e <;> first | rfl | cases h

@[simp] theorem retv_nil  {g : Sg} : retv GL C (.nil ) g = ev GL C (.nil ) g := rfl
@[simp] theorem retv_cons  {a r : E} {g : Sg} : retv GL C (.cons a r) g = ev GL C (.cons a r) g := rfl
@[simp] theorem retv_int  {i : Int} {g : Sg} : retv GL C (.int i) g = ev GL C (.int i) g := rfl
@[simp] theorem retv_str  {x : Str} {g : Sg} : retv GL C (.str x) g = ev GL C (.str x) g := rfl
@[simp] theorem retv_bl  {b : Bool} {g : Sg} : retv GL C (.bl b) g = ev GL C (.bl b) g := rfl
@[simp] theorem retv_non  {g : Sg} : retv GL C (.non ) g = ev GL C (.non ) g := rfl
@[simp] theorem retv_glob  {x : Str} {g : Sg} : retv GL C (.glob x) g = ev GL C (.glob x) g := rfl
@[simp] theorem retv_tup  {es : E} {g : Sg} : retv GL C (.tup es) g = ev GL C (.tup es) g := rfl
@[simp] theorem retv_lst  {es : E} {g : Sg} : retv GL C (.lst es) g = ev GL C (.lst es) g := rfl
@[simp] theorem retv_dnew  {nested : Bool} {g : Sg} : retv GL C (.dnew nested) g = ev GL C (.dnew nested) g := rfl
@[simp] theorem retv_bin  {o : B2} {a b : E} {g : Sg} : retv GL C (.bin o a b) g = ev GL C (.bin o a b) g := rfl
@[simp] theorem retv_cmp  {o : C2} {a b : E} {g : Sg} : retv GL C (.cmp o a b) g = ev GL C (.cmp o a b) g := rfl
@[simp] theorem retv_and_  {es : E} {g : Sg} : retv GL C (.and_ es) g = ev GL C (.and_ es) g := rfl
@[simp] theorem retv_or_  {es : E} {g : Sg} : retv GL C (.or_ es) g = ev GL C (.or_ es) g := rfl
@[simp] theorem retv_not_  {a : E} {g : Sg} : retv GL C (.not_ a) g = ev GL C (.not_ a) g := rfl
@[simp] theorem retv_ite  {t a b : E} {g : Sg} : retv GL C (.ite t a b) g = ev GL C (.ite t a b) g := rfl
@[simp] theorem retv_ix  {a i : E} {g : Sg} : retv GL C (.ix a i) g = ev GL C (.ix a i) g := rfl
@[simp] theorem retv_sl  {a lo hi : E} {g : Sg} : retv GL C (.sl a lo hi) g = ev GL C (.sl a lo hi) g := rfl
@[simp] theorem retv_call  {f : Str} {es : E} {g : Sg} : retv GL C (.call f es) g = ev GL C (.call f es) g := rfl
@[simp] theorem retv_len  {a : E} {g : Sg} : retv GL C (.len a) g = ev GL C (.len a) g := rfl
@[simp] theorem retv_list  {a : E} {g : Sg} : retv GL C (.list a) g = ev GL C (.list a) g := rfl
@[simp] theorem retv_tuple  {a : E} {g : Sg} : retv GL C (.tuple a) g = ev GL C (.tuple a) g := rfl
@[simp] theorem retv_sorted  {a : E} {g : Sg} : retv GL C (.sorted a) g = ev GL C (.sorted a) g := rfl
@[simp] theorem retv_sortset  {a : E} {g : Sg} : retv GL C (.sortset a) g = ev GL C (.sortset a) g := rfl
@[simp] theorem retv_dict  {a : E} {g : Sg} : retv GL C (.dict a) g = ev GL C (.dict a) g := rfl
@[simp] theorem retv_min  {a b : E} {g : Sg} : retv GL C (.min a b) g = ev GL C (.min a b) g := rfl
@[simp] theorem retv_max  {a b : E} {g : Sg} : retv GL C (.max a b) g = ev GL C (.max a b) g := rfl
@[simp] theorem retv_toInt  {a : E} {g : Sg} : retv GL C (.toInt a) g = ev GL C (.toInt a) g := rfl
@[simp] theorem retv_isi  {a : E} {t : Ty} {g : Sg} : retv GL C (.isi a t) g = ev GL C (.isi a t) g := rfl
@[simp] theorem retv_dictzip  {a b : E} {g : Sg} : retv GL C (.dictzip a b) g = ev GL C (.dictzip a b) g := rfl
@[simp] theorem retv_pop  {i : Nat} {g : Sg} : retv GL C (.pop i) g = ev GL C (.pop i) g := rfl
@[simp] theorem retv_append  {i : Nat} {a : E} {g : Sg} : retv GL C (.append i a) g = ev GL C (.append i a) g := rfl
@[simp] theorem retv_extend  {i : Nat} {a : E} {g : Sg} : retv GL C (.extend i a) g = ev GL C (.extend i a) g := rfl
@[simp] theorem retv_clear  {i : Nat} {g : Sg} : retv GL C (.clear i) g = ev GL C (.clear i) g := rfl
@[simp] theorem retv_dpop  {i : Nat} {a : E} {g : Sg} : retv GL C (.dpop i a) g = ev GL C (.dpop i a) g := rfl
@[simp] theorem retv_lc  {elt : E} {i : Nat} {it cond : E} {fz : List Nat} {g : Sg} : retv GL C (.lc elt i it cond fz) g = ev GL C (.lc elt i it cond fz) g := rfl
@[simp] theorem retv_range1  {a : E} {g : Sg} : retv GL C (.range1 a) g = ev GL C (.range1 a) g := rfl
@[simp] theorem retv_range2  {a b : E} {g : Sg} : retv GL C (.range2 a b) g = ev GL C (.range2 a b) g := rfl
@[simp] theorem retv_rev  {a : E} {g : Sg} : retv GL C (.rev a) g = ev GL C (.rev a) g := rfl
@[simp] theorem retv_gnin  {x : Str} {a : E} {g : Sg} : retv GL C (.gnin x a) g = ev GL C (.gnin x a) g := rfl
@[simp] theorem retv_gix  {x : Str} {a : E} {g : Sg} : retv GL C (.gix x a) g = ev GL C (.gix x a) g := rfl
@[simp] theorem retv_dcmp  {ne : Bool} {a b : E} {g : Sg} : retv GL C (.dcmp ne a b) g = ev GL C (.dcmp ne a b) g := rfl
@[simp] theorem retv_fld  {i : Nat} {g : Sg} : retv GL C (.fld i) g = ev GL C (.fld i) g := rfl
@[simp] theorem retv_mcall  {i : Nat} {m : Str} {es : E} {g : Sg} : retv GL C (.mcall i m es) g = ev GL C (.mcall i m es) g := rfl
@[simp] theorem retv_dpick  {kvs : List (Str × Str)} {a : E} {g : Sg} : retv GL C (.dpick kvs a) g = ev GL C (.dpick kvs a) g := rfl
@[simp] theorem retv_nnin  {i : Nat} {a : E} {g : Sg} : retv GL C (.nnin i a) g = ev GL C (.nnin i a) g := rfl
@[simp] theorem retv_nlist  {i : Nat} {g : Sg} : retv GL C (.nlist i) g = ev GL C (.nlist i) g := rfl
@[simp] theorem retv_nsorted  {i : Nat} {g : Sg} : retv GL C (.nsorted i) g = ev GL C (.nsorted i) g := rfl
end
@[simp] theorem isi_none_int  : isiD (.none : D) .int = false := rfl
@[simp] theorem isi_none_bool  : isiD (.none : D) .bool = false := rfl
@[simp] theorem isi_none_str  : isiD (.none : D) .str = false := rfl
@[simp] theorem isi_none_tuple  : isiD (.none : D) .tuple = false := rfl
@[simp] theorem isi_none_list  : isiD (.none : D) .list = false := rfl
@[simp] theorem isi_none_dict  : isiD (.none : D) .dict = false := rfl
@[simp] theorem isInt_none  : isInt (.none : D) = false := rfl
@[simp] theorem isNone_none  : isNoneD (.none : D) = true := rfl
@[simp] theorem isi_bool_int {b : Bool} : isiD (.bool b : D) .int = true := rfl
@[simp] theorem isi_bool_bool {b : Bool} : isiD (.bool b : D) .bool = true := rfl
@[simp] theorem isi_bool_str {b : Bool} : isiD (.bool b : D) .str = false := rfl
@[simp] theorem isi_bool_tuple {b : Bool} : isiD (.bool b : D) .tuple = false := rfl
@[simp] theorem isi_bool_list {b : Bool} : isiD (.bool b : D) .list = false := rfl
@[simp] theorem isi_bool_dict {b : Bool} : isiD (.bool b : D) .dict = false := rfl
@[simp] theorem isInt_bool {b : Bool} : isInt (.bool b : D) = false := rfl
@[simp] theorem isNone_bool {b : Bool} : isNoneD (.bool b : D) = false := rfl
@[simp] theorem isi_int_int {i : Int} : isiD (.int i : D) .int = true := rfl
@[simp] theorem isi_int_bool {i : Int} : isiD (.int i : D) .bool = false := rfl
@[simp] theorem isi_int_str {i : Int} : isiD (.int i : D) .str = false := rfl
@[simp] theorem isi_int_tuple {i : Int} : isiD (.int i : D) .tuple = false := rfl
@[simp] theorem isi_int_list {i : Int} : isiD (.int i : D) .list = false := rfl
@[simp] theorem isi_int_dict {i : Int} : isiD (.int i : D) .dict = false := rfl
@[simp] theorem isInt_int {i : Int} : isInt (.int i : D) = true := rfl
@[simp] theorem isNone_int {i : Int} : isNoneD (.int i : D) = false := rfl
@[simp] theorem isi_str_int {x : Str} : isiD (.str x : D) .int = false := rfl
@[simp] theorem isi_str_bool {x : Str} : isiD (.str x : D) .bool = false := rfl
@[simp] theorem isi_str_str {x : Str} : isiD (.str x : D) .str = true := rfl
@[simp] theorem isi_str_tuple {x : Str} : isiD (.str x : D) .tuple = false := rfl
@[simp] theorem isi_str_list {x : Str} : isiD (.str x : D) .list = false := rfl
@[simp] theorem isi_str_dict {x : Str} : isiD (.str x : D) .dict = false := rfl
@[simp] theorem isInt_str {x : Str} : isInt (.str x : D) = false := rfl
@[simp] theorem isNone_str {x : Str} : isNoneD (.str x : D) = false := rfl
@[simp] theorem isi_tuple_int {xs : List D} : isiD (.tuple xs : D) .int = false := rfl
@[simp] theorem isi_tuple_bool {xs : List D} : isiD (.tuple xs : D) .bool = false := rfl
@[simp] theorem isi_tuple_str {xs : List D} : isiD (.tuple xs : D) .str = false := rfl
@[simp] theorem isi_tuple_tuple {xs : List D} : isiD (.tuple xs : D) .tuple = true := rfl
@[simp] theorem isi_tuple_list {xs : List D} : isiD (.tuple xs : D) .list = false := rfl
@[simp] theorem isi_tuple_dict {xs : List D} : isiD (.tuple xs : D) .dict = false := rfl
@[simp] theorem isInt_tuple {xs : List D} : isInt (.tuple xs : D) = false := rfl
@[simp] theorem isNone_tuple {xs : List D} : isNoneD (.tuple xs : D) = false := rfl
@[simp] theorem isi_list_int {xs : List D} : isiD (.list xs : D) .int = false := rfl
@[simp] theorem isi_list_bool {xs : List D} : isiD (.list xs : D) .bool = false := rfl
@[simp] theorem isi_list_str {xs : List D} : isiD (.list xs : D) .str = false := rfl
@[simp] theorem isi_list_tuple {xs : List D} : isiD (.list xs : D) .tuple = false := rfl
@[simp] theorem isi_list_list {xs : List D} : isiD (.list xs : D) .list = true := rfl
@[simp] theorem isi_list_dict {xs : List D} : isiD (.list xs : D) .dict = false := rfl
@[simp] theorem isInt_list {xs : List D} : isInt (.list xs : D) = false := rfl
@[simp] theorem isNone_list {xs : List D} : isNoneD (.list xs : D) = false := rfl
@[simp] theorem isi_dict_int {kvs : List (D × D)} : isiD (.dict kvs : D) .int = false := rfl
@[simp] theorem isi_dict_bool {kvs : List (D × D)} : isiD (.dict kvs : D) .bool = false := rfl
@[simp] theorem isi_dict_str {kvs : List (D × D)} : isiD (.dict kvs : D) .str = false := rfl
@[simp] theorem isi_dict_tuple {kvs : List (D × D)} : isiD (.dict kvs : D) .tuple = false := rfl
@[simp] theorem isi_dict_list {kvs : List (D × D)} : isiD (.dict kvs : D) .list = false := rfl
@[simp] theorem isi_dict_dict {kvs : List (D × D)} : isiD (.dict kvs : D) .dict = true := rfl
@[simp] theorem isInt_dict {kvs : List (D × D)} : isInt (.dict kvs : D) = false := rfl
@[simp] theorem isNone_dict {kvs : List (D × D)} : isNoneD (.dict kvs : D) = false := rfl
section
variable {i j : Int} {xs ys : List D}
@[simp] theorem binx_add : binD .add (.int i) (.int j) = some (.int (i + j), .fr) := rfl
@[simp] theorem binx_addL : binD .add (.list xs) (.list ys) = if xs.length + ys.length ≤ sizeLine then some (.list (xs ++ ys), .ow) else none := rfl
@[simp] theorem binx_addT : binD .add (.tuple xs) (.tuple ys) = if xs.length + ys.length ≤ sizeLine then some (.tuple (xs ++ ys), .fr) else none := rfl
@[simp] theorem binx_sub : binD .sub (.int i) (.int j) = some (.int (i - j), .fr) := rfl
@[simp] theorem binx_mul : binD .mul (.int i) (.int j) = if mulOk i j then some (.int (i * j), .fr) else none := rfl
@[simp] theorem binx_mulL : binD .mul (.list xs) (.int i) = if 0 ≤ i ∧ i ≤ 1000 ∧ xs.length ≤ 1000 then some (.list (List.replicate i.toNat xs).flatten, .ow) else none := rfl
@[simp] theorem binx_mulT : binD .mul (.tuple xs) (.int i) = if 0 ≤ i ∧ i ≤ 1000 ∧ 0 < xs.length ∧ xs.length ≤ 1000 then some (.tuple (List.replicate i.toNat xs).flatten, .fr) else none := rfl
@[simp] theorem binx_fdiv : binD .fdiv (.int i) (.int j) = if 0 < j ∧ j.natAbs.log2 < 9000 then some (.int (i / j), .fr) else none := rfl
@[simp] theorem binx_mod : binD .mod (.int i) (.int j) = if 0 < j then some (.int (i % j), .fr) else none := rfl
@[simp] theorem binx_pow : binD .pow (.int i) (.int j) = if 0 ≤ j ∧ (Builtin.Int.intBits i : Int) * j ≤ 2 ^ 27 then some (.int (i ^ j.toNat), .fr) else none := rfl
@[simp] theorem log_lit {n : Nat} [h : NeZero n] (hn : n < 1000000000000) : n.log2 < 9000 := by
  have : n.log2 ≤ 50 := by
    have : n < 2 ^ 50 := Nat.lt_of_lt_of_le hn (by decide)
    have := (Nat.log2_lt h.ne).mpr this
    omega
  omega
end
@[simp] theorem hide1_fr {d : D} : hide1 (some (d, .fr)) = some (d, .fr) := rfl
@[simp] theorem hide1_ow {d : D} : hide1 (some (d, .ow)) = none := rfl
@[simp] theorem hide1_on {d : D} : hide1 (some (d, .on)) = none := rfl
@[simp] theorem hide1_none : hide1 none = none := rfl
@[simp] theorem size_val : sizeLine = 16777216 := sizeLine_eq
@[simp] theorem lenD_list {xs : List D} : lenD (.list xs) = some xs.length := rfl
@[simp] theorem lenD_tuple {xs : List D} : lenD (.tuple xs) = some xs.length := rfl
@[simp] theorem lenD_dict {xs : List (D × D)} : lenD (.dict xs) = some xs.length := rfl
@[simp] theorem ltS_int {i j : Int} : ltS (.int i) (.int j) = some (decide (i < j)) := rfl
@[simp] theorem globD_int {i : Int} : globD (.int i) = some (.int i, .fr) := rfl
@[simp] theorem orO_some {c : Bool} {b : Option Bool} : orO (some c) b = some c := rfl
@[simp] theorem orO_none {b : Option Bool} : orO none b = b := rfl
@[simp] theorem ltS_tuple {xs ys : List D} : ltS (.tuple xs) (.tuple ys) = none := rfl
@[simp] theorem ltS_list {xs ys : List D} : ltS (.list xs) (.list ys) = none := rfl
@[simp] theorem isDictO_some {es : List (D × D)} : isDictO (some (.dict es)) = true := rfl
@[simp] theorem itemsD_list {xs : List D} : itemsD (.list xs) = some xs := rfl
@[simp] theorem itemsD_tuple {xs : List D} : itemsD (.tuple xs) = some xs := rfl
@[simp] theorem listD_list {xs : List D} {m : Md} : listD (.list xs, m) = some (.list xs, .ow) := by cases m <;> rfl
@[simp] theorem listD_tuple {xs : List D} {m : Md} : listD (.tuple xs, m) = some (.list xs, .ow) := by cases m <;> rfl
@[simp] theorem tupleD_list {xs : List D} {m : Md} : tupleD (.list xs, m) = some (.tuple xs, .fr) := by cases m <;> rfl
@[simp] theorem tupleD_tuple {xs : List D} {m : Md} : tupleD (.tuple xs, m) = some (.tuple xs, .fr) := by cases m <;> rfl
@[simp] theorem toCR_next (g : Sg) : toCR (.ok .next g) = .ok .none .fr := rfl
@[simp] theorem toCR_retF (d : D) (g : Sg) : toCR (.ok (.ret d .fr) g) = .ok d .fr := rfl
@[simp] theorem toCR_retO (d : D) (g : Sg) : toCR (.ok (.ret d .ow) g) = .ok d .ow := rfl
@[simp] theorem toCR_exc (c : Nat) (g : Sg) : toCR (.exc c g) = .exc c := rfl
@[simp] theorem at0 {x : D} {r : List D} : atI (x :: r) 0 = some x := atI_nat (j := 0) rfl
@[simp] theorem at1 {x y : D} {r : List D} : atI (x :: y :: r) 1 = some y := atI_nat (j := 1) rfl
@[simp] theorem at2 {x y z : D} {r : List D} : atI (x :: y :: z :: r) 2 = some z := atI_nat (j := 2) rfl
@[simp] theorem at3 {x y z w : D} {r : List D} : atI (x :: y :: z :: w :: r) 3 = some w := atI_nat (j := 3) rfl
@[simp] theorem eqOk_str {x y : Str} (hx : PyData.strOk x = true) (hy : PyData.strOk y = true) : eqOk (.str x) (.str y) = true := by simp [eqOk, PyData.canLay0, hx, hy, PyData.depth]
@[simp] theorem eqOk_int {i j : Int} : eqOk (.int i) (.int j) = true := by simp [eqOk, PyData.canLay0, PyData.depth]
@[simp] theorem eqv_str {x y : Str} : PyData.eqv (.str x) (.str y) = decide (x = y) := rfl
@[simp] theorem eqv_int {i j : Int} : PyData.eqv (.int i) (.int j) = decide (i = j) := rfl
@[simp] theorem ok_name : PyData.strOk (Str.ofString "name") = true := by decide +kernel
@[simp] theorem ne_name_open : (Str.ofString "name" = Str.ofString "open") = False := by simp only [eq_iff_iff, iff_false]; decide
@[simp] theorem ne_name_sum : (Str.ofString "name" = Str.ofString "sum") = False := by simp only [eq_iff_iff, iff_false]; decide
@[simp] theorem ne_name_mul : (Str.ofString "name" = Str.ofString "mul") = False := by simp only [eq_iff_iff, iff_false]; decide
@[simp] theorem ne_name_pair : (Str.ofString "name" = Str.ofString "pair") = False := by simp only [eq_iff_iff, iff_false]; decide
@[simp] theorem ne_name_swap : (Str.ofString "name" = Str.ofString "swap") = False := by simp only [eq_iff_iff, iff_false]; decide
@[simp] theorem ne_name_left : (Str.ofString "name" = Str.ofString "left") = False := by simp only [eq_iff_iff, iff_false]; decide
@[simp] theorem ne_name_right : (Str.ofString "name" = Str.ofString "right") = False := by simp only [eq_iff_iff, iff_false]; decide
@[simp] theorem ok_open : PyData.strOk (Str.ofString "open") = true := by decide +kernel
@[simp] theorem ne_open_name : (Str.ofString "open" = Str.ofString "name") = False := by simp only [eq_iff_iff, iff_false]; decide
@[simp] theorem ne_open_sum : (Str.ofString "open" = Str.ofString "sum") = False := by simp only [eq_iff_iff, iff_false]; decide
@[simp] theorem ne_open_mul : (Str.ofString "open" = Str.ofString "mul") = False := by simp only [eq_iff_iff, iff_false]; decide
@[simp] theorem ne_open_pair : (Str.ofString "open" = Str.ofString "pair") = False := by simp only [eq_iff_iff, iff_false]; decide
@[simp] theorem ne_open_swap : (Str.ofString "open" = Str.ofString "swap") = False := by simp only [eq_iff_iff, iff_false]; decide
@[simp] theorem ne_open_left : (Str.ofString "open" = Str.ofString "left") = False := by simp only [eq_iff_iff, iff_false]; decide
@[simp] theorem ne_open_right : (Str.ofString "open" = Str.ofString "right") = False := by simp only [eq_iff_iff, iff_false]; decide
@[simp] theorem ok_sum : PyData.strOk (Str.ofString "sum") = true := by decide +kernel
@[simp] theorem ne_sum_name : (Str.ofString "sum" = Str.ofString "name") = False := by simp only [eq_iff_iff, iff_false]; decide
@[simp] theorem ne_sum_open : (Str.ofString "sum" = Str.ofString "open") = False := by simp only [eq_iff_iff, iff_false]; decide
@[simp] theorem ne_sum_mul : (Str.ofString "sum" = Str.ofString "mul") = False := by simp only [eq_iff_iff, iff_false]; decide
@[simp] theorem ne_sum_pair : (Str.ofString "sum" = Str.ofString "pair") = False := by simp only [eq_iff_iff, iff_false]; decide
@[simp] theorem ne_sum_swap : (Str.ofString "sum" = Str.ofString "swap") = False := by simp only [eq_iff_iff, iff_false]; decide
@[simp] theorem ne_sum_left : (Str.ofString "sum" = Str.ofString "left") = False := by simp only [eq_iff_iff, iff_false]; decide
@[simp] theorem ne_sum_right : (Str.ofString "sum" = Str.ofString "right") = False := by simp only [eq_iff_iff, iff_false]; decide
@[simp] theorem ok_mul : PyData.strOk (Str.ofString "mul") = true := by decide +kernel
@[simp] theorem ne_mul_name : (Str.ofString "mul" = Str.ofString "name") = False := by simp only [eq_iff_iff, iff_false]; decide
@[simp] theorem ne_mul_open : (Str.ofString "mul" = Str.ofString "open") = False := by simp only [eq_iff_iff, iff_false]; decide
@[simp] theorem ne_mul_sum : (Str.ofString "mul" = Str.ofString "sum") = False := by simp only [eq_iff_iff, iff_false]; decide
@[simp] theorem ne_mul_pair : (Str.ofString "mul" = Str.ofString "pair") = False := by simp only [eq_iff_iff, iff_false]; decide
@[simp] theorem ne_mul_swap : (Str.ofString "mul" = Str.ofString "swap") = False := by simp only [eq_iff_iff, iff_false]; decide
@[simp] theorem ne_mul_left : (Str.ofString "mul" = Str.ofString "left") = False := by simp only [eq_iff_iff, iff_false]; decide
@[simp] theorem ne_mul_right : (Str.ofString "mul" = Str.ofString "right") = False := by simp only [eq_iff_iff, iff_false]; decide
@[simp] theorem ok_pair : PyData.strOk (Str.ofString "pair") = true := by decide +kernel
@[simp] theorem ne_pair_name : (Str.ofString "pair" = Str.ofString "name") = False := by simp only [eq_iff_iff, iff_false]; decide
@[simp] theorem ne_pair_open : (Str.ofString "pair" = Str.ofString "open") = False := by simp only [eq_iff_iff, iff_false]; decide
@[simp] theorem ne_pair_sum : (Str.ofString "pair" = Str.ofString "sum") = False := by simp only [eq_iff_iff, iff_false]; decide
@[simp] theorem ne_pair_mul : (Str.ofString "pair" = Str.ofString "mul") = False := by simp only [eq_iff_iff, iff_false]; decide
@[simp] theorem ne_pair_swap : (Str.ofString "pair" = Str.ofString "swap") = False := by simp only [eq_iff_iff, iff_false]; decide
@[simp] theorem ne_pair_left : (Str.ofString "pair" = Str.ofString "left") = False := by simp only [eq_iff_iff, iff_false]; decide
@[simp] theorem ne_pair_right : (Str.ofString "pair" = Str.ofString "right") = False := by simp only [eq_iff_iff, iff_false]; decide
@[simp] theorem ok_swap : PyData.strOk (Str.ofString "swap") = true := by decide +kernel
@[simp] theorem ne_swap_name : (Str.ofString "swap" = Str.ofString "name") = False := by simp only [eq_iff_iff, iff_false]; decide
@[simp] theorem ne_swap_open : (Str.ofString "swap" = Str.ofString "open") = False := by simp only [eq_iff_iff, iff_false]; decide
@[simp] theorem ne_swap_sum : (Str.ofString "swap" = Str.ofString "sum") = False := by simp only [eq_iff_iff, iff_false]; decide
@[simp] theorem ne_swap_mul : (Str.ofString "swap" = Str.ofString "mul") = False := by simp only [eq_iff_iff, iff_false]; decide
@[simp] theorem ne_swap_pair : (Str.ofString "swap" = Str.ofString "pair") = False := by simp only [eq_iff_iff, iff_false]; decide
@[simp] theorem ne_swap_left : (Str.ofString "swap" = Str.ofString "left") = False := by simp only [eq_iff_iff, iff_false]; decide
@[simp] theorem ne_swap_right : (Str.ofString "swap" = Str.ofString "right") = False := by simp only [eq_iff_iff, iff_false]; decide
@[simp] theorem ok_left : PyData.strOk (Str.ofString "left") = true := by decide +kernel
@[simp] theorem ne_left_name : (Str.ofString "left" = Str.ofString "name") = False := by simp only [eq_iff_iff, iff_false]; decide
@[simp] theorem ne_left_open : (Str.ofString "left" = Str.ofString "open") = False := by simp only [eq_iff_iff, iff_false]; decide
@[simp] theorem ne_left_sum : (Str.ofString "left" = Str.ofString "sum") = False := by simp only [eq_iff_iff, iff_false]; decide
@[simp] theorem ne_left_mul : (Str.ofString "left" = Str.ofString "mul") = False := by simp only [eq_iff_iff, iff_false]; decide
@[simp] theorem ne_left_pair : (Str.ofString "left" = Str.ofString "pair") = False := by simp only [eq_iff_iff, iff_false]; decide
@[simp] theorem ne_left_swap : (Str.ofString "left" = Str.ofString "swap") = False := by simp only [eq_iff_iff, iff_false]; decide
@[simp] theorem ne_left_right : (Str.ofString "left" = Str.ofString "right") = False := by simp only [eq_iff_iff, iff_false]; decide
@[simp] theorem ok_right : PyData.strOk (Str.ofString "right") = true := by decide +kernel
@[simp] theorem ne_right_name : (Str.ofString "right" = Str.ofString "name") = False := by simp only [eq_iff_iff, iff_false]; decide
@[simp] theorem ne_right_open : (Str.ofString "right" = Str.ofString "open") = False := by simp only [eq_iff_iff, iff_false]; decide
@[simp] theorem ne_right_sum : (Str.ofString "right" = Str.ofString "sum") = False := by simp only [eq_iff_iff, iff_false]; decide
@[simp] theorem ne_right_mul : (Str.ofString "right" = Str.ofString "mul") = False := by simp only [eq_iff_iff, iff_false]; decide
@[simp] theorem ne_right_pair : (Str.ofString "right" = Str.ofString "pair") = False := by simp only [eq_iff_iff, iff_false]; decide
@[simp] theorem ne_right_swap : (Str.ofString "right" = Str.ofString "swap") = False := by simp only [eq_iff_iff, iff_false]; decide
@[simp] theorem ne_right_left : (Str.ofString "right" = Str.ofString "left") = False := by simp only [eq_iff_iff, iff_false]; decide
end DL

set_option Elab.async false
set_option linter.all false
set_option maxRecDepth 100000
/-! G1: runs by values of the common defs: terms, leaves. -/
namespace DL
open PySem L2

/-! ### calls -/
/-- the call comes to r, with c calls or more left -/
def Calls (GL : Str → Option D) (T : Str → Option Fd) (L c : Nat) (f : Str) (ds : List D) (r : CR) : Prop := ∀ n, c ≤ n → callD GL T L n f ds = r
theorem callD_succ {GL : Str → Option D} {T : Str → Option Fd} {L n : Nat} {f : Str} {ds : List D} {fd : Fd} (hT : T f = some fd) (hl : ds.length = fd.np) (hk : fd.kd = 0 := by rfl) : callD GL T L (n + 1) f ds = toCR (ex GL (callD GL T L n) L fd.body (startG fd.ns ds)) := by
  rw [callD]; simp only [hT, hl, if_true, hk]
theorem Calls.mk {GL : Str → Option D} {T : Str → Option Fd} {L c : Nat} {f : Str} {ds : List D} {r : CR} {fd : Fd} (hT : T f = some fd) (hl : ds.length = fd.np) (h : ∀ n, c ≤ n → toCR (ex GL (callD GL T L n) L fd.body (startG fd.ns ds)) = r) (hk : fd.kd = 0 := by rfl) : Calls GL T L (c + 1) f ds r := by
  intro n hn
  obtain ⟨m, rfl⟩ : ∃ m, n = m + 1 := ⟨n - 1, by omega⟩
  rw [callD_succ hT hl hk]
  exact h m (by omega)
theorem Calls.mono {GL : Str → Option D} {T : Str → Option Fd} {L c c' : Nat} {f : Str} {ds : List D} {r : CR} (h : Calls GL T L c f ds r) (hc : c ≤ c') : Calls GL T L c' f ds r := fun n hn => h n (by omega)

/-! ### loops -/
/-- a while loop, by an invariant with a measure -/
theorem whl_inv {t : Sg → Res (D × Md)} {f : Sg → Res Ctl} (I : Nat → Sg → Prop) {Q : Res Ctl → Prop} (hd : ∀ m g, I m g → (∃ m1 g1, t g = .ok (.bool false, m1) g1 ∧ Q (.ok .next g1)) ∨ (∃ m1 g1, t g = .ok (.bool true, m1) g1 ∧ ∃ g2, f g1 = .ok .next g2 ∧ ∃ m', m' < m ∧ I m' g2)) :
    ∀ (L m : Nat) (g : Sg), m < L → I m g → Q (whlGo t f L g)
  | 0, m, g, h, _ => absurd h (Nat.not_lt_zero _)
  | L + 1, m, g, h, i => by
    rw [whlGo]
    rcases hd m g i with ⟨m1, g1, e, q⟩ | ⟨m1, g1, e, g2, e2, m', hm, i2⟩
    · rw [e]; exact q
    · rw [e]
      simp only [bd_ok]
      rw [e2]
      exact whl_inv I hd L m' g2 (by omega) i2
/-- a for loop, by an invariant -/
theorem for_inv {f : D → Sg → Res Ctl} (I : Nat → Sg → Prop) {Q : Res Ctl → Prop} (ds : List D) {g : Sg} (h0 : I 0 g) (hs : ∀ i d g, ds[i]? = some d → I i g → ∃ g', f d g = .ok .next g' ∧ I (i + 1) g') (hd : ∀ g, I ds.length g → Q (.ok .next g)) : Q (forGo f ds g) := by
  have go : ∀ (n i : Nat) (g : Sg), n = ds.length - i → i ≤ ds.length → I i g → Q (forGo f (ds.drop i) g) := by
    intro n
    induction n with
    | zero =>
      intro i g hn hi h
      have e : i = ds.length := by omega
      subst e
      rw [List.drop_length, forGo]
      exact hd g h
    | succ n ih =>
      intro i g hn hi h
      have hlt : i < ds.length := by omega
      rw [List.drop_eq_getElem_cons hlt, forGo]
      obtain ⟨g', e, h'⟩ := hs i _ g (List.getElem?_eq_getElem hlt) h
      rw [e]
      exact ih (i + 1) g' (by omega) hlt h'
  have := go _ 0 g rfl (Nat.zero_le _) h0
  simpa using this

/-! ### statements, one after another -/
/-- Q holds of what the statement comes to -/
def Runs (GL : Str → Option D) (C : Orc) (L : Nat) (s : S) (g : Sg) (Q : Res Ctl → Prop) : Prop := Q (ex GL C L s g)
section
variable {GL : Str → Option D} {C : Orc} {L : Nat} {Q : Res Ctl → Prop} {a b r : S} {e t it : E} {g g1 : Sg} {p : D × Md} {i : Nat} {m : Md} {d : D}
theorem Runs.sq (h : ex GL C L a g = .ok .next g1) (h2 : Runs GL C L r g1 Q) : Runs GL C L (.seq a r) g Q := by
  unfold Runs at *; rw [ex, h]; exact h2
theorem Runs.set (h : ev GL C e g = .ok p g1) (h2 : Runs GL C L r (g1.set i (some p)) Q) : Runs GL C L (.seq (.set i e) r) g Q := .sq (by rw [ex, h]; rfl) h2
theorem Runs.ex (h : ev GL C e g = .ok p g1) (h2 : Runs GL C L r g1 Q) : Runs GL C L (.seq (.expr e) r) g Q := .sq (by rw [DL.ex, h]; rfl) h2
theorem Runs.as (h : Runs GL C L (.seq a (.seq b r)) g Q) : Runs GL C L (.seq (.seq a b) r) g Q := by
  unfold Runs at *
  rw [DL.ex, DL.ex] at *
  cases q : DL.ex GL C L a g with
  | ok c g1 =>
    rw [q] at h
    cases c with
    | next => simp only [bd_ok] at h ⊢; rw [DL.ex] at h; exact h
    | brk => exact h
    | cont => exact h
    | ret d m => exact h
  | exc c g1 => rw [q] at h; exact h
  | stuck => rw [q] at h; exact h
theorem Runs.skip (h : Runs GL C L r g Q) : Runs GL C L (.seq .skip r) g Q := .sq (by rw [DL.ex]) h
theorem Runs.ifT (h : ev GL C t g = .ok (.bool true, m) g1) (h2 : Runs GL C L (.seq a r) g1 Q) : Runs GL C L (.seq (.ite t a b) r) g Q := by
  unfold Runs at *; rw [DL.ex] at *; rw [DL.ex, h]; exact h2
theorem Runs.ifF (h : ev GL C t g = .ok (.bool false, m) g1) (h2 : Runs GL C L (.seq b r) g1 Q) : Runs GL C L (.seq (.ite t a b) r) g Q := by
  unfold Runs at *; rw [DL.ex] at *; rw [DL.ex, h]; exact h2
theorem Runs.nil (h : Q (.ok .next g)) : Runs GL C L .skip g Q := by unfold Runs; rw [DL.ex]; exact h
theorem Runs.ret (h : retv GL C e g = .ok (d, m) g1) (h2 : Q (.ok (.ret d m) g1)) : Runs GL C L (.seq (.ret e) r) g Q := by
  unfold Runs; rw [DL.ex, DL.ex, h]; exact h2
theorem Runs.for_ {ds : List D} (I : Nat → Sg → Prop) (h : ev GL C it g = .ok (d, m) g1) (hm : m ≠ .on) (hd : itemsD d = some ds) (h0 : I 0 g1)
    (hs : ∀ j x g, ds[j]? = some x → I j g → ∃ g', DL.ex GL C L b (g.set i (some (x, .fr))) = .ok .next g' ∧ I (j + 1) g') (hr : ∀ g, I ds.length g → Runs GL C L r g Q) : Runs GL C L (.seq (.for_ i it b) r) g Q := by
  unfold Runs at *
  rw [DL.ex, DL.ex, h]
  simp only [bd_ok, hm, if_false, hd]
  exact for_inv I (Q := fun x => Q (x.bd _)) ds h0 hs hr
theorem Runs.whl (I : Nat → Sg → Prop) (n : Nat) (hn : n < L) (h0 : I n g) (hd : ∀ m g, I m g → (∃ m1 g1, ev GL C t g = .ok (.bool false, m1) g1 ∧ Runs GL C L r g1 Q) ∨ (∃ m1 g1, ev GL C t g = .ok (.bool true, m1) g1 ∧ ∃ g2, DL.ex GL C L b g1 = .ok .next g2 ∧ ∃ m', m' < m ∧ I m' g2)) :
    Runs GL C L (.seq (.whl t b) r) g Q := by
  unfold Runs at *
  rw [DL.ex, DL.ex]
  exact whl_inv I (Q := fun x => Q (x.bd _)) hd L n g hn h0
end
theorem call_runs {GL : Str → Option D} {T : Str → Option Fd} {L n : Nat} {f : Str} {ds : List D} {fd : Fd} {r : CR} (hT : T f = some fd) (hl : ds.length = fd.np) (h : Runs GL (callD GL T L n) L fd.body (startG fd.ns ds) fun x => toCR x = r) (hk : fd.kd = 0 := by rfl) : callD GL T L (n + 1) f ds = r := by
  rw [callD_succ hT hl hk]; exact h

/-! ### terms -/
inductive Sn where
  | sum | mul | pair
  deriving DecidableEq
def Sn.s : Sn → Str
  | .sum => Str.ofString "sum"
  | .mul => Str.ofString "mul"
  | .pair => Str.ofString "pair"
def kS : Bool → Str
  | true => Str.ofString "open"
  | false => Str.ofString "name"
inductive Tm where
  | leaf (o : Bool) (i : Int)
  | node (s : Sn) (a b : Tm)
def Tm.d : Tm → D
  | .leaf o i => .tuple [.str (kS o), .int i]
  | .node s a b => .tuple [.str s.s, a.d, b.d]
/-- a leaf's number is as it may be -/
def leafOk (o : Bool) (i : Int) : Prop := 0 ≤ i ∧ if o = true then i < 10 else i ≤ 1000000000
def Tm.ok : Tm → Prop
  | .leaf o i => leafOk o i
  | .node _ a b => a.ok ∧ b.ok
/-- its leaves, from the left -/
def Tm.ls : Tm → List (Bool × Int)
  | .leaf o i => [(o, i)]
  | .node _ a b => a.ls ++ b.ls
def Tm.sz : Tm → Nat
  | .leaf _ _ => 1
  | .node _ a b => a.sz + b.sz + 1
theorem Tm.ls_pos : ∀ t : Tm, 0 < t.ls.length
  | .leaf _ _ => by simp [Tm.ls]
  | .node _ a b => by have := a.ls_pos; simp [Tm.ls]; omega
theorem Tm.sz_ls : ∀ t : Tm, t.sz + 1 = 2 * t.ls.length
  | .leaf _ _ => rfl
  | .node _ a b => by have := a.sz_ls; have := b.sz_ls; simp [Tm.ls, Tm.sz]; omega
def lfD (p : Bool × Int) : D := .tuple [.str (kS p.1), .int p.2]
/-- what the module's names are -/
structure Lib1 (GL : Str → Option D) (T : Str → Option Fd) (R : Nat → S) : Prop where
  whole : T (Str.ofString "is_whole") = some ⟨1, 1, b_is_whole, 0⟩
  leaf : T (Str.ofString "is_leaf") = some ⟨1, 1, b_is_leaf, 0⟩
  shape : T (Str.ofString "has_shape") = some ⟨1, 1, b_has_shape, 0⟩
  of : T (Str.ofString "leaves_of") = some ⟨1, 4, b_leaves_of R, 0⟩
  lv : (T (Str.ofString "leaves")).isSome = true → T (Str.ofString "leaves") = some ⟨1, 1, b_leaves, 0⟩
  gr : GL (Str.ofString "GREATEST") = some (.int 1000000000)
  op : GL (Str.ofString "OPENS") = some (.int 10)
  le : GL (Str.ofString "LEAVES") = some (.int 40)
section
variable {GL : Str → Option D} {T : Str → Option Fd} {L : Nat} {R : Nat → S}
theorem r_is_whole (l : Lib1 GL T R) (i : Int) : Calls GL T L 1 (Str.ofString "is_whole") [.int i] (.ok (.bool true) .fr) :=
  .mk l.whole rfl fun n _ => by simp [b_is_whole]
theorem r_is_leaf (l : Lib1 GL T R) (t : Tm) : Calls GL T L 1 (Str.ofString "is_leaf") [t.d] (.ok (.bool (match t with | .leaf _ _ => true | _ => false)) .fr) :=
  .mk l.leaf rfl fun n _ => by
    cases t with
    | leaf o i => cases o <;> simp [b_is_leaf, Tm.d, kS]
    | node s a b => cases s <;> simp [b_is_leaf, Tm.d, Sn.s]
theorem r_has_shape (l : Lib1 GL T R) (t : Tm) (ok : t.ok) : Calls GL T L 2 (Str.ofString "has_shape") [t.d] (.ok (.bool true) .fr) :=
  .mk l.shape rfl fun n hn => by
    cases t with
    | leaf o i =>
      have hc := r_is_whole (L := L) l i n hn
      have ok : leafOk o i := ok
      obtain ⟨h1, h2⟩ := ok
      have h1' : ¬ i < 0 := by omega
      cases o with
      | true =>
        have h2 : i < 10 := by simpa using h2
        simp [b_has_shape, Tm.d, kS, hc, l.gr, l.op, h1', h2]
      | false =>
        have h2 : ¬ 1000000000 < i := by have : i ≤ 1000000000 := by simpa using h2
                                         omega
        simp [b_has_shape, Tm.d, kS, hc, l.gr, l.op, h1', h2]
    | node s a b => cases s <;> simp [b_has_shape, Tm.d, Sn.s]
end
end DL

set_option Elab.async false
set_option linter.all false
set_option maxRecDepth 100000
/-! G2: leaves_of, leaves, opens. -/
namespace DL
open PySem L2

theorem lay_kS (o : Bool) : PyData.strOk (kS o) = true := by cases o <;> decide +kernel
theorem lay_sS (s : Sn) : PyData.strOk s.s = true := by cases s <;> decide +kernel
theorem Tm.lay : ∀ t : Tm, t.d.canLay0 = true
  | .leaf o i => by simp [Tm.d, PyData.canLay0, PyData.canLayAll0, lay_kS]
  | .node s a b => by simp [Tm.d, PyData.canLay0, PyData.canLayAll0, lay_sS, a.lay, b.lay]
theorem layAll_map {α : Type} {f : α → D} (h : ∀ a, (f a).canLay0 = true) : ∀ l : List α, PyData.canLayAll0 (l.map f) = true
  | [] => by simp [PyData.canLayAll0]
  | a :: l => by simp [PyData.canLayAll0, h a, layAll_map h l]
theorem lay_lfD (p : Bool × Int) : (lfD p).canLay0 = true := by simp [lfD, PyData.canLay0, PyData.canLayAll0, lay_kS]
/-- row != [], row == [] -/
theorem eqOk_nil {ds : List D} (h : PyData.canLayAll0 ds = true) : eqOk (.list ds) (.list []) = true := by
  have : Nat.min (PyData.depth (.list ds)) (PyData.depth (.list [])) ≤ 200 := Nat.le_trans (Nat.min_le_right _ _) (by decide)
  simp [eqOk, PyData.canLay0, PyData.canLayAll0, h]
  exact this
theorem eqv_nil {ds : List D} : PyData.eqv (.list ds) (.list []) = ds.isEmpty := by cases ds <;> simp [PyData.eqv, PyData.eqvAll]
@[simp] theorem eqOk_nil0 : eqOk (.list []) (.list []) = true := eqOk_nil (by simp [PyData.canLayAll0])
@[simp] theorem snoc_empty {α : Type} {l : List α} {a : α} : (l ++ [a]).isEmpty = false := by cases l <;> rfl
theorem small_line {n : Nat} (h : n ≤ 100000) : n < sizeLine := by rw [sizeLine_eq]; omega
def szs (ws : List Tm) : Nat := (ws.map Tm.sz).sum
theorem szs_append (a b : List Tm) : szs (a ++ b) = szs a + szs b := by simp [szs]
section
variable {GL : Str → Option D} {T : Str → Option Fd} {L : Nat} {R : Nat → S}
/-- the leaves of the terms that wait, the last one first -/
def lsW (ws : List Tm) : List (Bool × Int) := (ws.reverse.map Tm.ls).flatten
theorem lsW_snoc (ws : List Tm) (t : Tm) : lsW (ws ++ [t]) = t.ls ++ lsW ws := by simp [lsW]
theorem len_le_szs : ∀ ws : List Tm, ws.length ≤ szs ws
  | [] => by simp [szs]
  | t :: ws => by
    have := len_le_szs ws
    have : 0 < t.sz := by cases t <;> simp [Tm.sz]
    simp [szs] at *
    omega
theorem snoc_cases {α : Type} (l : List α) : l = [] ∨ ∃ l' a, l = l' ++ [a] := by
  rcases List.eq_nil_or_concat l with h | ⟨l', a, h⟩
  · exact .inl h
  · exact .inr ⟨l', a, by simpa using h⟩
theorem r_leaves_of (l : Lib1 GL T R) (hL : 200 < L) (t : Tm) (ok : t.ok) (h40 : t.ls.length ≤ 40) : Calls GL T L 3 (Str.ofString "leaves_of") [t.d] (.ok (.list (t.ls.map lfD)) .ow) :=
  .mk l.of rfl fun n hn => by
    have hsz := t.sz_ls
    simp [b_leaves_of]
    refine whl_inv (I := fun m g => ∃ (fs : List (Bool × Int)) (ws : List Tm) (x : Sl), g = [some (t.d, .fr), some (.list (fs.map lfD), .ow), some (.list (ws.map Tm.d), .ow), x] ∧ fs ++ lsW ws = t.ls ∧ (∀ u ∈ ws, u.ok) ∧ szs ws = m ∧ m + fs.length ≤ t.sz)
      (Q := fun r => toCR (r.bd _) = _) ?_ L (t.sz) _ (by omega) ⟨[], [t], none, rfl, by simp [lsW], by simpa using ok, by simp [szs], by simp⟩
    rintro m g ⟨fs, ws, x, rfl, h1, h2, h3, h4⟩
    rcases snoc_cases ws with rfl | ⟨ws, u, rfl⟩
    · left
      have : fs = t.ls := by simpa [lsW] using h1
      subst this
      refine ⟨_, _, by simp [eqv_nil]; exact ⟨rfl, rfl⟩, ?_⟩
      have : ¬ (40 : Int) < (t.ls.length : Nat) := by omega
      simp [l.le, this]
    · right
      have hu : u.ok := h2 u (by simp)
      have hlay : PyData.canLayAll0 (ws.map Tm.d ++ [u.d]) = true := by simpa using layAll_map Tm.lay (ws ++ [u])
      have c1 := r_has_shape (L := L) l u hu n (by omega)
      have c2 := r_is_leaf (L := L) l u n (by omega)
      have hlen := len_le_szs ws
      rw [szs_append] at h3
      rw [lsW_snoc] at h1
      refine ⟨_, _, by simp [eqOk_nil hlay, eqv_nil]; exact ⟨rfl, rfl⟩, ?_⟩
      cases u with
      | leaf o i =>
        refine ⟨[some (t.d, .fr), some (.list ((fs ++ [(o, i)]).map lfD), .ow), some (.list (ws.map Tm.d), .ow), some ((Tm.leaf o i).d, .fr)], ?_, szs ws, ?_, fs ++ [(o, i)], ws, _, rfl, ?_, fun v hv => h2 v (by simp [hv]), rfl, ?_⟩
        · simp [c1, c2]
          rw [if_pos (by omega)]
          rfl
        · simp [szs, Tm.sz] at h3 ⊢; omega
        · simpa [Tm.ls] using h1
        · simp [szs, Tm.sz] at h3 ⊢; omega
      | node s a b =>
        refine ⟨[some (t.d, .fr), some (.list (fs.map lfD), .ow), some (.list ((ws ++ [b, a]).map Tm.d), .ow), some ((Tm.node s a b).d, .fr)], ?_, szs (ws ++ [b, a]), ?_, fs, ws ++ [b, a], _, rfl, ?_, ?_, rfl, ?_⟩
        · simp [c1, c2]
          rw [Tm.d]
          simp
          rw [if_pos (by simp [szs, Tm.sz] at h3 hlen; omega)]
          simp
          rw [if_pos (by simp [szs, Tm.sz] at h3 hlen; omega)]
          simp
        · simp [szs, Tm.sz] at h3 ⊢; omega
        · rw [← h1]; simp [lsW, Tm.ls]
        · intro v hv
          have hu : a.ok ∧ b.ok := hu
          simp at hv
          rcases hv with hv | rfl | rfl
          · exact h2 v (by simp [hv])
          · exact hu.2
          · exact hu.1
        · simp [szs, Tm.sz] at h3 ⊢; omega
theorem r_leaves (l : Lib1 GL T R) (hv : (T (Str.ofString "leaves")).isSome = true) (hL : 200 < L) (t : Tm) (ok : t.ok) (h40 : t.ls.length ≤ 40) : Calls GL T L 4 (Str.ofString "leaves") [t.d] (.ok (.int t.ls.length) .fr) :=
  .mk (l.lv hv) rfl fun n hn => by
    have c := r_leaves_of l hL t ok h40 n hn
    simp [b_leaves, c]
end
/-! ### comprehensions -/
theorem lcGo_fm {α : Type} {f : D → Res (Option D)} (k : α → D) (h : α → Option D) : ∀ (l : List α), (∀ a ∈ l, ∃ g, f (k a) = .ok (h a) g) → lcGo f (l.map k) = some (l.filterMap h)
  | [], _ => rfl
  | a :: l, hf => by
    obtain ⟨g, e⟩ := hf a (by simp)
    have ih := lcGo_fm k h l fun b hb => hf b (by simp [hb])
    rw [List.map_cons, lcGo, e]
    cases q : h a with
    | none => simp [q, ih]
    | some b => simp [q, ih]
theorem intsD_map : ∀ l : List Int, intsD (l.map .int) = some l
  | [] => rfl
  | a :: l => by simp [intsD, intsD_map l]
/-- the numbers of the open ones -/
def opN (ls : List (Bool × Int)) : List Int := ls.filterMap fun p => if p.1 = true then some p.2 else none
theorem opN_len : ∀ ls : List (Bool × Int), (opN ls).length ≤ ls.length := fun ls => List.length_filterMap_le _ _
theorem mem_opN {ls : List (Bool × Int)} {i : Int} : i ∈ opN ls ↔ (true, i) ∈ ls := by
  simp [opN, List.mem_filterMap]
section
variable {GL : Str → Option D} {T : Str → Option Fd} {L : Nat} {R : Nat → S}
theorem r_opens (l : Lib1 GL T R) (hT : T (Str.ofString "opens") = some ⟨1, 2, b_opens, 0⟩) (hL : 200 < L) (t : Tm) (ok : t.ok) (h40 : t.ls.length ≤ 40) : Calls GL T L 4 (Str.ofString "opens") [t.d] (.ok (.list ((sortI (opN t.ls)).map .int)) .ow) :=
  .mk hT rfl fun n hn => by
    have c := r_leaves_of l hL t ok h40 n hn
    simp [b_opens, c]
    rw [lcGo_fm lfD (fun p => if p.1 = true then some (.int p.2) else none) t.ls fun p hp => by
      obtain ⟨o, i⟩ := p
      cases o <;> simp [lfD, kS]]
    have e : (t.ls.filterMap fun p => if p.1 = true then some (PyData.int p.2) else none) = (opN t.ls).map .int := by
      unfold opN
      rw [List.map_filterMap]
      congr 1
      funext p
      split <;> rfl
    rw [e]
    have := opN_len t.ls
    simp
    rw [if_pos (by omega)]
    simp [sortsetD, intsD_map]
    rw [if_pos (by omega)]
    simp
end
end DL

set_option Elab.async false
set_option linter.all false
set_option maxRecDepth 100000
/-! G3: a script's cells. -/
namespace DL
open PySem L2

abbrev bits (z : Int) : Nat := Builtin.Int.intBits z
theorem bits_ediv {x : Int} {k : Int} {m : Nat} (hk : 0 < k) (h : bits x ≤ m) : bits (x / k) ≤ m := by
  have := PySem.intBits_fdiv_le (y := k) h
  rwa [Int.fdiv_eq_ediv_of_nonneg x (by omega)] at this
/-- the k-th number of the script, 0 behind its end -/
def cellAt (ns : List Int) (k : Nat) : Int := (ns[k]?).getD 0
theorem cellAt_bits {ns : List Int} {m : Nat} (h : ∀ z ∈ ns, bits z ≤ m) (k : Nat) : bits (cellAt ns k) ≤ m := by
  unfold cellAt
  cases e : ns[k]? with
  | none => simp; exact Nat.zero_le _
  | some z => simp; exact h z (List.mem_of_getElem? e)
theorem at_ints {ns : List Int} {k : Nat} (h : k < ns.length) : atI (ns.map PyData.int) (k : Int) = some (.int (cellAt ns k)) := by
  apply atI_nat
  rw [List.getElem?_map]
  unfold cellAt
  rw [List.getElem?_eq_getElem h]
  rfl
structure Lib3 (T : Str → Option Fd) : Prop where
  cell : T (Str.ofString "_law_cell_at") = some ⟨2, 2, b__law_cell_at, 0⟩
  by_ : T (Str.ofString "_law_cells_by") = some ⟨3, 5, b__law_cells_by, 0⟩
section
variable {GL : Str → Option D} {T : Str → Option Fd} {L : Nat}
theorem r_cell_at (hT : T (Str.ofString "_law_cell_at") = some ⟨2, 2, b__law_cell_at, 0⟩) (ns : List Int) (k : Nat) : Calls GL T L 1 (Str.ofString "_law_cell_at") [.list (ns.map .int), .int (k : Int)] (.ok (.int (cellAt ns k)) .fr) :=
  .mk hT rfl fun n _ => by
    by_cases c : k < ns.length
    · simp [b__law_cell_at, c, at_ints c]
    · simp [b__law_cell_at, c]
      unfold cellAt
      rw [List.getElem?_eq_none (by omega)]
      rfl
theorem range_get {n : Int} : rangeD 0 n = (List.range n.toNat).map fun (k : Nat) => PyData.int (k : Int) := by
  unfold rangeD
  simp
def mix (size : Int) (k : Nat) : Int := (size / 4 + 104729 * (k : Int) + 1) ^ 3 % 2147483647
theorem map_int_range (f : Nat → Int) (n : Nat) : (List.range n).map (fun k => PyData.int (f k)) = ((List.range n).map f).map .int := by simp
theorem bits_sum {x : Int} {k : Nat} (h : bits x ≤ 1048576) (hk : k ≤ 1000) : bits (x / 4 + 104729 * (k : Int) + 1) ≤ 1048578 := by
  have h1 := bits_ediv (k := 4) (by omega) h
  have h2 : bits (104729 * (k : Int)) ≤ 64 := PySem.intBits_le_64 (by omega) (by omega)
  have h3 := PySem.intBits_add_le h1 h2
  have h4 : bits (1 : Int) ≤ 64 := PySem.intBits_le_64 (by omega) (by omega)
  have h5 := PySem.intBits_add_le h3 h4
  exact Nat.le_trans h5 (by decide)
theorem pow_ok {x : Int} (h : bits x ≤ 1048578) : (Builtin.Int.intBits x : Int) * 3 ≤ 134217728 := by
  have h' : Builtin.Int.intBits x ≤ 1048578 := h
  omega
theorem cut_len {α : Type} {xs : List α} {a b : Int} (ha : 0 ≤ a) (hb : 0 ≤ b) : (cutL xs (some a) (some (a + b))).length ≤ b.toNat := by
  unfold cutL
  rw [List.length_take, List.length_drop]
  unfold HT.sIx
  simp only
  split <;> split <;> omega
theorem cut_map {α β : Type} (f : α → β) (xs : List α) (a b : Option Int) : cutL (xs.map f) a b = (cutL xs a b).map f := by simp [cutL]
theorem r_cells_by (l : Lib3 T) (ns : List Int) (hb : ∀ z ∈ ns, bits z ≤ 1048576) (a m : Nat) (hm : m ≤ 100) : ∃ cs : List Int, cs.length ≤ m ∧ Calls GL T L 2 (Str.ofString "_law_cells_by") [.list (ns.map .int), .int (a : Int), .int (m : Int)] (.ok (.list (cs.map .int)) .ow) := by
  by_cases c : cellAt ns 0 % 4 = 1
  · refine ⟨(List.range (cellAt ns 0 / 4 % ((m : Int) + 1)).toNat).map (mix (cellAt ns 0)), ?_, .mk l.by_ rfl fun n hn => ?_⟩
    · simp
      have := Int.emod_lt_of_pos (cellAt ns 0 / 4) (show (0 : Int) < (m : Int) + 1 by omega)
      omega
    · have h0 := r_cell_at (GL := GL) (L := L) l.cell ns 0 n (by omega)
      have h0 : callD GL T L n (Str.ofString "_law_cell_at") [PyData.list (List.map PyData.int ns), PyData.int 0] = CR.ok (PyData.int (cellAt ns 0)) Md.fr := h0
      have hmod := Int.emod_lt_of_pos (cellAt ns 0 / 4) (show (0 : Int) < (m : Int) + 1 by omega)
      have hnn := Int.emod_nonneg (cellAt ns 0 / 4) (show (m : Int) + 1 ≠ 0 by omega)
      have hr : rngOk (cellAt ns 0 / 4 % ((m : Int) + 1)) = true := by
        exact rngOk_small (by omega) (by omega)
      have hm1 : (0 : Int) < (m : Int) + 1 := by omega
      have hl : Nat.log2 4 < 9000 := by decide
      simp [b__law_cells_by, h0, c, hr, hl, hm1]
      have hk : ∀ k ∈ List.range (cellAt ns 0 / 4 % ((m : Int) + 1)).toNat, k ≤ 1000 := fun k hk => by have := List.mem_range.mp hk; omega
      rw [range_get, lcGo_fm (fun k : Nat => PyData.int (k : Int)) (fun k => some (.int (mix (cellAt ns 0) k))) _ fun k h => by
        have hb0 := pow_ok (bits_sum (cellAt_bits hb 0) (hk k h))
        have hm0 : mulOk 104729 (k : Int) = true := by unfold mulOk; rw [lowI_small (i := 104729) (by omega) (by omega)]; rfl
        simp [hm0, hl, hb0, mix]]
      rw [List.filterMap_eq_map']
      simp
      rw [if_pos (by omega)]
      simp
  · refine ⟨cutL ns (some (a : Int)) (some ((a : Int) + (m : Int))), ?_, .mk l.by_ rfl fun n hn => ?_⟩
    · have := cut_len (xs := ns) (a := (a : Int)) (b := (m : Int)) (by omega) (by omega)
      omega
    · have h0 := r_cell_at (GL := GL) (L := L) l.cell ns 0 n (by omega)
      have h0 : callD GL T L n (Str.ofString "_law_cell_at") [PyData.list (List.map PyData.int ns), PyData.int 0] = CR.ok (PyData.int (cellAt ns 0)) Md.fr := h0
      simp [b__law_cells_by, h0, c, cut_map]
end
end DL

set_option Elab.async false
set_option linter.all false
set_option maxRecDepth 100000
/-! G4: forms: their data, that they compare; parts_of, joined, flat, form. -/
namespace DL
open PySem L2

/-! ### forms -/
inductive IsF : D → Prop
  | leaf (o : Bool) (i : Int) : IsF (.tuple [.str (kS o), .int i])
  | pair {a b : D} : IsF a → IsF b → IsF (.tuple [.str (Str.ofString "pair"), a, b])
  | sum {xs : List D} : (∀ x ∈ xs, IsF x) → IsF (.tuple (.str (Str.ofString "sum") :: xs))
  | mul {xs : List D} : (∀ x ∈ xs, IsF x) → IsF (.tuple (.str (Str.ofString "mul") :: xs))
theorem plainAll_of : ∀ {xs : List D}, (∀ x ∈ xs, keyOk x = true) → plainAll xs = true
  | [], _ => rfl
  | x :: xs, h => by
    simp only [plainAll, keyOk.keyOkAll, Bool.and_eq_true]
    exact ⟨h x List.mem_cons_self, plainAll_of fun y hy => h y (List.mem_cons_of_mem _ hy)⟩
theorem layAll_of : ∀ {xs : List D}, (∀ x ∈ xs, x.canLay0 = true) → PyData.canLayAll0 xs = true
  | [], _ => by simp [PyData.canLayAll0]
  | x :: xs, h => by
    simp only [PyData.canLayAll0, Bool.and_eq_true]
    exact ⟨h x List.mem_cons_self, layAll_of fun y hy => h y (List.mem_cons_of_mem _ hy)⟩
theorem IsF.plain {d : D} (h : IsF d) : keyOk d = true := by
  induction h with
  | leaf o i => rfl
  | pair _ _ iha ihb => simp [keyOk, keyOk.keyOkAll, iha, ihb]
  | sum _ ih => simp [keyOk, keyOk.keyOkAll]; exact plainAll_of ih
  | mul _ ih => simp [keyOk, keyOk.keyOkAll]; exact plainAll_of ih
theorem IsF.lay {d : D} (h : IsF d) : d.canLay0 = true := by
  induction h with
  | leaf o i => simp [PyData.canLay0, PyData.canLayAll0, lay_kS]
  | pair _ _ iha ihb => simp [PyData.canLay0, PyData.canLayAll0, iha, ihb]
  | sum _ ih => simp [PyData.canLay0, PyData.canLayAll0]; exact layAll_of ih
  | mul _ ih => simp [PyData.canLay0, PyData.canLayAll0]; exact layAll_of ih
theorem IsF.str {d : D} (h : IsF d) : ∃ x xs, d = .tuple (.str x :: xs) := by cases h <;> exact ⟨_, _, rfl⟩
/-- what a form is behind its word -/
theorem ltAll_some : ∀ (xs ys : List D), (∀ x ∈ xs, ∀ y ∈ ys, (ltD x y).isSome = true) → (ltD.ltAll xs ys).isSome = true
  | [], [], _ => rfl
  | [], _ :: _, _ => rfl
  | _ :: _, [], _ => rfl
  | x :: xs, y :: ys, h => by
    rw [ltD.ltAll]
    split
    · exact ltAll_some xs ys fun a ha b hb => h a (List.mem_cons_of_mem _ ha) b (List.mem_cons_of_mem _ hb)
    · exact h x List.mem_cons_self y List.mem_cons_self
theorem ltAll_word {x y : Str} {xs ys : List D} (h : x = y → (ltD.ltAll xs ys).isSome = true) : (ltD (.tuple (.str x :: xs)) (.tuple (.str y :: ys))).isSome = true := by
  rw [ltD, ltD.ltAll]
  by_cases e : x = y
  · rw [if_pos (by rw [eqv_str]; simpa using e)]; exact h e
  · rw [if_neg (by rw [eqv_str]; simpa using e), ltD]; rfl
theorem IsF.cmp {d : D} (h : IsF d) : ∀ e : D, IsF e → (ltD d e).isSome = true := by
  induction h with
  | leaf o i =>
    intro e he
    cases he with
    | leaf p j => exact ltAll_word fun _ => ltAll_some _ _ fun a ha b hb => by simp at ha hb; subst ha hb; rfl
    | pair _ _ => cases o <;> exact ltAll_word fun z => by simp [kS] at z
    | sum _ => cases o <;> exact ltAll_word fun z => by simp [kS] at z
    | mul _ => cases o <;> exact ltAll_word fun z => by simp [kS] at z
  | pair ha hb iha ihb =>
    intro e he
    cases he with
    | leaf p j => cases p <;> exact ltAll_word fun z => by simp [kS] at z
    | pair hc hd =>
      refine ltAll_word fun _ => ltAll_some _ _ fun x hx y hy => ?_
      simp at hx hy
      rcases hx with rfl | rfl <;> rcases hy with rfl | rfl <;> first | exact iha _ (by assumption) | exact ihb _ (by assumption)
    | sum _ => exact ltAll_word fun z => by simp at z
    | mul _ => exact ltAll_word fun z => by simp at z
  | sum hx ih =>
    intro e he
    cases he with
    | leaf p j => cases p <;> exact ltAll_word fun z => by simp [kS] at z
    | pair hc hd => exact ltAll_word fun z => by simp at z
    | sum hy => exact ltAll_word fun _ => ltAll_some _ _ fun x hx y hyy => ih x hx y (hy y hyy)
    | mul _ => exact ltAll_word fun z => by simp at z
  | mul hx ih =>
    intro e he
    cases he with
    | leaf p j => cases p <;> exact ltAll_word fun z => by simp [kS] at z
    | pair hc hd => exact ltAll_word fun z => by simp at z
    | sum hy => exact ltAll_word fun z => by simp at z
    | mul hy => exact ltAll_word fun _ => ltAll_some _ _ fun x hx y hyy => ih x hx y (hy y hyy)
theorem sortable_forms {ds : List D} (h : ∀ d ∈ ds, IsF d ∧ d.depth ≤ 100) (hl : ds.length ≤ 100000) : sortable ds = true := by
  unfold sortable
  simp only [Bool.and_eq_true, Bool.or_eq_true, List.all_eq_true, decide_eq_true_eq]
  refine ⟨⟨⟨fun d hd => ⟨⟨(h d hd).1.plain, (h d hd).1.lay⟩, (h d hd).2⟩, fun x hx y hy => (h x hx).1.cmp y (h y hy).1⟩, by rw [sizeLine_eq]; omega⟩, .inl (.inr fun d hd => ?_)⟩
  obtain ⟨x, xs, rfl⟩ := (h d hd).1.str
  rfl
/-- the parts of a form of a sign, or the form itself -/
def partsD (s : Str) (d : D) : List D := match d with
  | .tuple (.str x :: r) => if x = s then r else [d]
  | _ => [d]
theorem partsD_word {s x : Str} {xs : List D} : partsD s (.tuple (.str x :: xs)) = if x = s then xs else [.tuple (.str x :: xs)] := rfl
/-- some forms joined -/
def joinR (s : Str) (row : List D) : D := match row with
  | [d] => d
  | row => .tuple (.str s :: sortD row)
theorem joinR_more (s : Str) {row : List D} (h : row.length ≠ 1) : joinR s row = .tuple (.str s :: sortD row) := by
  unfold joinR
  split
  · simp at h
  · rfl
def joinD (s : Str) (ds : List D) : D := joinR s (ds.flatMap (partsD s))
def Tm.form : Tm → D
  | .leaf o i => .tuple [.str (kS o), .int i]
  | .node .pair a b => .tuple [.str (Str.ofString "pair"), a.form, b.form]
  | .node .sum a b => joinD (Str.ofString "sum") [a.form, b.form]
  | .node .mul a b => joinD (Str.ofString "mul") [a.form, b.form]
def Tm.ht : Tm → Nat
  | .leaf _ _ => 1
  | .node _ a b => max a.ht b.ht + 1
theorem Tm.ht_ls : ∀ t : Tm, t.ht ≤ t.ls.length
  | .leaf _ _ => Nat.le_refl _
  | .node _ a b => by
    have := a.ht_ls
    have := b.ht_ls
    have := a.ls_pos
    have := b.ls_pos
    simp [Tm.ht, Tm.ls]
    omega
theorem depthAll_le {n : Nat} : ∀ {xs : List D}, (∀ x ∈ xs, x.depth ≤ n) → PyData.depthAll xs ≤ n
  | [], _ => by simp [PyData.depthAll]
  | x :: xs, h => by
    have := h x List.mem_cons_self
    have := depthAll_le fun y hy => h y (List.mem_cons_of_mem _ hy)
    simp [PyData.depthAll]
    omega
theorem parts_form {s : Str} {d : D} (h : IsF d) (hs : s = Str.ofString "sum" ∨ s = Str.ofString "mul") {n : Nat} (hd : d.depth ≤ n) : ∀ x ∈ partsD s d, IsF x ∧ x.depth ≤ n := by
  intro x hx
  cases h with
  | leaf o i =>
    have e : partsD s (.tuple [.str (kS o), .int i]) = [.tuple [.str (kS o), .int i]] := by
      unfold partsD
      simp only
      rw [if_neg]
      rcases hs with rfl | rfl <;> cases o <;> simp [kS]
    rw [e] at hx
    simp at hx
    subst hx
    exact ⟨.leaf o i, hd⟩
  | pair ha hb =>
    rename_i a b
    have e : partsD s (.tuple [.str (Str.ofString "pair"), a, b]) = [.tuple [.str (Str.ofString "pair"), a, b]] := by
      unfold partsD
      simp only
      rw [if_neg]
      rcases hs with rfl | rfl <;> simp
    rw [e] at hx
    simp at hx
    subst hx
    exact ⟨.pair ha hb, hd⟩
  | sum hxs =>
    rename_i xs
    unfold partsD at hx
    simp only at hx
    split at hx
    · refine ⟨hxs x hx, ?_⟩
      have := depth_mem hx
      simp [PyData.depth, PyData.depthAll] at hd
      omega
    · simp at hx
      subst hx
      exact ⟨.sum hxs, hd⟩
  | mul hxs =>
    rename_i xs
    unfold partsD at hx
    simp only at hx
    split at hx
    · refine ⟨hxs x hx, ?_⟩
      have := depth_mem hx
      simp [PyData.depth, PyData.depthAll] at hd
      omega
    · simp at hx
      subst hx
      exact ⟨.mul hxs, hd⟩
theorem join_form {s : Str} (hs : s = Str.ofString "sum" ∨ s = Str.ofString "mul") {ds : List D} {n : Nat} (h : ∀ d ∈ ds, IsF d ∧ d.depth ≤ n) : IsF (joinD s ds) ∧ (joinD s ds).depth ≤ n + 1 := by
  have hr : ∀ x ∈ ds.flatMap (partsD s), IsF x ∧ x.depth ≤ n := fun x hx => by
    obtain ⟨d, h1, h2⟩ := List.mem_flatMap.mp hx
    exact parts_form (h d h1).1 hs (h d h1).2 x h2
  unfold joinD joinR
  split
  · rename_i d e
    rw [e] at hr
    have := hr d (by simp)
    exact ⟨this.1, by omega⟩
  · rename_i row _
    have hr2 : ∀ x ∈ sortD (ds.flatMap (partsD s)), IsF x ∧ x.depth ≤ n := fun x hx => hr x ((sortD_perm _).mem_iff.mp hx)
    refine ⟨?_, ?_⟩
    · rcases hs with rfl | rfl
      · exact .sum fun x hx => (hr2 x hx).1
      · exact .mul fun x hx => (hr2 x hx).1
    · have := depthAll_le fun x hx => (hr2 x hx).2
      simp [PyData.depth, PyData.depthAll]
      omega
theorem Tm.form_ok : ∀ t : Tm, IsF t.form ∧ t.form.depth ≤ t.ht
  | .leaf o i => ⟨.leaf o i, by simp [Tm.form, Tm.ht, PyData.depth, PyData.depthAll]⟩
  | .node s a b => by
    obtain ⟨a1, a2⟩ := a.form_ok
    obtain ⟨b1, b2⟩ := b.form_ok
    have both : ∀ d ∈ [a.form, b.form], IsF d ∧ d.depth ≤ max a.ht b.ht := fun d hd => by
      simp at hd
      rcases hd with rfl | rfl
      · exact ⟨a1, by omega⟩
      · exact ⟨b1, by omega⟩
    cases s with
    | sum => exact join_form (.inl rfl) both
    | mul => exact join_form (.inr rfl) both
    | pair =>
      refine ⟨.pair a1 b1, ?_⟩
      simp [Tm.form, Tm.ht, PyData.depth, PyData.depthAll]
      omega
/-- a term's form has a part at least, and no more than its leaves -/
theorem parts_len : ∀ (t : Tm) (s : Str), (s = Str.ofString "sum" ∨ s = Str.ofString "mul") → 1 ≤ (partsD s t.form).length ∧ (partsD s t.form).length ≤ t.ls.length
  | .leaf o i, s, hs => by
    have e : partsD s (Tm.leaf o i).form = [(Tm.leaf o i).form] := by
      unfold Tm.form partsD
      simp only
      rw [if_neg]
      rcases hs with rfl | rfl <;> cases o <;> simp [kS]
    rw [e]
    simp [Tm.ls]
  | .node .pair a b, s, hs => by
    have e : partsD s (Tm.node .pair a b).form = [(Tm.node .pair a b).form] := by
      unfold Tm.form partsD
      simp only
      rw [if_neg]
      rcases hs with rfl | rfl <;> simp
    have := a.ls_pos
    rw [e]
    simp [Tm.ls]
    omega
  | .node .sum a b, s, hs => by
    obtain ⟨a1, a2⟩ := parts_len a (Str.ofString "sum") (.inl rfl)
    obtain ⟨b1, b2⟩ := parts_len b (Str.ofString "sum") (.inl rfl)
    have e : (Tm.node .sum a b).form = .tuple (.str (Str.ofString "sum") :: sortD (partsD (Str.ofString "sum") a.form ++ partsD (Str.ofString "sum") b.form)) := by
      show joinD _ [a.form, b.form] = _
      unfold joinD
      rw [joinR_more _ (by simp; omega)]
      simp
    have hl := (sortD_perm (partsD (Str.ofString "sum") a.form ++ partsD (Str.ofString "sum") b.form)).length_eq
    rw [List.length_append] at hl
    rw [e, partsD_word]
    split
    · rw [hl]; simp [Tm.ls]; omega
    · simp [Tm.ls]; omega
  | .node .mul a b, s, hs => by
    obtain ⟨a1, a2⟩ := parts_len a (Str.ofString "mul") (.inr rfl)
    obtain ⟨b1, b2⟩ := parts_len b (Str.ofString "mul") (.inr rfl)
    have e : (Tm.node .mul a b).form = .tuple (.str (Str.ofString "mul") :: sortD (partsD (Str.ofString "mul") a.form ++ partsD (Str.ofString "mul") b.form)) := by
      show joinD _ [a.form, b.form] = _
      unfold joinD
      rw [joinR_more _ (by simp; omega)]
      simp
    have hl := (sortD_perm (partsD (Str.ofString "mul") a.form ++ partsD (Str.ofString "mul") b.form)).length_eq
    rw [List.length_append] at hl
    rw [e, partsD_word]
    split
    · rw [hl]; simp [Tm.ls]; omega
    · simp [Tm.ls]; omega
end DL

set_option Elab.async false
set_option linter.all false
set_option maxRecDepth 100000
/-! G5: runs of parts_of, joined, flat, form. -/
namespace DL
open PySem L2

theorem cut_tail {α : Type} (x : α) (r : List α) : cutL (x :: r) (some 1) none = r := by
  unfold cutL HT.sIx
  simp
theorem IsF.word {d : D} (h : IsF d) : ∃ x xs, d = .tuple (.str x :: xs) ∧ PyData.strOk x = true := by
  obtain ⟨x, xs, rfl⟩ := h.str
  have := h.lay
  simp [PyData.canLay0, PyData.canLayAll0] at this
  exact ⟨x, xs, rfl, this.1⟩
structure Lib5 (T : Str → Option Fd) : Prop where
  parts : T (Str.ofString "parts_of") = some ⟨2, 2, b_parts_of, 0⟩
  join : T (Str.ofString "joined") = some ⟨2, 4, b_joined, 0⟩
  flat : T (Str.ofString "flat") = some ⟨1, 1, b_flat, 0⟩
section
variable {GL : Str → Option D} {T : Str → Option Fd} {L : Nat} {R : Nat → S}
theorem r_parts_of (l : Lib5 T) {d : D} (hd : IsF d) {s : Str} (hs : PyData.strOk s = true) : Calls GL T L 1 (Str.ofString "parts_of") [d, .str s] (.ok (.list (partsD s d)) .ow) :=
  .mk l.parts rfl fun n _ => by
    obtain ⟨x, xs, rfl, hx⟩ := hd.word
    by_cases e : x = s
    · subst e; simp [b_parts_of, eqOk_str hx hx, cut_tail, partsD_word]
    · simp [b_parts_of, eqOk_str hx hs, e, partsD_word]
theorem r_joined (l : Lib5 T) {s : Str} (hs : s = Str.ofString "sum" ∨ s = Str.ofString "mul") {ds : List D} (hd : ∀ d ∈ ds, IsF d ∧ d.depth ≤ 90) (hn : (ds.flatMap (partsD s)).length ≤ 1000) :
    Calls GL T L 2 (Str.ofString "joined") [.str s, .list ds] (.ok (joinD s ds) .fr) := by
  intro n hn2
  obtain ⟨n, rfl⟩ : ∃ m, n = m + 1 := ⟨n - 1, by omega⟩
  have ks : PyData.strOk s = true := by rcases hs with rfl | rfl <;> simp
  refine call_runs l.join rfl ?_
  unfold b_joined
  simp only [startG_def]
  refine .set (p := (.list [], .ow)) (by simp; rfl) ?_
  refine .for_ (ds := ds) (fun i g => ∃ z : Sl, g = [some (.str s, .fr), some (.list ds, .fr), some (.list ((ds.take i).flatMap (partsD s)), .ow), z]) (by simp; exact ⟨rfl, rfl⟩) (by decide) rfl ⟨none, rfl⟩ ?_ ?_
  · rintro i d g hi ⟨z, rfl⟩
    have hlt : i < ds.length := (List.getElem?_eq_some_iff.mp hi).1
    have hmem := List.mem_of_getElem? hi
    have c := r_parts_of (GL := GL) (L := L) l (hd d hmem).1 ks n (by omega)
    have et : (ds.take (i + 1)).flatMap (partsD s) = (ds.take i).flatMap (partsD s) ++ partsD s d := by
      rw [List.take_succ_eq_append_getElem hlt, List.flatMap_append]
      have : ds[i] = d := (List.getElem?_eq_some_iff.mp hi).2
      simp [this]
    have hle : ((ds.take i).flatMap (partsD s)).length + (partsD s d).length ≤ 16777216 := by
      have h1 : ((ds.take (i + 1)).flatMap (partsD s)).length ≤ (ds.flatMap (partsD s)).length := by
        conv => rhs; rw [← List.take_append_drop (i + 1) ds]
        rw [List.flatMap_append, List.length_append]
        omega
      rw [et, List.length_append] at h1
      omega
    refine ⟨[some (.str s, .fr), some (.list ds, .fr), some (.list ((ds.take (i + 1)).flatMap (partsD s)), .ow), some (d, .fr)], ?_, _, rfl⟩
    rw [et]
    simp only [List.length_flatMap] at hle
    simp [c]
    rw [if_pos (by simpa using hle)]
    rfl
  · rintro g ⟨z, rfl⟩
    rw [List.take_length]
    have hrow : ∀ x ∈ ds.flatMap (partsD s), IsF x ∧ x.depth ≤ 90 := fun x hx => by
      obtain ⟨d, h1, h2⟩ := List.mem_flatMap.mp hx
      exact parts_form (hd d h1).1 hs (hd d h1).2 x h2
    have hsort := sortable_forms (ds := ds.flatMap (partsD s)) (fun d h => ⟨(hrow d h).1, by have := (hrow d h).2; omega⟩) (by omega)
    unfold joinD
    generalize ds.flatMap (partsD s) = row at *
    have hlen : (sortD row).length = row.length := (sortD_perm row).length_eq
    by_cases e : row.length = 1
    · obtain ⟨d, rfl⟩ : ∃ d, row = [d] := by
        match row, e with
        | [d], _ => exact ⟨d, rfl⟩
      refine .ifT (by simp; exact ⟨rfl, rfl⟩) (.as (.ret (d := d) (m := .fr) (by simp; rfl) rfl))
    · have e' : ¬ ((row.length : Nat) : Int) = 1 := by omega
      refine .ifF (by simp [e']; exact ⟨rfl, rfl⟩) (.skip ?_)
      rw [joinR_more s e]
      refine .ret (d := .tuple (.str s :: sortD row)) (m := .fr) (g1 := [some (.str s, .fr), some (.list ds, .fr), some (.list row, .ow), z]) ?_ rfl
      have hz : 1 + row.length ≤ 16777216 := by omega
      have hz' : row.length + 1 ≤ 16777216 := by omega
      have hz2 : row.length ≤ 16777215 := by omega
      simp [sortedD, hsort, hlen, hz, hz', hz2]
theorem r_flat (l1 : Lib1 GL T R) (l : Lib5 T) : ∀ t : Tm, t.ls.length ≤ 60 → Calls GL T L (t.ht + 3) (Str.ofString "flat") [t.d] (.ok t.form .fr)
  | .leaf o i, hl => by
    intro n hn
    obtain ⟨n, rfl⟩ : ∃ m, n = m + 1 := ⟨n - 1, by omega⟩
    have c := r_is_leaf (L := L) l1 (.leaf o i) n (by simp [Tm.ht] at hn; omega)
    refine call_runs l.flat rfl ?_
    unfold b_flat
    simp only [startG_def]
    exact .ifT (by simp [c]; exact ⟨rfl, rfl⟩) (.as (.ret (d := (Tm.leaf o i).form) (m := .fr) (by simp; exact ⟨rfl, rfl⟩) rfl))
  | .node s a b, hl => by
    intro n hn
    obtain ⟨n, rfl⟩ : ∃ m, n = m + 1 := ⟨n - 1, by omega⟩
    have hla : a.ls.length ≤ 60 := by simp [Tm.ls] at hl; omega
    have hlb : b.ls.length ≤ 60 := by simp [Tm.ls] at hl; omega
    simp only [Tm.ht] at hn
    have c := r_is_leaf (L := L) l1 (.node s a b) n (by omega)
    have ca := r_flat l1 l a hla n (by omega)
    have cb := r_flat l1 l b hlb n (by omega)
    have both : ∀ d ∈ [a.form, b.form], IsF d ∧ d.depth ≤ 90 := fun d hd => by
      have := a.ht_ls
      have := b.ht_ls
      simp at hd
      rcases hd with rfl | rfl
      · exact ⟨a.form_ok.1, by have := a.form_ok.2; omega⟩
      · exact ⟨b.form_ok.1, by have := b.form_ok.2; omega⟩
    have cj : ∀ s, (s = Str.ofString "sum" ∨ s = Str.ofString "mul") → callD GL T L n (Str.ofString "joined") [.str s, .list [a.form, b.form]] = .ok (joinD s [a.form, b.form]) .fr := fun s hs => r_joined l hs both (by
      have := (parts_len a s hs).2
      have := (parts_len b s hs).2
      simp; omega) n (by omega)
    refine call_runs l.flat rfl ?_
    unfold b_flat
    simp only [startG_def]
    refine .ifF (by simp [c]; exact ⟨rfl, rfl⟩) (.skip ?_)
    cases s with
    | pair =>
      exact .ifT (by simp [Tm.d, Sn.s]; exact ⟨rfl, rfl⟩) (.as (.ret (d := (Tm.node .pair a b).form) (m := .fr) (by simp [Tm.d, ca, cb]; exact ⟨rfl, rfl⟩) rfl))
    | sum =>
      refine .ifF (by simp [Tm.d, Sn.s]; exact ⟨rfl, rfl⟩) (.skip ?_)
      exact .ret (d := (Tm.node .sum a b).form) (m := .fr) (by simp [Tm.d, Sn.s, ca, cb, cj]; exact ⟨rfl, rfl⟩) rfl
    | mul =>
      refine .ifF (by simp [Tm.d, Sn.s]; exact ⟨rfl, rfl⟩) (.skip ?_)
      exact .ret (d := (Tm.node .mul a b).form) (m := .fr) (by simp [Tm.d, Sn.s, ca, cb, cj]; exact ⟨rfl, rfl⟩) rfl
theorem r_form (l1 : Lib1 GL T R) (hv : (T (Str.ofString "leaves")).isSome = true) (l : Lib5 T) (hT : T (Str.ofString "form") = some ⟨1, 1, b_form, 0⟩) (hL : 200 < L) (t : Tm) (ok : t.ok) (hl : t.ls.length ≤ 40) : Calls GL T L (t.ht + 5) (Str.ofString "form") [t.d] (.ok t.form .fr) := by
  intro n hn
  obtain ⟨n, rfl⟩ : ∃ m, n = m + 1 := ⟨n - 1, by omega⟩
  have c1 := r_leaves (L := L) l1 hv hL t ok hl n (by omega)
  have c2 := r_flat (L := L) l1 l t (by omega) n (by omega)
  refine call_runs hT rfl ?_
  unfold b_form
  simp only [startG_def]
  refine .ex (by simp [c1]; exact ⟨rfl, rfl⟩) ?_
  exact .ret (d := t.form) (m := .fr) (by simp [c2]; rfl) rfl
end
end DL

set_option Elab.async false
set_option linter.all false
set_option maxRecDepth 100000
/-! G6: what the laws' own defs share: cells to leaves, the pile. -/
namespace DL
open PySem L2
theorem mod4 (x : Int) : x % 4 = 0 ∨ x % 4 = 1 ∨ x % 4 = 2 ∨ x % 4 = 3 := by omega
/-- the name's number -/
def nameN (m p : Int) : Int := if p % 4 = 3 then m % 1000000001 else if p % 4 = 2 then m % 40 else m % 3
theorem nameN_ok (m p : Int) : 0 ≤ nameN m p ∧ nameN m p ≤ 1000000000 := by
  unfold nameN
  split
  · omega
  · split <;> omega
/-- leaves of all of them -/
def lsum (ts : List Tm) : Nat := (ts.map fun t => t.ls.length).sum
theorem lsum_snoc (ts : List Tm) (t : Tm) : lsum (ts ++ [t]) = lsum ts + t.ls.length := by simp [lsum]
theorem lsum_len : ∀ ts : List Tm, ts.length ≤ lsum ts
  | [] => by simp [lsum]
  | t :: ts => by
    have := lsum_len ts
    have := t.ls_pos
    simp [lsum] at *
    omega
def sgn4 (c : Int) : Sn := if c = 1 then .mul else if c = 3 then .pair else .sum
theorem two_last {α : Type} (l : List α) (h : ¬ l.length < 2) : ∃ l' a b, l = l' ++ [a] ++ [b] := by
  rcases snoc_cases l with rfl | ⟨l1, b, rfl⟩
  · simp at h
  · rcases snoc_cases l1 with rfl | ⟨l2, a, rfl⟩
    · simp at h
    · exact ⟨l2, a, b, rfl⟩
end DL

set_option Elab.async false
set_option linter.all false
set_option maxRecDepth 100000
/-! the defs as small texts, the table of them, the module's things. -/
namespace DL
open PySem L2
def CNS : List Nat := []
def top (i : Nat) : Stmt := PySem.Challenge.pw_anyorder_k10_whole_fillings_fit.main.body.getD i (.Pass ⟨0, 0, 0, 0⟩)
def e_is_whole : Ent := ⟨1, N_is_whole, b_is_whole, top 9, 0⟩
def e_is_leaf : Ent := ⟨1, N_is_leaf, b_is_leaf, top 10, 0⟩
def e_has_shape : Ent := ⟨1, N_has_shape, b_has_shape, top 11, 0⟩
def e_leaves_of : Ent := ⟨1, N_leaves_of, (b_leaves_of fun _ => .never), top 12, 0⟩
def e_leaves : Ent := ⟨1, N_leaves, b_leaves, top 13, 0⟩
def e_opens : Ent := ⟨1, N_opens, b_opens, top 14, 0⟩
def e_parts_of : Ent := ⟨2, N_parts_of, b_parts_of, top 16, 0⟩
def e_joined : Ent := ⟨2, N_joined, b_joined, top 17, 0⟩
def e_flat : Ent := ⟨1, N_flat, b_flat, top 18, 0⟩
def e_picks : Ent := ⟨2, N_picks, b_picks, top 20, 0⟩
def e_shared : Ent := ⟨4, N_shared, b_shared, top 21, 0⟩
def e_matched : Ent := ⟨3, N_matched, b_matched, top 22, 0⟩
def e_need_plain : Ent := ⟨1, N_need_plain, (b_need_plain fun _ => .never), top 23, 0⟩
def e_fillings : Ent := ⟨2, N_fillings, b_fillings, top 24, 0⟩
def e__law_cell_at : Ent := ⟨2, N__law_cell_at, b__law_cell_at, top 26, 0⟩
/-- _law_names: 0 _law_cell, 1 _law_k -/
def b__law_names : S := (.seq (.ite (.cmp .eq (.bin .mod (.var 0) (.int (3))) (.int (1))) (.seq (.ret (.lst (.cons (.bin .mod (.bin .fdiv (.var 0) (.int (3))) (.int (1000000001))) (.cons (.bin .mod (.bin .fdiv (.var 0) (.int (3))) (.int (999999937))) (.cons (.bin .sub (.int (1000000000)) (.bin .mod (.bin .fdiv (.var 0) (.int (3))) (.int (7)))) .nil)))))
  .skip) .skip)
  (.seq (.ite (.cmp .eq (.bin .mod (.var 0) (.int (3))) (.int (2))) (.seq (.ret (.lc (.bin .add (.bin .mod (.bin .fdiv (.var 0) (.int (3))) (.int (900))) (.bin .mul (.int (100000000)) (.var 1))) 1 (.range1 (.int (3))) .nil [0]))
  .skip) .skip)
  (.seq (.ret (.lst (.cons (.int (0)) (.cons (.int (1)) (.cons (.int (2)) .nil)))))
  .skip)))
def N__law_names : List Str := ["_law_cell", "_law_k"]
def e__law_names : Ent := ⟨1, N__law_names, b__law_names, top 27, 0⟩
/-- _law_made: 0 _law_cells, 1 _law_names_here, 2 _law_numbers, 3 _law_last, 4 _law_pile, 5 _law_cell, 6 _law_other, 7 _law_leaf -/
def b__law_made : S := (.seq (.set 4 (.lst .nil))
  (.seq (.for_ 5 (.var 0) (.seq (.ite (.or_ (.cons (.cmp .lt (.bin .mod (.var 5) (.int (8))) (.int (4))) (.cons (.cmp .lt (.len (.var 4)) (.int (2))) .nil))) (.seq (.set 7 (.tup (.cons (.str "name") (.cons (.ix (.var 1) (.bin .mod (.bin .fdiv (.var 5) (.int (16))) (.len (.var 1)))) .nil))))
  (.seq (.ite (.and_ (.cons (.cmp .ne (.var 2) (.lst .nil)) (.cons (.cmp .eq (.bin .mod (.bin .fdiv (.var 5) (.int (8))) (.int (2))) (.int (1))) .nil))) (.seq (.set 7 (.tup (.cons (.str "open") (.cons (.ix (.var 2) (.bin .mod (.bin .fdiv (.var 5) (.int (16))) (.int (3)))) .nil))))
  .skip) .skip)
  (.seq (.expr (.append 4 (.var 7)))
  .skip))) (.seq (.set 6 (.pop 4))
  (.seq (.expr (.append 4 (.tup (.cons (.ix (.lst (.cons (.str "sum") (.cons (.str "mul") (.cons (.str "sum") (.cons (.str "pair") .nil))))) (.bin .sub (.bin .mod (.var 5) (.int (8))) (.int (4)))) (.cons (.pop 4) (.cons (.var 6) .nil))))))
  .skip)))
  .skip))
  (.seq (.whl (.cmp .gt (.len (.var 4)) (.int (1))) (.seq (.set 6 (.pop 4))
  (.seq (.expr (.append 4 (.tup (.cons (.var 3) (.cons (.pop 4) (.cons (.var 6) .nil))))))
  .skip)))
  (.seq (.ite (.cmp .eq (.var 4) (.lst .nil)) (.seq (.ret (.tup (.cons (.str "name") (.cons (.ix (.var 1) (.int (0))) .nil))))
  .skip) .skip)
  (.seq (.ret (.ix (.var 4) (.int (0))))
  .skip)))))
def N__law_made : List Str := ["_law_cells", "_law_names_here", "_law_numbers", "_law_last", "_law_pile", "_law_cell", "_law_other", "_law_leaf"]
def e__law_made : Ent := ⟨4, N__law_made, b__law_made, top 28, 0⟩
/-- _law_filled: 0 _law_term, 1 _law_filling, 2 _law_one, 3 _law_other, 4 _law_row, 5 _law_part -/
def b__law_filled : S := (.seq (.ite (.cmp .eq (.ix (.var 0) (.int (0))) (.str "open")) (.seq (.ret (.ix (.var 1) (.ix (.var 0) (.int (1)))))
  .skip) .skip)
  (.seq (.ite (.cmp .eq (.ix (.var 0) (.int (0))) (.str "name")) (.seq (.ret (.var 0))
  .skip) .skip)
  (.seq (.set 2 (.call "_law_filled" (.cons (.ix (.var 0) (.int (1))) (.cons (.var 1) .nil))))
  (.seq (.set 3 (.call "_law_filled" (.cons (.ix (.var 0) (.int (2))) (.cons (.var 1) .nil))))
  (.seq (.ite (.cmp .eq (.ix (.var 0) (.int (0))) (.str "pair")) (.seq (.ret (.tup (.cons (.str "pair") (.cons (.var 2) (.cons (.var 3) .nil)))))
  .skip) .skip)
  (.seq (.set 4 (.lst .nil))
  (.seq (.for_ 5 (.lst (.cons (.var 2) (.cons (.var 3) .nil))) (.seq (.ite (.cmp .eq (.ix (.var 5) (.int (0))) (.ix (.var 0) (.int (0)))) (.seq (.set 4 (.bin .add (.var 4) (.list (.sl (.var 5) (.int (1)) .nil))))
  .skip) (.seq (.expr (.append 4 (.var 5)))
  .skip))
  .skip))
  (.seq (.ret (.bin .add (.tup (.cons (.ix (.var 0) (.int (0))) .nil)) (.tuple (.sorted (.var 4)))))
  .skip))))))))
def N__law_filled : List Str := ["_law_term", "_law_filling", "_law_one", "_law_other", "_law_row", "_law_part"]
def e__law_filled : Ent := ⟨2, N__law_filled, b__law_filled, top 29, 0⟩
/-- _law_has: 0 _law_term, 1 _law_number -/
def b__law_has : S := (.seq (.ite (.cmp .eq (.len (.var 0)) (.int (2))) (.seq (.ret (.cmp .eq (.var 0) (.tup (.cons (.str "open") (.cons (.var 1) .nil)))))
  .skip) .skip)
  (.seq (.ret (.or_ (.cons (.call "_law_has" (.cons (.ix (.var 0) (.int (1))) (.cons (.var 1) .nil))) (.cons (.call "_law_has" (.cons (.ix (.var 0) (.int (2))) (.cons (.var 1) .nil))) .nil))))
  .skip))
def N__law_has : List Str := ["_law_term", "_law_number"]
def e__law_has : Ent := ⟨2, N__law_has, b__law_has, top 30, 0⟩
/-- _law_is_form: 0 _law_one, 1 _law_part -/
def b__law_is_form : S := (.seq (.ite (.or_ (.cons (.not_ (.isi (.var 0) .tuple)) (.cons (.cmp .lt (.len (.var 0)) (.int (2))) (.cons (.not_ (.isi (.ix (.var 0) (.int (0))) .str)) .nil)))) (.seq (.ret (.bl false))
  .skip) .skip)
  (.seq (.ite (.cmp .eq (.ix (.var 0) (.int (0))) (.str "name")) (.seq (.ret (.and_ (.cons (.cmp .eq (.len (.var 0)) (.int (2))) (.cons (.isi (.ix (.var 0) (.int (1))) .int) (.cons (.not_ (.isi (.ix (.var 0) (.int (1))) .bool)) .nil)))))
  .skip) .skip)
  (.seq (.ite (.cmp .eq (.ix (.var 0) (.int (0))) (.str "pair")) (.seq (.ret (.and_ (.cons (.cmp .eq (.len (.var 0)) (.int (3))) (.cons (.call "_law_is_form" (.cons (.ix (.var 0) (.int (1))) .nil)) (.cons (.call "_law_is_form" (.cons (.ix (.var 0) (.int (2))) .nil)) .nil)))))
  .skip) .skip)
  (.seq (.ite (.or_ (.cons (.cmp .nin (.ix (.var 0) (.int (0))) (.lst (.cons (.str "sum") (.cons (.str "mul") .nil)))) (.cons (.cmp .lt (.len (.var 0)) (.int (3))) .nil))) (.seq (.ret (.bl false))
  .skip) .skip)
  (.seq (.for_ 1 (.sl (.var 0) (.int (1)) .nil) (.seq (.ite (.or_ (.cons (.not_ (.call "_law_is_form" (.cons (.var 1) .nil))) (.cons (.cmp .eq (.ix (.var 1) (.int (0))) (.ix (.var 0) (.int (0)))) .nil))) (.seq (.ret (.bl false))
  .skip) .skip)
  .skip))
  (.seq (.ret (.cmp .eq (.list (.sl (.var 0) (.int (1)) .nil)) (.sorted (.sl (.var 0) (.int (1)) .nil))))
  .skip))))))
def N__law_is_form : List Str := ["_law_one", "_law_part"]
def e__law_is_form : Ent := ⟨1, N__law_is_form, b__law_is_form, top 31, 0⟩
/-- _law_rows: 0 _law_found, 1 _law_numbers, 2 _law_rows_here, 3 _law_filling, 4 _law_number -/
def b__law_rows : S := (.seq (.set 2 (.lst .nil))
  (.seq (.for_ 3 (.var 0) (.seq (.ite (.or_ (.cons (.not_ (.isi (.var 3) .dict)) (.cons (.cmp .ne (.list (.var 3)) (.var 1)) .nil))) (.seq (.ret .non)
  .skip) .skip)
  (.seq (.for_ 4 (.var 1) (.seq (.ite (.not_ (.call "_law_is_form" (.cons (.ix (.var 3) (.var 4)) .nil))) (.seq (.ret .non)
  .skip) .skip)
  .skip))
  (.seq (.expr (.append 2 (.lc (.ix (.var 3) (.var 4)) 4 (.var 1) .nil [3])))
  .skip))))
  (.seq (.ret (.var 2))
  .skip)))
def N__law_rows : List Str := ["_law_found", "_law_numbers", "_law_rows_here", "_law_filling", "_law_number"]
def e__law_rows : Ent := ⟨2, N__law_rows, b__law_rows, top 32, 0⟩
/-- _law_put: 0 _law_term, 1 _law_forms -/
def b__law_put : S := (.seq (.ite (.cmp .eq (.ix (.var 0) (.int (0))) (.str "open")) (.seq (.ret (.call "_law_grown" (.cons (.ix (.var 1) (.ix (.var 0) (.int (1)))) .nil)))
  .skip) .skip)
  (.seq (.ite (.cmp .eq (.ix (.var 0) (.int (0))) (.str "name")) (.seq (.ret (.var 0))
  .skip) .skip)
  (.seq (.ret (.tup (.cons (.ix (.var 0) (.int (0))) (.cons (.call "_law_put" (.cons (.ix (.var 0) (.int (1))) (.cons (.var 1) .nil))) (.cons (.call "_law_put" (.cons (.ix (.var 0) (.int (2))) (.cons (.var 1) .nil))) .nil)))))
  .skip)))
def N__law_put : List Str := ["_law_term", "_law_forms"]
def e__law_put : Ent := ⟨2, N__law_put, b__law_put, top 33, 0⟩
/-- _law_grown: 0 _law_one -/
def b__law_grown : S := (.seq (.ite (.cmp .eq (.ix (.var 0) (.int (0))) (.str "name")) (.seq (.ret (.var 0))
  .skip) .skip)
  (.seq (.ite (.or_ (.cons (.cmp .eq (.ix (.var 0) (.int (0))) (.str "pair")) (.cons (.cmp .eq (.len (.var 0)) (.int (3))) .nil))) (.seq (.ret (.tup (.cons (.ix (.var 0) (.int (0))) (.cons (.call "_law_grown" (.cons (.ix (.var 0) (.int (1))) .nil)) (.cons (.call "_law_grown" (.cons (.ix (.var 0) (.int (2))) .nil)) .nil)))))
  .skip) .skip)
  (.seq (.ret (.tup (.cons (.ix (.var 0) (.int (0))) (.cons (.call "_law_grown" (.cons (.ix (.var 0) (.int (1))) .nil)) (.cons (.call "_law_grown" (.cons (.bin .add (.tup (.cons (.ix (.var 0) (.int (0))) .nil)) (.sl (.var 0) (.int (2)) .nil)) .nil)) .nil)))))
  .skip)))
def N__law_grown : List Str := ["_law_one"]
def e__law_grown : Ent := ⟨1, N__law_grown, b__law_grown, top 34, 0⟩
def N__law_asked : List Str := ["_law_pattern", "_law_term", "_law_numbers", "_law_found", "_law_rows_here", "_law_k"]
def e__law_asked : Ent := ⟨3, N__law_asked, .skip, top 35, 3⟩
/-- law: 0 _law_script, 1 _law_cell, 2 _law_names_here, 3 _law_spots, 4 _law_lasts, 5 _law_pattern, 6 _law_term, 7 _law_numbers, 8 _law_rows_here, 9 _law_k, 10 _law_forms -/
def b_law : S := (.seq (.set 1 (.call "_law_cell_at" (.cons (.var 0) (.cons (.int (0)) .nil))))
  (.seq (.set 2 (.sl (.call "_law_names" (.cons (.call "_law_cell_at" (.cons (.var 0) (.cons (.int (1)) .nil))) .nil)) .nil (.bin .add (.int (2)) (.bin .mod (.bin .fdiv (.var 1) (.int (4))) (.int (2))))))
  (.seq (.set 3 (.ix (.lst (.cons (.lst (.cons (.int (0)) (.cons (.int (1)) (.cons (.int (2)) .nil)))) (.cons (.lst (.cons (.int (0)) (.cons (.int (3)) (.cons (.int (9)) .nil)))) (.cons (.lst (.cons (.int (2)) (.cons (.int (5)) (.cons (.int (8)) .nil)))) (.cons (.lst (.cons (.int (1)) (.cons (.int (4)) (.cons (.int (7)) .nil)))) .nil))))) (.bin .mod (.call "_law_cell_at" (.cons (.var 0) (.cons (.int (2)) .nil))) (.int (4)))))
  (.seq (.set 4 (.lst (.cons (.str "sum") (.cons (.str "mul") .nil))))
  (.seq (.set 5 (.call "_law_made" (.cons (.sl (.var 0) (.int (3)) (.int (7))) (.cons (.var 2) (.cons (.var 3) (.cons (.ix (.var 4) (.bin .mod (.var 1) (.int (2)))) .nil))))))
  (.seq (.set 6 (.call "_law_made" (.cons (.sl (.var 0) (.int (7)) (.int (13))) (.cons (.var 2) (.cons (.lst .nil) (.cons (.ix (.var 4) (.bin .mod (.bin .fdiv (.var 1) (.int (2))) (.int (2)))) .nil))))))
  (.seq (.ite (.cmp .eq (.bin .mod (.bin .fdiv (.var 1) (.int (8))) (.int (3))) (.int (1))) (.seq (.set 5 (.call "_law_made" (.cons (.sl (.var 0) (.int (3)) (.int (6))) (.cons (.var 2) (.cons (.var 3) (.cons (.ix (.var 4) (.bin .mod (.var 1) (.int (2)))) .nil))))))
  (.seq (.set 10 (.dnew false))
  (.seq (.for_ 9 (.range1 (.int (3))) (.seq (.put 10 (.ix (.var 3) (.var 9)) (.call "_law_filled" (.cons (.call "_law_made" (.cons (.sl (.var 0) (.bin .add (.int (7)) (.var 9)) (.bin .add (.int (9)) (.var 9))) (.cons (.var 2) (.cons (.lst .nil) (.cons (.str "mul") .nil))))) (.cons (.dnew false) .nil))))
  .skip))
  (.seq (.set 6 (.call "_law_put" (.cons (.var 5) (.cons (.var 10) .nil))))
  .skip)))) .skip)
  (.seq (.set 7 (.lc (.var 9) 9 (.range1 (.int (10))) (.call "_law_has" (.cons (.var 5) (.cons (.var 9) .nil))) [5]))
  (.seq (.set 8 (.call "_law_asked" (.cons (.var 5) (.cons (.var 6) (.cons (.var 7) .nil)))))
  (.seq (.ite (.or_ (.cons (.cmp .isn (.var 8) .non) (.cons (.cmp .ne (.call "_law_asked" (.cons (.var 5) (.cons (.var 6) (.cons (.var 7) .nil)))) (.var 8)) .nil))) (.seq (.ret (.bl false))
  .skip) .skip)
  (.seq (.for_ 9 (.range1 (.len (.var 8))) (.seq (.ite (.and_ (.cons (.cmp .gt (.var 9) (.int (0))) (.cons (.not_ (.cmp .lt (.ix (.var 8) (.bin .sub (.var 9) (.int (1)))) (.ix (.var 8) (.var 9)))) .nil))) (.seq (.ret (.bl false))
  .skip) .skip)
  (.seq (.ite (.cmp .ne (.call "_law_filled" (.cons (.var 5) (.cons (.dictzip (.var 7) (.ix (.var 8) (.var 9))) .nil))) (.call "_law_filled" (.cons (.var 6) (.cons (.dnew false) .nil)))) (.seq (.ret (.bl false))
  .skip) .skip)
  .skip)))
  (.seq (.ret (.bl true))
  .skip))))))))))))
def N_law : List Str := ["_law_script", "_law_cell", "_law_names_here", "_law_spots", "_law_lasts", "_law_pattern", "_law_term", "_law_numbers", "_law_rows_here", "_law_k", "_law_forms"]
def e_law : Ent := ⟨1, N_law, b_law, top 36, 0⟩
def tab : Tab := [(("is_whole" : Str), e_is_whole), (("is_leaf" : Str), e_is_leaf), (("has_shape" : Str), e_has_shape), (("leaves_of" : Str), e_leaves_of), (("leaves" : Str), e_leaves), (("opens" : Str), e_opens), (("parts_of" : Str), e_parts_of), (("joined" : Str), e_joined), (("flat" : Str), e_flat), (("picks" : Str), e_picks), (("shared" : Str), e_shared), (("matched" : Str), e_matched), (("need_plain" : Str), e_need_plain), (("fillings" : Str), e_fillings), (("_law_cell_at" : Str), e__law_cell_at), (("_law_names" : Str), e__law_names), (("_law_made" : Str), e__law_made), (("_law_filled" : Str), e__law_filled), (("_law_has" : Str), e__law_has), (("_law_is_form" : Str), e__law_is_form), (("_law_rows" : Str), e__law_rows), (("_law_put" : Str), e__law_put), (("_law_grown" : Str), e__law_grown), (("_law_asked" : Str), e__law_asked), (("law" : Str), e_law)]
def gls : List (Str × D) := [("LEAVES", .int 40), ("GREATEST", .int 1000000000), ("OPENS", .int 10)]
def GLs : Str → Option D := fun x => gls.lookup x
set_option maxHeartbeats 8000000 in
theorem tab_ok : tabB CNS tab = true := by decide +kernel
set_option maxHeartbeats 8000000 in
theorem mods_mk {w : World} {K : PySem.W.Frag} {h : Heap} {mg : Str → Option Value} {fa : Addr} (X : K.In h) (G : h.Ns mainGlobals mg) (hfa : mg "law" = some (.ref fa))
    {f0 : Addr} {od0 an0 : Option Addr} {sl0 : Array (Option Value)} {oc0 kV0 dc0 pm0 cd0 ct0 : Value}
    {f1 : Addr} {od1 an1 : Option Addr} {sl1 : Array (Option Value)} {oc1 kV1 dc1 pm1 cd1 ct1 : Value}
    {f2 : Addr} {od2 an2 : Option Addr} {sl2 : Array (Option Value)} {oc2 kV2 dc2 pm2 cd2 ct2 : Value}
    {f3 : Addr} {od3 an3 : Option Addr} {sl3 : Array (Option Value)} {oc3 kV3 dc3 pm3 cd3 ct3 : Value}
    {f4 : Addr} {od4 an4 : Option Addr} {sl4 : Array (Option Value)} {oc4 kV4 dc4 pm4 cd4 ct4 : Value}
    {f5 : Addr} {od5 an5 : Option Addr} {sl5 : Array (Option Value)} {oc5 kV5 dc5 pm5 cd5 ct5 : Value}
    {f6 : Addr} {od6 an6 : Option Addr} {sl6 : Array (Option Value)} {oc6 kV6 dc6 pm6 cd6 ct6 : Value}
    {f7 : Addr} {od7 an7 : Option Addr} {sl7 : Array (Option Value)} {oc7 kV7 dc7 pm7 cd7 ct7 : Value}
    {f8 : Addr} {od8 an8 : Option Addr} {sl8 : Array (Option Value)} {oc8 kV8 dc8 pm8 cd8 ct8 : Value}
    {f9 : Addr} {od9 an9 : Option Addr} {sl9 : Array (Option Value)} {oc9 kV9 dc9 pm9 cd9 ct9 : Value}
    {f10 : Addr} {od10 an10 : Option Addr} {sl10 : Array (Option Value)} {oc10 kV10 dc10 pm10 cd10 ct10 : Value}
    {f11 : Addr} {od11 an11 : Option Addr} {sl11 : Array (Option Value)} {oc11 kV11 dc11 pm11 cd11 ct11 : Value}
    {f12 : Addr} {od12 an12 : Option Addr} {sl12 : Array (Option Value)} {oc12 kV12 dc12 pm12 cd12 ct12 : Value}
    {f13 : Addr} {od13 an13 : Option Addr} {sl13 : Array (Option Value)} {oc13 kV13 dc13 pm13 cd13 ct13 : Value}
    {f14 : Addr} {od14 an14 : Option Addr} {sl14 : Array (Option Value)} {oc14 kV14 dc14 pm14 cd14 ct14 : Value}
    {f15 : Addr} {od15 an15 : Option Addr} {sl15 : Array (Option Value)} {oc15 kV15 dc15 pm15 cd15 ct15 : Value}
    {f16 : Addr} {od16 an16 : Option Addr} {sl16 : Array (Option Value)} {oc16 kV16 dc16 pm16 cd16 ct16 : Value}
    {f17 : Addr} {od17 an17 : Option Addr} {sl17 : Array (Option Value)} {oc17 kV17 dc17 pm17 cd17 ct17 : Value}
    {f18 : Addr} {od18 an18 : Option Addr} {sl18 : Array (Option Value)} {oc18 kV18 dc18 pm18 cd18 ct18 : Value}
    {f19 : Addr} {od19 an19 : Option Addr} {sl19 : Array (Option Value)} {oc19 kV19 dc19 pm19 cd19 ct19 : Value}
    {f20 : Addr} {od20 an20 : Option Addr} {sl20 : Array (Option Value)} {oc20 kV20 dc20 pm20 cd20 ct20 : Value}
    {f21 : Addr} {od21 an21 : Option Addr} {sl21 : Array (Option Value)} {oc21 kV21 dc21 pm21 cd21 ct21 : Value}
    {f22 : Addr} {od22 an22 : Option Addr} {sl22 : Array (Option Value)} {oc22 kV22 dc22 pm22 cd22 ct22 : Value}
    {f23 : Addr} {od23 an23 : Option Addr} {sl23 : Array (Option Value)} {oc23 kV23 dc23 pm23 cd23 ct23 : Value}
    {f24 : Addr} {od24 an24 : Option Addr} {sl24 : Array (Option Value)} {oc24 kV24 dc24 pm24 cd24 ct24 : Value}
    {t_LEAVES : Tok}
    {t_GREATEST : Tok}
    {t_OPENS : Tok}
    (a0 : PySem.W.nsIn K mainGlobals "is_whole" = some (some (.ref f0)))
    (l0 : K.lookup f0 = some ⟨oc0, od0, .func (PySem.W.fnOf "is_whole" "is_whole" (defArgs e_is_whole.st) (defBody e_is_whole.st) (defScope e_is_whole.st) .none kV0 dc0 pm0 an0 cd0 ct0), sl0⟩)
    (c0 : PySem.W.codeIn K cd0 "is_whole" = true)
    (k0 : PySem.W.keepIn K (.ref f0) = true)
    (a1 : PySem.W.nsIn K mainGlobals "is_leaf" = some (some (.ref f1)))
    (l1 : K.lookup f1 = some ⟨oc1, od1, .func (PySem.W.fnOf "is_leaf" "is_leaf" (defArgs e_is_leaf.st) (defBody e_is_leaf.st) (defScope e_is_leaf.st) .none kV1 dc1 pm1 an1 cd1 ct1), sl1⟩)
    (c1 : PySem.W.codeIn K cd1 "is_leaf" = true)
    (k1 : PySem.W.keepIn K (.ref f1) = true)
    (a2 : PySem.W.nsIn K mainGlobals "has_shape" = some (some (.ref f2)))
    (l2 : K.lookup f2 = some ⟨oc2, od2, .func (PySem.W.fnOf "has_shape" "has_shape" (defArgs e_has_shape.st) (defBody e_has_shape.st) (defScope e_has_shape.st) .none kV2 dc2 pm2 an2 cd2 ct2), sl2⟩)
    (c2 : PySem.W.codeIn K cd2 "has_shape" = true)
    (k2 : PySem.W.keepIn K (.ref f2) = true)
    (a3 : PySem.W.nsIn K mainGlobals "leaves_of" = some (some (.ref f3)))
    (l3 : K.lookup f3 = some ⟨oc3, od3, .func (PySem.W.fnOf "leaves_of" "leaves_of" (defArgs e_leaves_of.st) (defBody e_leaves_of.st) (defScope e_leaves_of.st) .none kV3 dc3 pm3 an3 cd3 ct3), sl3⟩)
    (c3 : PySem.W.codeIn K cd3 "leaves_of" = true)
    (k3 : PySem.W.keepIn K (.ref f3) = true)
    (a4 : PySem.W.nsIn K mainGlobals "leaves" = some (some (.ref f4)))
    (l4 : K.lookup f4 = some ⟨oc4, od4, .func (PySem.W.fnOf "leaves" "leaves" (defArgs e_leaves.st) (defBody e_leaves.st) (defScope e_leaves.st) .none kV4 dc4 pm4 an4 cd4 ct4), sl4⟩)
    (c4 : PySem.W.codeIn K cd4 "leaves" = true)
    (k4 : PySem.W.keepIn K (.ref f4) = true)
    (a5 : PySem.W.nsIn K mainGlobals "opens" = some (some (.ref f5)))
    (l5 : K.lookup f5 = some ⟨oc5, od5, .func (PySem.W.fnOf "opens" "opens" (defArgs e_opens.st) (defBody e_opens.st) (defScope e_opens.st) .none kV5 dc5 pm5 an5 cd5 ct5), sl5⟩)
    (c5 : PySem.W.codeIn K cd5 "opens" = true)
    (k5 : PySem.W.keepIn K (.ref f5) = true)
    (a6 : PySem.W.nsIn K mainGlobals "parts_of" = some (some (.ref f6)))
    (l6 : K.lookup f6 = some ⟨oc6, od6, .func (PySem.W.fnOf "parts_of" "parts_of" (defArgs e_parts_of.st) (defBody e_parts_of.st) (defScope e_parts_of.st) .none kV6 dc6 pm6 an6 cd6 ct6), sl6⟩)
    (c6 : PySem.W.codeIn K cd6 "parts_of" = true)
    (k6 : PySem.W.keepIn K (.ref f6) = true)
    (a7 : PySem.W.nsIn K mainGlobals "joined" = some (some (.ref f7)))
    (l7 : K.lookup f7 = some ⟨oc7, od7, .func (PySem.W.fnOf "joined" "joined" (defArgs e_joined.st) (defBody e_joined.st) (defScope e_joined.st) .none kV7 dc7 pm7 an7 cd7 ct7), sl7⟩)
    (c7 : PySem.W.codeIn K cd7 "joined" = true)
    (k7 : PySem.W.keepIn K (.ref f7) = true)
    (a8 : PySem.W.nsIn K mainGlobals "flat" = some (some (.ref f8)))
    (l8 : K.lookup f8 = some ⟨oc8, od8, .func (PySem.W.fnOf "flat" "flat" (defArgs e_flat.st) (defBody e_flat.st) (defScope e_flat.st) .none kV8 dc8 pm8 an8 cd8 ct8), sl8⟩)
    (c8 : PySem.W.codeIn K cd8 "flat" = true)
    (k8 : PySem.W.keepIn K (.ref f8) = true)
    (a9 : PySem.W.nsIn K mainGlobals "picks" = some (some (.ref f9)))
    (l9 : K.lookup f9 = some ⟨oc9, od9, .func (PySem.W.fnOf "picks" "picks" (defArgs e_picks.st) (defBody e_picks.st) (defScope e_picks.st) .none kV9 dc9 pm9 an9 cd9 ct9), sl9⟩)
    (c9 : PySem.W.codeIn K cd9 "picks" = true)
    (k9 : PySem.W.keepIn K (.ref f9) = true)
    (a10 : PySem.W.nsIn K mainGlobals "shared" = some (some (.ref f10)))
    (l10 : K.lookup f10 = some ⟨oc10, od10, .func (PySem.W.fnOf "shared" "shared" (defArgs e_shared.st) (defBody e_shared.st) (defScope e_shared.st) .none kV10 dc10 pm10 an10 cd10 ct10), sl10⟩)
    (c10 : PySem.W.codeIn K cd10 "shared" = true)
    (k10 : PySem.W.keepIn K (.ref f10) = true)
    (a11 : PySem.W.nsIn K mainGlobals "matched" = some (some (.ref f11)))
    (l11 : K.lookup f11 = some ⟨oc11, od11, .func (PySem.W.fnOf "matched" "matched" (defArgs e_matched.st) (defBody e_matched.st) (defScope e_matched.st) .none kV11 dc11 pm11 an11 cd11 ct11), sl11⟩)
    (c11 : PySem.W.codeIn K cd11 "matched" = true)
    (k11 : PySem.W.keepIn K (.ref f11) = true)
    (a12 : PySem.W.nsIn K mainGlobals "need_plain" = some (some (.ref f12)))
    (l12 : K.lookup f12 = some ⟨oc12, od12, .func (PySem.W.fnOf "need_plain" "need_plain" (defArgs e_need_plain.st) (defBody e_need_plain.st) (defScope e_need_plain.st) .none kV12 dc12 pm12 an12 cd12 ct12), sl12⟩)
    (c12 : PySem.W.codeIn K cd12 "need_plain" = true)
    (k12 : PySem.W.keepIn K (.ref f12) = true)
    (a13 : PySem.W.nsIn K mainGlobals "fillings" = some (some (.ref f13)))
    (l13 : K.lookup f13 = some ⟨oc13, od13, .func (PySem.W.fnOf "fillings" "fillings" (defArgs e_fillings.st) (defBody e_fillings.st) (defScope e_fillings.st) .none kV13 dc13 pm13 an13 cd13 ct13), sl13⟩)
    (c13 : PySem.W.codeIn K cd13 "fillings" = true)
    (k13 : PySem.W.keepIn K (.ref f13) = true)
    (a14 : PySem.W.nsIn K mainGlobals "_law_cell_at" = some (some (.ref f14)))
    (l14 : K.lookup f14 = some ⟨oc14, od14, .func (PySem.W.fnOf "_law_cell_at" "_law_cell_at" (defArgs e__law_cell_at.st) (defBody e__law_cell_at.st) (defScope e__law_cell_at.st) .none kV14 dc14 pm14 an14 cd14 ct14), sl14⟩)
    (c14 : PySem.W.codeIn K cd14 "_law_cell_at" = true)
    (k14 : PySem.W.keepIn K (.ref f14) = true)
    (a15 : PySem.W.nsIn K mainGlobals "_law_names" = some (some (.ref f15)))
    (l15 : K.lookup f15 = some ⟨oc15, od15, .func (PySem.W.fnOf "_law_names" "_law_names" (defArgs e__law_names.st) (defBody e__law_names.st) (defScope e__law_names.st) .none kV15 dc15 pm15 an15 cd15 ct15), sl15⟩)
    (c15 : PySem.W.codeIn K cd15 "_law_names" = true)
    (k15 : PySem.W.keepIn K (.ref f15) = true)
    (a16 : PySem.W.nsIn K mainGlobals "_law_made" = some (some (.ref f16)))
    (l16 : K.lookup f16 = some ⟨oc16, od16, .func (PySem.W.fnOf "_law_made" "_law_made" (defArgs e__law_made.st) (defBody e__law_made.st) (defScope e__law_made.st) .none kV16 dc16 pm16 an16 cd16 ct16), sl16⟩)
    (c16 : PySem.W.codeIn K cd16 "_law_made" = true)
    (k16 : PySem.W.keepIn K (.ref f16) = true)
    (a17 : PySem.W.nsIn K mainGlobals "_law_filled" = some (some (.ref f17)))
    (l17 : K.lookup f17 = some ⟨oc17, od17, .func (PySem.W.fnOf "_law_filled" "_law_filled" (defArgs e__law_filled.st) (defBody e__law_filled.st) (defScope e__law_filled.st) .none kV17 dc17 pm17 an17 cd17 ct17), sl17⟩)
    (c17 : PySem.W.codeIn K cd17 "_law_filled" = true)
    (k17 : PySem.W.keepIn K (.ref f17) = true)
    (a18 : PySem.W.nsIn K mainGlobals "_law_has" = some (some (.ref f18)))
    (l18 : K.lookup f18 = some ⟨oc18, od18, .func (PySem.W.fnOf "_law_has" "_law_has" (defArgs e__law_has.st) (defBody e__law_has.st) (defScope e__law_has.st) .none kV18 dc18 pm18 an18 cd18 ct18), sl18⟩)
    (c18 : PySem.W.codeIn K cd18 "_law_has" = true)
    (k18 : PySem.W.keepIn K (.ref f18) = true)
    (a19 : PySem.W.nsIn K mainGlobals "_law_is_form" = some (some (.ref f19)))
    (l19 : K.lookup f19 = some ⟨oc19, od19, .func (PySem.W.fnOf "_law_is_form" "_law_is_form" (defArgs e__law_is_form.st) (defBody e__law_is_form.st) (defScope e__law_is_form.st) .none kV19 dc19 pm19 an19 cd19 ct19), sl19⟩)
    (c19 : PySem.W.codeIn K cd19 "_law_is_form" = true)
    (k19 : PySem.W.keepIn K (.ref f19) = true)
    (a20 : PySem.W.nsIn K mainGlobals "_law_rows" = some (some (.ref f20)))
    (l20 : K.lookup f20 = some ⟨oc20, od20, .func (PySem.W.fnOf "_law_rows" "_law_rows" (defArgs e__law_rows.st) (defBody e__law_rows.st) (defScope e__law_rows.st) .none kV20 dc20 pm20 an20 cd20 ct20), sl20⟩)
    (c20 : PySem.W.codeIn K cd20 "_law_rows" = true)
    (k20 : PySem.W.keepIn K (.ref f20) = true)
    (a21 : PySem.W.nsIn K mainGlobals "_law_put" = some (some (.ref f21)))
    (l21 : K.lookup f21 = some ⟨oc21, od21, .func (PySem.W.fnOf "_law_put" "_law_put" (defArgs e__law_put.st) (defBody e__law_put.st) (defScope e__law_put.st) .none kV21 dc21 pm21 an21 cd21 ct21), sl21⟩)
    (c21 : PySem.W.codeIn K cd21 "_law_put" = true)
    (k21 : PySem.W.keepIn K (.ref f21) = true)
    (a22 : PySem.W.nsIn K mainGlobals "_law_grown" = some (some (.ref f22)))
    (l22 : K.lookup f22 = some ⟨oc22, od22, .func (PySem.W.fnOf "_law_grown" "_law_grown" (defArgs e__law_grown.st) (defBody e__law_grown.st) (defScope e__law_grown.st) .none kV22 dc22 pm22 an22 cd22 ct22), sl22⟩)
    (c22 : PySem.W.codeIn K cd22 "_law_grown" = true)
    (k22 : PySem.W.keepIn K (.ref f22) = true)
    (a23 : PySem.W.nsIn K mainGlobals "_law_asked" = some (some (.ref f23)))
    (l23 : K.lookup f23 = some ⟨oc23, od23, .func (PySem.W.fnOf "_law_asked" "_law_asked" (defArgs e__law_asked.st) (defBody e__law_asked.st) (defScope e__law_asked.st) .none kV23 dc23 pm23 an23 cd23 ct23), sl23⟩)
    (c23 : PySem.W.codeIn K cd23 "_law_asked" = true)
    (k23 : PySem.W.keepIn K (.ref f23) = true)
    (a24 : PySem.W.nsIn K mainGlobals "law" = some (some (.ref f24)))
    (l24 : K.lookup f24 = some ⟨oc24, od24, .func (PySem.W.fnOf "law" "law" (defArgs e_law.st) (defBody e_law.st) (defScope e_law.st) .none kV24 dc24 pm24 an24 cd24 ct24), sl24⟩)
    (c24 : PySem.W.codeIn K cd24 "law" = true)
    (k24 : PySem.W.keepIn K (.ref f24) = true)
    (z_ValueError : PySem.W.nsIn K mainGlobals "ValueError" = some none)
    (z_bool : PySem.W.nsIn K mainGlobals "bool" = some none)
    (z_dict : PySem.W.nsIn K mainGlobals "dict" = some none)
    (z_int : PySem.W.nsIn K mainGlobals "int" = some none)
    (z_isinstance : PySem.W.nsIn K mainGlobals "isinstance" = some none)
    (z_len : PySem.W.nsIn K mainGlobals "len" = some none)
    (z_list : PySem.W.nsIn K mainGlobals "list" = some none)
    (z_max : PySem.W.nsIn K mainGlobals "max" = some none)
    (z_min : PySem.W.nsIn K mainGlobals "min" = some none)
    (z_range : PySem.W.nsIn K mainGlobals "range" = some none)
    (z_reversed : PySem.W.nsIn K mainGlobals "reversed" = some none)
    (z_set : PySem.W.nsIn K mainGlobals "set" = some none)
    (z_sorted : PySem.W.nsIn K mainGlobals "sorted" = some none)
    (z_str : PySem.W.nsIn K mainGlobals "str" = some none)
    (z_tuple : PySem.W.nsIn K mainGlobals "tuple" = some none)
    (z_zip : PySem.W.nsIn K mainGlobals "zip" = some none)
    (g_LEAVES : PySem.W.nsIn K mainGlobals "LEAVES" = some (some (.int 40 t_LEAVES)))
    (g_GREATEST : PySem.W.nsIn K mainGlobals "GREATEST" = some (some (.int 1000000000 t_GREATEST)))
    (g_OPENS : PySem.W.nsIn K mainGlobals "OPENS" = some (some (.int 10 t_OPENS))) :
    ∃ (cf : Cfg) (cls : Cls), cls.on = CNS ∧ Mods w K mg tab GLs cls ∧ ∃ fd, FnAt K mg "law" e_law fa fd ∧ (∀ (s : Shared) (u : Value), BindsTo s fd ⟨[u], []⟩ [("_law_script", u)]) := by
  letI cf : Cfg := ⟨fa⟩
  have A0 : FnAt K mg "is_whole" e_is_whole f0 _ := ⟨fun_mk (st := e_is_whole.st) l0 c0 k0, PySem.W.mg_of X G a0, (fun_mk (st := e_is_whole.st) l0 c0 k0).binds (ps := ["thing"]) fun _ _ _ _ _ _ us hl => match us, hl with | [_], _ => rfl, rfl⟩
  have A1 : FnAt K mg "is_leaf" e_is_leaf f1 _ := ⟨fun_mk (st := e_is_leaf.st) l1 c1 k1, PySem.W.mg_of X G a1, (fun_mk (st := e_is_leaf.st) l1 c1 k1).binds (ps := ["term"]) fun _ _ _ _ _ _ us hl => match us, hl with | [_], _ => rfl, rfl⟩
  have A2 : FnAt K mg "has_shape" e_has_shape f2 _ := ⟨fun_mk (st := e_has_shape.st) l2 c2 k2, PySem.W.mg_of X G a2, (fun_mk (st := e_has_shape.st) l2 c2 k2).binds (ps := ["thing"]) fun _ _ _ _ _ _ us hl => match us, hl with | [_], _ => rfl, rfl⟩
  have A3 : FnAt K mg "leaves_of" e_leaves_of f3 _ := ⟨fun_mk (st := e_leaves_of.st) l3 c3 k3, PySem.W.mg_of X G a3, (fun_mk (st := e_leaves_of.st) l3 c3 k3).binds (ps := ["term"]) fun _ _ _ _ _ _ us hl => match us, hl with | [_], _ => rfl, rfl⟩
  have A4 : FnAt K mg "leaves" e_leaves f4 _ := ⟨fun_mk (st := e_leaves.st) l4 c4 k4, PySem.W.mg_of X G a4, (fun_mk (st := e_leaves.st) l4 c4 k4).binds (ps := ["term"]) fun _ _ _ _ _ _ us hl => match us, hl with | [_], _ => rfl, rfl⟩
  have A5 : FnAt K mg "opens" e_opens f5 _ := ⟨fun_mk (st := e_opens.st) l5 c5 k5, PySem.W.mg_of X G a5, (fun_mk (st := e_opens.st) l5 c5 k5).binds (ps := ["term"]) fun _ _ _ _ _ _ us hl => match us, hl with | [_], _ => rfl, rfl⟩
  have A6 : FnAt K mg "parts_of" e_parts_of f6 _ := ⟨fun_mk (st := e_parts_of.st) l6 c6 k6, PySem.W.mg_of X G a6, (fun_mk (st := e_parts_of.st) l6 c6 k6).binds (ps := ["one", "sign"]) fun _ _ _ _ _ _ us hl => match us, hl with | [_, _], _ => rfl, rfl⟩
  have A7 : FnAt K mg "joined" e_joined f7 _ := ⟨fun_mk (st := e_joined.st) l7 c7 k7, PySem.W.mg_of X G a7, (fun_mk (st := e_joined.st) l7 c7 k7).binds (ps := ["sign", "ones"]) fun _ _ _ _ _ _ us hl => match us, hl with | [_, _], _ => rfl, rfl⟩
  have A8 : FnAt K mg "flat" e_flat f8 _ := ⟨fun_mk (st := e_flat.st) l8 c8 k8, PySem.W.mg_of X G a8, (fun_mk (st := e_flat.st) l8 c8 k8).binds (ps := ["term"]) fun _ _ _ _ _ _ us hl => match us, hl with | [_], _ => rfl, rfl⟩
  have A9 : FnAt K mg "picks" e_picks f9 _ := ⟨fun_mk (st := e_picks.st) l9 c9 k9, PySem.W.mg_of X G a9, (fun_mk (st := e_picks.st) l9 c9 k9).binds (ps := ["size", "most"]) fun _ _ _ _ _ _ us hl => match us, hl with | [_, _], _ => rfl, rfl⟩
  have A10 : FnAt K mg "shared" e_shared f10 _ := ⟨fun_mk (st := e_shared.st) l10 c10 k10, PySem.W.mg_of X G a10, (fun_mk (st := e_shared.st) l10 c10 k10).binds (ps := ["sign", "wanted", "there", "filling"]) fun _ _ _ _ _ _ us hl => match us, hl with | [_, _, _, _], _ => rfl, rfl⟩
  have A11 : FnAt K mg "matched" e_matched f11 _ := ⟨fun_mk (st := e_matched.st) l11 c11 k11, PySem.W.mg_of X G a11, (fun_mk (st := e_matched.st) l11 c11 k11).binds (ps := ["one", "whole", "filling"]) fun _ _ _ _ _ _ us hl => match us, hl with | [_, _, _], _ => rfl, rfl⟩
  have A12 : FnAt K mg "need_plain" e_need_plain f12 _ := ⟨fun_mk (st := e_need_plain.st) l12 c12 k12, PySem.W.mg_of X G a12, (fun_mk (st := e_need_plain.st) l12 c12 k12).binds (ps := ["term"]) fun _ _ _ _ _ _ us hl => match us, hl with | [_], _ => rfl, rfl⟩
  have A13 : FnAt K mg "fillings" e_fillings f13 _ := ⟨fun_mk (st := e_fillings.st) l13 c13 k13, PySem.W.mg_of X G a13, (fun_mk (st := e_fillings.st) l13 c13 k13).binds (ps := ["pattern", "term"]) fun _ _ _ _ _ _ us hl => match us, hl with | [_, _], _ => rfl, rfl⟩
  have A14 : FnAt K mg "_law_cell_at" e__law_cell_at f14 _ := ⟨fun_mk (st := e__law_cell_at.st) l14 c14 k14, PySem.W.mg_of X G a14, (fun_mk (st := e__law_cell_at.st) l14 c14 k14).binds (ps := ["_law_script", "_law_k"]) fun _ _ _ _ _ _ us hl => match us, hl with | [_, _], _ => rfl, rfl⟩
  have A15 : FnAt K mg "_law_names" e__law_names f15 _ := ⟨fun_mk (st := e__law_names.st) l15 c15 k15, PySem.W.mg_of X G a15, (fun_mk (st := e__law_names.st) l15 c15 k15).binds (ps := ["_law_cell"]) fun _ _ _ _ _ _ us hl => match us, hl with | [_], _ => rfl, rfl⟩
  have A16 : FnAt K mg "_law_made" e__law_made f16 _ := ⟨fun_mk (st := e__law_made.st) l16 c16 k16, PySem.W.mg_of X G a16, (fun_mk (st := e__law_made.st) l16 c16 k16).binds (ps := ["_law_cells", "_law_names_here", "_law_numbers", "_law_last"]) fun _ _ _ _ _ _ us hl => match us, hl with | [_, _, _, _], _ => rfl, rfl⟩
  have A17 : FnAt K mg "_law_filled" e__law_filled f17 _ := ⟨fun_mk (st := e__law_filled.st) l17 c17 k17, PySem.W.mg_of X G a17, (fun_mk (st := e__law_filled.st) l17 c17 k17).binds (ps := ["_law_term", "_law_filling"]) fun _ _ _ _ _ _ us hl => match us, hl with | [_, _], _ => rfl, rfl⟩
  have A18 : FnAt K mg "_law_has" e__law_has f18 _ := ⟨fun_mk (st := e__law_has.st) l18 c18 k18, PySem.W.mg_of X G a18, (fun_mk (st := e__law_has.st) l18 c18 k18).binds (ps := ["_law_term", "_law_number"]) fun _ _ _ _ _ _ us hl => match us, hl with | [_, _], _ => rfl, rfl⟩
  have A19 : FnAt K mg "_law_is_form" e__law_is_form f19 _ := ⟨fun_mk (st := e__law_is_form.st) l19 c19 k19, PySem.W.mg_of X G a19, (fun_mk (st := e__law_is_form.st) l19 c19 k19).binds (ps := ["_law_one"]) fun _ _ _ _ _ _ us hl => match us, hl with | [_], _ => rfl, rfl⟩
  have A20 : FnAt K mg "_law_rows" e__law_rows f20 _ := ⟨fun_mk (st := e__law_rows.st) l20 c20 k20, PySem.W.mg_of X G a20, (fun_mk (st := e__law_rows.st) l20 c20 k20).binds (ps := ["_law_found", "_law_numbers"]) fun _ _ _ _ _ _ us hl => match us, hl with | [_, _], _ => rfl, rfl⟩
  have A21 : FnAt K mg "_law_put" e__law_put f21 _ := ⟨fun_mk (st := e__law_put.st) l21 c21 k21, PySem.W.mg_of X G a21, (fun_mk (st := e__law_put.st) l21 c21 k21).binds (ps := ["_law_term", "_law_forms"]) fun _ _ _ _ _ _ us hl => match us, hl with | [_, _], _ => rfl, rfl⟩
  have A22 : FnAt K mg "_law_grown" e__law_grown f22 _ := ⟨fun_mk (st := e__law_grown.st) l22 c22 k22, PySem.W.mg_of X G a22, (fun_mk (st := e__law_grown.st) l22 c22 k22).binds (ps := ["_law_one"]) fun _ _ _ _ _ _ us hl => match us, hl with | [_], _ => rfl, rfl⟩
  have A23 : FnAt K mg "_law_asked" e__law_asked f23 _ := ⟨fun_mk (st := e__law_asked.st) l23 c23 k23, PySem.W.mg_of X G a23, (fun_mk (st := e__law_asked.st) l23 c23 k23).binds (ps := ["_law_pattern", "_law_term", "_law_numbers"]) fun _ _ _ _ _ _ us hl => match us, hl with | [_, _, _], _ => rfl, rfl⟩
  have A24 : FnAt K mg "law" e_law f24 _ := ⟨fun_mk (st := e_law.st) l24 c24 k24, PySem.W.mg_of X G a24, (fun_mk (st := e_law.st) l24 c24 k24).binds (ps := ["_law_script"]) fun _ _ _ _ _ _ us hl => match us, hl with | [_], _ => rfl, rfl⟩
  have e := hfa.symm.trans (PySem.W.mg_of X G a24)
  cases e
  refine ⟨cf, ⟨fun _ => .none, CNS⟩, rfl, ⟨?_, ?_, ?_, ?_, ?_, ?_, ?_⟩, _, A24, fun s v => .of_eq rfl⟩
  · exact (.cons A0 (.cons A1 (.cons A2 (.cons A3 (.cons A4 (.cons A5 (.cons A6 (.cons A7 (.cons A8 (.cons A9 (.cons A10 (.cons A11 (.cons A12 (.cons A13 (.cons A14 (.cons A15 (.cons A16 (.cons A17 (.cons A18 (.cons A19 (.cons A20 (.cons A21 (.cons A22 (.cons A23 (.cons A24 .nil)))))))))))))))))))))))))
  · intro x i q
    have q := lookup_mem q
    unfold gls at q
    simp only [List.mem_cons, List.not_mem_nil, or_false, Prod.mk.injEq] at q
    rcases q with ⟨rfl, q⟩ | ⟨rfl, q⟩ | ⟨rfl, q⟩
    · cases q; exact ⟨t_LEAVES, PySem.W.mg_of X G g_LEAVES⟩
    · cases q; exact ⟨t_GREATEST, PySem.W.mg_of X G g_GREATEST⟩
    · cases q; exact ⟨t_OPENS, PySem.W.mg_of X G g_OPENS⟩
  · intro x es q
    have q := lookup_mem q
    unfold gls at q
    simp only [List.mem_cons, List.not_mem_nil, or_false, Prod.mk.injEq] at q
    rcases q with ⟨rfl, q⟩ | ⟨rfl, q⟩ | ⟨rfl, q⟩
    · cases q
    · cases q
    · cases q
  · intro c hc; cases hc
  · intro c hc; cases hc
  · intro x q
    unfold biNames at q
    simp only [List.mem_cons, List.not_mem_nil, or_false] at q
    rcases q with rfl | rfl | rfl | rfl | rfl | rfl | rfl | rfl | rfl | rfl | rfl | rfl | rfl | rfl | rfl | rfl
    · exact PySem.W.mg_none_of X G z_len
    · exact PySem.W.mg_none_of X G z_list
    · exact PySem.W.mg_none_of X G z_tuple
    · exact PySem.W.mg_none_of X G z_sorted
    · exact PySem.W.mg_none_of X G z_set
    · exact PySem.W.mg_none_of X G z_dict
    · exact PySem.W.mg_none_of X G z_min
    · exact PySem.W.mg_none_of X G z_max
    · exact PySem.W.mg_none_of X G z_int
    · exact PySem.W.mg_none_of X G z_isinstance
    · exact PySem.W.mg_none_of X G z_zip
    · exact PySem.W.mg_none_of X G z_range
    · exact PySem.W.mg_none_of X G z_reversed
    · exact PySem.W.mg_none_of X G z_bool
    · exact PySem.W.mg_none_of X G z_str
    · exact PySem.W.mg_none_of X G z_ValueError
  · exact fun h => absurd h (by decide +kernel)
end DL

set_option Elab.async false
set_option linter.all false
set_option maxRecDepth 100000
/-! G7: how big data is; _law_same. -/
namespace DL
open PySem L2

mutual
def wt : D → Nat
  | .tuple xs => wts xs + 1
  | _ => 1
def wts : List D → Nat
  | [] => 0
  | x :: xs => wt x + wts xs
end
theorem wt_pos (d : D) : 0 < wt d := by cases d <;> simp [wt]
theorem wts_sum : ∀ xs : List D, wts xs = (xs.map wt).sum
  | [] => rfl
  | x :: xs => by simp [wts, wts_sum xs]
theorem wts_len : ∀ xs : List D, xs.length ≤ wts xs
  | [] => Nat.le_refl _
  | x :: xs => by
    have := wts_len xs
    have := wt_pos x
    simp [wts]
    omega
theorem wts_mem {x : D} : ∀ {xs : List D}, x ∈ xs → wt x ≤ wts xs
  | [], h => by cases h
  | y :: ys, h => by
    simp only [wts]
    rcases List.mem_cons.mp h with rfl | h
    · omega
    · have := wts_mem h; omega
theorem wts_append (xs ys : List D) : wts (xs ++ ys) = wts xs + wts ys := by simp [wts_sum]
theorem wts_perm {xs ys : List D} (h : xs.Perm ys) : wts xs = wts ys := by
  induction h with
  | nil => rfl
  | cons x _ ih => simp [wts, ih]
  | swap x y l => simp [wts]; omega
  | trans _ _ i1 i2 => exact i1.trans i2
theorem parts_wt (s : Str) (d : D) : wts (partsD s d) ≤ wt d := by
  unfold partsD
  split
  · split
    · simp [wt, wts]; omega
    · simp [wts]
  · simp [wts]
theorem join2_wt (s : Str) (a b : D) : wt (joinD s [a, b]) ≤ wt a + wt b + 2 := by
  have h1 := parts_wt s a
  have h2 := parts_wt s b
  have e : [a, b].flatMap (partsD s) = partsD s a ++ partsD s b := by simp
  unfold joinD
  rw [e]
  have h3 := wts_append (partsD s a) (partsD s b)
  generalize partsD s a ++ partsD s b = row at *
  unfold joinR
  split
  · simp [wts] at h3; omega
  · have := wts_perm (sortD_perm row)
    simp [wt, wts]
    omega
theorem Tm.form_wt : ∀ t : Tm, wt t.form + 2 ≤ 5 * t.ls.length
  | .leaf o i => by simp [Tm.form, Tm.ls, wt, wts]
  | .node s a b => by
    have h1 := a.form_wt
    have h2 := b.form_wt
    have hl : (Tm.node s a b).ls.length = a.ls.length + b.ls.length := by simp [Tm.ls]
    rw [hl]
    cases s with
    | pair => simp [Tm.form, wt, wts]; omega
    | sum =>
      have := join2_wt (Str.ofString "sum") a.form b.form
      show wt (joinD _ _) + 2 ≤ _
      omega
    | mul =>
      have := join2_wt (Str.ofString "mul") a.form b.form
      show wt (joinD _ _) + 2 ≤ _
      omega
theorem range_item {n i : Nat} {d : D} (h : (rangeD 0 (n : Int))[i]? = some d) : i < n ∧ d = .int (i : Int) := by
  rw [range_get, List.getElem?_map] at h
  cases e : (List.range ((n : Int)).toNat)[i]? with
  | none => rw [e] at h; cases h
  | some k =>
    rw [e] at h
    obtain ⟨h1, h2⟩ := List.getElem?_eq_some_iff.mp e
    simp at h1 h2 h
    exact ⟨h1, by rw [← h, h2]⟩
theorem at_get {xs : List D} {j : Nat} {d : D} (h : xs[j]? = some d) : atI xs (j : Int) = some d := atI_nat h
section
variable {GL : Str → Option D} {T : Str → Option Fd} {L : Nat}
theorem r_same (hT : T (Str.ofString "_law_same") = some ⟨2, 3, b__law_same, 0⟩) : ∀ (k : Nat) (d : D), d.depth ≤ k → keyOk d = true → d.canLay0 = true → wt d ≤ 100000 → Calls GL T L (k + 1) (Str.ofString "_law_same") [d, d] (.ok (.bool true) .fr) := by
  intro k
  induction k with
  | zero =>
    intro d hk hp hl hw n hn
    obtain ⟨n, rfl⟩ : ∃ m, n = m + 1 := ⟨n - 1, by omega⟩
    refine call_runs hT rfl ?_
    unfold b__law_same
    simp only [startG_def]
    cases d <;> simp [keyOk] at hp
    · refine .ifF (by simp; exact ⟨rfl, rfl⟩) (.skip (.ifF (by simp; exact ⟨rfl, rfl⟩) (.skip ?_)))
      exact .ret (d := .bool true) (m := .fr) (by simp; rfl) rfl
    · rename_i x
      have hx : PyData.strOk x = true := by simpa [PyData.canLay0] using hl
      refine .ifF (by simp; exact ⟨rfl, rfl⟩) (.skip (.ifT (by simp; exact ⟨rfl, rfl⟩) (.as ?_)))
      exact .ret (d := .bool true) (m := .fr) (by simp [eqOk_str hx hx]; rfl) rfl
    · simp [PyData.depth] at hk
  | succ k ih =>
    intro d hk hp hl hw n hn
    obtain ⟨n, rfl⟩ : ∃ m, n = m + 1 := ⟨n - 1, by omega⟩
    refine call_runs hT rfl ?_
    unfold b__law_same
    simp only [startG_def]
    cases d <;> simp [keyOk] at hp
    · refine .ifF (by simp; exact ⟨rfl, rfl⟩) (.skip (.ifF (by simp; exact ⟨rfl, rfl⟩) (.skip ?_)))
      exact .ret (d := .bool true) (m := .fr) (by simp; rfl) rfl
    · rename_i x
      have hx : PyData.strOk x = true := by simpa [PyData.canLay0] using hl
      refine .ifF (by simp; exact ⟨rfl, rfl⟩) (.skip (.ifT (by simp; exact ⟨rfl, rfl⟩) (.as ?_)))
      exact .ret (d := .bool true) (m := .fr) (by simp [eqOk_str hx hx]; rfl) rfl
    · rename_i xs
      have hxs : PyData.canLayAll0 xs = true := by simpa [PyData.canLay0] using hl
      have hlen := wts_len xs
      have hw' : wts xs < 100000 := by simp [wt] at hw; omega
      have hr : rngOk (xs.length : Int) = true := rngOk_small (by omega) (by omega)
      refine .ifT (by simp; exact ⟨rfl, rfl⟩) (.as ?_)
      refine .ifF (by simp; exact ⟨rfl, rfl⟩) (.skip (.as ?_))
      refine .for_ (ds := rangeD 0 xs.length) (fun i g => ∃ z : Sl, g = [some (.tuple xs, .fr), some (.tuple xs, .fr), z]) (by simp [hr]; exact ⟨rfl, rfl⟩) (by decide) rfl ⟨none, rfl⟩ ?_ ?_
      · rintro i x g hi ⟨z, rfl⟩
        obtain ⟨hlt, rfl⟩ := range_item hi
        have hd : xs[i]? = some xs[i] := List.getElem?_eq_getElem hlt
        have hm := List.mem_of_getElem? hd
        have hdep : xs[i].depth ≤ k := by
          have h1 := depth_mem hm
          have h2 : PyData.depthAll xs + 1 ≤ k + 1 := by simpa [PyData.depth] using hk
          omega
        have c := ih xs[i] hdep (plain_mem hp hm) (lay_mem hxs hm) (Nat.le_trans (wts_mem hm) (Nat.le_of_lt hw')) n (by omega)
        refine ⟨[some (.tuple xs, .fr), some (.tuple xs, .fr), some (.int i, .fr)], ?_, _, rfl⟩
        simp [at_get hd, c]
      · rintro g ⟨z, rfl⟩
        exact .as (.ret (d := .bool true) (m := .fr) (by simp; rfl) rfl)
end
end DL

set_option Elab.async false
set_option linter.all false
set_option maxRecDepth 100000
/-! G8: loops that may hand back; the first place that differs. -/
namespace DL
open PySem L2 PySem.SeqAt
theorem for_invR {f : D → Sg → Res Ctl} (I : Nat → Sg → Prop) {Q Q' : Res Ctl → Prop} (ds : List D) {g : Sg} (h0 : I 0 g)
    (hs : ∀ i d g, ds[i]? = some d → I i g → (∃ g', f d g = .ok .next g' ∧ I (i + 1) g') ∨ ∃ v m g', f d g = .ok (.ret v m) g' ∧ Q (.ok (.ret v m) g')) (hd : ∀ g, I ds.length g → Q (.ok .next g)) : Q (forGo f ds g) := by
  have go : ∀ (n i : Nat) (g : Sg), n = ds.length - i → i ≤ ds.length → I i g → Q (forGo f (ds.drop i) g) := by
    intro n
    induction n with
    | zero =>
      intro i g hn hi h
      have e : i = ds.length := by omega
      subst e
      rw [List.drop_length, forGo]
      exact hd g h
    | succ n ih =>
      intro i g hn hi h
      have hlt : i < ds.length := by omega
      rw [List.drop_eq_getElem_cons hlt, forGo]
      rcases hs i _ g (List.getElem?_eq_getElem hlt) h with ⟨g', e, h'⟩ | ⟨v, m, g', e, h'⟩
      · rw [e]
        exact ih (i + 1) g' (by omega) hlt h'
      · rw [e]; exact h'
  have := go _ 0 g rfl (Nat.zero_le _) h0
  simpa using this
theorem Runs.forR {GL : Str → Option D} {C : Orc} {L : Nat} {Q : Res Ctl → Prop} {b r : S} {it : E} {g g1 : Sg} {i : Nat} {m : Md} {d : D} {ds : List D} (I : Nat → Sg → Prop) (h : ev GL C it g = .ok (d, m) g1) (hm : m ≠ .on) (hd : itemsD d = some ds) (h0 : I 0 g1)
    (hs : ∀ j x g, ds[j]? = some x → I j g → (∃ g', DL.ex GL C L b (g.set i (some (x, .fr))) = .ok .next g' ∧ I (j + 1) g') ∨ ∃ v m g', DL.ex GL C L b (g.set i (some (x, .fr))) = .ok (.ret v m) g' ∧ Q (.ok (.ret v m) g'))
    (hr : ∀ g, I ds.length g → Runs GL C L r g Q) : Runs GL C L (.seq (.for_ i it b) r) g Q := by
  unfold Runs at *
  rw [DL.ex, DL.ex, h]
  simp only [bd_ok, hm, if_false, hd]
  exact for_invR (Q' := fun _ => True) I (Q := fun x => Q (x.bd _)) ds h0 hs hr
theorem firstLt_skip {f g : Nat → Bool} {fin : Bool} : ∀ (l m : List Nat), (∀ i ∈ l, f i = true) → firstLt f g fin (l ++ m) = firstLt f g fin m
  | [], m, _ => rfl
  | a :: l, m, h => by
    rw [List.cons_append, firstLt_yes (h a List.mem_cons_self)]
    exact firstLt_skip l m fun i hi => h i (List.mem_cons_of_mem _ hi)
theorem firstLt_at {f g : Nat → Bool} {fin : Bool} {j n : Nat} (ah : Ahead f j) (hj : f j = false) (hn : j < n) : firstLt f g fin (List.range n) = g j := by
  have e : List.range n = List.range j ++ (j :: (List.range (n - j - 1)).map (j + 1 + ·)) := by
    have e1 : n = j + (n - j) := by omega
    rw [e1, List.range_add]
    congr 1
    have e2 : j + (n - j) - j = (n - j - 1) + 1 := by omega
    rw [show n - j = (n - j - 1) + 1 by omega, List.range_succ_eq_map]
    simp
    intro a _
    omega
  rw [e, firstLt_skip _ _ fun i hi => ah i (List.mem_range.mp hi), firstLt_no hj]
theorem firstLt_end {f g : Nat → Bool} {fin : Bool} {n : Nat} (ah : Ahead f n) : firstLt f g fin (List.range n) = fin := by
  have := firstLt_skip (f := f) (g := g) (fin := fin) (List.range n) [] fun i hi => ah i (List.mem_range.mp hi)
  rw [List.append_nil] at this
  exact this
theorem eqv_comm {x y : D} (hx : keyOk x = true) (hy : keyOk y = true) : PyData.eqv x y = PyData.eqv y x := by
  rw [Bool.eq_iff_iff, eqv_plain x y hx hy, eqv_plain y x hy hx]
  exact eq_comm
theorem eqOk_plain {x y : D} (lx : x.canLay0 = true) (ly : y.canLay0 = true) (dx : x.depth ≤ 200) : eqOk x y = true := by
  have h : Nat.min x.depth y.depth ≤ 200 := Nat.le_trans (Nat.min_le_left _ _) dx
  simp [eqOk, lx, ly]
  exact h
/-- what stands behind the first n statements -/
def tailS : Nat → S → S
  | 0, s => s
  | n + 1, .seq _ r => tailS n r
  | _ + 1, s => s
theorem cut_take {α : Type} {xs : List α} {m : Nat} (h : m ≤ xs.length) : cutL xs none (some (m : Int)) = xs.take m := by
  unfold cutL
  rw [HT.sIx_none, HT.sIx_nat, Nat.min_eq_left h]
  simp
theorem cut_drop {α : Type} {xs : List α} {m : Nat} (h : m ≤ xs.length) : cutL xs (some (m : Int)) none = xs.drop m := by
  unfold cutL
  rw [HT.sIx_none, HT.sIx_nat, Nat.min_eq_left h]
  rw [List.take_of_length_le (by rw [List.length_drop]; omega)]
theorem at_cast (xs : List D) (x : D) (n : Nat) (h : xs[n]? = some x) (i : Int) (e : i = (n : Int)) : atI xs i = some x := by subst e; exact at_get h
/-- an item by a number modulo the length -/
theorem at_mod {α : Type} (f : α → D) (l : List α) (h : 1 ≤ l.length) (x : Int) : ∃ a ∈ l, atI (l.map f) (x % (l.length : Int)) = some (f a) := by
  have h1 := Int.emod_nonneg x (show (l.length : Int) ≠ 0 by omega)
  have h2 := Int.emod_lt_of_pos x (show (0 : Int) < l.length by omega)
  have hlt : (x % (l.length : Int)).toNat < l.length := by omega
  refine ⟨l[(x % (l.length : Int)).toNat], List.getElem_mem _, at_cast _ _ (x % (l.length : Int)).toNat ?_ _ (by omega)⟩
  rw [List.getElem?_map, List.getElem?_eq_getElem hlt]
  rfl
end DL

set_option Elab.async false
set_option linter.all false
set_option maxRecDepth 100000
/-! G9: forms whose parts stand in order, and the terms that they are grown to. -/
namespace DL
open PySem L2

mutual
inductive Gr : D → Tm → Prop
  | leaf (o : Bool) (i : Int) : Gr (.tuple [.str (kS o), .int i]) (.leaf o i)
  | pair {a b : D} {ta tb : Tm} : Gr a ta → Gr b tb → Gr (.tuple [.str (Str.ofString "pair"), a, b]) (.node .pair ta tb)
  | join {s : Sn} {xs : List D} {t : Tm} : s ≠ .pair → 2 ≤ xs.length → GrL s xs t → Gr (.tuple (.str s.s :: xs)) t
inductive GrL : Sn → List D → Tm → Prop
  | one {s : Sn} {x : D} {t : Tm} : Gr x t → GrL s [x] t
  | more {s : Sn} {x y : D} {r : List D} {tx tr : Tm} : Gr x tx → GrL s (y :: r) tr → GrL s (x :: y :: r) (.node s tx tr)
end
/-- a form as it should be -/
inductive CF : D → Prop
  | leaf (o : Bool) (i : Int) : leafOk o i → CF (.tuple [.str (kS o), .int i])
  | pair {a b : D} : CF a → CF b → CF (.tuple [.str (Str.ofString "pair"), a, b])
  | join {s : Sn} {xs : List D} : s ≠ .pair → 2 ≤ xs.length → (∀ x ∈ xs, CF x) → Up xs → (∀ x ∈ xs, partsD s.s x = [x]) → CF (.tuple (.str s.s :: xs))
theorem CF.isF {d : D} (h : CF d) : IsF d := by
  induction h with
  | leaf o i _ => exact .leaf o i
  | pair _ _ iha ihb => exact .pair iha ihb
  | @join s xs hs _ _ _ _ ih =>
    cases s with
    | sum => exact .sum ih
    | mul => exact .mul ih
    | pair => exact absurd rfl hs
mutual
/-- how many leaves -/
def lvD : D → Nat
  | .int _ => 1
  | .tuple xs => lvDs xs
  | _ => 0
def lvDs : List D → Nat
  | [] => 0
  | x :: xs => lvD x + lvDs xs
end
theorem node_form {s : Sn} (hs : s ≠ .pair) (a b : Tm) : (Tm.node s a b).form = joinD s.s [a.form, b.form] := by
  cases s with
  | sum => rfl
  | mul => rfl
  | pair => exact absurd rfl hs
theorem sortD_id {xs : List D} (hf : ∀ x ∈ xs, IsF x) (u : Up xs) : sortD xs = xs :=
  (up_one (fun x hx => (hf x hx).plain) u (sortD_up (fun x hx => (hf x hx).plain) fun x hx y hy => (hf x hx).cmp y (hf y hy)) (sortD_perm xs).symm).symm
/-- each such form grows to a term whose form it is -/
theorem grows {d : D} (h : CF d) : ∃ t, Gr d t ∧ t.form = d ∧ t.ok ∧ t.ls.length = lvD d := by
  induction h with
  | leaf o i ok => exact ⟨.leaf o i, .leaf o i, rfl, ok, rfl⟩
  | pair _ _ iha ihb =>
    obtain ⟨ta, g1, f1, o1, l1⟩ := iha
    obtain ⟨tb, g2, f2, o2, l2⟩ := ihb
    refine ⟨.node .pair ta tb, .pair g1 g2, by simp [Tm.form, f1, f2], ⟨o1, o2⟩, by simp [Tm.ls, lvD, lvDs, l1, l2]⟩
  | @join s xs hs h2 hc u hp ih =>
    have hF : ∀ x ∈ xs, IsF x := fun x hx => (hc x hx).isF
    have key : ∀ r : List D, r ≠ [] → (∀ x ∈ r, IsF x ∧ partsD s.s x = [x] ∧ ∃ t, Gr x t ∧ t.form = x ∧ t.ok ∧ t.ls.length = lvD x) → Up r →
        ∃ t, GrL s r t ∧ partsD s.s t.form = r ∧ (2 ≤ r.length → t.form = .tuple (.str s.s :: r)) ∧ t.ok ∧ t.ls.length = lvDs r := by
      intro r
      induction r with
      | nil => intro h _ _; exact absurd rfl h
      | cons x r ihr =>
        intro _ hr ur
        obtain ⟨fx, px, tx, gx, ex, ox, lx⟩ := hr x List.mem_cons_self
        cases r with
        | nil => exact ⟨tx, .one gx, by rw [ex]; exact px, fun h => by simp at h, ox, by simp [lvDs, lx]⟩
        | cons y r =>
          obtain ⟨tr, gr, pr, _, or, lr⟩ := ihr (by simp) (fun z hz => hr z (List.mem_cons_of_mem _ hz)) (List.pairwise_cons.mp ur).2
          have ef : (Tm.node s tx tr).form = .tuple (.str s.s :: x :: y :: r) := by
            rw [node_form hs]
            unfold joinD
            have e : [tx.form, tr.form].flatMap (partsD s.s) = x :: y :: r := by
              simp [ex, px, pr]
            rw [e, joinR_more _ (by simp), sortD_id (fun z hz => (hr z hz).1) ur]
          refine ⟨.node s tx tr, .more gx gr, ?_, fun _ => ef, ⟨ox, or⟩, by simp [Tm.ls, lvDs, lx] at lr ⊢; omega⟩
          rw [ef, partsD_word, if_pos rfl]
    obtain ⟨t, g, _, f, o, l⟩ := key xs (fun e => by rw [e] at h2; simp at h2) (fun x hx => ⟨hF x hx, hp x hx, ih x hx⟩) u
    exact ⟨t, .join hs h2 g, f h2, o, by rw [l]; cases s <;> simp [lvD, lvDs]⟩
theorem Sn.inj {s s' : Sn} (h : s.s = s'.s) : s = s' := by cases s <;> cases s' <;> first | rfl | (simp [Sn.s] at h)
theorem kS_sn {o : Bool} {s : Sn} : kS o ≠ s.s := by cases o <;> cases s <;> simp [kS, Sn.s]
theorem kS_inj {o o' : Bool} (h : kS o = kS o') : o = o' := by cases o <;> cases o' <;> first | rfl | (simp [kS] at h)
mutual
theorem Gr.uniq {d : D} {t t' : Tm} (h : Gr d t) (h' : Gr d t') : t = t' := by
  cases h with
  | leaf o i =>
    generalize e : (PyData.tuple [.str (kS o), .int i]) = d at h'
    cases h' with
    | leaf o' i' =>
      simp only [PyData.tuple.injEq, List.cons.injEq, PyData.str.injEq, PyData.int.injEq] at e
      rw [kS_inj e.1, e.2.1]
    | pair _ _ => simp at e
    | @join s' xs' t' _ _ g =>
      simp only [PyData.tuple.injEq, List.cons.injEq, PyData.str.injEq] at e
      exact absurd e.1 kS_sn
  | @pair a b ta tb ga gb =>
    generalize e : (PyData.tuple [.str (Str.ofString "pair"), a, b]) = d at h'
    cases h' with
    | leaf o' i' => simp at e
    | @pair a' b' ta' tb' ga' gb' =>
      simp only [PyData.tuple.injEq, List.cons.injEq] at e
      obtain ⟨_, rfl, rfl, _⟩ := e
      rw [Gr.uniq ga ga', Gr.uniq gb gb']
    | @join s' xs' t' hs _ g =>
      simp only [PyData.tuple.injEq, List.cons.injEq, PyData.str.injEq] at e
      exact absurd (Sn.inj (s := .pair) (s' := s') e.1).symm hs
  | @join s xs t hs h2 g =>
    generalize e : (PyData.tuple (.str s.s :: xs)) = d at h'
    cases h' with
    | leaf o' i' =>
      simp only [PyData.tuple.injEq, List.cons.injEq, PyData.str.injEq] at e
      exact absurd e.1.symm kS_sn
    | @pair a' b' ta' tb' ga' gb' =>
      simp only [PyData.tuple.injEq, List.cons.injEq, PyData.str.injEq] at e
      exact absurd (Sn.inj (s := s) (s' := .pair) e.1) hs
    | @join s' xs' t' hs' _ g' =>
      simp only [PyData.tuple.injEq, List.cons.injEq, PyData.str.injEq] at e
      obtain ⟨e1, rfl⟩ := e
      have e1 := Sn.inj e1
      subst e1
      exact GrL.uniq g g'
theorem GrL.uniq {s : Sn} {xs : List D} {t t' : Tm} (h : GrL s xs t) (h' : GrL s xs t') : t = t' := by
  cases h with
  | one g => cases h' with | one g' => exact Gr.uniq g g'
  | more g gr => cases h' with | more g' gr' => rw [Gr.uniq g g', GrL.uniq gr gr']
end
theorem Tm.d_small : ∀ t : Tm, keyOk t.d = true ∧ t.d.depth ≤ t.ls.length ∧ wt t.d + 2 ≤ 5 * t.ls.length
  | .leaf o i => by simp [Tm.d, Tm.ls, keyOk, keyOk.keyOkAll, PyData.depth, PyData.depthAll, wt, wts]
  | .node s a b => by
    obtain ⟨a1, a2, a3⟩ := a.d_small
    obtain ⟨b1, b2, b3⟩ := b.d_small
    have := a.ls_pos
    have := b.ls_pos
    refine ⟨by simp [Tm.d, keyOk, keyOk.keyOkAll, a1, b1], ?_, ?_⟩
    · simp [Tm.d, Tm.ls, PyData.depth, PyData.depthAll]
      omega
    · simp [Tm.d, Tm.ls, wt, wts]
      omega
end DL

set_option Elab.async false
set_option linter.all false
set_option maxRecDepth 100000
/-! G10: places and moves of terms; moves leave the form as it is. -/
namespace DL
open PySem L2

theorem sort_eq {l m : List D} (hl : ∀ x ∈ l, IsF x) (p : l.Perm m) : sortD l = sortD m := by
  have hm : ∀ x ∈ m, IsF x := fun x hx => hl x (p.mem_iff.mpr hx)
  exact up_one (fun x hx => (hl x ((sortD_perm l).mem_iff.mp hx)).plain) (sortD_up (fun x hx => (hl x hx).plain) fun x hx y hy => (hl x hx).cmp y (hl y hy))
    (sortD_up (fun x hx => (hm x hx).plain) fun x hx y hy => (hm x hx).cmp y (hm y hy)) ((sortD_perm l).trans (p.trans (sortD_perm m).symm))
/-- the parts of a term's form, of a sign -/
abbrev Tm.parts (s : Sn) (t : Tm) : List D := partsD s.s t.form
theorem Sn.join {s : Sn} (h : s ≠ .pair) : s.s = Str.ofString "sum" ∨ s.s = Str.ofString "mul" := by
  cases s with
  | sum => exact .inl rfl
  | mul => exact .inr rfl
  | pair => exact absurd rfl h
theorem node_eq {s : Sn} (hs : s ≠ .pair) (a b : Tm) : (Tm.node s a b).form = .tuple (.str s.s :: sortD (a.parts s ++ b.parts s)) := by
  rw [node_form hs]
  have h1 := (parts_len a s.s (Sn.join hs)).1
  have h2 := (parts_len b s.s (Sn.join hs)).1
  unfold joinD
  rw [joinR_more _ (by simp; omega)]
  simp [Tm.parts]
theorem node_parts {s : Sn} (hs : s ≠ .pair) (a b : Tm) : (Tm.node s a b).parts s = sortD (a.parts s ++ b.parts s) := by
  show partsD s.s _ = _
  rw [node_eq hs, partsD_word, if_pos rfl]
theorem parts_isF {s : Sn} (hs : s ≠ .pair) (t : Tm) : ∀ x ∈ t.parts s, IsF x := fun x hx => (parts_form t.form_ok.1 (Sn.join hs) (Nat.le_refl _) x hx).1
theorem parts2_isF {s : Sn} (hs : s ≠ .pair) (a b : Tm) : ∀ x ∈ a.parts s ++ b.parts s, IsF x := fun x hx => by
  rcases List.mem_append.mp hx with h | h
  · exact parts_isF hs a x h
  · exact parts_isF hs b x h
theorem form_swap {s : Sn} (hs : s ≠ .pair) (a b : Tm) : (Tm.node s b a).form = (Tm.node s a b).form := by
  rw [node_eq hs, node_eq hs, sort_eq (parts2_isF hs b a) List.perm_append_comm]
theorem form_left {s : Sn} (hs : s ≠ .pair) (a b c : Tm) : (Tm.node s (.node s a b) c).form = (Tm.node s a (.node s b c)).form := by
  rw [node_eq hs, node_eq hs]
  refine congrArg (fun l => PyData.tuple (.str s.s :: l)) (sort_eq (parts2_isF hs _ _) ?_)
  rw [node_parts hs, node_parts hs]
  refine ((sortD_perm _).append_right _).trans ?_
  rw [List.append_assoc]
  exact (sortD_perm _).symm.append_left _

/-! ### places -/
def plD (p : List Bool) : D := .tuple (p.map fun b => .int (if b = true then 1 else 0))
def Tm.at : Tm → List Bool → Option Tm
  | t, [] => some t
  | .leaf _ _, _ :: _ => none
  | .node _ a b, x :: p => if x = true then b.at p else a.at p
/-- with another part at a place -/
def Tm.put (u : Tm) : Tm → List Bool → Tm
  | _, [] => u
  | .leaf o i, _ :: _ => .leaf o i
  | .node s a b, x :: p => if x = true then .node s a (Tm.put u b p) else .node s (Tm.put u a p) b
theorem Tm.at_nil (t : Tm) : t.at [] = some t := by cases t <;> rfl
theorem Tm.put_nil (u t : Tm) : Tm.put u t [] = u := by cases t <;> rfl
theorem at_snoc : ∀ (p : List Bool) (t : Tm) {s : Sn} {a b : Tm} (x : Bool), t.at p = some (.node s a b) → t.at (p ++ [x]) = some (if x = true then b else a)
  | [], t, s, a, b, x, h => by
    rw [Tm.at_nil] at h
    cases h
    show (Tm.node s a b).at [x] = _
    cases x <;> simp [Tm.at, Tm.at_nil]
  | y :: p, .leaf _ _, s, a, b, x, h => by simp [Tm.at] at h
  | y :: p, .node s' a' b', s, a, b, x, h => by
    cases y
    · simp only [Tm.at] at h ⊢
      exact at_snoc p a' x h
    · simp only [Tm.at] at h ⊢
      exact at_snoc p b' x h
theorem at_len : ∀ (p : List Bool) (t u : Tm), t.at p = some u → p.length + u.ls.length ≤ t.ls.length
  | [], t, u, h => by rw [Tm.at_nil] at h; cases h; simp
  | y :: p, .leaf _ _, u, h => by simp [Tm.at] at h
  | y :: p, .node s a b, u, h => by
    have pa := a.ls_pos
    have pb := b.ls_pos
    cases y
    · have := at_len p a u (by simpa [Tm.at] using h)
      simp [Tm.ls]
      omega
    · have := at_len p b u (by simpa [Tm.at] using h)
      simp [Tm.ls]
      omega
theorem node_of (s : Sn) {a a' b b' : Tm} (ha : a'.form = a.form) (hb : b'.form = b.form) : (Tm.node s a' b').form = (Tm.node s a b).form := by
  cases s <;> simp only [Tm.form, ha, hb]
theorem put_form {v u : Tm} (hf : u.form = v.form) (hl : u.ls.length = v.ls.length) (ho : v.ok → u.ok) : ∀ (p : List Bool) (t : Tm), t.at p = some v → (Tm.put u t p).form = t.form ∧ (Tm.put u t p).ls.length = t.ls.length ∧ (t.ok → (Tm.put u t p).ok)
  | [], t, h => by rw [Tm.at_nil] at h; cases h; rw [Tm.put_nil]; exact ⟨hf, hl, ho⟩
  | y :: p, .leaf _ _, h => by simp [Tm.at] at h
  | y :: p, .node s a b, h => by
    cases y
    · obtain ⟨i1, i2, i3⟩ := put_form hf hl ho p a (by simpa [Tm.at] using h)
      simp only [Tm.put]
      exact ⟨node_of s i1 rfl, by simp [Tm.ls] at i2 ⊢; exact i2, fun h => ⟨i3 h.1, h.2⟩⟩
    · obtain ⟨i1, i2, i3⟩ := put_form hf hl ho p b (by simpa [Tm.at] using h)
      simp only [Tm.put]
      exact ⟨node_of s rfl i1, by simp [Tm.ls] at i2 ⊢; exact i2, fun h => ⟨h.1, i3 h.2⟩⟩

/-! ### moves -/
inductive Wd where
  | swap | left | right
  deriving DecidableEq
def Wd.s : Wd → Str
  | .swap => Str.ofString "swap"
  | .left => Str.ofString "left"
  | .right => Str.ofString "right"
def turnO : Wd → Tm → Option Tm
  | .swap, .node s a b => if s = .pair then none else some (.node s b a)
  | .left, .node s a (.node s' b c) => if s = .pair then none else if s' = s then some (.node s (.node s a b) c) else none
  | .right, .node s (.node s' a b) c => if s = .pair then none else if s' = s then some (.node s a (.node s b c)) else none
  | _, _ => none
theorem turn_keeps {w : Wd} {t u : Tm} (h : turnO w t = some u) : u.form = t.form ∧ u.ls.length = t.ls.length ∧ (t.ok → u.ok) := by
  unfold turnO at h
  split at h
  · rename_i s a b
    split at h
    · cases h
    · rename_i hs
      cases h
      exact ⟨form_swap hs a b, by simp [Tm.ls]; omega, fun h => ⟨h.2, h.1⟩⟩
  · rename_i s a s' b c
    split at h
    · cases h
    · rename_i hs
      split at h
      · rename_i e
        subst e
        cases h
        exact ⟨form_left hs a b c, by simp [Tm.ls] <;> omega, fun h => ⟨⟨h.1, h.2.1⟩, h.2.2⟩⟩
      · cases h
  · rename_i s s' a b c
    split at h
    · cases h
    · rename_i hs
      split at h
      · rename_i e
        subst e
        cases h
        exact ⟨(form_left hs a b c).symm, by simp [Tm.ls] <;> omega, fun h => ⟨h.1.1, h.1.2, h.2⟩⟩
      · cases h
  · cases h
/-- a place where a sum or a mul stands -/
def JoinAt (t : Tm) (p : List Bool) : Prop := ∃ s a b, s ≠ Sn.pair ∧ t.at p = some (.node s a b)
/-- what a move makes of a join, a swap where the word can't be done (as the laws have it) -/
def turnT (w : Wd) (t : Tm) : Tm := match turnO w t with
  | some u => u
  | none => match t with
    | .node s a b => .node s b a
    | t => t
theorem turnT_keeps (w : Wd) {s : Sn} (hs : s ≠ .pair) (a b : Tm) : (turnT w (.node s a b)).form = (Tm.node s a b).form ∧ (turnT w (.node s a b)).ls.length = (Tm.node s a b).ls.length ∧ ((Tm.node s a b).ok → (turnT w (.node s a b)).ok) := by
  unfold turnT
  split
  · exact turn_keeps (by assumption)
  · exact ⟨form_swap hs a b, by simp [Tm.ls]; omega, fun h => ⟨h.2, h.1⟩⟩
theorem wd_ok (w : Wd) : PyData.strOk w.s = true := by cases w <;> simp [Wd.s]
theorem plD_lay (p : List Bool) : (plD p).canLay0 = true := by
  simp only [plD, PyData.canLay0]
  exact layAll_map (f := fun b : Bool => PyData.int (if b = true then 1 else 0)) (fun b => by simp [PyData.canLay0]) p
theorem plD_eqv (p : List Bool) : PyData.eqv (plD p) (.tuple []) = p.isEmpty := by cases p <;> simp [plD, PyData.eqv, PyData.eqvAll]
theorem eqOk_nilT {ds : List D} (h : PyData.canLayAll0 ds = true) : eqOk (.tuple ds) (.tuple []) = true := by
  have : Nat.min (PyData.depth (.tuple ds)) (PyData.depth (.tuple [])) ≤ 200 := Nat.le_trans (Nat.min_le_right _ _) (by decide)
  simp [eqOk, PyData.canLay0, PyData.canLayAll0, h]
  exact this
theorem plD_eqOk (p : List Bool) : eqOk (plD p) (.tuple []) = true := eqOk_nilT (by simpa [plD, PyData.canLay0] using plD_lay p)
end DL

set_option Elab.async false
set_option linter.all false
set_option maxRecDepth 100000
/-! G11: runs of part_at, with_part, turned, done, moved, back. -/
namespace DL
open PySem L2

/-! ### loops in which an error may be raised -/
theorem for_invX {f : D → Sg → Res Ctl} (I : Nat → Sg → Prop) {Q : Res Ctl → Prop} (ds : List D) {g : Sg} (h0 : I 0 g)
    (hs : ∀ i d g, ds[i]? = some d → I i g → (∃ g', f d g = .ok .next g' ∧ I (i + 1) g') ∨ ∃ c g', f d g = .exc c g' ∧ Q (.exc c g')) (hd : ∀ g, I ds.length g → Q (.ok .next g)) : Q (forGo f ds g) := by
  have go : ∀ (n i : Nat) (g : Sg), n = ds.length - i → i ≤ ds.length → I i g → Q (forGo f (ds.drop i) g) := by
    intro n
    induction n with
    | zero =>
      intro i g hn hi h
      have e : i = ds.length := by omega
      subst e
      rw [List.drop_length, forGo]
      exact hd g h
    | succ n ih =>
      intro i g hn hi h
      have hlt : i < ds.length := by omega
      rw [List.drop_eq_getElem_cons hlt, forGo]
      rcases hs i _ g (List.getElem?_eq_getElem hlt) h with ⟨g', e, h'⟩ | ⟨c, g', e, h'⟩
      · rw [e]
        exact ih (i + 1) g' (by omega) hlt h'
      · rw [e]; exact h'
  have := go _ 0 g rfl (Nat.zero_le _) h0
  simpa using this
theorem Runs.forX {GL : Str → Option D} {C : Orc} {L : Nat} {Q : Res Ctl → Prop} {b r : S} {it : E} {g g1 : Sg} {i : Nat} {m : Md} {d : D} {ds : List D} (I : Nat → Sg → Prop) (h : ev GL C it g = .ok (d, m) g1) (hm : m ≠ .on) (hd : itemsD d = some ds) (h0 : I 0 g1)
    (hs : ∀ j x g, ds[j]? = some x → I j g → (∃ g', DL.ex GL C L b (g.set i (some (x, .fr))) = .ok .next g' ∧ I (j + 1) g') ∨ ∃ c g', DL.ex GL C L b (g.set i (some (x, .fr))) = .exc c g' ∧ Q (.exc c g'))
    (hr : ∀ g, I ds.length g → Runs GL C L r g Q) : Runs GL C L (.seq (.for_ i it b) r) g Q := by
  unfold Runs at *
  rw [DL.ex, DL.ex, h]
  simp only [bd_ok, hm, if_false, hd]
  exact for_invX I (Q := fun x => Q (x.bd _)) ds h0 hs hr
section
variable {GL : Str → Option D} {C : Orc} {L : Nat} {Q : Res Ctl → Prop} {a b r : S} {e t it : E} {g g1 : Sg} {p : D × Md} {i : Nat} {m : Md} {d : D} {c : Nat}
theorem Runs.sqX (h : DL.ex GL C L a g = .exc c g1) (h2 : Q (.exc c g1)) : Runs GL C L (.seq a r) g Q := by
  unfold Runs; rw [DL.ex, h]; exact h2
theorem Runs.exX (h : ev GL C e g = .exc c g1) (h2 : Q (.exc c g1)) : Runs GL C L (.seq (.expr e) r) g Q := .sqX (by rw [DL.ex, h]; rfl) h2
theorem Runs.setX (h : ev GL C e g = .exc c g1) (h2 : Q (.exc c g1)) : Runs GL C L (.seq (.set i e) r) g Q := .sqX (by rw [DL.ex, h]; rfl) h2
theorem Runs.retX (h : retv GL C e g = .exc c g1) (h2 : Q (.exc c g1)) : Runs GL C L (.seq (.ret e) r) g Q := .sqX (by rw [DL.ex, h]; rfl) h2
theorem Runs.raise (h2 : Q (.exc c g)) : Runs GL C L (.seq (.raise c) r) g Q := .sqX (by rw [DL.ex]) h2
end

/-! ### places of whole numbers -/
def plI (p : List Int) : D := .tuple (p.map .int)
def Tm.atZ : Tm → List Int → Option Tm
  | t, [] => some t
  | .leaf _ _, _ :: _ => none
  | .node _ a b, x :: p => if x = 0 then a.atZ p else if x = 1 then b.atZ p else none
def Tm.putZ (u : Tm) : Tm → List Int → Tm
  | _, [] => u
  | .leaf o i, _ :: _ => .leaf o i
  | .node s a b, x :: p => if x = 0 then .node s (Tm.putZ u a p) b else .node s a (Tm.putZ u b p)
theorem Tm.atZ_nil (t : Tm) : t.atZ [] = some t := by cases t <;> rfl
theorem Tm.putZ_nil (u t : Tm) : Tm.putZ u t [] = u := by cases t <;> rfl
theorem putZ_form {v u : Tm} (hf : u.form = v.form) (hl : u.ls.length = v.ls.length) (ho : v.ok → u.ok) : ∀ (p : List Int) (t : Tm), t.atZ p = some v → (Tm.putZ u t p).form = t.form ∧ (Tm.putZ u t p).ls.length = t.ls.length ∧ (t.ok → (Tm.putZ u t p).ok)
  | [], t, h => by rw [Tm.atZ_nil] at h; cases h; rw [Tm.putZ_nil]; exact ⟨hf, hl, ho⟩
  | y :: p, .leaf _ _, h => by simp [Tm.atZ] at h
  | y :: p, .node s a b, h => by
    by_cases c : y = 0
    · obtain ⟨i1, i2, i3⟩ := putZ_form hf hl ho p a (by simpa [Tm.atZ, c] using h)
      simp only [Tm.putZ, c, if_true]
      exact ⟨node_of s i1 rfl, by simp [Tm.ls] at i2 ⊢; exact i2, fun h => ⟨i3 h.1, h.2⟩⟩
    · by_cases c1 : y = 1
      · obtain ⟨i1, i2, i3⟩ := putZ_form hf hl ho p b (by simpa [Tm.atZ, c1] using h)
        simp only [Tm.putZ, c, if_false]
        exact ⟨node_of s rfl i1, by simp [Tm.ls] at i2 ⊢; exact i2, fun h => ⟨h.1, i3 h.2⟩⟩
      · simp [Tm.atZ, c, c1] at h
theorem atZ_putZ {v u : Tm} : ∀ (p : List Int) (t : Tm), t.atZ p = some v → (Tm.putZ u t p).atZ p = some u
  | [], t, h => by rw [Tm.putZ_nil, Tm.atZ_nil]
  | y :: p, .leaf _ _, h => by simp [Tm.atZ] at h
  | y :: p, .node s a b, h => by
    by_cases c : y = 0
    · have := atZ_putZ (u := u) p a (by simpa [Tm.atZ, c] using h)
      simp [Tm.putZ, Tm.atZ, c, this]
    · by_cases c1 : y = 1
      · have := atZ_putZ (u := u) p b (by simpa [Tm.atZ, c1] using h)
        simp [Tm.putZ, Tm.atZ, c1, this]
      · simp [Tm.atZ, c, c1] at h
theorem putZ_putZ {v u : Tm} : ∀ (p : List Int) (t : Tm), t.atZ p = some v → Tm.putZ v (Tm.putZ u t p) p = t
  | [], t, h => by rw [Tm.atZ_nil] at h; cases h; rw [Tm.putZ_nil]
  | y :: p, .leaf _ _, h => by simp [Tm.atZ] at h
  | y :: p, .node s a b, h => by
    by_cases c : y = 0
    · have := putZ_putZ (u := u) p a (by simpa [Tm.atZ, c] using h)
      simp [Tm.putZ, c, this]
    · by_cases c1 : y = 1
      · have := putZ_putZ (u := u) p b (by simpa [Tm.atZ, c1] using h)
        simp [Tm.putZ, c1, this]
      · simp [Tm.atZ, c, c1] at h
theorem plI_lay (p : List Int) : (plI p).canLay0 = true := by
  simp only [plI, PyData.canLay0]
  exact layAll_map (f := PyData.int) (fun b => by simp [PyData.canLay0]) p
theorem plI_eqv (p : List Int) : PyData.eqv (plI p) (.tuple []) = p.isEmpty := by cases p <;> simp [plI, PyData.eqv, PyData.eqvAll]
theorem plI_eqOk (p : List Int) : eqOk (plI p) (.tuple []) = true := eqOk_nilT (by simpa [plI, PyData.canLay0] using plI_lay p)

/-! ### words -/
def turnS (x : Str) (t : Tm) : Option Tm := if x = Str.ofString "swap" then turnO .swap t else if x = Str.ofString "left" then turnO .left t else if x = Str.ofString "right" then turnO .right t else none
def moveR (x : Str) : Tm → List Int → Option Tm
  | t, [] => turnS x t
  | .leaf _ _, _ :: _ => none
  | .node s a b, y :: p => if y = 0 then (moveR x a p).map fun a' => .node s a' b else if y = 1 then (moveR x b p).map fun b' => .node s a b' else none
theorem moveR_nil (x : Str) (t : Tm) : moveR x t [] = turnS x t := by cases t <;> rfl
theorem moveR_eq (x : Str) : ∀ (p : List Int) (t : Tm), moveR x t p = (t.atZ p).bind fun u => (turnS x u).map fun v => Tm.putZ v t p
  | [], t => by
    rw [moveR_nil, Tm.atZ_nil]
    simp [Tm.putZ_nil]
  | y :: p, .leaf _ _ => by simp [moveR, Tm.atZ]
  | y :: p, .node s a b => by
    by_cases c : y = 0
    · subst c
      simp only [moveR, Tm.atZ, if_true, moveR_eq x p a]
      cases a.atZ p with
      | none => rfl
      | some u => cases e : turnS x u <;> simp [e, Tm.putZ]
    · by_cases c1 : y = 1
      · subst c1
        simp only [moveR, Tm.atZ, c, if_false, if_true, moveR_eq x p b]
        cases b.atZ p with
        | none => rfl
        | some u => cases e : turnS x u <;> simp [e, Tm.putZ]
      · simp [moveR, Tm.atZ, c, c1]
theorem turnS_keeps {x : Str} {t u : Tm} (h : turnS x t = some u) : u.form = t.form ∧ u.ls.length = t.ls.length ∧ (t.ok → u.ok) := by
  unfold turnS at h
  split at h
  · exact turn_keeps h
  · split at h
    · exact turn_keeps h
    · split at h
      · exact turn_keeps h
      · cases h
theorem moveR_keeps {x : Str} {t u : Tm} {p : List Int} (h : moveR x t p = some u) : u.form = t.form ∧ u.ls.length = t.ls.length ∧ (t.ok → u.ok) := by
  rw [moveR_eq] at h
  cases e : t.atZ p with
  | none => rw [e] at h; cases h
  | some v =>
    rw [e] at h
    cases e2 : turnS x v with
    | none => simp [e2] at h
    | some v' =>
      simp [e2] at h
      subst h
      obtain ⟨k1, k2, k3⟩ := turnS_keeps e2
      exact putZ_form k1 k2 k3 p t e
def Wd.back : Wd → Wd
  | .swap => .swap
  | .left => .right
  | .right => .left
theorem turnS_wd (w : Wd) (t : Tm) : turnS w.s t = turnO w t := by cases w <;> simp [turnS, Wd.s]
theorem turn_back {w : Wd} {t u : Tm} (h : turnO w t = some u) : turnO w.back u = some t := by
  unfold turnO at h
  split at h
  · split at h
    · cases h
    · cases h; rename_i hs; simp [Wd.back, turnO, hs]
  · split at h
    · cases h
    · split at h
      · rename_i hs e
        subst e; cases h; simp [Wd.back, turnO, hs]
      · cases h
  · split at h
    · cases h
    · split at h
      · rename_i hs e
        subst e; cases h; simp [Wd.back, turnO, hs]
      · cases h
  · cases h
theorem move_back {w : Wd} {t u : Tm} {p : List Int} (h : moveR w.s t p = some u) : moveR w.back.s u p = some t := by
  rw [moveR_eq] at h ⊢
  cases e : t.atZ p with
  | none => rw [e] at h; cases h
  | some v =>
    rw [e] at h
    cases e2 : turnS w.s v with
    | none => simp [e2] at h
    | some v' =>
      simp [e2] at h
      subst h
      rw [atZ_putZ p t e]
      have e3 : turnS w.back.s v' = some v := by rw [turnS_wd] at e2 ⊢; exact turn_back e2
      simp [e3, putZ_putZ p t e]
structure Lib11 (T : Str → Option Fd) (R : Nat → S) : Prop where
  part : T (Str.ofString "part_at") = some ⟨2, 3, b_part_at R, 0⟩
  with_ : T (Str.ofString "with_part") = some ⟨3, 3, b_with_part, 0⟩
  turn : T (Str.ofString "turned") = some ⟨2, 3, b_turned R, 0⟩
  done : T (Str.ofString "done") = some ⟨2, 2, b_done, 0⟩
section
variable {GL : Str → Option D} {T : Str → Option Fd} {L : Nat} {R : Nat → S}
theorem atZ_split : ∀ (q p : List Int) (t : Tm), t.atZ (q ++ p) = (t.atZ q).bind fun u => u.atZ p
  | [], p, t => by rw [Tm.atZ_nil]; rfl
  | y :: q, p, .leaf _ _ => by simp [Tm.atZ]
  | y :: q, p, .node s a b => by
    by_cases c : y = 0
    · simp [Tm.atZ, c, atZ_split q p a]
    · by_cases c1 : y = 1
      · simp [Tm.atZ, c1, atZ_split q p b]
      · simp [Tm.atZ, c, c1]
theorem r_part_at (l1 : Lib1 GL T R) (l : Lib11 T R) (t : Tm) (p : List Int) (n : Nat) (hn : 1 ≤ n) (hR : (t.atZ p).isSome = true ∨ R = .raise) :
    callD GL T L (n + 1) (Str.ofString "part_at") [t.d, plI p] = match t.atZ p with | some u => .ok u.d .fr | none => .exc 3 := by
  refine call_runs l.part rfl ?_
  unfold b_part_at
  simp only [startG_def]
  refine .forX (ds := p.map .int) (fun i g => ∃ (u : Tm) (z : Sl), g = [some (u.d, .fr), some (plI p, .fr), z] ∧ t.atZ (p.take i) = some u) (by simp; exact ⟨rfl, rfl⟩) (by decide) rfl ⟨t, none, rfl, by simp [Tm.atZ_nil]⟩ ?_ ?_
  · rintro i d g hd ⟨u, z, rfl, hu⟩
    have hlt : i < p.length := by simpa using (List.getElem?_eq_some_iff.mp hd).1
    have ed : d = .int p[i] := by
      rw [List.getElem?_map, List.getElem?_eq_getElem hlt] at hd
      cases hd; rfl
    subst ed
    have e0 : t.atZ p = (u.atZ (p.drop i)) := by
      have := atZ_split (p.take i) (p.drop i) t
      rw [List.take_append_drop, hu] at this
      exact this
    have e1 : p.drop i = p[i] :: p.drop (i + 1) := List.drop_eq_getElem_cons hlt
    have e3 : p.take (i + 1) = p.take i ++ [p[i]] := List.take_succ_eq_append_getElem hlt
    have e4 := atZ_split (p.take i) [p[i]] t
    rw [hu, ← e3] at e4
    have c := r_is_leaf (L := L) l1 u n hn
    rw [e1] at e0
    generalize p[i] = y at *
    have bad : t.atZ p = none → R = .raise := fun h => hR.elim (fun z => by rw [h] at z; cases z) id
    show _ ∨ _
    cases u with
    | leaf o k =>
      right
      have e5 : t.atZ p = none := by rw [e0]; simp [Tm.atZ]
      rw [bad e5, e5]
      refine ⟨3, [some ((Tm.leaf o k).d, .fr), some (plI p, .fr), some (.int y, .fr)], ?_, rfl⟩
      simp [c]
    | node s a b =>
      by_cases h0 : y = 0
      · subst h0
        left
        refine ⟨[some (a.d, .fr), some (plI p, .fr), some (.int 0, .fr)], ?_, a, _, rfl, by rw [e4]; simp [Tm.atZ, Tm.atZ_nil]⟩
        simp only [Tm.d] at c
        simp [c, Tm.d]
      · by_cases h1 : y = 1
        · subst h1
          left
          refine ⟨[some (b.d, .fr), some (plI p, .fr), some (.int 1, .fr)], ?_, b, _, rfl, by rw [e4]; simp [Tm.atZ, Tm.atZ_nil]⟩
          simp only [Tm.d] at c
          simp [c, Tm.d]
        · right
          have e5 : t.atZ p = none := by rw [e0]; simp [Tm.atZ, h0, h1]
          rw [bad e5, e5]
          refine ⟨3, [some ((Tm.node s a b).d, .fr), some (plI p, .fr), some (.int y, .fr)], ?_, rfl⟩
          by_cases h2 : y < 0
          · simp [c, h2]
          · have h3 : 1 < y := by omega
            simp [c, h2, h3]
  · rintro g ⟨u, z, rfl, hu⟩
    have e : (p.map PyData.int).length = p.length := by simp
    rw [e, List.take_length] at hu
    rw [hu]
    exact .ret (d := u.d) (m := .fr) (by simp; rfl) rfl
theorem plI_cut (x : Int) (p : List Int) : cutL (List.map PyData.int (x :: p)) (some 1) none = List.map PyData.int p := by rw [List.map_cons, cut_tail]
theorem r_with_part (l : Lib11 T R) (v : Tm) : ∀ (p : List Int) (t u : Tm), t.atZ p = some u → Calls GL T L (p.length + 1) (Str.ofString "with_part") [t.d, plI p, v.d] (.ok (Tm.putZ v t p).d .fr)
  | [], t, u, h => by
    intro n hn
    obtain ⟨n, rfl⟩ : ∃ m, n = m + 1 := ⟨n - 1, by omega⟩
    refine call_runs l.with_ rfl ?_
    unfold b_with_part
    simp only [startG_def]
    refine .ifT (by simp [plI_eqOk, plI_eqv]; exact ⟨rfl, rfl⟩) (.as ?_)
    rw [Tm.putZ_nil]
    exact .ret (d := v.d) (m := .fr) (by simp; rfl) rfl
  | x :: p, .leaf _ _, u, h => by simp [Tm.atZ] at h
  | x :: p, .node s a b, u, h => by
    intro n hn
    obtain ⟨n, rfl⟩ : ∃ m, n = m + 1 := ⟨n - 1, by omega⟩
    simp only [List.length_cons] at hn
    have hcut := plI_cut x p
    have e1 : PyData.eqv (plI (x :: p)) (.tuple []) = false := by rw [plI_eqv]; rfl
    have e2 := plI_eqOk (x :: p)
    refine call_runs l.with_ rfl ?_
    unfold b_with_part
    simp only [startG_def]
    refine .ifF (by simp [e1, e2]; exact ⟨rfl, rfl⟩) (.skip ?_)
    by_cases c : x = 0
    · subst c
      have ca := r_with_part l v p a u (by simpa [Tm.atZ] using h) n (by omega)
      refine .ifT (by simp [plI]; exact ⟨rfl, rfl⟩) (.as ?_)
      refine .ret (d := (Tm.putZ v (.node s a b) (0 :: p)).d) (m := .fr) (g1 := [some ((Tm.node s a b).d, .fr), some (plI (0 :: p), .fr), some (v.d, .fr)]) ?_ rfl
      simp [plI] at hcut ca
      simp [plI, Tm.d, hcut, ca, Tm.putZ]
    · by_cases c1 : x = 1
      · subst c1
        have cb := r_with_part l v p b u (by simpa [Tm.atZ] using h) n (by omega)
        refine .ifF (by simp [plI]; exact ⟨rfl, rfl⟩) (.skip ?_)
        refine .ret (d := (Tm.putZ v (.node s a b) (1 :: p)).d) (m := .fr) (g1 := [some ((Tm.node s a b).d, .fr), some (plI (1 :: p), .fr), some (v.d, .fr)]) ?_ rfl
        simp [plI] at hcut cb
        simp [plI, Tm.d, hcut, cb, Tm.putZ]
      · simp [Tm.atZ, c, c1] at h
theorem r_turnP (l : Lib11 T R) {x : Str} (kx : PyData.strOk x = true) (t : Tm) (n : Nat) (hR : (turnS x t).isSome = true ∨ R = .raise) :
    callD GL T L (n + 1) (Str.ofString "turned") [t.d, .str x] = match turnS x t with | some u => .ok u.d .fr | none => .exc 3 := by
  have bad : turnS x t = none → R = .raise := fun h => hR.elim (fun z => by rw [h] at z; cases z) id
  have k1 := eqOk_str kx (show PyData.strOk (Str.ofString "swap") = true by simp)
  have k2 := eqOk_str kx (show PyData.strOk (Str.ofString "left") = true by simp)
  have k3 := eqOk_str kx (show PyData.strOk (Str.ofString "right") = true by simp)
  have wd : ∀ t : Tm, ∃ y r, t.d = .tuple (.str y :: r) ∧ PyData.strOk y = true := fun t => by
    cases t with
    | leaf o i => exact ⟨_, _, rfl, lay_kS o⟩
    | node s a b => exact ⟨_, _, rfl, lay_sS s⟩
  refine call_runs l.turn rfl ?_
  unfold b_turned
  simp only [startG_def]
  cases t with
  | leaf o i =>
    have e5 : turnS x (.leaf o i) = none := by simp [turnS, turnO]
    rw [bad e5, e5]
    refine .set (p := (.str (kS o), .fr)) (by simp [Tm.d]; rfl) ?_
    exact .ifT (m := .fr) (g1 := [some ((Tm.leaf o i).d, .fr), some (.str x, .fr), some (.str (kS o), .fr)]) (by cases o <;> simp [kS, Tm.d]) (.as (.raise rfl))
  | node s a b =>
    by_cases hs : s = .pair
    · subst hs
      have e5 : turnS x (.node .pair a b) = none := by
        simp only [turnS]
        split
        · rfl
        · split
          · unfold turnO; split <;> first | rfl | simp_all
          · split
            · unfold turnO; split <;> first | rfl | simp_all
            · rfl
      rw [bad e5, e5]
      refine .set (p := (.str (Str.ofString "pair"), .fr)) (by simp [Tm.d, Sn.s]; rfl) ?_
      exact .ifT (by simp; exact ⟨rfl, rfl⟩) (.as (.raise rfl))
    · have ks := lay_sS s
      have m1 : s.s = Str.ofString "sum" ∨ s.s = Str.ofString "mul" := Sn.join hs
      refine .set (p := (.str s.s, .fr)) (by simp [Tm.d]; rfl) ?_
      refine .ifF (m := .fr) (g1 := [some ((Tm.node s a b).d, .fr), some (.str x, .fr), some (.str s.s, .fr)]) (by rcases m1 with m1 | m1 <;> simp [m1, Tm.d]) (.skip ?_)
      by_cases x1 : x = Str.ofString "swap"
      · subst x1
        have e5 : turnS (Str.ofString "swap") (.node s a b) = some (.node s b a) := by simp [turnS, turnO, hs]
        rw [e5]
        exact .ifT (by simp; exact ⟨rfl, rfl⟩) (.as (.ret (d := (Tm.node s b a).d) (m := .fr) (by simp [Tm.d]; rfl) rfl))
      · refine .ifF (m := .fr) (g1 := [some ((Tm.node s a b).d, .fr), some (.str x, .fr), some (.str s.s, .fr)]) (by simp [k1, x1]) (.skip ?_)
        by_cases x2 : x = Str.ofString "left"
        · subst x2
          have fin : ∀ {u : Option Tm}, turnO .left (.node s a b) = u → turnS (Str.ofString "left") (.node s a b) = u := fun h => by simp [turnS, h]
          have no : turnO .left (.node s a b) = none → (ev GL (callD GL T L n) (.and_ (.cons (.cmp .eq (.var 1) (.str "left")) (.cons (.cmp .eq (.ix (.ix (.var 0) (.int (2))) (.int (0))) (.var 2)) .nil))) [some ((Tm.node s a b).d, .fr), some (.str (Str.ofString "left"), .fr), some (.str s.s, .fr)]) = .ok (.bool false, .fr) [some ((Tm.node s a b).d, .fr), some (.str (Str.ofString "left"), .fr), some (.str s.s, .fr)] → Runs GL (callD GL T L n) L (.seq (.ite (.and_ (.cons (.cmp .eq (.var 1) (.str "left")) (.cons (.cmp .eq (.ix (.ix (.var 0) (.int (2))) (.int (0))) (.var 2)) .nil))) (.seq (.ret (.tup (.cons (.var 2) (.cons (.tup (.cons (.var 2) (.cons (.ix (.var 0) (.int (1))) (.cons (.ix (.ix (.var 0) (.int (2))) (.int (1))) .nil)))) (.cons (.ix (.ix (.var 0) (.int (2))) (.int (2))) .nil))))) .skip) .skip) (.seq (.ite (.and_ (.cons (.cmp .eq (.var 1) (.str "right")) (.cons (.cmp .eq (.ix (.ix (.var 0) (.int (1))) (.int (0))) (.var 2)) .nil))) (.seq (.ret (.tup (.cons (.var 2) (.cons (.ix (.ix (.var 0) (.int (1))) (.int (1))) (.cons (.tup (.cons (.var 2) (.cons (.ix (.ix (.var 0) (.int (1))) (.int (2))) (.cons (.ix (.var 0) (.int (2))) .nil)))) .nil))))) .skip) .skip) (.seq (R 3) .skip))) [some ((Tm.node s a b).d, .fr), some (.str (Str.ofString "left"), .fr), some (.str s.s, .fr)] fun z => toCR z = match turnS (Str.ofString "left") (.node s a b) with | some u => .ok u.d .fr | none => .exc 3 := fun h hev => by
            rw [bad (fin h), fin h]
            refine .ifF hev (.skip ?_)
            exact .ifF (m := .fr) (g1 := [some ((Tm.node s a b).d, .fr), some (.str (Str.ofString "left"), .fr), some (.str s.s, .fr)]) (by simp) (.skip (.raise rfl))
          cases b with
          | leaf o i =>
            have e : kS o ≠ s.s := kS_sn
            exact no rfl (by simp [Tm.d, eqOk_str (lay_kS o) ks, e])
          | node s' b c =>
            by_cases e : s' = s
            · subst e
              rw [fin (show turnO .left (.node s' a (.node s' b c)) = some (.node s' (.node s' a b) c) by simp [turnO, hs])]
              exact .ifT (m := .fr) (g1 := [some ((Tm.node s' a (.node s' b c)).d, .fr), some (.str (Str.ofString "left"), .fr), some (.str s'.s, .fr)]) (by simp [Tm.d, eqOk_str ks ks]) (.as (.ret (d := (Tm.node s' (.node s' a b) c).d) (m := .fr) (by simp [Tm.d]; rfl) rfl))
            · have e2 : s'.s ≠ s.s := fun z => e (Sn.inj z)
              exact no (by simp [turnO, hs, e]) (by simp [Tm.d, eqOk_str (lay_sS s') ks, e2])
        · refine .ifF (m := .fr) (g1 := [some ((Tm.node s a b).d, .fr), some (.str x, .fr), some (.str s.s, .fr)]) (by simp [k2, x2]) (.skip ?_)
          by_cases x3 : x = Str.ofString "right"
          · subst x3
            have fin : ∀ {u : Option Tm}, turnO .right (.node s a b) = u → turnS (Str.ofString "right") (.node s a b) = u := fun h => by simp [turnS, h]
            have no : turnO .right (.node s a b) = none → (ev GL (callD GL T L n) (.and_ (.cons (.cmp .eq (.var 1) (.str "right")) (.cons (.cmp .eq (.ix (.ix (.var 0) (.int (1))) (.int (0))) (.var 2)) .nil))) [some ((Tm.node s a b).d, .fr), some (.str (Str.ofString "right"), .fr), some (.str s.s, .fr)]) = .ok (.bool false, .fr) [some ((Tm.node s a b).d, .fr), some (.str (Str.ofString "right"), .fr), some (.str s.s, .fr)] → Runs GL (callD GL T L n) L (.seq (.ite (.and_ (.cons (.cmp .eq (.var 1) (.str "right")) (.cons (.cmp .eq (.ix (.ix (.var 0) (.int (1))) (.int (0))) (.var 2)) .nil))) (.seq (.ret (.tup (.cons (.var 2) (.cons (.ix (.ix (.var 0) (.int (1))) (.int (1))) (.cons (.tup (.cons (.var 2) (.cons (.ix (.ix (.var 0) (.int (1))) (.int (2))) (.cons (.ix (.var 0) (.int (2))) .nil)))) .nil))))) .skip) .skip) (.seq (R 3) .skip)) [some ((Tm.node s a b).d, .fr), some (.str (Str.ofString "right"), .fr), some (.str s.s, .fr)] fun z => toCR z = match turnS (Str.ofString "right") (.node s a b) with | some u => .ok u.d .fr | none => .exc 3 := fun h hev => by
              rw [bad (fin h), fin h]
              exact .ifF hev (.skip (.raise rfl))
            cases a with
            | leaf o i =>
              have e : kS o ≠ s.s := kS_sn
              exact no rfl (by simp [Tm.d, eqOk_str (lay_kS o) ks, e])
            | node s' a a2 =>
              by_cases e : s' = s
              · subst e
                rw [fin (show turnO .right (.node s' (.node s' a a2) b) = some (.node s' a (.node s' a2 b)) by simp [turnO, hs])]
                exact .ifT (m := .fr) (g1 := [some ((Tm.node s' (.node s' a a2) b).d, .fr), some (.str (Str.ofString "right"), .fr), some (.str s'.s, .fr)]) (by simp [Tm.d, eqOk_str ks ks]) (.as (.ret (d := (Tm.node s' a (.node s' a2 b)).d) (m := .fr) (by simp [Tm.d]; rfl) rfl))
              · have e2 : s'.s ≠ s.s := fun z => e (Sn.inj z)
                exact no (by simp [turnO, hs, e]) (by simp [Tm.d, eqOk_str (lay_sS s') ks, e2])
          · have e5 : turnS x (.node s a b) = none := by simp [turnS, x1, x2, x3]
            rw [bad e5, e5]
            refine .ifF (m := .fr) (g1 := [some ((Tm.node s a b).d, .fr), some (.str x, .fr), some (.str s.s, .fr)]) (by simp [k3, x3]) (.skip (.raise rfl))
/-- a move -/
def mvD (x : Str) (p : List Int) : D := .tuple [.str x, plI p]
theorem r_done (l1 : Lib1 GL T R) (l : Lib11 T R) {x : Str} (kx : PyData.strOk x = true) (t : Tm) (p : List Int) (n : Nat) (hn : p.length + 2 ≤ n) (hR : (moveR x t p).isSome = true ∨ R = .raise) :
    callD GL T L (n + 1) (Str.ofString "done") [t.d, mvD x p] = match moveR x t p with | some u => .ok u.d .fr | none => .exc 3 := by
  have h1 : (t.atZ p).isSome = true ∨ R = .raise := hR.imp_left fun h => by
    rw [moveR_eq] at h
    cases e : t.atZ p with
    | none => rw [e] at h; cases h
    | some u => rfl
  have c1 := r_part_at (L := L) l1 l t p (n - 1) (by omega) h1
  rw [show n - 1 + 1 = n by omega] at c1
  rw [moveR_eq] at hR ⊢
  refine call_runs l.done rfl ?_
  unfold b_done
  simp only [startG_def]
  cases e : t.atZ p with
  | none =>
    rw [e] at c1
    exact .retX (g1 := [some (t.d, .fr), some (mvD x p, .fr)]) (by simp [mvD, c1]) rfl
  | some u =>
    rw [e] at c1 hR
    have h2 : (turnS x u).isSome = true ∨ R = .raise := hR.imp_left fun h => by simpa using h
    have c2 := r_turnP (GL := GL) (T := T) (L := L) l kx u (n - 1) h2
    rw [show n - 1 + 1 = n by omega] at c2
    cases e2 : turnS x u with
    | none =>
      rw [e2] at c2
      exact .retX (c := 3) (g1 := [some (t.d, .fr), some (mvD x p, .fr)]) (by simp [mvD, c1, c2]) (by simp [e2])
    | some v =>
      rw [e2] at c2
      have c3 := r_with_part (GL := GL) (L := L) l v p t u e n (by omega)
      exact .ret (d := (Tm.putZ v t p).d) (m := .fr) (g1 := [some (t.d, .fr), some (mvD x p, .fr)]) (by simp [mvD, c1, c2, c3]) (by simp [e2])
theorem r_movedP (l1 : Lib1 GL T R) (hv : (T (Str.ofString "leaves")).isSome = true) (l : Lib11 T R) (hT : T (Str.ofString "moved") = some ⟨2, 2, b_moved, 0⟩) (hL : 200 < L) {x : Str} (kx : PyData.strOk x = true) (t : Tm) (ok : t.ok) (h40 : t.ls.length ≤ 40) (p : List Int) (n : Nat) (hn : p.length + 5 ≤ n) (hR : (moveR x t p).isSome = true ∨ R = .raise) :
    callD GL T L (n + 1) (Str.ofString "moved") [t.d, mvD x p] = match moveR x t p with | some u => .ok u.d .fr | none => .exc 3 := by
  have c0 := r_leaves (L := L) l1 hv hL t ok h40 n (by omega)
  have c1 := r_done (L := L) l1 l kx t p (n - 1) (by omega) hR
  rw [show n - 1 + 1 = n by omega] at c1
  refine call_runs hT rfl ?_
  unfold b_moved
  simp only [startG_def]
  refine .ex (by simp [c0]; exact ⟨rfl, rfl⟩) ?_
  cases e : moveR x t p with
  | none => rw [e] at c1; exact .retX (g1 := [some (t.d, .fr), some (mvD x p, .fr)]) (by simp [c1]) rfl
  | some u => rw [e] at c1; exact .ret (d := u.d) (m := .fr) (g1 := [some (t.d, .fr), some (mvD x p, .fr)]) (by simp [c1]) rfl
/-- what BACK tells of the three words -/
structure LibK (GL : Str → Option D) : Prop where
  is : isDictO (GL (Str.ofString "BACK")) = true
  has : ∀ w : Wd, gninD (GL (Str.ofString "BACK")) (.str w.s) = some (.bool false, .fr)
  get : ∀ w : Wd, gixD (GL (Str.ofString "BACK")) (.str w.s) = some (.str w.back.s, .fr)
theorem r_back (hT : T (Str.ofString "back") = some ⟨1, 1, b_back R, 0⟩) (k : LibK GL) (w : Wd) (p : List Int) (n : Nat) : callD GL T L (n + 1) (Str.ofString "back") [mvD w.s p] = .ok (mvD w.back.s p) .fr := by
  refine call_runs hT rfl ?_
  unfold b_back
  simp only [startG_def]
  refine .ifF (m := .fr) (g1 := [some (mvD w.s p, .fr)]) (by simp [mvD, k.is, k.has]) (.skip ?_)
  exact .ret (d := mvD w.back.s p) (m := .fr) (g1 := [some (mvD w.s p, .fr)]) (by simp [mvD, k.is, k.get]) rfl
end
end DL

set_option Elab.async false
set_option linter.all false
set_option maxRecDepth 100000
/-! G12: forms as they should be: joined, filled. -/
namespace DL
open PySem L2

theorem cf_parts {d : D} (h : CF d) {s : Sn} (hs : s ≠ .pair) : ∀ x ∈ partsD s.s d, CF x ∧ partsD s.s x = [x] := by
  have self : ∀ {y : Str} {ys : List D}, y ≠ s.s → CF (.tuple (.str y :: ys)) → ∀ x ∈ partsD s.s (.tuple (.str y :: ys)), CF x ∧ partsD s.s x = [x] := fun {y ys} hy hc x hx => by
    have e : partsD s.s (.tuple (.str y :: ys)) = [.tuple (.str y :: ys)] := by rw [partsD_word, if_neg hy]
    rw [e] at hx
    simp at hx
    subst hx
    exact ⟨hc, e⟩
  cases h with
  | leaf o i ok => exact self kS_sn (.leaf o i ok)
  | pair ha hb => exact self (fun e => hs (Sn.inj (s := .pair) (s' := s) e).symm) (.pair ha hb)
  | @join s' xs hs' h2 hc u hp =>
    by_cases c : s'.s = s.s
    · have e := Sn.inj c
      subst e
      intro x hx
      rw [partsD_word, if_pos rfl] at hx
      exact ⟨hc x hx, hp x hx⟩
    · exact self c (.join hs' h2 hc u hp)
theorem lvDs_append : ∀ xs ys : List D, lvDs (xs ++ ys) = lvDs xs + lvDs ys
  | [], ys => by simp [lvDs]
  | x :: xs, ys => by simp [lvDs, lvDs_append xs ys]; omega
theorem lvDs_perm {xs ys : List D} (h : xs.Perm ys) : lvDs xs = lvDs ys := by
  induction h with
  | nil => rfl
  | cons x _ ih => simp [lvDs, ih]
  | swap x y l => simp [lvDs]; omega
  | trans _ _ i1 i2 => exact i1.trans i2
theorem lv_parts (s : Str) (d : D) : lvDs (partsD s d) = lvD d := by
  unfold partsD
  split
  · split
    · simp [lvD, lvDs]
    · simp [lvDs]
  · simp [lvDs]
theorem lv_flat (s : Str) : ∀ ds : List D, lvDs (ds.flatMap (partsD s)) = lvDs ds
  | [] => rfl
  | d :: ds => by rw [List.flatMap_cons, lvDs_append, lv_parts, lv_flat s ds]; rfl
/-- joined forms are a form as it should be -/
theorem cf_join {s : Sn} (hs : s ≠ .pair) {ds : List D} (h : ∀ d ∈ ds, CF d) (h2 : 2 ≤ (ds.flatMap (partsD s.s)).length) :
    CF (.tuple (.str s.s :: sortD (ds.flatMap (partsD s.s)))) ∧ lvD (.tuple (.str s.s :: sortD (ds.flatMap (partsD s.s)))) = lvDs ds := by
  have hr : ∀ x ∈ ds.flatMap (partsD s.s), CF x ∧ partsD s.s x = [x] := fun x hx => by
    obtain ⟨d, h3, h4⟩ := List.mem_flatMap.mp hx
    exact cf_parts (h d h3) hs x h4
  have pm := sortD_perm (ds.flatMap (partsD s.s))
  have hr2 := fun x hx => hr x (pm.mem_iff.mp hx)
  refine ⟨.join hs (by rw [pm.length_eq]; exact h2) (fun x hx => (hr2 x hx).1) (sortD_up (fun x hx => (hr x hx).1.isF.plain) fun x hx y hy => (hr x hx).1.isF.cmp y (hr y hy).1.isF) fun x hx => (hr2 x hx).2, ?_⟩
  have e := lvDs_perm pm
  rw [lv_flat] at e
  cases s <;> simp [lvD, lvDs, e]
theorem cf_small {d : D} (h : CF d) : d.depth ≤ lvD d ∧ wt d + 2 ≤ 5 * lvD d ∧ 1 ≤ lvD d := by
  obtain ⟨t, _, f, _, l⟩ := grows h
  have h1 := t.form_ok.2
  have h2 := t.ht_ls
  have h3 := t.form_wt
  have h4 := t.ls_pos
  rw [f] at h1 h3
  omega
theorem lvDs_pos : ∀ {ds : List D}, (∀ d ∈ ds, CF d) → ds.length ≤ lvDs ds
  | [], _ => by simp [lvDs]
  | d :: ds, h => by
    have := (cf_small (h d List.mem_cons_self)).2.2
    have := lvDs_pos fun e he => h e (List.mem_cons_of_mem _ he)
    simp [lvDs]
    omega
theorem parts_pos {d : D} (h : CF d) {s : Str} : 1 ≤ (partsD s d).length := by
  cases h with
  | leaf o i _ => rw [partsD_word]; split <;> simp
  | pair _ _ => rw [partsD_word]; split <;> simp
  | join _ h2 _ _ _ =>
    rw [partsD_word]
    split
    · omega
    · simp
theorem flat_pos {s : Str} : ∀ {ds : List D}, (∀ d ∈ ds, CF d) → ds.length ≤ (ds.flatMap (partsD s)).length
  | [], _ => by simp
  | d :: ds, h => by
    have := parts_pos (s := s) (h d List.mem_cons_self)
    have := flat_pos (s := s) fun e he => h e (List.mem_cons_of_mem _ he)
    simp at *
    omega
theorem lvDs_len2 : ∀ xs : List D, (∀ x ∈ xs, 1 ≤ lvD x) → xs.length ≤ lvDs xs
  | [], _ => by simp [lvDs]
  | x :: xs, h => by
    have := h x List.mem_cons_self
    have := lvDs_len2 xs fun y hy => h y (List.mem_cons_of_mem _ hy)
    simp [lvDs]
    omega
/-- two joined -/
theorem cf_join2 {s : Sn} (hs : s ≠ .pair) {a b : D} (ha : CF a) (hb : CF b) : joinD s.s [a, b] = .tuple (.str s.s :: sortD (partsD s.s a ++ partsD s.s b)) ∧ CF (joinD s.s [a, b]) ∧ lvD (joinD s.s [a, b]) = lvD a + lvD b := by
  have h : ∀ d ∈ [a, b], CF d := fun d hd => by simp at hd; rcases hd with rfl | rfl <;> assumption
  have h2 := flat_pos (s := s.s) h
  obtain ⟨c1, c2⟩ := cf_join hs h h2
  have e : joinD s.s [a, b] = .tuple (.str s.s :: sortD (partsD s.s a ++ partsD s.s b)) := by
    unfold joinD
    rw [joinR_more _ (by simp at h2 ⊢; omega)]
    simp
  have e2 : [a, b].flatMap (partsD s.s) = partsD s.s a ++ partsD s.s b := by simp
  rw [e2] at c1 c2
  exact ⟨e, by rw [e]; exact c1, by rw [e, c2]; simp [lvDs]⟩
theorem Tm.form_cf : ∀ t : Tm, t.ok → CF t.form ∧ lvD t.form = t.ls.length
  | .leaf o i, h => ⟨.leaf o i h, rfl⟩
  | .node .pair a b, h => by
    obtain ⟨a1, a2⟩ := a.form_cf h.1
    obtain ⟨b1, b2⟩ := b.form_cf h.2
    exact ⟨.pair a1 b1, by simp [Tm.form, Tm.ls, lvD, lvDs, a2, b2]⟩
  | .node .sum a b, h => by
    obtain ⟨a1, a2⟩ := a.form_cf h.1
    obtain ⟨b1, b2⟩ := b.form_cf h.2
    obtain ⟨_, c1, c2⟩ := cf_join2 (s := .sum) (by decide) a1 b1
    exact ⟨c1, by rw [show (Tm.node .sum a b).form = joinD Sn.sum.s [a.form, b.form] from rfl, c2]; simp [Tm.ls, a2, b2]⟩
  | .node .mul a b, h => by
    obtain ⟨a1, a2⟩ := a.form_cf h.1
    obtain ⟨b1, b2⟩ := b.form_cf h.2
    obtain ⟨_, c1, c2⟩ := cf_join2 (s := .mul) (by decide) a1 b1
    exact ⟨c1, by rw [show (Tm.node .mul a b).form = joinD Sn.mul.s [a.form, b.form] from rfl, c2]; simp [Tm.ls, a2, b2]⟩
theorem row_cf {s : Sn} (hs : s ≠ .pair) {ds : List D} (h : ∀ d ∈ ds, CF d) : ∀ x ∈ ds.flatMap (partsD s.s), CF x ∧ partsD s.s x = [x] := fun x hx => by
  obtain ⟨d, h3, h4⟩ := List.mem_flatMap.mp hx
  exact cf_parts (h d h3) hs x h4
/-- some joined, one or more -/
theorem cf_joins {s : Sn} (hs : s ≠ .pair) {ds : List D} (h : ∀ d ∈ ds, CF d) (h1 : ds ≠ []) : CF (joinD s.s ds) ∧ lvD (joinD s.s ds) = lvDs ds := by
  have hr := row_cf hs h
  have hp := flat_pos (s := s.s) h
  by_cases e : (ds.flatMap (partsD s.s)).length = 1
  · unfold joinD
    have hl := lv_flat s.s ds
    generalize ds.flatMap (partsD s.s) = row at *
    match row, e with
    | [d], _ => exact ⟨(hr d (by simp)).1, by rw [← hl]; simp [joinR, lvDs]⟩
  · have hlen : 1 ≤ ds.length := by cases ds with
      | nil => exact absurd rfl h1
      | cons _ _ => simp
    obtain ⟨c1, c2⟩ := cf_join hs h (by omega)
    unfold joinD
    rw [joinR_more _ e]
    exact ⟨c1, c2⟩
theorem parts_join {s : Sn} (hs : s ≠ .pair) {ds : List D} (h : ∀ d ∈ ds, CF d) : (partsD s.s (joinD s.s ds)).Perm (ds.flatMap (partsD s.s)) := by
  have hr := row_cf hs h
  by_cases e : (ds.flatMap (partsD s.s)).length = 1
  · unfold joinD
    generalize ds.flatMap (partsD s.s) = row at *
    match row, e with
    | [d], _ => rw [show joinR s.s [d] = d from rfl, (hr d (by simp)).2]
  · unfold joinD
    rw [joinR_more _ e, partsD_word, if_pos rfl]
    exact sortD_perm _
theorem joinR_perm {s : Str} {row row2 : List D} (hF : ∀ x ∈ row, IsF x) (p : row.Perm row2) : joinR s row = joinR s row2 := by
  by_cases e : row.length = 1
  · match row, e with
    | [d], _ =>
      have : row2 = [d] := (List.perm_singleton.mp p.symm)
      rw [this]
  · rw [joinR_more s e, joinR_more s (by rw [← p.length_eq]; exact e), sort_eq hF p]
theorem joinD_rows {s : Str} {ds es : List D} (hF : ∀ x ∈ ds.flatMap (partsD s), IsF x) (p : (ds.flatMap (partsD s)).Perm (es.flatMap (partsD s))) : joinD s ds = joinD s es := joinR_perm hF p

/-! ### filled -/
def Tm.fill (f : Int → D) : Tm → D
  | .leaf o i => if o = true then f i else .tuple [.str (kS o), .int i]
  | .node .pair a b => .tuple [.str (Str.ofString "pair"), a.fill f, b.fill f]
  | .node .sum a b => joinD (Str.ofString "sum") [a.fill f, b.fill f]
  | .node .mul a b => joinD (Str.ofString "mul") [a.fill f, b.fill f]
theorem fill_node {s : Sn} (hs : s ≠ .pair) (f : Int → D) (a b : Tm) : (Tm.node s a b).fill f = joinD s.s [a.fill f, b.fill f] := by
  cases s with
  | sum => rfl
  | mul => rfl
  | pair => exact absurd rfl hs
theorem fill_cf (f : Int → D) (m k : Nat) (hm : 1 ≤ m) : ∀ t : Tm, t.ok → (∀ i, (true, i) ∈ t.ls → CF (f i) ∧ lvD (f i) ≤ m ∧ (f i).depth ≤ k + 1) → CF (t.fill f) ∧ lvD (t.fill f) ≤ m * t.ls.length ∧ (t.fill f).depth ≤ t.ht + k
  | .leaf o i, ok, h => by
    cases o with
    | true =>
      obtain ⟨h1, h2, h3⟩ := h i (by simp [Tm.ls])
      simp only [Tm.fill, if_true, Tm.ls, List.length_singleton, Tm.ht]
      exact ⟨h1, by omega, by omega⟩
    | false =>
      simp only [Tm.fill, Bool.false_eq_true, if_false, Tm.ls, List.length_singleton, Tm.ht]
      exact ⟨.leaf false i ok, by simp [lvD, lvDs] <;> omega, by simp [PyData.depth, PyData.depthAll] <;> omega⟩
  | .node s a b, ok, h => by
    obtain ⟨a1, a2, a3⟩ := fill_cf f m k hm a ok.1 fun i hi => h i (by simp [Tm.ls, hi])
    obtain ⟨b1, b2, b3⟩ := fill_cf f m k hm b ok.2 fun i hi => h i (by simp [Tm.ls, hi])
    have e1 : m * (Tm.node s a b).ls.length = m * a.ls.length + m * b.ls.length := by simp [Tm.ls, Nat.mul_add]
    rw [e1]
    by_cases hs : s = .pair
    · subst hs
      refine ⟨.pair a1 b1, by simp [Tm.fill, lvD, lvDs]; omega, ?_⟩
      simp [Tm.fill, Tm.ht, PyData.depth, PyData.depthAll]
      omega
    · rw [fill_node hs]
      obtain ⟨_, c1, c2⟩ := cf_join2 hs a1 b1
      refine ⟨c1, by rw [c2]; omega, ?_⟩
      have := (join_form (Sn.join hs) (ds := [a.fill f, b.fill f]) (n := max a.ht b.ht + k) fun d hd => by
        simp at hd
        rcases hd with rfl | rfl
        · exact ⟨a1.isF, by omega⟩
        · exact ⟨b1.isF, by omega⟩).2
      simp [Tm.ht]
      omega
theorem fill_closed (f : Int → D) : ∀ t : Tm, (∀ i, (true, i) ∉ t.ls) → t.fill f = t.form
  | .leaf o i, h => by
    cases o with
    | true => exact absurd (by simp [Tm.ls]) (h i)
    | false => rfl
  | .node s a b, h => by
    have ha := fill_closed f a fun i hi => h i (by simp [Tm.ls, hi])
    have hb := fill_closed f b fun i hi => h i (by simp [Tm.ls, hi])
    cases s <;> simp [Tm.fill, Tm.form, ha, hb]
theorem fill_congr {f g : Int → D} : ∀ t : Tm, (∀ i, (true, i) ∈ t.ls → f i = g i) → t.fill f = t.fill g
  | .leaf o i, h => by
    cases o with
    | true => exact h i (by simp [Tm.ls])
    | false => rfl
  | .node s a b, h => by
    have ha := fill_congr a fun i hi => h i (by simp [Tm.ls, hi])
    have hb := fill_congr b fun i hi => h i (by simp [Tm.ls, hi])
    cases s <;> simp [Tm.fill, ha, hb]

/-! ### the leaves of a form -/
def lsT (xs : List D) (ys : List (Bool × Int)) : List (Bool × Int) := match xs with
  | [.str x, .int i] => [(decide (x = Str.ofString "open"), i)]
  | _ => ys
mutual
def lsD : D → List (Bool × Int)
  | .tuple xs => lsT xs (lsDs xs)
  | _ => []
def lsDs : List D → List (Bool × Int)
  | [] => []
  | x :: xs => lsD x ++ lsDs xs
end
theorem lsDs_flat : ∀ xs : List D, lsDs xs = xs.flatMap lsD
  | [] => rfl
  | x :: xs => by simp [lsDs, lsDs_flat xs]
theorem lsD_leaf (o : Bool) (i : Int) : lsD (.tuple [.str (kS o), .int i]) = [(o, i)] := by
  cases o <;> simp [lsD, lsT, kS]
theorem lsT_three {x y z : D} {r : List D} {ys : List (Bool × Int)} : lsT (x :: y :: z :: r) ys = ys := by
  unfold lsT
  split
  · rename_i h; cases h
  · rfl
theorem lsD_pair (a b : D) : lsD (.tuple [.str (Str.ofString "pair"), a, b]) = lsD a ++ lsD b := by
  simp [lsD, lsT_three, lsDs]
theorem lsD_join {s : Sn} {xs : List D} (h : 2 ≤ xs.length) : lsD (.tuple (.str s.s :: xs)) = xs.flatMap lsD := by
  match xs, h with
  | x :: y :: r, _ => simp [lsD, lsT_three, lsDs, lsDs_flat]
theorem lsD_parts {s : Sn} {d : D} (h : CF d) : (partsD s.s d).flatMap lsD = lsD d := by
  cases h with
  | leaf o i _ =>
    rw [partsD_word, if_neg kS_sn]
    simp
  | pair ha hb =>
    rw [partsD_word]
    split
    · rename_i a b e
      have := Sn.inj (s := .pair) e
      rw [lsD_pair]; simp
    · simp
  | @join s' xs hs' h2 hc u hp =>
    rw [partsD_word]
    split
    · rw [lsD_join h2]
    · simp
theorem lsD_joins {s : Sn} (hs : s ≠ .pair) {ds : List D} (h : ∀ d ∈ ds, CF d) (h1 : ds ≠ []) : (lsD (joinD s.s ds)).Perm (ds.flatMap lsD) := by
  rw [← lsD_parts (s := s) (cf_joins hs h h1).1]
  refine ((parts_join hs h).flatMap_right lsD).trans ?_
  rw [List.flatMap_assoc]
  have : ds.flatMap (fun x => (partsD s.s x).flatMap lsD) = ds.flatMap lsD := by
    clear h1
    induction ds with
    | nil => rfl
    | cons d ds ih =>
      rw [List.flatMap_cons, List.flatMap_cons, lsD_parts (h d List.mem_cons_self), ih fun e he => h e (List.mem_cons_of_mem _ he)]
  rw [this]
theorem form_ls : ∀ t : Tm, t.ok → (lsD t.form).Perm t.ls
  | .leaf o i, _ => by
    show (lsD (.tuple [.str (kS o), .int i])).Perm _
    rw [lsD_leaf]
    exact .refl _
  | .node s a b, ok => by
    have ia := form_ls a ok.1
    have ib := form_ls b ok.2
    by_cases hs : s = .pair
    · subst hs
      show (lsD (.tuple [.str (Str.ofString "pair"), a.form, b.form])).Perm _
      rw [lsD_pair]
      exact ia.append ib
    · rw [node_form hs]
      refine (lsD_joins hs (fun d hd => ?_) (by simp)).trans ?_
      · simp at hd
        rcases hd with rfl | rfl
        · exact (a.form_cf ok.1).1
        · exact (b.form_cf ok.2).1
      · simp
        exact ia.append ib

/-! ### forms put in -/
def putT (f : Int → D) (xs ys : List D) : D := match xs with
  | .str x :: r => if x = Str.ofString "open" then (match r with | [.int i] => f i | _ => .tuple xs) else if x = Str.ofString "name" then .tuple xs else if x = Str.ofString "pair" then .tuple ys else joinD x ys.tail
  | _ => .tuple xs
mutual
def putD (f : Int → D) : D → D
  | .tuple xs => putT f xs (putDs f xs)
  | d => d
def putDs (f : Int → D) : List D → List D
  | [] => []
  | x :: xs => putD f x :: putDs f xs
end
theorem putDs_map (f : Int → D) : ∀ xs : List D, putDs f xs = xs.map (putD f)
  | [] => rfl
  | x :: xs => by simp [putDs, putDs_map f xs]
theorem putD_leaf (f : Int → D) (o : Bool) (i : Int) : putD f (.tuple [.str (kS o), .int i]) = if o = true then f i else .tuple [.str (kS o), .int i] := by
  cases o <;> simp [putD, putT, kS]
theorem putD_pair (f : Int → D) (a b : D) : putD f (.tuple [.str (Str.ofString "pair"), a, b]) = .tuple [.str (Str.ofString "pair"), putD f a, putD f b] := by
  simp [putD, putT, putDs]
theorem putD_join (f : Int → D) {s : Sn} (hs : s ≠ .pair) (xs : List D) : putD f (.tuple (.str s.s :: xs)) = joinD s.s (xs.map (putD f)) := by
  have h1 : ¬ s.s = Str.ofString "open" := fun e => (kS_sn (o := true) (s := s)) e.symm
  have h2 : ¬ s.s = Str.ofString "name" := fun e => (kS_sn (o := false) (s := s)) e.symm
  have h3 : ¬ s.s = Str.ofString "pair" := fun e => hs (Sn.inj (s' := .pair) e)
  simp [putD, putT, h1, h2, h3, putDs, putDs_map]
theorem put_cf (f : Int → D) {d : D} (h : CF d) : (∀ i, (true, i) ∈ lsD d → CF (f i)) → CF (putD f d) := by
  induction h with
  | leaf o i ok =>
    intro hf
    rw [putD_leaf]
    split
    · rename_i e; subst e; exact hf i (by rw [lsD_leaf]; simp)
    · exact .leaf o i ok
  | pair ha hb iha ihb =>
    intro hf
    rw [putD_pair]
    rw [lsD_pair] at hf
    exact .pair (iha fun i hi => hf i (by simp [hi])) (ihb fun i hi => hf i (by simp [hi]))
  | @join s xs hs h2 hc u hp ih =>
    intro hf
    rw [putD_join f hs]
    rw [lsD_join h2] at hf
    refine (cf_joins hs (fun d hd => ?_) (by intro e; simp at e; rw [e] at h2; simp at h2)).1
    obtain ⟨x, hx, rfl⟩ := List.mem_map.mp hd
    exact ih x hx fun i hi => hf i (List.mem_flatMap.mpr ⟨x, hx, hi⟩)
theorem lsD_mem_parts {s : Sn} {d x : D} (h : CF d) (hx : x ∈ partsD s.s d) {p : Bool × Int} (hp : p ∈ lsD x) : p ∈ lsD d := by
  rw [← lsD_parts (s := s) h]
  exact List.mem_flatMap.mpr ⟨x, hx, hp⟩
theorem parts_put (f : Int → D) {s : Sn} (hs : s ≠ .pair) {d : D} (h : CF d) (hf : ∀ i, (true, i) ∈ lsD d → CF (f i)) : (partsD s.s (putD f d)).Perm ((partsD s.s d).flatMap fun x => partsD s.s (putD f x)) := by
  have other : partsD s.s d = [d] → (partsD s.s (putD f d)).Perm ((partsD s.s d).flatMap fun x => partsD s.s (putD f x)) := fun e => by rw [e]; simp
  cases h with
  | leaf o i ok => exact other (by rw [partsD_word, if_neg kS_sn])
  | pair ha hb => exact other (by rw [partsD_word, if_neg]; intro e; exact hs (Sn.inj (s := .pair) (s' := s) e).symm)
  | @join s' xs hs' h2 hc u hp =>
    by_cases c : s' = s
    · subst c
      have e : partsD s'.s (.tuple (.str s'.s :: xs)) = xs := by rw [partsD_word, if_pos rfl]
      rw [e, putD_join f hs]
      refine (parts_join hs fun d hd => ?_).trans ?_
      · obtain ⟨x, hx, rfl⟩ := List.mem_map.mp hd
        rw [lsD_join h2] at hf
        exact put_cf f (hc x hx) fun i hi => hf i (List.mem_flatMap.mpr ⟨x, hx, hi⟩)
      · rw [List.flatMap_map]
    · exact other (by rw [partsD_word, if_neg]; exact fun e => c (Sn.inj e))
/-- put into the form: the form of the filled term -/
theorem put_form_fill (f : Int → D) : ∀ t : Tm, t.ok → (∀ i, (true, i) ∈ t.ls → CF (f i)) → putD f t.form = t.fill f
  | .leaf o i, _, _ => by
    show putD f (.tuple [.str (kS o), .int i]) = _
    rw [putD_leaf]; rfl
  | .node s a b, ok, hf => by
    have ha : ∀ i, (true, i) ∈ a.ls → CF (f i) := fun i hi => hf i (by simp [Tm.ls, hi])
    have hb : ∀ i, (true, i) ∈ b.ls → CF (f i) := fun i hi => hf i (by simp [Tm.ls, hi])
    have ia := put_form_fill f a ok.1 ha
    have ib := put_form_fill f b ok.2 hb
    by_cases hs : s = .pair
    · subst hs
      show putD f (.tuple [.str (Str.ofString "pair"), a.form, b.form]) = _
      rw [putD_pair, ia, ib]; rfl
    · obtain ⟨ca, _⟩ := a.form_cf ok.1
      obtain ⟨cb, _⟩ := b.form_cf ok.2
      have fa : ∀ i, (true, i) ∈ lsD a.form → CF (f i) := fun i hi => ha i ((form_ls a ok.1).mem_iff.mp hi)
      have fb : ∀ i, (true, i) ∈ lsD b.form → CF (f i) := fun i hi => hb i ((form_ls b ok.2).mem_iff.mp hi)
      rw [fill_node hs, node_eq hs, putD_join f hs, ← ia, ← ib]
      have row : (partsD s.s (putD f a.form) ++ partsD s.s (putD f b.form)).Perm ((sortD (a.parts s ++ b.parts s)).flatMap fun x => partsD s.s (putD f x)) := by
        refine ((parts_put f hs ca fa).append (parts_put f hs cb fb)).trans ?_
        rw [← List.flatMap_append]
        exact ((sortD_perm _).symm).flatMap_right _
      refine (joinD_rows (s := s.s) (ds := [putD f a.form, putD f b.form]) (fun x hx => ?_) ?_).symm
      · exact (row_cf hs (ds := [putD f a.form, putD f b.form]) (fun d hd => by
          simp at hd
          rcases hd with rfl | rfl
          · exact put_cf f ca fa
          · exact put_cf f cb fb) x hx).1.isF
      · rw [List.flatMap_map]
        simpa using row
end DL

set_option Elab.async false
set_option linter.all false
set_option maxRecDepth 100000
/-! G13: runs of put, filled. -/
namespace DL
open PySem L2
theorem lcGo_all {f : D → Res (Option D)} (h : D → D) : ∀ (l : List D), (∀ a ∈ l, ∃ g, f a = .ok (some (h a)) g) → lcGo f l = some (l.map h)
  | [], _ => rfl
  | a :: l, hf => by
    obtain ⟨g, e⟩ := hf a (by simp)
    have ih := lcGo_all h l fun b hb => hf b (by simp [hb])
    rw [lcGo, e]
    simp [ih]
theorem lvDs_mem {x : D} : ∀ {xs : List D}, x ∈ xs → lvD x ≤ lvDs xs
  | [], h => by cases h
  | y :: ys, h => by
    simp only [lvDs]
    rcases List.mem_cons.mp h with rfl | h
    · omega
    · have := lvDs_mem h; omega
theorem lvDs_map_le {h : D → D} {m : Nat} : ∀ {xs : List D}, (∀ x ∈ xs, lvD (h x) ≤ m * lvD x) → lvDs (xs.map h) ≤ m * lvDs xs
  | [], _ => by simp [lvDs]
  | x :: xs, hx => by
    have := hx x List.mem_cons_self
    have := lvDs_map_le fun y hy => hx y (List.mem_cons_of_mem _ hy)
    simp [lvDs, Nat.mul_add]
    omega
theorem lvD_join {s : Sn} {xs : List D} : lvD (.tuple (.str s.s :: xs)) = lvDs xs := by cases s <;> simp [lvD, lvDs]
theorem row_len {s : Sn} (hs : s ≠ .pair) {ds : List D} (h : ∀ d ∈ ds, CF d) : (ds.flatMap (partsD s.s)).length ≤ lvDs ds := by
  have e := lv_flat s.s ds
  have := lvDs_len2 (ds.flatMap (partsD s.s)) fun x hx => (cf_small (row_cf hs h x hx).1).2.2
  omega
section
variable {GL : Str → Option D} {T : Str → Option Fd} {L : Nat} {R : Nat → S}
theorem r_putD (l5 : Lib5 T) (hT : T (Str.ofString "put") = some ⟨2, 3, b_put, 0⟩) {es : List (D × D)} {f : Int → D} {m k : Nat} (hm : 1 ≤ m) : ∀ (n : Nat) (d : D), CF d → d.depth ≤ n → m * lvD d ≤ 1000 → n + k ≤ 80 →
    (∀ i, (true, i) ∈ lsD d → getKey es (.int i) = some (f i) ∧ CF (f i) ∧ lvD (f i) ≤ m ∧ (f i).depth ≤ k + 1) →
    Calls GL T L (n + 3) (Str.ofString "put") [d, .dict es] (.ok (putD f d) .fr) ∧ CF (putD f d) ∧ lvD (putD f d) ≤ m * lvD d ∧ (putD f d).depth ≤ d.depth + k := by
  intro n
  induction n with
  | zero =>
    intro d cf hd
    cases cf <;> simp [PyData.depth] at hd
  | succ n ih =>
    intro d cf hd hlv hk hf
    have lo : ∀ c, 1 ≤ m * c ↔ 1 ≤ c := fun c => by
      constructor
      · intro h; cases c <;> simp at h ⊢
      · intro h; exact Nat.mul_le_mul hm h
    cases cf with
    | leaf o i ok =>
      rw [putD_leaf]
      cases o with
      | true =>
        obtain ⟨g1, g2, g3, g4⟩ := hf i (by rw [lsD_leaf]; simp)
        refine ⟨fun q hq => ?_, g2, ?_, ?_⟩
        · obtain ⟨q, rfl⟩ : ∃ m, q = m + 1 := ⟨q - 1, by omega⟩
          refine call_runs hT rfl ?_
          unfold b_put
          simp only [startG_def]
          exact .ifT (by simp [kS]; exact ⟨rfl, rfl⟩) (.as (.ret (d := f i) (m := .fr) (by simp [g1]; rfl) rfl))
        · simp [lvD, lvDs]; omega
        · simp [PyData.depth, PyData.depthAll]; omega
      | false =>
        refine ⟨fun q hq => ?_, .leaf false i ok, ?_, ?_⟩
        · obtain ⟨q, rfl⟩ : ∃ m, q = m + 1 := ⟨q - 1, by omega⟩
          refine call_runs hT rfl ?_
          unfold b_put
          simp only [startG_def]
          refine .ifF (by simp [kS]; exact ⟨rfl, rfl⟩) (.skip ?_)
          exact .ifT (by simp; exact ⟨rfl, rfl⟩) (.as (.ret (m := .fr) (by simp; exact ⟨rfl, rfl⟩) (by simp [kS])))
        · simp [lvD, lvDs]; omega
        · simp [PyData.depth, PyData.depthAll]
    | @pair a b ca cb =>
      have ha : max a.depth b.depth ≤ n := by simp [PyData.depth, PyData.depthAll] at hd; omega
      have hl : lvD (.tuple [.str (Str.ofString "pair"), a, b]) = lvD a + lvD b := by simp [lvD, lvDs]
      rw [hl, Nat.mul_add] at hlv
      obtain ⟨a1, a2, a3, a4⟩ := ih a ca (by omega) (by omega) (by omega) fun i hi => hf i (by rw [lsD_pair]; simp [hi])
      obtain ⟨b1, b2, b3, b4⟩ := ih b cb (by omega) (by omega) (by omega) fun i hi => hf i (by rw [lsD_pair]; simp [hi])
      rw [putD_pair]
      refine ⟨fun q hq => ?_, .pair a2 b2, ?_, ?_⟩
      · obtain ⟨q, rfl⟩ : ∃ m, q = m + 1 := ⟨q - 1, by omega⟩
        have ca := a1 q (by omega)
        have cb := b1 q (by omega)
        refine call_runs hT rfl ?_
        unfold b_put
        simp only [startG_def]
        refine .ifF (by simp; exact ⟨rfl, rfl⟩) (.skip (.ifF (by simp; exact ⟨rfl, rfl⟩) (.skip ?_)))
        exact .ifT (by simp; exact ⟨rfl, rfl⟩) (.as (.ret (d := .tuple [.str (Str.ofString "pair"), putD f a, putD f b]) (m := .fr) (by simp [ca, cb]; rfl) rfl))
      · rw [hl]; simp [lvD, lvDs, Nat.mul_add]; omega
      · simp [PyData.depth, PyData.depthAll]; omega
    | @join s xs hs h2 hc u hp =>
      rw [lvD_join] at hlv
      have hdep : ∀ x ∈ xs, x.depth ≤ n := fun x hx => by
        have h1 := depth_mem hx
        simp [PyData.depth, PyData.depthAll] at hd
        omega
      have each : ∀ x ∈ xs, Calls GL T L (n + 3) (Str.ofString "put") [x, .dict es] (.ok (putD f x) .fr) ∧ CF (putD f x) ∧ lvD (putD f x) ≤ m * lvD x ∧ (putD f x).depth ≤ x.depth + k := fun x hx => by
        refine ih x (hc x hx) (hdep x hx) ?_ (by omega) fun i hi => hf i (by rw [lsD_join h2]; exact List.mem_flatMap.mpr ⟨x, hx, hi⟩)
        exact Nat.le_trans (Nat.mul_le_mul_left m (lvDs_mem hx)) hlv
      have hcf : ∀ d ∈ xs.map (putD f), CF d := fun d hd => by
        obtain ⟨x, hx, rfl⟩ := List.mem_map.mp hd
        exact (each x hx).2.1
      have hne : xs.map (putD f) ≠ [] := by intro e; simp at e; rw [e] at h2; simp at h2
      have hlv2 : lvDs (xs.map (putD f)) ≤ m * lvDs xs := lvDs_map_le fun x hx => (each x hx).2.2.1
      have hmem : ∀ x ∈ xs, x.depth + 1 ≤ PyData.depth (.tuple (.str s.s :: xs)) := fun x hx => by
        have := depth_mem hx
        simp [PyData.depth, PyData.depthAll]
        omega
      have hdd : ∀ d ∈ xs.map (putD f), IsF d ∧ d.depth ≤ PyData.depth (.tuple (.str s.s :: xs)) - 1 + k := fun d hd => by
        obtain ⟨x, hx, rfl⟩ := List.mem_map.mp hd
        exact ⟨(each x hx).2.1.isF, by have := (each x hx).2.2.2; have := hmem x hx; omega⟩
      rw [putD_join f hs]
      obtain ⟨j1, j2⟩ := cf_joins hs hcf hne
      refine ⟨fun q hq => ?_, j1, by rw [j2, lvD_join]; exact hlv2, ?_⟩
      · obtain ⟨q, rfl⟩ : ∃ m, q = m + 1 := ⟨q - 1, by omega⟩
        have cj := r_joined (GL := GL) (L := L) l5 (Sn.join hs) (ds := xs.map (putD f)) (fun d hd' => ⟨(hdd d hd').1, by have := (hdd d hd').2; omega⟩) (Nat.le_trans (row_len hs hcf) (by omega)) q (by omega)
        have n1 := eqOk_str (lay_sS s) (show PyData.strOk (Str.ofString "open") = true by simp)
        have n2 := eqOk_str (lay_sS s) (show PyData.strOk (Str.ofString "name") = true by simp)
        have n3 := eqOk_str (lay_sS s) (show PyData.strOk (Str.ofString "pair") = true by simp)
        have m1 : ¬ s.s = Str.ofString "open" := fun e => (kS_sn (o := true) (s := s)) e.symm
        have m2 : ¬ s.s = Str.ofString "name" := fun e => (kS_sn (o := false) (s := s)) e.symm
        have m3 : ¬ s.s = Str.ofString "pair" := fun e => hs (Sn.inj (s' := .pair) e)
        refine call_runs hT rfl ?_
        unfold b_put
        simp only [startG_def]
        refine .ifF (m := .fr) (g1 := [some (.tuple (.str s.s :: xs), .fr), some (.dict es, .fr), none]) (by simp [n1, m1]) (.skip ?_)
        refine .ifF (m := .fr) (g1 := [some (.tuple (.str s.s :: xs), .fr), some (.dict es, .fr), none]) (by simp [n2, m2]) (.skip ?_)
        refine .ifF (m := .fr) (g1 := [some (.tuple (.str s.s :: xs), .fr), some (.dict es, .fr), none]) (by simp [n3, m3]) (.skip ?_)
        refine .ret (d := joinD s.s (xs.map (putD f))) (m := .fr) (g1 := [some (.tuple (.str s.s :: xs), .fr), some (.dict es, .fr), none]) ?_ rfl
        have hx1 : xs.length ≤ 16777216 := by
          have h1 := flat_pos (s := s.s) hcf
          have h3 := row_len hs hcf
          rw [List.length_map] at h1
          omega
        have lc := lcGo_all (f := fun d => (iff_ .nil (ev GL (callD GL T L q) .nil ([some (.tuple (.str s.s :: xs), .fr), some (.dict es, .fr), some (d, .fr)])) [some (.tuple (.str s.s :: xs), .fr), some (.dict es, .fr), some (d, .fr)]).bd fun c g => if c then (ev GL (callD GL T L q) (.call (Str.ofString "put") (.cons (.var 2) (.cons (.var 1) .nil))) g).bd fun p g => if p.2 = .on then .stuck else .ok (some p.1) g else .ok none g) (putD f) xs fun x hx => by
          have := (each x hx).1 q (by omega)
          simp [this]
        simp [cut_tail]
        simp at lc
        simp [lc, cj, hx1]
      · have := (join_form (Sn.join hs) hdd).2
        have h1 : 1 ≤ PyData.depth (.tuple (.str s.s :: xs)) := by simp [PyData.depth]
        omega
structure Lib13 (T : Str → Option Fd) (R : Nat → S) : Prop where
  opens : T (Str.ofString "opens") = some ⟨1, 2, b_opens, 0⟩
  put : T (Str.ofString "put") = some ⟨2, 3, b_put, 0⟩
  filled : T (Str.ofString "filled") = some ⟨2, 3, b_filled R, 0⟩
theorem mem_opens {t : Tm} {d : D} {j : Nat} (h : ((sortI (opN t.ls)).map PyData.int)[j]? = some d) : ∃ i, d = .int i ∧ (true, i) ∈ t.ls := by
  have hm := List.mem_of_getElem? h
  obtain ⟨i, hi, rfl⟩ := List.mem_map.mp hm
  exact ⟨i, rfl, mem_opN.mp (sortI_mem.mp hi)⟩
theorem r_filled (l1 : Lib1 GL T R) (l5 : Lib5 T) (l : Lib13 T R) (hL : 200 < L) {es : List (D × D)} {f : Int → D} {m k : Nat} (hm : 1 ≤ m) (t : Tm) (ok : t.ok) (h40 : t.ls.length ≤ 40) (hlv : m * t.ls.length ≤ 1000) (hk : t.ht + k ≤ 80)
    (hf : ∀ i, (true, i) ∈ t.ls → getKey es (.int i) = some (f i) ∧ hasKey es (.int i) = true ∧ CF (f i) ∧ lvD (f i) ≤ m ∧ (f i).depth ≤ k + 1) (n : Nat) (hn : t.ht + 6 ≤ n) :
    callD GL T L (n + 1) (Str.ofString "filled") [t.d, .dict es] = .ok (t.fill f) .fr := by
  have c1 := r_opens (L := L) l1 l.opens hL t ok h40 n (by omega)
  have c2 := r_flat (L := L) l1 l5 t (by omega) n (by omega)
  obtain ⟨cf, lv⟩ := t.form_cf ok
  have mem : ∀ i, (true, i) ∈ lsD t.form → (true, i) ∈ t.ls := fun i hi => (form_ls t ok).mem_iff.mp hi
  have c3 := (r_putD (GL := GL) (L := L) l5 l.put hm t.ht t.form cf (t.form_ok.2) (by rw [lv]; exact hlv) hk fun i hi => ⟨(hf i (mem i hi)).1, (hf i (mem i hi)).2.2⟩).1 n (by omega)
  rw [put_form_fill f t ok fun i hi => (hf i hi).2.2.1] at c3
  refine call_runs l.filled rfl ?_
  unfold b_filled
  simp only [startG_def]
  refine .for_ (ds := (sortI (opN t.ls)).map .int) (fun i g => ∃ z : Sl, g = [some (t.d, .fr), some (.dict es, .fr), z]) (by simp [c1]; exact ⟨rfl, rfl⟩) (by decide) rfl ⟨none, rfl⟩ ?_ ?_
  · rintro j x g hx ⟨z, rfl⟩
    obtain ⟨i, rfl, hi⟩ := mem_opens hx
    have hh := (hf i hi).2.1
    refine ⟨[some (t.d, .fr), some (.dict es, .fr), some (.int i, .fr)], ?_, _, rfl⟩
    simp [cmpD.inD, hh]
  · rintro g ⟨z, rfl⟩
    exact .ret (d := t.fill f) (m := .fr) (by simp [c2, c3]; rfl) rfl
theorem r_filled_no (l1 : Lib1 GL T .raise) (l : Lib13 T .raise) (hL : 200 < L) {es : List (D × D)} (t : Tm) (ok : t.ok) (h40 : t.ls.length ≤ 40) {i : Int} (hi : (true, i) ∈ t.ls) (hk : hasKey es (.int i) = false) (n : Nat) (hn : 4 ≤ n) :
    callD GL T L (n + 1) (Str.ofString "filled") [t.d, .dict es] = .exc 4 := by
  have c1 := r_opens (L := L) l1 l.opens hL t ok h40 n (by omega)
  refine call_runs l.filled rfl ?_
  unfold b_filled
  simp only [startG_def]
  refine .forX (ds := (sortI (opN t.ls)).map .int) (fun j g => (∃ z : Sl, g = [some (t.d, .fr), some (.dict es, .fr), z]) ∧ ∀ d ∈ ((sortI (opN t.ls)).map PyData.int).take j, hasKey es d = true) (by simp [c1]; exact ⟨rfl, rfl⟩) (by decide) rfl ⟨⟨none, rfl⟩, by simp⟩ ?_ ?_
  · rintro j x g hx ⟨⟨z, rfl⟩, hall⟩
    obtain ⟨i2, rfl, hi2⟩ := mem_opens hx
    have hlt : j < ((sortI (opN t.ls)).map PyData.int).length := (List.getElem?_eq_some_iff.mp hx).1
    have hxe := (List.getElem?_eq_some_iff.mp hx).2
    by_cases c : hasKey es (.int i2) = true
    · left
      refine ⟨[some (t.d, .fr), some (.dict es, .fr), some (.int i2, .fr)], ?_, ⟨_, rfl⟩, fun d hd => ?_⟩
      · simp [cmpD.inD, c]
      · rw [List.take_succ_eq_append_getElem hlt] at hd
        rcases List.mem_append.mp hd with hd | hd
        · exact hall d hd
        · simp at hd
          simp at hxe
          rw [hd, hxe]; exact c
    · have c : hasKey es (.int i2) = false := by simpa using c
      right
      exact ⟨4, [some (t.d, .fr), some (.dict es, .fr), some (.int i2, .fr)], by simp [cmpD.inD, c], rfl⟩
  · rintro g ⟨⟨z, rfl⟩, hall⟩
    rw [List.take_length] at hall
    have := hall (.int i) (List.mem_map.mpr ⟨i, sortI_mem.mpr (mem_opN.mpr hi), rfl⟩)
    rw [hk] at this
    cases this
end
end DL

set_option Elab.async false
set_option linter.all false
set_option maxRecDepth 100000
/-! H1: choices of places (picks). -/
namespace DL
open PySem L2

/-- all choices of up to m places ahead of n, the empty one first -/
def pkRows (m : Int) : Nat → List (List Nat)
  | 0 => [[]]
  | n + 1 => pkRows m n ++ ((pkRows m n).filter fun r => decide ((r.length : Int) < m)).map (· ++ [n])
def pk (m : Int) (n : Nat) : List (List Nat) := (pkRows m n).tail
theorem pkRows_cons (m : Int) : ∀ n, pkRows m n = [] :: pk m n
  | 0 => rfl
  | n + 1 => by unfold pk pkRows; rw [pkRows_cons m n]; rfl
theorem pk_succ (m : Int) (n : Nat) : pk m (n + 1) = pk m n ++ ((pkRows m n).filter fun r => decide ((r.length : Int) < m)).map (· ++ [n]) := by
  show (pkRows m (n + 1)).tail = _
  rw [pkRows, pkRows_cons m n]
  rfl
theorem pkRows_mem {m : Int} {n : Nat} {r : List Nat} : r ∈ pkRows m (n + 1) ↔ r ∈ pkRows m n ∨ ∃ r', r' ∈ pkRows m n ∧ (r'.length : Int) < m ∧ r = r' ++ [n] := by
  rw [pkRows, List.mem_append, List.mem_map]
  constructor
  · rintro (h | ⟨r', h, rfl⟩)
    · exact .inl h
    · rw [List.mem_filter, decide_eq_true_eq] at h
      exact .inr ⟨r', h.1, h.2, rfl⟩
  · rintro (h | ⟨r', h1, h2, rfl⟩)
    · exact .inl h
    · exact .inr ⟨r', by rw [List.mem_filter, decide_eq_true_eq]; exact ⟨h1, h2⟩, rfl⟩
theorem pkRows_lt {m : Int} : ∀ {n : Nat} {r : List Nat}, r ∈ pkRows m n → ∀ i ∈ r, i < n
  | 0, r, h, i, hi => by simp [pkRows] at h; subst h; cases hi
  | n + 1, r, h, i, hi => by
    rcases pkRows_mem.mp h with h | ⟨r', h1, _, rfl⟩
    · have := pkRows_lt h i hi; omega
    · rcases List.mem_append.mp hi with hi | hi
      · have := pkRows_lt h1 i hi; omega
      · simp at hi; omega
theorem pkRows_len {m : Int} : ∀ {n : Nat} {r : List Nat}, r ∈ pkRows m n → r = [] ∨ (r.length : Int) ≤ m
  | 0, r, h => by simp [pkRows] at h; exact .inl h
  | n + 1, r, h => by
    rcases pkRows_mem.mp h with h | ⟨r', h1, hl, rfl⟩
    · exact pkRows_len h
    · right; simp; omega
theorem pkRows_size {m : Int} : ∀ {n : Nat} {r : List Nat}, r ∈ pkRows m n → r.length ≤ n
  | 0, r, h => by simp [pkRows] at h; simp [h]
  | n + 1, r, h => by
    rcases pkRows_mem.mp h with h | ⟨r', h1, _, rfl⟩
    · have := pkRows_size h; omega
    · have := pkRows_size h1; simp; omega
theorem pkRows_num (m : Int) : ∀ n, (pkRows m n).length ≤ 2 ^ n
  | 0 => by simp [pkRows]
  | n + 1 => by
    have h1 := pkRows_num m n
    have h2 := List.length_filter_le (fun r : List Nat => decide ((r.length : Int) < m)) (pkRows m n)
    rw [pkRows, List.length_append, List.length_map, Nat.pow_succ]
    omega
theorem pk_ne {m : Int} : ∀ {n : Nat} {r : List Nat}, r ∈ pk m n → r ≠ [] ∧ r ∈ pkRows m n
  | 0, r, h => by simp [pk, pkRows] at h
  | n + 1, r, h => by
    rw [pk_succ, List.mem_append] at h
    rcases h with h | h
    · exact ⟨(pk_ne h).1, pkRows_mem.mpr (.inl (pk_ne h).2)⟩
    · obtain ⟨r', h1, rfl⟩ := List.mem_map.mp h
      rw [List.mem_filter, decide_eq_true_eq] at h1
      exact ⟨by simp, pkRows_mem.mpr (.inr ⟨r', h1.1, h1.2, rfl⟩)⟩
theorem pk_of {m : Int} {n : Nat} {r : List Nat} (h : r ∈ pkRows m n) (hr : r ≠ []) : r ∈ pk m n := by
  rw [pkRows_cons] at h
  exact (List.mem_cons.mp h).resolve_left hr
section
variable {α : Type} (T : List α) (x0 : α)
/-- what a choice takes, what it leaves of the first n -/
def sel (r : List Nat) : List α := r.map fun i => T.getD i x0
def oth (n : Nat) (r : List Nat) : List α := ((List.range n).filter fun i => !r.contains i).map fun i => T.getD i x0
variable {T x0}
theorem take_snoc {n : Nat} (h : n < T.length) : T.take (n + 1) = T.take n ++ [T.getD n x0] := by
  rw [List.take_succ_eq_append_getElem h, List.getD_eq_getElem?_getD, List.getElem?_eq_getElem h]
  rfl
theorem oth_old {m : Int} {n : Nat} {r : List Nat} (h : r ∈ pkRows m n) : oth T x0 (n + 1) r = oth T x0 n r ++ [T.getD n x0] := by
  unfold oth
  have hn : r.contains n = false := by
    cases q : r.contains n with
    | false => rfl
    | true => have := pkRows_lt h n (by simpa using q); omega
  rw [List.range_succ, List.filter_append, List.map_append]
  have e : [n].filter (fun i => !r.contains i) = [n] := by rw [List.filter_cons]; simp only [hn]; rfl
  rw [e]
  rfl
theorem oth_new {m : Int} {n : Nat} {r : List Nat} (h : r ∈ pkRows m n) : oth T x0 (n + 1) (r ++ [n]) = oth T x0 n r := by
  unfold oth
  rw [List.range_succ, List.filter_append, List.map_append]
  have e : (List.range n).filter (fun i => !(r ++ [n]).contains i) = (List.range n).filter fun i => !r.contains i := by
    refine List.filter_congr fun i hi => ?_
    have : i < n := by simpa using hi
    have hne : ¬ i = n := by omega
    simp [hne]
  rw [e]
  simp
theorem sel_new {r : List Nat} {n : Nat} : sel T x0 (r ++ [n]) = sel T x0 r ++ [T.getD n x0] := by simp [sel]
theorem split_sub {m : Int} : ∀ {n : Nat} {r : List Nat}, n ≤ T.length → r ∈ pkRows m n → (sel T x0 r).Sublist (T.take n) ∧ (oth T x0 n r).Sublist (T.take n) ∧ (sel T x0 r ++ oth T x0 n r).Perm (T.take n)
  | 0, r, _, h => by simp [pkRows] at h; subst h; simp [sel, oth]
  | n + 1, r, hn, h => by
    rw [take_snoc (x0 := x0) (by omega)]
    rcases pkRows_mem.mp h with h | ⟨r', h1, _, rfl⟩
    · obtain ⟨a, b, c⟩ := split_sub (by omega) h
      rw [oth_old h]
      refine ⟨a.trans (List.sublist_append_left _ _), b.append (List.Sublist.refl _), ?_⟩
      rw [← List.append_assoc]
      exact c.append_right _
    · obtain ⟨a, b, c⟩ := split_sub (by omega) h1
      rw [oth_new h1, sel_new]
      refine ⟨a.append (List.Sublist.refl _), b.trans (List.sublist_append_left _ _), ?_⟩
      refine List.Perm.trans ?_ (c.append_right _)
      rw [List.append_assoc, List.append_assoc]
      exact List.Perm.append_left _ List.perm_append_comm
theorem split_all [DecidableEq α] {m : Int} : ∀ {n : Nat} {A B : List α}, n ≤ T.length → (A ++ B).Perm (T.take n) → (A.length : Int) ≤ m → ∃ r, r ∈ pkRows m n ∧ r.length = A.length ∧ (sel T x0 r).Perm A ∧ (oth T x0 n r).Perm B
  | 0, A, B, _, p, _ => by
    simp at p
    obtain ⟨rfl, rfl⟩ := p
    exact ⟨[], by simp [pkRows], rfl, by simp [sel], by simp [oth]⟩
  | n + 1, A, B, hn, p, hm => by
    rw [take_snoc (x0 := x0) (by omega)] at p
    have hx : T.getD n x0 ∈ A ++ B := p.mem_iff.mpr (by simp)
    rcases List.mem_append.mp hx with hA | hB
    · have pA := List.perm_cons_erase hA
      have hl := pA.length_eq
      simp only [List.length_cons] at hl
      have p2 : (A.erase (T.getD n x0) ++ B).Perm (T.take n) := by
        refine List.Perm.cons_inv (a := T.getD n x0) ?_
        refine ((pA.append_right B).symm).trans (p.trans ?_)
        exact List.perm_append_comm
      obtain ⟨r, h1, h2, h3, h4⟩ := split_all (m := m) (by omega) p2 (by omega)
      refine ⟨r ++ [n], pkRows_mem.mpr (.inr ⟨r, h1, by omega, rfl⟩), by simp; omega, ?_, by rw [oth_new h1]; exact h4⟩
      rw [sel_new]
      refine List.perm_append_comm.trans ?_
      exact (h3.cons _).trans pA.symm
    · have pB := List.perm_cons_erase hB
      have p2 : (A ++ B.erase (T.getD n x0)).Perm (T.take n) := by
        refine List.Perm.cons_inv (a := T.getD n x0) ?_
        refine List.Perm.trans ?_ (p.trans List.perm_append_comm)
        refine List.perm_middle.symm.trans ?_
        exact List.Perm.append_left A pB.symm
      obtain ⟨r, h1, h2, h3, h4⟩ := split_all (m := m) (by omega) p2 hm
      refine ⟨r, pkRows_mem.mpr (.inl h1), h2, h3, ?_⟩
      rw [oth_old h1]
      refine List.perm_append_comm.trans ?_
      exact (h4.cons _).trans pB.symm
end
/-! ### how many -/
theorem pow_add_le {a b w : Nat} (h : 1 ≤ w) : a ^ w + b ^ w ≤ (a + b) ^ w := by
  induction w with
  | zero => omega
  | succ w ih =>
    by_cases hw : w = 0
    · subst hw; simp
    · have := ih (by omega)
      rw [Nat.pow_succ, Nat.pow_succ, Nat.pow_succ]
      have h1 : (a ^ w + b ^ w) * (a + b) ≤ (a + b) ^ w * (a + b) := Nat.mul_le_mul_right _ this
      have h2 : (a ^ w + b ^ w) * (a + b) = a ^ w * a + a ^ w * b + (b ^ w * a + b ^ w * b) := by rw [Nat.add_mul, Nat.mul_add, Nat.mul_add]
      have h3 := Nat.zero_le (a ^ w * b)
      have h4 := Nat.zero_le (b ^ w * a)
      omega
def sumN (l : List Nat) : Nat := l.sum
theorem sum_filter_le {α : Type} (f : α → Nat) (p : α → Bool) : ∀ l : List α, ((l.filter p).map f).sum ≤ (l.map f).sum
  | [] => by simp
  | x :: l => by
    have := sum_filter_le f p l
    rw [List.filter_cons]
    split <;> simp <;> omega
theorem sum_mul_right {α : Type} (f : α → Nat) (c : Nat) : ∀ l : List α, (l.map fun x => f x * c).sum = (l.map f).sum * c
  | [] => by simp
  | x :: l => by simp [sum_mul_right f c l, Nat.add_mul]
/-- all choices together -/
theorem split_sum {T : List D} {x0 : D} {m : Int} {a b : Nat} : ∀ {n : Nat}, n ≤ T.length → (∀ x ∈ T, 1 ≤ lvD x) → ((pkRows m n).map fun r => a ^ lvDs (sel T x0 r) * b ^ lvDs (oth T x0 n r)).sum ≤ (a + b) ^ lvDs (T.take n)
  | 0, _, _ => by simp [pkRows, sel, oth, lvDs]
  | n + 1, hn, hT => by
    have ih := split_sum (T := T) (x0 := x0) (m := m) (a := a) (b := b) (n := n) (by omega) hT
    have hx : 1 ≤ lvD (T.getD n x0) := by
      refine hT _ ?_
      rw [List.getD_eq_getElem?_getD, List.getElem?_eq_getElem (by omega : n < T.length)]
      exact List.getElem_mem _
    rw [take_snoc (x0 := x0) (by omega), lvDs_append, Nat.pow_add]
    have e1 : lvDs [T.getD n x0] = lvD (T.getD n x0) := by simp [lvDs]
    rw [e1, pkRows, List.map_append, List.sum_append]
    have s1 : ((pkRows m n).map fun r => a ^ lvDs (sel T x0 r) * b ^ lvDs (oth T x0 (n + 1) r)).sum = ((pkRows m n).map fun r => a ^ lvDs (sel T x0 r) * b ^ lvDs (oth T x0 n r)).sum * b ^ lvD (T.getD n x0) := by
      rw [← sum_mul_right]
      congr 1
      refine List.map_congr_left fun r hr => ?_
      rw [oth_old hr, lvDs_append, e1, Nat.pow_add, Nat.mul_assoc]
    have s2 : ((((pkRows m n).filter fun r => decide ((r.length : Int) < m)).map (· ++ [n])).map fun r => a ^ lvDs (sel T x0 r) * b ^ lvDs (oth T x0 (n + 1) r)).sum ≤ ((pkRows m n).map fun r => a ^ lvDs (sel T x0 r) * b ^ lvDs (oth T x0 n r)).sum * a ^ lvD (T.getD n x0) := by
      rw [List.map_map, ← sum_mul_right]
      refine Nat.le_trans (Nat.le_of_eq ?_) (sum_filter_le _ (fun r : List Nat => decide ((r.length : Int) < m)) _)
      congr 1
      refine List.map_congr_left fun r hr => ?_
      have hr' : r ∈ pkRows m n := (List.mem_filter.mp hr).1
      show a ^ lvDs (sel T x0 (r ++ [n])) * b ^ lvDs (oth T x0 (n + 1) (r ++ [n])) = _
      rw [oth_new hr', sel_new, lvDs_append, e1, Nat.pow_add, Nat.mul_assoc, Nat.mul_assoc, Nat.mul_comm (a ^ lvD _)]
    have s3 := pow_add_le (a := a) (b := b) hx
    have s4 : ((pkRows m n).map fun r => a ^ lvDs (sel T x0 r) * b ^ lvDs (oth T x0 n r)).sum * (a ^ lvD (T.getD n x0) + b ^ lvD (T.getD n x0)) ≤ (a + b) ^ lvDs (T.take n) * (a + b) ^ lvD (T.getD n x0) := Nat.mul_le_mul ih s3
    rw [s1]
    rw [Nat.mul_add] at s4
    omega
end DL

set_option Elab.async false
set_option linter.all false
set_option maxRecDepth 100000
/-! H2: fillings by which a pattern's form is a whole form: what is asked of a list of them. -/
namespace DL
open PySem L2

abbrev Fl := List (D × D)
/-! ### entries -/
theorem hasKey_get (es : Fl) (k : D) : hasKey es k = (getKey es k).isSome := by
  unfold hasKey getKey
  rw [Option.isSome_map]
  induction es with
  | nil => rfl
  | cons p es ih =>
    rw [List.any_cons, List.find?_cons]
    cases h : PyData.eqv p.1 k with
    | true => rfl
    | false => simpa using ih
theorem getKey_snoc {es : Fl} {i : Int} {v : D} (h : hasKey es (.int i) = false) (j : Int) : getKey (es ++ [(.int i, v)]) (.int j) = if j = i then some v else getKey es (.int j) := by
  rw [hasKey_get] at h
  unfold getKey at *
  rw [Option.isSome_map] at h
  rw [List.find?_append]
  by_cases c : j = i
  · subst c
    have : es.find? (fun p => PyData.eqv p.1 (.int j)) = none := by
      cases q : es.find? (fun p => PyData.eqv p.1 (.int j)) with
      | none => rfl
      | some x => rw [q] at h; cases h
    rw [this]
    simp
  · have e : PyData.eqv (.int i) (.int j) = false := by simp [Ne.symm c]
    rw [if_neg c, List.find?_cons, e]
    simp
theorem putKey_new {es : Fl} {i : Int} {v : D} (h : hasKey es (.int i) = false) : putKey es (.int i) v = es ++ [(.int i, v)] := by
  unfold putKey
  rw [h]
  rfl
/-- the function f says what the filling says -/
def Agree (es : Fl) (f : Int → D) : Prop := ∀ i v, getKey es (.int i) = some v → f i = v

/-! ### parts of a whole, some of a join's parts together -/
inductive Part : D → D → Prop
  | self (w : D) : Part w w
  | fst {a b v : D} : Part a v → Part (.tuple [.str (Str.ofString "pair"), a, b]) v
  | snd {a b v : D} : Part b v → Part (.tuple [.str (Str.ofString "pair"), a, b]) v
  | memb {s : Sn} {xs : List D} {x v : D} : s ≠ .pair → x ∈ xs → Part x v → Part (.tuple (.str s.s :: xs)) v
  | some {s : Sn} {xs ys : List D} : s ≠ .pair → ys.Sublist xs → ys ≠ [] → Part (.tuple (.str s.s :: xs)) (joinR s.s ys)
/-- a row of parts of a sign -/
structure Row (s : Sn) (T : List D) : Prop where
  cf : ∀ x ∈ T, CF x
  pt : ∀ x ∈ T, partsD s.s x = [x]
theorem Row.sub {s : Sn} {T U : List D} (h : Row s T) (hs : ∀ x ∈ U, x ∈ T) : Row s U := ⟨fun x hx => h.cf x (hs x hx), fun x hx => h.pt x (hs x hx)⟩
theorem Row.flat {s : Sn} {T : List D} (h : Row s T) : T.flatMap (partsD s.s) = T := by
  have := h.pt
  clear h
  induction T with
  | nil => rfl
  | cons x T ih => rw [List.flatMap_cons, this x List.mem_cons_self, ih fun y hy => this y (List.mem_cons_of_mem _ hy)]; rfl
theorem Row.join {s : Sn} {T : List D} (h : Row s T) : joinD s.s T = joinR s.s T := by unfold joinD; rw [h.flat]
theorem Row.cfJ {s : Sn} (hs : s ≠ .pair) {T : List D} (h : Row s T) (hT : T ≠ []) : CF (joinR s.s T) ∧ lvD (joinR s.s T) = lvDs T := by
  have := cf_joins hs h.cf hT
  rwa [h.join] at this
theorem Row.parts {s : Sn} (hs : s ≠ .pair) {T : List D} (h : Row s T) : (partsD s.s (joinR s.s T)).Perm T := by
  have := parts_join hs h.cf
  rwa [h.join, h.flat] at this
theorem joinR_depth {s : Str} {T : List D} {n : Nat} (h : ∀ x ∈ T, x.depth ≤ n) : (joinR s T).depth ≤ n + 1 := by
  by_cases e : T.length = 1
  · match T, e with
    | [d], _ => have := h d (by simp); show d.depth ≤ _; omega
  · rw [joinR_more s e]
    have := depthAll_le fun x hx => h x ((sortD_perm T).mem_iff.mp hx)
    simp only [PyData.depth, PyData.depthAll]
    omega
theorem joinR_id {s : Sn} {T : List D} (h : Row s T) (u : Up T) (h2 : T.length ≠ 1) : joinR s.s T = .tuple (.str s.s :: T) := by
  rw [joinR_more _ h2, sortD_id (fun x hx => (h.cf x hx).isF) u]
theorem row_of {s : Sn} {xs : List D} (h : CF (.tuple (.str s.s :: xs))) (hs : s ≠ .pair) : 2 ≤ xs.length ∧ Row s xs ∧ Up xs := by
  generalize e : (PyData.tuple (.str s.s :: xs)) = d at h
  cases h with
  | leaf o i _ =>
    simp only [PyData.tuple.injEq, List.cons.injEq, PyData.str.injEq] at e
    exact absurd e.1.symm kS_sn
  | pair _ _ =>
    simp only [PyData.tuple.injEq, List.cons.injEq, PyData.str.injEq] at e
    exact absurd (Sn.inj (s' := .pair) e.1) hs
  | @join s' xs' hs' h2 hc u hp =>
    simp only [PyData.tuple.injEq, List.cons.injEq, PyData.str.injEq] at e
    obtain ⟨e1, rfl⟩ := e
    have := Sn.inj e1
    subst this
    exact ⟨h2, ⟨hc, hp⟩, u⟩
def PartS (s : Sn) (T : List D) (v : D) : Prop := (∃ x ∈ T, Part x v) ∨ ∃ ys, ys.Sublist T ∧ ys ≠ [] ∧ v = joinR s.s ys
theorem PartS.mono {s : Sn} {T U : List D} {v : D} (h : PartS s T v) (hs : T.Sublist U) : PartS s U v := by
  rcases h with ⟨x, hx, h⟩ | ⟨ys, h1, h2, h3⟩
  · exact .inl ⟨x, hs.subset hx, h⟩
  · exact .inr ⟨ys, h1.trans hs, h2, h3⟩
theorem PartS.part {s : Sn} (hs : s ≠ .pair) {T : List D} {v : D} (h : PartS s T v) : Part (.tuple (.str s.s :: T)) v := by
  rcases h with ⟨x, hx, h⟩ | ⟨ys, h1, h2, rfl⟩
  · exact .memb hs hx h
  · exact .some hs h1 h2
/-- what a part of a form is -/
structure PartOk (w v : D) : Prop where
  cf : CF v
  dp : v.depth ≤ w.depth
  lv : lvD v ≤ lvD w
  ls : ∀ p ∈ lsD v, p ∈ lsD w
theorem sub_depth {s : Str} {xs ys : List D} (h : ys.Sublist xs) : PyData.depthAll ys ≤ PyData.depthAll xs := depthAll_le fun y hy => depth_mem (h.subset hy)
theorem lvDs_sub {xs ys : List D} (h : ys.Sublist xs) : lvDs ys ≤ lvDs xs := by
  induction h with
  | slnil => exact Nat.le_refl _
  | cons a _ ih => simp [lvDs]; omega
  | cons_cons a _ ih => simp [lvDs]; omega
theorem ls_joinR {s : Sn} (hs : s ≠ .pair) {T : List D} (h : Row s T) (hT : T ≠ []) : (lsD (joinR s.s T)).Perm (T.flatMap lsD) := by
  have := lsD_joins hs h.cf hT
  rwa [h.join] at this
theorem joinR_small {s : Sn} {xs ys : List D} (hr : Row s xs) (h : ys.Sublist xs) (hy : ys ≠ []) : (joinR s.s ys).depth ≤ PyData.depth (.tuple (.str s.s :: xs)) := by
  have e : PyData.depth (.tuple (.str s.s :: xs)) = PyData.depthAll xs + 1 := by simp [PyData.depth, PyData.depthAll]
  rw [e]
  exact joinR_depth fun x hx => depth_mem (h.subset hx)
theorem cf_pair {a b : D} (h : CF (.tuple [.str (Str.ofString "pair"), a, b])) : CF a ∧ CF b := by
  generalize e : (PyData.tuple [.str (Str.ofString "pair"), a, b]) = d at h
  cases h with
  | leaf o i _ => simp at e
  | pair ca cb =>
    simp only [PyData.tuple.injEq, List.cons.injEq, and_true, true_and] at e
    exact ⟨e.1 ▸ ca, e.2 ▸ cb⟩
  | @join s' xs' hs' h2 hc u hp =>
    simp only [PyData.tuple.injEq, List.cons.injEq, PyData.str.injEq] at e
    exact absurd (Sn.inj (s := .pair) e.1).symm hs'
theorem part_ok {w v : D} (h : Part w v) : CF w → PartOk w v := by
  induction h with
  | self w => exact fun c => ⟨c, Nat.le_refl _, Nat.le_refl _, fun p hp => hp⟩
  | @fst a b v h ih =>
    intro c
    obtain ⟨ca, cb⟩ := cf_pair c
    obtain ⟨h1, h2, h3, h4⟩ := ih ca
    refine ⟨h1, ?_, ?_, fun p hp => ?_⟩
    · simp [PyData.depth, PyData.depthAll]; omega
    · simp [lvD, lvDs]; omega
    · rw [lsD_pair]; simp [h4 p hp]
  | @snd a b v h ih =>
    intro c
    obtain ⟨ca, cb⟩ := cf_pair c
    obtain ⟨h1, h2, h3, h4⟩ := ih cb
    refine ⟨h1, ?_, ?_, fun p hp => ?_⟩
    · simp [PyData.depth, PyData.depthAll]; omega
    · simp [lvD, lvDs]; omega
    · rw [lsD_pair]; simp [h4 p hp]
  | @memb s xs x v hs hx h ih =>
    intro c
    obtain ⟨h2, hr, u⟩ := row_of c hs
    obtain ⟨g1, g2, g3, g4⟩ := ih (hr.cf x hx)
    refine ⟨g1, ?_, ?_, fun p hp => ?_⟩
    · have := depth_mem hx
      simp [PyData.depth, PyData.depthAll]; omega
    · rw [lvD_join]; have := lvDs_mem hx; omega
    · rw [lsD_join h2]; exact List.mem_flatMap.mpr ⟨x, hx, g4 p hp⟩
  | @some s xs ys hs hsub hy =>
    intro c
    obtain ⟨h2, hr, u⟩ := row_of c hs
    have hr2 := hr.sub fun x hx => hsub.subset hx
    obtain ⟨g1, g2⟩ := hr2.cfJ hs hy
    refine ⟨g1, joinR_small hr hsub hy, ?_, fun p hp => ?_⟩
    · rw [g2, lvD_join]; exact lvDs_sub hsub
    · rw [lsD_join h2]
      have := (ls_joinR hs hr2 hy).mem_iff.mp hp
      obtain ⟨x, hx, hpx⟩ := List.mem_flatMap.mp this
      exact List.mem_flatMap.mpr ⟨x, hsub.subset hx, hpx⟩

/-! ### what is asked -/
structure MS (one whole : D) (es fs : Fl) : Prop where
  ext : ∀ i v, getKey es (.int i) = some v → getKey fs (.int i) = some v
  has : ∀ i, (getKey fs (.int i)).isSome = true ↔ (getKey es (.int i)).isSome = true ∨ (true, i) ∈ lsD one
  new : ∀ i v, getKey fs (.int i) = some v → getKey es (.int i) = some v ∨ Part whole v
  put : ∀ f, Agree fs f → putD f one = whole
  len : fs.length ≤ es.length + lvD one
structure MOk (one whole : D) (es : Fl) (ffs : List Fl) : Prop where
  sound : ∀ fs ∈ ffs, MS one whole es fs
  comp : ∀ f, Agree es f → (∀ i, (true, i) ∈ lsD one → CF (f i)) → putD f one = whole → ∃ fs ∈ ffs, Agree fs f
  num : ffs.length ≤ lvD one ^ lvD whole
def rowOf (s : Sn) (f : Int → D) (ws : List D) : List D := ws.flatMap fun w => partsD s.s (putD f w)
structure SS (s : Sn) (ws T : List D) (es fs : Fl) : Prop where
  ext : ∀ i v, getKey es (.int i) = some v → getKey fs (.int i) = some v
  has : ∀ i, (getKey fs (.int i)).isSome = true ↔ (getKey es (.int i)).isSome = true ∨ ∃ w ∈ ws, (true, i) ∈ lsD w
  new : ∀ i v, getKey fs (.int i) = some v → getKey es (.int i) = some v ∨ PartS s T v
  put : ∀ f, Agree fs f → (rowOf s f ws).Perm T
  len : fs.length ≤ es.length + lvDs ws
structure SOk (s : Sn) (ws T : List D) (es : Fl) (ffs : List Fl) : Prop where
  sound : ∀ fs ∈ ffs, SS s ws T es fs
  comp : ∀ f, Agree es f → (∀ w ∈ ws, ∀ i, (true, i) ∈ lsD w → CF (f i)) → (rowOf s f ws).Perm T → ∃ fs ∈ ffs, Agree fs f
  num : ffs.length ≤ lvDs ws ^ lvDs T
/-- a filling of forms -/
def FlOk (es : Fl) : Prop := ∀ i v, getKey es (.int i) = some v → CF v
theorem agree_ext {es fs : Fl} {f : Int → D} (h : Agree fs f) (x : ∀ i v, getKey es (.int i) = some v → getKey fs (.int i) = some v) : Agree es f := fun i v e => h i v (x i v e)
theorem lv_pos {d : D} (h : CF d) : 1 ≤ lvD d := (cf_small h).2.2
theorem pow_le {a b c d : Nat} (h1 : a ≤ c) (h2 : b ≤ d) (hc : 1 ≤ c) : a ^ b ≤ c ^ d := Nat.le_trans (Nat.pow_le_pow_left h1 b) (Nat.pow_le_pow_right hc h2)
theorem one_le_pow {a n : Nat} (h : 1 ≤ a) : 1 ≤ a ^ n := Nat.one_le_pow _ _ h
theorem m_open_new {i : Int} {whole : D} {es : Fl} (hw : CF whole) (h : hasKey es (.int i) = false) : MOk (.tuple [.str (kS true), .int i]) whole es [es ++ [(.int i, whole)]] := by
  have hn : getKey es (.int i) = none := by
    rw [hasKey_get] at h
    cases q : getKey es (.int i) with
    | none => rfl
    | some v => rw [q] at h; cases h
  refine ⟨fun fs hfs => ?_, fun f ha hc hp => ⟨_, List.mem_singleton.mpr rfl, fun j v e => ?_⟩, ?_⟩
  · rw [List.mem_singleton.mp hfs]
    refine ⟨fun j v e => ?_, fun j => ?_, fun j v e => ?_, fun f ha => ?_, ?_⟩
    · rw [getKey_snoc h, if_neg]
      · exact e
      · intro z; subst z; rw [hn] at e; cases e
    · rw [getKey_snoc h, lsD_leaf]
      by_cases c : j = i
      · subst c; simp
      · rw [if_neg c]; simp [c]
    · rw [getKey_snoc h] at e
      split at e
      · cases e; exact .inr (.self _)
      · exact .inl e
    · rw [putD_leaf, if_pos rfl]
      exact ha i whole (by rw [getKey_snoc h, if_pos rfl])
    · simp [lvD, lvDs]
  · rw [getKey_snoc h] at e
    split at e
    · rename_i c
      cases e
      subst c
      rwa [putD_leaf, if_pos rfl] at hp
    · exact ha j v e
  · simp [lvD, lvDs]
theorem m_open_old {i : Int} {whole v : D} {es : Fl} {q : Bool} (hq : q = true ↔ v = whole) (h : getKey es (.int i) = some v) : MOk (.tuple [.str (kS true), .int i]) whole es (if q = true then [es] else []) := by
  refine ⟨fun fs hfs => ?_, fun f ha hc hp => ?_, ?_⟩
  · split at hfs
    · rename_i c
      have c := hq.mp c
      rw [List.mem_singleton.mp hfs]
      refine ⟨fun j v e => e, fun j => ?_, fun j v e => .inl e, fun f ha => ?_, by omega⟩
      · rw [lsD_leaf]
        constructor
        · exact fun z => .inl z
        · rintro (z | z)
          · exact z
          · simp at z; subst z; rw [h]; rfl
      · rw [putD_leaf, if_pos rfl, ← c]; exact ha i v h
    · cases hfs
  · rw [putD_leaf, if_pos rfl] at hp
    have := ha i v h
    rw [if_pos (hq.mpr (by rw [← this, hp]))]
    exact ⟨es, List.mem_singleton.mpr rfl, ha⟩
  · split <;> simp [lvD, lvDs]
/-- a form without open places -/
theorem put_closed (f : Int → D) {d : D} (h : CF d) : (∀ i, (true, i) ∉ lsD d) → putD f d = d := by
  induction h with
  | leaf o i ok =>
    intro hc
    rw [putD_leaf]
    split
    · rename_i e; subst e; exact absurd (by rw [lsD_leaf]; simp) (hc i)
    · rfl
  | pair ha hb iha ihb =>
    intro hc
    rw [lsD_pair] at hc
    rw [putD_pair, iha fun i hi => hc i (by simp [hi]), ihb fun i hi => hc i (by simp [hi])]
  | @join s xs hs h2 hcf u hp ih =>
    intro hc
    rw [lsD_join h2] at hc
    have e : xs.map (putD f) = xs := by
      conv => rhs; rw [← List.map_id xs]
      exact List.map_congr_left fun x hx => ih x hx fun i hi => hc i (List.mem_flatMap.mpr ⟨x, hx, hi⟩)
    have hr : Row s xs := ⟨hcf, hp⟩
    rw [putD_join f hs, e, hr.join, joinR_id hr u (by omega)]
/-- a name, a part of another word -/
theorem m_const {one whole : D} {es : Fl} {q : Bool} (hq : q = true ↔ one = whole) (h1 : ∀ f, (∀ i, (true, i) ∈ lsD one → CF (f i)) → putD f one = whole → one = whole) (h2 : one = whole → (∀ i, (true, i) ∉ lsD one) ∧ CF one) (h3 : 1 ≤ lvD one) : MOk one whole es (if q = true then [es] else []) := by
  refine ⟨fun fs hfs => ?_, fun f ha hc hp => ?_, ?_⟩
  · split at hfs
    · rename_i c
      have c := hq.mp c
      rw [List.mem_singleton.mp hfs]
      refine ⟨fun j v e => e, fun j => ?_, fun j v e => .inl e, fun f ha => ?_, by omega⟩
      · constructor
        · exact fun z => .inl z
        · rintro (z | z)
          · exact z
          · exact absurd z ((h2 c).1 j)
      · rw [put_closed f (h2 c).2 (h2 c).1]; exact c
    · cases hfs
  · rw [if_pos (hq.mpr (h1 f hc hp))]
    exact ⟨es, List.mem_singleton.mpr rfl, ha⟩
  · have := one_le_pow (n := lvD whole) h3
    split <;> simp <;> omega
theorem flat_len {α β : Type} {f : α → List β} {n : Nat} : ∀ {l : List α}, (∀ a ∈ l, (f a).length ≤ n) → (l.flatMap f).length ≤ l.length * n
  | [], _ => by simp
  | a :: l, h => by
    have := h a List.mem_cons_self
    have := flat_len fun b hb => h b (List.mem_cons_of_mem _ hb)
    simp only [List.flatMap_cons, List.length_append, List.length_cons, Nat.add_mul]
    omega
/-- a pair -/
theorem m_pair {a b a' b' : D} {es : Fl} {ms : List Fl} {rs : Fl → List Fl} (ha : MOk a a' es ms) (hb : ∀ m ∈ ms, MOk b b' m (rs m)) :
    MOk (.tuple [.str (Str.ofString "pair"), a, b]) (.tuple [.str (Str.ofString "pair"), a', b']) es (ms.flatMap rs) := by
  have lv : ∀ x y : D, lvD (.tuple [.str (Str.ofString "pair"), x, y]) = lvD x + lvD y := fun x y => by simp [lvD, lvDs]
  refine ⟨fun fs hfs => ?_, fun f hag hc hp => ?_, ?_⟩
  · obtain ⟨m, hm, hfs⟩ := List.mem_flatMap.mp hfs
    have s1 := ha.sound m hm
    have s2 := (hb m hm).sound fs hfs
    refine ⟨fun i v e => s2.ext i v (s1.ext i v e), fun i => ?_, fun i v e => ?_, fun f hag => ?_, ?_⟩
    · rw [s2.has, s1.has, lsD_pair, List.mem_append, or_assoc]
    · rcases s2.new i v e with e | e
      · rcases s1.new i v e with e | e
        · exact .inl e
        · exact .inr (.fst e)
      · exact .inr (.snd e)
    · rw [putD_pair, s1.put f (agree_ext hag s2.ext), s2.put f hag]
    · rw [lv]; have := s1.len; have := s2.len; omega
  · rw [putD_pair] at hp
    simp only [PyData.tuple.injEq, List.cons.injEq, and_true, true_and] at hp
    rw [lsD_pair] at hc
    obtain ⟨m, hm, hag2⟩ := ha.comp f hag (fun i hi => hc i (by simp [hi])) hp.1
    obtain ⟨fs, hfs, hag3⟩ := (hb m hm).comp f hag2 (fun i hi => hc i (by simp [hi])) hp.2
    exact ⟨fs, List.mem_flatMap.mpr ⟨m, hm, hfs⟩, hag3⟩
  · rw [lv, lv]
    have h1 := flat_len (f := rs) (l := ms) fun m hm => (hb m hm).num
    have h2 : ms.length * lvD b ^ lvD b' ≤ lvD a ^ lvD a' * lvD b ^ lvD b' := Nat.mul_le_mul_right _ ha.num
    have h3 : lvD a ^ lvD a' * lvD b ^ lvD b' ≤ (lvD a + lvD b) ^ lvD a' * (lvD a + lvD b) ^ lvD b' := Nat.mul_le_mul (Nat.pow_le_pow_left (by omega) _) (Nat.pow_le_pow_left (by omega) _)
    rw [← Nat.pow_add] at h3
    omega
/-- a join, by its parts -/
theorem m_join {s : Sn} (hs : s ≠ .pair) {xs T : List D} {es : Fl} {ffs : List Fl} (c1 : CF (.tuple (.str s.s :: xs))) (c2 : CF (.tuple (.str s.s :: T))) (h : SOk s xs T es ffs) : MOk (.tuple (.str s.s :: xs)) (.tuple (.str s.s :: T)) es ffs := by
  obtain ⟨x2, xr, xu⟩ := row_of c1 hs
  obtain ⟨t2, tr, tu⟩ := row_of c2 hs
  have key : ∀ f, (rowOf s f xs).Perm T → putD f (.tuple (.str s.s :: xs)) = .tuple (.str s.s :: T) := fun f p => by
    rw [putD_join f hs, ← joinR_id tr tu (by omega)]
    unfold joinD
    rw [List.flatMap_map]
    exact (joinR_perm (fun x hx => (tr.cf x hx).isF) p.symm).symm
  refine ⟨fun fs hfs => ?_, fun f hag hc hp => ?_, ?_⟩
  · have := h.sound fs hfs
    refine ⟨this.ext, fun i => ?_, fun i v e => (this.new i v e).imp_right (·.part hs), fun f hag => key f (this.put f hag), by rw [lvD_join]; exact this.len⟩
    rw [this.has, lsD_join x2, List.mem_flatMap]
  · rw [lsD_join x2] at hc
    have hc' : ∀ w ∈ xs, ∀ i, (true, i) ∈ lsD w → CF (f i) := fun w hw i hi => hc i (List.mem_flatMap.mpr ⟨w, hw, hi⟩)
    refine h.comp f hag hc' ?_
    have cw : ∀ w ∈ xs.map (putD f), CF w := fun w hw => by
      obtain ⟨x, hx, rfl⟩ := List.mem_map.mp hw
      exact put_cf f (xr.cf x hx) fun i hi => hc' x hx i hi
    have hl := flat_pos (s := s.s) cw
    rw [List.length_map] at hl
    rw [putD_join f hs] at hp
    unfold joinD at hp
    rw [joinR_more _ (by omega)] at hp
    simp only [PyData.tuple.injEq, List.cons.injEq, true_and] at hp
    rw [← hp]
    refine List.Perm.trans ?_ (sortD_perm _).symm
    rw [List.flatMap_map]
    exact .refl _
  · rw [lvD_join, lvD_join]; exact h.num
/-- no part is wanted -/
theorem s_nil_ok {s : Sn} {T : List D} {es : Fl} : SOk s [] T es (if T.isEmpty = true then [es] else []) := by
  refine ⟨fun fs hfs => ?_, fun f hag _ hp => ?_, ?_⟩
  · split at hfs
    · rename_i c
      have c : T = [] := by simpa using c
      rw [List.mem_singleton.mp hfs]
      exact ⟨fun _ _ e => e, fun i => by simp, fun i v e => .inl e, fun f _ => by rw [c]; exact .refl _, by simp [lvDs]⟩
    · cases hfs
  · have : T = [] := by simpa [rowOf] using hp
    rw [if_pos (by rw [this]; rfl)]
    exact ⟨es, List.mem_singleton.mpr rfl, hag⟩
  · split
    · rename_i c
      have c : T = [] := by simpa using c
      subst c; simp [lvDs]
    · simp
end DL

set_option Elab.async false
set_option linter.all false
set_option maxRecDepth 100000
/-! H3: the run of picks. -/
namespace DL
open PySem L2
section
variable {GL : Str → Option D} {C : Orc} {L : Nat}
/-- a comprehension -/
theorem lc_run {α : Type} {elt it cond : E} {i : Nat} {fz : List Nat} {g g1 : Sg} {d : D} {m : Md} (e : α → D) (p : α → Bool) (h : α → D) (l : List α) (hit : ev GL C it (freeze fz g) = .ok (d, m) g1) (hm : m ≠ .on) (hd : itemsD d = some (l.map e))
    (hb : ∀ a ∈ l, ∃ g2, iff_ cond (ev GL C cond ((hide g1).set i (some (e a, .fr)))) ((hide g1).set i (some (e a, .fr))) = .ok (p a) g2 ∧ (p a = true → ∃ m3 g3, m3 ≠ Md.on ∧ ev GL C elt g2 = .ok (h a, m3) g3)) (hz : l.length ≤ sizeLine) :
    ev GL C (.lc elt i it cond fz) g = .ok (.list ((l.filter p).map h), .ow) g1 := by
  rw [ev, hit]
  simp only [bd_ok, hm, if_false, hd]
  have : ∀ l' : List α, (∀ a ∈ l', a ∈ l) → lcGo (fun d => (iff_ cond (ev GL C cond ((hide g1).set i (some (d, .fr)))) ((hide g1).set i (some (d, .fr)))).bd fun c g => if c = true then (ev GL C elt g).bd fun p g => if p.2 = .on then .stuck else .ok (some p.1) g else .ok none g) (l'.map e) = some ((l'.filter p).map h) := by
    intro l'
    induction l' with
    | nil => intro _; rfl
    | cons a l' ih =>
      intro hl
      obtain ⟨g2, e1, e2⟩ := hb a (hl a List.mem_cons_self)
      have ih' := ih fun b hb => hl b (List.mem_cons_of_mem _ hb)
      rw [List.map_cons, lcGo, e1]
      cases c : p a with
      | true =>
        obtain ⟨m3, g3, hm3, e3⟩ := e2 c
        simp only [bd_ok, if_true, e3, hm3, if_false, ih', List.filter_cons, c, Option.map_some, List.map_cons]
      | false =>
        simp only [bd_ok, Bool.false_eq_true, if_false, ih', List.filter_cons, c]
  rw [this l fun a ha => ha]
  have hz2 : ((l.filter p).map h).length ≤ sizeLine := by
    rw [List.length_map]; exact Nat.le_trans (List.length_filter_le _ _) hz
  simp only [hz2, if_true]
theorem lc_run0 {α : Type} {elt it : E} {i : Nat} {fz : List Nat} {g g1 : Sg} {d : D} {m : Md} (e : α → D) (h : α → D) (l : List α) (hit : ev GL C it (freeze fz g) = .ok (d, m) g1) (hm : m ≠ .on) (hd : itemsD d = some (l.map e))
    (hb : ∀ a ∈ l, ∃ m3 g3, m3 ≠ Md.on ∧ ev GL C elt ((hide g1).set i (some (e a, .fr))) = .ok (h a, m3) g3) (hz : l.length ≤ sizeLine) :
    ev GL C (.lc elt i it .nil fz) g = .ok (.list (l.map h), .ow) g1 := by
  have := lc_run (GL := GL) (C := C) (elt := elt) (cond := .nil) (i := i) e (fun _ => true) h l hit hm hd (fun a ha => ⟨_, rfl, fun _ => hb a ha⟩) hz
  rw [List.filter_eq_self.mpr (fun _ _ => rfl)] at this
  exact this
theorem call2_run {f : Str} {a b : E} {g g1 g2 : Sg} {d1 d2 d : D} {m1 m2 m : Md} (ha : ev GL C a g = .ok (d1, m1) g1) (hb : ev GL C b g1 = .ok (d2, m2) g2) (h1 : m1 ≠ .on) (h2 : m2 ≠ .on) (hC : C f [d1, d2] = .ok d m) (hm : m ≠ .on) :
    ev GL C (.call f (.cons a (.cons b .nil))) g = .ok (d, m) g2 := by
  rw [ev, evs, ha]
  simp only [bd_ok, h1, if_false]
  rw [evs, hb]
  simp only [bd_ok, h2, if_false]
  rw [evs]
  simp only [bd_ok, hC, hm, if_false]
theorem call3_run {f : Str} {a b c : E} {g g1 g2 g3 : Sg} {d1 d2 d3 d : D} {m1 m2 m3 m : Md} (ha : ev GL C a g = .ok (d1, m1) g1) (hb : ev GL C b g1 = .ok (d2, m2) g2) (hc : ev GL C c g2 = .ok (d3, m3) g3) (h1 : m1 ≠ .on) (h2 : m2 ≠ .on) (h3 : m3 ≠ .on) (hC : C f [d1, d2, d3] = .ok d m) (hm : m ≠ .on) :
    ev GL C (.call f (.cons a (.cons b (.cons c .nil)))) g = .ok (d, m) g3 := by
  rw [ev, evs, ha]
  simp only [bd_ok, h1, if_false]
  rw [evs, hb]
  simp only [bd_ok, h2, if_false]
  rw [evs, hc]
  simp only [bd_ok, h3, if_false]
  rw [evs]
  simp only [bd_ok, hC, hm, if_false]
theorem call1_run {f : Str} {a : E} {g g1 : Sg} {d1 d : D} {m1 m : Md} (ha : ev GL C a g = .ok (d1, m1) g1) (h1 : m1 ≠ .on) (hC : C f [d1] = .ok d m) (hm : m ≠ .on) :
    ev GL C (.call f (.cons a .nil)) g = .ok (d, m) g1 := by
  rw [ev, evs, ha]
  simp only [bd_ok, h1, if_false]
  rw [evs]
  simp only [bd_ok, hC, hm, if_false]
theorem Runs.body {s : S} {g g' : Sg} (h : Runs GL C L s g fun x => x = .ok .next g') : DL.ex GL C L s g = .ok .next g' := h
end
def rowD (r : List Nat) : D := .list (r.map fun (i : Nat) => .int (i : Int))
theorem shaped_int (i : Int) : SeqAt.shaped (.int i) = true := by simp [SeqAt.shaped, PyData.canLay0, PyData.depth]
theorem depth_ints : ∀ r : List Nat, PyData.depthAll (r.map fun (i : Nat) => PyData.int (i : Int)) = 0
  | [] => by simp [PyData.depthAll]
  | i :: r => by simp [PyData.depthAll, PyData.depth, depth_ints r]
theorem shaped_row (r : List Nat) : SeqAt.shaped (rowD r) = true := by
  simp [SeqAt.shaped, rowD, PyData.canLay0, PyData.depth, depth_ints, layAll_map (f := fun (i : Nat) => PyData.int (i : Int)) (fun _ => by simp [PyData.canLay0])]
theorem nin_row (i : Nat) (r : List Nat) (m : Md) : cmpD .nin (.int (i : Int)) (rowD r) m = some (!r.contains i) := by
  have h1 := shaped_int (i : Int)
  have h2 := shaped_row r
  have e : cmpD .nin (.int (i : Int)) (rowD r) m = (if (SeqAt.shaped (.int (i : Int)) && SeqAt.shaped (rowD r)) = true then some ((r.map fun (i : Nat) => PyData.int (i : Int)).any fun z => PyData.eqv z (.int (i : Int))) else none).map (!·) := rfl
  rw [e, h1, h2]
  simp only [Bool.and_self, if_true, Option.map_some, Option.some.injEq]
  congr 1
  induction r with
  | nil => rfl
  | cons j r ih =>
    have ih := ih (shaped_row r) rfl
    simp only [List.map_cons, List.any_cons, List.contains_cons, ih]
    congr 1
    rw [eqv_int, Bool.eq_iff_iff]
    simp
    omega
structure Lib3m (T : Str → Option Fd) : Prop where
  picks : T (Str.ofString "picks") = some ⟨2, 7, b_picks, 0⟩
  shared : T (Str.ofString "shared") = some ⟨4, 12, b_shared, 0⟩
  matched : T (Str.ofString "matched") = some ⟨3, 5, b_matched, 0⟩
section
variable {GL : Str → Option D} {T : Str → Option Fd} {L : Nat}
theorem r_picks (l : Lib3m T) (m : Int) (n : Nat) (hn : n ≤ 20) : Calls GL T L 1 (Str.ofString "picks") [.int (n : Int), .int m] (.ok (.list ((pk m n).map rowD)) .ow) := by
  intro q hq
  obtain ⟨q, rfl⟩ : ∃ m, q = m + 1 := ⟨q - 1, by omega⟩
  refine call_runs l.picks rfl ?_
  unfold b_picks
  simp only [startG_def]
  refine .set (p := (.list [], .ow)) (by simp; rfl) ?_
  refine .set (p := (.list [.list []], .ow)) (by simp; rfl) ?_
  have hr : rngOk (n : Int) = true := rngOk_small (by omega) (by omega)
  refine .for_ (ds := rangeD 0 (n : Int)) (g1 := [some (.int (n : Int), .fr), some (.int m, .fr), some (.list [], .ow), some (.list [.list []], .ow), none, none, none]) (m := .fr) (d := .list (rangeD 0 (n : Int)))
    (fun i g => ∃ z4 z5 z6 : Sl, g = [some (.int (n : Int), .fr), some (.int m, .fr), some (.list ((pk m i).map rowD), .ow), some (.list ((pkRows m i).map rowD), .ow), z4, z5, z6]) (by simp [hr]) (by decide) rfl ⟨none, none, none, rfl⟩ ?_ ?_
  · rintro i d g hi ⟨z4, z5, z6, rfl⟩
    obtain ⟨hlt, rfl⟩ := range_item hi
    have h20 : (2 : Nat) ^ i ≤ 2 ^ 20 := Nat.pow_le_pow_right (by decide) (by omega)
    have e20 : (2 : Nat) ^ 20 = 1048576 := by decide
    have k1 := pkRows_num m i
    have k2 : (pk m i).length ≤ (pkRows m i).length := by rw [pkRows_cons m i]; simp
    let lg := ((pkRows m i).filter fun r => decide ((r.length : Int) < m)).map fun r => rowD (r ++ [i])
    have k3 : lg.length ≤ (pkRows m i).length := by
      show (List.map _ _).length ≤ _
      rw [List.length_map]; exact List.length_filter_le _ _
    have e1 : (pk m i).map rowD ++ lg = (pk m (i + 1)).map rowD := by
      rw [pk_succ, List.map_append, List.map_map]; rfl
    have e2 : (pkRows m i).map rowD ++ lg = (pkRows m (i + 1)).map rowD := by
      rw [pkRows, List.map_append, List.map_map]; rfl
    have hlen : (pkRows m i).length ≤ 1048576 := by omega
    have hlg : lg.length ≤ 1048576 := by omega
    have hpk : (pk m i).length ≤ 1048576 := by omega
    refine ⟨[some (.int (n : Int), .fr), some (.int m, .fr), some (.list ((pk m (i + 1)).map rowD), .ow), some (.list ((pkRows m (i + 1)).map rowD), .ow), some (.int (i : Int), .fr), some (.list lg, .fr), z6], ?_, _, _, _, rfl⟩
    have hz1 : (pk m i).length + lg.length ≤ 16777216 := by omega
    have hz2 : (pkRows m i).length + lg.length ≤ 16777216 := by omega
    refine Runs.body ?_
    simp only [List.set_cons_zero, List.set_cons_succ]
    refine .set (p := (.list lg, .ow)) (g1 := [some (.int (n : Int), .fr), some (.int m, .fr), some (.list ((pk m i).map rowD), .ow), some (.list ((pkRows m i).map rowD), .fr), some (.int (i : Int), .fr), z5, z6]) ?_ ?_
    · refine (lc_run (m := .fr) (d := .list ((pkRows m i).map rowD)) rowD (fun r => decide ((r.length : Int) < m)) (fun r => rowD (r ++ [i])) (pkRows m i) (by simp) (by decide) rfl (fun r hr => ?_) (by rw [sizeLine_eq]; omega)).trans rfl
      have hs := pkRows_size hr
      have hz : r.length + 1 ≤ 16777216 := by omega
      refine ⟨_, by simp [rowD]; rfl, fun _ => ⟨.ow, [some (.int (n : Int), .fr), some (.int m, .fr), none, some (.list ((pkRows m i).map rowD), .fr), some (.int (i : Int), .fr), hide1 z5, some (rowD r, .fr)], by decide, ?_⟩⟩
      simp [rowD, hz]
    · simp only [List.set_cons_zero, List.set_cons_succ]
      rw [← e1, ← e2]
      refine .ex (p := (.none, .fr)) (g1 := [some (.int (n : Int), .fr), some (.int m, .fr), some (.list ((pk m i).map rowD ++ lg), .ow), some (.list ((pkRows m i).map rowD), .fr), some (.int (i : Int), .fr), some (.list lg, .fr), z6]) (by simp [hz1]) ?_
      refine .set (p := (.list ((pkRows m i).map rowD ++ lg), .ow)) (g1 := [some (.int (n : Int), .fr), some (.int m, .fr), some (.list ((pk m i).map rowD ++ lg), .ow), some (.list ((pkRows m i).map rowD), .fr), some (.int (i : Int), .fr), some (.list lg, .fr), z6]) (by simp [hz2]) ?_
      exact .nil rfl
  · rintro g ⟨z4, z5, z6, rfl⟩
    have e : (rangeD 0 (n : Int)).length = n := by rw [range_get]; simp
    rw [e]
    exact .ret (d := .list ((pk m n).map rowD)) (m := .ow) (by simp; rfl) rfl
end
end DL

set_option Elab.async false
set_option linter.all false
set_option maxRecDepth 100000
/-! H4: the runs of matched, shared. -/
namespace DL
open PySem L2

theorem join_parts {s : Sn} (hs : s ≠ .pair) {d : D} (h : CF d) : joinR s.s (partsD s.s d) = d := by
  have self : ∀ {y : Str} {ys : List D}, y ≠ s.s → joinR s.s (partsD s.s (.tuple (.str y :: ys))) = .tuple (.str y :: ys) := fun hy => by rw [partsD_word, if_neg hy]; rfl
  cases h with
  | leaf o i ok => exact self kS_sn
  | pair ha hb => exact self fun e => hs (Sn.inj (s := .pair) (s' := s) e).symm
  | @join s' xs hs' h2 hc u hp =>
    by_cases c : s'.s = s.s
    · have := Sn.inj c
      subst this
      rw [partsD_word, if_pos rfl]
      exact joinR_id ⟨hc, hp⟩ u (by omega)
    · exact self c
theorem part_join {s : Sn} (hs : s ≠ .pair) {U : List D} {v : D} (hr : Row s U) (u : Up U) (hU : U ≠ []) (h : Part (joinR s.s U) v) : PartS s U v := by
  by_cases e : U.length = 1
  · match U, e with
    | [x], _ => exact .inl ⟨x, by simp, h⟩
  · rw [joinR_id hr u e] at h
    generalize q : (PyData.tuple (.str s.s :: U)) = d at h
    cases h with
    | self => exact .inr ⟨U, List.Sublist.refl _, hU, by rw [← q, joinR_id hr u e]⟩
    | fst h =>
      simp only [PyData.tuple.injEq, List.cons.injEq, PyData.str.injEq] at q
      exact absurd (Sn.inj (s' := .pair) q.1) hs
    | snd h =>
      simp only [PyData.tuple.injEq, List.cons.injEq, PyData.str.injEq] at q
      exact absurd (Sn.inj (s' := .pair) q.1) hs
    | @memb s' xs x v hs' hx h =>
      simp only [PyData.tuple.injEq, List.cons.injEq, PyData.str.injEq] at q
      obtain ⟨_, rfl⟩ := q
      exact .inl ⟨x, hx, h⟩
    | @some s' xs ys hs' h1 h2 =>
      simp only [PyData.tuple.injEq, List.cons.injEq, PyData.str.injEq] at q
      obtain ⟨q1, rfl⟩ := q
      have := Sn.inj q1
      subst this
      exact .inr ⟨ys, h1, h2, rfl⟩
/-- one of the wanted parts, then the others -/
theorem s_step {s : Sn} (hs : s ≠ .pair) {w : D} {ws T A B : List D} {es m fs : Fl} (hA : Row s A) (uA : Up A) (hA0 : A ≠ []) (pT : (A ++ B).Perm T) (sA : A.Sublist T) (sB : B.Sublist T) (h1 : MS w (joinR s.s A) es m) (h2 : SS s ws B m fs) : SS s (w :: ws) T es fs := by
  refine ⟨fun i v e => h2.ext i v (h1.ext i v e), fun i => ?_, fun i v e => ?_, fun f hag => ?_, ?_⟩
  · rw [h2.has, h1.has]
    constructor
    · rintro ((h | h) | ⟨x, hx, h⟩)
      · exact .inl h
      · exact .inr ⟨w, List.mem_cons_self, h⟩
      · exact .inr ⟨x, List.mem_cons_of_mem _ hx, h⟩
    · rintro (h | ⟨x, hx, h⟩)
      · exact .inl (.inl h)
      · rcases List.mem_cons.mp hx with rfl | hx
        · exact .inl (.inr h)
        · exact .inr ⟨x, hx, h⟩
  · rcases h2.new i v e with e | e
    · rcases h1.new i v e with e | e
      · exact .inl e
      · exact .inr ((part_join hs hA uA hA0 e).mono sA)
    · exact .inr (e.mono sB)
  · have e1 := h1.put f (agree_ext hag h2.ext)
    have e2 := h2.put f hag
    show (partsD s.s (putD f w) ++ rowOf s f ws).Perm T
    rw [e1]
    exact ((hA.parts hs).append e2).trans pT
  · have := h1.len; have := h2.len
    simp only [lvDs]; omega
/-- what the loop of shared keeps -/
structure LI (s : Sn) (w : D) (ws T : List D) (es : Fl) (rs : List (List Nat)) (j : Nat) (ffs : List Fl) (tr : Fl) : Prop where
  sound : ∀ fs ∈ ffs, SS s (w :: ws) T es fs
  comp : ∀ r ∈ rs.take j, ∀ f, Agree es f → (∀ x ∈ w :: ws, ∀ i, (true, i) ∈ lsD x → CF (f i)) → putD f w = joinR s.s (sel T .none r) → (rowOf s f ws).Perm (oth T .none T.length r) → ∃ fs ∈ ffs, Agree fs f
  keys : ∀ r ∈ rs.take j, hasKey tr (joinR s.s (sel T .none r)) = true
  from_ : ∀ d, keyOk d = true → hasKey tr d = true → ∃ r ∈ rs.take j, joinR s.s (sel T .none r) = d
  num : ffs.length ≤ ((rs.take j).map fun r => lvD w ^ lvDs (sel T .none r) * lvDs ws ^ lvDs (oth T .none T.length r)).sum
  trl : tr.length ≤ j
  kok : ∀ p ∈ tr, keyOk p.1 = true
theorem hasKey_snoc {tr : Fl} {k v d : D} : hasKey (tr ++ [(k, v)]) d = (hasKey tr d || PyData.eqv k d) := by
  simp [hasKey]
section
variable {s : Sn} {T : List D}
/-- what a choice is -/
structure SplOk (s : Sn) (T : List D) (r : List Nat) : Prop where
  ne : sel T .none r ≠ []
  sA : (sel T .none r).Sublist T
  sB : (oth T .none T.length r).Sublist T
  p : (sel T .none r ++ oth T .none T.length r).Perm T
theorem splOk {m : Int} {r : List Nat} (h : r ∈ pk m T.length) : SplOk s T r := by
  obtain ⟨h1, h2⟩ := pk_ne h
  obtain ⟨a, b, c⟩ := split_sub (T := T) (x0 := .none) (Nat.le_refl _) h2
  rw [List.take_length] at a b c
  refine ⟨?_, a, b, c⟩
  intro e
  simp [sel] at e
  exact h1 e
theorem SplOk.rowA {r : List Nat} (h : SplOk s T r) (hT : Row s T) : Row s (sel T .none r) := hT.sub fun x hx => h.sA.subset hx
theorem SplOk.rowB {r : List Nat} (h : SplOk s T r) (hT : Row s T) : Row s (oth T .none T.length r) := hT.sub fun x hx => h.sB.subset hx
theorem up_sub {A B : List D} (h : A.Sublist B) (u : Up B) : Up A := u.sublist h
end
theorem sum_take_le (l : List (List Nat)) (f : List Nat → Nat) (j : Nat) : ((l.take j).map f).sum ≤ (l.map f).sum := by
  conv => rhs; rw [← List.take_append_drop j l]
  rw [List.map_append, List.sum_append]
  omega
theorem sum_take_succ (l : List (List Nat)) (f : List Nat → Nat) {j : Nat} {r : List Nat} (h : l[j]? = some r) : ((l.take (j + 1)).map f).sum = ((l.take j).map f).sum + f r := by
  have hj := (List.getElem?_eq_some_iff.mp h).1
  have he := (List.getElem?_eq_some_iff.mp h).2
  rw [List.take_succ_eq_append_getElem hj, List.map_append, List.sum_append, he]
  simp
theorem mem_take_succ {α : Type} {l : List α} {j : Nat} {x y : α} (h : l[j]? = some x) : y ∈ l.take (j + 1) ↔ y ∈ l.take j ∨ y = x := by
  have hj := (List.getElem?_eq_some_iff.mp h).1
  have he := (List.getElem?_eq_some_iff.mp h).2
  rw [List.take_succ_eq_append_getElem hj, List.mem_append, he]
  simp
/-- a choice that was tried already -/
theorem li_old {s : Sn} (hs : s ≠ .pair) {w : D} {ws T : List D} {es : Fl} {m : Int} {j : Nat} {ffs : List Fl} {tr : Fl} {r : List Nat} (hT : Row s T) (li : LI s w ws T es (pk m T.length) j ffs tr) (hr : (pk m T.length)[j]? = some r) (hk : keyOk (joinR s.s (sel T .none r)) = true) (h : hasKey tr (joinR s.s (sel T .none r)) = true) :
    LI s w ws T es (pk m T.length) (j + 1) ffs tr := by
  obtain ⟨r2, hr2, e2⟩ := li.from_ _ hk h
  have o1 : SplOk s T r := splOk (List.mem_of_getElem? hr)
  have o2 : SplOk s T r2 := splOk (List.mem_of_mem_take hr2)
  refine ⟨li.sound, fun q hq f h1 h2 h3 h4 => ?_, fun q hq => ?_, fun d hd hh => ?_, ?_, Nat.le_succ_of_le li.trl, li.kok⟩
  · rcases (mem_take_succ hr).mp hq with hq | rfl
    · exact li.comp q hq f h1 h2 h3 h4
    · have pA : (sel T .none r2).Perm (sel T .none q) := by
        have a1 := (o2.rowA hT).parts hs
        have a2 := (o1.rowA hT).parts hs
        rw [e2] at a1
        exact a1.symm.trans a2
      have pB : (oth T .none T.length r2).Perm (oth T .none T.length q) := by
        have := o2.p.trans o1.p.symm
        exact (List.perm_append_left_iff _).mp ((pA.symm.append_right _).trans this)
      exact li.comp r2 hr2 f h1 h2 (by rw [h3, e2]) (h4.trans pB.symm)
  · rcases (mem_take_succ hr).mp hq with hq | rfl
    · exact li.keys q hq
    · exact h
  · obtain ⟨q, hq, e⟩ := li.from_ d hd hh
    exact ⟨q, (mem_take_succ hr).mpr (.inl hq), e⟩
  · rw [sum_take_succ _ _ hr]
    have := li.num
    omega
theorem li_new {s : Sn} (hs : s ≠ .pair) {w : D} {ws T : List D} {es : Fl} {m : Int} {j : Nat} {ffs : List Fl} {tr : Fl} {r : List Nat} {ms : List Fl} {rf : Fl → List Fl} {v : D} (hT : Row s T) (u : Up T) (li : LI s w ws T es (pk m T.length) j ffs tr) (hr : (pk m T.length)[j]? = some r)
    (hk : keyOk (joinR s.s (sel T .none r)) = true) (h1 : MOk w (joinR s.s (sel T .none r)) es ms) (h2 : ∀ mm ∈ ms, SOk s ws (oth T .none T.length r) mm (rf mm)) : LI s w ws T es (pk m T.length) (j + 1) (ffs ++ ms.flatMap rf) (tr ++ [(joinR s.s (sel T .none r), v)]) := by
  have o : SplOk s T r := splOk (List.mem_of_getElem? hr)
  refine ⟨fun fs hfs => ?_, fun q hq f g1 g2 g3 g4 => ?_, fun q hq => ?_, fun d hd hh => ?_, ?_, by have := li.trl; simp; omega, fun p hp => ?_⟩
  · rcases List.mem_append.mp hfs with hfs | hfs
    · exact li.sound fs hfs
    · obtain ⟨mm, hmm, hfs⟩ := List.mem_flatMap.mp hfs
      exact s_step hs (o.rowA hT) (up_sub o.sA u) o.ne o.p o.sA o.sB (h1.sound mm hmm) ((h2 mm hmm).sound fs hfs)
  · rcases (mem_take_succ hr).mp hq with hq | rfl
    · obtain ⟨fs, hfs, ha⟩ := li.comp q hq f g1 g2 g3 g4
      exact ⟨fs, List.mem_append_left _ hfs, ha⟩
    · obtain ⟨mm, hmm, ha⟩ := h1.comp f g1 (g2 w List.mem_cons_self) g3
      obtain ⟨fs, hfs, ha2⟩ := (h2 mm hmm).comp f ha (fun x hx => g2 x (List.mem_cons_of_mem _ hx)) g4
      exact ⟨fs, List.mem_append_right _ (List.mem_flatMap.mpr ⟨mm, hmm, hfs⟩), ha2⟩
  · rw [hasKey_snoc]
    rcases (mem_take_succ hr).mp hq with hq | rfl
    · rw [li.keys q hq]; rfl
    · rw [(eqv_plain _ _ hk hk).mpr rfl]; simp
  · rw [hasKey_snoc, Bool.or_eq_true] at hh
    rcases hh with hh | hh
    · obtain ⟨q, hq, e⟩ := li.from_ d hd hh
      exact ⟨q, (mem_take_succ hr).mpr (.inl hq), e⟩
    · exact ⟨r, (mem_take_succ hr).mpr (.inr rfl), (eqv_plain _ _ hk hd).mp hh⟩
  · rw [sum_take_succ _ _ hr, List.length_append]
    have a := li.num
    have b := flat_len (f := rf) (l := ms) fun mm hmm => (h2 mm hmm).num
    have c : ms.length * lvDs ws ^ lvDs (oth T .none T.length r) ≤ lvD w ^ lvDs (sel T .none r) * lvDs ws ^ lvDs (oth T .none T.length r) := by
      refine Nat.mul_le_mul_right _ ?_
      have := h1.num
      rwa [((o.rowA hT).cfJ hs o.ne).2] at this
    omega
  · rcases List.mem_append.mp hp with hp | hp
    · exact li.kok p hp
    · rw [List.mem_singleton.mp hp]; exact hk
def isOpen (w : D) : Bool := match w with
  | .tuple (.str x :: _) => decide (x = Str.ofString "open")
  | _ => false
def mostOf (w : D) (ws T : List D) : Int := if isOpen w = true then (T.length : Int) - ((w :: ws).length : Int) + 1 else 1
theorem li_done {s : Sn} (hs : s ≠ .pair) {w : D} {ws T : List D} {es : Fl} {ffs : List Fl} {tr : Fl} (hW : Row s (w :: ws)) (hT : Row s T) (li : LI s w ws T es (pk (mostOf w ws T) T.length) (pk (mostOf w ws T) T.length).length ffs tr) : SOk s (w :: ws) T es ffs := by
  refine ⟨li.sound, fun f h1 h2 hp => ?_, ?_⟩
  · have cw : CF (putD f w) := put_cf f (hW.cf w List.mem_cons_self) (h2 w List.mem_cons_self)
    have cws : ∀ d ∈ ws.map (putD f), CF d := fun d hd => by
      obtain ⟨x, hx, rfl⟩ := List.mem_map.mp hd
      exact put_cf f (hW.cf x (List.mem_cons_of_mem _ hx)) (h2 x (List.mem_cons_of_mem _ hx))
    have hB := flat_pos (s := s.s) cws
    rw [List.length_map, List.flatMap_map] at hB
    have hp' : (partsD s.s (putD f w) ++ rowOf s f ws).Perm T := hp
    have hlen := hp'.length_eq
    rw [List.length_append] at hlen
    have hB' : ws.length ≤ (rowOf s f ws).length := hB
    have hA1 := parts_pos (s := s.s) cw
    have hm : ((partsD s.s (putD f w)).length : Int) ≤ mostOf w ws T := by
      unfold mostOf
      split
      · simp only [List.length_cons]; omega
      · rename_i ho
        have : partsD s.s (putD f w) = [putD f w] := by
          have hpt := hW.pt w List.mem_cons_self
          have hcw := hW.cf w List.mem_cons_self
          cases hcw with
          | leaf o i ok =>
            cases o with
            | true => simp [isOpen, kS] at ho
            | false => rw [putD_leaf]; exact hpt
          | pair ha hb =>
            rw [putD_pair, partsD_word, if_neg]
            intro e; exact hs (Sn.inj (s := .pair) (s' := s) e).symm
          | @join s' xs hs' k2 kc ku kp =>
            have hne : s'.s ≠ s.s := fun e => by
              rw [partsD_word, if_pos e] at hpt
              rw [hpt] at k2; simp at k2
            have cx : ∀ d ∈ xs.map (putD f), CF d := fun d hd => by
              obtain ⟨x, hx, rfl⟩ := List.mem_map.mp hd
              exact put_cf f (kc x hx) fun i hi => h2 _ List.mem_cons_self i (by rw [lsD_join k2]; exact List.mem_flatMap.mpr ⟨x, hx, hi⟩)
            have hl := flat_pos (s := s'.s) cx
            rw [List.length_map] at hl
            rw [putD_join f hs']
            unfold joinD
            rw [joinR_more _ (by omega), partsD_word, if_neg hne]
        rw [this]; simp
    obtain ⟨r, r1, r2, r3, r4⟩ := @split_all D T .none (Classical.typeDecidableEq D) _ T.length (partsD s.s (putD f w)) (rowOf s f ws) (Nat.le_refl _) (by rw [List.take_length]; exact hp') hm
    have hr : r ∈ pk (mostOf w ws T) T.length := pk_of r1 fun e => by rw [e] at r2; simp at r2; omega
    have o : SplOk s T r := splOk hr
    refine li.comp r (by rw [List.take_length]; exact hr) f h1 h2 ?_ r4.symm
    rw [joinR_perm (fun x hx => ((o.rowA hT).cf x hx).isF) r3]
    exact (join_parts hs cw).symm
  · have a := li.num
    rw [List.take_length] at a
    have b := split_sum (T := T) (x0 := .none) (m := mostOf w ws T) (a := lvD w) (b := lvDs ws) (n := T.length) (Nat.le_refl _) fun x hx => lv_pos (hT.cf x hx)
    rw [List.take_length, pkRows_cons, List.map_cons, List.sum_cons] at b
    show ffs.length ≤ (lvD w + lvDs ws) ^ lvDs T
    omega
end DL

set_option Elab.async false
set_option linter.all false
set_option maxRecDepth 100000
/-! H5: shared and matched run. -/
namespace DL
open PySem L2
def flD (fs : Fl) : D := .dict fs
theorem layL_of {xs : List D} (h : ∀ x ∈ xs, CF x) : PyData.canLayAll0 xs = true := layAll_of fun x hx => (h x hx).isF.lay
theorem tup_key {d : D} (h : CF d) (hd : d.depth ≤ 8) : tupKey d = true := by
  obtain ⟨x, xs, e⟩ := h.isF.str
  have h1 := h.isF.plain
  have h2 := h.isF.lay
  unfold tupKey
  subst e
  simp [h1, h2, hd]
section
variable {GL : Str → Option D} {T0 : Str → Option Fd} {L : Nat}
/-- what matched does with a pattern's form -/
def MP (GL : Str → Option D) (T0 : Str → Option Fd) (L : Nat) (one : D) : Prop := ∀ (whole : D) (es : Fl), CF whole → whole.depth ≤ 8 → FlOk es → es.length + lvD one ≤ 1000 → lvD whole ≤ 20 → lvD one ^ lvD whole ≤ 1000000 →
  ∃ ffs : List Fl, Calls GL T0 L (wt one + 3) (Str.ofString "matched") [one, whole, .dict es] (.ok (.list (ffs.map flD)) .ow) ∧ MOk one whole es ffs
theorem fl_of {one whole : D} {es m : Fl} (h : FlOk es) (cw : CF whole) (s : MS one whole es m) : FlOk m := fun i v e => by
  rcases s.new i v e with e | e
  · exact h i v e
  · exact (part_ok e cw).cf
theorem pow_mono {a b c d : Nat} (h1 : a ≤ c) (h2 : b ≤ d) (h : c ^ d ≤ 1000000) (hc : 1 ≤ c) : a ^ b ≤ 1000000 := Nat.le_trans (pow_le h1 h2 hc) h
theorem r_shared (l5 : Lib5 T0) (l : Lib3m T0) {s : Sn} (hs : s ≠ .pair) : ∀ (ws : List D), (∀ w ∈ ws, MP GL T0 L w) → Row s ws → ∀ (T : List D) (es : Fl), Row s T → Up T → (∀ x ∈ T, x.depth ≤ 7) → FlOk es → es.length + lvDs ws ≤ 1000 → lvDs T ≤ 20 → lvDs ws ^ lvDs T ≤ 1000000 →
    ∃ ffs : List Fl, Calls GL T0 L (wts ws + 4) (Str.ofString "shared") [.str s.s, .list ws, .list T, .dict es] (.ok (.list (ffs.map flD)) .ow) ∧ SOk s ws T es ffs
  | [], _, _, T, es, hT, u, hd, hf, hl, h20, hn => by
    refine ⟨if T.isEmpty = true then [es] else [], fun q hq => ?_, s_nil_ok⟩
    obtain ⟨q, rfl⟩ : ∃ m, q = m + 1 := ⟨q - 1, by omega⟩
    refine call_runs l.shared rfl ?_
    unfold b_shared
    simp only [startG_def]
    refine .ifT (by simp [eqv_nil]; exact ⟨rfl, rfl⟩) (.as ?_)
    have h1 := eqOk_nil (layL_of hT.cf)
    refine .ret (d := .list ((if T.isEmpty = true then [es] else []).map flD)) (m := .ow) (g1 := [some (.str s.s, .fr), some (.list [], .fr), some (.list T, .fr), some (.dict es, .fr), none, none, none, none, none, none, none, none]) ?_ rfl
    cases c : T.isEmpty with
    | true => simp [h1, eqv_nil, c, flD]
    | false => simp [h1, eqv_nil, c]
  | w :: ws, hM, hW, T, es, hT, u, hd, hf, hl, h20, hn => by
    have cw := hW.cf w List.mem_cons_self
    have lw := lv_pos cw
    have hWs : Row s ws := hW.sub fun x hx => List.mem_cons_of_mem _ hx
    simp only [lvDs] at hl hn
    have hpos : 1 ≤ lvD w + lvDs ws := by omega
    have hTl : T.length ≤ lvDs T := lvDs_len2 T fun x hx => lv_pos (hT.cf x hx)
    have IH := r_shared l5 l hs ws (fun x hx => hM x (List.mem_cons_of_mem _ hx)) hWs
    obtain ⟨x0, xs0, ew, hx0⟩ := cw.isF.word
    -- what each choice comes to
    have cfT : ∀ r ∈ pk (mostOf w ws T) T.length, SplOk s T r ∧ CF (joinR s.s (sel T .none r)) ∧ lvD (joinR s.s (sel T .none r)) = lvDs (sel T .none r) ∧ (joinR s.s (sel T .none r)).depth ≤ 8 ∧ lvDs (sel T .none r) ≤ lvDs T ∧ lvDs (oth T .none T.length r) ≤ lvDs T := fun r hr => by
      have o : SplOk s T r := splOk hr
      obtain ⟨c1, c2⟩ := (o.rowA hT).cfJ hs o.ne
      exact ⟨o, c1, c2, joinR_depth fun x hx => hd x (o.sA.subset hx), lvDs_sub o.sA, lvDs_sub o.sB⟩
    have mex : ∀ r, ∃ ms : List Fl, r ∈ pk (mostOf w ws T) T.length → Calls GL T0 L (wt w + 3) (Str.ofString "matched") [w, joinR s.s (sel T .none r), .dict es] (.ok (.list (ms.map flD)) .ow) ∧ MOk w (joinR s.s (sel T .none r)) es ms := fun r => by
      by_cases hr : r ∈ pk (mostOf w ws T) T.length
      · obtain ⟨o, c1, c2, c3, c4, c5⟩ := cfT r hr
        obtain ⟨ms, h1, h2⟩ := hM w List.mem_cons_self _ es c1 c3 hf (by omega) (by omega) (pow_mono (by omega) (by omega) hn hpos)
        exact ⟨ms, fun _ => ⟨h1, h2⟩⟩
      · exact ⟨[], fun h => absurd h hr⟩
    obtain ⟨mF, hmF⟩ := Classical.skolem.mp mex
    have sex : ∀ p : List Nat × Fl, ∃ rs : List Fl, p.1 ∈ pk (mostOf w ws T) T.length → p.2 ∈ mF p.1 → Calls GL T0 L (wts ws + 4) (Str.ofString "shared") [.str s.s, .list ws, .list (oth T .none T.length p.1), .dict p.2] (.ok (.list (rs.map flD)) .ow) ∧ SOk s ws (oth T .none T.length p.1) p.2 rs := fun p => by
      by_cases hr : p.1 ∈ pk (mostOf w ws T) T.length
      · by_cases hm : p.2 ∈ mF p.1
        · obtain ⟨o, c1, c2, c3, c4, c5⟩ := cfT p.1 hr
          have ms := (hmF p.1 hr).2.sound p.2 hm
          have hlen := ms.len
          obtain ⟨rs, h1, h2⟩ := IH (oth T .none T.length p.1) p.2 (o.rowB hT) (up_sub o.sB u) (fun x hx => hd x (o.sB.subset hx)) (fl_of hf c1 ms) (by omega) (by omega) (pow_mono (by omega) (by omega) hn hpos)
          exact ⟨rs, fun _ _ => ⟨h1, h2⟩⟩
        · exact ⟨[], fun _ h => absurd h hm⟩
      · exact ⟨[], fun h => absurd h hr⟩
    obtain ⟨sF, hsF⟩ := Classical.skolem.mp sex
    have total := split_sum (T := T) (x0 := .none) (m := mostOf w ws T) (a := lvD w) (b := lvDs ws) (n := T.length) (Nat.le_refl _) fun x hx => lv_pos (hT.cf x hx)
    rw [List.take_length, pkRows_cons, List.map_cons, List.sum_cons] at total
    generalize hm : mostOf w ws T = mm at *
    let acc : (List Fl × Fl) → List Nat → (List Fl × Fl) := fun p r => if hasKey p.2 (joinR s.s (sel T .none r)) = true then p else (p.1 ++ (mF r).flatMap fun m => sF (r, m), p.2 ++ [(joinR s.s (sel T .none r), .bool true)])
    let st : Nat → List Fl × Fl := fun j => ((pk mm T.length).take j).foldl acc ([], [])
    have st_succ : ∀ j r, (pk mm T.length)[j]? = some r → st (j + 1) = acc (st j) r := fun j r hr => by
      have hj := (List.getElem?_eq_some_iff.mp hr).1
      have he := (List.getElem?_eq_some_iff.mp hr).2
      show (List.take (j + 1) _).foldl acc _ = _
      rw [List.take_succ_eq_append_getElem hj, List.foldl_append, he]
      rfl
    have hLI : ∀ j, j ≤ (pk mm T.length).length → LI s w ws T es (pk mm T.length) j (st j).1 (st j).2 := by
      intro j
      induction j with
      | zero =>
        intro _
        refine ⟨fun fs h => (by cases h), fun r hr => (by simp at hr), fun r hr => (by simp at hr), fun d _ h => (by cases h), by simp [st], by simp [st], fun p hp => (by cases hp)⟩
      | succ j ih =>
        intro hj
        have li := ih (by omega)
        have hr : (pk mm T.length)[j]? = some ((pk mm T.length)[j]'(by omega)) := List.getElem?_eq_getElem _
        generalize (pk mm T.length)[j]'(by omega) = r at hr
        have hmem := List.mem_of_getElem? hr
        obtain ⟨o, c1, c2, c3, c4, c5⟩ := cfT r hmem
        rw [st_succ j r hr]
        show LI s w ws T es (pk mm T.length) (j + 1) (if _ then _ else _ : List Fl × Fl).1 (if _ then _ else _ : List Fl × Fl).2
        split
        · rename_i c
          exact li_old hs hT li hr c1.isF.plain c
        · exact li_new hs hT u li hr c1.isF.plain (hmF r hmem).2 fun m hm => (hsF (r, m) hmem hm).2
    have hnum : ∀ j, j ≤ (pk mm T.length).length → (st j).1.length ≤ 1000000 := fun j hj => by
      have h1 := (hLI j hj).num
      have h2 := sum_take_le (pk mm T.length) (fun r => lvD w ^ lvDs (sel T .none r) * lvDs ws ^ lvDs (oth T .none T.length r)) j
      omega
    have hpkl : (pk mm T.length).length ≤ 1048576 := by
      have h1 := pkRows_num mm T.length
      have h2 : (2 : Nat) ^ T.length ≤ 2 ^ 20 := Nat.pow_le_pow_right (by decide) (by omega)
      have e20 : (2 : Nat) ^ 20 = 1048576 := by decide
      rw [pkRows_cons] at h1
      simp only [List.length_cons] at h1
      omega
    refine ⟨(st (pk mm T.length).length).1, fun q hq => ?_, by rw [← hm]; exact li_done hs hW hT (hm.symm ▸ hLI _ (Nat.le_refl _))⟩
    obtain ⟨q, rfl⟩ : ∃ m, q = m + 1 := ⟨q - 1, by omega⟩
    have hwt : wts (w :: ws) = wt w + wts ws := rfl
    rw [hwt] at hq
    have wp := wt_pos w
    refine call_runs l.shared rfl ?_
    unfold b_shared
    simp only [startG_def]
    have k0 := eqOk_nil (layL_of hW.cf)
    refine .ifF (m := .fr) (g1 := [some (.str s.s, .fr), some (.list (w :: ws), .fr), some (.list T, .fr), some (.dict es, .fr), none, none, none, none, none, none, none, none]) (by simp [k0, eqv_nil]) (.skip ?_)
    refine .set (p := (.int 1, .fr)) (by simp; rfl) ?_
    simp only [List.set_cons_zero, List.set_cons_succ]
    have big : Runs GL (callD GL T0 L q) L (.seq (.set 5 (.lst .nil))
  (.seq (.set 6 (.dnew true))
  (.seq (.for_ 7 (.call "picks" (.cons (.len (.var 2)) (.cons (.var 4) .nil))) (.seq (.set 8 (.call "joined" (.cons (.var 0) (.cons (.lc (.ix (.var 2) (.var 11)) 11 (.var 7) .nil [2]) .nil))))
  (.seq (.ite (.nnin 6 (.var 8)) (.seq (.nput 6 (.var 8) (.bl true))
  (.seq (.set 9 (.lc (.ix (.var 2) (.var 11)) 11 (.range1 (.len (.var 2))) (.cmp .nin (.var 11) (.var 7)) [2, 7]))
  (.seq (.for_ 10 (.call "matched" (.cons (.ix (.var 1) (.int (0))) (.cons (.var 8) (.cons (.var 3) .nil)))) (.seq (.expr (.extend 5 (.call "shared" (.cons (.var 0) (.cons (.sl (.var 1) (.int (1)) .nil) (.cons (.var 9) (.cons (.var 10) .nil)))))))
  .skip))
  .skip))) .skip)
  .skip)))
  (.seq (.ret (.var 5))
  .skip)))) [some (.str s.s, .fr), some (.list (w :: ws), .fr), some (.list T, .fr), some (.dict es, .fr), some (.int mm, .fr), none, none, none, none, none, none, none] (fun x => toCR x = .ok (.list ((st (pk mm T.length).length).1.map flD)) .ow) := by
      refine .set (p := (.list [], .ow)) (by simp; rfl) ?_
      refine .set (p := (.dict [], .on)) (by simp; rfl) ?_
      simp only [List.set_cons_zero, List.set_cons_succ]
      have cp := r_picks (GL := GL) (L := L) l mm T.length (by omega) q (by omega)
      refine .for_ (ds := (pk mm T.length).map rowD) (m := .ow) (d := .list ((pk mm T.length).map rowD)) (g1 := [some (.str s.s, .fr), some (.list (w :: ws), .fr), some (.list T, .fr), some (.dict es, .fr), some (.int mm, .fr), some (.list [], .ow), some (.dict [], .on), none, none, none, none, none])
        (fun j g => ∃ z7 z8 z9 z10 z11 : Sl, g = [some (.str s.s, .fr), some (.list (w :: ws), .fr), some (.list T, .fr), some (.dict es, .fr), some (.int mm, .fr), some (.list ((st j).1.map flD), .ow), some (.dict (st j).2, .on), z7, z8, z9, z10, z11])
        (by simp [cp]) (by decide) rfl ⟨none, none, none, none, none, rfl⟩ ?_ ?_
      · rintro j d g hj ⟨z7, z8, z9, z10, z11, rfl⟩
        rw [List.getElem?_map, Option.map_eq_some_iff] at hj
        obtain ⟨r, hr, rfl⟩ := hj
        have hmem := List.mem_of_getElem? hr
        have hjl := (List.getElem?_eq_some_iff.mp hr).1
        obtain ⟨o, c1, c2, c3, c4, c5⟩ := cfT r hmem
        have rlt := pkRows_lt (pk_ne hmem).2
        have rsz : r.length ≤ 20 := by have := pkRows_size (pk_ne hmem).2; omega
        have gt : ∀ i, i < T.length → T[i]? = some (T.getD i .none) := fun i hi => by rw [List.getD_eq_getElem?_getD, List.getElem?_eq_getElem hi]; rfl
        have cj := r_joined (GL := GL) (L := L) l5 (Sn.join hs) (ds := sel T .none r) (fun d hd' => ⟨((o.rowA hT).cf d hd').isF, by have := hd d (o.sA.subset hd'); omega⟩) (by rw [(o.rowA hT).flat]; simp [sel]; omega) q (by omega)
        rw [(o.rowA hT).join] at cj
        have e8 : ev GL (callD GL T0 L q) (.call (Str.ofString "joined") (.cons (.var 0) (.cons (.lc (.ix (.var 2) (.var 11)) 11 (.var 7) .nil [2]) .nil))) [some (.str s.s, .fr), some (.list (w :: ws), .fr), some (.list T, .fr), some (.dict es, .fr), some (.int mm, .fr), some (.list ((st j).1.map flD), .ow), some (.dict (st j).2, .on), some (rowD r, .fr), z8, z9, z10, z11] =
            .ok (joinR s.s (sel T .none r), .fr) [some (.str s.s, .fr), some (.list (w :: ws), .fr), some (.list T, .fr), some (.dict es, .fr), some (.int mm, .fr), some (.list ((st j).1.map flD), .ow), some (.dict (st j).2, .on), some (rowD r, .fr), z8, z9, z10, z11] := by
          refine call2_run (m1 := .fr) (m2 := .ow) (d1 := .str s.s) (by simp; rfl) (lc_run0 (m := .fr) (d := rowD r) (fun (i : Nat) => .int (i : Int)) (fun i => T.getD i .none) r (by simp) (by decide) rfl (fun i hi => ?_) (by rw [sizeLine_eq]; omega)) (by decide) (by decide) cj (by decide)
          exact ⟨.fr, _, by decide, by simp [at_get (gt i (rlt i hi))]; rfl⟩
        have tkk := tup_key c1 c3
        cases hk : hasKey (st j).2 (joinR s.s (sel T .none r)) with
        | true =>
          have est : st (j + 1) = st j := by rw [st_succ j r hr]; show (if _ then _ else _) = _; rw [if_pos hk]
          rw [est]
          refine ⟨_, Runs.body ?_, some (rowD r, .fr), some (joinR s.s (sel T .none r), .fr), z9, z10, z11, rfl⟩
          simp only [List.set_cons_zero, List.set_cons_succ]
          refine .set e8 ?_
          simp only [List.set_cons_zero, List.set_cons_succ]
          refine .ifF (m := .fr) (g1 := [some (.str s.s, .fr), some (.list (w :: ws), .fr), some (.list T, .fr), some (.dict es, .fr), some (.int mm, .fr), some (.list ((st j).1.map flD), .ow), some (.dict (st j).2, .on), some (rowD r, .fr), some (joinR s.s (sel T .none r), .fr), z9, z10, z11]) (by simp [tkk, hk]) (.skip (.nil rfl))
        | false =>
          have est : st (j + 1) = ((st j).1 ++ (mF r).flatMap fun m => sF (r, m), (st j).2 ++ [(joinR s.s (sel T .none r), .bool true)]) := by rw [st_succ j r hr]; show (if _ then _ else _) = _; rw [if_neg (by rw [hk]; decide)]
          have hn1 := hnum (j + 1) hjl
          have htr := (hLI j (by omega)).trl
          have hput : putKey (st j).2 (joinR s.s (sel T .none r)) (.bool true) = (st j).2 ++ [(joinR s.s (sel T .none r), .bool true)] := by unfold putKey; rw [hk]; rfl
          rw [est] at hn1 ⊢
          simp only at hn1 ⊢
          rw [List.length_append] at hn1
          have cm := (hmF r hmem).1 q (by omega)
          have key : Runs GL (callD GL T0 L q) L (.seq (.set 8 (.call (Str.ofString "joined") (.cons (.var 0) (.cons (.lc (.ix (.var 2) (.var 11)) 11 (.var 7) .nil [2]) .nil))))
  (.seq (.ite (.nnin 6 (.var 8)) (.seq (.nput 6 (.var 8) (.bl true))
  (.seq (.set 9 (.lc (.ix (.var 2) (.var 11)) 11 (.range1 (.len (.var 2))) (.cmp .nin (.var 11) (.var 7)) [2, 7]))
  (.seq (.for_ 10 (.call (Str.ofString "matched") (.cons (.ix (.var 1) (.int (0))) (.cons (.var 8) (.cons (.var 3) .nil)))) (.seq (.expr (.extend 5 (.call (Str.ofString "shared") (.cons (.var 0) (.cons (.sl (.var 1) (.int (1)) .nil) (.cons (.var 9) (.cons (.var 10) .nil)))))))
  .skip))
  .skip))) .skip)
              .skip)) [some (.str s.s, .fr), some (.list (w :: ws), .fr), some (.list T, .fr), some (.dict es, .fr), some (.int mm, .fr), some (.list ((st j).1.map flD), .ow), some (.dict (st j).2, .on), some (rowD r, .fr), z8, z9, z10, z11]
            (fun x => ∃ y9 y10 : Sl, x = .ok .next [some (.str s.s, .fr), some (.list (w :: ws), .fr), some (.list T, .fr), some (.dict es, .fr), some (.int mm, .fr), some (.list (((st j).1 ++ (mF r).flatMap fun m => sF (r, m)).map flD), .ow), some (.dict ((st j).2 ++ [(joinR s.s (sel T .none r), .bool true)]), .on), some (rowD r, .fr), some (joinR s.s (sel T .none r), .fr), y9, y10, z11]) := by
            refine .set e8 ?_
            simp only [List.set_cons_zero, List.set_cons_succ]
            refine .ifT (m := .fr) (g1 := [some (.str s.s, .fr), some (.list (w :: ws), .fr), some (.list T, .fr), some (.dict es, .fr), some (.int mm, .fr), some (.list ((st j).1.map flD), .ow), some (.dict (st j).2, .on), some (rowD r, .fr), some (joinR s.s (sel T .none r), .fr), z9, z10, z11]) (by simp [tkk, hk]) (.as ?_)
            have hz1 : (st j).2.length < 16777216 := by omega
            refine .sq (g1 := [some (.str s.s, .fr), some (.list (w :: ws), .fr), some (.list T, .fr), some (.dict es, .fr), some (.int mm, .fr), some (.list ((st j).1.map flD), .ow), some (.dict ((st j).2 ++ [(joinR s.s (sel T .none r), .bool true)]), .on), some (rowD r, .fr), some (joinR s.s (sel T .none r), .fr), z9, z10, z11]) (by simp [tkk, hput, hz1]) (.as ?_)
            have hrng : rngOk (T.length : Int) = true := rngOk_small (by omega) (by omega)
            refine .set (p := (.list (oth T .none T.length r), .ow)) (g1 := [some (.str s.s, .fr), some (.list (w :: ws), .fr), some (.list T, .fr), some (.dict es, .fr), some (.int mm, .fr), some (.list ((st j).1.map flD), .ow), some (.dict ((st j).2 ++ [(joinR s.s (sel T .none r), .bool true)]), .on), some (rowD r, .fr), some (joinR s.s (sel T .none r), .fr), z9, z10, z11]) ?_ (.as ?_)
            · refine (lc_run (m := .fr) (d := .list (rangeD 0 (T.length : Int))) (fun (i : Nat) => .int (i : Int)) (fun i => !r.contains i) (fun i => T.getD i .none) (List.range T.length) (by simp [hrng]) (by decide) (by simp [range_get]) (fun i hi => ?_) (by simp [sizeLine_eq]; omega)).trans rfl
              have hi' : i < T.length := by simpa using hi
              have hn := nin_row i r .fr
              refine ⟨[some (.str s.s, .fr), some (.list (w :: ws), .fr), some (.list T, .fr), some (.dict es, .fr), some (.int mm, .fr), none, none, some (rowD r, .fr), some (joinR s.s (sel T .none r), .fr), hide1 z9, hide1 z10, some (.int (i : Int), .fr)], ?_, fun _ => ⟨.fr, _, by decide, by simp [at_get (gt i hi')]; rfl⟩⟩
              rw [cmpD_def] at hn
              simp at hn
              simp [hn]
            · simp only [List.set_cons_zero, List.set_cons_succ]
              refine .for_ (ds := (mF r).map flD) (m := .ow) (d := .list ((mF r).map flD)) (g1 := [some (.str s.s, .fr), some (.list (w :: ws), .fr), some (.list T, .fr), some (.dict es, .fr), some (.int mm, .fr), some (.list ((st j).1.map flD), .ow), some (.dict ((st j).2 ++ [(joinR s.s (sel T .none r), .bool true)]), .on), some (rowD r, .fr), some (joinR s.s (sel T .none r), .fr), some (.list (oth T .none T.length r), .ow), z10, z11])
                (fun k g => ∃ (y9 : Md) (y10 : Sl), (y9 = .ow ∨ y9 = .fr) ∧ g = [some (.str s.s, .fr), some (.list (w :: ws), .fr), some (.list T, .fr), some (.dict es, .fr), some (.int mm, .fr), some (.list (((st j).1 ++ ((mF r).take k).flatMap fun m => sF (r, m)).map flD), .ow), some (.dict ((st j).2 ++ [(joinR s.s (sel T .none r), .bool true)]), .on), some (rowD r, .fr), some (joinR s.s (sel T .none r), .fr), some (.list (oth T .none T.length r), y9), y10, z11])
                ?_ (by decide) rfl ⟨.ow, z10, .inl rfl, by simp⟩ ?_ ?_
              · simp [cm]
              · rintro k d g hk' ⟨y9, y10, hy9, rfl⟩
                rw [List.getElem?_map, Option.map_eq_some_iff] at hk'
                obtain ⟨m0, hm0, rfl⟩ := hk'
                have hmm := List.mem_of_getElem? hm0
                have cs := (hsF (r, m0) hmem hmm).1 q (by omega)
                have et : ((mF r).take (k + 1)).flatMap (fun m => sF (r, m)) = ((mF r).take k).flatMap (fun m => sF (r, m)) ++ sF (r, m0) := by
                  have hkl := (List.getElem?_eq_some_iff.mp hm0).1
                  have hke := (List.getElem?_eq_some_iff.mp hm0).2
                  rw [List.take_succ_eq_append_getElem hkl, List.flatMap_append, hke]
                  simp
                have hle : (((mF r).take (k + 1)).flatMap fun m => sF (r, m)).length ≤ ((mF r).flatMap fun m => sF (r, m)).length := by
                  conv => rhs; rw [← List.take_append_drop (k + 1) (mF r)]
                  rw [List.flatMap_append, List.length_append]
                  omega
                rw [et, List.length_append] at hle
                generalize hA : ((mF r).take k).flatMap (fun m => sF (r, m)) = AA at *
                have hz2 : ((st j).1 ++ AA).length + (sF (r, m0)).length ≤ 16777216 := by rw [List.length_append]; omega
                have hz3 : ((st j).1.length + AA.length) + (sF (r, m0)).length ≤ 16777216 := by omega
                refine ⟨[some (.str s.s, .fr), some (.list (w :: ws), .fr), some (.list T, .fr), some (.dict es, .fr), some (.int mm, .fr), some (.list (((st j).1 ++ ((mF r).take (k + 1)).flatMap fun m => sF (r, m)).map flD), .ow), some (.dict ((st j).2 ++ [(joinR s.s (sel T .none r), .bool true)]), .on), some (rowD r, .fr), some (joinR s.s (sel T .none r), .fr), some (.list (oth T .none T.length r), .fr), some (flD m0, .fr), z11], ?_, .fr, _, .inr rfl, rfl⟩
                rw [et, ← List.append_assoc, List.map_append]
                show ex GL (callD GL T0 L q) L _ _ = _
                have cs' : callD GL T0 L q (Str.ofString "shared") [.str s.s, .list ws, .list (oth T .none T.length r), flD m0] = .ok (.list ((sF (r, m0)).map flD)) .ow := cs
                rcases hy9 with rfl | rfl
                · simp [cut_tail, cs', hz3]
                · simp [cut_tail, cs', hz3]
              · rintro g ⟨y9, y10, hy9, rfl⟩
                rw [List.length_map, List.take_length]
                exact .skip (.nil ⟨_, _, rfl⟩)
          obtain ⟨y9, y10, e⟩ := key
          exact ⟨_, e, _, _, _, _, _, rfl⟩
      · rintro g ⟨z7, z8, z9, z10, z11, rfl⟩
        rw [List.length_map]
        exact .ret (d := .list ((st (pk mm T.length).length).1.map flD)) (m := .ow) (by simp; rfl) rfl
    cases ho : isOpen w with
    | true =>
      have hm2 : mm = (T.length : Int) - ((w :: ws).length : Int) + 1 := by rw [← hm]; unfold mostOf; rw [ho]; rfl
      subst ew
      have hx1 : x0 = Str.ofString "open" := by simpa [isOpen] using ho
      refine .ifT (m := .fr) (g1 := [some (.str s.s, .fr), some (.list (.tuple (.str x0 :: xs0) :: ws), .fr), some (.list T, .fr), some (.dict es, .fr), some (.int 1, .fr), none, none, none, none, none, none, none]) (by simp [hx1]) (.as ?_)
      refine .set (p := (.int mm, .fr)) (by rw [hm2]; simp; rfl) ?_
      simp only [List.set_cons_zero, List.set_cons_succ]
      exact .skip big
    | false =>
      have hm2 : mm = 1 := by rw [← hm]; unfold mostOf; rw [ho]; rfl
      have hx1 : ¬ x0 = Str.ofString "open" := by rw [ew] at ho; simpa [isOpen] using ho
      rw [hm2] at big
      subst ew
      have k1 := eqOk_str hx0 (show PyData.strOk (Str.ofString "open") = true by simp)
      refine .ifF (m := .fr) (g1 := [some (.str s.s, .fr), some (.list (.tuple (.str x0 :: xs0) :: ws), .fr), some (.list T, .fr), some (.dict es, .fr), some (.int 1, .fr), none, none, none, none, none, none, none]) (by simp [k1, hx1]) (.skip ?_)
      exact hm2 ▸ big
theorem putKey_get {es : Fl} {i : Int} {v : D} : getKey es (.int i) = some v → hasKey es (.int i) = true := fun h => by rw [hasKey_get, h]; rfl
theorem word_put {f : Int → D} {one : D} (h : CF one) (hf : ∀ i, (true, i) ∈ lsD one → CF (f i)) (hop : isOpen one = false) : ∀ x xs y ys, one = .tuple (.str x :: xs) → putD f one = .tuple (.str y :: ys) → x = y := by
  intro x xs y ys e1 e2
  cases h with
  | leaf o i ok =>
    cases o with
    | true => simp [isOpen, kS] at hop
    | false =>
      rw [putD_leaf, if_neg (by decide)] at e2
      rw [e1] at e2
      simp only [PyData.tuple.injEq, List.cons.injEq, PyData.str.injEq] at e2
      exact e2.1
  | pair ha hb =>
    rw [putD_pair] at e2
    simp only [PyData.tuple.injEq, List.cons.injEq, PyData.str.injEq] at e1 e2
    rw [← e1.1, e2.1]
  | @join s xs' hs h2 hc u hp =>
    rw [lsD_join h2] at hf
    have cx : ∀ d ∈ xs'.map (putD f), CF d := fun d hd => by
      obtain ⟨z, hz, rfl⟩ := List.mem_map.mp hd
      exact put_cf f (hc z hz) fun i hi => hf i (List.mem_flatMap.mpr ⟨z, hz, hi⟩)
    have hl := flat_pos (s := s.s) cx
    rw [List.length_map] at hl
    rw [putD_join f hs] at e2
    unfold joinD at e2
    rw [joinR_more _ (by omega)] at e2
    simp only [PyData.tuple.injEq, List.cons.injEq, PyData.str.injEq] at e1 e2
    rw [← e1.1, e2.1]
theorem eqv_cf {a b : D} (ha : CF a) (hb : CF b) : PyData.eqv a b = true ↔ a = b := eqv_plain a b ha.isF.plain hb.isF.plain
theorem eqOk_cf {a b : D} (ha : CF a) (hb : CF b) (hd : b.depth ≤ 200) : eqOk a b = true := by
  have : Nat.min a.depth b.depth ≤ 200 := Nat.le_trans (Nat.min_le_right _ _) hd
  simp [eqOk, ha.isF.lay, hb.isF.lay]
  exact this
theorem r_matched (l5 : Lib5 T0) (l : Lib3m T0) {one : D} (h : CF one) : MP GL T0 L one := by
  induction h with
  | leaf o i ok =>
    intro whole es cw hdw hf hl h20 hn
    obtain ⟨xw, ys, ew, hxw⟩ := cw.isF.word
    cases o with
    | true =>
      cases hk : getKey es (.int i) with
      | none =>
        have hk2 : hasKey es (.int i) = false := by rw [hasKey_get, hk]; rfl
        refine ⟨[es ++ [(.int i, whole)]], fun q hq => ?_, m_open_new cw hk2⟩
        obtain ⟨q, rfl⟩ : ∃ m, q = m + 1 := ⟨q - 1, by omega⟩
        refine call_runs l.matched rfl ?_
        unfold b_matched
        simp only [startG_def]
        have hp := putKey_new (v := whole) hk2
        have hz : es.length < 16777216 := by omega
        refine .ifT (m := .fr) (g1 := [some (.tuple [.str (kS true), .int i], .fr), some (whole, .fr), some (.dict es, .fr), none, none]) (by simp [kS]) (.as ?_)
        refine .ifF (m := .fr) (g1 := [some (.tuple [.str (kS true), .int i], .fr), some (whole, .fr), some (.dict es, .fr), none, none]) (by simp [cmpD.inD, hk2]) (.skip (.as ?_))
        refine .set (p := (.dict es, .ow)) (g1 := [some (.tuple [.str (kS true), .int i], .fr), some (whole, .fr), some (.dict es, .fr), none, none]) (by simp [dictD]) (.as ?_)
        simp only [List.set_cons_zero, List.set_cons_succ]
        refine .sq (g1 := [some (.tuple [.str (kS true), .int i], .fr), some (whole, .fr), some (.dict es, .fr), some (.dict (es ++ [(.int i, whole)]), .ow), none]) (by simp [hp, hz]) (.as ?_)
        exact .ret (d := .list [flD (es ++ [(.int i, whole)])]) (m := .ow) (by simp [flD]; rfl) rfl
      | some v =>
        have hk2 := putKey_get hk
        have cv := hf i v hk
        refine ⟨if PyData.eqv v whole = true then [es] else [], fun q hq => ?_, m_open_old (eqv_cf cv cw) hk⟩
        obtain ⟨q, rfl⟩ : ∃ m, q = m + 1 := ⟨q - 1, by omega⟩
        refine call_runs l.matched rfl ?_
        unfold b_matched
        simp only [startG_def]
        have e1 := eqOk_cf cv cw (by omega)
        refine .ifT (m := .fr) (g1 := [some (.tuple [.str (kS true), .int i], .fr), some (whole, .fr), some (.dict es, .fr), none, none]) (by simp [kS]) (.as ?_)
        refine .ifT (m := .fr) (g1 := [some (.tuple [.str (kS true), .int i], .fr), some (whole, .fr), some (.dict es, .fr), none, none]) (by simp [cmpD.inD, hk2]) (.as ?_)
        refine .ret (d := .list ((if PyData.eqv v whole = true then [es] else []).map flD)) (m := .ow) (g1 := [some (.tuple [.str (kS true), .int i], .fr), some (whole, .fr), some (.dict es, .fr), none, none]) ?_ rfl
        cases c : PyData.eqv v whole with
        | true => simp [hk, e1, c, flD]
        | false => simp [hk, e1, c]
    | false =>
      have co : CF (.tuple [.str (kS false), .int i]) := .leaf false i ok
      refine ⟨if PyData.eqv (.tuple [.str (kS false), .int i]) whole = true then [es] else [], fun q hq => ?_, m_const (eqv_cf co cw) (fun f _ h => by rwa [putD_leaf] at h) (fun _ => ⟨fun j hj => by rw [lsD_leaf] at hj; simp at hj, co⟩) (lv_pos co)⟩
      obtain ⟨q, rfl⟩ : ∃ m, q = m + 1 := ⟨q - 1, by omega⟩
      refine call_runs l.matched rfl ?_
      unfold b_matched
      simp only [startG_def]
      have e1 := eqOk_cf co cw (by omega)
      refine .ifF (m := .fr) (g1 := [some (.tuple [.str (kS false), .int i], .fr), some (whole, .fr), some (.dict es, .fr), none, none]) (by simp [kS]) (.skip ?_)
      refine .ifT (m := .fr) (g1 := [some (.tuple [.str (kS false), .int i], .fr), some (whole, .fr), some (.dict es, .fr), none, none]) (by simp [kS]) (.as ?_)
      refine .ret (d := .list ((if PyData.eqv (.tuple [.str (kS false), .int i]) whole = true then [es] else []).map flD)) (m := .ow) (g1 := [some (.tuple [.str (kS false), .int i], .fr), some (whole, .fr), some (.dict es, .fr), none, none]) ?_ rfl
      cases c : PyData.eqv (.tuple [.str (kS false), .int i]) whole with
      | true => simp [e1, c, flD]
      | false => simp [e1, c]
  | @pair a b ca cb iha ihb =>
    intro whole es cw hdw hf hl h20 hn
    obtain ⟨xw, ys, ew, hxw⟩ := cw.isF.word
    have co : CF (.tuple [.str (Str.ofString "pair"), a, b]) := .pair ca cb
    by_cases hw : xw = Str.ofString "pair"
    · -- the same word
      subst hw
      have : ∃ a' b', whole = .tuple [.str (Str.ofString "pair"), a', b'] := by
        subst ew
        generalize e : (PyData.tuple (.str (Str.ofString "pair") :: ys)) = d at cw
        cases cw with
        | leaf o i _ => cases o <;> simp [kS] at e
        | pair _ _ => exact ⟨_, _, rfl⟩
        | @join s' xs' hs' h2 hc u hp =>
          simp only [PyData.tuple.injEq, List.cons.injEq, PyData.str.injEq] at e
          exact absurd (Sn.inj (s := .pair) e.1).symm hs'
      obtain ⟨a', b', e'⟩ := this
      rw [e'] at cw hdw h20 hn ⊢
      clear ew e'
      obtain ⟨ca', cb'⟩ := cf_pair cw
      have lv : ∀ x y : D, lvD (.tuple [.str (Str.ofString "pair"), x, y]) = lvD x + lvD y := fun x y => by simp [lvD, lvDs]
      have dd : max a'.depth b'.depth + 1 = PyData.depth (.tuple [.str (Str.ofString "pair"), a', b']) := by simp [PyData.depth, PyData.depthAll]
      rw [lv] at hl h20
      rw [lv, lv] at hn
      have la := lv_pos ca
      have lb := lv_pos cb
      obtain ⟨ms, h1, h2⟩ := iha a' es ca' (by omega) hf (by omega) (by omega) (pow_mono (by omega) (by omega) hn (by omega))
      have rex : ∀ m : Fl, ∃ rs : List Fl, m ∈ ms → Calls GL T0 L (wt b + 3) (Str.ofString "matched") [b, b', .dict m] (.ok (.list (rs.map flD)) .ow) ∧ MOk b b' m rs := fun m => by
        by_cases hm : m ∈ ms
        · have s1 := h2.sound m hm
          have := s1.len
          obtain ⟨rs, g1, g2⟩ := ihb b' m cb' (by omega) (fl_of hf ca' s1) (by omega) (by omega) (pow_mono (by omega) (by omega) hn (by omega))
          exact ⟨rs, fun _ => ⟨g1, g2⟩⟩
        · exact ⟨[], fun h => absurd h hm⟩
      obtain ⟨rF, hrF⟩ := Classical.skolem.mp rex
      have mk := m_pair h2 fun m hm => (hrF m hm).2
      refine ⟨ms.flatMap rF, fun q hq => ?_, mk⟩
      obtain ⟨q, rfl⟩ : ∃ m, q = m + 1 := ⟨q - 1, by omega⟩
      have hwt : wt (.tuple [.str (Str.ofString "pair"), a, b]) = wt a + wt b + 2 := by simp [wt, wts]; omega
      rw [hwt] at hq
      have tot := mk.num
      rw [lv, lv] at tot
      refine call_runs l.matched rfl ?_
      unfold b_matched
      simp only [startG_def]
      have c1 := h1 q (by omega)
      refine .ifF (m := .fr) (g1 := [some (.tuple [.str (Str.ofString "pair"), a, b], .fr), some (.tuple [.str (Str.ofString "pair"), a', b'], .fr), some (.dict es, .fr), none, none]) (by simp) (.skip ?_)
      refine .ifF (m := .fr) (g1 := [some (.tuple [.str (Str.ofString "pair"), a, b], .fr), some (.tuple [.str (Str.ofString "pair"), a', b'], .fr), some (.dict es, .fr), none, none]) (by simp) (.skip ?_)
      refine .ifT (m := .fr) (g1 := [some (.tuple [.str (Str.ofString "pair"), a, b], .fr), some (.tuple [.str (Str.ofString "pair"), a', b'], .fr), some (.dict es, .fr), none, none]) (by simp) (.as ?_)
      refine .set (p := (.list [], .ow)) (by simp; rfl) (.as ?_)
      simp only [List.set_cons_zero, List.set_cons_succ]
      refine .for_ (ds := ms.map flD) (m := .ow) (d := .list (ms.map flD)) (g1 := [some (.tuple [.str (Str.ofString "pair"), a, b], .fr), some (.tuple [.str (Str.ofString "pair"), a', b'], .fr), some (.dict es, .fr), none, some (.list [], .ow)])
        (fun k g => ∃ z : Sl, g = [some (.tuple [.str (Str.ofString "pair"), a, b], .fr), some (.tuple [.str (Str.ofString "pair"), a', b'], .fr), some (.dict es, .fr), z, some (.list (((ms.take k).flatMap rF).map flD), .ow)]) (by simp [c1]) (by decide) rfl ⟨none, by simp⟩ ?_ ?_
      · rintro k d g hk ⟨z, rfl⟩
        rw [List.getElem?_map, Option.map_eq_some_iff] at hk
        obtain ⟨m0, hm0, rfl⟩ := hk
        have hmm := List.mem_of_getElem? hm0
        have cs : callD GL T0 L q (Str.ofString "matched") [b, b', flD m0] = .ok (.list ((rF m0).map flD)) .ow := (hrF m0 hmm).1 q (by omega)
        have et : (ms.take (k + 1)).flatMap rF = (ms.take k).flatMap rF ++ rF m0 := by
          have hkl := (List.getElem?_eq_some_iff.mp hm0).1
          have hke := (List.getElem?_eq_some_iff.mp hm0).2
          rw [List.take_succ_eq_append_getElem hkl, List.flatMap_append, hke]
          simp
        have hle : ((ms.take (k + 1)).flatMap rF).length ≤ (ms.flatMap rF).length := by
          conv => rhs; rw [← List.take_append_drop (k + 1) ms]
          rw [List.flatMap_append, List.length_append]
          omega
        rw [et, List.length_append] at hle
        refine ⟨[some (.tuple [.str (Str.ofString "pair"), a, b], .fr), some (.tuple [.str (Str.ofString "pair"), a', b'], .fr), some (.dict es, .fr), some (flD m0, .fr), some (.list (((ms.take (k + 1)).flatMap rF).map flD), .ow)], ?_, _, rfl⟩
        rw [et]
        generalize (ms.take k).flatMap rF = AA at *
        have hz3 : AA.length + (rF m0).length ≤ 16777216 := by omega
        simp [cs, hz3]
      · rintro g ⟨z, rfl⟩
        rw [List.length_map, List.take_length]
        exact .as (.ret (d := .list ((ms.flatMap rF).map flD)) (m := .ow) (by simp; rfl) rfl)
    · have hne : ¬ (PyData.tuple [.str (Str.ofString "pair"), a, b]) = whole := fun e => by
        rw [ew] at e
        simp only [PyData.tuple.injEq, List.cons.injEq, PyData.str.injEq] at e
        exact hw e.1.symm
      refine ⟨if PyData.eqv (.tuple [.str (Str.ofString "pair"), a, b]) whole = true then [es] else [], fun q hq => ?_, m_const (eqv_cf co cw) (fun f hcf hp => absurd (word_put co hcf rfl _ _ _ _ rfl (hp.trans ew)).symm hw) (fun e => absurd e hne) (lv_pos co)⟩
      obtain ⟨q, rfl⟩ : ∃ m, q = m + 1 := ⟨q - 1, by omega⟩
      refine call_runs l.matched rfl ?_
      unfold b_matched
      simp only [startG_def]
      have e1 := eqOk_cf co cw (by omega)
      have ev : PyData.eqv (.tuple [.str (Str.ofString "pair"), a, b]) whole = false := by
        cases q : PyData.eqv (.tuple [.str (Str.ofString "pair"), a, b]) whole with
        | false => rfl
        | true => exact absurd ((eqv_cf co cw).mp q) hne
      rw [ev]
      have e2 := eqOk_str (show PyData.strOk (Str.ofString "pair") = true by simp) hxw
      have hw' : ¬ Str.ofString "pair" = xw := fun e => hw e.symm
      refine .ifF (m := .fr) (g1 := [some (.tuple [.str (Str.ofString "pair"), a, b], .fr), some (whole, .fr), some (.dict es, .fr), none, none]) (by simp) (.skip ?_)
      refine .ifT (m := .fr) (g1 := [some (.tuple [.str (Str.ofString "pair"), a, b], .fr), some (whole, .fr), some (.dict es, .fr), none, none]) (by subst ew; simp [e2, hw']) (.as ?_)
      exact .ret (d := .list []) (m := .ow) (by simp [e1, ev]; rfl) rfl
  | @join s xs hs h2 hc u hp ih =>
    intro whole es cw hdw hf hl h20 hn
    obtain ⟨xw, ys, ew, hxw⟩ := cw.isF.word
    have co : CF (.tuple (.str s.s :: xs)) := .join hs h2 hc u hp
    have ks := lay_sS s
    have n1 := eqOk_str ks (show PyData.strOk (Str.ofString "open") = true by simp)
    have n2 := eqOk_str ks (show PyData.strOk (Str.ofString "name") = true by simp)
    have n3 := eqOk_str ks (show PyData.strOk (Str.ofString "pair") = true by simp)
    have n4 := eqOk_str ks hxw
    have m1 : ¬ s.s = Str.ofString "open" := fun e => (kS_sn (o := true) (s := s)) e.symm
    have m2 : ¬ s.s = Str.ofString "name" := fun e => (kS_sn (o := false) (s := s)) e.symm
    have m3 : ¬ s.s = Str.ofString "pair" := fun e => hs (Sn.inj (s' := .pair) e)
    by_cases hw : xw = s.s
    · subst hw
      subst ew
      obtain ⟨t2, tr, tu⟩ := row_of cw hs
      have hdT : ∀ x ∈ ys, x.depth ≤ 7 := fun x hx => by
        have := depth_mem hx
        simp [PyData.depth, PyData.depthAll] at hdw
        omega
      rw [lvD_join] at hl h20
      rw [lvD_join, lvD_join] at hn
      obtain ⟨ffs, g1, g2⟩ := r_shared (GL := GL) (L := L) l5 l hs xs (fun w hw => ih w hw) ⟨hc, hp⟩ ys es tr tu hdT hf hl h20 hn
      refine ⟨ffs, fun q hq => ?_, m_join hs co cw g2⟩
      obtain ⟨q, rfl⟩ : ∃ m, q = m + 1 := ⟨q - 1, by omega⟩
      have hwt : wt (.tuple (.str s.s :: xs)) = wts xs + 2 := by simp [wt, wts]; omega
      rw [hwt] at hq
      have cs := g1 q (by omega)
      have xl : xs.length ≤ lvDs xs := lvDs_len2 xs fun x hx => lv_pos (hc x hx)
      have yl : ys.length ≤ lvDs ys := lvDs_len2 ys fun x hx => lv_pos (tr.cf x hx)
      refine call_runs l.matched rfl ?_
      unfold b_matched
      simp only [startG_def]
      refine .ifF (m := .fr) (g1 := [some (.tuple (.str s.s :: xs), .fr), some (.tuple (.str s.s :: ys), .fr), some (.dict es, .fr), none, none]) (by simp [n1, m1]) (.skip ?_)
      refine .ifF (m := .fr) (g1 := [some (.tuple (.str s.s :: xs), .fr), some (.tuple (.str s.s :: ys), .fr), some (.dict es, .fr), none, none]) (by simp [n2, m2, n4]) (.skip ?_)
      refine .ifF (m := .fr) (g1 := [some (.tuple (.str s.s :: xs), .fr), some (.tuple (.str s.s :: ys), .fr), some (.dict es, .fr), none, none]) (by simp [n3, m3]) (.skip ?_)
      exact .ret (d := .list (ffs.map flD)) (m := .ow) (by simp [cut_tail, cs]; rfl) rfl
    · have hne : ¬ (PyData.tuple (.str s.s :: xs)) = whole := fun e => by
        rw [ew] at e
        simp only [PyData.tuple.injEq, List.cons.injEq, PyData.str.injEq] at e
        exact hw e.1.symm
      have hop : isOpen (.tuple (.str s.s :: xs)) = false := by simp [isOpen, m1]
      refine ⟨if PyData.eqv (.tuple (.str s.s :: xs)) whole = true then [es] else [], fun q hq => ?_, m_const (eqv_cf co cw) (fun f hcf hp => absurd (word_put co hcf hop _ _ _ _ rfl (hp.trans ew)).symm hw) (fun e => absurd e hne) (lv_pos co)⟩
      obtain ⟨q, rfl⟩ : ∃ m, q = m + 1 := ⟨q - 1, by omega⟩
      refine call_runs l.matched rfl ?_
      unfold b_matched
      simp only [startG_def]
      have e1 := eqOk_cf co cw (by omega)
      have ev : PyData.eqv (.tuple (.str s.s :: xs)) whole = false := by
        cases q : PyData.eqv (.tuple (.str s.s :: xs)) whole with
        | false => rfl
        | true => exact absurd ((eqv_cf co cw).mp q) hne
      rw [ev]
      have hw' : ¬ s.s = xw := fun e => hw e.symm
      refine .ifF (m := .fr) (g1 := [some (.tuple (.str s.s :: xs), .fr), some (whole, .fr), some (.dict es, .fr), none, none]) (by simp [n1, m1]) (.skip ?_)
      refine .ifT (m := .fr) (g1 := [some (.tuple (.str s.s :: xs), .fr), some (whole, .fr), some (.dict es, .fr), none, none]) (by subst ew; simp [n2, m2, n4, hw']) (.as ?_)
      exact .ret (d := .list []) (m := .ow) (by simp [e1, ev]; rfl) rfl
end
end DL

set_option Elab.async false
set_option linter.all false
set_option maxRecDepth 100000
/-! H6: the keys of a dict that is filled; fillings runs. -/
namespace DL
open PySem L2

/-! ### a dict whose values are all True -/
def trueD (ks : List D) : Fl := ks.map fun k => (k, .bool true)
def addK (ks : List D) (k : D) : List D := if hasKey (trueD ks) k = true then ks else ks ++ [k]
def setK (l : List D) : List D := l.foldl addK []
theorem hasK_mem {ks : List D} (h : ∀ x ∈ ks, keyOk x = true) {k : D} (hk : keyOk k = true) : hasKey (trueD ks) k = true ↔ k ∈ ks := by
  unfold hasKey trueD
  rw [List.any_map, List.any_eq_true]
  constructor
  · rintro ⟨x, hx, e⟩
    have := (eqv_plain x k (h x hx) hk).mp e
    subst this; exact hx
  · intro hx
    exact ⟨k, hx, (eqv_plain k k hk hk).mpr rfl⟩
theorem put_true (ks : List D) (k : D) : putKey (trueD ks) k (.bool true) = trueD (addK ks k) := by
  unfold putKey addK
  cases h : hasKey (trueD ks) k with
  | true =>
    simp only [if_true]
    unfold trueD
    rw [List.map_map]
    refine List.map_congr_left fun x _ => ?_
    simp
  | false => simp [trueD]
theorem keys_true (ks : List D) : (trueD ks).map (·.1) = ks := by
  unfold trueD
  rw [List.map_map]
  conv => rhs; rw [← List.map_id ks]
  rfl
theorem setK_take {l : List D} {j : Nat} {d : D} (h : l[j]? = some d) : setK (l.take (j + 1)) = addK (setK (l.take j)) d := by
  have hj := (List.getElem?_eq_some_iff.mp h).1
  have he := (List.getElem?_eq_some_iff.mp h).2
  unfold setK
  rw [List.take_succ_eq_append_getElem hj, List.foldl_append, he]
  rfl
theorem setK_ok : ∀ (l acc : List D), (∀ x ∈ l, keyOk x = true) → (∀ x ∈ acc, keyOk x = true) → acc.Nodup → (∀ x, x ∈ l.foldl addK acc ↔ x ∈ acc ∨ x ∈ l) ∧ (l.foldl addK acc).Nodup ∧ (l.foldl addK acc).length ≤ acc.length + l.length
  | [], acc, _, _, hn => ⟨fun x => by simp, hn, by simp⟩
  | d :: l, acc, hl, ha, hn => by
    have hd := hl d List.mem_cons_self
    have hl' := fun x hx => hl x (List.mem_cons_of_mem _ hx)
    by_cases c : hasKey (trueD acc) d = true
    · have e : addK acc d = acc := if_pos c
      have hm := (hasK_mem ha hd).mp c
      obtain ⟨h1, h2, h3⟩ := setK_ok l acc hl' ha hn
      rw [List.foldl_cons, e]
      refine ⟨fun x => ?_, h2, by simp; omega⟩
      rw [h1, List.mem_cons]
      constructor
      · rintro (h | h)
        · exact .inl h
        · exact .inr (.inr h)
      · rintro (h | rfl | h)
        · exact .inl h
        · exact .inl hm
        · exact .inr h
    · have e : addK acc d = acc ++ [d] := if_neg c
      have hm : d ∉ acc := fun z => c ((hasK_mem ha hd).mpr z)
      have ha' : ∀ x ∈ acc ++ [d], keyOk x = true := fun x hx => by
        rcases List.mem_append.mp hx with hx | hx
        · exact ha x hx
        · rw [List.mem_singleton.mp hx]; exact hd
      have hn' : (acc ++ [d]).Nodup := by
        rw [List.nodup_append]
        refine ⟨hn, by simp, fun a h1 b h2 => ?_⟩
        rw [List.mem_singleton.mp h2]
        intro z; subst z; exact hm h1
      obtain ⟨h1, h2, h3⟩ := setK_ok l (acc ++ [d]) hl' ha' hn'
      rw [List.foldl_cons, e]
      refine ⟨fun x => ?_, h2, by simp at h3 ⊢; omega⟩
      rw [h1, List.mem_append, List.mem_singleton, List.mem_cons, or_assoc]
theorem setK_mem {l : List D} (h : ∀ x ∈ l, keyOk x = true) (x : D) : x ∈ setK l ↔ x ∈ l := by
  have := (setK_ok l [] h (fun x hx => (by cases hx)) List.nodup_nil).1 x
  simpa [setK] using this
theorem setK_nodup {l : List D} (h : ∀ x ∈ l, keyOk x = true) : (setK l).Nodup := (setK_ok l [] h (fun x hx => (by cases hx)) List.nodup_nil).2.1
theorem setK_len {l : List D} (h : ∀ x ∈ l, keyOk x = true) : (setK l).length ≤ l.length := by
  have := (setK_ok l [] h (fun x hx => (by cases hx)) List.nodup_nil).2.2
  simpa [setK] using this
/-- strictly rising -/
abbrev Upp (l : List D) : Prop := l.Pairwise fun x y => ltB x y = true
theorem upp_of {l : List D} (hk : ∀ x ∈ l, keyOk x = true) (u : Up l) (hn : l.Nodup) : Upp l := by
  have h2 : l.Pairwise fun x y => x ≠ y := hn
  refine List.Pairwise.imp_of_mem ?_ (u.and h2)
  rintro a b ha hb ⟨h, hne⟩
  cases c : ltB a b with
  | true => rfl
  | false => exact absurd (ltB_total (hk a ha) (hk b hb) c h) hne
theorem upp_up {l : List D} (h : Upp l) : Up l := h.imp fun h => ltB_asym h
theorem ltB_irr {x : D} : ltB x x = false := by
  cases c : ltB x x with
  | false => rfl
  | true => rw [ltB_asym c] at c; cases c
theorem upp_nodup {l : List D} (h : Upp l) : l.Nodup := h.imp fun {a b} h e => by subst e; rw [ltB_irr] at h; cases h
/-- two strictly rising lists of the same things -/
theorem upp_one {l m : List D} (hk : ∀ x ∈ l, keyOk x = true) (hl : Upp l) (hm : Upp m) (h : ∀ x, x ∈ l ↔ x ∈ m) : l = m := by
  refine up_one hk (upp_up hl) (upp_up hm) ?_
  refine (List.perm_ext_iff_of_nodup (upp_nodup hl) (upp_nodup hm)).mpr h

/-! ### a filling as a dict -/
def flR (ns : List Int) (r : List D) : Fl := (ns.zip r).map fun p => (.int p.1, p.2)
theorem flR_get : ∀ {ns : List Int} {f : Int → D} {i : Int}, i ∈ ns → getKey (flR ns (ns.map f)) (.int i) = some (f i)
  | [], _, _, h => by cases h
  | n :: ns, f, i, h => by
    unfold flR getKey
    simp only [List.map_cons, List.zip_cons_cons, List.find?_cons]
    by_cases c : n = i
    · subst c; simp
    · have e : PyData.eqv (.int n) (.int i) = false := by simp [c]
      rw [e]
      have := flR_get (f := f) (i := i) ((List.mem_cons.mp h).resolve_left (fun z => c z.symm))
      unfold flR getKey at this
      exact this
theorem flR_has {ns : List Int} {f : Int → D} {i : Int} : hasKey (flR ns (ns.map f)) (.int i) = decide (i ∈ ns) := by
  induction ns with
  | nil => rfl
  | cons n ns ih =>
    unfold flR hasKey at *
    simp only [List.map_cons, List.zip_cons_cons, List.any_cons, ih]
    rw [eqv_int]
    by_cases c : n = i
    · have c2 : i ∈ n :: ns := by rw [c]; exact List.mem_cons_self
      rw [decide_eq_true c, decide_eq_true c2]; rfl
    · rw [decide_eq_false c, Bool.false_or]
      exact decide_eq_decide.mpr ⟨fun h => List.mem_cons_of_mem _ h, fun h => (List.mem_cons.mp h).resolve_left fun z => c z.symm⟩
theorem zipKV_new : ∀ (ns : List Int) (r : List D) (acc : Fl), ns.Nodup → (∀ i ∈ ns, hasKey acc (.int i) = false) → zipKV (ns.map .int) r acc = acc ++ flR ns r
  | [], r, acc, _, _ => by simp [zipKV, flR]
  | n :: ns, [], acc, _, _ => by simp [zipKV, flR]
  | n :: ns, v :: r, acc, hn, ha => by
    obtain ⟨h1, h2⟩ := List.nodup_cons.mp hn
    show zipKV (ns.map .int) r (putKey acc (.int n) v) = _
    rw [putKey_new (ha n List.mem_cons_self), zipKV_new ns r _ h2 fun i hi => ?_]
    · simp [flR]
    · have e : PyData.eqv (.int n) (.int i) = false := by
        have : n ≠ i := fun z => by subst z; exact h1 hi
        simp [this]
      rw [show hasKey (acc ++ [(PyData.int n, v)]) (.int i) = (hasKey acc (.int i) || PyData.eqv (.int n) (.int i)) from hasKey_snoc, ha i (List.mem_cons_of_mem _ hi), e]
      rfl
theorem up_nodup {l : List Int} (h : l.Pairwise (· < ·)) : l.Nodup := h.imp fun h => by omega
def nums (t : Tm) : List Int := sortI (opN t.ls)
theorem mem_nums {t : Tm} {i : Int} : i ∈ nums t ↔ (true, i) ∈ t.ls := by unfold nums; rw [sortI_mem, mem_opN]
theorem nums_up (t : Tm) : (nums t).Pairwise (· < ·) := sortI_up _
theorem nums_len (t : Tm) : (nums t).length ≤ t.ls.length := by
  have : ∀ l : List Int, (sortI l).length ≤ l.length := by
    intro l
    induction l with
    | nil => simp [sortI]
    | cons x l ih =>
      have h2 : ∀ (x : Int) (m : List Int), (insI x m).length ≤ m.length + 1 := by
        intro x m
        induction m with
        | nil => simp [insI]
        | cons y m ih2 =>
          unfold insI
          split
          · simp
          · split
            · simp
            · simp; omega
      have := h2 x (sortI l)
      simp [sortI]; omega
  have h1 := this (opN t.ls)
  have h2 := opN_len t.ls
  unfold nums
  omega
/-- what fillings tells -/
structure FOk (t u : Tm) (rws : List (List D)) : Prop where
  sound : ∀ r ∈ rws, ∃ f : Int → D, r = (nums t).map f ∧ (∀ i ∈ nums t, CF (f i) ∧ Part u.form (f i)) ∧ t.fill f = u.form
  comp : ∀ f : Int → D, (∀ i ∈ nums t, CF (f i)) → t.fill f = u.form → (nums t).map f ∈ rws
  up : Upp (rws.map .tuple)
  num : rws.length ≤ 1000000
structure Lib6 (T : Str → Option Fd) (R : Nat → S) : Prop where
  opens : T (Str.ofString "opens") = some ⟨1, 2, b_opens, 0⟩
  lv : (T (Str.ofString "leaves")).isSome = true
  plain : T (Str.ofString "need_plain") = some ⟨1, 1, b_need_plain R, 0⟩
  fillings : T (Str.ofString "fillings") = some ⟨2, 7, b_fillings, 0⟩
def valF (fs : Fl) (i : Int) : D := (getKey fs (.int i)).getD .none
theorem agree_valF (fs : Fl) : Agree fs (valF fs) := fun i v h => by unfold valF; rw [h]; rfl
def rowK (ns : List Int) (fs : Fl) : D := .tuple (ns.map (valF fs))
theorem depthAll_mem {xs : List D} {n : Nat} (h : ∀ x ∈ xs, x.depth ≤ n) : PyData.depthAll xs ≤ n := depthAll_le h
theorem cmp_rows {f g : Int → D} : ∀ (ns : List Int), (∀ i ∈ ns, IsF (f i) ∧ IsF (g i)) → (ltD.ltAll (ns.map f) (ns.map g)).isSome = true
  | [], _ => rfl
  | n :: ns, h => by
    rw [List.map_cons, List.map_cons, ltD.ltAll]
    split
    · exact cmp_rows ns fun i hi => h i (List.mem_cons_of_mem _ hi)
    · exact (h n List.mem_cons_self).1.cmp _ (h n List.mem_cons_self).2
section
variable {GL : Str → Option D} {T : Str → Option Fd} {L : Nat} {R : Nat → S}
theorem r_need_plain (l1 : Lib1 GL T R) (l6 : Lib6 T R) (hL : 200 < L) (u : Tm) (ok : u.ok) (h40 : u.ls.length ≤ 40) (hcl : ∀ i, (true, i) ∉ u.ls) : Calls GL T L 5 (Str.ofString "need_plain") [u.d] (.ok .none .fr) := by
  intro q hq
  obtain ⟨q, rfl⟩ : ∃ m, q = m + 1 := ⟨q - 1, by omega⟩
  have c := r_opens (L := L) l1 l6.opens hL u ok h40 q (by omega)
  have e : sortI (opN u.ls) = [] := by
    cases q : sortI (opN u.ls) with
    | nil => rfl
    | cons i r => exact absurd (mem_opN.mp (sortI_mem.mp (by rw [q]; exact List.mem_cons_self))) (hcl i)
  rw [e] at c
  refine call_runs l6.plain rfl ?_
  unfold b_need_plain
  simp only [startG_def]
  exact .ifF (m := .fr) (g1 := [some (u.d, .fr)]) (by simp [c, eqv_nil]) (.skip (.nil rfl))
theorem r_fillings (l1 : Lib1 GL T R) (l5 : Lib5 T) (lm : Lib3m T) (l6 : Lib6 T R) (hL : 200 < L) (t u : Tm) (okt : t.ok) (oku : u.ok) (ht : t.ls.length ≤ 40) (hu : u.ls.length ≤ 20) (hcl : ∀ i, (true, i) ∉ u.ls) (hd : u.form.depth ≤ 7) (hn : t.ls.length ^ u.ls.length ≤ 1000000) :
    ∃ rws : List (List D), Calls GL T L (5 * t.ls.length + 30) (Str.ofString "fillings") [t.d, u.d] (.ok (.list (rws.map fun r => .dict (flR (nums t) r))) .ow) ∧ FOk t u rws := by
  obtain ⟨ct, lt⟩ := t.form_cf okt
  obtain ⟨cu, lu⟩ := u.form_cf oku
  have hno : ∀ i v, getKey ([] : Fl) (.int i) = some v → CF v := fun i v h => by cases h
  obtain ⟨ffs, hc, mk⟩ := r_matched (GL := GL) (L := L) l5 lm ct u.form [] cu (by omega) hno (by rw [lt]; simp; omega) (by rw [lu]; exact hu) (by rw [lt, lu]; exact hn)
  have hnum := mk.num
  rw [lt, lu] at hnum
  have wts := t.form_wt
  have hht := t.ht_ls
  have hhu := u.ht_ls
  have mem : ∀ i, (true, i) ∈ lsD t.form ↔ i ∈ nums t := fun i => by rw [mem_nums]; exact (form_ls t okt).mem_iff
  -- the values of each filling
  have vals : ∀ fs ∈ ffs, ∀ i ∈ nums t, getKey fs (.int i) = some (valF fs i) ∧ CF (valF fs i) ∧ Part u.form (valF fs i) := fun fs hfs i hi => by
    have ms := mk.sound fs hfs
    have h1 := (ms.has i).mpr (.inr ((mem i).mpr hi))
    obtain ⟨v, hv⟩ := Option.isSome_iff_exists.mp h1
    have e : valF fs i = v := by unfold valF; rw [hv]; rfl
    rw [e]
    rcases ms.new i v hv with h | h
    · cases h
    · exact ⟨hv, (part_ok h cu).cf, h⟩
  have isF : ∀ fs ∈ ffs, ∀ x ∈ (nums t).map (valF fs), CF x ∧ x.depth ≤ 7 := fun fs hfs x hx => by
    obtain ⟨i, hi, rfl⟩ := List.mem_map.mp hx
    obtain ⟨_, h2, h3⟩ := vals fs hfs i hi
    exact ⟨h2, Nat.le_trans (part_ok h3 cu).dp hd⟩
  have kok : ∀ x ∈ ffs.map (rowK (nums t)), keyOk x = true ∧ x.canLay0 = true ∧ x.depth ≤ 8 := fun x hx => by
    obtain ⟨fs, hfs, rfl⟩ := List.mem_map.mp hx
    refine ⟨?_, ?_, ?_⟩
    · exact plainAll_of fun y hy => (isF fs hfs y hy).1.isF.plain
    · simp only [rowK, PyData.canLay0]; exact layAll_of fun y hy => (isF fs hfs y hy).1.isF.lay
    · have := depthAll_le fun y hy => (isF fs hfs y hy).2
      simp only [rowK, PyData.depth]; omega
  have k1 : ∀ x ∈ ffs.map (rowK (nums t)), keyOk x = true := fun x hx => (kok x hx).1
  let ks := setK (ffs.map (rowK (nums t)))
  have hks : ∀ x, x ∈ ks ↔ x ∈ ffs.map (rowK (nums t)) := setK_mem k1
  have kl : ks.length ≤ ffs.length := by have := setK_len k1; rwa [List.length_map] at this
  have srt : sortable ks = true := by
    unfold sortable
    simp only [Bool.and_eq_true, Bool.or_eq_true, List.all_eq_true, decide_eq_true_eq]
    refine ⟨⟨⟨fun d hd' => ?_, fun x hx y hy => ?_⟩, by rw [sizeLine_eq]; omega⟩, ?_⟩
    · obtain ⟨a, b, c⟩ := kok d ((hks d).mp hd')
      exact ⟨⟨a, b⟩, by omega⟩
    · obtain ⟨f1, hf1, rfl⟩ := List.mem_map.mp ((hks x).mp hx)
      obtain ⟨f2, hf2, rfl⟩ := List.mem_map.mp ((hks y).mp hy)
      exact cmp_rows (nums t) fun i hi => ⟨(vals f1 hf1 i hi).2.1.isF, (vals f2 hf2 i hi).2.1.isF⟩
    · cases hns : nums t with
      | nil =>
        left; left
        have : ∀ x ∈ ks, x = .tuple [] := fun x hx => by
          obtain ⟨f1, hf1, rfl⟩ := List.mem_map.mp ((hks x).mp hx)
          simp [rowK, hns]
        have hnd : ks.Nodup := setK_nodup k1
        match ks, this, hnd with
        | [], _, _ => simp
        | [_], _, _ => simp
        | a :: b :: r, h, hn =>
          exfalso
          have e1 := h a (by simp)
          have e2 := h b (by simp)
          rw [e1, e2] at hn
          simp at hn
      | cons i0 ns0 =>
        right
        intro d hd'
        obtain ⟨f1, hf1, rfl⟩ := List.mem_map.mp ((hks d).mp hd')
        obtain ⟨x, xs, e⟩ := (isF f1 hf1 (valF f1 i0) (by rw [hns]; simp)).1.isF.str
        simp only [rowK, hns, List.map_cons, e]
        rfl
  -- the rows in order
  have pm := sortD_perm ks
  have tupOf : ∀ x ∈ sortD ks, ∃ fs ∈ ffs, x = rowK (nums t) fs := fun x hx => by
    obtain ⟨f1, hf1, rfl⟩ := List.mem_map.mp ((hks x).mp (pm.mem_iff.mp hx))
    exact ⟨f1, hf1, rfl⟩
  let itm : D → List D := fun d => match d with | .tuple r => r | _ => []
  have eitm : (sortD ks).map (fun d => PyData.tuple (itm d)) = sortD ks := by
    conv => rhs; rw [← List.map_id (sortD ks)]
    refine List.map_congr_left fun x hx => ?_
    obtain ⟨fs, _, rfl⟩ := tupOf x hx
    rfl
  refine ⟨(sortD ks).map itm, fun q hq => ?_, ⟨fun r hr => ?_, fun f hf hfill => ?_, ?_, ?_⟩⟩
  · obtain ⟨q, rfl⟩ : ∃ m, q = m + 1 := ⟨q - 1, by omega⟩
    have c1 := r_leaves (L := L) l1 l6.lv hL t okt ht q (by omega)
    have c2 := r_need_plain (L := L) l1 l6 hL u oku (by omega) hcl q (by omega)
    have c3 := r_opens (L := L) l1 l6.opens hL t okt ht q (by omega)
    have c4 := r_flat (L := L) l1 l5 t (by omega) q (by omega)
    have c5 := r_flat (L := L) l1 l5 u (by omega) q (by omega)
    have c6 := hc q (by omega)
    have hnl := nums_len t
    refine call_runs l6.fillings rfl ?_
    unfold b_fillings
    simp only [startG_def]
    refine .ex (p := (.int t.ls.length, .fr)) (g1 := [some (t.d, .fr), some (u.d, .fr), none, none, none, none, none]) (by simp [c1]) ?_
    refine .ex (p := (.none, .fr)) (g1 := [some (t.d, .fr), some (u.d, .fr), none, none, none, none, none]) (by simp [c2]) ?_
    refine .set (p := (.list ((nums t).map .int), .ow)) (g1 := [some (t.d, .fr), some (u.d, .fr), none, none, none, none, none]) (by simp [c3, nums]) ?_
    refine .set (p := (.dict [], .on)) (by simp; rfl) ?_
    simp only [List.set_cons_zero, List.set_cons_succ]
    refine .for_ (ds := ffs.map flD) (m := .ow) (d := .list (ffs.map flD)) (g1 := [some (t.d, .fr), some (u.d, .fr), some (.list ((nums t).map .int), .ow), some (.dict [], .on), none, none, none])
      (fun j g => ∃ (m2 : Md) (z : Sl), (m2 = .ow ∨ m2 = .fr) ∧ g = [some (t.d, .fr), some (u.d, .fr), some (.list ((nums t).map .int), m2), some (.dict (trueD (setK ((ffs.map (rowK (nums t))).take j))), .on), z, none, none]) (by simp [c4, c5, c6]) (by decide) rfl ⟨.ow, none, .inl rfl, rfl⟩ ?_ ?_
    · rintro j d g hj ⟨m2, z, hm2, rfl⟩
      rw [List.getElem?_map, Option.map_eq_some_iff] at hj
      obtain ⟨fs, hfs, rfl⟩ := hj
      have hmem := List.mem_of_getElem? hfs
      have hrow : (ffs.map (rowK (nums t)))[j]? = some (rowK (nums t) fs) := by rw [List.getElem?_map, hfs]; rfl
      have hjl := (List.getElem?_eq_some_iff.mp hfs).1
      have kj : ((trueD (setK ((ffs.map (rowK (nums t))).take j)))).length ≤ 1000000 := by
        have := setK_len (l := (ffs.map (rowK (nums t))).take j) fun x hx => k1 x (List.mem_of_mem_take hx)
        unfold trueD
        rw [List.length_map]
        simp at this
        omega
      have ktk : tupKey (rowK (nums t) fs) = true := by
        obtain ⟨a, b, c⟩ := kok _ (List.mem_map.mpr ⟨fs, hmem, rfl⟩)
        unfold tupKey
        simp only [rowK] at a b c ⊢
        simp [a, b, c]
      refine ⟨[some (t.d, .fr), some (u.d, .fr), some (.list ((nums t).map .int), .fr), some (.dict (trueD (setK ((ffs.map (rowK (nums t))).take (j + 1)))), .on), some (flD fs, .fr), none, none], ?_, .fr, _, .inr rfl, rfl⟩
      rw [setK_take hrow, ← put_true]
      have e1 : ∀ m2 : Md, (m2 = .ow ∨ m2 = .fr) → ev GL (callD GL T L q) (.lc (.ix (.var 4) (.var 6)) 6 (.var 2) .nil [4]) [some (t.d, .fr), some (u.d, .fr), some (.list ((nums t).map .int), m2), some (.dict (trueD (setK ((ffs.map (rowK (nums t))).take j))), .on), some (flD fs, .fr), none, none] =
          .ok (.list ((nums t).map (valF fs)), .ow) [some (t.d, .fr), some (u.d, .fr), some (.list ((nums t).map .int), .fr), some (.dict (trueD (setK ((ffs.map (rowK (nums t))).take j))), .on), some (flD fs, .fr), none, none] := by
        intro m2 hm2
        refine lc_run0 (m := .fr) (d := .list ((nums t).map .int)) (fun i => .int i) (valF fs) (nums t) (by rcases hm2 with rfl | rfl <;> simp [flD]) (by decide) rfl (fun i hi => ?_) (by rw [sizeLine_eq]; omega)
        have := (vals fs hmem i hi).1
        exact ⟨.fr, _, by decide, by simp [flD, this]; rfl⟩
      generalize hA : trueD (setK ((ffs.map (rowK (nums t))).take j)) = AA at *
      have hz : AA.length < 16777216 := by omega
      have e2 : ev GL (callD GL T L q) (.tuple (.lc (.ix (.var 4) (.var 6)) 6 (.var 2) .nil [4])) [some (t.d, .fr), some (u.d, .fr), some (.list ((nums t).map .int), m2), some (.dict AA, .on), some (flD fs, .fr), none, none] =
          .ok (rowK (nums t) fs, .fr) [some (t.d, .fr), some (u.d, .fr), some (.list ((nums t).map .int), .fr), some (.dict AA, .on), some (flD fs, .fr), none, none] := by
        rw [ev]
        simp only [opn, e1 m2 hm2, bd_ok]
        simp [rowK]
      show ex GL (callD GL T L q) L _ _ = _
      refine Runs.body (.sq ?_ (.nil rfl))
      rw [ex]
      simp only [List.set_cons_zero, List.set_cons_succ, ev_bl_b, bd_ok, e2]
      simp [ktk, hz]
    · rintro g ⟨m2, z, hm2, rfl⟩
      have etl : (ffs.map (rowK (nums t))).take (ffs.map flD).length = ffs.map (rowK (nums t)) := by
        rw [List.length_map]
        exact List.take_of_length_le (by rw [List.length_map]; exact Nat.le_refl _)
      rw [etl]
      refine .ret (d := .list (((sortD ks).map itm).map fun r => .dict (flR (nums t) r))) (m := .ow) (g1 := [some (t.d, .fr), some (u.d, .fr), some (.list ((nums t).map .int), .fr), some (.dict (trueD ks), .on), z, none, none]) ?_ rfl
      rw [retv_lc, List.map_map]
      refine lc_run0 (m := .ow) (d := .list (sortD ks)) (fun d => d) (fun d => .dict (flR (nums t) (itm d))) (sortD ks) ?_ (by decide) (by simp) (fun d hd' => ?_) (by rw [pm.length_eq, sizeLine_eq]; omega)
      · have : (trueD ks).map (fun x => x.1) = ks := keys_true ks
        have srt' := srt
        rcases hm2 with rfl | rfl
        · simp
          rw [show setK (ffs.map (rowK (nums t))) = ks from rfl, this]
          simp [srt']
        · simp
          rw [show setK (ffs.map (rowK (nums t))) = ks from rfl, this]
          simp [srt']
      · obtain ⟨fs, hfs, rfl⟩ := tupOf d hd'
        have hzip : dictzipD (.list ((nums t).map .int)) (rowK (nums t) fs) = some (.dict (flR (nums t) ((nums t).map (valF fs))), .ow) := by
          have h1 : ((nums t).map PyData.int).all isInt = true := by rw [List.all_map, List.all_eq_true]; exact fun _ _ => rfl
          have h2 : zipKV ((nums t).map .int) ((nums t).map (valF fs)) [] = flR (nums t) ((nums t).map (valF fs)) := by
            rw [zipKV_new _ _ _ (up_nodup (nums_up t)) fun i _ => rfl]; rfl
          show (if _ then some _ else none) = _
          rw [if_pos (by simp [h1]; omega), h2]
        refine ⟨.ow, [some (t.d, .fr), some (u.d, .fr), some (.list ((nums t).map .int), .fr), none, hide1 z, some (rowK (nums t) fs, .fr), none], by decide, ?_⟩
        simp [hzip]
        exact rfl
  · obtain ⟨d, hd', rfl⟩ := List.mem_map.mp hr
    obtain ⟨fs, hfs, rfl⟩ := tupOf d hd'
    have ms := mk.sound fs hfs
    refine ⟨valF fs, rfl, fun i hi => ⟨(vals fs hfs i hi).2.1, (vals fs hfs i hi).2.2⟩, ?_⟩
    rw [← put_form_fill (valF fs) t okt fun i hi => (vals fs hfs i (mem_nums.mpr hi)).2.1]
    exact ms.put _ (agree_valF fs)
  · obtain ⟨fs, hfs, hag⟩ := mk.comp f (fun i v h => by cases h) (fun i hi => hf i ((mem i).mp hi)) (by rw [put_form_fill f t okt fun i hi => hf i (mem_nums.mpr hi)]; exact hfill)
    have e : (nums t).map f = (nums t).map (valF fs) := List.map_congr_left fun i hi => hag i _ (vals fs hfs i hi).1
    rw [e]
    exact List.mem_map.mpr ⟨rowK (nums t) fs, pm.mem_iff.mpr ((hks _).mpr (List.mem_map.mpr ⟨fs, hfs, rfl⟩)), rfl⟩
  · rw [List.map_map]
    show Upp ((sortD ks).map fun d => PyData.tuple (itm d))
    rw [eitm]
    have so := sortOk_of srt
    refine upp_of (fun x hx => (so.plain x (pm.mem_iff.mp hx)).1) (sortD_up (fun x hx => (so.plain x hx).1) so.cmp) (pm.nodup_iff.mpr (setK_nodup k1))
  · rw [List.length_map, pm.length_eq]; omega
end
end DL

set_option Elab.async false
set_option linter.all false
set_option maxRecDepth 100000
/-! PR: all parts of a whole, by a list of waiting ones. -/
namespace DL
open PySem L2
/-- forms inside a form -/
inductive Sub : D → D → Prop
  | self (w : D) : Sub w w
  | fst {a b v : D} : Sub a v → Sub (.tuple [.str (Str.ofString "pair"), a, b]) v
  | snd {a b v : D} : Sub b v → Sub (.tuple [.str (Str.ofString "pair"), a, b]) v
  | memb {s : Sn} {xs : List D} {x v : D} : s ≠ .pair → x ∈ xs → Sub x v → Sub (.tuple (.str s.s :: xs)) v
theorem Sub.part {w x v : D} (h : Sub w x) (hp : Part x v) : Part w v := by
  induction h with
  | self => exact hp
  | fst _ ih => exact .fst (ih hp)
  | snd _ ih => exact .snd (ih hp)
  | memb hs hx _ ih => exact .memb hs hx (ih hp)
theorem Sub.trans {w x v : D} (h : Sub w x) (hp : Sub x v) : Sub w v := by
  induction h with
  | self => exact hp
  | fst _ ih => exact .fst (ih hp)
  | snd _ ih => exact .snd (ih hp)
  | memb hs hx _ ih => exact .memb hs hx (ih hp)
theorem part_inv {x v : D} (h : Part x v) : v = x ∨ (∃ a b, x = .tuple [.str (Str.ofString "pair"), a, b] ∧ (Part a v ∨ Part b v)) ∨ (∃ (s : Sn) (xs : List D), s ≠ .pair ∧ x = .tuple (.str s.s :: xs) ∧ PartS s xs v) := by
  cases h with
  | self => exact .inl rfl
  | fst h => exact .inr (.inl ⟨_, _, rfl, .inl h⟩)
  | snd h => exact .inr (.inl ⟨_, _, rfl, .inr h⟩)
  | memb hs hx h => exact .inr (.inr ⟨_, _, hs, rfl, .inl ⟨_, hx, h⟩⟩)
  | some hs h1 h2 => exact .inr (.inr ⟨_, _, hs, rfl, .inr ⟨_, h1, h2, rfl⟩⟩)
theorem part_leaf {o : Bool} {i : Int} {v : D} (h : Part (.tuple [.str (kS o), .int i]) v) : v = .tuple [.str (kS o), .int i] := by
  rcases part_inv h with h | ⟨a, b, e, _⟩ | ⟨s, xs, _, e, _⟩
  · exact h
  · simp at e
  · simp only [PyData.tuple.injEq, List.cons.injEq, PyData.str.injEq] at e
    exact absurd e.1 kS_sn
theorem part_pair {a b v : D} (h : Part (.tuple [.str (Str.ofString "pair"), a, b]) v) : v = .tuple [.str (Str.ofString "pair"), a, b] ∨ Part a v ∨ Part b v := by
  rcases part_inv h with h | ⟨a', b', e, h⟩ | ⟨s, xs, hs, e, _⟩
  · exact .inl h
  · simp at e
    obtain ⟨rfl, rfl⟩ := e
    exact .inr h
  · simp only [PyData.tuple.injEq, List.cons.injEq, PyData.str.injEq] at e
    exact absurd (Sn.inj (s := s) (s' := .pair) e.1.symm) hs
theorem part_row {s : Sn} {xs : List D} {v : D} (hs : s ≠ .pair) (h : Part (.tuple (.str s.s :: xs)) v) : v = .tuple (.str s.s :: xs) ∨ PartS s xs v := by
  rcases part_inv h with h | ⟨a, b, e, h⟩ | ⟨s', xs', _, e, h⟩
  · exact .inl h
  · simp only [PyData.tuple.injEq, List.cons.injEq, PyData.str.injEq] at e
    exact absurd (Sn.inj (s := s) (s' := .pair) e.1) hs
  · simp only [PyData.tuple.injEq, List.cons.injEq, PyData.str.injEq] at e
    obtain ⟨e1, rfl⟩ := e
    have := Sn.inj e1
    subst this
    exact .inr h
/-- the state of the search: found ones, waiting ones -/
structure TI (whole : D) (ks W : List D) : Prop where
  key : ∀ v ∈ ks, Part whole v
  wait : ∀ x ∈ W, Sub whole x
  nd : ks.Nodup
  full : ∀ v, Part whole v → v ∈ ks ∨ ∃ x ∈ W, Part x v
  num : ks.length + 20 * wts W ≤ 20 * wt whole
theorem TI.start (whole : D) : TI whole [] [whole] where
  key := fun v h => by cases h
  wait := fun x h => by simp at h; subst h; exact .self _
  nd := List.nodup_nil
  full := fun v h => .inr ⟨whole, by simp, h⟩
  num := by simp [wts]
theorem part_key {w v : D} (cw : CF w) (h : Part w v) : keyOk v = true := (part_ok h cw).cf.isF.plain
theorem TI.step {whole x : D} {ks W J C : List D} (cw : CF whole) (h : TI whole ks (W ++ [x])) (hJ : ∀ v ∈ J, Part x v) (hC : ∀ c ∈ C, Sub x c) (cov : ∀ v, Part x v → v = x ∨ v ∈ J ∨ ∃ c ∈ C, Part c v) (hn : J.length + 1 + 20 * wts C ≤ 20 * wt x) : TI whole ((x :: J).foldl addK ks) (W ++ C) := by
  have hx : Sub whole x := h.wait x (by simp)
  have hxJ : ∀ v ∈ x :: J, Part whole v := fun v hv => by
    rcases List.mem_cons.mp hv with rfl | hv
    · exact hx.part (.self _)
    · exact hx.part (hJ v hv)
  obtain ⟨m1, m2, m3⟩ := setK_ok (x :: J) ks (fun v hv => part_key cw (hxJ v hv)) (fun v hv => part_key cw (h.key v hv)) h.nd
  refine ⟨fun v hv => ?_, fun c hc => ?_, m2, fun v hv => ?_, ?_⟩
  · rcases (m1 v).mp hv with hv | hv
    · exact h.key v hv
    · exact hxJ v hv
  · rcases List.mem_append.mp hc with hc | hc
    · exact h.wait c (by simp [hc])
    · exact hx.trans (hC c hc)
  · rcases h.full v hv with hv | ⟨y, hy, hv⟩
    · exact .inl ((m1 v).mpr (.inl hv))
    · rcases List.mem_append.mp hy with hy | hy
      · exact .inr ⟨y, by simp [hy], hv⟩
      · simp at hy; subst hy
        rcases cov v hv with rfl | hv | ⟨c, hc, hv⟩
        · exact .inl ((m1 _).mpr (.inr (by simp)))
        · exact .inl ((m1 _).mpr (.inr (by simp [hv])))
        · exact .inr ⟨c, by simp [hc], hv⟩
  · have := h.num
    rw [wts_append] at this ⊢
    simp [wts] at this
    rw [List.length_cons] at m3
    omega
theorem TI.leaf {whole : D} {ks W : List D} {o : Bool} {i : Int} (cw : CF whole) (h : TI whole ks (W ++ [.tuple [.str (kS o), .int i]])) : TI whole (addK ks (.tuple [.str (kS o), .int i])) W := by
  have := h.step cw (J := []) (C := []) (fun v hv => by cases hv) (fun v hv => by cases hv) (fun v hv => .inl (part_leaf hv)) (by simp [wts, wt])
  simpa using this
theorem TI.pair {whole a b : D} {ks W : List D} (cw : CF whole) (h : TI whole ks (W ++ [.tuple [.str (Str.ofString "pair"), a, b]])) : TI whole (addK ks (.tuple [.str (Str.ofString "pair"), a, b])) (W ++ [a, b]) := by
  refine h.step cw (J := []) (C := [a, b]) (fun v hv => by cases hv) (fun v hv => ?_) (fun v hv => ?_) (by simp [wts, wt]; omega)
  · simp at hv
    rcases hv with rfl | rfl
    · exact .fst (.self _)
    · exact .snd (.self _)
  · rcases part_pair hv with hv | hv | hv
    · exact .inl hv
    · exact .inr (.inr ⟨a, by simp, hv⟩)
    · exact .inr (.inr ⟨b, by simp, hv⟩)
theorem TI.join {whole : D} {s : Sn} {xs ks W J : List D} (cw : CF whole) (hs : s ≠ .pair) (h : TI whole ks (W ++ [.tuple (.str s.s :: xs)])) (hJ : ∀ v, v ∈ J ↔ ∃ ys, ys.Sublist xs ∧ ys ≠ [] ∧ v = joinR s.s ys) (hn : J.length ≤ 16) : TI whole ((.tuple (.str s.s :: xs) :: J).foldl addK ks) (W ++ xs) := by
  refine h.step cw (fun v hv => ?_) (fun v hv => .memb hs hv (.self _)) (fun v hv => ?_) (by simp [wts, wt]; omega)
  · obtain ⟨ys, h1, h2, rfl⟩ := (hJ v).mp hv
    exact .some hs h1 h2
  · rcases part_row hs hv with hv | hv | hv
    · exact .inl hv
    · exact .inr (.inr hv)
    · exact .inr (.inl ((hJ v).mpr hv))
/-- what is found at last -/
theorem TI.done {whole : D} {ks : List D} (h : TI whole ks []) : (∀ v, v ∈ ks ↔ Part whole v) ∧ ks.Nodup ∧ ks.length ≤ 20 * wt whole :=
  ⟨fun v => ⟨h.key v, fun hv => by rcases h.full v hv with h | ⟨x, hx, _⟩; exact h; cases hx⟩, h.nd, by have := h.num; simp [wts] at this; exact this⟩
/-! ### all rows out of a row -/
def subR (xs : List D) : List (List D) := xs.foldl (fun rows x => rows ++ rows.map (· ++ [x])) [[]]
theorem subR_snoc (xs : List D) (x : D) : subR (xs ++ [x]) = subR xs ++ (subR xs).map (· ++ [x]) := by simp [subR]
theorem snoc_ind {α : Type} {P : List α → Prop} (h0 : P []) (h : ∀ l x, P l → P (l ++ [x])) (l : List α) : P l := by
  have : ∀ m : List α, P m.reverse := by
    intro m
    induction m with
    | nil => exact h0
    | cons x m ih => rw [List.reverse_cons]; exact h _ _ ih
  have := this l.reverse
  rwa [List.reverse_reverse] at this
theorem subR_len (xs : List D) : (subR xs).length = 2 ^ xs.length := by
  induction xs using snoc_ind with
  | h0 => rfl
  | h l x ih => rw [subR_snoc]; simp [ih, Nat.pow_succ]; omega
theorem sublist_snoc {α : Type} {r l : List α} {x : α} : r.Sublist (l ++ [x]) ↔ r.Sublist l ∨ ∃ r', r = r' ++ [x] ∧ r'.Sublist l := by
  constructor
  · intro h
    obtain ⟨a, b, rfl, ha, hb⟩ := List.sublist_append_iff.mp h
    cases b with
    | nil => left; simpa using ha
    | cons y b =>
      have h1 := hb.length_le
      have h2 := hb.subset (List.mem_cons_self)
      simp at h1 h2
      subst h1; subst h2
      right; exact ⟨a, rfl, ha⟩
  · rintro (h | ⟨r', rfl, h⟩)
    · exact h.trans (List.sublist_append_left _ _)
    · exact h.append (List.Sublist.refl _)
theorem subR_mem (xs : List D) : ∀ r, r ∈ subR xs ↔ r.Sublist xs := by
  induction xs using snoc_ind with
  | h0 => intro r; simp [subR]
  | h l x ih =>
    intro r
    rw [subR_snoc, List.mem_append, sublist_snoc, ih]
    refine or_congr Iff.rfl ?_
    simp only [List.mem_map]
    constructor
    · rintro ⟨a, ha, rfl⟩; exact ⟨a, rfl, (ih a).mp ha⟩
    · rintro ⟨a, rfl, ha⟩; exact ⟨a, (ih a).mpr ha, rfl⟩
theorem subR_head (xs : List D) : ∃ tl, subR xs = [] :: tl ∧ ∀ r, r ∈ tl ↔ r.Sublist xs ∧ r ≠ [] := by
  have : ∃ tl, subR xs = [] :: tl ∧ ∀ r ∈ tl, r ≠ [] := by
    induction xs using snoc_ind with
    | h0 => exact ⟨[], rfl, fun r h => by cases h⟩
    | h l x ih =>
      obtain ⟨tl, e, h⟩ := ih
      refine ⟨tl ++ ([] :: tl).map (· ++ [x]), by rw [subR_snoc, e]; rfl, fun r hr => ?_⟩
      rcases List.mem_append.mp hr with hr | hr
      · exact h r hr
      · obtain ⟨a, _, rfl⟩ := List.mem_map.mp hr
        simp
  obtain ⟨tl, e, h⟩ := this
  refine ⟨tl, e, fun r => ⟨fun hr => ⟨(subR_mem xs r).mp (by rw [e]; exact List.mem_cons_of_mem _ hr), h r hr⟩, fun hr => ?_⟩⟩
  have := (subR_mem xs r).mpr hr.1
  rw [e] at this
  exact (List.mem_cons.mp this).resolve_left hr.2
theorem ex_runs {GL : Str → Option D} {C : Orc} {L : Nat} {b : S} {g : Sg} {P : Sg → Prop} (h : Runs GL C L b g fun y => ∃ g2, y = .ok .next g2 ∧ P g2) : ∃ g2, ex GL C L b g = .ok .next g2 ∧ P g2 := h
/-! ### all rows of a length, in order -/
def prodR (ts : List D) : Nat → List (List D)
  | 0 => [[]]
  | j + 1 => (prodR ts j).flatMap fun r => ts.map fun x => r ++ [x]
theorem prodR_len (ts : List D) : ∀ j, (prodR ts j).length = ts.length ^ j
  | 0 => rfl
  | j + 1 => by
    simp only [prodR, List.length_flatMap, List.length_map]
    rw [show (List.map (fun x : List D => ts.length) (prodR ts j)).sum = ts.length ^ j * ts.length from ?_, Nat.pow_succ]
    rw [List.map_const', List.sum_replicate_nat, prodR_len ts j]
theorem prodR_mem (ts : List D) : ∀ j r, r ∈ prodR ts j ↔ r.length = j ∧ ∀ x ∈ r, x ∈ ts
  | 0, r => by
    simp only [prodR, List.mem_singleton]
    exact ⟨fun h => by subst h; simp, fun h => List.length_eq_zero_iff.mp h.1⟩
  | j + 1, r => by
    simp only [prodR, List.mem_flatMap, List.mem_map]
    constructor
    · rintro ⟨a, ha, x, hx, rfl⟩
      obtain ⟨h1, h2⟩ := (prodR_mem ts j a).mp ha
      refine ⟨by simp [h1], fun y hy => ?_⟩
      rcases List.mem_append.mp hy with hy | hy
      · exact h2 y hy
      · simp at hy; subst hy; exact hx
    · rintro ⟨h1, h2⟩
      rcases snoc_cases r with rfl | ⟨a, x, rfl⟩
      · simp at h1
      · exact ⟨a, (prodR_mem ts j a).mpr ⟨by simpa using h1, fun y hy => h2 y (by simp [hy])⟩, x, h2 x (by simp), rfl⟩
theorem cmpTs_more : ∀ {r r' a b : List D}, cmpTs r r' = .lt → r.length = r'.length → cmpTs (r ++ a) (r' ++ b) = .lt
  | [], [], a, b, h, _ => by simp [cmpTs] at h
  | [], _ :: _, a, b, _, hl => by simp at hl
  | _ :: _, [], a, b, _, hl => by simp at hl
  | x :: r, y :: r', a, b, h, hl => by
    rw [cmpTs] at h
    rw [List.cons_append, List.cons_append, cmpTs]
    cases e : cmpT x y with
    | eq =>
      rw [e] at h
      exact cmpTs_more h (by simpa using hl)
    | lt => rfl
    | gt => rw [e] at h; cases h
theorem cmpTs_same : ∀ (r : List D) {a b : List D}, cmpTs (r ++ a) (r ++ b) = cmpTs a b
  | [], a, b => rfl
  | x :: r, a, b => by
    rw [List.cons_append, List.cons_append, cmpTs, cmpT_refl]
    exact cmpTs_same r
theorem ltB_tup {a b : List D} : ltB (.tuple a) (.tuple b) = true ↔ cmpTs a b = .lt := by
  rw [ltB_iff, cmpT]
theorem prodR_upp {ts : List D} (h : Upp ts) : ∀ j, Upp ((prodR ts j).map .tuple)
  | 0 => by simp [prodR]
  | j + 1 => by
    have ih := prodR_upp h j
    have hl : ∀ r ∈ prodR ts j, r.length = j := fun r hr => ((prodR_mem ts j r).mp hr).1
    simp only [prodR]
    generalize prodR ts j = R at *
    rw [Upp, List.pairwise_map] at ih ⊢
    rw [List.pairwise_flatMap]
    refine ⟨fun r hr' => ?_, ?_⟩
    · rw [List.pairwise_map]
      refine List.Pairwise.imp_of_mem ?_ h
      intro x y hx hy hxy
      rw [ltB_iff] at hxy
      rw [ltB_tup, cmpTs_same, cmpTs, hxy]
    · refine List.Pairwise.imp_of_mem ?_ ih
      intro r r' h1 h2 hrr x hx y hy
      obtain ⟨a, ha, rfl⟩ := List.mem_map.mp hx
      obtain ⟨b, hb, rfl⟩ := List.mem_map.mp hy
      rw [ltB_tup] at hrr ⊢
      exact cmpTs_more hrr (by rw [hl r h1, hl r' h2])
theorem row_fun : ∀ {ns : List Int} {r : List D}, ns.Nodup → r.length = ns.length → r = ns.map (valF (flR ns r))
  | [], [], _, _ => rfl
  | [], _ :: _, _, h => by simp at h
  | _ :: _, [], _, h => by simp at h
  | n :: ns, x :: r, hn, h => by
    obtain ⟨h1, h2⟩ := List.nodup_cons.mp hn
    have ih := row_fun (r := r) h2 (by simpa using h)
    have e0 : valF (flR (n :: ns) (x :: r)) n = x := by simp [valF, flR, getKey]
    have e1 : ∀ i ∈ ns, valF (flR (n :: ns) (x :: r)) i = valF (flR ns r) i := fun i hi => by
      have c : n ≠ i := fun e => h1 (e ▸ hi)
      have e : PyData.eqv (.int n) (.int i) = false := by simp [c]
      unfold valF flR getKey
      simp only [List.zip_cons_cons, List.map_cons, List.find?_cons, e]
    rw [List.map_cons, e0, List.map_congr_left e1, ← ih]
theorem flR_snoc {ns : List Int} {r : List D} {n : Int} {x : D} (h : ns[r.length]? = some n) : flR ns (r ++ [x]) = flR ns r ++ [(.int n, x)] := by
  induction ns generalizing r with
  | nil => simp at h
  | cons m ns ih =>
    cases r with
    | nil =>
      simp at h; subst h
      simp [flR]
    | cons y r =>
      have := ih (r := r) (by simpa using h)
      unfold flR at this ⊢
      simp only [List.cons_append, List.zip_cons_cons, List.map_cons, this]
theorem flR_free {ns : List Int} {r : List D} {n : Int} (hn : ns.Nodup) (h : ns[r.length]? = some n) : hasKey (flR ns r) (.int n) = false := by
  induction ns generalizing r with
  | nil => simp at h
  | cons m ns ih =>
    obtain ⟨h1, h2⟩ := List.nodup_cons.mp hn
    cases r with
    | nil => simp [flR, hasKey]
    | cons y r =>
      have h' : ns[r.length]? = some n := by simpa using h
      have ih := ih (r := r) h2 h'
      have c : m ≠ n := fun e => h1 (e ▸ List.mem_of_getElem? h')
      have e : PyData.eqv (.int m) (.int n) = false := by simp [c]
      unfold flR hasKey at ih ⊢
      simp only [List.zip_cons_cons, List.map_cons, List.any_cons, e, Bool.false_or]
      exact ih
theorem flR_put {ns : List Int} {r : List D} {n : Int} {x : D} (hn : ns.Nodup) (h : ns[r.length]? = some n) : putKey (flR ns r) (.int n) x = flR ns (r ++ [x]) := by
  rw [putKey_new (flR_free hn h), flR_snoc h]
/-- the row makes the pattern that whole -/
def fitB (t : Tm) (ns : List Int) (w : D) (r : List D) : Bool := PyData.eqv (t.fill (valF (flR ns r))) w
theorem row_get {ns : List Int} {r : List D} (hn : ns.Nodup) (h : r.length = ns.length) {i : Int} (hi : i ∈ ns) : getKey (flR ns r) (.int i) = some (valF (flR ns r) i) ∧ valF (flR ns r) i ∈ r := by
  have e := row_fun hn h
  constructor
  · have := flR_get (f := valF (flR ns r)) hi
    rwa [← e] at this
  · have : valF (flR ns r) i ∈ ns.map (valF (flR ns r)) := List.mem_map.mpr ⟨i, hi, rfl⟩
    rwa [← e] at this
theorem row_fit {t : Tm} {ns : List Int} {w : D} {ts : List D} (okt : t.ok) (cw : CF w) (hn : ns.Nodup) (hin : ∀ i, (true, i) ∈ t.ls → i ∈ ns) (hm : ∀ v, v ∈ ts ↔ Part w v) {r : List D} (hr : r ∈ prodR ts ns.length) :
    (∀ i, (true, i) ∈ t.ls → getKey (flR ns r) (.int i) = some (valF (flR ns r) i) ∧ CF (valF (flR ns r) i) ∧ lvD (valF (flR ns r) i) ≤ lvD w ∧ (valF (flR ns r) i).depth ≤ w.depth + 1) ∧ CF (t.fill (valF (flR ns r))) ∧ (t.fill (valF (flR ns r))).depth ≤ t.ht + w.depth ∧ (fitB t ns w r = true ↔ t.fill (valF (flR ns r)) = w) := by
  obtain ⟨h3, h4⟩ := (prodR_mem ts _ r).mp hr
  have h : ∀ i, (true, i) ∈ t.ls → getKey (flR ns r) (.int i) = some (valF (flR ns r) i) ∧ CF (valF (flR ns r) i) ∧ lvD (valF (flR ns r) i) ≤ lvD w ∧ (valF (flR ns r) i).depth ≤ w.depth + 1 := fun i hi => by
    obtain ⟨h1, h2⟩ := row_get hn h3 (hin i hi)
    have := part_ok ((hm _).mp (h4 _ h2)) cw
    exact ⟨h1, this.cf, this.lv, by have := this.dp; omega⟩
  obtain ⟨f1, f2, f3⟩ := fill_cf (valF (flR ns r)) (lvD w) w.depth (cf_small cw).2.2 t okt fun i hi => (h i hi).2
  exact ⟨h, f1, f3, eqv_cf f1 cw⟩
theorem fok_tries {t u : Tm} {rws : List (List D)} {ts : List D} (okt : t.ok) (oku : u.ok) (h : FOk t u rws) (hup : Upp ts) (hm : ∀ v, v ∈ ts ↔ Part u.form v) :
    (prodR ts (nums t).length).filter (fitB t (nums t) u.form) = rws := by
  obtain ⟨cu, lu⟩ := u.form_cf oku
  have cf : ∀ x ∈ ts, CF x := fun x hx => (part_ok ((hm x).mp hx) cu).cf
  have hin : ∀ i, (true, i) ∈ t.ls → i ∈ nums t := fun i hi => mem_nums.mpr hi
  have key : ((prodR ts (nums t).length).filter (fitB t (nums t) u.form)).map PyData.tuple = rws.map .tuple := by
    refine upp_one (fun x hx => ?_) ?_ h.up fun x => ?_
    · obtain ⟨r, hr, rfl⟩ := List.mem_map.mp hx
      have := ((prodR_mem ts _ r).mp (List.mem_filter.mp hr).1).2
      exact plainAll_of fun y hy => (cf y (this y hy)).isF.plain
    · exact (prodR_upp hup _).sublist (List.filter_sublist.map _)
    · simp only [List.mem_map, List.mem_filter]
      constructor
      · rintro ⟨r, ⟨h1, h2⟩, rfl⟩
        obtain ⟨h3, h4⟩ := (prodR_mem ts _ r).mp h1
        have e := row_fun (up_nodup (nums_up t)) h3
        have h2 := (row_fit okt cu (up_nodup (nums_up t)) hin hm h1).2.2.2.mp h2
        have hc := h.comp (valF (flR (nums t) r)) (fun i hi => cf _ (h4 _ (row_get (up_nodup (nums_up t)) h3 hi).2)) h2
        rw [← e] at hc
        exact ⟨r, hc, rfl⟩
      · rintro ⟨r, hr, rfl⟩
        obtain ⟨f, e, h1, h2⟩ := h.sound r hr
        have hp : r ∈ prodR ts (nums t).length := (prodR_mem ts _ r).mpr ⟨by rw [e]; simp, fun x hx => by
          rw [e] at hx
          obtain ⟨i, hi, rfl⟩ := List.mem_map.mp hx
          exact (hm _).mpr (h1 i hi).2⟩
        refine ⟨r, ⟨hp, (row_fit okt cu (up_nodup (nums_up t)) hin hm hp).2.2.2.mpr ?_⟩, rfl⟩
        rw [← h2]
        refine fill_congr t fun i hi => ?_
        have hi := mem_nums.mpr hi
        rw [e]
        unfold valF
        rw [flR_get hi]
        rfl
  have inj : ∀ l m : List (List D), l.map PyData.tuple = m.map .tuple → l = m := by
    intro l
    induction l with
    | nil => intro m e; cases m with
      | nil => rfl
      | cons _ _ => cases e
    | cons a l ih => intro m e; cases m with
      | nil => cases e
      | cons b m =>
        simp only [List.map_cons, List.cons.injEq, PyData.tuple.injEq] at e
        rw [e.1, ih m e.2]
  exact inj _ _ key
end DL

set_option Elab.async false
set_option linter.all false
set_option maxRecDepth 100000
/-! PS: a loop that may return; same, of any two. -/
namespace DL
open PySem L2
theorem for_inv_or {f : D → Sg → Res Ctl} (I : Nat → Sg → Prop) {Q : Res Ctl → Prop} (ds : List D) {g : Sg} (h0 : I 0 g) (hs : ∀ i d g, ds[i]? = some d → I i g → (∃ g', f d g = .ok .next g' ∧ I (i + 1) g') ∨ ∃ v m g', f d g = .ok (.ret v m) g' ∧ Q (.ok (.ret v m) g')) (hd : ∀ g, I ds.length g → Q (.ok .next g)) : Q (forGo f ds g) := by
  have go : ∀ (n i : Nat) (g : Sg), n = ds.length - i → i ≤ ds.length → I i g → Q (forGo f (ds.drop i) g) := by
    intro n
    induction n with
    | zero =>
      intro i g hn hi h
      have e : i = ds.length := by omega
      subst e
      rw [List.drop_length, forGo]
      exact hd g h
    | succ n ih =>
      intro i g hn hi h
      have hlt : i < ds.length := by omega
      rw [List.drop_eq_getElem_cons hlt, forGo]
      rcases hs i _ g (List.getElem?_eq_getElem hlt) h with ⟨g', e, h'⟩ | ⟨v, m, g', e, h'⟩
      · rw [e]
        exact ih (i + 1) g' (by omega) hlt h'
      · rw [e]
        exact h'
  have := go _ 0 g rfl (Nat.zero_le _) h0
  simpa using this
theorem Runs.for_or {GL : Str → Option D} {C : Orc} {L : Nat} {Q : Res Ctl → Prop} {b r : S} {it : E} {g g1 : Sg} {i : Nat} {m : Md} {d : D} {ds : List D} (I : Nat → Sg → Prop) (h : ev GL C it g = .ok (d, m) g1) (hm : m ≠ .on) (hd : itemsD d = some ds) (h0 : I 0 g1)
    (hs : ∀ j x g, ds[j]? = some x → I j g → (∃ g', DL.ex GL C L b (g.set i (some (x, .fr))) = .ok .next g' ∧ I (j + 1) g') ∨ ∃ v m g', DL.ex GL C L b (g.set i (some (x, .fr))) = .ok (.ret v m) g' ∧ Q (.ok (.ret v m) g')) (hr : ∀ g, I ds.length g → Runs GL C L r g Q) : Runs GL C L (.seq (.for_ i it b) r) g Q := by
  unfold Runs at *
  rw [DL.ex, DL.ex, h]
  simp only [bd_ok, hm, if_false, hd]
  exact for_inv_or I (Q := fun x => Q (x.bd _)) ds h0 hs hr
section
variable {GL : Str → Option D} {T : Str → Option Fd} {L : Nat}
theorem r_same2 (hT : T (Str.ofString "_law_same") = some ⟨2, 3, b__law_same, 0⟩) : ∀ (k : Nat) (d e : D), e.depth ≤ k → keyOk d = true → keyOk e = true → d.canLay0 = true → e.canLay0 = true → wt e ≤ 100000 → Calls GL T L (k + 1) (Str.ofString "_law_same") [d, e] (.ok (.bool (PyData.eqv d e)) .fr) := by
  intro k
  induction k with
  | zero =>
    intro d e hk hp hq hl hr hw n hn
    obtain ⟨n, rfl⟩ : ∃ m, n = m + 1 := ⟨n - 1, by omega⟩
    refine call_runs hT rfl ?_
    unfold b__law_same
    simp only [startG_def]
    cases e <;> simp [keyOk] at hq
    · refine .ifF (by simp; exact ⟨rfl, rfl⟩) (.skip (.ifF (by simp; exact ⟨rfl, rfl⟩) (.skip ?_)))
      cases d <;> simp [keyOk] at hp <;> exact .ret (m := .fr) (by simp [PyData.eqv]; rfl) rfl
    · rename_i x
      have hx : PyData.strOk x = true := by simpa [PyData.canLay0] using hr
      refine .ifF (by simp; exact ⟨rfl, rfl⟩) (.skip (.ifT (by simp; exact ⟨rfl, rfl⟩) (.as ?_)))
      cases d <;> simp [keyOk] at hp
      · exact .ret (m := .fr) (by simp [PyData.eqv]; rfl) rfl
      · rename_i y
        have hy : PyData.strOk y = true := by simpa [PyData.canLay0] using hl
        exact .ret (m := .fr) (by simp [eqOk_str hy hx]; rfl) rfl
      · exact .ret (m := .fr) (by simp [PyData.eqv]; rfl) rfl
    · simp [PyData.depth] at hk
  | succ k ih =>
    intro d e hk hp hq hl hr hw n hn
    obtain ⟨n, rfl⟩ : ∃ m, n = m + 1 := ⟨n - 1, by omega⟩
    refine call_runs hT rfl ?_
    unfold b__law_same
    simp only [startG_def]
    cases e <;> simp [keyOk] at hq
    · refine .ifF (by simp; exact ⟨rfl, rfl⟩) (.skip (.ifF (by simp; exact ⟨rfl, rfl⟩) (.skip ?_)))
      cases d <;> simp [keyOk] at hp <;> exact .ret (m := .fr) (by simp [PyData.eqv]; rfl) rfl
    · rename_i x
      have hx : PyData.strOk x = true := by simpa [PyData.canLay0] using hr
      refine .ifF (by simp; exact ⟨rfl, rfl⟩) (.skip (.ifT (by simp; exact ⟨rfl, rfl⟩) (.as ?_)))
      cases d <;> simp [keyOk] at hp
      · exact .ret (m := .fr) (by simp [PyData.eqv]; rfl) rfl
      · rename_i y
        have hy : PyData.strOk y = true := by simpa [PyData.canLay0] using hl
        exact .ret (m := .fr) (by simp [eqOk_str hy hx]; rfl) rfl
      · exact .ret (m := .fr) (by simp [PyData.eqv]; rfl) rfl
    · rename_i ys
      refine .ifT (by simp; exact ⟨rfl, rfl⟩) (.as ?_)
      cases d <;> simp [keyOk] at hp
      · exact .ifT (by simp; exact ⟨rfl, rfl⟩) (.as (.ret (d := .bool false) (m := .fr) (by simp; rfl) (by simp [PyData.eqv, toCR])))
      · exact .ifT (by simp; exact ⟨rfl, rfl⟩) (.as (.ret (d := .bool false) (m := .fr) (by simp; rfl) (by simp [PyData.eqv, toCR])))
      · rename_i xs
        have hxs : PyData.canLayAll0 xs = true := by simpa [PyData.canLay0] using hl
        have hys : PyData.canLayAll0 ys = true := by simpa [PyData.canLay0] using hr
        have hlen := wts_len ys
        have hw' : wts ys < 100000 := by simp [wt] at hw; omega
        have hrng : rngOk (ys.length : Int) = true := rngOk_small (by omega) (by omega)
        have hiff : PyData.eqv (.tuple xs) (.tuple ys) = true ↔ xs = ys := by
          rw [eqv_plain (.tuple xs) (.tuple ys) hp hq]
          simp
        by_cases hll : xs.length = ys.length
        · refine .ifF (by simp [hll]; exact ⟨rfl, rfl⟩) (.skip (.as ?_))
          refine .for_or (ds := rangeD 0 ys.length) (fun i g => (∃ z : Sl, g = [some (.tuple xs, .fr), some (.tuple ys, .fr), z]) ∧ xs.take i = ys.take i) (by simp [hrng]; exact ⟨rfl, rfl⟩) (by decide) rfl ⟨⟨none, rfl⟩, rfl⟩ ?_ ?_
          · rintro i x g hi ⟨⟨z, rfl⟩, htk⟩
            obtain ⟨hlt, rfl⟩ := range_item hi
            have hlx : i < xs.length := by omega
            have hd : ys[i]? = some ys[i] := List.getElem?_eq_getElem hlt
            have hdx : xs[i]? = some xs[i] := List.getElem?_eq_getElem hlx
            have hm := List.mem_of_getElem? hd
            have hmx := List.mem_of_getElem? hdx
            have hdep : ys[i].depth ≤ k := by
              have h1 := depth_mem hm
              have h2 : PyData.depthAll ys + 1 ≤ k + 1 := by simpa [PyData.depth] using hk
              omega
            have c := ih xs[i] ys[i] hdep (plain_mem hp hmx) (plain_mem hq hm) (lay_mem hxs hmx) (lay_mem hys hm) (Nat.le_trans (wts_mem hm) (Nat.le_of_lt hw')) n (by omega)
            have hie := eqv_plain xs[i] ys[i] (plain_mem hp hmx) (plain_mem hq hm)
            cases hb : PyData.eqv xs[i] ys[i] with
            | true =>
              rw [hb] at c
              left
              refine ⟨[some (.tuple xs, .fr), some (.tuple ys, .fr), some (.int i, .fr)], ?_, ⟨_, rfl⟩, ?_⟩
              · simp [at_get hd, at_get hdx, c]
              · rw [List.take_succ_eq_append_getElem hlt, List.take_succ_eq_append_getElem hlx, htk, hie.mp hb]
            | false =>
              rw [hb] at c
              right
              have hne : PyData.eqv (.tuple xs) (.tuple ys) = false := by
                cases q : PyData.eqv (.tuple xs) (.tuple ys) with
                | false => rfl
                | true =>
                  have e := hiff.mp q
                  subst e
                  rw [hie.mpr rfl] at hb
                  cases hb
              refine ⟨.bool false, .fr, [some (.tuple xs, .fr), some (.tuple ys, .fr), some (.int i, .fr)], ?_, ?_⟩
              · simp [at_get hd, at_get hdx, c]
              · rw [hne]; rfl
          · rintro g ⟨⟨z, rfl⟩, htk⟩
            have hne : PyData.eqv (.tuple xs) (.tuple ys) = true := hiff.mpr (by
              have : (rangeD 0 (ys.length : Int)).length = ys.length := by rw [range_get]; simp
              rw [this, List.take_length, ← hll, List.take_length] at htk
              exact htk)
            rw [hne]
            exact .as (.ret (d := .bool true) (m := .fr) (by simp; rfl) rfl)
        · have hne : PyData.eqv (.tuple xs) (.tuple ys) = false := by
            cases q : PyData.eqv (.tuple xs) (.tuple ys) with
            | false => rfl
            | true =>
              have e := hiff.mp q
              subst e
              exact absurd rfl hll
          rw [hne]
          have hll2 : ¬ ((xs.length : Nat) : Int) = (ys.length : Nat) := by omega
          refine .ifT (m := .fr) (g1 := [some (.tuple xs, .fr), some (.tuple ys, .fr), none]) (by simp; omega) (.as ?_)
          exact .ret (d := .bool false) (m := .fr) (by simp; rfl) rfl
end
end DL

set_option Elab.async false
set_option linter.all false
set_option maxRecDepth 100000
/-! PT: terms put into a pattern; a dict of terms (k11, k14). -/
namespace DL
open PySem L2
def Tm.fillT (g : Int → Tm) : Tm → Tm
  | .leaf true i => g i
  | .leaf false i => .leaf false i
  | .node s a b => .node s (a.fillT g) (b.fillT g)
theorem fillT_form (g : Int → Tm) : ∀ t : Tm, (t.fillT g).form = t.fill fun i => (g i).form
  | .leaf true i => by simp [Tm.fillT, Tm.fill]
  | .leaf false i => by simp [Tm.fillT, Tm.fill, Tm.form]
  | .node s a b => by
    have ha := fillT_form g a
    have hb := fillT_form g b
    by_cases hs : s = .pair
    · subst hs
      simp [Tm.fillT, Tm.fill, Tm.form, ha, hb]
    · rw [Tm.fillT, node_form hs, fill_node hs, ha, hb]
theorem fillT_ls (g : Int → Tm) : ∀ t : Tm, (t.fillT g).ls = t.ls.flatMap fun p => if p.1 = true then (g p.2).ls else [p]
  | .leaf true i => by simp [Tm.fillT, Tm.ls]
  | .leaf false i => by simp [Tm.fillT, Tm.ls]
  | .node s a b => by simp [Tm.fillT, Tm.ls, fillT_ls g a, fillT_ls g b]
theorem fillT_ok (g : Int → Tm) : ∀ t : Tm, t.ok → (∀ i, (true, i) ∈ t.ls → (g i).ok) → (t.fillT g).ok
  | .leaf true i, _, h => h i (by simp [Tm.ls])
  | .leaf false i, ok, _ => ok
  | .node s a b, ok, h => ⟨fillT_ok g a ok.1 fun i hi => h i (by simp [Tm.ls, hi]), fillT_ok g b ok.2 fun i hi => h i (by simp [Tm.ls, hi])⟩
theorem fillT_closed {g : Int → Tm} {t : Tm} (h : ∀ i, (true, i) ∈ t.ls → ∀ j, (true, j) ∉ (g i).ls) : ∀ j, (true, j) ∉ (t.fillT g).ls := fun j hj => by
  rw [fillT_ls] at hj
  obtain ⟨⟨o, i⟩, hp, hj⟩ := List.mem_flatMap.mp hj
  cases o with
  | true => exact h i hp j (by simpa using hj)
  | false => simp at hj
theorem sum_count (l : List (Bool × Int)) (w : Bool × Int → Nat) (m e : Nat) (q : Bool × Int) (h1 : ∀ p ∈ l, p ≠ q → w p ≤ m) (h2 : w q ≤ m + e) : (l.map w).sum ≤ m * l.length + e * l.count q := by
  induction l with
  | nil => simp
  | cons p l ih =>
    have ih := ih fun p hp => h1 p (List.mem_cons_of_mem _ hp)
    rw [List.map_cons, List.sum_cons, List.length_cons, List.count_cons, Nat.mul_add]
    by_cases c : p = q
    · subst c
      simp only [beq_self_eq_true, if_true, Nat.mul_add]
      omega
    · have := h1 p (by simp) c
      have c' : (p == q) = false := by simpa using c
      simp only [c']
      simp
      omega
theorem fillT_len {g : Int → Tm} {m e : Nat} {s : Int} (hm : 1 ≤ m) (t : Tm) (h1 : ∀ i, (true, i) ∈ t.ls → i ≠ s → (g i).ls.length ≤ m) (h2 : (g s).ls.length ≤ m + e) : (t.fillT g).ls.length ≤ m * t.ls.length + e * t.ls.count (true, s) := by
  rw [fillT_ls, List.length_flatMap]
  refine sum_count t.ls _ m e (true, s) (fun p hp hne => ?_) ?_
  · obtain ⟨o, i⟩ := p
    cases o with
    | true => simp; exact h1 i hp fun z => hne (by rw [z])
    | false => simp; exact hm
  · simpa using h2
/-! ### a dict of terms by numbers -/
def fT (S : List Int) (g : Int → Tm) : Fl := S.map fun i => (.int i, (g i).d)
def upd (g : Int → Tm) (s : Int) (v : Tm) : Int → Tm := fun i => if i = s then v else g i
theorem fT_get {S : List Int} {g : Int → Tm} {i : Int} (h : i ∈ S) : getKey (fT S g) (.int i) = some (g i).d := by
  induction S with
  | nil => cases h
  | cons n S ih =>
    unfold fT getKey at ih ⊢
    rw [List.map_cons, List.find?_cons]
    by_cases c : n = i
    · subst c; simp
    · have e : PyData.eqv (.int n) (.int i) = false := by simp [c]
      simp only [e]
      exact ih ((List.mem_cons.mp h).resolve_left fun z => c z.symm)
theorem fT_has {S : List Int} {g : Int → Tm} {i : Int} : hasKey (fT S g) (.int i) = decide (i ∈ S) := by
  induction S with
  | nil => rfl
  | cons n S ih =>
    unfold fT hasKey at ih ⊢
    rw [List.map_cons, List.any_cons, ih, eqv_int]
    by_cases c : n = i
    · have c2 : i ∈ n :: S := by rw [c]; exact List.mem_cons_self
      rw [decide_eq_true c, decide_eq_true c2]; rfl
    · rw [decide_eq_false c, Bool.false_or]
      exact decide_eq_decide.mpr ⟨fun h => List.mem_cons_of_mem _ h, fun h => (List.mem_cons.mp h).resolve_left fun z => c z.symm⟩
theorem fT_upd {S : List Int} {g : Int → Tm} {s : Int} {v : Tm} (h : s ∉ S) : fT S (upd g s v) = fT S g := by
  refine List.map_congr_left fun i hi => ?_
  have : i ≠ s := fun e => h (e ▸ hi)
  simp [upd, this]
theorem fT_new {S : List Int} {g : Int → Tm} {s : Int} {v : Tm} (h : s ∉ S) : putKey (fT S g) (.int s) v.d = fT (S ++ [s]) (upd g s v) := by
  have hk : hasKey (fT S g) (.int s) = false := by rw [fT_has]; simpa using h
  rw [putKey_new hk]
  have := fT_upd (g := g) (v := v) h
  unfold fT at this ⊢
  rw [List.map_append, this]
  simp [upd]
theorem fT_old {S : List Int} {g : Int → Tm} {s : Int} {v : Tm} (h : s ∈ S) : putKey (fT S g) (.int s) v.d = fT S (upd g s v) := by
  have hk : hasKey (fT S g) (.int s) = true := by rw [fT_has]; simpa using h
  unfold putKey
  rw [hk, if_pos rfl]
  unfold fT
  rw [List.map_map]
  refine List.map_congr_left fun i hi => ?_
  show (if PyData.eqv (.int i) (.int s) = true then _ else _) = _
  rw [eqv_int]
  by_cases c : i = s
  · subst c; simp [upd]
  · simp [upd, c]
theorem fT_lay {S : List Int} {g : Int → Tm} : (fT S g).length = S.length := by simp [fT]
/-! ### one of many -/
theorem filter_one {α : Type} {p : α → Bool} {a : α} : ∀ {l : List α}, l.Nodup → a ∈ l → (∀ x ∈ l, p x = true ↔ x = a) → (l.filter p).length = 1
  | [], _, h, _ => by cases h
  | x :: l, hn, h, hp => by
    obtain ⟨h1, h2⟩ := List.nodup_cons.mp hn
    by_cases c : x = a
    · subst c
      have hx : p x = true := (hp x (by simp)).mpr rfl
      have hl : l.filter p = [] := by
        rw [List.filter_eq_nil_iff]
        intro y hy e
        have := (hp y (by simp [hy])).mp e
        subst this
        exact h1 hy
      rw [List.filter_cons, if_pos hx, hl]
      rfl
    · have hx : ¬ p x = true := fun e => c ((hp x (by simp)).mp e)
      rw [List.filter_cons, if_neg hx]
      exact filter_one h2 ((List.mem_cons.mp h).resolve_left fun z => c z.symm) fun y hy => hp y (by simp [hy])
/-! ### lists of ints -/
theorem layI (S : List Int) : PyData.canLayAll0 (S.map PyData.int) = true := by
  induction S with
  | nil => rfl
  | cons x S ih => simp [PyData.canLayAll0, PyData.canLay0, ih]
theorem eqv_ints (l : List Int) : PyData.eqv (.list (l.map PyData.int)) (.list (l.map PyData.int)) = true := by
  have : PyData.eqvAll (l.map PyData.int) (l.map PyData.int) = true := by
    induction l with
    | nil => rfl
    | cons x l ih => simp [PyData.eqvAll, ih]
  simpa [PyData.eqv] using this
theorem eqOk_ints (l : List Int) : eqOk (.list (l.map PyData.int)) (.list (l.map PyData.int)) = true := by
  have h1 := layI l
  have h2 : PyData.depthAll (l.map PyData.int) ≤ 1 := depthAll_le fun x hx => by
    obtain ⟨i, _, rfl⟩ := List.mem_map.mp hx
    simp [PyData.depth]
  unfold eqOk
  simp [PyData.canLay0, h1, PyData.depth]
  omega
theorem flR_keys {ns : List Int} {r : List D} (hl : r.length = ns.length) : (flR ns r).map (·.1) = ns.map PyData.int := by
  unfold flR
  rw [List.map_map]
  have : ((fun x : D × D => x.1) ∘ fun p : Int × D => (PyData.int p.1, p.2)) = PyData.int ∘ Prod.fst := rfl
  rw [this, ← List.map_map, List.map_fst_zip (by omega)]
end DL

set_option Elab.async false
set_option linter.all false
set_option maxRecDepth 100000
/-! PF: the law's own filled (k09, k10), has. -/
namespace DL
open PySem L2
section
variable {GL : Str → Option D} {T : Str → Option Fd} {L : Nat}
theorem r_lfilled (hT : T (Str.ofString "_law_filled") = some ⟨2, 6, b__law_filled, 0⟩) {es : List (D × D)} {f : Int → D} {m k : Nat} (hm : 1 ≤ m) : ∀ t : Tm, t.ok → m * t.ls.length ≤ 1000 → t.ht + k ≤ 80 → (∀ i, (true, i) ∈ t.ls → getKey es (.int i) = some (f i) ∧ CF (f i) ∧ lvD (f i) ≤ m ∧ (f i).depth ≤ k + 1) →
    Calls GL T L (t.ht + 1) (Str.ofString "_law_filled") [t.d, .dict es] (.ok (t.fill f) .fr)
  | .leaf o i, ok, hlv, hk, hf => by
    intro n hn
    obtain ⟨n, rfl⟩ : ∃ m, n = m + 1 := ⟨n - 1, by omega⟩
    refine call_runs hT rfl ?_
    unfold b__law_filled
    simp only [startG_def]
    cases o with
    | true =>
      obtain ⟨g1, _⟩ := hf i (by simp [Tm.ls])
      exact .ifT (by simp [Tm.d, kS]; exact ⟨rfl, rfl⟩) (.as (.ret (d := f i) (m := .fr) (by simp [g1]; rfl) (by simp [Tm.fill])))
    | false =>
      refine .ifF (by simp [Tm.d, kS]; exact ⟨rfl, rfl⟩) (.skip ?_)
      exact .ifT (by simp; exact ⟨rfl, rfl⟩) (.as (.ret (m := .fr) (by simp; exact ⟨rfl, rfl⟩) (by simp [Tm.fill, kS])))
  | .node s a b, ok, hlv, hk, hf => by
    intro n hn
    obtain ⟨n, rfl⟩ : ∃ m, n = m + 1 := ⟨n - 1, by omega⟩
    have hl : (Tm.node s a b).ls.length = a.ls.length + b.ls.length := by simp [Tm.ls]
    rw [hl, Nat.mul_add] at hlv
    simp only [Tm.ht] at hn hk
    have fa : ∀ i, (true, i) ∈ a.ls → getKey es (.int i) = some (f i) ∧ CF (f i) ∧ lvD (f i) ≤ m ∧ (f i).depth ≤ k + 1 := fun i hi => hf i (by simp [Tm.ls, hi])
    have fb : ∀ i, (true, i) ∈ b.ls → getKey es (.int i) = some (f i) ∧ CF (f i) ∧ lvD (f i) ≤ m ∧ (f i).depth ≤ k + 1 := fun i hi => hf i (by simp [Tm.ls, hi])
    have ca := r_lfilled hT hm a ok.1 (by omega) (by omega) fa n (by omega)
    have cb := r_lfilled hT hm b ok.2 (by omega) (by omega) fb n (by omega)
    obtain ⟨a1, a2, a3⟩ := fill_cf f m k hm a ok.1 fun i hi => (fa i hi).2
    obtain ⟨b1, b2, b3⟩ := fill_cf f m k hm b ok.2 fun i hi => (fb i hi).2
    refine call_runs hT rfl ?_
    unfold b__law_filled
    simp only [startG_def]
    have ks := lay_sS s
    have n1 := eqOk_str ks (show PyData.strOk (Str.ofString "open") = true by simp)
    have n2 := eqOk_str ks (show PyData.strOk (Str.ofString "name") = true by simp)
    have m1 : ¬ s.s = Str.ofString "open" := fun e => (kS_sn (o := true) (s := s)) e.symm
    have m2 : ¬ s.s = Str.ofString "name" := fun e => (kS_sn (o := false) (s := s)) e.symm
    refine .ifF (m := .fr) (g1 := [some ((Tm.node s a b).d, .fr), some (.dict es, .fr), none, none, none, none]) (by simp [Tm.d, n1, m1]) (.skip ?_)
    refine .ifF (m := .fr) (g1 := [some ((Tm.node s a b).d, .fr), some (.dict es, .fr), none, none, none, none]) (by simp [Tm.d, n2, m2]) (.skip ?_)
    refine .set (p := (a.fill f, .fr)) (by simp [Tm.d, ca]; rfl) ?_
    refine .set (p := (b.fill f, .fr)) (by simp [Tm.d, cb]; rfl) ?_
    by_cases hs : s = .pair
    · subst hs
      exact .ifT (by simp [Sn.s]; exact ⟨rfl, rfl⟩) (.as (.ret (d := (Tm.node .pair a b).fill f) (m := .fr) (by simp; exact ⟨rfl, rfl⟩) rfl))
    · have n3 := eqOk_str ks (show PyData.strOk (Str.ofString "pair") = true by simp)
      have m3 : ¬ s.s = Str.ofString "pair" := fun e => hs (Sn.inj (s' := .pair) e)
      refine .ifF (m := .fr) (g1 := [some ((Tm.node s a b).d, .fr), some (.dict es, .fr), some (a.fill f, .fr), some (b.fill f, .fr), none, none]) (by simp [n3, m3, Tm.d]) (.skip ?_)
      refine .set (p := (.list [], .ow)) (by simp; rfl) ?_
      have hboth : ∀ d ∈ [a.fill f, b.fill f], CF d := fun d hd => by simp at hd; rcases hd with rfl | rfl <;> assumption
      have hdep : ∀ d ∈ [a.fill f, b.fill f], d.depth ≤ 90 := fun d hd => by simp at hd; rcases hd with rfl | rfl <;> omega
      have hrl := row_len hs hboth
      have hl2 : lvDs [a.fill f, b.fill f] ≤ 1000 := by simp [lvDs]; omega
      refine .for_ (ds := [a.fill f, b.fill f]) (fun i g => ∃ z : Sl, g = [some ((Tm.node s a b).d, .fr), some (.dict es, .fr), some (a.fill f, .fr), some (b.fill f, .fr), some (.list (([a.fill f, b.fill f].take i).flatMap (partsD s.s)), .ow), z]) (by simp; exact ⟨rfl, rfl⟩) (by decide) rfl ⟨none, rfl⟩ ?_ ?_
      · rintro i d g hi ⟨z, rfl⟩
        have hlt : i < [a.fill f, b.fill f].length := (List.getElem?_eq_some_iff.mp hi).1
        have hmem := List.mem_of_getElem? hi
        obtain ⟨x, xs, e, hx⟩ := (hboth d hmem).isF.word
        have et : ([a.fill f, b.fill f].take (i + 1)).flatMap (partsD s.s) = ([a.fill f, b.fill f].take i).flatMap (partsD s.s) ++ partsD s.s d := by
          rw [List.take_succ_eq_append_getElem hlt, List.flatMap_append]
          have : [a.fill f, b.fill f][i] = d := (List.getElem?_eq_some_iff.mp hi).2
          simp [this]
        have hle : (([a.fill f, b.fill f].take i).flatMap (partsD s.s)).length + (partsD s.s d).length ≤ 1000 := by
          have h1 : (([a.fill f, b.fill f].take (i + 1)).flatMap (partsD s.s)).length ≤ ([a.fill f, b.fill f].flatMap (partsD s.s)).length := by
            conv => rhs; rw [← List.take_append_drop (i + 1) [a.fill f, b.fill f]]
            rw [List.flatMap_append, List.length_append]
            omega
          rw [et, List.length_append] at h1
          omega
        refine ⟨[some ((Tm.node s a b).d, .fr), some (.dict es, .fr), some (a.fill f, .fr), some (b.fill f, .fr), some (.list (([a.fill f, b.fill f].take (i + 1)).flatMap (partsD s.s)), .ow), some (d, .fr)], ?_, _, rfl⟩
        rw [et]
        generalize ([a.fill f, b.fill f].take i).flatMap (partsD s.s) = row at *
        subst e
        by_cases c : x = s.s
        · subst c
          rw [partsD_word, if_pos rfl] at hle ⊢
          have hz : row.length + xs.length ≤ 16777216 := by omega
          simp [Tm.d, eqOk_str hx hx, cut_tail, hz]
        · rw [partsD_word, if_neg c] at hle ⊢
          have hz : row.length < 16777216 := by simp at hle; omega
          simp [Tm.d, eqOk_str hx ks, c, hz]
      · rintro g ⟨z, rfl⟩
        rw [show [a.fill f, b.fill f].take [a.fill f, b.fill f].length = [a.fill f, b.fill f] from rfl]
        have hrow : ∀ x ∈ [a.fill f, b.fill f].flatMap (partsD s.s), IsF x ∧ x.depth ≤ 90 := fun x hx => by
          obtain ⟨d, h1, h2⟩ := List.mem_flatMap.mp hx
          exact parts_form (hboth d h1).isF (Sn.join hs) (hdep d h1) x h2
        have hsort := sortable_forms (ds := [a.fill f, b.fill f].flatMap (partsD s.s)) (fun d h => ⟨(hrow d h).1, by have := (hrow d h).2; omega⟩) (by omega)
        have ej : (Tm.node s a b).fill f = .tuple (.str s.s :: sortD ([a.fill f, b.fill f].flatMap (partsD s.s))) := by
          rw [fill_node hs, (cf_join2 hs a1 b1).1]
          simp
        generalize [a.fill f, b.fill f].flatMap (partsD s.s) = row at *
        have hlen : (sortD row).length = row.length := (sortD_perm row).length_eq
        have hz : 1 + row.length ≤ 16777216 := by omega
        have hz' : row.length + 1 ≤ 16777216 := by omega
        have hz2 : row.length ≤ 16777215 := by omega
        rw [ej]
        refine .ret (d := .tuple (.str s.s :: sortD row)) (m := .fr) (g1 := [some ((Tm.node s a b).d, .fr), some (.dict es, .fr), some (a.fill f, .fr), some (b.fill f, .fr), some (.list row, .ow), z]) ?_ rfl
        simp [Tm.d, sortedD, hsort, hlen, hz, hz', hz2]
theorem Tm.d_eqv_open : ∀ (o : Bool) (j i : Int), PyData.eqv (.tuple [.str (kS o), .int j]) (.tuple [.str (Str.ofString "open"), .int i]) = decide ((o, j) = (true, i)) := by
  intro o j i
  cases o
  · simp [kS, PyData.eqv, PyData.eqvAll]
  · simp [kS, PyData.eqv, PyData.eqvAll]
    rw [Bool.eq_iff_iff]
    simp
theorem r_has (hT : T (Str.ofString "_law_has") = some ⟨2, 2, b__law_has, 0⟩) (i : Int) : ∀ t : Tm, Calls GL T L (t.ht + 1) (Str.ofString "_law_has") [t.d, .int i] (.ok (.bool (decide ((true, i) ∈ t.ls))) .fr)
  | .leaf o j => by
    intro n hn
    obtain ⟨n, rfl⟩ : ∃ m, n = m + 1 := ⟨n - 1, by omega⟩
    refine call_runs hT rfl ?_
    unfold b__law_has
    simp only [startG_def]
    have e1 : eqOk (.tuple [.str (kS o), .int j]) (.tuple [.str (Str.ofString "open"), .int i]) = true :=
      eqOk_plain (by simp [PyData.canLay0, PyData.canLayAll0, lay_kS]) (by simp [PyData.canLay0, PyData.canLayAll0]) (by simp [PyData.depth, PyData.depthAll])
    have e2 := Tm.d_eqv_open o j i
    have e3 : decide ((o, j) = (true, i)) = decide ((true, i) ∈ (Tm.leaf o j).ls) := by
      simp only [Tm.ls, List.mem_singleton]
      exact decide_eq_decide.mpr ⟨fun h => h.symm, fun h => h.symm⟩
    exact .ifT (by simp [Tm.d]; exact ⟨rfl, rfl⟩) (.as (.ret (d := .bool (decide ((true, i) ∈ (Tm.leaf o j).ls))) (m := .fr) (by rw [← e3, ← e2]; simp [e1]; rfl) rfl))
  | .node s a b => by
    intro n hn
    obtain ⟨n, rfl⟩ : ∃ m, n = m + 1 := ⟨n - 1, by omega⟩
    simp only [Tm.ht] at hn
    have ca := r_has hT i a n (by omega)
    have cb := r_has hT i b n (by omega)
    refine call_runs hT rfl ?_
    unfold b__law_has
    simp only [startG_def]
    refine .ifF (by simp [Tm.d]; exact ⟨rfl, rfl⟩) (.skip ?_)
    have e : decide ((true, i) ∈ (Tm.node s a b).ls) = (decide ((true, i) ∈ a.ls) || decide ((true, i) ∈ b.ls)) := by simp [Tm.ls]
    rw [e]
    by_cases h : (true, i) ∈ a.ls
    · have h' : decide ((true, i) ∈ a.ls) = true := decide_eq_true h
      rw [h'] at ca ⊢
      exact .ret (d := .bool true) (m := .fr) (by simp [Tm.d, ca]; rfl) rfl
    · have h' : decide ((true, i) ∈ a.ls) = false := decide_eq_false h
      rw [h'] at ca ⊢
      exact .ret (d := .bool (decide ((true, i) ∈ b.ls))) (m := .fr) (by simp [Tm.d, ca, cb]; rfl) rfl
end
end DL

set_option Elab.async false
set_option linter.all false
set_option maxRecDepth 100000
/-! P_k10: the law's own names, made, grown, put, is_form, rows. -/
namespace DL
open PySem L2
section
variable {GL : Str → Option D} {T : Str → Option Fd} {L : Nat}
theorem seq_as {C : Orc} {a b r : S} {g : Sg} : ex GL C L (.seq (.seq a b) r) g = ex GL C L (.seq a (.seq b r)) g := by
  rw [DL.ex, DL.ex, DL.ex]
  cases q : DL.ex GL C L a g with
  | ok c g1 =>
    cases c with
    | next => simp only [bd_ok]; rw [DL.ex]
    | brk => rfl
    | cont => rfl
    | ret d m => rfl
  | exc c g1 => rfl
  | stuck => rfl
theorem as_iff {C : Orc} {a b r : S} {g : Sg} {Q : Res Ctl → Prop} : Runs GL C L (.seq (.seq a b) r) g Q ↔ Runs GL C L (.seq a (.seq b r)) g Q := by
  unfold Runs; rw [seq_as]
theorem skip_iff {C : Orc} {r : S} {g : Sg} {Q : Res Ctl → Prop} : Runs GL C L (.seq .skip r) g Q ↔ Runs GL C L r g Q := by
  unfold Runs; rw [DL.ex, DL.ex]; rfl
/-- names and numbers of a term -/
def InL (N S : List Int) (t : Tm) : Prop := ∀ p ∈ t.ls, if p.1 = true then p.2 ∈ S else p.2 ∈ N
theorem InL.ok {N S : List Int} (hN : ∀ i ∈ N, 0 ≤ i ∧ i ≤ 1000000000) (hS : ∀ i ∈ S, 0 ≤ i ∧ i < 10) : ∀ t : Tm, InL N S t → t.ok
  | .leaf o i, h => by
    have := h (o, i) (by simp [Tm.ls])
    cases o
    · simp at this; exact ⟨(hN i this).1, by simp; exact (hN i this).2⟩
    · simp at this; exact ⟨(hS i this).1, by simp; exact (hS i this).2⟩
  | .node s a b, h => ⟨InL.ok hN hS a fun p hp => h p (by simp [Tm.ls, hp]), InL.ok hN hS b fun p hp => h p (by simp [Tm.ls, hp])⟩
theorem InL.node {N S : List Int} {s : Sn} {a b : Tm} (ha : InL N S a) (hb : InL N S b) : InL N S (.node s a b) := fun p hp => by
  simp only [Tm.ls, List.mem_append] at hp
  rcases hp with hp | hp
  · exact ha p hp
  · exact hb p hp
theorem InL.closed {N : List Int} {t : Tm} (h : InL N [] t) : ∀ i, (true, i) ∉ t.ls := fun i hi => by
  have := h _ hi
  simp at this
theorem InL.name {N S : List Int} {i : Int} (h : i ∈ N) : InL N S (.leaf false i) := fun p hp => by
  simp only [Tm.ls, List.mem_singleton] at hp; subst hp; simpa using h
theorem InL.opn {N S : List Int} {i : Int} (h : i ∈ S) : InL N S (.leaf true i) := fun p hp => by
  simp only [Tm.ls, List.mem_singleton] at hp; subst hp; simpa using h
theorem r_names (hT : T (Str.ofString "_law_names") = some ⟨1, 2, b__law_names, 0⟩) (x : Int) (n : Nat) : ∃ a b c : Int, (∀ i ∈ [a, b, c], 0 ≤ i ∧ i ≤ 1000000000) ∧ callD GL T L (n + 1) (Str.ofString "_law_names") [.int x] = .ok (.list [.int a, .int b, .int c]) .ow := by
  have h3 : x % 3 = 0 ∨ x % 3 = 1 ∨ x % 3 = 2 := by omega
  rcases h3 with h | h | h
  · refine ⟨0, 1, 2, by simp, ?_⟩
    refine call_runs hT rfl ?_
    unfold b__law_names Runs
    simp [h]
  · refine ⟨x / 3 % 1000000001, x / 3 % 999999937, 1000000000 - x / 3 % 7, ?_, ?_⟩
    · intro i hi
      simp at hi
      rcases hi with rfl | rfl | rfl <;> omega
    refine call_runs hT rfl ?_
    unfold b__law_names Runs
    simp [h]
  · refine ⟨x / 3 % 900 + 100000000 * 0, x / 3 % 900 + 100000000 * 1, x / 3 % 900 + 100000000 * 2, ?_, ?_⟩
    · intro i hi
      simp at hi
      rcases hi with rfl | rfl | rfl <;> omega
    refine call_runs hT rfl ?_
    unfold b__law_names
    simp only [startG_def]
    refine .ifF (m := .fr) (g1 := [some (.int x, .fr), none]) (by simp [h]) (.skip ?_)
    refine .ifT (m := .fr) (g1 := [some (.int x, .fr), none]) (by simp [h]) (.as ?_)
    refine .ret (d := .list (([0, 1, 2] : List Int).map fun i => .int (x / 3 % 900 + 100000000 * i))) (m := .ow) (g1 := [some (.int x, .fr), none]) ?_ rfl
    rw [retv_lc]
    have e0 : ev GL (callD GL T L n) (.range1 (.int (3))) (freeze [0] [some (.int x, .fr), none]) = .ok (.list (rangeD 0 3), .fr) [some (.int x, .fr), none] := by
      simp [rngOk_small (i := 3) (by omega) (by omega)]
    refine lc_run0 (m := .fr) (d := .list (rangeD 0 3)) (fun i : Int => .int i) (fun i : Int => .int (x / 3 % 900 + 100000000 * i)) [0, 1, 2] e0 (by decide) rfl (fun i hi => ?_) (by rw [sizeLine_eq]; simp)
    have hm : mulOk 100000000 i = true := by simp at hi; rcases hi with rfl | rfl | rfl <;> decide
    exact ⟨.fr, _, by decide, by simp [hm]; rfl⟩
theorem r_made (hT : T (Str.ofString "_law_made") = some ⟨4, 8, b__law_made, 0⟩) (cs N S : List Int) (hN : N ≠ []) (hNl : N.length ≤ 10) (hS : S = [] ∨ S.length = 3) (hcs : cs.length ≤ 60) (sg : Sn) (hL : 200 < L) (n : Nat) :
    ∃ t : Tm, InL N S t ∧ t.ls.length ≤ max 1 cs.length ∧ callD GL T L (n + 1) (Str.ofString "_law_made") [.list (cs.map .int), .list (N.map .int), .list (S.map .int), .str sg.s] = .ok t.d .fr := by
  have hS1 : eqOk (.list (S.map PyData.int)) (.list []) = true := eqOk_nil (layI S)
  have hS2 : PyData.eqv (.list (S.map PyData.int)) (.list []) = S.isEmpty := by rw [eqv_nil]; cases S <;> rfl
  have hN1 : 1 ≤ N.length := List.length_pos_iff.mpr hN
  have hNp : ¬ (N.length : Int) = 0 := by omega
  have hNp2 : 0 < N.length := by omega
  rw [callD_succ hT rfl]
  refine (?_ : Runs GL (callD GL T L n) L b__law_made _ fun x => ∃ t : Tm, InL N S t ∧ t.ls.length ≤ max 1 cs.length ∧ toCR x = .ok t.d .fr)
  unfold b__law_made
  simp only [startG_def]
  refine .set (p := (.list [], .ow)) (by simp; rfl) ?_
  refine .for_ (ds := cs.map .int) (fun i g => ∃ (ts : List Tm) (x y z : Sl), g = [some (.list (cs.map .int), .fr), some (.list (N.map .int), .fr), some (.list (S.map .int), .fr), some (.str sg.s, .fr), some (.list (ts.map Tm.d), .ow), x, y, z] ∧ (∀ t ∈ ts, InL N S t) ∧ lsum ts ≤ i) (by simp; exact ⟨rfl, rfl⟩) (by decide) rfl ⟨[], none, none, none, rfl, by simp, by simp [lsum]⟩ ?_ ?_
  · rintro i q g hd ⟨ts, x, y, z, rfl, h1, h2⟩
    have hil : i < cs.length := by simpa using (List.getElem?_eq_some_iff.mp hd).1
    obtain ⟨e, rfl⟩ : ∃ e : Int, q = .int e := by
      rw [List.getElem?_map] at hd
      cases q : cs[i]? with
      | none => rw [q] at hd; cases hd
      | some c => rw [q] at hd; cases hd; exact ⟨c, rfl⟩
    simp only [List.set_cons_zero, List.set_cons_succ]
    have hlen := lsum_len ts
    by_cases c1 : e % 8 < 4 ∨ ts.length < 2
    · have hs : ts.length < 16777216 := by omega
      have c3 : e % 8 < 4 ∨ (ts.length : Int) < 2 := by omega
      obtain ⟨i1, hi1, ei1⟩ := at_mod PyData.int N hN1 (e / 16)
      have fin : ∀ lf : Tm, InL N S lf → lf.ls.length = 1 → ∃ g2, Res.ok Ctl.next [some (.list (cs.map .int), .fr), some (.list (N.map .int), .fr), some (.list (S.map .int), .fr), some (.str sg.s, .fr), some (.list ((ts ++ [lf]).map Tm.d), .ow), some (.int e, .fr), y, some (lf.d, .fr)] = .ok .next g2 ∧ ∃ (ts : List Tm) (x y z : Sl), g2 = [some (.list (cs.map .int), .fr), some (.list (N.map .int), .fr), some (.list (S.map .int), .fr), some (.str sg.s, .fr), some (.list (ts.map Tm.d), .ow), x, y, z] ∧ (∀ t ∈ ts, InL N S t) ∧ lsum ts ≤ i + 1 := fun lf h3 h4 => by
        refine ⟨_, rfl, ts ++ [lf], _, _, _, rfl, fun t ht => ?_, by rw [lsum_snoc, h4]; omega⟩
        rcases List.mem_append.mp ht with ht | ht
        · exact h1 t ht
        · simp at ht; subst ht; exact h3
      refine ex_runs ?_
      refine .ifT (m := .fr) (g1 := [some (.list (cs.map .int), .fr), some (.list (N.map .int), .fr), some (.list (S.map .int), .fr), some (.str sg.s, .fr), some (.list (ts.map Tm.d), .ow), some (.int e, .fr), y, z]) (by by_cases c4 : e % 8 < 4 <;> simp [c4, c3.resolve_left]) ?_
      simp only [as_iff, skip_iff]
      refine .set (p := ((Tm.leaf false i1).d, .fr)) (g1 := [some (.list (cs.map .int), .fr), some (.list (N.map .int), .fr), some (.list (S.map .int), .fr), some (.str sg.s, .fr), some (.list (ts.map Tm.d), .ow), some (.int e, .fr), y, z]) (by simp [Tm.d, kS, ei1, hNp, hNp2, hN]) ?_
      simp only [as_iff, skip_iff, List.set_cons_zero, List.set_cons_succ]
      by_cases c5 : S ≠ [] ∧ e / 8 % 2 = 1
      · obtain ⟨c5, c6⟩ := c5
        have hSe : S.isEmpty = false := by cases S <;> simp at c5 ⊢
        have hS3 : S.length = 3 := hS.resolve_left c5
        obtain ⟨i2, hi2, ei2⟩ := at_mod PyData.int S (by omega) (e / 16)
        have ei2 : atI (S.map PyData.int) (e / 16 % 3) = some (.int i2) := by rw [hS3] at ei2; exact ei2
        refine .ifT (m := .fr) (g1 := [some (.list (cs.map .int), .fr), some (.list (N.map .int), .fr), some (.list (S.map .int), .fr), some (.str sg.s, .fr), some (.list (ts.map Tm.d), .ow), some (.int e, .fr), y, some ((Tm.leaf false i1).d, .fr)]) (by simp [hS1, hS2, hSe, c5, c6]) ?_
        simp only [as_iff, skip_iff]
        refine .set (p := ((Tm.leaf true i2).d, .fr)) (g1 := [some (.list (cs.map .int), .fr), some (.list (N.map .int), .fr), some (.list (S.map .int), .fr), some (.str sg.s, .fr), some (.list (ts.map Tm.d), .ow), some (.int e, .fr), y, some ((Tm.leaf false i1).d, .fr)]) (by simp [Tm.d, kS, ei2]) ?_
        simp only [as_iff, skip_iff, List.set_cons_zero, List.set_cons_succ]
        refine .ex (p := (.none, .fr)) (g1 := [some (.list (cs.map .int), .fr), some (.list (N.map .int), .fr), some (.list (S.map .int), .fr), some (.str sg.s, .fr), some (.list ((ts ++ [Tm.leaf true i2]).map Tm.d), .ow), some (.int e, .fr), y, some ((Tm.leaf true i2).d, .fr)]) (by simp [hs]) ?_
        simp only [as_iff, skip_iff]
        exact .nil (fin _ (.opn hi2) rfl)
      · refine .ifF (m := .fr) (g1 := [some (.list (cs.map .int), .fr), some (.list (N.map .int), .fr), some (.list (S.map .int), .fr), some (.str sg.s, .fr), some (.list (ts.map Tm.d), .ow), some (.int e, .fr), y, some ((Tm.leaf false i1).d, .fr)]) ?_ ?_
        · by_cases c7 : S = []
          · subst c7
            simp [show PyData.eqv (.list []) (.list []) = true from eqv_nil]
          · have hSe : S.isEmpty = false := by cases S <;> simp at c7 ⊢
            have c6 : ¬ e / 8 % 2 = 1 := fun h => c5 ⟨c7, h⟩
            simp [hS1, hS2, hSe, c6, c7]
        simp only [as_iff, skip_iff]
        refine .ex (p := (.none, .fr)) (g1 := [some (.list (cs.map .int), .fr), some (.list (N.map .int), .fr), some (.list (S.map .int), .fr), some (.str sg.s, .fr), some (.list ((ts ++ [Tm.leaf false i1]).map Tm.d), .ow), some (.int e, .fr), y, some ((Tm.leaf false i1).d, .fr)]) (by simp [hs]) ?_
        simp only [as_iff, skip_iff]
        exact .nil (fin _ (.name hi1) rfl)
    · have c4 : ¬ e % 8 < 4 := fun h => c1 (.inl h)
      have c2 : ¬ ts.length < 2 := fun h => c1 (.inr h)
      obtain ⟨us, p, q, rfl⟩ := two_last ts c2
      refine ⟨[some (.list (cs.map .int), .fr), some (.list (N.map .int), .fr), some (.list (S.map .int), .fr), some (.str sg.s, .fr), some (.list ((us ++ [Tm.node (sgn4 (e % 8 - 4)) p q]).map Tm.d), .ow), some (.int e, .fr), some (q.d, .fr), z], ?_, us ++ [Tm.node (sgn4 (e % 8 - 4)) p q], _, _, _, rfl, ?_, ?_⟩
      · refine Runs.body ?_
        have hs : us.length < 16777216 := by
          have e2 : (us ++ [p] ++ [q]).length = us.length + 2 := by simp
          rw [e2] at hlen
          omega
        have c7 : ¬ ((us.length : Int) + 2 < 2) := by omega
        have cm : e % 8 - 4 = 0 ∨ e % 8 - 4 = 1 ∨ e % 8 - 4 = 2 ∨ e % 8 - 4 = 3 := by omega
        refine .ifF (m := .fr) (g1 := [some (.list (cs.map .int), .fr), some (.list (N.map .int), .fr), some (.list (S.map .int), .fr), some (.str sg.s, .fr), some (.list ((us ++ [p] ++ [q]).map Tm.d), .ow), some (.int e, .fr), y, z]) (by simp [c4, c7]) (.as ?_)
        refine .set (p := (q.d, .fr)) (g1 := [some (.list (cs.map .int), .fr), some (.list (N.map .int), .fr), some (.list (S.map .int), .fr), some (.str sg.s, .fr), some (.list ((us ++ [p]).map Tm.d), .ow), some (.int e, .fr), y, z]) (by simp) (.as ?_)
        simp only [List.set_cons_zero, List.set_cons_succ]
        refine .ex (p := (.none, .fr)) (g1 := [some (.list (cs.map .int), .fr), some (.list (N.map .int), .fr), some (.list (S.map .int), .fr), some (.str sg.s, .fr), some (.list ((us ++ [Tm.node (sgn4 (e % 8 - 4)) p q]).map Tm.d), .ow), some (.int e, .fr), some (q.d, .fr), z]) ?_ (by simp only [as_iff, skip_iff]; exact .nil rfl)
        rcases cm with cm | cm | cm | cm <;> simp [cm, hs, sgn4, Tm.d, Sn.s]
      · intro t ht
        rcases List.mem_append.mp ht with ht | ht
        · exact h1 t (by simp [ht])
        · simp at ht; subst ht
          exact (h1 p (by simp)).node (h1 q (by simp))
      · rw [lsum_snoc, lsum_snoc] at h2
        rw [lsum_snoc]
        simp [Tm.ls]
        omega
  · rintro g ⟨ts, x, y, z, rfl, h1, h2⟩
    have hlen := lsum_len ts
    rw [List.length_map] at h2
    refine .whl (fun k g => ∃ (ts : List Tm) (y : Sl), g = [some (.list (cs.map .int), .fr), some (.list (N.map .int), .fr), some (.list (S.map .int), .fr), some (.str sg.s, .fr), some (.list (ts.map Tm.d), .ow), x, y, z] ∧ (∀ t ∈ ts, InL N S t) ∧ lsum ts ≤ cs.length ∧ ts.length = k) ts.length (by omega) ⟨ts, y, rfl, h1, by omega, rfl⟩ ?_
    rintro k g ⟨ts, y, rfl, h1, h2, rfl⟩
    by_cases c1 : ts.length < 2
    · left
      have c2 : ¬ (1 : Int) < (ts.length : Nat) := by omega
      refine ⟨_, _, by simp [c2]; exact ⟨rfl, rfl⟩, ?_⟩
      cases ts with
      | nil =>
        obtain ⟨i0, N', rfl⟩ : ∃ i0 N', N = i0 :: N' := by cases N with
          | nil => exact absurd rfl hN
          | cons a b => exact ⟨a, b, rfl⟩
        refine .ifT (by simp [eqv_nil]; exact ⟨rfl, rfl⟩) (.as ?_)
        exact .ret (d := (Tm.leaf false i0).d) (m := .fr) (by simp [Tm.d, kS]; rfl) ⟨.leaf false i0, .name (by simp), by simp [Tm.ls]; omega, rfl⟩
      | cons t r =>
        cases r with
        | cons _ _ => simp only [List.length_cons] at c1; omega
        | nil =>
          have hlay : PyData.canLayAll0 [t.d] = true := by simp [PyData.canLayAll0, t.lay]
          refine .ifF (by simp [eqOk_nil hlay, eqv_nil]; exact ⟨rfl, rfl⟩) (.skip ?_)
          exact .ret (d := t.d) (m := .fr) (by simp; rfl) ⟨t, h1 t (by simp), by simp [lsum] at h2; omega, rfl⟩
    · right
      obtain ⟨us, p, q, rfl⟩ := two_last ts c1
      have c2 : (1 : Int) < (us.length : Int) + 2 := by omega
      have hs : us.length < 16777216 := by
        have e := lsum_len (us ++ [p] ++ [q])
        have e2 : (us ++ [p] ++ [q]).length = us.length + 2 := by simp
        rw [e2] at e
        omega
      refine ⟨_, _, by simp [c2]; exact ⟨rfl, rfl⟩, [some (.list (cs.map .int), .fr), some (.list (N.map .int), .fr), some (.list (S.map .int), .fr), some (.str sg.s, .fr), some (.list ((us ++ [Tm.node sg p q]).map Tm.d), .ow), x, some (q.d, .fr), z], ?_, us.length + 1, by simp, us ++ [Tm.node sg p q], _, rfl, ?_, ?_, by simp⟩
      · simp [hs, Tm.d]
      · intro t ht
        rcases List.mem_append.mp ht with ht | ht
        · exact h1 t (by simp [ht])
        · simp at ht; subst ht
          exact (h1 p (by simp)).node (h1 q (by simp))
      · rw [lsum_snoc, lsum_snoc] at h2
        rw [lsum_snoc]
        simp [Tm.ls]
        omega
end
end DL

set_option Elab.async false
set_option linter.all false
set_option maxRecDepth 100000
/-! P10b: the law's own grown, put, is_form, rows. -/
namespace DL
open PySem L2
def Clo (t : Tm) : Prop := ∀ i, (true, i) ∉ t.ls
theorem Clo.node {s : Sn} {a b : Tm} (h : Clo (.node s a b)) : Clo a ∧ Clo b := ⟨fun i hi => h i (by simp [Tm.ls, hi]), fun i hi => h i (by simp [Tm.ls, hi])⟩
theorem cf_one {d : D} (h : CF d) (h1 : lvD d ≤ 1) : ∃ o i, d = (Tm.leaf o i).d ∧ leafOk o i := by
  cases h with
  | leaf o i ok => exact ⟨o, i, rfl, ok⟩
  | pair ha hb =>
    have := lv_pos ha
    have := lv_pos hb
    simp [lvD, lvDs] at h1
    omega
  | @join s xs hs h2 hc u hp =>
    have := lvDs_len2 xs fun x hx => lv_pos (hc x hx)
    rw [lvD_join] at h1
    omega
/-- a form of two names at most is a term -/
theorem cf_two {d : D} (h : CF d) (h2 : lvD d ≤ 2) (hcl : ∀ i, (true, i) ∉ lsD d) : ∃ u : Tm, d = u.d ∧ u.ok ∧ Clo u ∧ u.ls.length ≤ 2 := by
  have one : ∀ {a : D}, CF a → lvD a ≤ 1 → (∀ i, (true, i) ∉ lsD a) → ∃ i, a = (Tm.leaf false i).d ∧ leafOk false i := fun {a} ca la hc => by
    obtain ⟨o, i, rfl, ok⟩ := cf_one ca la
    cases o with
    | true => exact absurd (by show (true, i) ∈ lsD (.tuple [.str (kS true), .int i]); rw [lsD_leaf]; simp) (hc i)
    | false => exact ⟨i, rfl, ok⟩
  cases h with
  | leaf o i ok =>
    cases o with
    | true => exact absurd (by rw [lsD_leaf]; simp) (hcl i)
    | false => exact ⟨.leaf false i, rfl, ok, fun j hj => by simp [Tm.ls] at hj, by simp [Tm.ls]⟩
  | @pair a b ha hb =>
    have pa := lv_pos ha
    have pb := lv_pos hb
    have hl : lvD a + lvD b ≤ 2 := by simpa [lvD, lvDs] using h2
    obtain ⟨i, rfl, oi⟩ := one ha (by omega) fun i hi => hcl i (by rw [lsD_pair]; simp [hi])
    obtain ⟨j, rfl, oj⟩ := one hb (by omega) fun i hi => hcl i (by rw [lsD_pair]; simp [hi])
    exact ⟨.node .pair (.leaf false i) (.leaf false j), rfl, ⟨oi, oj⟩, fun k hk => by simp [Tm.ls] at hk, by simp [Tm.ls]⟩
  | @join s xs hs h2' hc u hp =>
    have hlen := lvDs_len2 xs fun x hx => lv_pos (hc x hx)
    rw [lvD_join] at h2
    obtain ⟨a, b, rfl⟩ : ∃ a b, xs = [a, b] := by
      match xs, h2', hlen with
      | [a, b], _, _ => exact ⟨a, b, rfl⟩
      | _ :: _ :: _ :: _, _, hl => simp at hl; omega
    have pa := lv_pos (hc a (by simp))
    have pb := lv_pos (hc b (by simp))
    simp [lvDs] at h2
    obtain ⟨i, rfl, oi⟩ := one (hc a (by simp)) (by omega) fun i hi => hcl i (by rw [lsD_join h2']; simp [hi])
    obtain ⟨j, rfl, oj⟩ := one (hc b (by simp)) (by omega) fun i hi => hcl i (by rw [lsD_join h2']; simp [hi])
    exact ⟨.node s (.leaf false i) (.leaf false j), rfl, ⟨oi, oj⟩, fun k hk => by simp [Tm.ls] at hk, by simp [Tm.ls]⟩
theorem word_ne {s : Sn} {y : Str} {ys : List D} (h : partsD s.s (.tuple (.str y :: ys)) = [.tuple (.str y :: ys)]) : y ≠ s.s := by
  rintro rfl
  rw [partsD_word, if_pos rfl] at h
  have := congrArg wts h
  simp [wts, wt] at this
  omega
section
variable {GL : Str → Option D} {T : Str → Option Fd} {L : Nat}
theorem r_grown (hT : T (Str.ofString "_law_grown") = some ⟨1, 1, b__law_grown, 0⟩) : ∀ u : Tm, Clo u → Calls GL T L (u.ht + 1) (Str.ofString "_law_grown") [u.d] (.ok u.d .fr)
  | .leaf o i, h => by
    intro n hn
    obtain ⟨n, rfl⟩ : ∃ m, n = m + 1 := ⟨n - 1, by omega⟩
    cases o with
    | true => exact absurd (by simp [Tm.ls]) (h i)
    | false =>
      refine call_runs hT rfl ?_
      unfold b__law_grown
      simp only [startG_def]
      refine .ifT (by simp [Tm.d, kS]; exact ⟨rfl, rfl⟩) (.as ?_)
      exact .ret (d := (Tm.leaf false i).d) (m := .fr) (by simp [Tm.d, kS]; rfl) rfl
  | .node s a b, h => by
    intro n hn
    obtain ⟨n, rfl⟩ : ∃ m, n = m + 1 := ⟨n - 1, by omega⟩
    simp only [Tm.ht] at hn
    have ca := r_grown hT a h.node.1 n (by omega)
    have cb := r_grown hT b h.node.2 n (by omega)
    have ks := lay_sS s
    have n2 := eqOk_str ks (show PyData.strOk (Str.ofString "name") = true by simp)
    have m2 : ¬ s.s = Str.ofString "name" := fun e => (kS_sn (o := false) (s := s)) e.symm
    have n3 := eqOk_str ks (show PyData.strOk (Str.ofString "pair") = true by simp)
    refine call_runs hT rfl ?_
    unfold b__law_grown
    simp only [startG_def]
    refine .ifF (m := .fr) (g1 := [some ((Tm.node s a b).d, .fr)]) (by simp [Tm.d, n2, m2]) (.skip ?_)
    refine .ifT (m := .fr) (g1 := [some ((Tm.node s a b).d, .fr)]) (by cases s <;> simp [Tm.d, Sn.s]) (.as ?_)
    exact .ret (d := (Tm.node s a b).d) (m := .fr) (by simp [Tm.d, ca, cb]; rfl) rfl
theorem r_lput (hT : T (Str.ofString "_law_put") = some ⟨2, 2, b__law_put, 0⟩) (hg : T (Str.ofString "_law_grown") = some ⟨1, 1, b__law_grown, 0⟩) {S : List Int} {g : Int → Tm} (hc : ∀ i ∈ S, Clo (g i) ∧ (g i).ht ≤ 10) : ∀ t : Tm, (∀ i, (true, i) ∈ t.ls → i ∈ S) → Calls GL T L (t.ht + 15) (Str.ofString "_law_put") [t.d, .dict (fT S g)] (.ok (t.fillT g).d .fr)
  | .leaf o j, h => by
    intro n hn
    obtain ⟨n, rfl⟩ : ∃ m, n = m + 1 := ⟨n - 1, by omega⟩
    refine call_runs hT rfl ?_
    unfold b__law_put
    simp only [startG_def]
    cases o with
    | true =>
      have hj := h j (by simp [Tm.ls])
      have hk := fT_get (g := g) hj
      have cg := r_grown (GL := GL) (L := L) hg (g j) (hc j hj).1 n (by have := (hc j hj).2; omega)
      refine .ifT (by simp [Tm.d, kS]; exact ⟨rfl, rfl⟩) (.as ?_)
      exact .ret (d := (g j).d) (m := .fr) (by simp [hk, cg]; rfl) rfl
    | false =>
      refine .ifF (by simp [Tm.d, kS]; exact ⟨rfl, rfl⟩) (.skip ?_)
      refine .ifT (by simp; exact ⟨rfl, rfl⟩) (.as ?_)
      exact .ret (d := (Tm.leaf false j).d) (m := .fr) (by simp [Tm.d, kS]; rfl) rfl
  | .node s a b, h => by
    intro n hn
    obtain ⟨n, rfl⟩ : ∃ m, n = m + 1 := ⟨n - 1, by omega⟩
    simp only [Tm.ht] at hn
    have ca := r_lput (S := S) (g := g) hT hg hc a (fun i hi => h i (by simp [Tm.ls, hi])) n (by omega)
    have cb := r_lput (S := S) (g := g) hT hg hc b (fun i hi => h i (by simp [Tm.ls, hi])) n (by omega)
    have ks := lay_sS s
    have n1 := eqOk_str ks (show PyData.strOk (Str.ofString "open") = true by simp)
    have n2 := eqOk_str ks (show PyData.strOk (Str.ofString "name") = true by simp)
    have m1 : ¬ s.s = Str.ofString "open" := fun e => (kS_sn (o := true) (s := s)) e.symm
    have m2 : ¬ s.s = Str.ofString "name" := fun e => (kS_sn (o := false) (s := s)) e.symm
    refine call_runs hT rfl ?_
    unfold b__law_put
    simp only [startG_def]
    refine .ifF (m := .fr) (g1 := [some ((Tm.node s a b).d, .fr), some (.dict (fT S g), .fr)]) (by simp [Tm.d, n1, m1]) (.skip ?_)
    refine .ifF (m := .fr) (g1 := [some ((Tm.node s a b).d, .fr), some (.dict (fT S g), .fr)]) (by simp [Tm.d, n2, m2]) (.skip ?_)
    exact .ret (d := ((Tm.node s a b).fillT g).d) (m := .fr) (by simp [Tm.d, ca, cb, Tm.fillT]; rfl) rfl
theorem r_is_form (hT : T (Str.ofString "_law_is_form") = some ⟨1, 2, b__law_is_form, 0⟩) : ∀ (k : Nat) (d : D), d.depth ≤ k → k ≤ 90 → lvD d ≤ 1000 → CF d → (∀ i, (true, i) ∉ lsD d) → Calls GL T L (k + 1) (Str.ofString "_law_is_form") [d] (.ok (.bool true) .fr) := by
  intro k
  induction k with
  | zero =>
    intro d hd _ _ h
    cases h <;> simp [PyData.depth] at hd
  | succ k ih =>
    intro d hd hk hlv h hcl n hn
    obtain ⟨n, rfl⟩ : ∃ m, n = m + 1 := ⟨n - 1, by omega⟩
    refine call_runs hT rfl ?_
    unfold b__law_is_form
    simp only [startG_def]
    have h0 := h
    cases h with
    | leaf o i ok =>
      cases o with
      | true => exact absurd (by rw [lsD_leaf]; simp) (hcl i)
      | false =>
        refine .ifF (m := .fr) (g1 := [some (.tuple [.str (kS false), .int i], .fr), none]) (by simp [kS]) (.skip ?_)
        refine .ifT (m := .fr) (g1 := [some (.tuple [.str (kS false), .int i], .fr), none]) (by simp [kS]) (.as ?_)
        exact .ret (d := .bool true) (m := .fr) (by simp [kS]; rfl) rfl
    | @pair a b ha hb =>
      have da : a.depth ≤ k ∧ b.depth ≤ k := by
        simp [PyData.depth, PyData.depthAll] at hd
        omega
      have hl : lvD a ≤ 1000 ∧ lvD b ≤ 1000 := by simp [lvD, lvDs] at hlv; omega
      have ca := ih a da.1 (by omega) hl.1 ha (fun i hi => hcl i (by rw [lsD_pair]; simp [hi])) n (by omega)
      have cb := ih b da.2 (by omega) hl.2 hb (fun i hi => hcl i (by rw [lsD_pair]; simp [hi])) n (by omega)
      refine .ifF (m := .fr) (g1 := [some (.tuple [.str (Str.ofString "pair"), a, b], .fr), none]) (by simp) (.skip ?_)
      refine .ifF (m := .fr) (g1 := [some (.tuple [.str (Str.ofString "pair"), a, b], .fr), none]) (by simp) (.skip ?_)
      refine .ifT (m := .fr) (g1 := [some (.tuple [.str (Str.ofString "pair"), a, b], .fr), none]) (by simp) (.as ?_)
      exact .ret (d := .bool true) (m := .fr) (by simp [ca, cb]; rfl) rfl
    | @join s xs hs h2 hc u hp =>
      have ew : s = .sum ∨ s = .mul := by cases s <;> simp at hs ⊢
      have ks := lay_sS s
      have n2 := eqOk_str ks (show PyData.strOk (Str.ofString "name") = true by simp)
      have m2 : ¬ s.s = Str.ofString "name" := fun e => (kS_sn (o := false) (s := s)) e.symm
      have n3 := eqOk_str ks (show PyData.strOk (Str.ofString "pair") = true by simp)
      have m3 : ¬ s.s = Str.ofString "pair" := fun e => hs (Sn.inj (s' := .pair) e)
      have hdx : ∀ x ∈ xs, x.depth ≤ k := fun x hx => by
        have := depth_mem hx
        have e : (PyData.tuple (.str s.s :: xs)).depth = PyData.depthAll xs + 1 := by simp [PyData.depth, PyData.depthAll]
        omega
      have hlen := lvDs_len2 xs fun x hx => lv_pos (hc x hx)
      rw [lvD_join] at hlv
      have i2 : ¬ ((xs.length : Int) + 1 < 2) := by omega
      have i3 : ¬ ((xs.length : Int) + 1 < 3) := by omega
      refine .ifF (m := .fr) (g1 := [some (.tuple (.str s.s :: xs), .fr), none]) (by simp [i2]) (.skip ?_)
      refine .ifF (m := .fr) (g1 := [some (.tuple (.str s.s :: xs), .fr), none]) (by simp [n2, m2]) (.skip ?_)
      refine .ifF (m := .fr) (g1 := [some (.tuple (.str s.s :: xs), .fr), none]) (by simp [n3, m3]) (.skip ?_)
      refine .ifF (m := .fr) (g1 := [some (.tuple (.str s.s :: xs), .fr), none]) ?_ (.skip ?_)
      · have hn : cmpD .nin (.str s.s) (.list [.str (Str.ofString "sum"), .str (Str.ofString "mul")]) .fr = some false := by
          have hsh : (SeqAt.shaped (.str s.s) && SeqAt.shaped (.list [.str (Str.ofString "sum"), .str (Str.ofString "mul")])) = true := by
            rcases ew with rfl | rfl <;> simp [SeqAt.shaped, PyData.canLay0, PyData.canLayAll0, PyData.depth, PyData.depthAll, Sn.s]
          have hv : (([PyData.str (Str.ofString "sum"), .str (Str.ofString "mul")] : List D).any fun z => PyData.eqv z (.str s.s)) = true := by
            rcases ew with rfl | rfl <;> simp [Sn.s]
          show (if _ then some _ else none).map _ = _
          rw [if_pos hsh, hv]
          rfl
        rw [cmpD_def] at hn
        simp at hn
        simp [hn, i3]
      refine .for_ (ds := xs) (m := .fr) (d := .tuple xs) (g1 := [some (.tuple (.str s.s :: xs), .fr), none]) (fun j g => ∃ z : Sl, g = [some (.tuple (.str s.s :: xs), .fr), z]) (by simp [cut_tail]) (by decide) rfl ⟨none, rfl⟩ ?_ ?_
      · rintro j x g hj ⟨z, rfl⟩
        have hx := List.mem_of_getElem? hj
        have cx := ih x (hdx x hx) (by omega) (by have := lvDs_mem hx; omega) (hc x hx) (fun i hi => hcl i (by rw [lsD_join h2]; exact List.mem_flatMap.mpr ⟨x, hx, hi⟩)) n (by omega)
        obtain ⟨y, ys, rfl, ky⟩ := (hc x hx).isF.word
        have hne := word_ne (hp _ hx)
        have n4 := eqOk_str ky ks
        refine ⟨[some (.tuple (.str s.s :: xs), .fr), some (.tuple (.str y :: ys), .fr)], Runs.body ?_, _, rfl⟩
        simp only [List.set_cons_zero, List.set_cons_succ]
        exact .ifF (m := .fr) (g1 := [some (.tuple (.str s.s :: xs), .fr), some (.tuple (.str y :: ys), .fr)]) (by simp [cx, n4, hne]) (.skip (.nil rfl))
      · rintro g ⟨z, rfl⟩
        have hso := sortable_forms (ds := xs) (fun x hx => ⟨(hc x hx).isF, by have := hdx x hx; omega⟩) (by omega)
        have hid : sortD xs = xs := sortD_id (fun x hx => (hc x hx).isF) u
        have l1 := layL_of hc
        have l2 : PyData.depthAll xs ≤ 90 := depthAll_le fun x hx => by have := hdx x hx; omega
        have l3 : plainAll xs = true := plainAll_of fun x hx => (hc x hx).isF.plain
        have q1 : eqOk (.list xs) (.list xs) = true := by
          unfold eqOk
          simp [PyData.canLay0, l1, PyData.depth]
          omega
        have q2 : PyData.eqv (.list xs) (.list xs) = true := by
          have := (eqvs_plain xs xs l3 l3).mpr rfl
          simpa [PyData.eqv] using this
        exact .ret (d := .bool true) (m := .fr) (by simp [cut_tail, sortedD, listD, hso, hid, q1, q2]; rfl) rfl
def rowDs (ns : List Int) (rs : List (List D)) : List D := rs.map fun r => .dict (flR ns r)
theorem r_rows (hT : T (Str.ofString "_law_rows") = some ⟨2, 5, b__law_rows, 0⟩) (hf : T (Str.ofString "_law_is_form") = some ⟨1, 2, b__law_is_form, 0⟩) {ns : List Int} {rws : List (List D)} (hns : ns.Nodup) (hnl : ns.length ≤ 1000) (hrl : rws.length ≤ 1000000)
    (hr : ∀ r ∈ rws, r.length = ns.length ∧ ∀ x ∈ r, CF x ∧ x.depth ≤ 10 ∧ lvD x ≤ 1000 ∧ ∀ i, (true, i) ∉ lsD x) (n : Nat) (hn : 20 ≤ n) :
    callD GL T L (n + 1) (Str.ofString "_law_rows") [.list (rowDs ns rws), .list (ns.map .int)] = .ok (.list (rws.map .list)) .ow := by
  refine call_runs hT rfl ?_
  unfold b__law_rows
  simp only [startG_def]
  refine .set (p := (.list [], .ow)) (by simp; rfl) ?_
  refine .for_ (ds := rowDs ns rws) (m := .fr) (d := .list (rowDs ns rws)) (g1 := [some (.list (rowDs ns rws), .fr), some (.list (ns.map .int), .fr), some (.list ([]), .ow), none, none]) (fun j g => ∃ z3 z4 : Sl, g = [some (.list (rowDs ns rws), .fr), some (.list (ns.map .int), .fr), some (.list ((rws.take j).map .list), .ow), z3, z4]) (by simp) (by decide) rfl ⟨none, none, rfl⟩ ?_ ?_
  · rintro j d g hj ⟨z3, z4, rfl⟩
    unfold rowDs at hj
    rw [List.getElem?_map, Option.map_eq_some_iff] at hj
    obtain ⟨r, hrj, rfl⟩ := hj
    have hjl := (List.getElem?_eq_some_iff.mp hrj).1
    obtain ⟨r1, r2⟩ := hr r (List.mem_of_getElem? hrj)
    have etk : rws.take (j + 1) = rws.take j ++ [r] := by
      rw [List.take_succ_eq_append_getElem hjl]
      have : rws[j] = r := (List.getElem?_eq_some_iff.mp hrj).2
      rw [this]
    have a2 := flR_keys r1
    have a5 := eqOk_ints ns
    have a6 := eqv_ints ns
    have a7 : listD (PyData.dict (flR ns r), Md.fr) = some (.list (ns.map .int), .ow) := by
      show some (PyData.list ((flR ns r).map (·.1)), Md.ow) = _
      rw [a2]
    have erow := row_fun hns r1
    have hz : (rws.take j).length < 16777216 := by rw [List.length_take]; omega
    refine ex_runs ?_
    rw [etk]
    generalize rws.take j = RJ at *
    simp only [List.set_cons_zero, List.set_cons_succ]
    refine .ifF (m := .fr) (g1 := [some (.list (rowDs ns rws), .fr), some (.list (ns.map .int), .fr), some (.list (RJ.map .list), .ow), some (.dict (flR ns r), .fr), z4]) (by simp [a5, a6, a7]) (.skip ?_)
    refine .for_ (ds := ns.map .int) (m := .fr) (d := .list (ns.map .int)) (g1 := [some (.list (rowDs ns rws), .fr), some (.list (ns.map .int), .fr), some (.list (RJ.map .list), .ow), some (.dict (flR ns r), .fr), z4]) (fun q g => ∃ z4 : Sl, g = [some (.list (rowDs ns rws), .fr), some (.list (ns.map .int), .fr), some (.list (RJ.map .list), .ow), some (.dict (flR ns r), .fr), z4]) (by simp) (by decide) rfl ⟨z4, rfl⟩ ?_ ?_
    · rintro q x g hq ⟨z4, rfl⟩
      rw [List.getElem?_map, Option.map_eq_some_iff] at hq
      obtain ⟨i, hi, rfl⟩ := hq
      obtain ⟨k1, k2⟩ := row_get hns r1 (List.mem_of_getElem? hi)
      obtain ⟨x1, x2, x3, x4⟩ := r2 _ k2
      have cf := r_is_form (GL := GL) (L := L) hf 10 (valF (flR ns r) i) x2 (by omega) x3 x1 x4 n (by omega)
      refine ⟨[some (.list (rowDs ns rws), .fr), some (.list (ns.map .int), .fr), some (.list (RJ.map .list), .ow), some (.dict (flR ns r), .fr), some (.int i, .fr)], Runs.body ?_, _, rfl⟩
      simp only [List.set_cons_zero, List.set_cons_succ]
      exact .ifF (m := .fr) (g1 := [some (.list (rowDs ns rws), .fr), some (.list (ns.map .int), .fr), some (.list (RJ.map .list), .ow), some (.dict (flR ns r), .fr), some (.int i, .fr)]) (by simp [k1, cf]) (.skip (.nil rfl))
    · rintro g ⟨z4, rfl⟩
      have el : ev GL (callD GL T L n) (.lc (.ix (.var 3) (.var 4)) 4 (.var 1) .nil [3]) [some (.list (rowDs ns rws), .fr), some (.list (ns.map .int), .fr), some (.list (RJ.map .list), .ow), some (.dict (flR ns r), .fr), z4] = .ok (.list r, .ow) [some (.list (rowDs ns rws), .fr), some (.list (ns.map .int), .fr), some (.list (RJ.map .list), .ow), some (.dict (flR ns r), .fr), z4] := by
        rw [show (PyData.list r) = .list (ns.map (valF (flR ns r))) by rw [← erow]]
        refine lc_run0 (m := .fr) (d := .list (ns.map .int)) (fun i : Int => .int i) (valF (flR ns r)) ns (by simp) (by decide) rfl (fun i hi => ?_) (by rw [sizeLine_eq]; omega)
        have := (row_get hns r1 hi).1
        exact ⟨.fr, _, by decide, by simp [this]; rfl⟩
      refine .ex (p := (.none, .fr)) (g1 := [some (.list (rowDs ns rws), .fr), some (.list (ns.map .int), .fr), some (.list ((RJ ++ [r]).map .list), .ow), some (.dict (flR ns r), .fr), z4]) ?_ (.nil ⟨_, rfl, _, _, rfl⟩)
      rw [ev, el]
      simp [hz]
  · rintro g ⟨z3, z4, rfl⟩
    have : (rowDs ns rws).length = rws.length := by simp [rowDs]
    rw [this, List.take_length]
    exact .ret (d := .list (rws.map .list)) (m := .ow) (by simp; rfl) rfl
end
end DL

set_option Elab.async false
set_option linter.all false
set_option maxRecDepth 100000
/-! P2_k10: the law. -/
namespace DL
open PySem L2
mutual
theorem key_nd : ∀ d : D, keyOk d = true → ndD d = true
  | .int i, _ => rfl
  | .str x, _ => rfl
  | .tuple xs, h => by simp only [ndD]; exact keys_nd xs (by simpa [keyOk] using h)
  | .none, h => by simp [keyOk] at h
  | .bool _, h => by simp [keyOk] at h
  | .list _, h => by simp [keyOk] at h
  | .dict _, h => by simp [keyOk] at h
theorem keys_nd : ∀ xs : List D, plainAll xs = true → ndL xs = true
  | [], _ => rfl
  | x :: xs, h => by
    simp only [plainAll, keyOk.keyOkAll, Bool.and_eq_true] at h
    simp only [ndL, Bool.and_eq_true]
    exact ⟨key_nd x h.1, keys_nd xs h.2⟩
end
theorem tm_nd : ∀ t : Tm, ndD t.d = true
  | .leaf o i => rfl
  | .node s a b => by simp [Tm.d, ndD, ndL, tm_nd a, tm_nd b]
theorem ints_nd (l : List Int) : ndL (l.map PyData.int) = true := by
  induction l with
  | nil => rfl
  | cons x l ih => simp [ndL, ndD, ih]
theorem rows_nd {rws : List (List D)} (h : ∀ r ∈ rws, ∀ x ∈ r, CF x) : ndL (rws.map PyData.list) = true := by
  induction rws with
  | nil => rfl
  | cons r rws ih =>
    have h1 : ndL r = true := keys_nd r (plainAll_of fun x hx => (h r (by simp) x hx).isF.plain)
    have h2 := ih fun r' hr => h r' (by simp [hr])
    simp [ndL, ndD, h1, h2]
theorem rows_eq {rws : List (List D)} (h : ∀ r ∈ rws, ∀ x ∈ r, CF x ∧ x.depth ≤ 10) : eqOk (.list (rws.map PyData.list)) (.list (rws.map PyData.list)) = true ∧ PyData.eqv (.list (rws.map PyData.list)) (.list (rws.map PyData.list)) = true := by
  have h1 : PyData.canLayAll0 (rws.map PyData.list) = true := layAll_of fun x hx => by
    obtain ⟨r, hr, rfl⟩ := List.mem_map.mp hx
    simp only [PyData.canLay0]
    exact layL_of fun x hx => (h r hr x hx).1
  have h2 : PyData.depthAll (rws.map PyData.list) ≤ 11 := depthAll_le fun x hx => by
    obtain ⟨r, hr, rfl⟩ := List.mem_map.mp hx
    have : PyData.depthAll r ≤ 10 := depthAll_le fun x hx => (h r hr x hx).2
    simp only [PyData.depth]
    omega
  constructor
  · unfold eqOk
    simp [PyData.canLay0, h1, PyData.depth]
    omega
  · have : PyData.eqvAll (rws.map PyData.list) (rws.map PyData.list) = true := by
      clear h1 h2
      induction rws with
      | nil => rfl
      | cons r rws ih =>
        have k : plainAll r = true := plainAll_of fun x hx => (h r (by simp) x hx).1.isF.plain
        have e := (eqvs_plain r r k k).mpr rfl
        simp [PyData.eqvAll, PyData.eqv, e, ih fun r' hr => h r' (by simp [hr])]
    simpa [PyData.eqv] using this
theorem rows_lt {a b : List D} (ha : ∀ x ∈ a, CF x ∧ x.depth ≤ 10) (hb : ∀ x ∈ b, CF x ∧ x.depth ≤ 10) (h : ltB (.tuple a) (.tuple b) = true) : ltL (.list a) (.list b) = some true := by
  have pl : ∀ {l : List D}, (∀ x ∈ l, CF x ∧ x.depth ≤ 10) → l.all plainD = true ∧ plainAll l = true := fun {l} hl => by
    refine ⟨List.all_eq_true.mpr fun x hx => ?_, plainAll_of fun x hx => (hl x hx).1.isF.plain⟩
    have := hl x hx
    unfold plainD
    simp [this.1.isF.plain, this.1.isF.lay]
    omega
  have cz : ((a.zip b).all fun p => (ltD p.1 p.2).isSome) = true := by
    rw [List.all_eq_true]
    rintro ⟨x, y⟩ hxy
    have := List.of_mem_zip hxy
    exact (ha x this.1).1.isF.cmp y (hb y this.2).1.isF
  have hs : (ltD.ltAll a b).isSome = true := ltAll_some a b fun x hx y hy => (ha x hx).1.isF.cmp y (hb y hy).1.isF
  obtain ⟨r, hr⟩ := Option.isSome_iff_exists.mp hs
  have hv := ltDs_plain a b r (pl ha).2 (pl hb).2 hr
  rw [ltB_tup] at h
  rw [h] at hv
  show (if _ then ltD.ltAll a b else none) = _
  rw [if_pos (by simp [(pl ha).1, (pl hb).1, cz]), hr, hv]
theorem nums_range {t : Tm} (ok : t.ok) : (([0, 1, 2, 3, 4, 5, 6, 7, 8, 9] : List Int).filter fun i => decide ((true, i) ∈ t.ls)) = nums t := by
  refine up_uniq ?_ (nums_up t) fun k => ?_
  · exact (show ([0, 1, 2, 3, 4, 5, 6, 7, 8, 9] : List Int).Pairwise (· < ·) by decide).sublist List.filter_sublist
  · rw [List.mem_filter, mem_nums]
    simp only [decide_eq_true_eq]
    refine ⟨fun h => h.2, fun hk => ⟨?_, hk⟩⟩
    have hno : ∀ t : Tm, t.ok → (true, k) ∈ t.ls → 0 ≤ k ∧ k < 10 := by
      intro t
      induction t with
      | leaf o j => intro ok h; simp only [Tm.ls, List.mem_singleton] at h; cases h; exact ⟨ok.1, by simpa using ok.2⟩
      | node s a b iha ihb =>
        intro ok h
        simp only [Tm.ls, List.mem_append] at h
        rcases h with h | h
        · exact iha ok.1 h
        · exact ihb ok.2 h
    obtain ⟨k1, k2⟩ := hno t ok hk
    simp
    omega
structure Lib10k (T : Str → Option Fd) : Prop where
  cell : T (Str.ofString "_law_cell_at") = some ⟨2, 2, b__law_cell_at, 0⟩
  names : T (Str.ofString "_law_names") = some ⟨1, 2, b__law_names, 0⟩
  made : T (Str.ofString "_law_made") = some ⟨4, 8, b__law_made, 0⟩
  filled : T (Str.ofString "_law_filled") = some ⟨2, 6, b__law_filled, 0⟩
  has : T (Str.ofString "_law_has") = some ⟨2, 2, b__law_has, 0⟩
  form : T (Str.ofString "_law_is_form") = some ⟨1, 2, b__law_is_form, 0⟩
  rows : T (Str.ofString "_law_rows") = some ⟨2, 5, b__law_rows, 0⟩
  put : T (Str.ofString "_law_put") = some ⟨2, 2, b__law_put, 0⟩
  grown : T (Str.ofString "_law_grown") = some ⟨1, 1, b__law_grown, 0⟩
  asked : T (Str.ofString "_law_asked") = some ⟨3, 6, .skip, 3⟩
  law : T (Str.ofString "law") = some ⟨1, 11, b_law, 0⟩
section
variable {GL : Str → Option D} {T : Str → Option Fd} {L : Nat} {R : Nat → S}
theorem callD_ask {n : Nat} {f : Str} {ds : List D} {fd : Fd} (hT : T f = some fd) (hl : ds.length = fd.np) (hk : fd.kd = 3) : callD GL T L (n + 1) f ds = askD (callD GL T L n) ds := by
  rw [callD]
  simp only [hT, hl, if_true, hk]
theorem tail_run (l1 : Lib1 GL T R) (l5 : Lib5 T) (lm : Lib3m T) (l6 : Lib6 T R) (l : Lib10k T) (hL : 200 < L) {t u : Tm} (okt : t.ok) (oku : u.ok) (ht : t.ls.length ≤ 4) (hu : u.ls.length ≤ 6) (hcl : Clo u) (n : Nat) (hn : 150 ≤ n) (ns : List Int) {z1 z2 z3 z4 z9 z10 : Sl} :
    Runs GL (callD GL T L n) L (tailS 7 b_law) [some (.list (ns.map .int), .fr), z1, z2, z3, z4, some (t.d, .fr), some (u.d, .fr), none, none, z9, z10] fun x => toCR x = .ok (.bool true) .fr := by
  obtain ⟨cu, lu⟩ := u.form_cf oku
  have hhu := u.ht_ls
  have hht := t.ht_ls
  have hdu := u.form_ok.2
  have hns := up_nodup (nums_up t)
  have hnl := nums_len t
  obtain ⟨rws, cf, fok⟩ := r_fillings (GL := GL) (T := T) (L := L) (R := R) l1 l5 lm l6 hL t u okt oku (by omega) (by omega) hcl (by omega) (Nat.le_trans (pow_le ht hu (by decide)) (by decide))
  have hnum := fok.num
  have hclf : ∀ i, (true, i) ∉ lsD u.form := fun i hi => hcl i ((form_ls u oku).mem_iff.mp hi)
  have rok : ∀ r ∈ rws, r.length = (nums t).length ∧ ∀ x ∈ r, CF x ∧ x.depth ≤ 10 ∧ lvD x ≤ 1000 ∧ ∀ i, (true, i) ∉ lsD x := fun r hr => by
    obtain ⟨f, rfl, h1, _⟩ := fok.sound r hr
    refine ⟨by simp, fun x hx => ?_⟩
    obtain ⟨i, hi, rfl⟩ := List.mem_map.mp hx
    have p := part_ok (h1 i hi).2 cu
    exact ⟨p.cf, by have := p.dp; omega, by have := p.lv; omega, fun j hj => hclf j (p.ls _ hj)⟩
  have crow := r_rows (GL := GL) (L := L) l.rows l.form hns (by omega) hnum rok (n - 1 - 1) (by omega)
  rw [show n - 1 - 1 + 1 = n - 1 by omega] at crow
  have cask : callD GL T L n (Str.ofString "_law_asked") [t.d, u.d, .list ((nums t).map .int)] = .ok (.list (rws.map .list)) .fr := by
    have cf := cf (n - 1) (by omega)
    have e := callD_ask (GL := GL) (L := L) (n := n - 1) l.asked (ds := [t.d, u.d, .list ((nums t).map .int)]) rfl rfl
    rw [show n - 1 + 1 = n by omega] at e
    rw [e]
    have hd : (rowDs (nums t) rws).all isDct = true := by
      rw [List.all_eq_true]
      intro x hx
      obtain ⟨r, _, rfl⟩ := List.mem_map.mp hx
      rfl
    have hl : rngOk ((rowDs (nums t) rws).length : Int) = true := by
      have : (rowDs (nums t) rws).length = rws.length := by simp [rowDs]
      rw [this]
      exact rngOk_small (by omega) (by omega)
    have cf' : callD GL T L (n - 1) (Str.ofString "fillings") [t.d, u.d] = .ok (.list (rowDs (nums t) rws)) .ow := cf
    unfold askD
    simp only [tm_nd, ndD, ints_nd, Bool.and_self, if_true, cf', hd, hl, crow, rows_nd fun r hr x hx => ((rok r hr).2 x hx).1]
    rfl
  obtain ⟨q1, q2⟩ := rows_eq (rws := rws) fun r hr x hx => ⟨((rok r hr).2 x hx).1, ((rok r hr).2 x hx).2.1⟩
  have cfl := r_lfilled (GL := GL) (L := L) l.filled (es := []) (f := fun _ => .none) (m := 1) (k := 0) (by omega) u oku (by omega) (by omega) (fun i hi => absurd hi (hcl i)) n (by omega)
  rw [fill_closed _ u hcl] at cfl
  have ch := fun i => r_has (GL := GL) (L := L) l.has i t n (by omega)
  simp only [tailS, b_law]
  refine .set (p := (.list ((nums t).map .int), .ow)) (g1 := [some (.list (ns.map .int), .fr), z1, z2, z3, z4, some (t.d, .fr), some (u.d, .fr), none, none, z9, z10]) ?_ ?_
  · rw [← nums_range okt]
    refine lc_run (m := .fr) (d := .list (rangeD 0 10)) (fun i : Int => .int i) (fun i => decide ((true, i) ∈ t.ls)) (fun i => .int i) [0, 1, 2, 3, 4, 5, 6, 7, 8, 9] (by simp [rngOk_small (i := 10) (by omega) (by omega)]) (by decide) rfl (fun i hi => ?_) (by rw [sizeLine_eq]; simp)
    have := ch i
    refine ⟨_, by simp [hide, this]; rfl, fun _ => ⟨.fr, _, by decide, by simp; rfl⟩⟩
  simp only [List.set_cons_zero, List.set_cons_succ]
  refine .set (p := (.list (rws.map .list), .fr)) (g1 := [some (.list (ns.map .int), .fr), z1, z2, z3, z4, some (t.d, .fr), some (u.d, .fr), some (.list ((nums t).map .int), .fr), none, z9, z10]) (by simp [cask]) ?_
  simp only [List.set_cons_zero, List.set_cons_succ]
  refine .ifF (m := .fr) (g1 := [some (.list (ns.map .int), .fr), z1, z2, z3, z4, some (t.d, .fr), some (u.d, .fr), some (.list ((nums t).map .int), .fr), some (.list (rws.map .list), .fr), z9, z10]) (by simp [cask, q1, q2]) (.skip ?_)
  have hrl : (rws.map PyData.list).length = rws.length := by simp
  refine .for_ (ds := rangeD 0 (rws.length : Int)) (m := .fr) (d := .list (rangeD 0 (rws.length : Int))) (g1 := [some (.list (ns.map .int), .fr), z1, z2, z3, z4, some (t.d, .fr), some (u.d, .fr), some (.list ((nums t).map .int), .fr), some (.list (rws.map .list), .fr), z9, z10]) (fun k g => ∃ z9 : Sl, g = [some (.list (ns.map .int), .fr), z1, z2, z3, z4, some (t.d, .fr), some (u.d, .fr), some (.list ((nums t).map .int), .fr), some (.list (rws.map .list), .fr), z9, z10]) (by simp [rngOk_small (i := (rws.length : Int)) (by omega) (by omega)]) (by decide) rfl ⟨z9, rfl⟩ ?_ ?_
  · rintro k d g hk ⟨z9, rfl⟩
    obtain ⟨hlt, rfl⟩ := range_item hk
    obtain ⟨r, hr⟩ : ∃ r, rws[k]? = some r := ⟨_, List.getElem?_eq_getElem hlt⟩
    obtain ⟨r1, r2⟩ := rok r (List.mem_of_getElem? hr)
    have a1 : atI (rws.map PyData.list) (k : Int) = some (.list r) := at_get (by rw [List.getElem?_map, hr]; rfl)
    refine ⟨[some (.list (ns.map .int), .fr), z1, z2, z3, z4, some (t.d, .fr), some (u.d, .fr), some (.list ((nums t).map .int), .fr), some (.list (rws.map .list), .fr), some (.int (k : Int), .fr), z10], Runs.body ?_, _, rfl⟩
    simp only [List.set_cons_zero, List.set_cons_succ]
    refine .ifF (m := .fr) (g1 := [some (.list (ns.map .int), .fr), z1, z2, z3, z4, some (t.d, .fr), some (u.d, .fr), some (.list ((nums t).map .int), .fr), some (.list (rws.map .list), .fr), some (.int (k : Int), .fr), z10]) ?_ (.skip ?_)
    · by_cases hk0 : k = 0
      · subst hk0
        simp
      · obtain ⟨q, rfl⟩ : ∃ q, k = q + 1 := ⟨k - 1, by omega⟩
        obtain ⟨r', hr'⟩ : ∃ r', rws[q]? = some r' := ⟨_, List.getElem?_eq_getElem (by omega)⟩
        obtain ⟨s1, s2⟩ := rok r' (List.mem_of_getElem? hr')
        have b1 : atI (rws.map PyData.list) (q : Int) = some (.list r') := at_get (by rw [List.getElem?_map, hr']; rfl)
        have hup : ltB (.tuple r') (.tuple r) = true := by
          have hu := fok.up
          rw [Upp, List.pairwise_map, List.pairwise_iff_getElem] at hu
          have := hu q (q + 1) (by omega) hlt (by omega)
          rwa [(List.getElem?_eq_some_iff.mp hr').2, (List.getElem?_eq_some_iff.mp hr).2] at this
        have hl := rows_lt (fun x hx => ⟨(s2 x hx).1, (s2 x hx).2.1⟩) (fun x hx => ⟨(r2 x hx).1, (r2 x hx).2.1⟩) hup
        have a1' : atI (rws.map PyData.list) ((q : Int) + 1) = some (.list r) := a1
        have e1 : ((q : Int) + 1) - 1 = (q : Int) := by omega
        have e2 : (0 : Int) < (q : Int) + 1 := by omega
        have hc : cmpD .lt (.list r') (.list r) .fr = some true := by
          show orO (ltS (.list r') (.list r)) (orO (ltT (.list r') (.list r)) (ltL (.list r') (.list r))) = _
          rw [hl]; rfl
        rw [cmpD_def] at hc
        simp at hc
        simp [a1', b1, e1, e2, hc]
    · have hin : ∀ i, (true, i) ∈ t.ls → i ∈ nums t := fun i hi => mem_nums.mpr hi
      obtain ⟨f, ef, h1, h2⟩ := fok.sound r (List.mem_of_getElem? hr)
      have hv : ∀ i, (true, i) ∈ t.ls → valF (flR (nums t) r) i = f i := fun i hi => by
        rw [ef]
        unfold valF
        rw [flR_get (hin i hi)]
        rfl
      have hf6 : ∀ i, (true, i) ∈ t.ls → getKey (flR (nums t) r) (.int i) = some (valF (flR (nums t) r) i) ∧ CF (valF (flR (nums t) r) i) ∧ lvD (valF (flR (nums t) r) i) ≤ 6 ∧ (valF (flR (nums t) r) i).depth ≤ 6 + 1 := fun i hi => by
        have p := part_ok (h1 i (hin i hi)).2 cu
        rw [hv i hi]
        refine ⟨?_, p.cf, by have := p.lv; omega, by have := p.dp; omega⟩
        rw [ef]
        exact flR_get (hin i hi)
      have cl := r_lfilled (GL := GL) (L := L) l.filled (es := flR (nums t) r) (f := valF (flR (nums t) r)) (m := 6) (k := 6) (by omega) t okt (by omega) (by omega) hf6 n (by omega)
      rw [fill_congr t hv, h2] at cl
      have hzip : dictzipD (.list ((nums t).map .int)) (.list r) = some (.dict (flR (nums t) r), .ow) := by
        have h1 : ((nums t).map PyData.int).all isInt = true := by rw [List.all_map, List.all_eq_true]; exact fun _ _ => rfl
        have h2 : zipKV ((nums t).map .int) r [] = flR (nums t) r := by
          rw [zipKV_new _ _ _ hns fun i _ => rfl]; rfl
        show (if _ then some _ else none) = _
        rw [if_pos (by simp [h1, r1]; omega), h2]
      have e1 := eqOk_cf cu cu (by omega)
      have e2 := (eqv_cf cu cu).mpr rfl
      exact .ifF (m := .fr) (g1 := [some (.list (ns.map .int), .fr), z1, z2, z3, z4, some (t.d, .fr), some (u.d, .fr), some (.list ((nums t).map .int), .fr), some (.list (rws.map .list), .fr), some (.int (k : Int), .fr), z10]) (by simp [a1, hzip, cl, cfl, e1, e2]) (.skip (.nil rfl))
  · rintro g ⟨z9, rfl⟩
    exact .ret (d := .bool true) (m := .fr) (by simp; rfl) rfl
theorem law_run (l1 : Lib1 GL T R) (l5 : Lib5 T) (lm : Lib3m T) (l6 : Lib6 T R) (l : Lib10k T) (hL : 200 < L) (n : Nat) (hn : 150 ≤ n) (ns : List Int) : callD GL T L (n + 1) (Str.ofString "law") [.list (ns.map .int)] = .ok (.bool true) .fr := by
  have c0 : callD GL T L n (Str.ofString "_law_cell_at") [.list (ns.map .int), .int 0] = _ := r_cell_at (GL := GL) (L := L) l.cell ns 0 n (by omega)
  have c1 : callD GL T L n (Str.ofString "_law_cell_at") [.list (ns.map .int), .int 1] = _ := r_cell_at (GL := GL) (L := L) l.cell ns 1 n (by omega)
  have c2 : callD GL T L n (Str.ofString "_law_cell_at") [.list (ns.map .int), .int 2] = _ := r_cell_at (GL := GL) (L := L) l.cell ns 2 n (by omega)
  generalize cellAt ns 0 = cell at *
  generalize cellAt ns 1 = nm at *
  generalize cellAt ns 2 = sp at *
  obtain ⟨a, b, c, hN3, cn⟩ := r_names (GL := GL) (T := T) (L := L) l.names nm (n - 1)
  rw [show n - 1 + 1 = n by omega] at cn
  obtain ⟨N, hN0, hNl, hN, eN⟩ : ∃ N : List Int, N ≠ [] ∧ N.length ≤ 10 ∧ (∀ i ∈ N, 0 ≤ i ∧ i ≤ 1000000000) ∧ ev GL (callD GL T L n) (.sl (.call "_law_names" (.cons (.call "_law_cell_at" (.cons (.var 0) (.cons (.int (1)) .nil))) .nil)) .nil (.bin .add (.int (2)) (.bin .mod (.bin .fdiv (.var 1) (.int (4))) (.int (2))))) [some (.list (ns.map .int), .fr), some (.int cell, .fr), none, none, none, none, none, none, none, none, none] = .ok (.list (N.map .int), .ow) [some (.list (ns.map .int), .fr), some (.int cell, .fr), none, none, none, none, none, none, none, none, none] := by
    have h2 : cell / 4 % 2 = 0 ∨ cell / 4 % 2 = 1 := by omega
    have k2 : cutL [PyData.int a, .int b, .int c] none (some 2) = [.int a, .int b] := rfl
    have k3 : cutL [PyData.int a, .int b, .int c] none (some 3) = [.int a, .int b, .int c] := rfl
    rcases h2 with h | h
    · exact ⟨[a, b], by simp, by simp, fun i hi => hN3 i (by simp at hi ⊢; omega), by simp [c1, cn, h, k2]⟩
    · exact ⟨[a, b, c], by simp, by simp, hN3, by simp [c1, cn, h, k3]⟩
  obtain ⟨S, hS3, hSn, hS, esp⟩ : ∃ S : List Int, S.length = 3 ∧ S.Nodup ∧ (∀ i ∈ S, 0 ≤ i ∧ i < 10) ∧ ev GL (callD GL T L n) (.ix (.lst (.cons (.lst (.cons (.int (0)) (.cons (.int (1)) (.cons (.int (2)) .nil)))) (.cons (.lst (.cons (.int (0)) (.cons (.int (3)) (.cons (.int (9)) .nil)))) (.cons (.lst (.cons (.int (2)) (.cons (.int (5)) (.cons (.int (8)) .nil)))) (.cons (.lst (.cons (.int (1)) (.cons (.int (4)) (.cons (.int (7)) .nil)))) .nil))))) (.bin .mod (.call "_law_cell_at" (.cons (.var 0) (.cons (.int (2)) .nil))) (.int (4)))) [some (.list (ns.map .int), .fr), some (.int cell, .fr), some (.list (N.map .int), .ow), none, none, none, none, none, none, none, none] = .ok (.list (S.map .int), .fr) [some (.list (ns.map .int), .fr), some (.int cell, .fr), some (.list (N.map .int), .ow), none, none, none, none, none, none, none, none] := by
    rcases mod4 sp with h | h | h | h
    · exact ⟨[0, 1, 2], rfl, by decide, by decide, by simp [c2, h]⟩
    · exact ⟨[0, 3, 9], rfl, by decide, by decide, by simp [c2, h]⟩
    · exact ⟨[2, 5, 8], rfl, by decide, by decide, by simp [c2, h]⟩
    · exact ⟨[1, 4, 7], rfl, by decide, by decide, by simp [c2, h]⟩
  have lasts : ∀ x : Int, ∃ sg : Sn, atI [PyData.str (Str.ofString "sum"), .str (Str.ofString "mul")] (x % 2) = some (.str sg.s) := fun x => by
    have : x % 2 = 0 ∨ x % 2 = 1 := by omega
    rcases this with h | h
    · exact ⟨.sum, by rw [h]; rfl⟩
    · exact ⟨.mul, by rw [h]; rfl⟩
  obtain ⟨sg, hsg⟩ := lasts cell
  obtain ⟨sg2, hsg2⟩ := lasts (cell / 2)
  have hcut := fun x y => cut_map PyData.int ns (some x) (some y)
  have clen : ∀ x k : Nat, (cutL ns (some (x : Int)) (some ((x + k : Nat) : Int))).length ≤ k := fun x k => by
    unfold cutL
    rw [List.length_take]
    have k1 : ¬ ((x : Int) < 0) := by omega
    have k2 : ¬ (((x + k : Nat) : Int) < 0) := by omega
    simp only [HT.sIx, k1, k2, if_false, Int.toNat_natCast]
    omega
  have mk := fun (x k : Nat) (S' : List Int) (hS' : S' = [] ∨ S'.length = 3) (hk : k ≤ 60) (sg : Sn) => r_made (GL := GL) (T := T) (L := L) l.made (cutL ns (some (x : Int)) (some ((x + k : Nat) : Int))) N S' hN0 hNl hS' (by have := clen x k; omega) sg hL (n - 1)
  rw [show n - 1 + 1 = n by omega] at mk
  obtain ⟨t, ht, htl, cp⟩ := mk 3 4 S (.inr hS3) (by omega) sg
  obtain ⟨u, hu, hul, cu⟩ := mk 7 6 [] (.inl rfl) (by omega) sg2
  have htl : t.ls.length ≤ 4 := by have := clen 3 4; omega
  have hul : u.ls.length ≤ 6 := by have := clen 7 6; omega
  have okS0 : ∀ i ∈ ([] : List Int), 0 ≤ i ∧ i < 10 := by simp
  refine call_runs l.law rfl ?_
  unfold b_law
  simp only [startG_def]
  refine .set (p := (.int cell, .fr)) (g1 := [some (.list (ns.map .int), .fr), none, none, none, none, none, none, none, none, none, none]) (by simp [c0]) ?_
  simp only [List.set_cons_zero, List.set_cons_succ]
  refine .set (p := (.list (N.map .int), .ow)) (g1 := [some (.list (ns.map .int), .fr), some (.int cell, .fr), none, none, none, none, none, none, none, none, none]) eN ?_
  simp only [List.set_cons_zero, List.set_cons_succ]
  refine .set (p := (.list (S.map .int), .fr)) (g1 := [some (.list (ns.map .int), .fr), some (.int cell, .fr), some (.list (N.map .int), .ow), none, none, none, none, none, none, none, none]) esp ?_
  simp only [List.set_cons_zero, List.set_cons_succ]
  refine .set (p := (.list [.str (Str.ofString "sum"), .str (Str.ofString "mul")], .ow)) (g1 := [some (.list (ns.map .int), .fr), some (.int cell, .fr), some (.list (N.map .int), .ow), some (.list (S.map .int), .fr), none, none, none, none, none, none, none]) (by simp) ?_
  simp only [List.set_cons_zero, List.set_cons_succ]
  refine .set (p := (t.d, .fr)) (g1 := [some (.list (ns.map .int), .fr), some (.int cell, .fr), some (.list (N.map .int), .fr), some (.list (S.map .int), .fr), some (.list [.str (Str.ofString "sum"), .str (Str.ofString "mul")], .ow), none, none, none, none, none, none]) (by simp [hcut, hsg] at cp ⊢; simp [cp]) ?_
  simp only [List.set_cons_zero, List.set_cons_succ]
  refine .set (p := (u.d, .fr)) (g1 := [some (.list (ns.map .int), .fr), some (.int cell, .fr), some (.list (N.map .int), .fr), some (.list (S.map .int), .fr), some (.list [.str (Str.ofString "sum"), .str (Str.ofString "mul")], .ow), some (t.d, .fr), none, none, none, none, none]) (by simp [hcut, hsg2] at cu ⊢; simp [cu]) ?_
  simp only [List.set_cons_zero, List.set_cons_succ]
  by_cases hc : cell / 8 % 3 = 1
  · obtain ⟨t2, ht2, htl2, cp2⟩ := mk 3 3 S (.inr hS3) (by omega) sg
    have htl2 : t2.ls.length ≤ 3 := by have := clen 3 3; omega
    refine .ifT (m := .fr) (g1 := [some (.list (ns.map .int), .fr), some (.int cell, .fr), some (.list (N.map .int), .fr), some (.list (S.map .int), .fr), some (.list [.str (Str.ofString "sum"), .str (Str.ofString "mul")], .ow), some (t.d, .fr), some (u.d, .fr), none, none, none, none]) (by simp [hc]) (.as ?_)
    refine .set (p := (t2.d, .fr)) (g1 := [some (.list (ns.map .int), .fr), some (.int cell, .fr), some (.list (N.map .int), .fr), some (.list (S.map .int), .fr), some (.list [.str (Str.ofString "sum"), .str (Str.ofString "mul")], .ow), some (t.d, .fr), some (u.d, .fr), none, none, none, none]) (by simp [hcut, hsg] at cp2 ⊢; simp [cp2]) ?_
    simp only [as_iff, skip_iff, List.set_cons_zero, List.set_cons_succ]
    refine .set (p := (.dict [], .ow)) (g1 := [some (.list (ns.map .int), .fr), some (.int cell, .fr), some (.list (N.map .int), .fr), some (.list (S.map .int), .fr), some (.list [.str (Str.ofString "sum"), .str (Str.ofString "mul")], .ow), some (t2.d, .fr), some (u.d, .fr), none, none, none, none]) (by simp) ?_
    simp only [as_iff, skip_iff, List.set_cons_zero, List.set_cons_succ]
    refine .for_ (ds := rangeD 0 3) (m := .fr) (d := .list (rangeD 0 3)) (g1 := [some (.list (ns.map .int), .fr), some (.int cell, .fr), some (.list (N.map .int), .fr), some (.list (S.map .int), .fr), some (.list [.str (Str.ofString "sum"), .str (Str.ofString "mul")], .ow), some (t2.d, .fr), some (u.d, .fr), none, none, none, some (.dict (fT [] (fun _ => .leaf false 0)), .ow)]) (fun j g' => ∃ (g : Int → Tm) (z9 : Sl), g' = [some (.list (ns.map .int), .fr), some (.int cell, .fr), some (.list (N.map .int), .fr), some (.list (S.map .int), .fr), some (.list [.str (Str.ofString "sum"), .str (Str.ofString "mul")], .ow), some (t2.d, .fr), some (u.d, .fr), none, none, z9, some (.dict (fT (S.take j) g), .ow)] ∧ ∀ i ∈ S.take j, (g i).ok ∧ Clo (g i) ∧ (g i).ls.length ≤ 2) (by simp [rngOk_small (i := 3) (by omega) (by omega), fT]) (by decide) rfl ⟨fun _ => .leaf false 0, none, rfl, fun i hi => by simp at hi⟩ ?_ ?_
    · rintro j x g' hj ⟨g, z9, rfl, hg⟩
      obtain ⟨hlt, rfl⟩ := range_item (n := 3) (i := j) (d := x) hj
      obtain ⟨v, hv, hvl, cv⟩ := mk (7 + j) 2 [] (.inl rfl) (by omega) .mul
      have hvl : v.ls.length ≤ 2 := by have := clen (7 + j) 2; omega
      rw [show ((7 + j + 2 : Nat) : Int) = 9 + (j : Int) by omega, show ((7 + j : Nat) : Int) = 7 + (j : Int) by omega] at cv
      simp [Sn.s] at cv
      have okv := hv.ok hN okS0
      have clv : Clo v := hv.closed
      obtain ⟨fv, lv⟩ := v.form_cf okv
      have hhv := v.ht_ls
      have cfl := r_lfilled (GL := GL) (L := L) l.filled (es := []) (f := fun _ => .none) (m := 1) (k := 0) (by omega) v okv (by omega) (by omega) (fun i hi => absurd hi (clv i)) n (by omega)
      rw [fill_closed _ v clv] at cfl
      obtain ⟨w, ew, okw, clw, wl⟩ := cf_two fv (by omega) fun i hi => clv i ((form_ls v okv).mem_iff.mp hi)
      rw [ew] at cfl
      have hjl : j < S.length := by omega
      obtain ⟨s, hsj⟩ : ∃ s, S[j]? = some s := ⟨_, List.getElem?_eq_getElem hjl⟩
      have hat : atI (S.map PyData.int) (j : Int) = some (PyData.int s) := at_get (by rw [List.getElem?_map, hsj]; rfl)
      have etk : S.take (j + 1) = S.take j ++ [s] := by
        rw [List.take_succ_eq_append_getElem hjl]
        have : S[j] = s := (List.getElem?_eq_some_iff.mp hsj).2
        rw [this]
      have hnew : s ∉ S.take j := fun h => by
        have h1 : (S.take (j + 1)).Nodup := hSn.sublist (List.take_sublist _ _)
        rw [etk] at h1
        exact (List.nodup_append.mp h1).2.2 s h s (by simp) rfl
      have p1 := fT_new (g := g) (v := w) hnew
      have hlen1 : (fT (S.take j) g).length < 16777216 := by rw [fT_lay, List.length_take]; omega
      refine ex_runs ?_
      rw [etk]
      generalize S.take j = Sj at *
      simp only [List.set_cons_zero, List.set_cons_succ]
      refine .sq (g1 := [some (.list (ns.map .int), .fr), some (.int cell, .fr), some (.list (N.map .int), .fr), some (.list (S.map .int), .fr), some (.list [.str (Str.ofString "sum"), .str (Str.ofString "mul")], .ow), some (t2.d, .fr), some (u.d, .fr), none, none, some (.int (j : Int), .fr), some (.dict (fT (Sj ++ [s]) (upd g s w)), .ow)]) (by simp [hcut, cv, cfl, hat, p1, hlen1]) ?_
      refine .nil ⟨_, rfl, _, _, rfl, fun i hi => ?_⟩
      rcases List.mem_append.mp hi with hi | hi
      · have : i ≠ s := fun e => hnew (e ▸ hi)
        simp only [upd, if_neg this]
        exact hg i hi
      · simp at hi; subst hi
        simp only [upd, if_pos]
        exact ⟨okw, clw, wl⟩
    · rintro g' ⟨g, z9, rfl, hg⟩
      have e3 : S.take (rangeD 0 3).length = S := by rw [show (rangeD 0 3).length = 3 from rfl, ← hS3, List.take_length]
      rw [e3] at hg ⊢
      have hin : ∀ i, (true, i) ∈ t2.ls → i ∈ S := fun i hi => by simpa using ht2 _ hi
      have cput := r_lput (GL := GL) (L := L) l.put l.grown (S := S) (g := g) (fun i hi => ⟨(hg i hi).2.1, by have := (g i).ht_ls; have := (hg i hi).2.2; omega⟩) t2 hin n (by have := t2.ht_ls; omega)
      obtain ⟨s0, hs0⟩ : ∃ s0, s0 ∈ S := by
        cases S with
        | nil => simp at hS3
        | cons x y => exact ⟨x, by simp⟩
      have hfl := fillT_len (g := g) (m := 2) (e := 0) (s := s0) (by omega) t2 (fun i hi _ => (hg i (hin i hi)).2.2) (by have := (hg s0 hs0).2.2; omega)
      generalize hF : fT S g = F at *
      simp only [as_iff, skip_iff]
      refine .set (p := ((t2.fillT g).d, .fr)) (g1 := [some (.list (ns.map .int), .fr), some (.int cell, .fr), some (.list (N.map .int), .fr), some (.list (S.map .int), .fr), some (.list [.str (Str.ofString "sum"), .str (Str.ofString "mul")], .ow), some (t2.d, .fr), some (u.d, .fr), none, none, z9, some (.dict F, .fr)]) (by simp [cput]) ?_
      simp only [as_iff, skip_iff, List.set_cons_zero, List.set_cons_succ]
      exact tail_run l1 l5 lm l6 l hL (ht2.ok hN hS) (fillT_ok g t2 (ht2.ok hN hS) fun i hi => (hg i (hin i hi)).1) (by omega) (by omega) (fillT_closed fun i hi => (hg i (hin i hi)).2.1) n hn ns
  · refine .ifF (m := .fr) (g1 := [some (.list (ns.map .int), .fr), some (.int cell, .fr), some (.list (N.map .int), .fr), some (.list (S.map .int), .fr), some (.list [.str (Str.ofString "sum"), .str (Str.ofString "mul")], .ow), some (t.d, .fr), some (u.d, .fr), none, none, none, none]) (by simp [hc]) (.skip ?_)
    exact tail_run l1 l5 lm l6 l hL (ht.ok hN hS) (hu.ok hN okS0) htl hul hu.closed n hn ns
end
theorem law_k10 (ns : List Int) : callD GLs (tabT tab) 3000 200 (Str.ofString "law") [.list (ns.map .int)] = .ok (.bool true) .fr :=
  law_run (R := fun _ => .never) ⟨rfl, rfl, rfl, rfl, (fun _ => rfl), rfl, rfl, rfl⟩ ⟨rfl, rfl, rfl⟩ ⟨rfl, rfl, rfl⟩ ⟨rfl, rfl, rfl, rfl⟩ ⟨rfl, rfl, rfl, rfl, rfl, rfl, rfl, rfl, rfl, rfl, rfl⟩ (by omega) 199 (by omega) ns
end DL

set_option Elab.async false
set_option linter.all false
set_option maxRecDepth 100000
open PySem PySem.W PyProof.Rows
set_option maxHeartbeats 0 in
theorem PySem.Challenge.cw_anyorder_k10_whole_fillings_fit_holds : PySem.Challenge.rw_anyorder_k10_whole_fillings_fit.Holds := by
  w_on; o_law; k_head; (case hw => w_witness2)
  k_fill
  refine DL.walkD (l := PySem.Challenge.rw_anyorder_k10_whole_fillings_fit) (tab := DL.tab) (GL := DL.GLs) (CN := DL.CNS) (e := DL.e_law) (k := 200) (L := 3000) rfl rfl ⟨rfl, by decide, by decide⟩ (fun w h Y => PySem.W.kIn_of Y) rfl DL.tab_ok rfl (fun w => by kernel_rfl) ?F (fun ns h63 hb => DL.law_k10 ns)
  case F =>
    intro w mg fa h KX G hmg
    refine' DL.mods_mk (w := w) KX G hmg ?a0 ?l0 ?c0 ?k0 ?a1 ?l1 ?c1 ?k1 ?a2 ?l2 ?c2 ?k2 ?a3 ?l3 ?c3 ?k3 ?a4 ?l4 ?c4 ?k4 ?a5 ?l5 ?c5 ?k5 ?a6 ?l6 ?c6 ?k6 ?a7 ?l7 ?c7 ?k7 ?a8 ?l8 ?c8 ?k8 ?a9 ?l9 ?c9 ?k9 ?a10 ?l10 ?c10 ?k10 ?a11 ?l11 ?c11 ?k11 ?a12 ?l12 ?c12 ?k12 ?a13 ?l13 ?c13 ?k13 ?a14 ?l14 ?c14 ?k14 ?a15 ?l15 ?c15 ?k15 ?a16 ?l16 ?c16 ?k16 ?a17 ?l17 ?c17 ?k17 ?a18 ?l18 ?c18 ?k18 ?a19 ?l19 ?c19 ?k19 ?a20 ?l20 ?c20 ?k20 ?a21 ?l21 ?c21 ?k21 ?a22 ?l22 ?c22 ?k22 ?a23 ?l23 ?c23 ?k23 ?a24 ?l24 ?c24 ?k24 ?z_ValueError ?z_bool ?z_dict ?z_int ?z_isinstance ?z_len ?z_list ?z_max ?z_min ?z_range ?z_reversed ?z_set ?z_sorted ?z_str ?z_tuple ?z_zip ?g_LEAVES ?g_GREATEST ?g_OPENS
    (case a0 => k_is); (case l0 => k_is); (case c0 => k_is); (case k0 => k_is); (case a1 => k_is); (case l1 => k_is)
    (case c1 => k_is); (case k1 => k_is); (case a2 => k_is); (case l2 => k_is); (case c2 => k_is); (case k2 => k_is)
    (case a3 => k_is); (case l3 => k_is); (case c3 => k_is); (case k3 => k_is); (case a4 => k_is); (case l4 => k_is)
    (case c4 => k_is); (case k4 => k_is); (case a5 => k_is); (case l5 => k_is); (case c5 => k_is); (case k5 => k_is)
    (case a6 => k_is); (case l6 => k_is); (case c6 => k_is); (case k6 => k_is); (case a7 => k_is); (case l7 => k_is)
    (case c7 => k_is); (case k7 => k_is); (case a8 => k_is); (case l8 => k_is); (case c8 => k_is); (case k8 => k_is)
    (case a9 => k_is); (case l9 => k_is); (case c9 => k_is); (case k9 => k_is); (case a10 => k_is); (case l10 => k_is)
    (case c10 => k_is); (case k10 => k_is); (case a11 => k_is); (case l11 => k_is); (case c11 => k_is); (case k11 => k_is)
    (case a12 => k_is); (case l12 => k_is); (case c12 => k_is); (case k12 => k_is); (case a13 => k_is); (case l13 => k_is)
    (case c13 => k_is); (case k13 => k_is); (case a14 => k_is); (case l14 => k_is); (case c14 => k_is); (case k14 => k_is)
    (case a15 => k_is); (case l15 => k_is); (case c15 => k_is); (case k15 => k_is); (case a16 => k_is); (case l16 => k_is)
    (case c16 => k_is); (case k16 => k_is); (case a17 => k_is); (case l17 => k_is); (case c17 => k_is); (case k17 => k_is)
    (case a18 => k_is); (case l18 => k_is); (case c18 => k_is); (case k18 => k_is); (case a19 => k_is); (case l19 => k_is)
    (case c19 => k_is); (case k19 => k_is); (case a20 => k_is); (case l20 => k_is); (case c20 => k_is); (case k20 => k_is)
    (case a21 => k_is); (case l21 => k_is); (case c21 => k_is); (case k21 => k_is); (case a22 => k_is); (case l22 => k_is)
    (case c22 => k_is); (case k22 => k_is); (case a23 => k_is); (case l23 => k_is); (case c23 => k_is); (case k23 => k_is)
    (case a24 => k_is); (case l24 => k_is); (case c24 => k_is); (case k24 => k_is); (case z_ValueError => k_is); (case z_bool => k_is)
    (case z_dict => k_is); (case z_int => k_is); (case z_isinstance => k_is); (case z_len => k_is); (case z_list => k_is); (case z_max => k_is)
    (case z_min => k_is); (case z_range => k_is); (case z_reversed => k_is); (case z_set => k_is); (case z_sorted => k_is); (case z_str => k_is)
    (case z_tuple => k_is); (case z_zip => k_is); (case g_LEAVES => k_is); (case g_GREATEST => k_is); (case g_OPENS => k_is)
#print axioms PySem.Challenge.cw_anyorder_k10_whole_fillings_fit_holds

