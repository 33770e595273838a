import PyProof.Rows.All
import Wide.All
import OpenK.AllK
import Wide.FinOn
import HandS.ForMost
import HandS.ForExc
import HandS.TryMany
import HandS.Wide
import HandS.EndBits
import HandS.IsInst
import HandS.TupAny
import HandS.TupMul
import HandS.Deep
import HandS.Rev
import HandS.SortOrd
import HandS.SortRule
import HandS.Strs
import HandS.SetFor
import HandS.DeepEq
import HandS.Conv
import KE.KDictKeyed
import HandS.HeadWalk
import KE.LtSeq
import KE.DataCmp
import HandS.ExcIs
import HandS.More
import KE.KEqDict
import KE.IntBitsLaws
import PySem.Challenge.RW_anyorder_k08_whole_ways
set_option Elab.async false
set_option linter.all false
set_option maxRecDepth 100000
/-! D1: the data, the small texts E and S, and what they come to (a run by values). -/
namespace DL
open PySem L2

abbrev D := PyData
/-- how a slot holds its data: shared (never changed any more), its own list or dict, its own dict with tuples as keys -/
inductive Md where
  | fr | ow | on
  deriving DecidableEq, Repr
abbrev Sl := Option (D × Md)
abbrev Sg := List Sl
inductive Res (α : Type) where
  | ok (a : α) (g : Sg)
  | exc (c : Nat) (g : Sg)
  | stuck
def Res.bd {α β : Type} (r : Res α) (f : α → Sg → Res β) : Res β := match r with
  | .ok a g => f a g
  | .exc c g => .exc c g
  | .stuck => .stuck
@[simp] theorem bd_ok {α β : Type} (a : α) (g : Sg) (f : α → Sg → Res β) : (Res.ok a g).bd f = f a g := rfl
@[simp] theorem bd_exc {α β : Type} (c : Nat) (g : Sg) (f : α → Sg → Res β) : (Res.exc c g : Res α).bd f = .exc c g := rfl
@[simp] theorem bd_stuck {α β : Type} (f : α → Sg → Res β) : (Res.stuck : Res α).bd f = .stuck := rfl
theorem bd_eq_ok {α β : Type} {r : Res α} {f : α → Sg → Res β} {b : β} {g : Sg} (h : r.bd f = .ok b g) : ∃ a g1, r = .ok a g1 ∧ f a g1 = .ok b g := by
  cases r with
  | ok a g1 => exact ⟨a, g1, rfl, h⟩
  | exc c g1 => cases h
  | stuck => cases h

/-- what a call comes to -/
inductive CR where
  | ok (d : D) (m : Md)
  | exc (c : Nat)
  | stuck
abbrev Orc := Str → List D → CR

inductive B2 where
  | add | sub | mul | fdiv | mod | pow
  deriving DecidableEq, Repr
inductive C2 where
  | eq | ne | lt | le | gt | ge | isn | notn | in_ | nin
  deriving DecidableEq, Repr
inductive Ty where
  | int | bool | str | tuple | list | dict
  deriving DecidableEq, Repr

/-- expressions; nil, cons: lists of expressions, parts of a slice that are left out -/
inductive E where
  | nil
  | cons (a r : E)
  | var (i : Nat)
  | int (i : Int)
  | str (x : Str)
  | bl (b : Bool)
  | non
  | glob (x : Str)
  | tup (es : E)
  | lst (es : E)
  | dnew (nested : Bool)
  | bin (o : B2) (a b : E)
  | cmp (o : C2) (a b : E)
  | and_ (es : E)
  | or_ (es : E)
  | not_ (a : E)
  | ite (t a b : E)
  | ix (a i : E)
  | sl (a lo hi : E)
  | call (f : Str) (es : E)
  | len (a : E)
  | list (a : E)
  | tuple (a : E)
  | sorted (a : E)
  | sortset (a : E)
  | dict (a : E)
  | min (a b : E)
  | max (a b : E)
  | toInt (a : E)
  | isi (a : E) (t : Ty)
  | dictzip (a b : E)
  | pop (i : Nat)
  | append (i : Nat) (a : E)
  | extend (i : Nat) (a : E)
  | clear (i : Nat)
  | dpop (i : Nat) (a : E)
  | lc (elt : E) (i : Nat) (it cond : E) (fz : List Nat)
  | range1 (a : E)
  | range2 (a b : E)
  | rev (a : E)
  | gnin (x : Str) (a : E)
  | gix (x : Str) (a : E)
  | dcmp (ne : Bool) (a b : E)
  | fld (i : Nat)
  | mcall (i : Nat) (m : Str) (es : E)
  | dpick (kvs : List (Str × Str)) (a : E)

/-- statements; skip, seq: a block -/
inductive S where
  | skip
  | seq (a r : S)
  | set (i : Nat) (e : E)
  | put (i : Nat) (k v : E)
  | ite (t : E) (a b : S)
  | whl (t : E) (b : S)
  | for_ (i : Nat) (it : E) (b : S)
  | ret (e : E)
  | expr (e : E)
  | raise (c : Nat)
  | try_ (cn : List Nat) (b : S) (hs : List (Nat × D))
  | never
  | mk (i : Nat) (e : E)
  | setT (i : Nat) (e : E)
  | appT (i : Nat) (e : E)
  | retT (i : Nat)

/-! ### the plain operations on data -/
def ltD : D → D → Option Bool
  | .int i, .int j => some (decide (i < j))
  | .str x, .str y => some (decide (x.cps.toList < y.cps.toList))
  | .tuple xs, .tuple ys => ltAll xs ys
  | .list xs, .list ys => ltAll xs ys
  | _, _ => none
where ltAll : List D → List D → Option Bool
  | [], [] => some false
  | [], _ :: _ => some true
  | _ :: _, [] => some false
  | x :: xs, y :: ys => if PyData.eqv x y then ltAll xs ys else ltD x y

/-- two data that == may compare: no dict within, texts as they are laid, one of them at most 200 deep -/
def eqOk (d e : D) : Bool := d.canLay0 && e.canLay0 && decide (Nat.min d.depth e.depth ≤ 200)

def isInt : D → Bool
  | .int _ => true
  | _ => false
def isTup1 : D → Bool
  | .tuple (_ :: _) => true
  | _ => false

/-- an order on all data: by kind, then as Python's -/
def rank : D → Nat
  | .none => 0 | .bool _ => 1 | .int _ => 2 | .str _ => 3 | .tuple _ => 4 | .list _ => 5 | .dict _ => 6

/-- the size of an int, told so that no check counts to it -/
def lowI (k : Nat) (i : Int) : Bool := decide (i.natAbs.log2 < k)
theorem lowI_iff {k : Nat} {i : Int} (hk : 0 < k) : lowI k i = true ↔ i.natAbs < 2 ^ k := by
  unfold lowI
  by_cases h : i.natAbs = 0
  · rw [h]; simp; exact ⟨fun _ => Nat.two_pow_pos k, fun _ => by show Nat.log2 0 < k; simpa using hk⟩
  · rw [decide_eq_true_iff, Nat.log2_lt h]
def mulOk (i j : Int) : Bool := lowI 64 i || lowI 64 j
theorem mulOk_of {i j : Int} (h : mulOk i j = true) : (-(2 ^ 64) < i ∧ i < 2 ^ 64) ∨ (-(2 ^ 64) < j ∧ j < 2 ^ 64) := by
  unfold mulOk at h
  rw [Bool.or_eq_true, lowI_iff (by decide), lowI_iff (by decide)] at h
  have e : (2 : Nat) ^ 64 = 18446744073709551616 := by decide
  rw [e] at h
  rcases h with h | h
  · left; omega
  · right; omega
def binD (o : B2) (d e : D) : Option (D × Md) := match o, d, e with
  | .add, .int i, .int j => some (.int (i + j), .fr)
  | .add, .list xs, .list ys => if xs.length + ys.length ≤ sizeLine then some (.list (xs ++ ys), .ow) else none
  | .add, .tuple xs, .tuple ys => if xs.length + ys.length ≤ sizeLine then some (.tuple (xs ++ ys), .fr) else none
  | .sub, .int i, .int j => some (.int (i - j), .fr)
  | .mul, .int i, .int j => if mulOk i j then some (.int (i * j), .fr) else none
  | .mul, .list xs, .int k => if 0 ≤ k ∧ k ≤ 1000 ∧ xs.length ≤ 1000 then some (.list (List.replicate k.toNat xs).flatten, .ow) else none
  | .mul, .tuple xs, .int k => if 0 ≤ k ∧ k ≤ 1000 ∧ 0 < xs.length ∧ xs.length ≤ 1000 then some (.tuple (List.replicate k.toNat xs).flatten, .fr) else none
  | .fdiv, .int i, .int j => if 0 < j ∧ j.natAbs.log2 < 9000 then some (.int (i / j), .fr) else none
  | .mod, .int i, .int j => if 0 < j then some (.int (i % j), .fr) else none
  | .pow, .int i, .int j => if 0 ≤ j ∧ (Builtin.Int.intBits i : Int) * j ≤ 2 ^ 27 then some (.int (i ^ j.toNat), .fr) else none
  | _, _, _ => none

/-- a key among a dict's keys -/
def hasKey (kvs : List (D × D)) (k : D) : Bool := kvs.any fun p => PyData.eqv p.1 k
def getKey (kvs : List (D × D)) (k : D) : Option D := (kvs.find? fun p => PyData.eqv p.1 k).map (·.2)
def putKey (kvs : List (D × D)) (k v : D) : List (D × D) := if hasKey kvs k then kvs.map fun p => if PyData.eqv p.1 k then (p.1, v) else p else kvs ++ [(k, v)]
def dropKey (kvs : List (D × D)) (k : D) : List (D × D) := kvs.filter fun p => !PyData.eqv p.1 k
/-- a key of a dict with tuples as keys: a tuple, at most 8 deep, of ints, texts, tuples -/
def keyOk : D → Bool
  | .int _ => true
  | .str _ => true
  | .tuple xs => keyOkAll xs
  | _ => false
where keyOkAll : List D → Bool
  | [] => true
  | x :: xs => keyOk x && keyOkAll xs
def tupKey (d : D) : Bool := (match d with | .tuple _ => true | _ => false) && keyOk d && decide (d.depth ≤ 8)

def isNoneD : D → Bool
  | .none => true
  | _ => false
def plainD (d : D) : Bool := keyOk d && d.canLay0 && decide (d.depth ≤ 90)
/-- < of two ints, of two texts -/
def ltS : D → D → Option Bool
  | .int i, .int j => some (decide (i < j))
  | .str x, .str y => some (decide (x.cps.toList < y.cps.toList))
  | _, _ => none
/-- < of two tuples, of two lists -/
def ltT : D → D → Option Bool
  | .tuple xs, .tuple ys => if plainD (.tuple xs) && plainD (.tuple ys) then ltD.ltAll xs ys else none
  | _, _ => none
def ltL : D → D → Option Bool
  | .list xs, .list ys => if xs.all plainD && ys.all plainD && ((xs.zip ys).all fun p => (ltD p.1 p.2).isSome) then ltD.ltAll xs ys else none
  | _, _ => none
def orO (a b : Option Bool) : Option Bool := match a with
  | some c => some c
  | none => b
/-- a comparison; m: how the right one is held -/
def cmpD (o : C2) (d e : D) (m : Md) : Option Bool := match o with
  | .eq => if eqOk d e then some (PyData.eqv d e) else none
  | .ne => if eqOk d e then some (!PyData.eqv d e) else none
  | .lt => orO (ltS d e) (orO (ltT d e) (ltL d e))
  | .gt => orO (ltS e d) (ltT e d)
  | .le => (orO (ltS e d) (ltT e d)).map (!·)
  | .ge => (ltS d e).map (!·)
  | .isn => match e with | .none => some (isNoneD d) | _ => none
  | .notn => match e with | .none => some (!isNoneD d) | _ => none
  | .in_ => inD d e m
  | .nin => (inD d e m).map (!·)
where inD (d e : D) (m : Md) : Option Bool := match e with
  | .list xs => if SeqAt.shaped d && SeqAt.shaped (.list xs) then some (xs.any fun z => PyData.eqv z d) else none
  | .dict kvs => match m with
    | .on => none
    | _ => if isInt d then some (hasKey kvs d) else none
  | _ => none

def ixD (d i : D) : Option D := match d, i with
  | .list xs, .int k => atI xs k
  | .tuple xs, .int k => atI xs k
  | .dict kvs, .int k => getKey kvs (.int k)
  | _, _ => none
def cutL {α : Type} (xs : List α) (lo hi : Option Int) : List α := (xs.drop (HT.sIx xs.length 0 lo)).take (HT.sIx xs.length xs.length hi - HT.sIx xs.length 0 lo)
def slD (d : D) (lo hi : Option Int) : Option (D × Md) := match d with
  | .list xs => some (.list (cutL xs lo hi), .ow)
  | .tuple xs => some (.tuple (cutL xs lo hi), .fr)
  | _ => none
def lenD : D → Option Nat
  | .list xs => some xs.length
  | .tuple xs => some xs.length
  | .dict kvs => some kvs.length
  | _ => none
def isiD : D → Ty → Bool
  | .int _, .int => true
  | .bool _, .int => true
  | .bool _, .bool => true
  | .str _, .str => true
  | .tuple _, .tuple => true
  | .list _, .list => true
  | .dict _, .dict => true
  | _, _ => false
/-- the first item of a tuple is a text (a tuple) -/
def fstStr : D → Bool
  | .tuple (.str _ :: _) => true
  | _ => false
def fstTup : D → Bool
  | .tuple (.tuple _ :: _) => true
  | _ => false
/-- what sorted(..) takes: ints, texts, tuples of such, each two of them comparable; more than one: tuples that are not empty, with first items of one kind -/
def sortable (ds : List D) : Bool :=
  (ds.all fun d => keyOk d && d.canLay0 && decide (d.depth ≤ 100)) && (ds.all fun x => ds.all fun y => (ltD x y).isSome) && decide (ds.length ≤ sizeLine) &&
    (decide (ds.length < 2) || (ds.all fstStr) || (ds.all fstTup))
def insD (x : D) : List D → List D
  | [] => [x]
  | y :: ys => if ltD y x = some true then y :: insD x ys else x :: y :: ys
def sortD : List D → List D
  | [] => []
  | x :: xs => insD x (sortD xs)
def zipKV : List D → List D → List (D × D) → List (D × D)
  | k :: ks, v :: vs, acc => zipKV ks vs (putKey acc k v)
  | _, _, acc => acc
def optI : D → Option (Option Int)
  | .int i => some (some i)
  | _ => none

/-! ### the slots -/
/-- slot i is read and from then on shared -/
def use (i : Nat) (g : Sg) : Res (D × Md) := match g[i]? with
  | some (some (d, .fr)) => .ok (d, .fr) g
  | some (some (d, .ow)) => .ok (d, .fr) (g.set i (some (d, .fr)))
  | _ => .stuck
/-- an operand: a value, or the slot that is looked at when the operation is done -/
inductive Opn where
  | v (d : D)
  | s (i : Nat)
/-- an object of the program's own is held as a tuple -/
def isObj (p : D × Md) : Bool := match p.2 with
  | .on => (match p.1 with | .tuple _ => true | _ => false)
  | _ => false
def Opn.get (o : Opn) (g : Sg) : Option (D × Md) := match o with
  | .v d => some (d, .fr)
  | .s i => match g[i]? with
    | some (some p) => if isObj p then none else some p
    | _ => none
def opn (a : E) (r : Res (D × Md)) (g : Sg) : Res Opn := match a with
  | .var i => match g[i]? with
    | some (some _) => .ok (.s i) g
    | _ => .stuck
  | _ => r.bd fun p g => if p.2 = Md.on then .stuck else .ok (.v p.1) g
/-- slot i has a list, a dict of its own -/
def ownL (i : Nat) (g : Sg) : Bool := match g[i]? with
  | some (some (.list _, .ow)) => true
  | _ => false
def ownD (i : Nat) (g : Sg) : Bool := match g[i]? with
  | some (some (.dict _, .ow)) => true
  | _ => false
def ownDD (i : Nat) (g : Sg) : Bool := match g[i]? with
  | some (some (.dict _, .ow)) => true
  | _ => false
def frz1 (g : Sg) (i : Nat) : Sg := match g[i]? with
  | some (some (d, .ow)) => g.set i (some (d, .fr))
  | _ => g
def freeze (fz : List Nat) (g : Sg) : Sg := fz.foldl frz1 g
def hide1 (s : Sl) : Sl := match s with
  | some (d, .fr) => some (d, .fr)
  | _ => none
def hide (g : Sg) : Sg := g.map hide1
def ofO {α : Type} (o : Option α) (g : Sg) : Res α := match o with
  | some a => .ok a g
  | none => .stuck
/-- the parts of a comprehension; f: test and element of one item -/
def lcGo (f : D → Res (Option D)) : List D → Option (List D)
  | [] => some []
  | d :: ds => match f d with
    | .ok none _ => lcGo f ds
    | .ok (some e) _ => (lcGo f ds).map (e :: ·)
    | _ => none
def itemsD : D → Option (List D)
  | .list xs => some xs
  | .tuple xs => some xs
  | _ => none
def rangeD (lo hi : Int) : List D := (List.range (hi - lo).toNat).map fun k => .int (lo + (k : Nat))
def rngOk (i : Int) : Bool := lowI 60 i
theorem rngOk_of {i : Int} (h : rngOk i = true) : -(2 ^ 62) ≤ i ∧ i < 2 ^ 62 := by
  unfold rngOk at h
  rw [lowI_iff (by decide)] at h
  have e : (2 : Nat) ^ 60 = 1152921504606846976 := by decide
  rw [e] at h
  omega
theorem rngOk_small {i : Int} (h : -1000000 ≤ i) (h2 : i ≤ 1000000) : rngOk i = true := by
  unfold rngOk
  rw [lowI_iff (by decide)]
  have e : (2 : Nat) ^ 60 = 1152921504606846976 := by decide
  rw [e]
  omega
theorem lowI_small {i : Int} (h : -1000000 ≤ i) (h2 : i ≤ 1000000) : lowI 64 i = true := by
  rw [lowI_iff (by decide)]
  have e : (2 : Nat) ^ 64 = 18446744073709551616 := by decide
  rw [e]
  omega

/-- a part of a slice -/
def part (a : E) (r : Res (D × Md)) (g : Sg) : Res (Option Int) := match a with
  | .nil => .ok none g
  | _ => r.bd fun p g => match p.1 with | .int i => .ok (some i) g | _ => .stuck
/-- the test of a comprehension -/
def iff_ (a : E) (r : Res (D × Md)) (g : Sg) : Res Bool := match a with
  | .nil => .ok true g
  | _ => r.bd fun p g => match p.1 with | .bool c => .ok c g | _ => .stuck
def listD : D × Md → Option (D × Md)
  | (.list xs, _) => some (.list xs, .ow)
  | (.tuple xs, _) => some (.list xs, .ow)
  | (.dict kvs, .fr) => some (.list (kvs.map (·.1)), .ow)
  | (.dict kvs, .ow) => some (.list (kvs.map (·.1)), .ow)
  | _ => none
def tupleD : D × Md → Option (D × Md)
  | (.list xs, _) => some (.tuple xs, .fr)
  | (.tuple xs, _) => some (.tuple xs, .fr)
  | _ => none
def sortedD : D × Md → Option (D × Md)
  | (.list xs, _) => if sortable xs then some (.list (sortD xs), .ow) else none
  | _ => none
/-- ints put in order, each once -/
def insI (x : Int) : List Int → List Int
  | [] => [x]
  | y :: ys => if x < y then x :: y :: ys else if x = y then y :: ys else y :: insI x ys
def sortI : List Int → List Int
  | [] => []
  | x :: xs => insI x (sortI xs)
def intsD : List D → Option (List Int)
  | [] => some []
  | .int i :: xs => (intsD xs).map (i :: ·)
  | _ => none
def sortsetD : D → Option (D × Md)
  | .list xs => (intsD xs).bind fun ns => if ns.length < 64 then some (.list ((sortI ns).map .int), .ow) else none
  | _ => none
def dictD : D × Md → Option (D × Md)
  | (.dict kvs, .fr) => some (.dict kvs, .ow)
  | (.dict kvs, .ow) => some (.dict kvs, .ow)
  | _ => none
def dictzipD : D → D → Option (D × Md)
  | .list ks, .list vs => if ks.all isInt && ks.length == vs.length && decide (ks.length ≤ 1000) then some (.dict (zipKV ks vs []), .ow) else none
  | .list ks, .tuple vs => if ks.all isInt && ks.length == vs.length && decide (ks.length ≤ 1000) then some (.dict (zipKV ks vs []), .ow) else none
  | _, _ => none
/-- a module's name that stands for a number -/
def globD : D → Option (D × Md)
  | .int i => some (.int i, .fr)
  | _ => none
/-- a module's dict of texts by texts: an entry None says that the text is no key -/
def isDictO : Option D → Bool
  | some (.dict _) => true
  | _ => false
def gninD (o : Option D) (d : D) : Option (D × Md) := match o, d with
  | some (.dict es), .str k => match getKey es (.str k) with
    | some .none => some (.bool true, .fr)
    | some (.str _) => some (.bool false, .fr)
    | _ => none
  | _, _ => none
def gixD (o : Option D) (d : D) : Option (D × Md) := match o, d with
  | some (.dict es), .str k => match getKey es (.str k) with
    | some (.str y) => some (.str y, .fr)
    | _ => none
  | _, _ => none
/-- two dicts of plain data by ints that are alike -/
def alikeD (d e : D × Md) : Bool := match d, e with
  | (.dict es, m), (.dict fs, m') => decide (m ≠ .on) && decide (m' ≠ .on) && decide (es.length = fs.length) && (es.all fun p => plainD p.2 && match getKey fs p.1 with | some v => plainD v && PyData.eqv p.2 v | none => false)
  | _, _ => false
/-- a displayed dict of texts by texts, read at once -/
def pickS (kvs : List (Str × Str)) (k : Str) (o : Option Str) : Option Str := match kvs with
  | [] => o
  | p :: r => pickS r k (if k = p.1 then some p.2 else o)
def dpickD (kvs : List (Str × Str)) : D → Option (D × Md)
  | .str k => (pickS kvs k none).map fun y => (.str y, .fr)
  | _ => none
/-- slot i holds an object of the class Walker: its term and the list of its moves -/
def objAt (i : Nat) (g : Sg) : Option (List D) := match g[i]? with
  | some (some (.tuple st, .on)) => some st
  | _ => none
def fldD : List D → Option D
  | [t, .list _] => some t
  | _ => none
def takD : List D → Option (List D)
  | [_, .list ds] => some ds
  | _ => none
def setTD (t : D) : List D → Option (List D)
  | [_, .list ds] => some [t, .list ds]
  | _ => none
def appTD (x : D) : List D → Option (List D)
  | [t, .list ds] => if ds.length < sizeLine then some [t, .list (ds ++ [x])] else none
  | _ => none
/-- what a method's call comes to: its value, the object behind it -/
def metD : CR → Option (D × List D)
  | .ok (.tuple [r, .tuple st]) .on => some (r, st)
  | _ => none
section
variable (GL : Str → Option D) (C : Orc)
mutual
/-- the value of an expression -/
def ev : E → Sg → Res (D × Md)
  | .var i, g => use i g
  | .int i, g => .ok (.int i, .fr) g
  | .str x, g => .ok (.str x, .fr) g
  | .bl b, g => .ok (.bool b, .fr) g
  | .non, g => .ok (.none, .fr) g
  | .glob x, g => ofO ((GL x).bind globD) g
  | .tup es, g => (evs es g).bd fun ds g => if ds.length ≤ sizeLine then .ok (.tuple ds, .fr) g else .stuck
  | .lst es, g => (evs es g).bd fun ds g => if ds.length ≤ sizeLine then .ok (.list ds, .ow) g else .stuck
  | .dnew n, g => .ok (.dict [], (match n with | true => Md.on | false => Md.ow)) g
  | .bin o a b, g => (opn a (ev a g) g).bd fun x g => (opn b (ev b g) g).bd fun y g => ofO ((x.get g).bind fun d => (y.get g).bind fun e => binD o d.1 e.1) g
  | .cmp o a b, g => (opn a (ev a g) g).bd fun x g => (opn b (ev b g) g).bd fun y g => ofO ((x.get g).bind fun d => (y.get g).bind fun e => (cmpD o d.1 e.1 e.2).map fun c => (.bool c, .fr)) g
  | .and_ es, g => evAnd es g
  | .or_ es, g => evOr es g
  | .not_ a, g => (ev a g).bd fun p g => match p.1 with | .bool c => .ok (.bool (!c), .fr) g | _ => .stuck
  | .ite t a b, g => (ev t g).bd fun p g => match p.1 with | .bool true => ev a g | .bool false => ev b g | _ => .stuck
  | .ix a i, g => (opn a (ev a g) g).bd fun x g => (ev i g).bd fun k g => ofO ((x.get g).bind fun d => if d.2 = .on then none else (ixD d.1 k.1).map fun r => (r, .fr)) g
  | .sl a lo hi, g => (opn a (ev a g) g).bd fun x g => (part lo (ev lo g) g).bd fun l g => (part hi (ev hi g) g).bd fun h g => ofO ((x.get g).bind fun d => slD d.1 l h) g
  | .call f es, g => (evs es g).bd fun ds g => match C f ds with
    | .ok d m => if m = .on then .stuck else .ok (d, m) g
    | .exc c => .exc c g
    | .stuck => .stuck
  | .len a, g => (opn a (ev a g) g).bd fun x g => ofO ((x.get g).bind fun d => if d.2 = .on then none else (lenD d.1).map fun (n : Nat) => (((.int (n : Int)), .fr) : D × Md)) g
  | .list a, g => (opn a (ev a g) g).bd fun x g => ofO ((x.get g).bind listD) g
  | .tuple a, g => (opn a (ev a g) g).bd fun x g => ofO ((x.get g).bind tupleD) g
  | .sorted a, g => (opn a (ev a g) g).bd fun x g => ofO ((x.get g).bind sortedD) g
  | .sortset a, g => (opn a (ev a g) g).bd fun x g => ofO ((x.get g).bind fun d => sortsetD d.1) g
  | .dict a, g => (opn a (ev a g) g).bd fun x g => ofO ((x.get g).bind dictD) g
  | .min a b, g => (ev a g).bd fun x g => (ev b g).bd fun y g => match x.1, y.1 with | .int i, .int j => .ok (.int (if j < i then j else i), .fr) g | _, _ => .stuck
  | .max a b, g => (ev a g).bd fun x g => (ev b g).bd fun y g => match x.1, y.1 with | .int i, .int j => .ok (.int (if j > i then j else i), .fr) g | _, _ => .stuck
  | .toInt a, g => (ev a g).bd fun x g => match x.1 with | .bool c => .ok (.int (if c then 1 else 0), .fr) g | .int i => .ok (.int i, .fr) g | _ => .stuck
  | .isi a t, g => (opn a (ev a g) g).bd fun x g => ofO ((x.get g).bind fun d => if d.2 = .on then none else some (.bool (isiD d.1 t), .fr)) g
  | .dictzip a b, g => (ev a g).bd fun x g => (ev b g).bd fun y g => ofO (dictzipD x.1 y.1) g
  | .pop i, g => match g[i]? with
    | some (some (.list ds, .ow)) => match ds[ds.length - 1]? with
      | some d => .ok (d, .fr) (g.set i (some (.list ds.dropLast, .ow)))
      | none => .stuck
    | _ => .stuck
  | .append i a, g => if ownL i g then (ev a g).bd fun p g => if p.2 = .on then .stuck else match g[i]? with
    | some (some (.list ds, .ow)) => if ds.length < sizeLine then .ok (.none, .fr) (g.set i (some (.list (ds ++ [p.1]), .ow))) else .stuck
    | _ => .stuck
    else .stuck
  | .extend i a, g => if ownL i g then (ev a g).bd fun p g => match p.1, g[i]? with
    | .list es, some (some (.list ds, .ow)) => if ds.length + es.length ≤ sizeLine then .ok (.none, .fr) (g.set i (some (.list (ds ++ es), .ow))) else .stuck
    | _, _ => .stuck
    else .stuck
  | .clear i, g => match g[i]? with
    | some (some (.list _, .ow)) => .ok (.none, .fr) (g.set i (some (.list [], .ow)))
    | _ => .stuck
  | .dpop i a, g => if ownD i g then (ev a g).bd fun p g => match g[i]? with
    | some (some (.dict kvs, .ow)) => if isInt p.1 then match getKey kvs p.1 with
      | some d => .ok (d, .fr) (g.set i (some (.dict (dropKey kvs p.1), .ow)))
      | none => .stuck
      else .stuck
    | _ => .stuck
    else .stuck
  | .lc elt i it cond fz, g => (ev it (freeze fz g)).bd fun p g => if p.2 = .on then .stuck else match itemsD p.1 with
    | some ds => match lcGo (fun d => (iff_ cond (ev cond ((hide g).set i (some (d, .fr)))) ((hide g).set i (some (d, .fr)))).bd fun c g => if c then (ev elt g).bd fun p g => if p.2 = .on then .stuck else .ok (some p.1) g else .ok none g) ds with
      | some out => if out.length ≤ sizeLine then .ok (.list out, .ow) g else .stuck
      | none => .stuck
    | none => .stuck
  | .range1 a, g => (ev a g).bd fun p g => match p.1 with | .int n => if rngOk n then .ok (.list (rangeD 0 n), .fr) g else .stuck | _ => .stuck
  | .range2 a b, g => (ev a g).bd fun x g => (ev b g).bd fun y g => match x.1, y.1 with | .int lo, .int hi => if rngOk lo && rngOk hi then .ok (.list (rangeD lo hi), .fr) g else .stuck | _, _ => .stuck
  | .rev a, g => (ev a g).bd fun p g => if p.2 = .on then .stuck else match itemsD p.1 with | some ds => .ok (.list ds.reverse, .fr) g | none => .stuck
  | .gnin x a, g => if isDictO (GL x) then (ev a g).bd fun p g => ofO (gninD (GL x) p.1) g else .stuck
  | .gix x a, g => if isDictO (GL x) then (ev a g).bd fun p g => ofO (gixD (GL x) p.1) g else .stuck
  | .dcmp n a b, g => (opn a (ev a g) g).bd fun x g => (opn b (ev b g) g).bd fun y g => ofO ((x.get g).bind fun d => (y.get g).bind fun e => if alikeD d e then some (.bool (!n), .fr) else none) g
  | .dpick kvs a, g => match ev a (hide g) with
    | .ok p _ => ofO (dpickD kvs p.1) g
    | _ => .stuck
  | .fld i, g => ofO (((objAt i g).bind fldD).map fun t => (t, .fr)) g
  | .mcall i m es, g => if (objAt i g).isSome then (evs es g).bd fun ds g => match (objAt i g).bind fun st => metD (C m (.tuple st :: ds)) with
    | some (r, st) => .ok (r, .fr) (g.set i (some (.tuple st, .on)))
    | none => .stuck
    else .stuck
  | .nil, _ => .stuck
  | .cons _ _, _ => .stuck
/-- the values of a list of expressions, all of them shared from then on -/
def evs : E → Sg → Res (List D)
  | .nil, g => .ok [] g
  | .cons a r, g => (ev a g).bd fun p g => if p.2 = .on then .stuck else (evs r g).bd fun ds g => .ok (p.1 :: ds) g
  | _, _ => .stuck
def evAnd : E → Sg → Res (D × Md)
  | .cons a .nil, g => (ev a g).bd fun p g => match p.1 with | .bool c => .ok (.bool c, .fr) g | _ => .stuck
  | .cons a r, g => (ev a g).bd fun p g => match p.1 with | .bool true => evAnd r g | .bool false => .ok (.bool false, .fr) g | _ => .stuck
  | _, _ => .stuck
def evOr : E → Sg → Res (D × Md)
  | .cons a .nil, g => (ev a g).bd fun p g => match p.1 with | .bool c => .ok (.bool c, .fr) g | _ => .stuck
  | .cons a r, g => (ev a g).bd fun p g => match p.1 with | .bool false => evOr r g | .bool true => .ok (.bool true, .fr) g | _ => .stuck
  | _, _ => .stuck
end
end
/-- how a statement ends -/
inductive Ctl where
  | next | brk | cont
  | ret (d : D) (m : Md)
/-- class c stands under class d (0: the one above all others) -/
def subC (c d : Nat) : Bool := c == d || d == 0
def catchD (hs : List (Nat × D)) (c : Nat) : Option D := (hs.find? fun h => subC c h.1).map (·.2)
def forGo (f : D → Sg → Res Ctl) : List D → Sg → Res Ctl
  | [], g => .ok .next g
  | d :: ds, g => (f d g).bd fun c g => match c with
    | .next => forGo f ds g
    | .cont => forGo f ds g
    | .brk => .ok .next g
    | .ret d m => .ok (.ret d m) g
def whlGo (t : Sg → Res (D × Md)) (f : Sg → Res Ctl) : Nat → Sg → Res Ctl
  | 0, _ => .stuck
  | n + 1, g => (t g).bd fun p g => match p.1 with
    | .bool true => (f g).bd fun c g => match c with
      | .next => whlGo t f n g
      | .cont => whlGo t f n g
      | .brk => .ok .next g
      | .ret d m => .ok (.ret d m) g
    | .bool false => .ok .next g
    | _ => .stuck
section
variable (GL : Str → Option D) (C : Orc) (L : Nat)
/-- what a return hands back: a slot's own list stays its own -/
def retv (e : E) (g : Sg) : Res (D × Md) := match e with
  | .var i => match g[i]? with
    | some (some (d, .ow)) => .ok (d, .ow) g
    | some (some (d, .fr)) => .ok (d, .fr) g
    | _ => .stuck
  | _ => ev GL C e g
def ex : S → Sg → Res Ctl
  | .skip, g => .ok .next g
  | .seq a r, g => (ex a g).bd fun c g => match c with
    | .next => ex r g
    | .brk => .ok .brk g
    | .cont => .ok .cont g
    | .ret d m => .ok (.ret d m) g
  | .set i e, g => (ev GL C e g).bd fun p g => .ok .next (g.set i (some p))
  | .put i k v, g => (ev GL C v g).bd fun p g => if p.2 = .on then .stuck else if ownDD i g then (ev GL C k g).bd fun q g => match g[i]? with
    | some (some (.dict kvs, .ow)) => if isInt q.1 ∧ kvs.length < sizeLine then .ok .next (g.set i (some (.dict (putKey kvs q.1 p.1), .ow))) else .stuck
    | _ => .stuck
    else .stuck
  | .ite t a b, g => (ev GL C t g).bd fun p g => match p.1 with
    | .bool true => ex a g
    | .bool false => ex b g
    | _ => .stuck
  | .whl t b, g => whlGo (ev GL C t) (ex b) L g
  | .for_ i it b, g => (ev GL C it g).bd fun p g => if p.2 = .on then .stuck else match itemsD p.1 with
    | some ds => forGo (fun d g => ex b (g.set i (some (d, .fr)))) ds g
    | none => .stuck
  | .ret e, g => (retv GL C e g).bd fun p g => .ok (.ret p.1 p.2) g
  | .expr e, g => (ev GL C e g).bd fun _ g => .ok .next g
  | .raise c, g => .exc c g
  | .try_ cn b hs, g => match ex b g with
    | .exc c g => if cn.contains c then match catchD hs c with
        | some d => .ok (.ret d .fr) g
        | none => .exc c g
      else .stuck
    | r => r
  | .never, _ => .stuck
  | .mk i e, g => if i = 0 then .stuck else match C "Walker.__init__" [.none, .none] with
    | .ok _ _ => (ev GL C e g).bd fun p g => if p.2 = .on then .stuck else .ok .next (g.set i (some (.tuple [p.1, .list []], .on)))
    | _ => .stuck
  | .setT i e, g => (ev GL C e g).bd fun p g => if p.2 = .on then .stuck else match (objAt i g).bind (setTD p.1) with
    | some st => .ok .next (g.set i (some (.tuple st, .on)))
    | none => .stuck
  | .appT i e, g => match ev GL C e (hide g) with
    | .ok p _ => if p.2 = .on then .stuck else match (objAt i g).bind (appTD p.1) with
      | some st => .ok .next (g.set i (some (.tuple st, .on)))
      | none => .stuck
    | _ => .stuck
  | .retT i, g => match (objAt i g).bind takD with
    | some ds => .ok (.ret (.list ds) .ow) (g.set i none)
    | none => .stuck
/-- a method's end: its value, the object in slot 0 -/
def toCM (r : Res Ctl) : CR := match r with
  | .ok .next g => match objAt 0 g with
    | some st => .ok (.tuple [.none, .tuple st]) .on
    | none => .stuck
  | .ok (.ret d m) g => match objAt 0 g with
    | some st => if m = .fr then .ok (.tuple [d, .tuple st]) .on else .stuck
    | none => .stuck
  | _ => .stuck
def toCR (r : Res Ctl) : CR := match r with
  | .ok .next _ => .ok .none .fr
  | .ok (.ret d m) _ => if m = .on then .stuck else .ok d m
  | .exc c _ => .exc c
  | _ => .stuck
end
/-- a def: how many parameters, how many slots, its body; kd 1: a method, its object in slot 0; kd 2: the class's own __init__ -/
structure Fd where
  np : Nat
  ns : Nat
  body : S
  kd : Nat := 0
def startG (ns : Nat) (ds : List D) : Sg := ds.map (fun d => some (d, .fr)) ++ List.replicate (ns - ds.length) none
/-- a method's slots -/
def startM (ns : Nat) (ds : List D) : Sg := match ds with
  | .tuple st :: as => some (.tuple st, .on) :: startG (ns - 1) as
  | _ => []
/-- a call, n calls deep -/
def callD (GL : Str → Option D) (T : Str → Option Fd) (L : Nat) : Nat → Orc
  | 0 => fun _ _ => .stuck
  | n + 1 => fun f ds => match T f with
    | some fd => if ds.length = fd.np then match fd.kd with
        | 0 => toCR (ex GL (callD GL T L n) L fd.body (startG fd.ns ds))
        | 1 => toCM (ex GL (callD GL T L n) L fd.body (startM fd.ns ds))
        | _ => if n = 0 then .stuck else .ok .none .fr
      else .stuck
    | none => .stuck
end DL

set_option Elab.async false
set_option linter.all false
set_option maxRecDepth 100000
/-! D11: an order on plain data (ints, texts, tuples of such). -/
namespace DL
open PySem L2

def cI (i j : Int) : Ordering := if i < j then .lt else if j < i then .gt else .eq
def cS (x y : Str) : Ordering := if x.cps.toList < y.cps.toList then .lt else if y.cps.toList < x.cps.toList then .gt else .eq
def cN (i j : Nat) : Ordering := if i < j then .lt else if j < i then .gt else .eq
mutual
def cmpT : D → D → Ordering
  | .int i, .int j => cI i j
  | .str x, .str y => cS x y
  | .tuple xs, .tuple ys => cmpTs xs ys
  | a, b => cN (rank a) (rank b)
def cmpTs : List D → List D → Ordering
  | [], [] => .eq
  | [], _ :: _ => .lt
  | _ :: _, [] => .gt
  | x :: xs, y :: ys => match cmpT x y with
    | .eq => cmpTs xs ys
    | o => o
end
/-- x stands ahead of y -/
def ltB (x y : D) : Bool := match cmpT x y with
  | .lt => true
  | _ => false
abbrev plainAll (xs : List D) : Bool := keyOk.keyOkAll xs

theorem cI_swap (i j : Int) : cI j i = (cI i j).swap := by
  unfold cI
  by_cases h1 : i < j
  · have h2 : ¬ j < i := by omega
    simp [h1, h2]
  · by_cases h2 : j < i <;> simp [h1, h2]
theorem cS_swap (x y : Str) : cS y x = (cS x y).swap := by
  unfold cS
  by_cases h1 : x.cps.toList < y.cps.toList
  · have h2 : ¬ y.cps.toList < x.cps.toList := List.lt_asymm h1
    simp [h1, h2]
  · by_cases h2 : y.cps.toList < x.cps.toList <;> simp [h1, h2]
theorem cN_swap (i j : Nat) : cN j i = (cN i j).swap := by
  unfold cN
  by_cases h1 : i < j
  · have h2 : ¬ j < i := by omega
    simp [h1, h2]
  · by_cases h2 : j < i <;> simp [h1, h2]
theorem cI_eq {i j : Int} (h : cI i j = .eq) : i = j := by
  unfold cI at h
  split at h
  · cases h
  · split at h
    · cases h
    · omega
theorem cS_eq {x y : Str} (h : cS x y = .eq) : x = y := by
  unfold cS at h
  split at h
  · cases h
  · rename_i h1
    split at h
    · cases h
    · rename_i h2
      have e : x.cps.toList = y.cps.toList := List.le_antisymm (List.not_lt.mp h2) (List.not_lt.mp h1)
      obtain ⟨a⟩ := x
      obtain ⟨b⟩ := y
      simp at e
      rw [e]
theorem cI_lt {i j : Int} : cI i j = .lt ↔ i < j := by
  unfold cI
  by_cases h1 : i < j
  · simp [h1]
  · by_cases h2 : j < i <;> simp [h1, h2]
theorem cS_lt {x y : Str} : cS x y = .lt ↔ x.cps.toList < y.cps.toList := by
  unfold cS
  by_cases h1 : x.cps.toList < y.cps.toList
  · simp [h1]
  · by_cases h2 : y.cps.toList < x.cps.toList <;> simp [h1, h2]
mutual
theorem cmpT_swap : ∀ x y : D, cmpT y x = (cmpT x y).swap
  | .int i, .int j => by rw [cmpT, cmpT]; exact cI_swap i j
  | .str i, .str j => by rw [cmpT, cmpT]; exact cS_swap i j
  | .tuple xs, .tuple ys => by rw [cmpT, cmpT]; exact cmpTs_swap xs ys
  | .none, y => by cases y <;> simp only [cmpT] <;> exact cN_swap _ _
  | .bool b, y => by cases y <;> simp only [cmpT] <;> exact cN_swap _ _
  | .list b, y => by cases y <;> simp only [cmpT] <;> exact cN_swap _ _
  | .dict b, y => by cases y <;> simp only [cmpT] <;> exact cN_swap _ _
  | .int i, .none => by simp only [cmpT]; exact cN_swap _ _
  | .int i, .bool _ => by simp only [cmpT]; exact cN_swap _ _
  | .int i, .str _ => by simp only [cmpT]; exact cN_swap _ _
  | .int i, .tuple _ => by simp only [cmpT]; exact cN_swap _ _
  | .int i, .list _ => by simp only [cmpT]; exact cN_swap _ _
  | .int i, .dict _ => by simp only [cmpT]; exact cN_swap _ _
  | .str i, .none => by simp only [cmpT]; exact cN_swap _ _
  | .str i, .bool _ => by simp only [cmpT]; exact cN_swap _ _
  | .str i, .int _ => by simp only [cmpT]; exact cN_swap _ _
  | .str i, .tuple _ => by simp only [cmpT]; exact cN_swap _ _
  | .str i, .list _ => by simp only [cmpT]; exact cN_swap _ _
  | .str i, .dict _ => by simp only [cmpT]; exact cN_swap _ _
  | .tuple i, .none => by simp only [cmpT]; exact cN_swap _ _
  | .tuple i, .bool _ => by simp only [cmpT]; exact cN_swap _ _
  | .tuple i, .int _ => by simp only [cmpT]; exact cN_swap _ _
  | .tuple i, .str _ => by simp only [cmpT]; exact cN_swap _ _
  | .tuple i, .list _ => by simp only [cmpT]; exact cN_swap _ _
  | .tuple i, .dict _ => by simp only [cmpT]; exact cN_swap _ _
theorem cmpTs_swap : ∀ xs ys : List D, cmpTs ys xs = (cmpTs xs ys).swap
  | [], [] => by simp [cmpTs]
  | [], _ :: _ => by simp [cmpTs]
  | _ :: _, [] => by simp [cmpTs]
  | x :: xs, y :: ys => by
    rw [cmpTs, cmpTs, cmpT_swap x y]
    cases cmpT x y with
    | eq => exact cmpTs_swap xs ys
    | lt => rfl
    | gt => rfl
end
theorem cmpT_refl (x : D) : cmpT x x = .eq := by
  have := cmpT_swap x x
  cases h : cmpT x x with
  | eq => rfl
  | lt => rw [h] at this; cases this
  | gt => rw [h] at this; cases this
mutual
theorem cmpT_eq : ∀ x y : D, keyOk x = true → keyOk y = true → cmpT x y = .eq → x = y
  | .int i, .int j, _, _, h => by rw [cmpT] at h; rw [cI_eq h]
  | .str i, .str j, _, _, h => by rw [cmpT] at h; rw [cS_eq h]
  | .tuple xs, .tuple ys, p, q, h => by
    rw [cmpT] at h
    rw [cmpTs_eq xs ys (by simpa [keyOk] using p) (by simpa [keyOk] using q) h]
  | .none, _, p, _, _ => by simp [keyOk] at p
  | .bool _, _, p, _, _ => by simp [keyOk] at p
  | .list _, _, p, _, _ => by simp [keyOk] at p
  | .dict _, _, p, _, _ => by simp [keyOk] at p
  | .int i, .str _, _, _, h => by simp [cmpT, cN, rank] at h
  | .int i, .tuple _, _, _, h => by simp [cmpT, cN, rank] at h
  | .str i, .int _, _, _, h => by simp [cmpT, cN, rank] at h
  | .str i, .tuple _, _, _, h => by simp [cmpT, cN, rank] at h
  | .tuple i, .int _, _, _, h => by simp [cmpT, cN, rank] at h
  | .tuple i, .str _, _, _, h => by simp [cmpT, cN, rank] at h
  | .int i, .none, _, q, _ => by simp [keyOk] at q
  | .int i, .bool _, _, q, _ => by simp [keyOk] at q
  | .int i, .list _, _, q, _ => by simp [keyOk] at q
  | .int i, .dict _, _, q, _ => by simp [keyOk] at q
  | .str i, .none, _, q, _ => by simp [keyOk] at q
  | .str i, .bool _, _, q, _ => by simp [keyOk] at q
  | .str i, .list _, _, q, _ => by simp [keyOk] at q
  | .str i, .dict _, _, q, _ => by simp [keyOk] at q
  | .tuple i, .none, _, q, _ => by simp [keyOk] at q
  | .tuple i, .bool _, _, q, _ => by simp [keyOk] at q
  | .tuple i, .list _, _, q, _ => by simp [keyOk] at q
  | .tuple i, .dict _, _, q, _ => by simp [keyOk] at q
theorem cmpTs_eq : ∀ xs ys : List D, plainAll xs = true → plainAll ys = true → cmpTs xs ys = .eq → xs = ys
  | [], [], _, _, _ => rfl
  | [], _ :: _, _, _, h => by simp [cmpTs] at h
  | _ :: _, [], _, _, h => by simp [cmpTs] at h
  | x :: xs, y :: ys, p, q, h => by
    simp only [plainAll, keyOk.keyOkAll, Bool.and_eq_true] at p q
    rw [cmpTs] at h
    cases e : cmpT x y with
    | eq =>
      rw [e] at h
      rw [cmpT_eq x y p.1 q.1 e, cmpTs_eq xs ys p.2 q.2 h]
    | lt => rw [e] at h; cases h
    | gt => rw [e] at h; cases h
end
mutual
theorem cmpT_trans : ∀ x y z : D, keyOk x = true → keyOk y = true → keyOk z = true → cmpT x y = .lt → cmpT y z = .lt → cmpT x z = .lt
  | .int i, y, z, _, q, r, h1, h2 => by
    cases y <;> simp [keyOk] at q <;> cases z <;> simp [keyOk] at r <;> simp [cmpT, cN, rank, cI_lt] at h1 h2 ⊢
    omega
  | .str i, y, z, _, q, r, h1, h2 => by
    cases y <;> simp [keyOk] at q <;> cases z <;> simp [keyOk] at r <;> simp [cmpT, cN, rank, cS_lt] at h1 h2 ⊢
    exact List.lt_trans h1 h2
  | .tuple xs, y, z, p, q, r, h1, h2 => by
    cases y <;> simp [keyOk] at q <;> cases z <;> simp [keyOk] at r <;> simp [cmpT, cN, rank] at h1 h2 ⊢
    rename_i ys zs
    exact cmpTs_trans xs ys zs (by simpa [keyOk] using p) q r h1 h2
  | .none, _, _, p, _, _, _, _ => by simp [keyOk] at p
  | .bool _, _, _, p, _, _, _, _ => by simp [keyOk] at p
  | .list _, _, _, p, _, _, _, _ => by simp [keyOk] at p
  | .dict _, _, _, p, _, _, _, _ => by simp [keyOk] at p
theorem cmpTs_trans : ∀ xs ys zs : List D, plainAll xs = true → plainAll ys = true → plainAll zs = true → cmpTs xs ys = .lt → cmpTs ys zs = .lt → cmpTs xs zs = .lt
  | [], ys, zs, _, _, _, h1, h2 => by
    cases ys with
    | nil => simp [cmpTs] at h1
    | cons y ys =>
      cases zs with
      | nil => simp [cmpTs] at h2
      | cons z zs => simp [cmpTs]
  | x :: xs, [], zs, _, _, _, h1, h2 => by simp [cmpTs] at h1
  | x :: xs, y :: ys, [], _, _, _, h1, h2 => by simp [cmpTs] at h2
  | x :: xs, y :: ys, z :: zs, p, q, r, h1, h2 => by
    simp only [plainAll, keyOk.keyOkAll, Bool.and_eq_true] at p q r
    rw [cmpTs] at h1 h2 ⊢
    cases e1 : cmpT x y with
    | gt => rw [e1] at h1; cases h1
    | eq =>
      have e := cmpT_eq x y p.1 q.1 e1
      subst e
      rw [e1] at h1
      cases e2 : cmpT x z with
      | eq => rw [e2] at h2; exact cmpTs_trans xs ys zs p.2 q.2 r.2 h1 h2
      | lt => rfl
      | gt => rw [e2] at h2; cases h2
    | lt =>
      cases e2 : cmpT y z with
      | gt => rw [e2] at h2; cases h2
      | eq =>
        have e := cmpT_eq y z q.1 r.1 e2
        subst e
        rw [e1]
      | lt => rw [cmpT_trans x y z p.1 q.1 r.1 e1 e2]
end
theorem ltB_iff {x y : D} : ltB x y = true ↔ cmpT x y = .lt := by
  unfold ltB
  cases cmpT x y <;> simp
theorem ltB_asym {x y : D} (h : ltB x y = true) : ltB y x = false := by
  rw [ltB_iff] at h
  unfold ltB
  rw [cmpT_swap x y, h]
  rfl
theorem ltB_tr {x y z : D} (p : keyOk x = true) (q : keyOk y = true) (r : keyOk z = true) (h1 : ltB y x = false) (h2 : ltB z y = false) : ltB z x = false := by
  cases h : ltB z x with
  | false => rfl
  | true =>
    exfalso
    rw [ltB_iff] at h
    -- y is below z or is z; x is below y or is y
    cases e1 : cmpT y x with
    | lt => rw [ltB_iff.mpr e1] at h1; cases h1
    | eq =>
      have e := cmpT_eq y x q p e1
      subst e
      rw [ltB_iff.mpr h] at h2; cases h2
    | gt =>
      have e1' : cmpT x y = .lt := by rw [cmpT_swap y x, e1]; rfl
      have := cmpT_trans z x y r p q h e1'
      rw [ltB_iff.mpr this] at h2; cases h2
theorem ltB_total {x y : D} (p : keyOk x = true) (q : keyOk y = true) (h1 : ltB x y = false) (h2 : ltB y x = false) : x = y := by
  cases e : cmpT x y with
  | lt => rw [ltB_iff.mpr e] at h1; cases h1
  | eq => exact cmpT_eq x y p q e
  | gt =>
    have e1' : cmpT y x = .lt := by rw [cmpT_swap x y, e]; rfl
    rw [ltB_iff.mpr e1'] at h2; cases h2
/-! == on plain data -/
mutual
theorem eqv_plain : ∀ x y : D, keyOk x = true → keyOk y = true → (PyData.eqv x y = true ↔ x = y)
  | .int i, y, _, q => by cases y <;> simp [keyOk] at q <;> simp [PyData.eqv]
  | .str i, y, _, q => by cases y <;> simp [keyOk] at q <;> simp [PyData.eqv]
  | .tuple xs, y, p, q => by
    cases y <;> simp [keyOk] at q <;> simp [PyData.eqv]
    rename_i ys
    exact eqvs_plain xs ys (by simpa [keyOk] using p) q
  | .none, _, p, _ => by simp [keyOk] at p
  | .bool _, _, p, _ => by simp [keyOk] at p
  | .list _, _, p, _ => by simp [keyOk] at p
  | .dict _, _, p, _ => by simp [keyOk] at p
theorem eqvs_plain : ∀ xs ys : List D, plainAll xs = true → plainAll ys = true → (PyData.eqvAll xs ys = true ↔ xs = ys)
  | [], [], _, _ => by simp [PyData.eqvAll]
  | [], _ :: _, _, _ => by simp [PyData.eqvAll]
  | _ :: _, [], _, _ => by simp [PyData.eqvAll]
  | x :: xs, y :: ys, p, q => by
    simp only [plainAll, keyOk.keyOkAll, Bool.and_eq_true] at p q
    simp [PyData.eqvAll, eqv_plain x y p.1 q.1, eqvs_plain xs ys p.2 q.2]
end
/-! Python's < where it answers -/
mutual
theorem ltD_plain : ∀ (x y : D) (r : Bool), keyOk x = true → keyOk y = true → ltD x y = some r → r = ltB x y
  | .int i, y, r, _, q, h => by
    cases y <;> simp [keyOk] at q <;> simp [ltD] at h
    rename_i j
    rw [← h, Bool.eq_iff_iff, ltB_iff, cmpT, cI_lt]
    simp
  | .str i, y, r, _, q, h => by
    cases y <;> simp [keyOk] at q <;> simp [ltD] at h
    rename_i j
    rw [← h, Bool.eq_iff_iff, ltB_iff, cmpT, cS_lt]
    simp
  | .tuple xs, y, r, p, q, h => by
    cases y <;> simp [keyOk] at q <;> simp [ltD] at h
    rename_i ys
    rw [ltDs_plain xs ys r (by simpa [keyOk] using p) q h]
    unfold ltB
    rw [cmpT]
  | .none, _, _, p, _, _ => by simp [keyOk] at p
  | .bool _, _, _, p, _, _ => by simp [keyOk] at p
  | .list _, _, _, p, _, _ => by simp [keyOk] at p
  | .dict _, _, _, p, _, _ => by simp [keyOk] at p
theorem ltDs_plain : ∀ (xs ys : List D) (r : Bool), plainAll xs = true → plainAll ys = true → ltD.ltAll xs ys = some r → r = (match cmpTs xs ys with | .lt => true | _ => false)
  | [], [], r, _, _, h => by simp [ltD.ltAll] at h; simp [cmpTs, h]
  | [], _ :: _, r, _, _, h => by simp [ltD.ltAll] at h; simp [cmpTs, h]
  | _ :: _, [], r, _, _, h => by simp [ltD.ltAll] at h; simp [cmpTs, h]
  | x :: xs, y :: ys, r, p, q, h => by
    simp only [plainAll, keyOk.keyOkAll, Bool.and_eq_true] at p q
    rw [ltD.ltAll] at h
    rw [cmpTs]
    by_cases e : PyData.eqv x y = true
    · rw [if_pos e] at h
      have := (eqv_plain x y p.1 q.1).mp e
      subst this
      rw [cmpT_refl]
      exact ltDs_plain xs ys r p.2 q.2 h
    · rw [if_neg e] at h
      have h1 := ltD_plain x y r p.1 q.1 h
      have hne : cmpT x y ≠ .eq := fun z => e ((eqv_plain x y p.1 q.1).mpr (cmpT_eq x y p.1 q.1 z))
      rw [h1]
      unfold ltB
      cases z : cmpT x y with
      | eq => exact absurd z hne
      | lt => rfl
      | gt => rfl
end
end DL

set_option Elab.async false
set_option linter.all false
set_option maxRecDepth 100000
/-! D15: <, <=, > of tuples where only the first place that differs has to compare. -/
namespace PySem.SeqAt
open AutoSeq1 (wpAny_loadPart')
open MeetsSeq MeetsSeq2 MeetsSeq3 SeqRoads2

/-- the places ahead of j are alike -/
def Ahead (f : Nat → Bool) (j : Nat) : Prop := ∀ i, i < j → f i = true
theorem Ahead.succ {f : Nat → Bool} {j : Nat} (h : Ahead f j) (hj : f j = true) : Ahead f (j + 1) := fun i hi => by
  rcases Nat.lt_succ_iff_lt_or_eq.mp hi with h' | rfl
  · exact h i h'
  · exact hj
/-- what is asked of the places: == of each behind alike ones, and < of the first that differs -/
structure Places (A : Around) (s : Shared) (us ws : Array Value) (f g : Nat → Bool) : Prop where
  eq : ∀ j (h1 : j < us.size) (h2 : j < ws.size), Ahead f j → EqAt A s us[j] ws[j] (f j)
  lt : ∀ j (h1 : j < us.size) (h2 : j < ws.size), Ahead f j → f j = false → RcLt A s us[j] ws[j] (g j)
theorem tuple_lt1 (p q : Addr) (us ws : Array Value) (n m : Nat) (d1 d2 : Option Addr) (s1 s2 : Array (Option Value)) (f g : Nat → Bool) :
    Meets (Builtin.«tuple.__lt__» ⟨[.ref p, .ref q], []⟩)
      (fun A R s => s.heap.get? p = some { cls := .type "tuple", dict := d1, data := .seq us n, slots := s1 } ∧ s.heap.get? q = some { cls := .type "tuple", dict := d2, data := .seq ws m, slots := s2 } ∧
        Places A.in1 s us ws f g ∧ R (.ok (.ret (.bool (firstLt f g (decide (us.size < ws.size)) (List.range (min us.size ws.size)))))) s) :=
  .of_wp fun prog w A R s h => by
    obtain ⟨hp, ge, dr, tk, os⟩ := s
    obtain ⟨hl, hb, pl, h⟩ := h
    have f2 := AutoSeq1.sub_tuple_tuple
    have hZ : (us.toList.zip ws.toList).length = min us.size ws.size := by simp
    wp_walk using wpAny_loadPart' hl, wpAny_loadPart' hb, wpAny_forIn_list _ (fun rest b s' => b.1 = none ∧ s' = ⟨hp, ge, dr, tk, os⟩ ∧ ∃ i, Ahead f i ∧ rest = (us.toList.zip ws.toList).drop i ∧
      R (.ok (.ret (.bool (firstLt f g (decide (us.size < ws.size)) ((List.range (min us.size ws.size)).drop i))))) ⟨hp, ge, dr, tk, os⟩) _
    case turn =>
      rintro ⟨y, x⟩ rest b s' ⟨hb', rfl, i, ah, hz, hR⟩
      have hlt : i < (us.toList.zip ws.toList).length := by
        by_cases c : i < (us.toList.zip ws.toList).length
        · exact c
        · rw [List.drop_eq_nil_of_le (by omega)] at hz; cases hz
      have hm : i < min us.size ws.size := hZ ▸ hlt
      have h1 : i < us.size := by omega
      have h2 : i < ws.size := by omega
      rw [List.drop_eq_getElem_cons hlt] at hz
      injection hz with hyx hrest
      have hy : y = us[i] := by simpa using congrArg Prod.fst hyx
      have hx : x = ws[i] := by simpa using congrArg Prod.snd hyx
      subst hy hx
      have hd : (List.range (min us.size ws.size)).drop i = i :: (List.range (min us.size ws.size)).drop (i + 1) := by
        simp [List.drop_eq_getElem_cons, hm]
      rw [hd] at hR
      refine wpAny_bind (pl.eq i h1 h2 ah prog w _ _ ?_)
      cases hf : f i with
      | true =>
        rw [firstLt_yes hf] at hR
        wp_walk
        exact ⟨rfl, rfl, i + 1, ah.succ hf, hrest, hR⟩
      | false =>
        rw [firstLt_no hf] at hR
        rw [if_pos (show (!false) = true from rfl)]
        refine wpAny_bind (wpAny_rule (wpAny_bind (pl.lt i h1 h2 ah hf prog w _ _ ?_)))
        wp_walk
        exact ⟨_, rfl, hR⟩
    case fin =>
      rintro ⟨b1, b2⟩ s' ⟨hb', rfl, i, ah, hz, hR⟩
      simp only at hb'
      subst hb'
      have hge : min us.size ws.size ≤ i := by
        by_cases c : i < (us.toList.zip ws.toList).length
        · rw [List.drop_eq_getElem_cons c] at hz; cases hz
        · omega
      rw [List.drop_of_length_le (by simpa using hge)] at hR
      wp_walk
      refine ⟨_, rfl, ?_⟩
      simpa [Builtin.Tuple.tupleCompareSizes, firstLt] using hR
    case h =>
      exact ⟨rfl, rfl, 0, fun i hi => absurd hi (Nat.not_lt_zero i), rfl, by simpa using h⟩
theorem RcLt.tuples1 {A : Around} {s : Shared} {p q : Addr} {us ws : Array Value} {f g : Nat → Bool} (hl : s.heap.IsTuple p us) (hb : s.heap.IsTuple q ws) (hu : A.units < cLine) (pl : Places A.in1 s us ws f g) :
    RcLt A s (.ref p) (.ref q) (firstLt f g (decide (us.size < ws.size)) (List.range (min us.size ws.size))) := fun prog w E Q h => by
  obtain ⟨⟨c1, d1, t1, s1⟩, o1, k1, n1, e1⟩ := id hl
  obtain ⟨⟨c2, d2, t2, s2⟩, o2, k2, n2, e2⟩ := id hb
  simp only at k1 e1 k2 e2
  subst k1 e1 k2 e2
  have nn : Value.bool (firstLt f g (decide (us.size < ws.size)) (List.range (min us.size ws.size))) ≠ Value.notImplemented := fun x => nomatch x
  exact richCompare_meets_room (op := .Lt) ⟨_, o1, rfl⟩ ⟨_, o2, rfl⟩ F.slot_tuple_lt F.entry_tuple_lt (F.args_tuple_lt_2 _ _) (tuple_lt1 p q us ws n1 n2 d1 d2 s1 s2 f g) ⟨o1, o2, pl, nn, h⟩ hu
/-- what is asked of the places: == of each behind alike ones, and < of the first that differs -/
structure PlacesLtE (A : Around) (s : Shared) (us ws : Array Value) (f g : Nat → Bool) : Prop where
  eq : ∀ j (h1 : j < us.size) (h2 : j < ws.size), Ahead f j → EqAt A s us[j] ws[j] (f j)
  lt : ∀ j (h1 : j < us.size) (h2 : j < ws.size), Ahead f j → f j = false → RcOp .LtE A s us[j] ws[j] (g j)
theorem tuple_le1 (p q : Addr) (us ws : Array Value) (n m : Nat) (d1 d2 : Option Addr) (s1 s2 : Array (Option Value)) (f g : Nat → Bool) :
    Meets (Builtin.«tuple.__le__» ⟨[.ref p, .ref q], []⟩)
      (fun A R s => s.heap.get? p = some { cls := .type "tuple", dict := d1, data := .seq us n, slots := s1 } ∧ s.heap.get? q = some { cls := .type "tuple", dict := d2, data := .seq ws m, slots := s2 } ∧
        PlacesLtE A.in1 s us ws f g ∧ R (.ok (.ret (.bool (firstLt f g (decide (us.size ≤ ws.size)) (List.range (min us.size ws.size)))))) s) :=
  .of_wp fun prog w A R s h => by
    obtain ⟨hp, ge, dr, tk, os⟩ := s
    obtain ⟨hl, hb, pl, h⟩ := h
    have f2 := AutoSeq1.sub_tuple_tuple
    have hZ : (us.toList.zip ws.toList).length = min us.size ws.size := by simp
    wp_walk using wpAny_loadPart' hl, wpAny_loadPart' hb, wpAny_forIn_list _ (fun rest b s' => b.1 = none ∧ s' = ⟨hp, ge, dr, tk, os⟩ ∧ ∃ i, Ahead f i ∧ rest = (us.toList.zip ws.toList).drop i ∧
      R (.ok (.ret (.bool (firstLt f g (decide (us.size ≤ ws.size)) ((List.range (min us.size ws.size)).drop i))))) ⟨hp, ge, dr, tk, os⟩) _
    case turn =>
      rintro ⟨y, x⟩ rest b s' ⟨hb', rfl, i, ah, hz, hR⟩
      have hlt : i < (us.toList.zip ws.toList).length := by
        by_cases c : i < (us.toList.zip ws.toList).length
        · exact c
        · rw [List.drop_eq_nil_of_le (by omega)] at hz; cases hz
      have hm : i < min us.size ws.size := hZ ▸ hlt
      have h1 : i < us.size := by omega
      have h2 : i < ws.size := by omega
      rw [List.drop_eq_getElem_cons hlt] at hz
      injection hz with hyx hrest
      have hy : y = us[i] := by simpa using congrArg Prod.fst hyx
      have hx : x = ws[i] := by simpa using congrArg Prod.snd hyx
      subst hy hx
      have hd : (List.range (min us.size ws.size)).drop i = i :: (List.range (min us.size ws.size)).drop (i + 1) := by
        simp [List.drop_eq_getElem_cons, hm]
      rw [hd] at hR
      refine wpAny_bind (pl.eq i h1 h2 ah prog w _ _ ?_)
      cases hf : f i with
      | true =>
        rw [firstLt_yes hf] at hR
        wp_walk
        exact ⟨rfl, rfl, i + 1, ah.succ hf, hrest, hR⟩
      | false =>
        rw [firstLt_no hf] at hR
        rw [if_pos (show (!false) = true from rfl)]
        refine wpAny_bind (wpAny_rule (wpAny_bind (pl.lt i h1 h2 ah hf prog w _ _ ?_)))
        wp_walk
        exact ⟨_, rfl, hR⟩
    case fin =>
      rintro ⟨b1, b2⟩ s' ⟨hb', rfl, i, ah, hz, hR⟩
      simp only at hb'
      subst hb'
      have hge : min us.size ws.size ≤ i := by
        by_cases c : i < (us.toList.zip ws.toList).length
        · rw [List.drop_eq_getElem_cons c] at hz; cases hz
        · omega
      rw [List.drop_of_length_le (by simpa using hge)] at hR
      wp_walk
      refine ⟨_, rfl, ?_⟩
      simpa [Builtin.Tuple.tupleCompareSizes, firstLt] using hR
    case h =>
      exact ⟨rfl, rfl, 0, fun i hi => absurd hi (Nat.not_lt_zero i), rfl, by simpa using h⟩
theorem RcOp.tuples1_le {A : Around} {s : Shared} {p q : Addr} {us ws : Array Value} {f g : Nat → Bool} (hl : s.heap.IsTuple p us) (hb : s.heap.IsTuple q ws) (hu : A.units < cLine) (pl : PlacesLtE A.in1 s us ws f g) :
    RcOp .LtE A s (.ref p) (.ref q) (firstLt f g (decide (us.size ≤ ws.size)) (List.range (min us.size ws.size))) := fun prog w E Q h => by
  obtain ⟨⟨c1, d1, t1, s1⟩, o1, k1, n1, e1⟩ := id hl
  obtain ⟨⟨c2, d2, t2, s2⟩, o2, k2, n2, e2⟩ := id hb
  simp only at k1 e1 k2 e2
  subst k1 e1 k2 e2
  have nn : Value.bool (firstLt f g (decide (us.size ≤ ws.size)) (List.range (min us.size ws.size))) ≠ Value.notImplemented := fun x => nomatch x
  exact richCompare_meets_room (op := .LtE) ⟨_, o1, rfl⟩ ⟨_, o2, rfl⟩ F.slot_tuple_le F.entry_tuple_le (F.args_tuple_le_2 _ _) (tuple_le1 p q us ws n1 n2 d1 d2 s1 s2 f g) ⟨o1, o2, pl, nn, h⟩ hu
/-- what is asked of the places: == of each behind alike ones, and < of the first that differs -/
structure PlacesGt (A : Around) (s : Shared) (us ws : Array Value) (f g : Nat → Bool) : Prop where
  eq : ∀ j (h1 : j < us.size) (h2 : j < ws.size), Ahead f j → EqAt A s us[j] ws[j] (f j)
  lt : ∀ j (h1 : j < us.size) (h2 : j < ws.size), Ahead f j → f j = false → RcOp .Gt A s us[j] ws[j] (g j)
theorem tuple_gt1 (p q : Addr) (us ws : Array Value) (n m : Nat) (d1 d2 : Option Addr) (s1 s2 : Array (Option Value)) (f g : Nat → Bool) :
    Meets (Builtin.«tuple.__gt__» ⟨[.ref p, .ref q], []⟩)
      (fun A R s => s.heap.get? p = some { cls := .type "tuple", dict := d1, data := .seq us n, slots := s1 } ∧ s.heap.get? q = some { cls := .type "tuple", dict := d2, data := .seq ws m, slots := s2 } ∧
        PlacesGt A.in1 s us ws f g ∧ R (.ok (.ret (.bool (firstLt f g (decide (us.size > ws.size)) (List.range (min us.size ws.size)))))) s) :=
  .of_wp fun prog w A R s h => by
    obtain ⟨hp, ge, dr, tk, os⟩ := s
    obtain ⟨hl, hb, pl, h⟩ := h
    have f2 := AutoSeq1.sub_tuple_tuple
    have hZ : (us.toList.zip ws.toList).length = min us.size ws.size := by simp
    wp_walk using wpAny_loadPart' hl, wpAny_loadPart' hb, wpAny_forIn_list _ (fun rest b s' => b.1 = none ∧ s' = ⟨hp, ge, dr, tk, os⟩ ∧ ∃ i, Ahead f i ∧ rest = (us.toList.zip ws.toList).drop i ∧
      R (.ok (.ret (.bool (firstLt f g (decide (us.size > ws.size)) ((List.range (min us.size ws.size)).drop i))))) ⟨hp, ge, dr, tk, os⟩) _
    case turn =>
      rintro ⟨y, x⟩ rest b s' ⟨hb', rfl, i, ah, hz, hR⟩
      have hlt : i < (us.toList.zip ws.toList).length := by
        by_cases c : i < (us.toList.zip ws.toList).length
        · exact c
        · rw [List.drop_eq_nil_of_le (by omega)] at hz; cases hz
      have hm : i < min us.size ws.size := hZ ▸ hlt
      have h1 : i < us.size := by omega
      have h2 : i < ws.size := by omega
      rw [List.drop_eq_getElem_cons hlt] at hz
      injection hz with hyx hrest
      have hy : y = us[i] := by simpa using congrArg Prod.fst hyx
      have hx : x = ws[i] := by simpa using congrArg Prod.snd hyx
      subst hy hx
      have hd : (List.range (min us.size ws.size)).drop i = i :: (List.range (min us.size ws.size)).drop (i + 1) := by
        simp [List.drop_eq_getElem_cons, hm]
      rw [hd] at hR
      refine wpAny_bind (pl.eq i h1 h2 ah prog w _ _ ?_)
      cases hf : f i with
      | true =>
        rw [firstLt_yes hf] at hR
        wp_walk
        exact ⟨rfl, rfl, i + 1, ah.succ hf, hrest, hR⟩
      | false =>
        rw [firstLt_no hf] at hR
        rw [if_pos (show (!false) = true from rfl)]
        refine wpAny_bind (wpAny_rule (wpAny_bind (pl.lt i h1 h2 ah hf prog w _ _ ?_)))
        wp_walk
        exact ⟨_, rfl, hR⟩
    case fin =>
      rintro ⟨b1, b2⟩ s' ⟨hb', rfl, i, ah, hz, hR⟩
      simp only at hb'
      subst hb'
      have hge : min us.size ws.size ≤ i := by
        by_cases c : i < (us.toList.zip ws.toList).length
        · rw [List.drop_eq_getElem_cons c] at hz; cases hz
        · omega
      rw [List.drop_of_length_le (by simpa using hge)] at hR
      wp_walk
      refine ⟨_, rfl, ?_⟩
      simpa [Builtin.Tuple.tupleCompareSizes, firstLt] using hR
    case h =>
      exact ⟨rfl, rfl, 0, fun i hi => absurd hi (Nat.not_lt_zero i), rfl, by simpa using h⟩
theorem RcOp.tuples1_gt {A : Around} {s : Shared} {p q : Addr} {us ws : Array Value} {f g : Nat → Bool} (hl : s.heap.IsTuple p us) (hb : s.heap.IsTuple q ws) (hu : A.units < cLine) (pl : PlacesGt A.in1 s us ws f g) :
    RcOp .Gt A s (.ref p) (.ref q) (firstLt f g (decide (us.size > ws.size)) (List.range (min us.size ws.size))) := fun prog w E Q h => by
  obtain ⟨⟨c1, d1, t1, s1⟩, o1, k1, n1, e1⟩ := id hl
  obtain ⟨⟨c2, d2, t2, s2⟩, o2, k2, n2, e2⟩ := id hb
  simp only at k1 e1 k2 e2
  subst k1 e1 k2 e2
  have nn : Value.bool (firstLt f g (decide (us.size > ws.size)) (List.range (min us.size ws.size))) ≠ Value.notImplemented := fun x => nomatch x
  exact richCompare_meets_room (op := .Gt) ⟨_, o1, rfl⟩ ⟨_, o2, rfl⟩ F.slot_tuple_gt F.entry_tuple_gt (F.args_tuple_gt_2 _ _) (tuple_gt1 p q us ws n1 n2 d1 d2 s1 s2 f g) ⟨o1, o2, pl, nn, h⟩ hu
end PySem.SeqAt

set_option Elab.async false
set_option linter.all false
set_option maxRecDepth 100000
/-! D16: < of data in the heap; sorted(list) of data. -/
namespace DL
open PySem L2 PySem.Spec PyProof.Rows PySem.SeqAt

theorem depth_mem {x : D} : ∀ {xs : List D}, x ∈ xs → x.depth ≤ PyData.depthAll xs
  | [], h => by cases h
  | y :: ys, h => by
    simp only [PyData.depthAll]
    rcases List.mem_cons.mp h with rfl | h
    · omega
    · have := depth_mem h; omega
theorem lay_mem {x : D} : ∀ {xs : List D}, PyData.canLayAll0 xs = true → x ∈ xs → x.canLay0 = true
  | [], _, h => by cases h
  | y :: ys, c, h => by
    simp only [PyData.canLayAll0, Bool.and_eq_true] at c
    rcases List.mem_cons.mp h with rfl | h
    · exact c.1
    · exact lay_mem c.2 h
theorem plain_mem {x : D} : ∀ {xs : List D}, plainAll xs = true → x ∈ xs → keyOk x = true
  | [], _, h => by cases h
  | y :: ys, c, h => by
    simp only [plainAll, keyOk.keyOkAll, Bool.and_eq_true] at c
    rcases List.mem_cons.mp h with rfl | h
    · exact c.1
    · exact plain_mem c.2 h
theorem readsAll_get {h : Heap} : ∀ {vs : List Value} {ds : List D} {as : List Addr}, ReadsAll h vs ds as → vs.length = ds.length ∧ ∀ (j : Nat) (v : Value), vs[j]? = some v → ∃ d bs, ds[j]? = some d ∧ Reads h v d bs
  | [], [], _, _ => ⟨rfl, fun j v e => by simp at e⟩
  | v :: vs, d :: ds, _, r => by
    cases r with
    | cons a b =>
      obtain ⟨h1, h2⟩ := readsAll_get b
      refine ⟨by simp [h1], fun j u e => ?_⟩
      cases j with
      | zero => simp at e; subst e; exact ⟨d, _, rfl, a⟩
      | succ j => simpa using h2 j u (by simpa using e)
/-- alike at a place; less there -/
def eqF (xs ys : List D) (j : Nat) : Bool := match xs[j]?, ys[j]? with
  | some x, some y => PyData.eqv x y
  | _, _ => true
def ltF (xs ys : List D) (j : Nat) : Bool := match xs[j]?, ys[j]? with
  | some x, some y => (ltD x y).getD false
  | _, _ => true
theorem firstLt_map {f g : Nat → Bool} {fin : Bool} (h : Nat → Nat) : ∀ l : List Nat, firstLt f g fin (l.map h) = firstLt (fun i => f (h i)) (fun i => g (h i)) fin l
  | [] => rfl
  | a :: l => by simp only [List.map_cons, firstLt, firstLt_map h l]
theorem first_ok : ∀ (xs ys : List D) (r : Bool), ltD.ltAll xs ys = some r →
    firstLt (eqF xs ys) (ltF xs ys) (decide (xs.length < ys.length)) (List.range (min xs.length ys.length)) = r ∧
      ∀ j x y, xs[j]? = some x → ys[j]? = some y → Ahead (eqF xs ys) j → eqF xs ys j = false → ltD x y = some (ltF xs ys j)
  | [], [], r, h => by simp [ltD.ltAll] at h; subst h; exact ⟨rfl, fun j x y e => by simp at e⟩
  | [], _ :: _, r, h => by simp [ltD.ltAll] at h; subst h; exact ⟨by simp [firstLt], fun j x y e => by simp at e⟩
  | _ :: _, [], r, h => by simp [ltD.ltAll] at h; subst h; exact ⟨by simp [firstLt], fun j x y _ e => by simp at e⟩
  | x :: xs, y :: ys, r, h => by
    rw [ltD.ltAll] at h
    have e1 : (fun i => eqF (x :: xs) (y :: ys) (i + 1)) = eqF xs ys := by funext i; simp [eqF]
    have e2 : (fun i => ltF (x :: xs) (y :: ys) (i + 1)) = ltF xs ys := by funext i; simp [ltF]
    have e0 : eqF (x :: xs) (y :: ys) 0 = PyData.eqv x y := rfl
    have hr : List.range (min (x :: xs).length (y :: ys).length) = 0 :: (List.range (min xs.length ys.length)).map (· + 1) := by
      have : min (x :: xs).length (y :: ys).length = min xs.length ys.length + 1 := by simp
      rw [this, List.range_succ_eq_map]
    have hlen : decide ((x :: xs).length < (y :: ys).length) = decide (xs.length < ys.length) := by simp
    rw [hr, hlen]
    by_cases c : PyData.eqv x y = true
    · rw [if_pos c] at h
      obtain ⟨i1, i2⟩ := first_ok xs ys r h
      refine ⟨?_, fun j u v hu hv ah hf => ?_⟩
      · rw [firstLt_yes (by rw [e0]; exact c), firstLt_map, e1, e2]; exact i1
      · cases j with
        | zero => rw [e0, c] at hf; cases hf
        | succ j =>
          have hf' : eqF xs ys j = false := by rw [← e1]; exact hf
          have := i2 j u v (by simpa using hu) (by simpa using hv) (fun i hi => by rw [← e1]; exact ah (i + 1) (by omega)) hf'
          rw [this, ← e2]
    · have c' : PyData.eqv x y = false := by simpa using c
      rw [if_neg c] at h
      refine ⟨?_, fun j u v hu hv ah hf => ?_⟩
      · rw [firstLt_no (by rw [e0]; exact c')]
        simp [ltF, h]
      · cases j with
        | zero => simp at hu hv; subst hu hv; simp [ltF, h]
        | succ j =>
          have := ah 0 (by omega)
          rw [e0, c'] at this
          cases this
/-- < of plain data in the heap -/
theorem lt_reads : ∀ (n : Nat) (d e : D) (r : Bool) (A : Around) (s : Shared) (a b : Value) (as bs : List Addr), d.depth ≤ n → Reads s.heap a d as → Reads s.heap b e bs → d.canLay0 = true → e.canLay0 = true → keyOk d = true → keyOk e = true →
    A.units + n < cLine → ltD d e = some r → RcLt A s a b r := by
  intro n
  induction n with
  | zero =>
    intro d e r A s a b as bs hn ra rb ca cb pd pe hu h
    cases d <;> simp [keyOk] at pd <;> cases e <;> simp [keyOk] at pe <;> simp only [ltD, Option.some.injEq, reduceCtorEq] at h
    · cases ra; cases rb; subst h; exact fun prog w E Q q => lt_int q
    · cases ra; cases rb; subst h; exact fun prog w E Q q => lt_str q
    · simp [PyData.depth] at hn
  | succ n ih =>
    intro d e r A s a b as bs hn ra rb ca cb pd pe hu h
    cases d <;> simp [keyOk] at pd <;> cases e <;> simp [keyOk] at pe <;> simp only [ltD, Option.some.injEq, reduceCtorEq] at h
    · cases ra; cases rb; subst h; exact fun prog w E Q q => lt_int q
    · cases ra; cases rb; subst h; exact fun prog w E Q q => lt_str q
    · rename_i xs ys
      cases ra with
      | tuple o1 k1 e1 r1 =>
        cases rb with
        | tuple o2 k2 e2 r2 =>
          rename_i aa oa us na ab oc ws nb
          obtain ⟨f1, f2⟩ := first_ok xs ys r h
          obtain ⟨l1, g1⟩ := readsAll_get r1
          obtain ⟨l2, g2⟩ := readsAll_get r2
          have hc1 : PyData.canLayAll0 xs = true := by simpa [PyData.canLay0] using ca
          have hc2 : PyData.canLayAll0 ys = true := by simpa [PyData.canLay0] using cb
          have hdep : PyData.depthAll xs ≤ n := by simp [PyData.depth] at hn; omega
          have z1 : us.size = xs.length := by rw [← l1]; simp
          have z2 : ws.size = ys.length := by rw [← l2]; simp
          have hin : A.in1.units = A.units + 1 := rfl
          have item : ∀ j (h1 : j < us.size) (h2 : j < ws.size), ∃ x y as bs, xs[j]? = some x ∧ ys[j]? = some y ∧ Reads s.heap us[j] x as ∧ Reads s.heap ws[j] y bs := fun j h1 h2 => by
            obtain ⟨x, a1, q1, q2⟩ := g1 j us[j] (by simp [h1])
            obtain ⟨y, a2, q3, q4⟩ := g2 j ws[j] (by simp [h2])
            exact ⟨x, y, a1, a2, q1, q3, q2, q4⟩
          have main := RcLt.tuples1 (A := A) (s := s) (f := eqF xs ys) (g := ltF xs ys) ⟨oa, o1, k1, na, e1⟩ ⟨oc, o2, k2, nb, e2⟩ (by omega) ⟨fun j h1 h2 _ => by
            obtain ⟨x, y, a1, a2, q1, q2, q3, q4⟩ := item j h1 h2
            have hx := List.mem_of_getElem? q1
            have hy := List.mem_of_getElem? q2
            have := eqAt_reads x y A.in1 s us[j] ws[j] a1 a2 q3 q4 (lay_mem hc1 hx) (lay_mem hc2 hy) (by have := depth_mem hx; rw [hin]; have := Nat.min_le_left x.depth y.depth; omega)
            have e : eqF xs ys j = PyData.eqv x y := by simp [eqF, q1, q2]
            rw [e]; exact this, fun j h1 h2 ah hf => by
            obtain ⟨x, y, a1, a2, q1, q2, q3, q4⟩ := item j h1 h2
            have hx := List.mem_of_getElem? q1
            have hy := List.mem_of_getElem? q2
            exact ih x y _ A.in1 s us[j] ws[j] a1 a2 (Nat.le_trans (depth_mem hx) hdep) q3 q4 (lay_mem hc1 hx) (lay_mem hc2 hy) (plain_mem pd hx) (plain_mem pe hy) (by rw [hin]; omega) (f2 j x y q1 q2 ah hf)⟩
          rw [z1, z2, f1] at main
          exact main
theorem nle (i j : Int) : decide (i ≤ j) = !decide (j < i) := by
  by_cases h : j < i
  · have : ¬ i ≤ j := by omega
    simp [h, this]
  · have : i ≤ j := by omega
    simp [h, this]
theorem eqF_comm (xs ys : List D) : eqF ys xs = eqF xs ys := by
  funext j
  unfold eqF
  cases xs[j]? <;> cases ys[j]? <;> first | rfl | exact PySem.W.eqv_comm _ _
/-- > of plain data in the heap -/
theorem gt_reads : ∀ (n : Nat) (d e : D) (r : Bool) (A : Around) (s : Shared) (a b : Value) (as bs : List Addr), d.depth ≤ n → Reads s.heap a d as → Reads s.heap b e bs → d.canLay0 = true → e.canLay0 = true → keyOk d = true → keyOk e = true →
    A.units + n < cLine → ltD e d = some r → RcOp .Gt A s a b r := by
  intro n
  induction n with
  | zero =>
    intro d e r A s a b as bs hn ra rb ca cb pd pe hu h
    cases d <;> simp [keyOk] at pd <;> cases e <;> simp [keyOk] at pe <;> simp only [ltD, Option.some.injEq, reduceCtorEq] at h
    · cases ra; cases rb; subst h; exact fun prog w E Q q => gt_int q
    · cases ra; cases rb; subst h; exact fun prog w E Q q => PySem.P.gt_str q
    · simp [PyData.depth] at hn
  | succ n ih =>
    intro d e r A s a b as bs hn ra rb ca cb pd pe hu h
    cases d <;> simp [keyOk] at pd <;> cases e <;> simp [keyOk] at pe <;> simp only [ltD, Option.some.injEq, reduceCtorEq] at h
    · cases ra; cases rb; subst h; exact fun prog w E Q q => gt_int q
    · cases ra; cases rb; subst h; exact fun prog w E Q q => PySem.P.gt_str q
    · rename_i xs ys
      cases ra with
      | tuple o1 k1 e1 r1 =>
        cases rb with
        | tuple o2 k2 e2 r2 =>
          rename_i aa oa us na ab oc ws nb
          obtain ⟨f1, f2⟩ := first_ok ys xs r h
          obtain ⟨l1, g1⟩ := readsAll_get r1
          obtain ⟨l2, g2⟩ := readsAll_get r2
          have hc1 : PyData.canLayAll0 xs = true := by simpa [PyData.canLay0] using ca
          have hc2 : PyData.canLayAll0 ys = true := by simpa [PyData.canLay0] using cb
          have hdep : PyData.depthAll xs ≤ n := by simp [PyData.depth] at hn; omega
          have z1 : us.size = xs.length := by rw [← l1]; simp
          have z2 : ws.size = ys.length := by rw [← l2]; simp
          have hin : A.in1.units = A.units + 1 := rfl
          have item : ∀ j (h1 : j < us.size) (h2 : j < ws.size), ∃ x y as bs, xs[j]? = some x ∧ ys[j]? = some y ∧ Reads s.heap us[j] x as ∧ Reads s.heap ws[j] y bs := fun j h1 h2 => by
            obtain ⟨x, a1, q1, q2⟩ := g1 j us[j] (by simp [h1])
            obtain ⟨y, a2, q3, q4⟩ := g2 j ws[j] (by simp [h2])
            exact ⟨x, y, a1, a2, q1, q3, q2, q4⟩
          have main := RcOp.tuples1_gt (A := A) (s := s) (f := eqF xs ys) (g := ltF ys xs) ⟨oa, o1, k1, na, e1⟩ ⟨oc, o2, k2, nb, e2⟩ (by omega) ⟨fun j h1 h2 _ => by
            obtain ⟨x, y, a1, a2, q1, q2, q3, q4⟩ := item j h1 h2
            have hx := List.mem_of_getElem? q1
            have hy := List.mem_of_getElem? q2
            have := eqAt_reads x y A.in1 s us[j] ws[j] a1 a2 q3 q4 (lay_mem hc1 hx) (lay_mem hc2 hy) (by have := depth_mem hx; rw [hin]; have := Nat.min_le_left x.depth y.depth; omega)
            have e : eqF xs ys j = PyData.eqv x y := by simp [eqF, q1, q2]
            rw [e]; exact this, fun j h1 h2 ah hf => by
            obtain ⟨x, y, a1, a2, q1, q2, q3, q4⟩ := item j h1 h2
            have hx := List.mem_of_getElem? q1
            have hy := List.mem_of_getElem? q2
            exact ih x y _ A.in1 s us[j] ws[j] a1 a2 (Nat.le_trans (depth_mem hx) hdep) q3 q4 (lay_mem hc1 hx) (lay_mem hc2 hy) (plain_mem pd hx) (plain_mem pe hy) (by rw [hin]; omega) (f2 j y x q2 q1 (by rw [eqF_comm]; exact ah) (by rw [eqF_comm]; exact hf))⟩
          rw [eqF_comm, Nat.min_comm] at f1
          rw [z1, z2, show (decide (xs.length > ys.length)) = decide (ys.length < xs.length) from rfl, f1] at main
          exact main
/-- <= of plain data in the heap -/
theorem le_reads : ∀ (n : Nat) (d e : D) (r : Bool) (A : Around) (s : Shared) (a b : Value) (as bs : List Addr), d.depth ≤ n → Reads s.heap a d as → Reads s.heap b e bs → d.canLay0 = true → e.canLay0 = true → keyOk d = true → keyOk e = true →
    A.units + n < cLine → ltD e d = some r → RcOp .LtE A s a b (!r) := by
  intro n
  induction n with
  | zero =>
    intro d e r A s a b as bs hn ra rb ca cb pd pe hu h
    cases d <;> simp [keyOk] at pd <;> cases e <;> simp [keyOk] at pe <;> simp only [ltD, Option.some.injEq, reduceCtorEq] at h
    · cases ra; cases rb; subst h; exact fun prog w E Q q => le_int (by rw [nle]; exact q)
    · cases ra; cases rb; subst h; exact fun prog w E Q q => PySem.P.le_str (by simpa using q)
    · simp [PyData.depth] at hn
  | succ n ih =>
    intro d e r A s a b as bs hn ra rb ca cb pd pe hu h
    cases d <;> simp [keyOk] at pd <;> cases e <;> simp [keyOk] at pe <;> simp only [ltD, Option.some.injEq, reduceCtorEq] at h
    · cases ra; cases rb; subst h; exact fun prog w E Q q => le_int (by rw [nle]; exact q)
    · cases ra; cases rb; subst h; exact fun prog w E Q q => PySem.P.le_str (by simpa using q)
    · rename_i xs ys
      cases ra with
      | tuple o1 k1 e1 r1 =>
        cases rb with
        | tuple o2 k2 e2 r2 =>
          rename_i aa oa us na ab oc ws nb
          obtain ⟨f1, f2⟩ := first_ok ys xs r h
          obtain ⟨l1, g1⟩ := readsAll_get r1
          obtain ⟨l2, g2⟩ := readsAll_get r2
          have hc1 : PyData.canLayAll0 xs = true := by simpa [PyData.canLay0] using ca
          have hc2 : PyData.canLayAll0 ys = true := by simpa [PyData.canLay0] using cb
          have hdep : PyData.depthAll xs ≤ n := by simp [PyData.depth] at hn; omega
          have z1 : us.size = xs.length := by rw [← l1]; simp
          have z2 : ws.size = ys.length := by rw [← l2]; simp
          have hin : A.in1.units = A.units + 1 := rfl
          have item : ∀ j (h1 : j < us.size) (h2 : j < ws.size), ∃ x y as bs, xs[j]? = some x ∧ ys[j]? = some y ∧ Reads s.heap us[j] x as ∧ Reads s.heap ws[j] y bs := fun j h1 h2 => by
            obtain ⟨x, a1, q1, q2⟩ := g1 j us[j] (by simp [h1])
            obtain ⟨y, a2, q3, q4⟩ := g2 j ws[j] (by simp [h2])
            exact ⟨x, y, a1, a2, q1, q3, q2, q4⟩
          have main := RcOp.tuples1_le (A := A) (s := s) (f := eqF xs ys) (g := fun j => !ltF ys xs j) ⟨oa, o1, k1, na, e1⟩ ⟨oc, o2, k2, nb, e2⟩ (by omega) ⟨fun j h1 h2 _ => by
            obtain ⟨x, y, a1, a2, q1, q2, q3, q4⟩ := item j h1 h2
            have hx := List.mem_of_getElem? q1
            have hy := List.mem_of_getElem? q2
            have := eqAt_reads x y A.in1 s us[j] ws[j] a1 a2 q3 q4 (lay_mem hc1 hx) (lay_mem hc2 hy) (by have := depth_mem hx; rw [hin]; have := Nat.min_le_left x.depth y.depth; omega)
            have e : eqF xs ys j = PyData.eqv x y := by simp [eqF, q1, q2]
            rw [e]; exact this, fun j h1 h2 ah hf => by
            obtain ⟨x, y, a1, a2, q1, q2, q3, q4⟩ := item j h1 h2
            have hx := List.mem_of_getElem? q1
            have hy := List.mem_of_getElem? q2
            exact ih x y _ A.in1 s us[j] ws[j] a1 a2 (Nat.le_trans (depth_mem hx) hdep) q3 q4 (lay_mem hc1 hx) (lay_mem hc2 hy) (plain_mem pd hx) (plain_mem pe hy) (by rw [hin]; omega) (f2 j y x q2 q1 (by rw [eqF_comm]; exact ah) (by rw [eqF_comm]; exact hf))⟩
          rw [eqF_comm, Nat.min_comm] at f1
          have e3 : decide (xs.length ≤ ys.length) = !decide (ys.length < xs.length) := by by_cases c : ys.length < xs.length <;> simp [c] <;> omega
          rw [z1, z2, e3, firstLt_not, f1] at main
          exact main
theorem list_reads {A : Around} {s : Shared} {a b : Value} {xs ys : List D} {r : Bool} {as bs : List Addr} (ra : Reads s.heap a (.list xs) as) (rb : Reads s.heap b (.list ys) bs) (hx : ∀ x ∈ xs, keyOk x = true ∧ x.canLay0 = true ∧ x.depth ≤ 90) (hy : ∀ y ∈ ys, keyOk y = true ∧ y.canLay0 = true ∧ y.depth ≤ 90)
    (hc : ∀ (j : Nat) (x y : D), xs[j]? = some x → ys[j]? = some y → (ltD x y).isSome = true) (hu : A.units + 100 < cLine) (h : ltD.ltAll xs ys = some r) : RcLt A s a b r := by
  cases ra with
  | list o1 k1 e1 r1 =>
    cases rb with
    | list o2 k2 e2 r2 =>
      rename_i aa oa us na al ab oc ws nb bl
      obtain ⟨f1, f2⟩ := first_ok xs ys r h
      obtain ⟨l1, g1⟩ := readsAll_get r1
      obtain ⟨l2, g2⟩ := readsAll_get r2
      have z1 : us.size = xs.length := by rw [← l1]; simp
      have z2 : ws.size = ys.length := by rw [← l2]; simp
      have hin : A.in1.units = A.units + 1 := rfl
      have item : ∀ j (h1 : j < us.size) (h2 : j < ws.size), ∃ x y as bs, xs[j]? = some x ∧ ys[j]? = some y ∧ Reads s.heap us[j] x as ∧ Reads s.heap ws[j] y bs := fun j h1 h2 => by
        obtain ⟨x, a1, q1, q2⟩ := g1 j us[j] (by simp [h1])
        obtain ⟨y, a2, q3, q4⟩ := g2 j ws[j] (by simp [h2])
        exact ⟨x, y, a1, a2, q1, q3, q2, q4⟩
      have main := RcLt.lists (A := A) (s := s) (e := eqF xs ys) (r := ltF xs ys) ⟨oa, o1, k1, na, e1⟩ ⟨oc, o2, k2, nb, e2⟩ (by omega) (fun j h1 h2 => by
        obtain ⟨x, y, a1, a2, q1, q2, q3, q4⟩ := item j h1 h2
        have hx := hx x (List.mem_of_getElem? q1)
        have hy := hy y (List.mem_of_getElem? q2)
        have := eqAt_reads x y A.in1 s us[j] ws[j] a1 a2 q3 q4 hx.2.1 hy.2.1 (by rw [hin]; have := Nat.min_le_left x.depth y.depth; omega)
        have e : eqF xs ys j = PyData.eqv x y := by simp [eqF, q1, q2]
        rw [e]; exact this) (fun j h1 h2 _ => by
        obtain ⟨x, y, a1, a2, q1, q2, q3, q4⟩ := item j h1 h2
        have hx := hx x (List.mem_of_getElem? q1)
        have hy := hy y (List.mem_of_getElem? q2)
        have hs := hc j x y q1 q2
        cases e : ltD x y with
        | none => rw [e] at hs; cases hs
        | some c =>
          have := lt_reads 90 x y c A.in1 s us[j] ws[j] a1 a2 hx.2.2 q3 q4 hx.2.1 hy.2.1 hx.1 hy.1 (by rw [hin]; omega) e
          have e2 : ltF xs ys j = c := by simp [ltF, q1, q2, e]
          rw [e2]; exact this)
      rw [z1, z2, f1] at main
      exact main
end DL

set_option Elab.async false
set_option linter.all false
set_option maxRecDepth 100000
/-! D2: data in the heap; the state of a run by values over the abstract heap. -/
namespace DL
open PySem L2

mutual
/-- the value v is the data d, all of it in the part Z that is never changed -/
inductive Rep (Z : Hp) : V → D → Prop
  | non : Rep Z .non .none
  | bl (b : Bool) : Rep Z (.bl b) (.bool b)
  | int (i : Int) : Rep Z (.int i) (.int i)
  | str (x : Str) : Rep Z (.str x) (.str x)
  | lst {a : Addr} {xs : List V} {ds : List D} : Rd Z a (.lst xs) → Reps Z xs ds → Rep Z (.ref a) (.list ds)
  | tup {a : Addr} {xs : List V} {ds : List D} : Z a = some (.tup xs) → Reps Z xs ds → Rep Z (.ref a) (.tuple ds)
  | dic {a : Addr} {kvs : List (Key × V)} {es : List (D × D)} : Z a = some (.dK kvs) → RepKs Z kvs es → Rep Z (.ref a) (.dict es)
inductive Reps (Z : Hp) : List V → List D → Prop
  | nil : Reps Z [] []
  | cons {v : V} {d : D} {vs : List V} {ds : List D} : Rep Z v d → Reps Z vs ds → Reps Z (v :: vs) (d :: ds)
inductive RepKs (Z : Hp) : List (Key × V) → List (D × D) → Prop
  | nil : RepKs Z [] []
  | cons {k : Int} {v : V} {d : D} {kvs : List (Key × V)} {es : List (D × D)} : Rep Z v d → RepKs Z kvs es → RepKs Z ((.inl k, v) :: kvs) ((.int k, d) :: es)
end
theorem Rd.same {Z Z' : Hp} {a : Addr} {u : HO} (h : Same Z Z') (r : Rd Z a u) : Rd Z' a u := by
  rcases r with r | ⟨o, r⟩
  · exact .inl (h _ _ r)
  · exact .inr ⟨o, h _ _ r⟩
mutual
theorem Rep.mono {Z Z' : Hp} (h : Same Z Z') : ∀ (d : D) (v : V), Rep Z v d → Rep Z' v d
  | .none, _, r => by cases r; exact .non
  | .bool b, _, r => by cases r; exact .bl b
  | .int i, _, r => by cases r; exact .int i
  | .str x, _, r => by cases r; exact .str x
  | .list ds, _, r => by cases r with | lst a b => exact .lst (Rd.same h a) (Reps.mono h ds _ b)
  | .tuple ds, _, r => by cases r with | tup a b => exact .tup (h _ _ a) (Reps.mono h ds _ b)
  | .dict es, _, r => by cases r with | dic a b => exact .dic (h _ _ a) (RepKs.mono h es _ b)
theorem Reps.mono {Z Z' : Hp} (h : Same Z Z') : ∀ (ds : List D) (vs : List V), Reps Z vs ds → Reps Z' vs ds
  | [], _, r => by cases r; exact .nil
  | d :: ds, _, r => by cases r with | cons a b => exact .cons (Rep.mono h d _ a) (Reps.mono h ds _ b)
theorem RepKs.mono {Z Z' : Hp} (h : Same Z Z') : ∀ (es : List (D × D)) (kvs : List (Key × V)), RepKs Z kvs es → RepKs Z' kvs es
  | [], _, r => by cases r; exact .nil
  | (k, d) :: es, _, r => by cases r with | cons a b => exact .cons (Rep.mono h d _ a) (RepKs.mono h es _ b)
end
theorem Rep.up {Z Z' : Hp} {v : V} {d : D} (r : Rep Z v d) (h : Same Z Z') : Rep Z' v d := Rep.mono h d v r
theorem Reps.up {Z Z' : Hp} {vs : List V} {ds : List D} (r : Reps Z vs ds) (h : Same Z Z') : Reps Z' vs ds := Reps.mono h ds vs r
theorem RepKs.up {Z Z' : Hp} {vs : List (Key × V)} {ds : List (D × D)} (r : RepKs Z vs ds) (h : Same Z Z') : RepKs Z' vs ds := RepKs.mono h ds vs r
theorem Reps.length {Z : Hp} : ∀ {vs : List V} {ds : List D}, Reps Z vs ds → vs.length = ds.length
  | [], [], _ => rfl
  | [], _ :: _, r => by cases r
  | _ :: _, [], r => by cases r
  | v :: vs, d :: ds, r => by cases r with | cons a b => simp [Reps.length b]
theorem RepKs.length {Z : Hp} : ∀ {vs : List (Key × V)} {ds : List (D × D)}, RepKs Z vs ds → vs.length = ds.length
  | [], [], _ => rfl
  | [], _ :: _, r => by cases r
  | _ :: _, [], r => by cases r
  | v :: vs, d :: ds, r => by cases r with | cons a b => simp [RepKs.length b]
theorem Reps.append {Z : Hp} : ∀ {vs ws : List V} {ds es : List D}, Reps Z vs ds → Reps Z ws es → Reps Z (vs ++ ws) (ds ++ es)
  | [], _, [], _, _, s => s
  | [], _, _ :: _, _, r, _ => by cases r
  | _ :: _, _, [], _, r, _ => by cases r
  | v :: vs, _, d :: ds, _, r, s => by cases r with | cons a b => exact .cons a (Reps.append b s)
theorem Reps.take {Z : Hp} : ∀ (n : Nat) {vs : List V} {ds : List D}, Reps Z vs ds → Reps Z (vs.take n) (ds.take n)
  | 0, vs, ds, r => by simp; exact .nil
  | n + 1, [], [], r => .nil
  | n + 1, [], _ :: _, r => by cases r
  | n + 1, _ :: _, [], r => by cases r
  | n + 1, v :: vs, d :: ds, r => by cases r with | cons a b => exact .cons a (Reps.take n b)
theorem Reps.drop {Z : Hp} : ∀ (n : Nat) {vs : List V} {ds : List D}, Reps Z vs ds → Reps Z (vs.drop n) (ds.drop n)
  | 0, vs, ds, r => r
  | n + 1, [], [], r => .nil
  | n + 1, [], _ :: _, r => by cases r
  | n + 1, _ :: _, [], r => by cases r
  | n + 1, v :: vs, d :: ds, r => by cases r with | cons a b => exact Reps.drop n b
theorem Reps.get {Z : Hp} : ∀ {vs : List V} {ds : List D} {i : Nat} {d : D}, Reps Z vs ds → ds[i]? = some d → ∃ v, vs[i]? = some v ∧ Rep Z v d
  | [], [], _, _, _, h => by simp at h
  | [], _ :: _, _, _, r, _ => by cases r
  | _ :: _, [], _, _, r, _ => by cases r
  | v :: vs, d :: ds, 0, _, r, h => by
    cases r with | cons a b =>
    simp at h; subst h; exact ⟨v, rfl, a⟩
  | v :: vs, d :: ds, i + 1, _, r, h => by
    cases r with | cons a b =>
    have := Reps.get b (i := i) (by simpa using h)
    simpa using this
theorem Reps.get' {Z : Hp} {vs : List V} {ds : List D} {i : Nat} {v : V} (r : Reps Z vs ds) (h : vs[i]? = some v) : ∃ d, ds[i]? = some d ∧ Rep Z v d := by
  have hi : i < vs.length := (List.getElem?_eq_some_iff.mp h).1
  have hd : ds[i]? = some (ds[i]'(by rw [← r.length]; exact hi)) := List.getElem?_eq_getElem _
  obtain ⟨v', h', r'⟩ := r.get hd
  rw [h] at h'; cases h'
  exact ⟨_, hd, r'⟩
theorem Reps.reverse {Z : Hp} {vs : List V} {ds : List D} (r : Reps Z vs ds) : Reps Z vs.reverse ds.reverse := by
  induction vs generalizing ds with
  | nil => cases r; exact .nil
  | cons v vs ih =>
    cases r with | cons a b =>
    rw [List.reverse_cons, List.reverse_cons]
    exact Reps.append (ih b) (.cons a .nil)
theorem Reps.dropLast {Z : Hp} {vs : List V} {ds : List D} (r : Reps Z vs ds) : Reps Z vs.dropLast ds.dropLast := by
  rw [List.dropLast_eq_take, List.dropLast_eq_take, r.length]
  exact r.take _
theorem Reps.rep {Z : Hp} {vs : List V} {ds : List D} (r : Reps Z vs ds) : ∀ n : Nat, Reps Z (List.replicate n vs).flatten (List.replicate n ds).flatten
  | 0 => .nil
  | n + 1 => by
    rw [List.replicate_succ, List.replicate_succ, List.flatten_cons, List.flatten_cons]
    exact Reps.append r (Reps.rep r n)

/-! ### the data of a value, as the layer's == reads it -/
mutual
theorem Rep.dp {K : PySem.W.Frag} {Z H : Hp} (h : Same Z H) : ∀ (d : D) (v : V), d.canLay0 = true → Rep Z v d → Dp K H v d
  | .none, _, _, r => by cases r; exact .non
  | .bool b, _, _, r => by cases r; exact .bl b
  | .int i, _, _, r => by cases r; exact .int i
  | .str x, _, _, r => by cases r; exact .str x
  | .list ds, _, c, r => by cases r with | lst a b => exact .lst (.inl (Rd.same h a)) (Reps.dp h ds _ (by simpa [PyData.canLay0] using c) b)
  | .tuple ds, _, c, r => by cases r with | tup a b => exact .tup (.inl (.inl (h _ _ a))) (Reps.dp h ds _ (by simpa [PyData.canLay0] using c) b)
  | .dict _, _, c, _ => by simp [PyData.canLay0] at c
theorem Reps.dp {K : PySem.W.Frag} {Z H : Hp} (h : Same Z H) : ∀ (ds : List D) (vs : List V), PyData.canLayAll0 ds = true → Reps Z vs ds → DpAll K H vs ds
  | [], _, _, r => by cases r; exact .nil
  | d :: ds, _, c, r => by
    simp only [PyData.canLayAll0, Bool.and_eq_true] at c
    cases r with | cons a b => exact .cons (Rep.dp h d _ c.1 a) (Reps.dp h ds _ c.2 b)
end

/-! ### dicts whose keys are tuples -/
mutual
def nk : D → NestedKey
  | .int i => .num i
  | .str x => .text x
  | .tuple xs => .tup (nks xs)
  | _ => .none
def nks : List D → List NestedKey
  | [] => []
  | x :: xs => nk x :: nks xs
end
/-- the dict's one object: its entries -/
def phiN (P : Program) (w : World) (p : Addr) (xs : List (NestedKey × Addr × Value)) (h : Heap) : Prop :=
  ∃ o es ep, h.get? p = some o ∧ o.ExactDict ∧ o.data = .dict es ep ∧ es.toList = xs.map (entryOfKey (nestedKind P w))
inductive RepNs (Z : Hp) : List (NestedKey × Addr × Value) → List (D × D) → Prop
  | nil : RepNs Z [] []
  | cons {k d : D} {a : Addr} {v : V} {u : Value} {xs : List (NestedKey × Addr × Value)} {es : List (D × D)} :
      tupKey k = true → Rep Z (.ref a) k → RelV v u → Rep Z v d → RepNs Z xs es → RepNs Z ((nk k, a, u) :: xs) ((k, d) :: es)
theorem RepNs.up {Z Z' : Hp} {xs : List (NestedKey × Addr × Value)} {es : List (D × D)} (r : RepNs Z xs es) (h : Same Z Z') : RepNs Z' xs es := by
  induction r with
  | nil => exact .nil
  | cons a b c d _ ih => exact .cons a (b.up h) c (d.up h) ih
theorem RepNs.length {Z : Hp} {xs : List (NestedKey × Addr × Value)} {es : List (D × D)} (r : RepNs Z xs es) : xs.length = es.length := by
  induction r with
  | nil => rfl
  | cons _ _ _ _ _ ih => simp [ih]

/-! ### how a slot's value is held -/
/-- what the run takes as given: the address of the class Walker -/
class Cfg where
  wc : Addr
/-- the address of the object that slot 0 holds, in a method -/
class Fix where
  fx : Option Addr
/-- the list of the walker at p -/
def obLst (H : Hp) (p b : Addr) : Prop := ∃ C dx fs, H p = some (.ins C dx fs) ∧ fs.lookup ("taken" : Str) = some (.ref b)
/-- the addresses that a held value has for itself -/
def Adr (H : Hp) (v : V) (m : Md) (b : Addr) : Prop := m ≠ .fr ∧ (v = .ref b ∨ ∃ p, v = .ref p ∧ obLst H p b)
section
variable [Cfg]
/-- the walker at p: its term, its list -/
inductive WS (H Z : Hp) : Addr → Addr → D → List D → Prop
  | mk {p l dx : Addr} {tv : V} {t : D} {vs : List V} {ds : List D} : Z p = none → Z l = none → p ≠ l → H p = some (.ins Cfg.wc dx [("term", tv), ("taken", .ref l)]) → Rep Z tv t → H l = some (.lst vs) → Reps Z vs ds → WS H Z p l t ds
inductive Hold (P : Program) (w : World) (H Z : Hp) : V → D → Md → Prop
  | fr {v : V} {d : D} : Rep Z v d → Hold P w H Z v d .fr
  | owl {p : Addr} {vs : List V} {ds : List D} : Z p = none → H p = some (.lst vs) → Reps Z vs ds → Hold P w H Z (.ref p) (.list ds) .ow
  | owd {p : Addr} {kvs : List (Key × V)} {es : List (D × D)} : Z p = none → H p = some (.dK kvs) → RepKs Z kvs es → Hold P w H Z (.ref p) (.dict es) .ow
  | on {p : Addr} {xs : List (NestedKey × Addr × Value)} {es : List (D × D)} : Z p = none → H p = some (.ext (phiN P w p xs)) → (p == sysModules) = false → (xs.map (·.1)).Nodup → RepNs Z xs es → Hold P w H Z (.ref p) (.dict es) .on
  | ob {p l : Addr} {t : D} {ds : List D} : WS H Z p l t ds → Hold P w H Z (.ref p) (.tuple [t, .list ds]) .on
/-- it is no object of the program's own -/
def NoOb (d : D) (m : Md) : Prop := ∀ xs, d = .tuple xs → m ≠ .on
theorem noOb_of {d : D} {m : Md} (h : m ≠ .on) : NoOb d m := fun _ _ => h
end
section
variable [Cfg] {P : Program} {w : World} {H H' Z Z' : Hp} {v : V} {d : D} {m : Md} {b : Addr}
theorem obLst_one {p : Addr} {o : HO} (h : H p = some o) (ho : ∀ C dx fs, o ≠ .ins C dx fs) : ¬ obLst H p b := fun ⟨C, dx, fs, e, _⟩ => by
  rw [h] at e; cases e; exact ho _ _ _ rfl
omit [Cfg] in
theorem lk_taken (tv u : V) : List.lookup ("taken" : Str) [(("term" : Str), tv), (("taken" : Str), u)] = some u := by
  have h : (("taken" : Str) == ("term" : Str)) = false := by decide +kernel
  have h2 : (("taken" : Str) == ("taken" : Str)) = true := by decide +kernel
  rw [List.lookup_cons, h, List.lookup_cons, h2]
omit [Cfg] in
theorem lk_term (tv u : V) : List.lookup ("term" : Str) [(("term" : Str), tv), (("taken" : Str), u)] = some tv := by
  have h : (("term" : Str) == ("term" : Str)) = true := by decide +kernel
  rw [List.lookup_cons, h]
theorem WS.lst_of {p l : Addr} {t : D} {ds : List D} (h : WS H Z p l t ds) : obLst H p b ↔ b = l := by
  cases h with
  | mk a c n e r el rs =>
    constructor
    · rintro ⟨C, dx, fs, e2, lk⟩
      rw [e] at e2
      cases e2
      rw [lk_taken] at lk
      cases lk; rfl
    · rintro rfl
      exact ⟨_, _, _, e, lk_taken _ _⟩
/-- what it has for itself is not shared, and there -/
theorem Hold.adr (h : Hold P w H Z v d m) (a : Adr H v m b) : Z b = none ∧ ∃ o, H b = some o := by
  obtain ⟨hm, a⟩ := a
  cases h with
  | fr _ => exact absurd rfl hm
  | owl z e _ =>
    rcases a with a | ⟨p, a, a2⟩
    · cases a; exact ⟨z, _, e⟩
    · cases a; exact absurd a2 (obLst_one e (by intro _ _ _ z; cases z))
  | owd z e _ =>
    rcases a with a | ⟨p, a, a2⟩
    · cases a; exact ⟨z, _, e⟩
    · cases a; exact absurd a2 (obLst_one e (by intro _ _ _ z; cases z))
  | on z e _ _ _ =>
    rcases a with a | ⟨p, a, a2⟩
    · cases a; exact ⟨z, _, e⟩
    · cases a; exact absurd a2 (obLst_one e (by intro _ _ _ z; cases z))
  | ob ws =>
    rcases a with a | ⟨p, a, a2⟩
    · cases a; cases ws with | mk z1 z2 n e r el rs => exact ⟨z1, _, e⟩
    · cases a
      have := ws.lst_of.mp a2
      subst this
      cases ws with | mk z1 z2 n e r el rs => exact ⟨z2, _, el⟩
/-- what is not shared stands at an address that is not in Z -/
theorem Hold.at (h : Hold P w H Z v d m) (hm : m ≠ .fr) : ∃ p o, v = .ref p ∧ Z p = none ∧ H p = some o := by
  cases h with
  | fr _ => exact absurd rfl hm
  | owl a b _ => exact ⟨_, _, rfl, a, b⟩
  | owd a b _ => exact ⟨_, _, rfl, a, b⟩
  | on a b _ _ _ => exact ⟨_, _, rfl, a, b⟩
  | ob ws => cases ws with | mk z1 z2 n e r el rs => exact ⟨_, _, rfl, z1, e⟩
theorem Hold.step (h : Hold P w H Z v d m) (hz : Same Z Z') (hk : ∀ b, Adr H v m b → Z' b = none ∧ H' b = H b) : Hold P w H' Z' v d m := by
  cases h with
  | fr r => exact .fr (r.up hz)
  | owl a b c => obtain ⟨q1, q2⟩ := hk _ ⟨by decide, .inl rfl⟩; exact .owl q1 (q2.trans b) (c.up hz)
  | owd a b c => obtain ⟨q1, q2⟩ := hk _ ⟨by decide, .inl rfl⟩; exact .owd q1 (q2.trans b) (c.up hz)
  | on a b c n e => obtain ⟨q1, q2⟩ := hk _ ⟨by decide, .inl rfl⟩; exact .on q1 (q2.trans b) c n (e.up hz)
  | ob ws =>
    obtain ⟨q1, q2⟩ := hk _ ⟨by decide, .inl rfl⟩
    obtain ⟨q3, q4⟩ := hk _ ⟨by decide, .inr ⟨_, rfl, ws.lst_of.mpr rfl⟩⟩
    cases ws with | mk z1 z2 n e r el rs => exact .ob (.mk q1 q3 n (q2.trans e) (r.up hz) (q4.trans el) (rs.up hz))
theorem Adr.back (a : Adr H' v m b) (hk : ∀ p, v = .ref p → m ≠ .fr → H' p = H p) : Adr H v m b := by
  obtain ⟨hm, a⟩ := a
  refine ⟨hm, a.imp_right fun ⟨p, e, C, dx, fs, e1, e2⟩ => ⟨p, e, C, dx, fs, by rw [← hk p e hm]; exact e1, e2⟩⟩
/-- a list, however it is held -/
theorem Hold.list {xs : List D} (h : Hold P w H Z v (.list xs) m) (hz : Same Z H) : ∃ a vs, v = .ref a ∧ Rd H a (.lst vs) ∧ Reps Z vs xs := by
  cases h with
  | fr r => cases r with | lst a b => exact ⟨_, _, rfl, Rd.same hz a, b⟩
  | owl a b c => exact ⟨_, _, rfl, .inl b, c⟩
theorem Hold.tuple {xs : List D} (h : Hold P w H Z v (.tuple xs) m) (hz : Same Z H) (hm : NoOb (.tuple xs) m) : ∃ a vs, v = .ref a ∧ H a = some (.tup vs) ∧ Z a = some (.tup vs) ∧ Reps Z vs xs := by
  cases h with
  | fr r => cases r with | tup a b => exact ⟨_, _, rfl, hz _ _ a, a, b⟩
  | ob ws => exact absurd rfl (hm _ rfl)
theorem Hold.int {i : Int} (h : Hold P w H Z v (.int i) m) : v = .int i := by
  cases h with | fr r => cases r; rfl
theorem Hold.bool {b : Bool} (h : Hold P w H Z v (.bool b) m) : v = .bl b := by
  cases h with | fr r => cases r; rfl
theorem Hold.str {x : Str} (h : Hold P w H Z v (.str x) m) : v = .str x := by
  cases h with | fr r => cases r; rfl
theorem Hold.none (h : Hold P w H Z v .none m) : v = .non := by
  cases h with | fr r => cases r; rfl
/-- a dict whose keys are ints -/
theorem Hold.dict {es : List (D × D)} (h : Hold P w H Z v (.dict es) m) (hz : Same Z H) (hm : m ≠ .on) : ∃ a kvs, v = .ref a ∧ H a = some (.dK kvs) ∧ RepKs Z kvs es := by
  cases h with
  | fr r => cases r with | dic a b => exact ⟨_, _, rfl, hz _ _ a, b⟩
  | owd a b c => exact ⟨_, _, rfl, b, c⟩
  | on _ _ _ _ _ => exact absurd rfl hm
/-- as the layer's == reads it -/
theorem Hold.dp {K : PySem.W.Frag} (h : Hold P w H Z v d m) (hz : Same Z H) (hm : NoOb d m) (c : d.canLay0 = true) : Dp K H v d := by
  cases h with
  | fr r => exact Rep.dp hz _ _ c r
  | owl a b e => exact .lst (.inl (.inl b)) (Reps.dp hz _ _ (by simpa [PyData.canLay0] using c) e)
  | owd a b e => simp [PyData.canLay0] at c
  | on a b _ _ e => simp [PyData.canLay0] at c
  | ob ws => exact absurd rfl (hm _ rfl)
end

/-! ### the state -/
structure SR [Cfg] [Fix] (P : Program) (w : World) (H0 Z0 : Hp) (g : Sg) (σ : St) (H Z : Hp) : Prop where
  zh : Same Z H
  z0 : Same Z0 Z
  old : ∀ b, H0 b ≠ none → Z b = Z0 b
  keep : Same H0 H
  len : g.length = σ.length
  sl : ∀ (i : Nat) (d : D) (m : Md), g[i]? = some (some (d, m)) → ∃ v, σ[i]? = some (some v) ∧ Hold P w H Z v d m
  own : ∀ (i : Nat) (d : D) (m : Md) (v : V) (b : Addr), g[i]? = some (some (d, m)) → σ[i]? = some (some v) → Adr H v m b → H0 b = none
  inj : ∀ (i j : Nat) (d d' : D) (m m' : Md) (v v' : V) (b : Addr), g[i]? = some (some (d, m)) → g[j]? = some (some (d', m')) → σ[i]? = some (some v) → σ[j]? = some (some v') → Adr H v m b → Adr H v' m' b → i = j
  fix : ∀ (p : Addr) (xs : List D) (v : V), Fix.fx = some p → g[0]? = some (some (.tuple xs, .on)) → σ[0]? = some (some v) → v = .ref p
/-- a value that has come: held, new and no slot's own where it is not shared -/
structure Out [Cfg] (P : Program) (w : World) (H0 : Hp) (g : Sg) (σ : St) (H Z : Hp) (v : V) (d : D) (m : Md) : Prop where
  hold : Hold P w H Z v d m
  new : ∀ b, Adr H v m b → H0 b = none ∧ ∀ (j : Nat) (d' : D) (m' : Md) (v' : V), g[j]? = some (some (d', m')) → σ[j]? = some (some v') → ¬ Adr H v' m' b
  nob : NoOb d m
section
variable [Cfg] [Fix] {P : Program} {w : World} {H0 Z0 H H' Z Z' : Hp} {g : Sg} {σ : St} {v : V} {d : D} {m : Md} {p : Addr} {o : HO}
theorem Out.fr (h : Rep Z v d) : Out P w H0 g σ H Z v d .fr := ⟨.fr h, fun _ z => absurd rfl z.1, noOb_of (by decide)⟩
/-- what stood stays, new things may be shared -/
structure Tr (H Z H' Z' : Hp) : Prop where
  hh : Same H H'
  zz : Same Z Z'
  zh : Same Z' H'
  old : ∀ b, H b ≠ none → Z' b = Z b
omit [Cfg] [Fix] in
theorem Tr.refl (h : Same Z H) : Tr H Z H Z := ⟨Same.refl _, Same.refl _, h, fun _ _ => rfl⟩
omit [Cfg] [Fix] in
theorem Tr.trans {H2 Z2 : Hp} (a : Tr H Z H' Z') (b : Tr H' Z' H2 Z2) : Tr H Z H2 Z2 := by
  refine ⟨a.hh.trans b.hh, a.zz.trans b.zz, b.zh, fun c hc => ?_⟩
  have : H' c ≠ none := by
    cases q : H c with
    | none => exact absurd q hc
    | some o => rw [a.hh c o q]; exact fun z => by cases z
  rw [b.old c this, a.old c hc]
theorem Hold.tr (h : Hold P w H Z v d m) (t : Tr H Z H' Z') : Hold P w H' Z' v d m := by
  refine h.step t.zz fun b a => ?_
  obtain ⟨hz, o, ho⟩ := h.adr a
  refine ⟨by rw [t.old b (by rw [ho]; exact fun z => by cases z)]; exact hz, by rw [ho]; exact t.hh _ _ ho⟩
/-- .. has the same for itself as before -/
theorem Hold.adr_tr {b : Addr} (h : Hold P w H Z v d m) (hh : Same H H') (a : Adr H' v m b) : Adr H v m b := a.back fun p e hm => by
  obtain ⟨p', o, e', _, ho⟩ := h.at hm
  rw [e] at e'; cases e'
  rw [ho]; exact hh _ _ ho
theorem SR.tr (s : SR P w H0 Z0 g σ H Z) (t : Tr H Z H' Z') : SR P w H0 Z0 g σ H' Z' := by
  have back : ∀ (i : Nat) (d : D) (m : Md) (v : V) (b : Addr), g[i]? = some (some (d, m)) → σ[i]? = some (some v) → Adr H' v m b → Adr H v m b := fun i d m v b e hv a => by
    obtain ⟨v', hv', h⟩ := s.sl i d m e
    rw [hv] at hv'; cases hv'
    exact h.adr_tr t.hh a
  refine ⟨t.zh, s.z0.trans t.zz, fun b hb => ?_, s.keep.trans t.hh, s.len, fun i d m e => ?_, fun i d m v b e hv a => s.own i d m v b e hv (back i d m v b e hv a),
    fun i j d d' m m' v v' b e e' hv hv' a a' => s.inj i j d d' m m' v v' b e e' hv hv' (back i d m v b e hv a) (back j d' m' v' b e' hv' a'), s.fix⟩
  · have : H b ≠ none := by
      cases q : H0 b with
      | none => exact absurd q hb
      | some o => rw [s.keep b o q]; exact fun z => by cases z
    rw [t.old b this, s.old b hb]
  · obtain ⟨v, hv, h⟩ := s.sl i d m e
    exact ⟨v, hv, h.tr t⟩
theorem Out.tr (h : Out P w H0 g σ H Z v d m) (s : SR P w H0 Z0 g σ H Z) (t : Tr H Z H' Z') : Out P w H0 g σ H' Z' v d m := by
  refine ⟨h.hold.tr t, fun b a => ?_, h.nob⟩
  obtain ⟨h1, h2⟩ := h.new b (h.hold.adr_tr t.hh a)
  refine ⟨h1, fun j d' m' v' e hv a' => ?_⟩
  obtain ⟨v2, hv2, hh⟩ := s.sl j d' m' e
  rw [hv] at hv2; cases hv2
  exact h2 j d' m' v' e hv (hh.adr_tr t.hh a')
/-- a new object that no one looks at -/
theorem Tr.laid (hz : Same Z H) (hp : H p = none) : Tr H Z (upd H p o) Z := by
  have s1 : Same H (upd H p o) := fun b u q => by rw [upd_ne (ne_of_none q hp)]; exact q
  exact ⟨s1, Same.refl _, hz.trans s1, fun _ _ => rfl⟩
omit [Cfg] [Fix] in
theorem zfree (hz : Same Z H) (hp : H p = none) : Z p = none := Same.free hz hp
/-- .. that is shared from the start -/
theorem Tr.laidZ (hz : Same Z H) (hp : H p = none) : Tr H Z (upd H p o) (upd Z p o) := by
  have s1 : Same H (upd H p o) := fun b u q => by rw [upd_ne (ne_of_none q hp)]; exact q
  have zp := zfree hz hp
  refine ⟨s1, fun b u q => by rw [upd_ne (ne_of_none q zp)]; exact q, fun b u q => ?_, fun b hb => ?_⟩
  · by_cases e : b = p
    · subst e; rw [upd_same] at q ⊢; exact q
    · rw [upd_ne e] at q; rw [upd_ne e]; exact hz b u q
  · by_cases e : b = p
    · subst e; exact absurd hp hb
    · rw [upd_ne e]
/-- an own thing becomes shared -/
theorem Rep.ofHold (h : Hold P w H Z v d m) (hm : m ≠ .on) (hz : Same Z H) : ∃ Z', Same Z Z' ∧ Same Z' H ∧ Rep Z' v d ∧ (∀ b, (∀ p, v = .ref p → m ≠ .fr → b ≠ p) → Z' b = Z b) := by
  cases h with
  | fr r => exact ⟨Z, Same.refl _, hz, r, fun _ _ => rfl⟩
  | @owl p vs ds a b c =>
    have s1 : Same Z (upd Z p (.lst vs)) := fun b u q => by rw [upd_ne (ne_of_none q a)]; exact q
    refine ⟨upd Z p (.lst vs), s1, fun b' u q => ?_, .lst (.inl upd_same) (c.up s1), fun b' hb => upd_ne (hb p rfl (by decide))⟩
    by_cases e : b' = p
    · subst e; rw [upd_same] at q; cases q; exact b
    · rw [upd_ne e] at q; exact hz b' u q
  | @owd p vs ds a b c =>
    have s1 : Same Z (upd Z p (.dK vs)) := fun b u q => by rw [upd_ne (ne_of_none q a)]; exact q
    refine ⟨upd Z p (.dK vs), s1, fun b' u q => ?_, .dic upd_same (c.up s1), fun b' hb => upd_ne (hb p rfl (by decide))⟩
    by_cases e : b' = p
    · subst e; rw [upd_same] at q; cases q; exact b
    · rw [upd_ne e] at q; exact hz b' u q
  | on _ _ _ _ _ => exact absurd rfl hm
  | ob _ => exact absurd rfl hm
theorem SR.more (s : SR P w H0 Z0 g σ H Z) (zz : Same Z Z') (zh : Same Z' H) (hn : ∀ b, Z' b ≠ Z b → H0 b = none ∧ ∀ (j : Nat) (d' : D) (m' : Md) (v' : V), g[j]? = some (some (d', m')) → σ[j]? = some (some v') → ¬ Adr H v' m' b) : SR P w H0 Z0 g σ H Z' := by
  refine ⟨zh, s.z0.trans zz, fun b hb => ?_, s.keep, s.len, fun i d m e => ?_, s.own, s.inj, s.fix⟩
  · by_cases e : Z' b = Z b
    · rw [e, s.old b hb]
    · exact absurd (hn b e).1 hb
  · obtain ⟨v, hv, h⟩ := s.sl i d m e
    refine ⟨v, hv, h.step zz fun b a => ?_⟩
    obtain ⟨hz, _⟩ := h.adr a
    by_cases e2 : Z' b = Z b
    · exact ⟨by rw [e2, hz], rfl⟩
    · exact absurd a ((hn b e2).2 i d m v e hv)
theorem SR.share (s : SR P w H0 Z0 g σ H Z) (x : Out P w H0 g σ H Z v d m) (hm : m ≠ .on) : ∃ Z', Same Z Z' ∧ SR P w H0 Z0 g σ H Z' ∧ Rep Z' v d := by
  obtain ⟨Z', zz, zh, r, hn⟩ := Rep.ofHold x.hold hm s.zh
  refine ⟨Z', zz, s.more zz zh fun b hb => ?_, r⟩
  have : ¬ ∀ p, v = .ref p → m ≠ .fr → b ≠ p := fun z => hb (hn b z)
  by_cases e : v = .ref b ∧ m ≠ .fr
  · exact x.new b ⟨e.2, .inl e.1⟩
  · refine absurd ?_ this
    intro p e1 e2 e3
    exact e ⟨by rw [e3]; exact e1, e2⟩
/-- slot i is set -/
theorem SR.set' (s : SR P w H0 Z0 g σ H Z) (hold : Hold P w H Z v d m) (new : ∀ b, Adr H v m b → H0 b = none ∧ ∀ (j : Nat) (d' : D) (m' : Md) (v' : V), g[j]? = some (some (d', m')) → σ[j]? = some (some v') → ¬ Adr H v' m' b) (i : Nat) (hfx : i = 0 → NoOb d m) : SR P w H0 Z0 (g.set i (some (d, m))) (σ.set i (some v)) H Z := by
  have hl := s.len
  have get : ∀ (j : Nat) (d' : D) (m' : Md), (g.set i (some (d, m)))[j]? = some (some (d', m')) → (j = i ∧ d' = d ∧ m' = m ∧ (σ.set i (some v))[j]? = some (some v)) ∨ (j ≠ i ∧ g[j]? = some (some (d', m')) ∧ (σ.set i (some v))[j]? = σ[j]?) := by
    intro j d' m' e
    by_cases hj : j = i
    · subst hj
      by_cases hlt : j < g.length
      · rw [List.getElem?_set_self hlt] at e
        cases e
        exact .inl ⟨rfl, rfl, rfl, by rw [List.getElem?_set_self (by omega)]⟩
      · rw [List.getElem?_eq_none (by simpa using hlt)] at e; cases e
    · rw [List.getElem?_set_ne (Ne.symm hj)] at e
      exact .inr ⟨hj, e, by rw [List.getElem?_set_ne (Ne.symm hj)]⟩
  refine ⟨s.zh, s.z0, s.old, s.keep, by simpa using hl, fun j d' m' e => ?_, fun j d' m' u b e hv a => ?_, fun j k d1 d2 m1 m2 u1 u2 b e1 e2 v1 v2 a1 a2 => ?_, fun p xs u hp e hv => ?_⟩
  · rcases get j d' m' e with ⟨rfl, rfl, rfl, h⟩ | ⟨hj, h1, h2⟩
    · exact ⟨v, h, hold⟩
    · obtain ⟨u, hu, hh⟩ := s.sl j d' m' h1
      exact ⟨u, by rw [h2]; exact hu, hh⟩
  · rcases get j d' m' e with ⟨rfl, rfl, rfl, h⟩ | ⟨hj, h1, h2⟩
    · rw [h] at hv; cases hv; exact (new b a).1
    · rw [h2] at hv; exact s.own j d' m' u b h1 hv a
  · rcases get j d1 m1 e1 with ⟨rfl, rfl, rfl, h⟩ | ⟨hj, p1, p2⟩
    · rcases get k d2 m2 e2 with ⟨rfl, _⟩ | ⟨hk, q1, q2⟩
      · rfl
      · rw [h] at v1; cases v1
        rw [q2] at v2
        exact absurd a2 ((new b a1).2 k d2 m2 u2 q1 v2)
    · rcases get k d2 m2 e2 with ⟨rfl, rfl, rfl, h⟩ | ⟨hk, q1, q2⟩
      · rw [h] at v2; cases v2
        rw [p2] at v1
        exact absurd a1 ((new b a2).2 j d1 m1 u1 p1 v1)
      · rw [p2] at v1; rw [q2] at v2
        exact s.inj j k d1 d2 m1 m2 u1 u2 b p1 q1 v1 v2 a1 a2
  · rcases get 0 (.tuple xs) .on e with ⟨h0, hd, hm, h⟩ | ⟨hj, h1, h2⟩
    · exact absurd hm.symm (hfx h0.symm xs hd.symm)
    · rw [h2] at hv; exact s.fix p xs u hp h1 hv
theorem SR.set (s : SR P w H0 Z0 g σ H Z) (x : Out P w H0 g σ H Z v d m) (i : Nat) : SR P w H0 Z0 (g.set i (some (d, m))) (σ.set i (some v)) H Z := s.set' x.hold x.new i fun _ => x.nob
/-- slot i is forgotten -/
theorem SR.drop (s : SR P w H0 Z0 g σ H Z) (g' : Sg) (hl : g'.length = g.length) (hg : ∀ (i : Nat) (d : D) (m : Md), g'[i]? = some (some (d, m)) → g[i]? = some (some (d, m))) : SR P w H0 Z0 g' σ H Z :=
  ⟨s.zh, s.z0, s.old, s.keep, hl.trans s.len, fun i d m e => s.sl i d m (hg i d m e), fun i d m v b e => s.own i d m v b (hg i d m e),
    fun i j d d' m m' v v' b e e' => s.inj i j d d' m m' v v' b (hg i d m e) (hg j d' m' e'), fun p xs v hp e => s.fix p xs v hp (hg 0 _ _ e)⟩
theorem SR.none_at (s : SR P w H0 Z0 g σ H Z) (i : Nat) : SR P w H0 Z0 (g.set i none) σ H Z := s.drop _ (by simp) fun j d' m' q => by
  by_cases hj : j = i
  · subst hj
    by_cases hi : j < g.length
    · rw [List.getElem?_set_self hi] at q; cases q
    · rw [List.getElem?_eq_none (by simpa using hi)] at q; cases q
  · rw [List.getElem?_set_ne (Ne.symm hj)] at q; exact q
/-- what slot i holds, the slot forgotten -/
theorem SR.take (s : SR P w H0 Z0 g σ H Z) {i : Nat} (e : g[i]? = some (some (d, m))) (hv : σ[i]? = some (some v)) (h : Hold P w H Z v d m) (hm : m ≠ .on) : Out P w H0 (g.set i none) σ H Z v d m := by
  have hi : i < g.length := (List.getElem?_eq_some_iff.mp e).1
  refine ⟨h, fun b a => ⟨s.own i d m v b e hv a, fun j d' m' v' q hj a' => ?_⟩, noOb_of hm⟩
  by_cases hji : j = i
  · subst hji; rw [List.getElem?_set_self hi] at q; cases q
  · rw [List.getElem?_set_ne (Ne.symm hji)] at q
    exact hji (s.inj j i d' d m' m v' v b q e hj hv a' a)
omit [Cfg] [Fix] in
theorem isObj_of (h : isObj (d, m) = true) : ∃ xs, d = .tuple xs ∧ m = .on := by
  cases m <;> first | (cases d <;> first | exact ⟨_, rfl, rfl⟩ | cases h) | cases h
/-- slot i's own thing becomes shared -/
theorem SR.use (s : SR P w H0 Z0 g σ H Z) {i : Nat} (e : g[i]? = some (some (d, m))) (hm : m ≠ .on) : ∃ v Z', σ[i]? = some (some v) ∧ Same Z Z' ∧ SR P w H0 Z0 (g.set i (some (d, .fr))) σ H Z' ∧ Rep Z' v d := by
  obtain ⟨v, hv, h⟩ := s.sl i d m e
  have hi : i < g.length := (List.getElem?_eq_some_iff.mp e).1
  obtain ⟨Z', zz, s2, r⟩ := (s.none_at i).share (s.take e hv h hm) hm
  refine ⟨v, Z', hv, zz, ?_, r⟩
  have s3 := s2.set (Out.fr (P := P) (w := w) (H0 := H0) (g := g.set i none) (σ := σ) (H := H) r) i
  rw [List.set_set] at s3
  have : σ.set i (some v) = σ := by
    apply List.ext_getElem?
    intro j
    by_cases hj : i = j
    · subst hj; rw [List.getElem?_set_self (by rw [← s.len]; exact hi), hv]
    · rw [List.getElem?_set_ne hj]
  rw [this] at s3
  exact s3
/-- what slot i holds is changed: at its own addresses alone -/
theorem SR.chg (s : SR P w H0 Z0 g σ H Z) {i : Nat} {d' : D} {m' : Md} (e : g[i]? = some (some (d, m))) (hv : σ[i]? = some (some v)) (hh : ∀ b u, H b = some u → ¬ Adr H v m b → H' b = some u) (zz : Same Z Z') (zh : Same Z' H') (old : ∀ b, H b ≠ none → ¬ Adr H v m b → Z' b = Z b)
    (new : Hold P w H' Z' v d' m') (adr : ∀ b, Adr H' v m' b → Adr H v m b ∨ H b = none) (hob : NoOb d' m' ∨ isObj (d, m) = true) : SR P w H0 Z0 (g.set i (some (d', m'))) σ H' Z' := by
  have hi : i < g.length := (List.getElem?_eq_some_iff.mp e).1
  have h0 : ∀ b, H0 b ≠ none → ¬ Adr H v m b := fun b hb a => hb (s.own i d m v b e hv a)
  have get : ∀ (j : Nat) (d1 : D) (m1 : Md), (g.set i (some (d', m')))[j]? = some (some (d1, m1)) → (j = i ∧ d1 = d' ∧ m1 = m') ∨ (j ≠ i ∧ g[j]? = some (some (d1, m1))) := by
    intro j d1 m1 q
    by_cases hj : j = i
    · subst hj; rw [List.getElem?_set_self hi] at q; cases q; exact .inl ⟨rfl, rfl, rfl⟩
    · rw [List.getElem?_set_ne (Ne.symm hj)] at q; exact .inr ⟨hj, q⟩
  -- another slot's own addresses are not touched
  have far : ∀ (j : Nat) (d1 : D) (m1 : Md) (u : V) (b : Addr), j ≠ i → g[j]? = some (some (d1, m1)) → σ[j]? = some (some u) → Adr H u m1 b → ¬ Adr H v m b := fun j d1 m1 u b hj q hu a a' => hj (s.inj j i d1 d m1 m u v b q e hu hv a a')
  have same : ∀ (j : Nat) (d1 : D) (m1 : Md) (u : V) (b : Addr), j ≠ i → g[j]? = some (some (d1, m1)) → σ[j]? = some (some u) → Adr H u m1 b → H' b = H b := fun j d1 m1 u b hj q hu a => by
    obtain ⟨u', hu', h⟩ := s.sl j d1 m1 q
    rw [hu] at hu'; cases hu'
    obtain ⟨_, o, ho⟩ := h.adr a
    rw [ho]; exact hh b o ho (far j d1 m1 u b hj q hu a)
  have back : ∀ (j : Nat) (d1 : D) (m1 : Md) (u : V) (b : Addr), j ≠ i → g[j]? = some (some (d1, m1)) → σ[j]? = some (some u) → Adr H' u m1 b → Adr H u m1 b := fun j d1 m1 u b hj q hu a => a.back fun p ep hm => same j d1 m1 u p hj q hu ⟨hm, .inl ep⟩
  refine ⟨zh, s.z0.trans zz, fun b hb => ?_, fun b u q => ?_, by simpa using s.len, fun j d1 m1 q => ?_, fun j d1 m1 u b q hu a => ?_, fun j k d1 d2 m1 m2 u1 u2 b q1 q2 v1 v2 a1 a2 => ?_, fun p xs u hp q hu => ?_⟩
  · have hH : H b ≠ none := by
      cases q : H0 b with
      | none => exact absurd q hb
      | some o => rw [s.keep b o q]; exact fun z => by cases z
    rw [old b hH (h0 b hb), s.old b hb]
  · exact hh b u (s.keep b u q) (h0 b (by rw [q]; exact fun z => by cases z))
  · rcases get j d1 m1 q with ⟨rfl, rfl, rfl⟩ | ⟨hj, q⟩
    · exact ⟨v, hv, new⟩
    · obtain ⟨u, hu, h⟩ := s.sl j d1 m1 q
      refine ⟨u, hu, h.step zz fun b a => ⟨?_, same j d1 m1 u b hj q hu a⟩⟩
      obtain ⟨hz1, o, ho⟩ := h.adr a
      rw [old b (by rw [ho]; exact fun z => by cases z) (far j d1 m1 u b hj q hu a)]; exact hz1
  · rcases get j d1 m1 q with ⟨rfl, rfl, rfl⟩ | ⟨hj, q⟩
    · rw [hv] at hu; cases hu
      rcases adr b a with a | a
      · exact s.own j d m v b e hv a
      · exact Same.free s.keep a
    · exact s.own j d1 m1 u b q hu (back j d1 m1 u b hj q hu a)
  · rcases get j d1 m1 q1 with ⟨ej, ed, em⟩ | ⟨hj, p1⟩
    · rw [ej] at v1 ⊢
      rw [hv] at v1; cases v1
      rw [em] at a1
      rcases get k d2 m2 q2 with ⟨ek, _⟩ | ⟨hk, p2⟩
      · exact ek.symm
      · have a2' := back k d2 m2 u2 b hk p2 v2 a2
        rcases adr b a1 with a1 | a1
        · exact s.inj i k d d2 m m2 v u2 b e p2 hv v2 a1 a2'
        · obtain ⟨u3, hu3, h3⟩ := s.sl k d2 m2 p2
          rw [v2] at hu3; cases hu3
          obtain ⟨_, o, ho⟩ := h3.adr a2'
          rw [a1] at ho; cases ho
    · rcases get k d2 m2 q2 with ⟨ek, ed, em⟩ | ⟨hk, p2⟩
      · rw [ek] at v2 ⊢
        rw [hv] at v2; cases v2
        rw [em] at a2
        have a1' := back j d1 m1 u1 b hj p1 v1 a1
        rcases adr b a2 with a2 | a2
        · exact s.inj j i d1 d m1 m u1 v b p1 e v1 hv a1' a2
        · obtain ⟨u3, hu3, h3⟩ := s.sl j d1 m1 p1
          rw [v1] at hu3; cases hu3
          obtain ⟨_, o, ho⟩ := h3.adr a1'
          rw [a2] at ho; cases ho
      · exact s.inj j k d1 d2 m1 m2 u1 u2 b p1 p2 v1 v2 (back j d1 m1 u1 b hj p1 v1 a1) (back k d2 m2 u2 b hk p2 v2 a2)
  · rcases get 0 (.tuple xs) .on q with ⟨h0, hd, hm⟩ | ⟨hj, q⟩
    · rcases hob with hob | hob
      · exact absurd hm.symm (hob xs hd.symm)
      · subst h0
        obtain ⟨ys, rfl, rfl⟩ := isObj_of hob
        exact s.fix p ys u hp e hu
    · exact s.fix p xs u hp q hu
theorem adr_own {p b : Addr} (h : H p = some o) (ho : ∀ C dx fs, o ≠ .ins C dx fs) (a : Adr H (.ref p) m b) : b = p := by
  rcases a.2 with e | ⟨q, e, l⟩
  · cases e; rfl
  · cases e; exact absurd l (obLst_one h ho)
/-- the own thing of slot i, a list or a dict, is changed -/
theorem SR.mut (s : SR P w H0 Z0 g σ H Z) {i : Nat} {d' : D} (e : g[i]? = some (some (d, m))) (hm : m ≠ .fr) (hv : σ[i]? = some (some (.ref p))) (ho : H p ≠ none) (new : Hold P w (upd H p o) Z (.ref p) d' m) (hno : ∀ C dx fs, o ≠ .ins C dx fs := by intro _ _ _ z; cases z) (hob : NoOb d' m := by intro _ z _; cases z) : SR P w H0 Z0 (g.set i (some (d', m))) σ (upd H p o) Z := by
  have ap : Adr H (.ref p) m p := ⟨hm, .inl rfl⟩
  have zp : Z p = none := by
    obtain ⟨v, hv', h⟩ := s.sl i d m e
    rw [hv] at hv'; cases hv'
    exact (h.adr ap).1
  refine s.chg e hv (fun b u q na => ?_) (Same.refl _) (fun b u q => ?_) (fun _ _ _ => rfl) new (fun b a => ?_) (.inl hob)
  · rw [upd_ne (fun z => na (by rw [z]; exact ap))]; exact q
  · rw [upd_ne (ne_of_none q zp)]; exact s.zh b u q
  · rw [adr_own upd_same hno a]; exact .inl ap
end
end DL

set_option Elab.async false
set_option linter.all false
set_option maxRecDepth 100000
/-! D3: which text of the model's a small text stands for. -/
namespace DL
open PySem L2

def isStar : Expr → Bool
  | .Starred _ _ => true
  | _ => false
theorem star_no {e : Expr} {es : List Expr} {env : Env} (h : isStar e = false) : starEach (e :: es) env = (false, eval e env) :: starEach es env := by
  cases e <;> first | rfl | cases h
def isSetE : Expr → Bool
  | .Set _ _ _ => true
  | .SetComp _ _ _ _ => true
  | _ => false
theorem set_no {e : Expr} {env : Env} (h : isSetE e = false) : ∀ x, foldedSetIterable e env x = pure x := by
  intro x
  cases e <;> first | rfl | cases h
def isSlice : Expr → Bool
  | .Slice _ _ _ _ => true
  | .Tuple _ _ _ => true
  | .List _ _ => true
  | _ => false
theorem plain_ix {e : Expr} (h : isSlice e = false) : PlainIx e := by
  intro o i
  cases e <;> first | rfl | cases h
def isTst : Expr → Bool
  | .BoolOp _ _ _ => true
  | .UnaryOp .Not _ _ => true
  | .Compare _ _ _ _ => true
  | .IfExp _ _ _ _ => true
  | .NamedExpr _ _ _ => true
  | _ => false
theorem plain_tst {e : Expr} {env : Env} (h : isTst e = false) : ∀ whole, isTrue e env whole = (do let v ← whole; standAt e.pos; holding [v] (truthy v)) := by
  intro w
  cases e <;> first
    | rfl
    | (rename_i op _ _; cases op <;> first | rfl | cases h)
    | cases h
def isComp : Expr → Bool
  | .ListComp _ _ _ _ => true
  | .SetComp _ _ _ _ => true
  | .DictComp _ _ _ _ _ => true
  | _ => false
theorem swaps_no {e : Expr} {t : Option Expr} {l : Nat} {env : Env} (h : isComp e = false) : swapsWith e t l env = pure false := by
  cases e <;> first | rfl | cases h
/-- the methods of Walker: the name, the name in the table -/
def mths : List (Str × Str) := [("take", "Walker.take"), ("word_at", "Walker.word_at"), ("settle", "Walker.settle"), ("comb", "Walker.comb"), ("order", "Walker.order"), ("exchange", "Walker.exchange")]
def isM (f : Str) : Bool := decide (f = "Walker.__init__") || mths.any fun p => decide (p.2 = f)
def hasM (FN : List Str) : Bool := FN.contains "Walker.__init__"
def fnB (FN : List Str) (f : Str) : Bool := FN.contains f && !isM f
/-! ### the check -/
def visB (sc : Scope) (x : Str) : Bool := match sc.names.lookup x with
  | some .local => true
  | some .cell => true
  | some .free => true
  | _ => false
theorem vis_of {sc : Scope} {x : Str} (h : visB sc x = true) : Vis sc x := by
  unfold visB at h
  split at h <;> first | exact .inl (by assumption) | exact .inr (.inl (by assumption)) | exact .inr (.inr (by assumption)) | cases h
def gloB (sc : Scope) (x : Str) : Bool := (match sc.names.lookup x with
  | some .globalImplicit => true
  | _ => false) && !(x == ("__debug__" : Str)) && !(x == ("__name__" : Str))
theorem glo_of {sc : Scope} {x : Str} (h : gloB sc x = true) : sc.names.lookup x = some .globalImplicit ∧ (x == ("__debug__" : Str)) = false ∧ x ≠ ("__name__" : Str) := by
  unfold gloB at h
  simp only [Bool.and_eq_true, Bool.not_eq_true'] at h
  obtain ⟨⟨h1, h2⟩, h3⟩ := h
  refine ⟨?_, h2, fun e => by subst e; simp at h3⟩
  split at h1 <;> first | assumption | cases h1
def okN (x : Str) : Bool := !(x == ("__debug__" : Str)) && !(x == ("__classdict__" : Str))
theorem okN_of {x : Str} (h : okN x = true) : (x == ("__debug__" : Str)) = false ∧ (x == ("__classdict__" : Str)) = false := by
  unfold okN at h
  simpa using h
def locB (sc : Scope) (x : Str) : Bool := match sc.names.lookup x with
  | some .local => true
  | some .cell => true
  | _ => false
theorem loc_of {sc : Scope} {x : Str} (h : locB sc x = true) : Loc sc x := by
  unfold locB at h
  split at h <;> first | exact .inl (by assumption) | exact .inr (by assumption) | cases h
/-- a call of a name without keywords -/
def callOf : Expr → Option (Str × List Expr)
  | .Call (.Name x _) args [] _ => some (x, args)
  | _ => none
theorem callOf_eq {e : Expr} {x : Str} {args : List Expr} (h : callOf e = some (x, args)) : ∃ p pos, e = .Call (.Name x p) args [] pos := by
  unfold callOf at h
  split at h
  · cases h; exact ⟨_, _, rfl⟩
  · cases h
/-- a call of a name's method, the dot on the call's last line -/
def methOf : Expr → Option (Str × Str × List Expr)
  | .Call (.Attribute (.Name x _) m apos) args [] cpos => if (apos.endLine == cpos.line) = true then some (x, m, args) else none
  | _ => none
theorem methOf_eq {e : Expr} {x m : Str} {args : List Expr} (h : methOf e = some (x, m, args)) : ∃ p apos cpos, e = .Call (.Attribute (.Name x p) m apos) args [] cpos ∧ (apos.endLine == cpos.line) = true := by
  unfold methOf at h
  split at h
  · split at h
    · cases h; exact ⟨_, _, _, rfl, by assumption⟩
    · cases h
  · cases h
def call1 (sc : Scope) (nm : Str) (e : Expr) : Option Expr := match callOf e with
  | some (x, [a]) => if x = nm ∧ gloB sc x = true ∧ isStar a = false then some a else none
  | _ => none
theorem call1_eq {sc : Scope} {nm : Str} {e a : Expr} (h : call1 sc nm e = some a) : (∃ p pos, e = .Call (.Name nm p) [a] [] pos) ∧ gloB sc nm = true ∧ isStar a = false := by
  unfold call1 at h
  split at h
  · rename_i x a' q
    split at h
    · rename_i c
      cases h
      obtain ⟨rfl, c2, c3⟩ := c
      exact ⟨callOf_eq q, c2, c3⟩
    · cases h
  · cases h
def call2 (sc : Scope) (nm : Str) (e : Expr) : Option (Expr × Expr) := match callOf e with
  | some (x, [a, b]) => if x = nm ∧ gloB sc x = true ∧ isStar a = false ∧ isStar b = false then some (a, b) else none
  | _ => none
theorem call2_eq {sc : Scope} {nm : Str} {e a b : Expr} (h : call2 sc nm e = some (a, b)) : (∃ p pos, e = .Call (.Name nm p) [a, b] [] pos) ∧ gloB sc nm = true ∧ isStar a = false ∧ isStar b = false := by
  unfold call2 at h
  split at h
  · rename_i x a' b' q
    split at h
    · rename_i c
      cases h
      obtain ⟨rfl, c2, c3, c4⟩ := c
      exact ⟨callOf_eq q, c2, c3, c4⟩
    · cases h
  · cases h
def opB : B2 → Operator → Bool
  | .add, .Add => true
  | .sub, .Sub => true
  | .mul, .Mult => true
  | .fdiv, .FloorDiv => true
  | .mod, .Mod => true
  | .pow, .Pow => true
  | _, _ => false
def opC : C2 → CmpOp → Bool
  | .eq, .Eq => true
  | .ne, .NotEq => true
  | .lt, .Lt => true
  | .le, .LtE => true
  | .gt, .Gt => true
  | .ge, .GtE => true
  | .isn, .Is => true
  | .notn, .IsNot => true
  | .in_, .In => true
  | .nin, .NotIn => true
  | _, _ => false
def isNon : E → Bool
  | .non => true
  | _ => false
def isNilE : E → Bool
  | .nil => true
  | _ => false
def tyName : Ty → Str
  | .int => "int"
  | .bool => "bool"
  | .str => "str"
  | .tuple => "tuple"
  | .list => "list"
  | .dict => "dict"
def nameIs : Expr → Option Str
  | .Name x _ => some x
  | _ => none
def noneConst : Expr → Bool
  | .Constant .none _ _ => true
  | _ => false
/-- a test that is no conditional expression -/
def tstOk (x : Expr) : Bool := !isTst x || (match x with | .IfExp _ _ _ _ => false | .NamedExpr _ _ _ => false | _ => true)
/-- a display of texts by texts -/
def chkKV : List (Str × Str) → List (Option Expr) → List Expr → Bool
  | [], [], [] => true
  | (a, b) :: r, some (.Constant (.str x) _ _) :: ks, .Constant (.str y) _ _ :: vs => decide (x = a) && decide (y = b) && chkKV r ks vs
  | _, _, _ => false
mutual
/-- the text pe of the model is the small text e (b: where something is walked) -/
def chk (FN N : List Str) : E → Bool → Scope → Expr → Bool
  | .var i, _, sc, pe => match pe with | .Name x _ => decide (N[i]? = some x) && visB sc x && okN x | _ => false
  | .int i, _, _, pe => match pe with
    | .Constant (.int j) _ _ => decide (i = j)
    | .UnaryOp .USub (.Constant (.int j) _ _) _ => decide (i = -j)
    | _ => false
  | .str x, _, _, pe => match pe with | .Constant (.str y) _ _ => decide (x = y) | _ => false
  | .bl c, _, _, pe => match pe with | .Constant (.bool d) _ _ => decide (c = d) | _ => false
  | .non, _, _, pe => match pe with | .Constant .none _ _ => true | _ => false
  | .glob x, _, sc, pe => match pe with | .Name y _ => decide (x = y) && gloB sc x | _ => false
  | .tup es, _, sc, pe => match pe with | .Tuple elts _ _ => chkL FN N es sc elts | _ => false
  | .lst es, _, sc, pe => match pe with | .List elts _ => chkL FN N es sc elts | _ => false
  | .dnew n, _, _, pe => match pe with | .Dict [] [] _ => !n | _ => false
  | .bin o a b, _, sc, pe => match pe with | .BinOp l op r _ => opB o op && chk FN N a false sc l && chk FN N b false sc r | _ => false
  | .cmp o a b, _, sc, pe => match pe with
    | .Compare l [op] [r] _ => opC o op && chk FN N a false sc l && chk FN N b false sc r && !behindInMarks op r && (match o with | .isn => isNon b | .notn => isNon b | _ => true)
    | _ => false
  | .and_ es, _, sc, pe => match pe with | .BoolOp .And vs _ => chkL FN N es sc vs && !isNilE es && vs.all tstOk | _ => false
  | .or_ es, _, sc, pe => match pe with | .BoolOp .Or vs _ => chkL FN N es sc vs && !isNilE es && vs.all tstOk | _ => false
  | .not_ a, _, sc, pe => match pe with | .UnaryOp .Not x _ => chk FN N a false sc x && tstOk x | _ => false
  | .ite t a b, _, sc, pe => match pe with | .IfExp c x y _ => chk FN N t false sc c && chk FN N a false sc x && chk FN N b false sc y && tstOk c | _ => false
  | .ix a i, _, sc, pe => match pe with | .Subscript x y _ => chk FN N a false sc x && chk FN N i false sc y && !isSlice y | _ => false
  | .sl a lo hi, _, sc, pe => match pe with
    | .Subscript x (.Slice l h none _) _ => chk FN N a false sc x && (match l with | none => isNilE lo | some y => chk FN N lo false sc y && !isNilE lo) && (match h with | none => isNilE hi | some y => chk FN N hi false sc y && !isNilE hi)
    | _ => false
  | .call f es, _, sc, pe => match callOf pe with | some (x, args) => decide (x = f) && fnB FN f && gloB sc x && chkL FN N es sc args && !isNilE es | none => false
  | .len a, _, sc, pe => match call1 sc "len" pe with | some x => chk FN N a false sc x | none => false
  | .list a, _, sc, pe => match call1 sc "list" pe with | some x => chk FN N a false sc x | none => false
  | .tuple a, _, sc, pe => match call1 sc "tuple" pe with | some x => chk FN N a false sc x | none => false
  | .sorted a, _, sc, pe => match call1 sc "sorted" pe with | some x => chk FN N a false sc x | none => false
  | .sortset a, _, sc, pe => match call1 sc "sorted" pe with | some y => (match call1 sc "set" y with | some x => chk FN N a false sc x | none => false) | none => false
  | .dict a, _, sc, pe => match call1 sc "dict" pe with | some x => chk FN N a false sc x | none => false
  | .min a b, _, sc, pe => match call2 sc "min" pe with | some (x, y) => chk FN N a false sc x && chk FN N b false sc y | none => false
  | .max a b, _, sc, pe => match call2 sc "max" pe with | some (x, y) => chk FN N a false sc x && chk FN N b false sc y | none => false
  | .toInt a, _, sc, pe => match call1 sc "int" pe with | some x => chk FN N a false sc x | none => false
  | .isi a t, _, sc, pe => match call2 sc "isinstance" pe with | some (x, y) => chk FN N a false sc x && decide (nameIs y = some (tyName t)) && gloB sc (tyName t) | none => false
  | .dictzip a b, _, sc, pe => false
  | .pop i, _, sc, pe => match methOf pe with | some (x, m, []) => decide (m = "pop") && decide (N[i]? = some x) && visB sc x && okN x | _ => false
  | .append i a, _, sc, pe => match methOf pe with | some (x, m, [y]) => decide (m = "append") && decide (N[i]? = some x) && visB sc x && okN x && chk FN N a false sc y && !isStar y | _ => false
  | .extend i a, _, sc, pe => match methOf pe with | some (x, m, [y]) => decide (m = "extend") && decide (N[i]? = some x) && visB sc x && okN x && chk FN N a false sc y && !isStar y | _ => false
  | .clear i, _, sc, pe => match methOf pe with | some (x, m, []) => decide (m = "clear") && decide (N[i]? = some x) && visB sc x && okN x | _ => false
  | .dpop i a, _, sc, pe => match methOf pe with | some (x, m, [y]) => decide (m = "pop") && decide (N[i]? = some x) && visB sc x && okN x && chk FN N a false sc y && !isStar y | _ => false
  | .lc elt i it cond fz, _, sc, pe => match pe with
    | .ListComp pelt [⟨.Name y _, piter, ifs, 0⟩] scope _ => decide (N[i]? = some y) && blkC N sc scope [(y, i)] && decide ((relS scope sc).names.lookup y = some .local) && chk FN N elt false (relS scope sc) pelt && chk FN N it true sc piter && !isSetE piter &&
      (match ifs with | [] => isNilE cond | [c] => chk FN N cond false (relS scope sc) c && !isNilE cond && tstOk c | _ => false)
    | _ => false
  | .range1 a, b, sc, pe => b && (match call1 sc "range" pe with | some x => chk FN N a false sc x | none => false)
  | .range2 x' y', b, sc, pe => b && (match call2 sc "range" pe with | some (x, y) => chk FN N x' false sc x && chk FN N y' false sc y | none => false)
  | .rev a, b, sc, pe => b && (match call1 sc "reversed" pe with | some x => chk FN N a false sc x | none => false)
  | .dpick kvs a, _, sc, pe => match pe with
    | .Subscript (.Dict ks vs _) e _ => chkKV kvs ks vs && !kvs.isEmpty && decide (kvs.length ≤ 15) && !isSlice e && chk FN N a false sc e
    | _ => false
  | .fld i, _, sc, pe => match pe with | .Attribute (.Name x _) f _ => decide (N[i]? = some x) && visB sc x && okN x && decide (f = "term") && hasM FN | _ => false
  | .mcall i m es, _, sc, pe => match pe with
    | .Call (.Attribute (.Name x _) f apos) args [] cpos => (decide (N[i]? = some x) && (apos.endLine == cpos.line) && decide (args.length < 10)) && visB sc x && okN x && decide (mths.lookup f = some m) && FN.contains m && hasM FN && chkL FN N es sc args && !isNilE es
    | _ => false
  | .gnin x a, _, sc, pe => match pe with | .Compare l [.NotIn] [.Name y p] _ => decide (x = y) && gloB sc x && chk FN N a false sc l && !behindInMarks .NotIn (.Name y p) | _ => false
  | .gix x a, _, sc, pe => match pe with | .Subscript (.Name y _) i _ => decide (x = y) && gloB sc x && chk FN N a false sc i && !isSlice i | _ => false
  | .dcmp n a b, _, sc, pe => match pe with | .Compare l [op] [r] _ => (match op with | .Eq => !n | .NotEq => n | _ => false) && chk FN N a false sc l && chk FN N b false sc r && !behindInMarks op r | _ => false
  | .nil, _, _, _ => false
  | .cons _ _, _, _, _ => false
def chkL (FN N : List Str) : E → Scope → List Expr → Bool
  | .nil, _, [] => true
  | .cons a r, sc, x :: xs => chk FN N a false sc x && !isStar x && chkL FN N r sc xs
  | _, _, _ => false
end
end DL

set_option Elab.async false
set_option linter.all false
set_option maxRecDepth 100000
/-! D4: the readings of the small texts, and that they hold: expressions. -/
namespace DL
open PySem L2

/-- the classes of errors: their addresses, which there are -/
structure Cls where
  f : Nat → Value
  on : List Nat
instance : CoeFun Cls (fun _ => Nat → Value) := ⟨Cls.f⟩
def clsName : Nat → Str
  | 0 => "TermError" | 1 => "NoTerm" | 2 => "TooGreat" | 3 => "NoMove" | 4 => "NoFilling" | 5 => "HasOpen" | _ => "NoRule"
structure ClsAt (K : PySem.W.Frag) (mg : Str → Option Value) (cls : Cls) (c : Nat) (C : Addr) : Prop where
  is : cls c = .ref C
  mg : mg (clsName c) = some (.ref C)
  ex : PySem.W.excIn K C [.type "ValueError", .type "Exception", .type "BaseException", .type "object"] "ValueError.__new__" = true
  kp : PySem.W.keepIn K (.ref C) = true
  sub : PySem.W.subIn K (.ref C) (.type "BaseException") = some true
  ty : PySem.W.typeIn K (.ref C) = some (.type "type")
  ec : ExcC K C
  kit : PySem.W.kitOne K (.ref C) (.type "ValueError") = some true
/-- a module's dict of texts -/
structure GDict (w : World) (K : PySem.W.Frag) (mg : Str → Option Value) (x : Str) (es : List (D × D)) (d : Addr) (a : Array DictEntry) (n : Nat) : Prop where
  mg : mg x = some (.ref d)
  kd : KDict K w d a n
  no : ∀ k, getKey es (.str k) = some .none → PySem.W.nsIn K d k = some none
  yes : ∀ k y, getKey es (.str k) = some (.str y) → ∃ t, PySem.W.nsIn K d k = some (some (.str y t))
variable [Cfg] [Fix]
/-- what is wanted behind a run by values -/
def Po {α : Type} (P : Program) (w : World) (W : WX) (cls : Cls) (σ : St) (H0 Z0 Z : Hp) (r : Res α) (K : α → Sg → Hp → Hp → Prop) : Prop := match r with
  | .ok a g => ∀ H' Z', SR P w H0 Z0 g σ H' Z' → Same Z Z' → K a g H' Z'
  | .exc c g => ∀ H' Z', SR P w H0 Z0 g σ H' Z' → Same Z Z' → W (cls c) none σ H'
  | .stuck => False
section
variable {α β : Type} {P : Program} {w : World} {W : WX} {cls : Cls} {σ : St} {H0 Z0 Z : Hp}
theorem Po.bd {r : Res α} {f : α → Sg → Res β} {K : β → Sg → Hp → Hp → Prop} (h : Po P w W cls σ H0 Z0 Z (r.bd f) K) :
    Po P w W cls σ H0 Z0 Z r (fun a g H' Z' => Po P w W cls σ H0 Z0 Z' (f a g) K) := by
  cases r with
  | ok a g =>
    intro H' Z' sr zz
    have h' : Po P w W cls σ H0 Z0 Z (f a g) K := h
    cases e : f a g with
    | ok b g2 => rw [e] at h'; exact fun H2 Z2 sr2 z2 => h' H2 Z2 sr2 (zz.trans z2)
    | exc c g2 => rw [e] at h'; exact fun H2 Z2 sr2 z2 => h' H2 Z2 sr2 (zz.trans z2)
    | stuck => rw [e] at h'; exact h'
  | exc c g => exact h
  | stuck => exact h
theorem Po.mono {r : Res α} {K K' : α → Sg → Hp → Hp → Prop} (h : Po P w W cls σ H0 Z0 Z r K) (hk : ∀ a g H' Z', SR P w H0 Z0 g σ H' Z' → Same Z Z' → K a g H' Z' → K' a g H' Z') : Po P w W cls σ H0 Z0 Z r K' := by
  cases r with
  | ok a g => exact fun H' Z' sr zz => hk a g H' Z' sr zz (h H' Z' sr zz)
  | exc c g => exact h
  | stuck => exact h
theorem Po.map {r : Res α} {K K' : α → Sg → Hp → Hp → Prop} (h : Po P w W cls σ H0 Z0 Z r K)
    (hk : ∀ a g, (∀ H' Z', SR P w H0 Z0 g σ H' Z' → Same Z Z' → K a g H' Z') → ∀ H' Z', SR P w H0 Z0 g σ H' Z' → Same Z Z' → K' a g H' Z') : Po P w W cls σ H0 Z0 Z r K' := by
  cases r with
  | ok a g => exact hk a g h
  | exc c g => exact h
  | stuck => exact h
theorem Po.ofO {o : Option α} {g : Sg} {K : α → Sg → Hp → Hp → Prop} (h : Po P w W cls σ H0 Z0 Z (ofO o g) K) : ∃ a, o = some a ∧ ∀ H' Z', SR P w H0 Z0 g σ H' Z' → Same Z Z' → K a g H' Z' := by
  cases o with
  | none => exact h.elim
  | some a => exact ⟨a, rfl, h⟩
end

section
variable (P : Program) (w : World) (W : WX) (cls : Cls)
/-- a value, held somehow -/
def tE (f : Sg → Res (D × Md)) : TE := fun σ H Q => ∃ H0 Z0 g Z, SR P w H0 Z0 g σ H Z ∧ Po P w W cls σ H0 Z0 Z (f g) fun p g' H' Z' => ∀ v, Out P w H0 g' σ H' Z' v p.1 p.2 → Q v H'
/-- a value that is shared from now on -/
def tF (f : Sg → Res (D × Md)) : TE := fun σ H Q => ∃ H0 Z0 g Z, SR P w H0 Z0 g σ H Z ∧ Po P w W cls σ H0 Z0 Z (f g) fun p g' H' Z' => p.2 ≠ .on ∧ ∀ v, Rep Z' v p.1 → Q v H'
def OO (σ : St) (Z : Hp) (v : V) : Opn → Prop
  | .v d => Rep Z v d
  | .s i => σ[i]? = some (some v)
/-- an operand -/
def tO (f : Sg → Res Opn) : TE := fun σ H Q => ∃ H0 Z0 g Z, SR P w H0 Z0 g σ H Z ∧ Po P w W cls σ H0 Z0 Z (f g) fun o g' H' Z' => ∀ v, OO σ Z' v o → Q v H'
def tA (f : Sg → Res (List D)) : TA := fun σ H Q => ∃ H0 Z0 g Z, SR P w H0 Z0 g σ H Z ∧ Po P w W cls σ H0 Z0 Z (f g) fun ds g' H' Z' => ∀ vs, Reps Z' vs ds → Q vs H'
/-- a test -/
def tT (f : Sg → Res (D × Md)) : TT := fun σ H Q => ∃ H0 Z0 g Z, SR P w H0 Z0 g σ H Z ∧ Po P w W cls σ H0 Z0 Z (f g) fun p g' H' Z' => ∃ c, p.1 = .bool c ∧ Q c H'
/-- the iterator J yields ds, all of it shared -/
structure ItOk (Z : Hp) (J : It) (ds : List D) : Prop where
  item : ∀ i d H, ds[i]? = some d → Same Z H → J.go i H ∧ ∀ x H', J.yld i H x H' → H' = H ∧ Rep Z x d
  stop : ∀ i H, Same Z H → ds.length ≤ i → J.stop i H
def tI (f : Sg → Res (D × Md)) : TI := fun σ H R => ∃ H0 Z0 g Z, SR P w H0 Z0 g σ H Z ∧ Po P w W cls σ H0 Z0 Z (f g) fun p g' H' Z' => p.2 ≠ .on ∧ ∃ ds, itemsD p.1 = some ds ∧ ∀ J, ItOk Z' J ds → R J H'
end
theorem pe_to {X : Cx} {e : Expr} {t t' : TE} (h : PE X e t) (i : ∀ σ H Q, t' σ H Q → t σ H Q) : PE X e t' := ⟨fun pins s σ H Q I q => h.run pins s σ H Q I (i σ H Q q)⟩
theorem pt_to {X : Cx} {e : Expr} {t t' : TT} (h : PT X e t) (i : ∀ σ H Q, t' σ H Q → t σ H Q) : PT X e t' := ⟨fun pins s σ H Q I q => h.run pins s σ H Q I (i σ H Q q)⟩
theorem pw_to {X : Cx} {e : Expr} {t t' : TT} (h : PW X e t) (i : ∀ σ H Q, t' σ H Q → t σ H Q) : PW X e t' := ⟨fun wh pins s σ H Q I q => h.run wh pins s σ H Q I (i σ H Q q)⟩
theorem pa_to {X : Cx} {es : List Expr} {t t' : TA} (h : PA X es t) (i : ∀ σ H Q, t' σ H Q → t σ H Q) : PA X es t' := ⟨fun pos pins s σ H Q I q => h.run pos pins s σ H Q I (i σ H Q q)⟩
theorem pi_to {X : Cx} {tg e : Expr} {t t' : TI} (h : PI X tg e t) (i : ∀ σ H Q, t' σ H Q → t σ H Q) : PI X tg e t' := ⟨fun pins s σ H R I q => h.run pins s σ H R I (i σ H R q)⟩
theorem po_to {X : Cx} {o : Option Expr} {t t' : TO} (h : PO X o t) (i : ∀ σ H Q, t' σ H Q → t σ H Q) : PO X o t' := ⟨fun pins s σ H Q I q => h.run pins s σ H Q I (i σ H Q q)⟩

/-- the heap without what the walker at p has for itself -/
def del (H : Hp) (p l : Addr) : Hp := fun b => if b = p ∨ b = l then none else H b
/-- what a method's run by values promises -/
def spM (P : Program) (w : World) (C : Orc) (f : Str) : Sp := fun vs H Q _ => ∃ Z p l t ts us ds, vs = .ref p :: us ∧ Same Z H ∧ WS H Z p l t ts ∧ Reps Z us ds ∧ match metD (C f (.tuple [t, .list ts] :: ds)) with
  | some (r, st) => ∀ v H' Z' l' t' ts', st = [t', .list ts'] → Tr (del H p l) Z H' Z' → del H p l l' = none → WS H' Z' p l' t' ts' → Rep Z' v r → Q v H'
  | none => False
/-- what __init__ promises -/
def spInit : Sp := fun vs H Q _ => ∃ p dx tv, vs = [.ref p, tv] ∧ H p = some (.ins Cfg.wc dx []) ∧ ∀ l H', H l = none → H' p = some (.ins Cfg.wc dx [("term", tv), ("taken", .ref l)]) → H' l = some (.lst []) → (∀ b u, H b = some u → b ≠ p → H' b = some u) → Q .non H'
/-- the class Walker -/
structure WK (P : Program) (w : World) (K : PySem.W.Frag) (mg : Str → Option Value) (base : Heap) : Prop where
  cl : L2.Cls K Cfg.wc
  n1 : NoAttr K Cfg.wc "term"
  n2 : NoAttr K Cfg.wc "taken"
  mgW : mg "Walker" = some (.ref Cfg.wc)
  mkW : ∃ fI fd, Mk K Cfg.wc fI ∧ FnOk P w K mg base (L2.CX P w) 1 fI fd ["self", "term"] spInit ∧ Binds K fd ["self", "term"] []
/-- what a def's run by values promises -/
def spD (P : Program) (w : World) (C : Orc) (cls : Cls) (f : Str) : Sp := fun vs H Q E => ∃ Z ds, Same Z H ∧ Reps Z vs ds ∧ match C f ds with
  | .ok d m => m ≠ .on ∧ ∀ v H' Z', Tr H Z H' Z' → Hold P w H' Z' v d m → (∀ p, v = .ref p → m ≠ .fr → H p = none) → Q v H'
  | .exc c => ∀ H', Same H H' → E (cls c) none H'
  | .stuck => False
def biNames : List Str := ["len", "list", "tuple", "sorted", "set", "dict", "min", "max", "int", "isinstance", "zip", "range", "reversed", "bool", "str", "ValueError"]
/-- what the module's names are -/
structure FT (P : Program) (w : World) (K : PySem.W.Frag) (mg : Str → Option Value) (base : Heap) (k : Nat) (GL : Str → Option D) (C : Orc) (cls : Cls) (FN : List Str) : Prop where
  gl : ∀ x i, GL x = some (.int i) → ∃ t, mg x = some (.int i t)
  gd : ∀ x es, GL x = some (.dict es) → ∃ d a n, GDict w K mg x es d a n
  cl : ∀ c ∈ cls.on, ∃ C, ClsAt K mg cls c C
  em : ∀ c ∈ cls.on, ∀ d ∈ cls.on, PySem.W.exmOne K (cls c) (cls d) = some (subC c d)
  fn : ∀ f, fnB FN f = true → ∃ fa fd ps, mg f = some (.ref fa) ∧ PySem.W.keepIn K (.ref fa) = true ∧ FnOk P w K mg base (L2.CX P w) k fa fd ps (spD P w C cls f) ∧ Binds K fd ps []
  bi : ∀ x ∈ biNames, mg x = none
  wk : hasM FN = true → WK P w K mg base
  ini : ∀ ds d m, C "Walker.__init__" ds = .ok d m → 2 ≤ k
  mt : ∀ x m, mths.lookup x = some m → FN.contains m = true → ∃ fa fd ps, Meth K Cfg.wc x fa ∧ FnOk P w K mg base (L2.CX P w) k fa fd ps (spM P w C m) ∧ Binds K fd ps []
structure SC (X : Cx) (FN N : List Str) (sc : Scope) (k : Nat) (GL : Str → Option D) (C : Orc) (cls : Cls) : Prop where
  hN : X.N = N
  nd : N.Nodup
  sc : X.env.scope = sc
  calm : X.calm = true
  room : Room k X.A
  ft : FT X.prog X.w X.K X.mg X.base k GL C cls FN

section
variable {X : Cx} {W : WX} {cls : Cls} {FN N : List Str} {sc : Scope} {k : Nat} {GL : Str → Option D} {C : Orc}
theorem SC.gl (S : SC X FN N sc k GL C cls) {x : Str} (h : gloB sc x = true) : Gl X x := by
  show X.env.scope.names.lookup x = some .globalImplicit
  rw [S.sc]; exact (glo_of h).1
theorem SC.bi (S : SC X FN N sc k GL C cls) {x : Str} (h : x ∈ biNames := by decide) : X.mg x = none := S.ft.bi x h
end

section
variable {P : Program} {w : World} {H0 Z0 H Z : Hp} {g : Sg} {σ : St} {v : V} {d : D} {m : Md} {vs : List V} {ds : List D} {Q : VK}
theorem OO.up {Z' : Hp} {o : Opn} (h : OO σ Z v o) (zz : Same Z Z') : OO σ Z' v o := by
  cases o with
  | v d => exact Rep.up h zz
  | s i => exact h
theorem isObj_no {d : D} {m : Md} (h : isObj (d, m) = false) : NoOb d m := fun xs e em => by subst e em; cases h
theorem OO.get2 {o : Opn} (h : OO σ Z v o) (sr : SR P w H0 Z0 g σ H Z) (e : o.get g = some (d, m)) : Hold P w H Z v d m ∧ NoOb d m := by
  cases o with
  | v d' => cases e; exact ⟨.fr h, noOb_of (by decide)⟩
  | s i =>
    unfold Opn.get at e
    simp only at e
    split at e
    · rename_i p q
      split at e
      · cases e
      · rename_i hob
        cases e
        obtain ⟨v', h1, h2⟩ := sr.sl i d m q
        have h' : σ[i]? = some (some v) := h
        rw [h'] at h1; cases h1
        exact ⟨h2, isObj_no (by simpa using hob)⟩
    · cases e
theorem OO.get {o : Opn} (h : OO σ Z v o) (sr : SR P w H0 Z0 g σ H Z) (e : o.get g = some (d, m)) : Hold P w H Z v d m := (h.get2 sr e).1
/-- the ends of an operation: a value, a new list, a new tuple -/
theorem fin_val {K : D × Md → Sg → Hp → Hp → Prop} (sr : SR P w H0 Z0 g σ H Z) (hK : ∀ H' Z', SR P w H0 Z0 g σ H' Z' → Same Z Z' → ∀ v, Out P w H0 g σ H' Z' v d .fr → Q v H') (r : Rep Z v d) : Q v H :=
  hK H Z sr (Same.refl _) v (Out.fr r)
theorem own_new (sr : SR P w H0 Z0 g σ H Z) {p : Addr} {o : HO} (hp : H p = none) (ho : ∀ C dx fs, o ≠ .ins C dx fs := by intro _ _ _ z; cases z) : ∀ b, Adr (upd H p o) (.ref p) m b → H0 b = none ∧ ∀ (j : Nat) (d' : D) (m' : Md) (v' : V), g[j]? = some (some (d', m')) → σ[j]? = some (some v') → ¬ Adr (upd H p o) v' m' b := by
  intro b a
  have := adr_own upd_same ho a
  subst this
  refine ⟨Same.free sr.keep hp, fun j d' m' v' e' hj a' => ?_⟩
  obtain ⟨v2, h1, h2⟩ := sr.sl j d' m' e'
  rw [hj] at h1; cases h1
  have s1 : Same H (upd H b o) := (Tr.laid sr.zh hp).hh
  obtain ⟨_, u, hu⟩ := h2.adr (h2.adr_tr s1 a')
  rw [hp] at hu; cases hu
/-- .. of a call's result -/
theorem own_res {H' Z' : Hp} (sr : SR P w H0 Z0 g σ H Z) (t : Tr H Z H' Z') (h : Hold P w H' Z' v d m) (hm : m ≠ .on) (hn : ∀ p, v = .ref p → m ≠ .fr → H p = none) : Out P w H0 g σ H' Z' v d m := by
  refine ⟨h, fun b a => ?_, noOb_of hm⟩
  have hb : v = .ref b := by
    rcases a.2 with e | ⟨p, e, l⟩
    · exact e
    · subst e
      cases h with
      | fr _ => exact absurd rfl a.1
      | owl z e _ => exact absurd l (obLst_one e (by intro _ _ _ z; cases z))
      | owd z e _ => exact absurd l (obLst_one e (by intro _ _ _ z; cases z))
      | on _ _ _ _ _ => exact absurd rfl hm
      | ob _ => exact absurd rfl hm
  have hp := hn b hb a.1
  refine ⟨Same.free sr.keep hp, fun j d' m' v' e' hj a' => ?_⟩
  obtain ⟨v2, h1, h2⟩ := sr.sl j d' m' e'
  rw [hj] at h1; cases h1
  obtain ⟨_, u, hu⟩ := h2.adr (h2.adr_tr t.hh a')
  rw [hp] at hu; cases hu
theorem fin_list (sr : SR P w H0 Z0 g σ H Z) (hK : ∀ H' Z', SR P w H0 Z0 g σ H' Z' → Same Z Z' → ∀ v, Out P w H0 g σ H' Z' v (.list ds) .ow → Q v H') (r : Reps Z vs ds) : ∀ p, H p = none → Q (.ref p) (upd H p (.lst vs)) := fun p hp => by
  refine hK _ Z (sr.tr (Tr.laid sr.zh hp)) (Same.refl _) _ ⟨.owl (zfree sr.zh hp) upd_same r, own_new sr hp, noOb_of (by decide)⟩
theorem fin_tup (sr : SR P w H0 Z0 g σ H Z) (hK : ∀ H' Z', SR P w H0 Z0 g σ H' Z' → Same Z Z' → ∀ v, Out P w H0 g σ H' Z' v (.tuple ds) .fr → Q v H') (r : Reps Z vs ds) : ∀ p, H p = none → Q (.ref p) (upd H p (.tup vs)) := fun p hp => by
  have t := Tr.laidZ (o := .tup vs) sr.zh hp
  exact hK _ _ (sr.tr t) t.zz _ (Out.fr (.tup upd_same (r.up t.zz)))
end

section
variable {X : Cx} {W : WX} {cls : Cls} {e : Expr} {f : Sg → Res (D × Md)}
/-- a value that is held somehow may be shared -/
theorem shared (h : PE X e (tE X.prog X.w W cls f)) : PE X e (tF X.prog X.w W cls f) := pe_to h fun σ H Q ⟨H0, Z0, g, Z, sr, po⟩ => by
  refine ⟨H0, Z0, g, Z, sr, po.map fun p g1 hk H1 Z1 sr1 zz v o => ?_⟩
  obtain ⟨Z2, z2, sr2, r⟩ := sr1.share o (hk H1 Z1 sr1 zz).1
  exact (hk H1 Z2 sr2 (zz.trans z2)).2 v r
theorem opnd {a : E} (hv : ∀ i, a ≠ .var i) (h : PE X e (tE X.prog X.w W cls f)) : PE X e (tO X.prog X.w W cls fun g => opn a (f g) g) := pe_to (shared h) fun σ H Q ⟨H0, Z0, g, Z, sr, po⟩ => by
  have e1 : opn a (f g) g = (f g).bd fun p g => if p.2 = Md.on then .stuck else .ok (.v p.1) g := by
    cases a <;> first | rfl | exact absurd rfl (hv _)
  dsimp only at po
  rw [e1] at po
  refine ⟨H0, Z0, g, Z, sr, po.bd.mono fun p g1 H1 Z1 sr1 zz q => ?_⟩
  by_cases c : p.2 = .on
  · rw [if_pos c] at q; exact q.elim
  · rw [if_neg c] at q
    exact ⟨c, fun v r => q H1 Z1 sr1 (Same.refl _) v r⟩
end

section
variable {X : Cx} {W : WX} {cls : Cls} {FN N : List Str} {sc : Scope} {k : Nat} {GL : Str → Option D} {C : Orc}
theorem s_opn {a : E} {pe : Expr} (S : SC X FN N sc k GL C cls) (hc : chk FN N a false sc pe = true) (h : PE X pe (tE X.prog X.w W cls (ev GL C a))) : PE X pe (tO X.prog X.w W cls fun g => opn a (ev GL C a g) g) := by
  by_cases hv : ∃ i, a = .var i
  · obtain ⟨i, rfl⟩ := hv
    unfold chk at hc
    split at hc
    · rename_i x pos
      simp only [Bool.and_eq_true, decide_eq_true_eq] at hc
      obtain ⟨⟨h1, h2⟩, h3⟩ := hc
      obtain ⟨h4, h5⟩ := okN_of h3
      refine pe_to (pe_var (by rw [S.hN]; exact h1) (by rw [S.sc]; exact vis_of h2) h4 h5) fun σ H Q ⟨H0, Z0, g, Z, sr, po⟩ => ?_
      dsimp only at po
      unfold opn at po
      simp only at po
      split at po
      · rename_i p q
        obtain ⟨d, m⟩ := p
        obtain ⟨v, hv, _⟩ := sr.sl i d m q
        exact ⟨v, hv, po H Z sr (Same.refl _) v hv⟩
      · exact po.elim
    · cases hc
  · exact opnd (fun i e => hv ⟨i, e⟩) h
theorem s_var {i : Nat} {pe : Expr} (S : SC X FN N sc k GL C cls) (hc : chk FN N (.var i) false sc pe = true) : PE X pe (tE X.prog X.w W cls (ev GL C (.var i))) := by
  unfold chk at hc
  split at hc
  · rename_i x pos
    simp only [Bool.and_eq_true, decide_eq_true_eq] at hc
    obtain ⟨⟨h1, h2⟩, h3⟩ := hc
    obtain ⟨h4, h5⟩ := okN_of h3
    refine pe_to (pe_var (by rw [S.hN]; exact h1) (by rw [S.sc]; exact vis_of h2) h4 h5) fun σ H Q ⟨H0, Z0, g, Z, sr, po⟩ => ?_
    unfold ev use at po
    split at po
    · rename_i d q
      obtain ⟨v, hv, h⟩ := sr.sl i d .fr q
      cases h with | fr r =>
      exact ⟨v, hv, po H Z sr (Same.refl _) v (Out.fr r)⟩
    · rename_i d q
      obtain ⟨v, Z', hv, zz, sr', r⟩ := sr.use q (by decide)
      exact ⟨v, hv, po H Z' sr' zz v (Out.fr r)⟩
    · exact po.elim
  · cases hc
end
end DL

set_option Elab.async false
set_option linter.all false
set_option maxRecDepth 100000
set_option maxHeartbeats 4000000
/-! D21: a tuple taken once, or not at all. -/
namespace DL
open PySem L2 PySem.Spec PyProof.Rows
theorem tuple_mulW0 (l : Addr) (items : Array Value) (n : Nat) (dd : Option Addr) (sl : Array (Option Value)) (x : Int) (u : Tok) (c0 : (decide (x < -(2 ^ 63)) || decide (x ≥ 2 ^ 63)) = false) (c1 : (items.isEmpty || x == 1) = false) (c2 : (decide (x ≤ 0) || items.isEmpty) = true) :
    Meets (Builtin.«tuple.__mul__» ⟨[.ref l, .int x u], []⟩) (fun _ R s => s.heap.get? l = some { cls := .type "tuple", dict := dd, data := .seq items n, slots := sl } ∧
      R (.ok (.ret (Value.ref s.heap.objs.size))) { s with heap := s.heap.push { cls := Value.type "tuple", data := Data.seq #[] }, toks := s.toks }) :=
  .of_wp fun prog w A R s h => by
    obtain ⟨hp, g, d, tk, os⟩ := s
    obtain ⟨hl, h⟩ := h
    have f1 := AutoSeq1.idx_int
    wp_walk using wpAny_loadPart' hl
    repeat (first
      | (refine wpAny_ite_false (decide_eq_false (by rw [c0]; exact Bool.false_ne_true)) ?_; wp_walk using wpAny_loadPart' hl)
      | (refine wpAny_ite_false (decide_eq_false (by rw [c1]; exact Bool.false_ne_true)) ?_; wp_walk using wpAny_loadPart' hl)
      | (refine wpAny_ite_true (decide_eq_true (by rw [c2])) ?_; wp_walk using wpAny_loadPart' hl))
    exact ⟨_, rfl, h⟩
theorem tuple_mulW1 (l : Addr) (items : Array Value) (n : Nat) (dd : Option Addr) (sl : Array (Option Value)) (x : Int) (u : Tok) (c0 : (decide (x < -(2 ^ 63)) || decide (x ≥ 2 ^ 63)) = false) (c1 : (items.isEmpty || x == 1) = true) :
    Meets (Builtin.«tuple.__mul__» ⟨[.ref l, .int x u], []⟩) (fun _ R s => s.heap.get? l = some { cls := .type "tuple", dict := dd, data := .seq items n, slots := sl } ∧
      R (.ok (.ret (Value.ref l))) s) :=
  .of_wp fun prog w A R s h => by
    obtain ⟨hp, g, d, tk, os⟩ := s
    obtain ⟨hl, h⟩ := h
    have f1 := AutoSeq1.idx_int
    wp_walk using wpAny_loadPart' hl
    repeat (first
      | (refine wpAny_ite_false (decide_eq_false (by rw [c0]; exact Bool.false_ne_true)) ?_; wp_walk using wpAny_loadPart' hl)
      | (refine wpAny_ite_true (decide_eq_true (by rw [c1])) ?_; wp_walk using wpAny_loadPart' hl))
    exact ⟨_, rfl, h⟩
section
variable {X : Cx}
def rRepT0 (K : PySem.W.Frag) : R2 := fun x y H Q => ∃ l xs, x = .ref l ∧ y = .int 0 ∧ SqT K H l xs ∧ xs ≠ [] ∧ ∀ p, H p = none → Q (.ref p) (upd H p (.tup []))
def rRepT1 (K : PySem.W.Frag) : R2 := fun x y H Q => ∃ l xs, x = .ref l ∧ y = .int 1 ∧ SqT K H l xs ∧ Q (.ref l) H
theorem op_repT0 : OpR X (binaryOp .Mult) (rRepT0 X.K) := by
  intro pins s σ H x y v u Q I rx ry h
  obtain ⟨l, xs, rfl, rfl, hT, hne, q⟩ := h
  cases rx
  obtain ⟨t, rfl⟩ := ry
  obtain ⟨its, r, ⟨⟨cls, dd, data, sl⟩, ho, hc, n, hd⟩, hs⟩ := I.tuple hT
  simp only at hc hd
  subst hc hd
  have hle : its.length = xs.length := r.length.symm
  have hn : its ≠ [] := fun e => hne (by
    rw [e] at hle
    exact List.eq_nil_of_length_eq_zero hle.symm)
  have hi : its.toArray.isEmpty = false := by
    cases its with
    | nil => exact absurd rfl hn
    | cons a b => rfl
  refine wpAny_binaryOp_repeat_ref (T := "tuple") (U := "int") (by decide) ⟨_, ho, rfl⟩ (fun s' => typeIs_int s' 0 t) noFill_tuple_mul F.fills_int_mul F.slot_int_rmul repeat_tuple F.slot_int_index.lookup
    (call_meets F.slot_int_rmul (typeIs_int s 0 t) F.entry_int_rmul (F.args_int_rmul_2 _ _) (int_rmul_tuple 0 t l its.toArray n dd sl)
      ⟨ho, rfl, ⟨_, ho, rfl⟩, call_meets F.slot_tuple_mul ⟨_, ho, rfl⟩ F.entry_tuple_mul (F.args_tuple_mul_2 _ _) (tuple_mulW0 l its.toArray n dd sl 0 t (by decide) (by rw [hi]; rfl) (by rw [hi]; rfl)) ⟨ho, ?_⟩⟩)
  refine ⟨.ref s.heap.objs.size, _, I.laid (t' := s.toks) (o := .tup []) (fun b ob q => Heap.get?_push_of_some _ q) (Nat.le_refl _) ?_, rfl, q _ (I.hok.fresh (Nat.le_refl _))⟩
  exact ⟨by simp, [], .nil, IsTup.new _ _⟩
theorem op_repT1 : OpR X (binaryOp .Mult) (rRepT1 X.K) := by
  intro pins s σ H x y v u Q I rx ry h
  obtain ⟨l, xs, rfl, rfl, hT, q⟩ := h
  cases rx
  obtain ⟨t, rfl⟩ := ry
  obtain ⟨its, r, ⟨⟨cls, dd, data, sl⟩, ho, hc, n, hd⟩, hs⟩ := I.tuple hT
  simp only at hc hd
  subst hc hd
  exact wpAny_binaryOp_repeat_ref (T := "tuple") (U := "int") (by decide) ⟨_, ho, rfl⟩ (fun s' => typeIs_int s' 1 t) noFill_tuple_mul F.fills_int_mul F.slot_int_rmul repeat_tuple F.slot_int_index.lookup
    (call_meets F.slot_int_rmul (typeIs_int s 1 t) F.entry_int_rmul (F.args_int_rmul_2 _ _) (int_rmul_tuple 1 t l its.toArray n dd sl)
      ⟨ho, rfl, ⟨_, ho, rfl⟩, call_meets F.slot_tuple_mul ⟨_, ho, rfl⟩ F.entry_tuple_mul (F.args_tuple_mul_2 _ _) (tuple_mulW1 l its.toArray n dd sl 1 t (by decide) (by simp)) ⟨ho, .ref l, H, I, rfl, q⟩⟩)
end
end DL

set_option Elab.async false
set_option linter.all false
set_option maxRecDepth 100000
/-! D5: each kind of expression. -/
namespace DL
open PySem L2 PySem.Spec PyProof.Rows
variable [Cfg] [Fix]

/-! ### a few more operators of the layer -/
section
variable {X : Cx}
theorem rd_lst {pins : List (Addr × Obj)} {s : Shared} {σ : L2.St} {H : Hp} {l : Addr} {xs : List V} (I : Inv X pins σ H s) (h : Rd H l (.lst xs)) :
    xs.length ≤ sizeLine ∧ ∃ (its : List Value) (n : Nat), Vals xs its ∧ xs.length = its.length ∧ s.heap.get? l = some { cls := .type "list", data := .seq its.toArray n } := by
  obtain ⟨z, its, n, r, e⟩ := h.ok I.hok
  exact ⟨z, its, n, r, r.length, e⟩
def rCatR : R2 := fun x y H Q => ∃ l b xs zs, x = .ref l ∧ y = .ref b ∧ Rd H l (.lst xs) ∧ Rd H b (.lst zs) ∧ xs.length + zs.length ≤ sizeLine ∧ ∀ p, H p = none → Q (.ref p) (upd H p (.lst (xs ++ zs)))
theorem op_catR : OpR X (binaryOp .Add) rCatR := fun pins s σ H x y v u Q I rx ry h => by
  obtain ⟨l, b, xs, zs, rfl, rfl, h1, h2, hz, q⟩ := h
  cases rx; cases ry
  obtain ⟨_, is, n, r, hl, e⟩ := rd_lst I h1
  obtain ⟨_, js, n2, r2, hl2, e2⟩ := rd_lst I h2
  refine PySem.P.add_list e e2 ?_ (by simp only [List.size_toArray]; omega)
  have ea : is.toArray ++ js.toArray = (is ++ js).toArray := List.append_toArray ..
  rw [ea]
  exact ⟨.ref _, _, I.lnew (t' := s.toks) (Vals.append r r2) (by simp only [List.length_append]; exact hz), rfl, q _ I.fresh⟩
def rRepR : R2 := fun x y H Q => ∃ l k xs, x = .ref l ∧ y = .int k ∧ Rd H l (.lst xs) ∧ 0 ≤ k ∧ k ≤ 1000 ∧ xs.length ≤ 1000 ∧ ∀ p, H p = none → Q (.ref p) (upd H p (.lst (List.replicate k.toNat xs).flatten))
theorem op_repR : OpR X (binaryOp .Mult) rRepR := fun pins s σ H x y v u Q I rx ry h => by
  obtain ⟨l, k, xs, rfl, rfl, h1, c0, c1, c2, q⟩ := h
  cases rx
  obtain ⟨t, rfl⟩ := ry
  obtain ⟨_, is, n, r, hl, e⟩ := rd_lst I h1
  have hm : xs.length * k.toNat ≤ 1000 * 1000 := Nat.mul_le_mul c2 (by omega)
  have z1 : is.toArray.size * k.toNat ≤ sizeLine := by
    simp only [List.size_toArray, ← hl]
    exact Nat.le_trans hm (by decide)
  have z2 : ¬ is.toArray.size * k.toNat > (2 ^ 63 - 1) / 8 := by
    have : (sizeLine : Nat) ≤ (2 ^ 63 - 1) / 8 := by decide
    omega
  have z3 : ¬ (!Builtin.List.listFitsIndex k) = true := by rw [fitsIndex_both (by omega) (by omega)]; decide
  have z4 : ¬ Builtin.List.listTooLong (is.toArray.size * k.toNat) = true := by rw [notLongL z1]; decide
  have z5 : ∀ m : Nat, List.foldl (fun a b => a ++ b) #[] (List.replicate m is.toArray) = (List.replicate m is).flatten.toArray := fun m => by
    have q := foldl_rep is m []
    rwa [List.nil_append] at q
  have z6 : List.foldl (fun a b => a ++ b) #[] (List.replicate (if is.toArray.isEmpty = true then 0 else k.toNat) is.toArray) = (List.replicate k.toNat is).flatten.toArray := by
    rw [z5]
    cases is with
    | nil => simp
    | cons a r' => simp
  have z7 : wpAny (model X.prog X.w) X.A (call (.builtin "list.__mul__") [.ref l, .int k t]) (EP X pins σ Q) X.xe s := call_meets F.slot_list_mul ⟨_, e, rfl⟩ F.entry_list_mul (F.args_list_mul_2 _ _) (AutoListH.list___mul___list_int_3 l is.toArray n k t z3 z2 z4)
    ⟨e, by
      rw [z6]
      exact ⟨.ref _, _, I.lnew (t' := s.toks) (r.rep k.toNat) (by rw [PyProof.Rows.lm_len_rep_flat, hl, Nat.mul_comm]; simpa using z1), rfl, q _ I.fresh⟩⟩
  exact wpAny_binaryOp_repeat_ref (T := "list") (U := "int") (by decide) ⟨_, e, rfl⟩ (fun s' => typeIs_int s' k t) noFill_list_mul F.fills_int_mul F.slot_int_rmul repeat_list
    F.slot_int_index.lookup (call_meets F.slot_int_rmul (typeIs_int s k t) F.entry_int_rmul (F.args_int_rmul_2 _ _) (int___rmul___int_list k t l is.toArray n) ⟨e, rfl, ⟨_, e, rfl⟩, z7⟩)
def rPowW : R2 := rI (fun i j => 0 ≤ j ∧ (Builtin.Int.intBits i : Int) * j ≤ 2 ^ 27) fun i j => .int (i ^ j.toNat)
theorem op_powW : OpR X (binaryOp .Pow) rPowW := opI fun _ _ _ _ _ _ _ hc q => pow_int hc.1 hc.2 q
def rExtR : V → List V → Hp → VK → Prop := fun x vs H Q => ∃ l b xs zs, x = .ref l ∧ vs = [.ref b] ∧ H l = some (.lst xs) ∧ Rd H b (.lst zs) ∧ xs.length + zs.length ≤ sizeLine ∧ Q .non (upd H l (.lst (xs ++ zs)))
theorem mt_extR : MtM X "list.extend" rExtR := fun pins s σ H x vs v us Q I rx rv h => by
  obtain ⟨l, b, xs, zs, rfl, rfl, h1, h2, hz, q⟩ := h
  cases rx
  obtain ⟨u, rfl, ru⟩ := rv.one
  cases ru
  obtain ⟨_, is, n, r, hl, e⟩ := I.lstM h1
  obtain ⟨_, js, n2, r2, hl2, e2⟩ := rd_lst I h2
  have hs : is.toArray.size + js.toArray.size ≤ sizeLine := by simp only [List.size_toArray]; omega
  have hlong : ¬ (!is.toArray.isEmpty && Builtin.List.listTooLong (is.toArray.size + js.toArray.size)) = true := by
    rw [notLongL hs, Bool.and_false]; decide
  refine call_meets F.slot_list_extend ⟨_, e, rfl⟩ F.entry_list_extend (F.args_list_extend_2 _ _)
    (AutoSeq1.list_extend_list_list_0 l is.toArray n b js.toArray n2 hlong (by simp only [List.size_toArray]; omega) (by omega)) ⟨e, e2, ?_⟩
  exact ⟨.non, _, I.lset (its' := is ++ js) h1 e (by simp) (Vals.append r r2) (by simp only [List.length_append]; exact hz), rfl, q⟩
/-- == of data that is 200 deep at most -/
def rEqW (K : PySem.W.Frag) : R2 := fun x y H Q => ∃ d e, Dp K H x d ∧ Dp K H y e ∧ eqOk d e = true ∧ Q (.bl (PyData.eqv d e)) H
def rNeW (K : PySem.W.Frag) : R2 := fun x y H Q => ∃ d e, Dp K H x d ∧ Dp K H y e ∧ eqOk d e = true ∧ Q (.bl (!PyData.eqv d e)) H
theorem eqOk_of {d e : D} (h : eqOk d e = true) : d.canLay0 = true ∧ e.canLay0 = true ∧ min d.depth e.depth ≤ 200 := by
  unfold eqOk at h
  simp only [Bool.and_eq_true, decide_eq_true_eq] at h
  exact ⟨h.1.1, h.1.2, h.2⟩
theorem op_eqW (hu : X.A.units + 200 < cLine) : OpR X (compareOp .Eq) (rEqW X.K) := fun pins s σ H x y v u Q I rx ry h => by
  obtain ⟨d, e, hd, he, ok, q⟩ := h
  obtain ⟨as, r1⟩ := Dp.reads I d x v hd rx
  obtain ⟨bs, r2⟩ := Dp.reads I e y u he ry
  obtain ⟨c1, c2, c3⟩ := eqOk_of ok
  exact SeqAt.compareEq_reads r1 r2 c1 c2 (by omega) ⟨.bl _, H, I, rfl, q⟩
theorem op_neW (hu : X.A.units + 200 < cLine) : OpR X (compareOp .NotEq) (rNeW X.K) := fun pins s σ H x y v u Q I rx ry h => by
  obtain ⟨d, e, hd, he, ok, q⟩ := h
  obtain ⟨as, r1⟩ := Dp.reads I d x v hd rx
  obtain ⟨bs, r2⟩ := Dp.reads I e y u he ry
  obtain ⟨c1, c2, c3⟩ := eqOk_of ok
  exact SeqAt.compareNe_reads r1 r2 c1 c2 (by omega) ⟨.bl _, H, I, rfl, q⟩
theorem room200 {k : Nat} {A : Around} (r : Room k A) : A.units + 200 < cLine := by have := r.un; omega
end

section
variable {X : Cx} {W : WX} {cls : Cls} {FN N : List Str} {sc : Scope} {k : Nat} {GL : Str → Option D} {C : Orc}
section
variable {l r : Expr} {pos : Pos} {fa fb : Sg → Res Opn} {r2 : R2}
/-- an operation of two operands, by what it does with them -/
theorem s_op2 {op : Operator} (ho : OpR X (binaryOp op) r2) (ha : PE X l (tO X.prog X.w W cls fa)) (hb : PE X r (tO X.prog X.w W cls fb)) (F : Opn → Opn → Sg → Option (D × Md))
    (hF : ∀ (H0 Z0 : Hp) (g : Sg) (σ : L2.St) (H Z : Hp) (x y : Opn) (v u : V) (d : D) (m : Md) (Q : VK), SR X.prog X.w H0 Z0 g σ H Z → OO σ Z v x → OO σ Z u y → F x y g = some (d, m) →
      (∀ H' Z', SR X.prog X.w H0 Z0 g σ H' Z' → Same Z Z' → ∀ v, Out X.prog X.w H0 g σ H' Z' v d m → Q v H') → r2 v u H Q) :
    PE X (.BinOp l op r pos) (tE X.prog X.w W cls fun g => (fa g).bd fun x g => (fb g).bd fun y g => ofO (F x y g) g) := pe_to (pe_op ho ha hb) fun σ H Q ⟨H0, Z0, g, Z, sr, po⟩ => by
  refine ⟨H0, Z0, g, Z, sr, po.bd.mono fun x g1 H1 Z1 sr1 zz1 po1 v ox => ⟨H0, Z0, g1, Z1, sr1, po1.bd.mono fun y g2 H2 Z2 sr2 zz2 po2 u oy => ?_⟩⟩
  obtain ⟨⟨d, m⟩, e, hk⟩ := po2.ofO
  exact hF H0 Z0 g2 σ H2 Z2 x y v u d m Q sr2 (ox.up zz2) oy e hk
theorem s_cmp2 {op : CmpOp} (ho : OpR X (compareOp op) r2) (ha : PE X l (tO X.prog X.w W cls fa)) (hb : PE X r (tO X.prog X.w W cls fb)) (hm : behindInMarks op r = false) (F : Opn → Opn → Sg → Option (D × Md))
    (hF : ∀ (H0 Z0 : Hp) (g : Sg) (σ : L2.St) (H Z : Hp) (x y : Opn) (v u : V) (d : D) (m : Md) (Q : VK), SR X.prog X.w H0 Z0 g σ H Z → OO σ Z v x → OO σ Z u y → F x y g = some (d, m) →
      (∀ H' Z', SR X.prog X.w H0 Z0 g σ H' Z' → Same Z Z' → ∀ v, Out X.prog X.w H0 g σ H' Z' v d m → Q v H') → r2 v u H Q) :
    PE X (.Compare l [op] [r] pos) (tE X.prog X.w W cls fun g => (fa g).bd fun x g => (fb g).bd fun y g => ofO (F x y g) g) := pe_to (pe_cmpR ho ha hb hm) fun σ H Q ⟨H0, Z0, g, Z, sr, po⟩ => by
  refine ⟨H0, Z0, g, Z, sr, po.bd.mono fun x g1 H1 Z1 sr1 zz1 po1 v ox => ⟨H0, Z0, g1, Z1, sr1, po1.bd.mono fun y g2 H2 Z2 sr2 zz2 po2 u oy => ?_⟩⟩
  obtain ⟨⟨d, m⟩, e, hk⟩ := po2.ofO
  exact hF H0 Z0 g2 σ H2 Z2 x y v u d m Q sr2 (ox.up zz2) oy e hk
/-- .. as a test -/
theorem s_tst2 {op : CmpOp} (ho : OpR X (compareOp op) r2) (ha : PE X l (tO X.prog X.w W cls fa)) (hb : PE X r (tO X.prog X.w W cls fb)) (hm : behindInMarks op r = false) (F : Opn → Opn → Sg → Option (D × Md))
    (hF : ∀ (H0 Z0 : Hp) (g : Sg) (σ : L2.St) (H Z : Hp) (x y : Opn) (v u : V) (d : D) (m : Md) (Q : VK), SR X.prog X.w H0 Z0 g σ H Z → OO σ Z v x → OO σ Z u y → F x y g = some (d, m) →
      (∀ H' Z', SR X.prog X.w H0 Z0 g σ H' Z' → Same Z Z' → ∀ v, Out X.prog X.w H0 g σ H' Z' v d m → Q v H') → r2 v u H Q) :
    PT X (.Compare l [op] [r] pos) (tT X.prog X.w W cls fun g => (fa g).bd fun x g => (fb g).bd fun y g => ofO (F x y g) g) := pt_to (pt_cmpR ho ha hb hm) fun σ H Q ⟨H0, Z0, g, Z, sr, po⟩ => by
  refine ⟨H0, Z0, g, Z, sr, po.bd.mono fun x g1 H1 Z1 sr1 zz1 po1 v ox => ⟨H0, Z0, g1, Z1, sr1, po1.bd.mono fun y g2 H2 Z2 sr2 zz2 po2 u oy => ?_⟩⟩
  obtain ⟨⟨d, m⟩, e, hk⟩ := po2.ofO
  refine hF H0 Z0 g2 σ H2 Z2 x y v u d m _ sr2 (ox.up zz2) oy e fun H' Z' sr' zz' v' ov => ?_
  obtain ⟨c, ec, q⟩ := hk H' Z' sr' zz'
  simp only at ec
  subst ec
  exact ⟨c, ov.hold.bool, q⟩
/-- what both operands hold -/
theorem two_of {H0 Z0 : Hp} {g : Sg} {σ : L2.St} {H Z : Hp} {x y : Opn} {v u : V} {β : Type} {G : D × Md → D × Md → Option β} {b : β} (sr : SR X.prog X.w H0 Z0 g σ H Z) (ox : OO σ Z v x) (oy : OO σ Z u y)
    (e : ((x.get g).bind fun d => (y.get g).bind fun e => G d e) = some b) : ∃ d m d' m', (Hold X.prog X.w H Z v d m ∧ NoOb d m) ∧ (Hold X.prog X.w H Z u d' m' ∧ NoOb d' m') ∧ G (d, m) (d', m') = some b := by
  cases q : x.get g with
  | none => rw [q] at e; cases e
  | some p =>
    rw [q] at e
    cases q2 : y.get g with
    | none => rw [q2] at e; cases e
    | some p' =>
      rw [q2] at e
      exact ⟨p.1, p.2, p'.1, p'.2, ox.get2 sr q, oy.get2 sr q2, e⟩
end

theorem bin_add {d e r : D} {m : Md} (h : binD .add d e = some (r, m)) : (∃ i j, d = .int i ∧ e = .int j ∧ r = .int (i + j) ∧ m = .fr) ∨
    (∃ xs ys, d = .list xs ∧ e = .list ys ∧ r = .list (xs ++ ys) ∧ m = .ow ∧ xs.length + ys.length ≤ sizeLine) ∨
    (∃ xs ys, d = .tuple xs ∧ e = .tuple ys ∧ r = .tuple (xs ++ ys) ∧ m = .fr ∧ xs.length + ys.length ≤ sizeLine) := by
  unfold binD at h
  split at h <;> first
    | contradiction
    | (cases h; exact .inl ⟨_, _, rfl, rfl, rfl, rfl⟩)
    | (split at h <;> first | (cases h; exact .inr (.inl ⟨_, _, rfl, rfl, rfl, rfl, by assumption⟩)) | (cases h; exact .inr (.inr ⟨_, _, rfl, rfl, rfl, rfl, by assumption⟩)) | cases h)
    | contradiction
    | cases h
theorem bin_mul {d e r : D} {m : Md} (h : binD .mul d e = some (r, m)) : (∃ i j, d = .int i ∧ e = .int j ∧ r = .int (i * j) ∧ m = .fr ∧ mulOk i j = true) ∨
    (∃ xs k, d = .list xs ∧ e = .int k ∧ r = .list (List.replicate k.toNat xs).flatten ∧ m = .ow ∧ 0 ≤ k ∧ k ≤ 1000 ∧ xs.length ≤ 1000) ∨
    (∃ xs k, d = .tuple xs ∧ e = .int k ∧ r = .tuple (List.replicate k.toNat xs).flatten ∧ m = .fr ∧ 0 ≤ k ∧ k ≤ 1000 ∧ 0 < xs.length ∧ xs.length ≤ 1000) := by
  unfold binD at h
  split at h <;> first
    | contradiction
    | (split at h <;> first | (cases h; exact .inl ⟨_, _, rfl, rfl, rfl, rfl, by assumption⟩) | (cases h; exact .inr (.inl ⟨_, _, rfl, rfl, rfl, rfl, by assumption⟩)) | (cases h; exact .inr (.inr ⟨_, _, rfl, rfl, rfl, rfl, by assumption⟩)) | cases h)
    | contradiction
    | cases h
theorem bin_sub {d e r : D} {m : Md} (h : binD .sub d e = some (r, m)) : ∃ i j, d = .int i ∧ e = .int j ∧ r = .int (i - j) ∧ m = .fr := by
  unfold binD at h
  split at h <;> first
    | contradiction
    | (cases h; exact ⟨_, _, rfl, rfl, rfl, rfl⟩)
    | contradiction
    | cases h
theorem bin_fdiv {d e r : D} {m : Md} (h : binD .fdiv d e = some (r, m)) : ∃ i j, d = .int i ∧ e = .int j ∧ r = .int (i / j) ∧ m = .fr ∧ 0 < j ∧ j.natAbs.log2 < 9000 := by
  unfold binD at h
  split at h <;> first
    | contradiction
    | (split at h <;> first | (cases h; exact ⟨_, _, rfl, rfl, rfl, rfl, by assumption⟩) | cases h)
    | contradiction
    | cases h
theorem bin_mod {d e r : D} {m : Md} (h : binD .mod d e = some (r, m)) : ∃ i j, d = .int i ∧ e = .int j ∧ r = .int (i % j) ∧ m = .fr ∧ 0 < j := by
  unfold binD at h
  split at h <;> first
    | contradiction
    | (split at h <;> first | (cases h; exact ⟨_, _, rfl, rfl, rfl, rfl, by assumption⟩) | cases h)
    | contradiction
    | cases h
theorem bin_pow {d e r : D} {m : Md} (h : binD .pow d e = some (r, m)) : ∃ i j, d = .int i ∧ e = .int j ∧ r = .int (i ^ j.toNat) ∧ m = .fr ∧ 0 ≤ j ∧ (Builtin.Int.intBits i : Int) * j ≤ 2 ^ 27 := by
  unfold binD at h
  split at h <;> first
    | contradiction
    | (split at h <;> first | (cases h; exact ⟨_, _, rfl, rfl, rfl, rfl, by assumption⟩) | cases h)
    | contradiction
    | cases h
theorem s_bin {o : B2} {a b : E} {l r : Expr} {op : Operator} {pos : Pos} (S : SC X FN N sc k GL C cls) (h1 : opB o op = true) (ha : PE X l (tO X.prog X.w W cls fun g => opn a (ev GL C a g) g)) (hb : PE X r (tO X.prog X.w W cls fun g => opn b (ev GL C b g) g)) :
    PE X (.BinOp l op r pos) (tE X.prog X.w W cls (ev GL C (.bin o a b))) := by
  have e : ev GL C (.bin o a b) = fun g => (opn a (ev GL C a g) g).bd fun x g => (opn b (ev GL C b g) g).bd fun y g => ofO ((x.get g).bind fun d => (y.get g).bind fun e => binD o d.1 e.1) g := by
    funext g; rw [ev]
  rw [e]
  cases o <;> cases op <;> first | cases h1 | skip
  · refine s_op2 (op_add.or (op_catR.or op_catA)) ha hb _ fun H0 Z0 g σ H Z x y v u d m Q sr ox oy e hk => ?_
    obtain ⟨d1, m1, d2, m2, ⟨h1, n1⟩, ⟨h2, n2⟩, e⟩ := two_of sr ox oy e
    rcases bin_add e with ⟨i, j, rfl, rfl, rfl, rfl⟩ | ⟨xs, ys, rfl, rfl, rfl, rfl, hz⟩ | ⟨xs, ys, rfl, rfl, rfl, rfl, hz⟩
    · exact .inl ⟨_, _, h1.int, h2.int, fin_val (K := fun _ _ _ _ => True) sr hk (.int _)⟩
    · obtain ⟨p, vs, rfl, r1, s1⟩ := h1.list sr.zh
      obtain ⟨q, ws, rfl, r2, s2⟩ := h2.list sr.zh
      exact .inr (.inl ⟨p, q, vs, ws, rfl, rfl, r1, r2, by rw [s1.length, s2.length]; exact hz, fin_list sr hk (s1.append s2)⟩)
    · obtain ⟨p, vs, rfl, r1, z1, s1⟩ := h1.tuple sr.zh n1
      obtain ⟨q, ws, rfl, r2, z2, s2⟩ := h2.tuple sr.zh n2
      refine .inr (.inr ⟨p, q, vs, ws, rfl, rfl, .of r1, .of r2, by rw [s1.length, s2.length]; exact hz, fun en => ?_, fun en en2 => ?_, fun _ _ => fin_tup sr hk (s1.append s2)⟩)
      · subst en
        cases s1
        exact fin_val (K := fun _ _ _ _ => True) sr hk (.tup z2 s2)
      · subst en2
        cases s2
        exact fin_val (K := fun _ _ _ _ => True) sr hk (by rw [List.append_nil]; exact .tup z1 s1)
  · refine s_op2 op_sub ha hb _ fun H0 Z0 g σ H Z x y v u d m Q sr ox oy e hk => ?_
    obtain ⟨d1, m1, d2, m2, ⟨h1, n1⟩, ⟨h2, n2⟩, e⟩ := two_of sr ox oy e
    obtain ⟨i, j, rfl, rfl, rfl, rfl⟩ := bin_sub e
    exact ⟨_, _, h1.int, h2.int, fin_val (K := fun _ _ _ _ => True) sr hk (.int _)⟩
  · refine s_op2 (op_mul.or (op_repR.or (op_repT0.or (op_repT1.or op_repT)))) ha hb _ fun H0 Z0 g σ H Z x y v u d m Q sr ox oy e hk => ?_
    obtain ⟨d1, m1, d2, m2, ⟨h1, n1⟩, ⟨h2, n2⟩, e⟩ := two_of sr ox oy e
    rcases bin_mul e with ⟨i, j, rfl, rfl, rfl, rfl, c⟩ | ⟨xs, j, rfl, rfl, rfl, rfl, c0, c1, c2⟩ | ⟨xs, j, rfl, rfl, rfl, rfl, c0, c1, c2, c3⟩
    · exact .inl ⟨_, _, h1.int, h2.int, mulOk_of c, fin_val (K := fun _ _ _ _ => True) sr hk (.int _)⟩
    · obtain ⟨p, vs, rfl, r1, s1⟩ := h1.list sr.zh
      exact .inr (.inl ⟨p, j, vs, rfl, h2.int, r1, c0, c1, by rw [s1.length]; exact c2, fin_list sr hk (s1.rep _)⟩)
    · obtain ⟨p, vs, rfl, r1, z1, s1⟩ := h1.tuple sr.zh n1
      have hne : vs ≠ [] := fun z => by rw [z] at s1; rw [← s1.length] at c2; simp at c2
      by_cases j0 : j = 0
      · subst j0
        exact .inr (.inr (.inl ⟨p, vs, rfl, h2.int, .of r1, hne, fin_tup sr hk .nil⟩))
      · by_cases j1 : j = 1
        · subst j1
          have e1 : (List.replicate (1 : Int).toNat xs).flatten = xs := by simp
          rw [e1] at hk
          exact .inr (.inr (.inr (.inl ⟨p, vs, rfl, h2.int, .of r1, fin_val (K := fun _ _ _ _ => True) sr hk (.tup z1 s1)⟩)))
        · exact .inr (.inr (.inr (.inr ⟨p, j, vs, rfl, h2.int, .of r1, hne, by omega, c1, by rw [s1.length]; exact c3, fin_tup sr hk (s1.rep _)⟩)))
  · refine s_op2 op_fdivW ha hb _ fun H0 Z0 g σ H Z x y v u d m Q sr ox oy e hk => ?_
    obtain ⟨d1, m1, d2, m2, ⟨h1, n1⟩, ⟨h2, n2⟩, e⟩ := two_of sr ox oy e
    obtain ⟨i, j, rfl, rfl, rfl, rfl, c⟩ := bin_fdiv e
    exact ⟨_, _, h1.int, h2.int, c, fin_val (K := fun _ _ _ _ => True) sr hk (.int _)⟩
  · refine s_op2 op_mod ha hb _ fun H0 Z0 g σ H Z x y v u d m Q sr ox oy e hk => ?_
    obtain ⟨d1, m1, d2, m2, ⟨h1, n1⟩, ⟨h2, n2⟩, e⟩ := two_of sr ox oy e
    obtain ⟨i, j, rfl, rfl, rfl, rfl, c⟩ := bin_mod e
    exact ⟨_, _, h1.int, h2.int, c, fin_val (K := fun _ _ _ _ => True) sr hk (.int _)⟩
  · refine s_op2 op_powW ha hb _ fun H0 Z0 g σ H Z x y v u d m Q sr ox oy e hk => ?_
    obtain ⟨d1, m1, d2, m2, ⟨h1, n1⟩, ⟨h2, n2⟩, e⟩ := two_of sr ox oy e
    obtain ⟨i, j, rfl, rfl, rfl, rfl, c⟩ := bin_pow e
    exact ⟨_, _, h1.int, h2.int, c, fin_val (K := fun _ _ _ _ => True) sr hk (.int _)⟩
end
end DL

set_option Elab.async false
set_option linter.all false
set_option maxRecDepth 100000
/-! D6: comparisons. -/
namespace DL
open PySem L2 PySem.Spec PyProof.Rows
variable [Cfg] [Fix]

section
variable {Z : Hp}
theorem int_key {d : D} (h : isInt d = true) : ∃ i, d = .int i := by
  cases d <;> first | exact ⟨_, rfl⟩ | cases h
theorem repks_has {kvs : List (Key × V)} {es : List (D × D)} (r : RepKs Z kvs es) (i : Int) : (valV kvs (.inl i)).isSome = hasKey es (.int i) := by
  induction kvs generalizing es with
  | nil => cases r; rfl
  | cons kv kvs ih =>
    cases r with
    | @cons k v d _ es' rv r =>
      have e := ih r
      unfold hasKey at e ⊢
      simp only [List.any_cons]
      by_cases hk : k = i
      · subst hk
        simp [valV, PyData.eqv]
      · have h1 : PyData.eqv (.int k) (.int i) = false := by simp [PyData.eqv, hk]
        rw [h1, Bool.false_or, ← e]
        simp [valV, hk]
theorem cmp_eq {d e : D} {m : Md} {c : Bool} (h : cmpD .eq d e m = some c) : eqOk d e = true ∧ c = PyData.eqv d e := by
  simp only [cmpD] at h
  split at h
  · cases h; exact ⟨by assumption, rfl⟩
  · cases h
theorem cmp_ne {d e : D} {m : Md} {c : Bool} (h : cmpD .ne d e m = some c) : eqOk d e = true ∧ c = !PyData.eqv d e := by
  simp only [cmpD] at h
  split at h
  · cases h; exact ⟨by assumption, rfl⟩
  · cases h
theorem lts_of {d e : D} {c : Bool} (h : ltS d e = some c) : (∃ i j, d = .int i ∧ e = .int j ∧ c = decide (i < j)) ∨ (∃ x y : Str, d = .str x ∧ e = .str y ∧ c = decide (x.cps.toList < y.cps.toList)) := by
  unfold ltS at h
  split at h
  · cases h; exact .inl ⟨_, _, rfl, rfl, rfl⟩
  · cases h; exact .inr ⟨_, _, rfl, rfl, rfl⟩
  · cases h
theorem orO_of {a b : Option Bool} {c : Bool} (h : orO a b = some c) : a = some c ∨ b = some c := by
  cases a with
  | none => exact .inr h
  | some x => exact .inl h
theorem plainD_of {d : D} (h : plainD d = true) : keyOk d = true ∧ d.canLay0 = true ∧ d.depth ≤ 90 := by
  unfold plainD at h
  simp only [Bool.and_eq_true, decide_eq_true_eq] at h
  exact ⟨h.1.1, h.1.2, h.2⟩
theorem ltT_of {d e : D} {c : Bool} (h : ltT d e = some c) : plainD d = true ∧ plainD e = true ∧ ltD d e = some c := by
  unfold ltT at h
  split at h
  · split at h
    · rename_i q
      rw [Bool.and_eq_true] at q
      exact ⟨q.1, q.2, by rw [ltD]; exact h⟩
    · cases h
  · cases h
theorem ltL_of {d e : D} {c : Bool} (h : ltL d e = some c) : ∃ xs ys, d = .list xs ∧ e = .list ys ∧ (∀ x ∈ xs, plainD x = true) ∧ (∀ y ∈ ys, plainD y = true) ∧ (∀ (j : Nat) (x y : D), xs[j]? = some x → ys[j]? = some y → (ltD x y).isSome = true) ∧ ltD.ltAll xs ys = some c := by
  unfold ltL at h
  split at h
  · split at h
    · rename_i xs ys q
      simp only [Bool.and_eq_true, List.all_eq_true] at q
      refine ⟨xs, ys, rfl, rfl, q.1.1, q.1.2, fun j x y hx hy => ?_, h⟩
      exact q.2 (x, y) (List.mem_of_getElem? (i := j) (by rw [List.getElem?_zip_eq_some]; exact ⟨hx, hy⟩))
    · cases h
  · cases h
theorem in_of {d e : D} {m : Md} {c : Bool} (h : cmpD.inD d e m = some c) : (∃ xs, e = .list xs ∧ SeqAt.shaped d = true ∧ SeqAt.shaped (.list xs) = true ∧ c = xs.any fun z => PyData.eqv z d) ∨
    (∃ kvs i, e = .dict kvs ∧ m ≠ .on ∧ d = .int i ∧ c = hasKey kvs d) := by
  unfold cmpD.inD at h
  split at h
  · split at h
    · rename_i q
      simp only [Bool.and_eq_true] at q
      cases h; exact .inl ⟨_, rfl, q.1, q.2, rfl⟩
    · cases h
  · split at h
    · cases h
    · split at h
      · rename_i hm q
        obtain ⟨i, rfl⟩ := int_key q
        cases h; exact .inr ⟨_, i, rfl, fun z => by subst z; exact hm rfl, rfl, rfl⟩
      · cases h
  · cases h
end
section
variable {X : Cx}
theorem op_dIn (hu : X.A.units + 1 < cLine) : OpR X (compareOp .In) (fun x y H Q => ∃ a o, y = .ref a ∧ DGet H a x o ∧ Q (.bl o.isSome) H) := fun pins s σ H x y v u Q I rx ry h => by
  obtain ⟨a, o, rfl, g, q⟩ := h
  obtain rfl : u = Value.ref a := ry
  exact d_in hu I g rx fun s3 I3 => ⟨.bl o.isSome, H, I3, rfl, q⟩
theorem op_dNin (hu : X.A.units + 1 < cLine) : OpR X (compareOp .NotIn) (fun x y H Q => ∃ a o, y = .ref a ∧ DGet H a x o ∧ Q (.bl (!o.isSome)) H) := fun pins s σ H x y v u Q I rx ry h => by
  obtain ⟨a, o, rfl, g, q⟩ := h
  obtain rfl : u = Value.ref a := ry
  exact d_notIn hu I g rx fun s3 I3 => ⟨.bl (!o.isSome), H, I3, rfl, q⟩
theorem non_iff {P : Program} {w : World} {H Z : Hp} {v : V} {d : D} {m : Md} (h : Hold P w H Z v d m) : decide (v = .non) = isNoneD d := by
  cases h with
  | fr r => cases r <;> rfl
  | owl _ _ _ => rfl
  | owd _ _ _ => rfl
  | on _ _ _ _ _ => rfl
  | ob _ => rfl
theorem not_lt_le (i j : Int) : decide (i ≤ j) = !decide (j < i) := by
  by_cases h : j < i
  · have : ¬ i ≤ j := by omega
    simp [h, this]
  · have : i ≤ j := by omega
    simp [h, this]
end
section
variable {X : Cx} {W : WX} {cls : Cls} {FN N : List Str} {sc : Scope} {k : Nat} {GL : Str → Option D} {C : Orc}
/-- < of plain data (tuples), of lists of such -/
def rLtT (K : PySem.W.Frag) (sw ng : Bool) : R2 := fun x y H Q => ∃ d e c, Dp K H x d ∧ Dp K H y e ∧ plainD d = true ∧ plainD e = true ∧ (if sw = true then ltD e d else ltD d e) = some c ∧ Q (.bl (if ng = true then !c else c)) H
def rLtL (K : PySem.W.Frag) : R2 := fun x y H Q => ∃ xs ys c, Dp K H x (.list xs) ∧ Dp K H y (.list ys) ∧ (∀ x ∈ xs, plainD x = true) ∧ (∀ y ∈ ys, plainD y = true) ∧ (∀ (j : Nat) (x y : D), xs[j]? = some x → ys[j]? = some y → (ltD x y).isSome = true) ∧ ltD.ltAll xs ys = some c ∧ Q (.bl c) H
theorem lay_list {xs : List D} (h : ∀ x ∈ xs, plainD x = true) : (PyData.list xs).canLay0 = true := by
  simp only [PyData.canLay0]
  induction xs with
  | nil => simp [PyData.canLayAll0]
  | cons x r ih => simp only [PyData.canLayAll0, Bool.and_eq_true]; exact ⟨(plainD_of (h x List.mem_cons_self)).2.1, ih fun y hy => h y (List.mem_cons_of_mem _ hy)⟩
theorem op_ltT (hu : X.A.units + 200 < cLine) : OpR X (compareOp .Lt) (rLtT X.K false false) := fun pins s σ H x y v u Q I rx ry h => by
  obtain ⟨d, e, c, h1, h2, p1, p2, hc, q⟩ := h
  obtain ⟨as, r1⟩ := Dp.reads I d _ _ h1 rx
  obtain ⟨bs, r2⟩ := Dp.reads I e _ _ h2 ry
  have k1 := plainD_of p1
  have k2 := plainD_of p2
  exact lt_reads 90 d e c X.A s v u as bs k1.2.2 r1 r2 k1.2.1 k2.2.1 k1.1 k2.1 (by omega) hc X.prog X.w X.xe _ ⟨.bl c, H, I, rfl, q⟩
theorem op_gtT (hu : X.A.units + 200 < cLine) : OpR X (compareOp .Gt) (rLtT X.K true false) := fun pins s σ H x y v u Q I rx ry h => by
  obtain ⟨d, e, c, h1, h2, p1, p2, hc, q⟩ := h
  obtain ⟨as, r1⟩ := Dp.reads I d _ _ h1 rx
  obtain ⟨bs, r2⟩ := Dp.reads I e _ _ h2 ry
  have k1 := plainD_of p1
  have k2 := plainD_of p2
  exact gt_reads 90 d e c X.A s v u as bs k1.2.2 r1 r2 k1.2.1 k2.2.1 k1.1 k2.1 (by omega) hc X.prog X.w X.xe _ ⟨.bl c, H, I, rfl, q⟩
theorem op_leT1 (hu : X.A.units + 200 < cLine) : OpR X (compareOp .LtE) (rLtT X.K true true) := fun pins s σ H x y v u Q I rx ry h => by
  obtain ⟨d, e, c, h1, h2, p1, p2, hc, q⟩ := h
  obtain ⟨as, r1⟩ := Dp.reads I d _ _ h1 rx
  obtain ⟨bs, r2⟩ := Dp.reads I e _ _ h2 ry
  have k1 := plainD_of p1
  have k2 := plainD_of p2
  exact le_reads 90 d e c X.A s v u as bs k1.2.2 r1 r2 k1.2.1 k2.2.1 k1.1 k2.1 (by omega) hc X.prog X.w X.xe _ ⟨.bl (!c), H, I, rfl, q⟩
theorem op_ltL (hu : X.A.units + 200 < cLine) : OpR X (compareOp .Lt) (rLtL X.K) := fun pins s σ H x y v u Q I rx ry h => by
  obtain ⟨xs, ys, c, h1, h2, p1, p2, hj, hc, q⟩ := h
  obtain ⟨as, r1⟩ := Dp.reads I _ _ _ h1 rx
  obtain ⟨bs, r2⟩ := Dp.reads I _ _ _ h2 ry
  exact list_reads r1 r2 (fun x hx => plainD_of (p1 x hx)) (fun y hy => plainD_of (p2 y hy)) hj (by omega) hc X.prog X.w X.xe _ ⟨.bl c, H, I, rfl, q⟩
/-- the rules of the ten comparisons -/
def cR (K : PySem.W.Frag) : C2 → R2
  | .eq => rEqW K
  | .ne => rNeW K
  | .lt => fun x y H Q => (rI0 (fun i j => .bl (decide (i < j))) x y H Q ∨ ∃ i j, x = .str i ∧ y = .str j ∧ Q (.bl (decide (i.cps.toList < j.cps.toList))) H) ∨ (rLtT K false false x y H Q ∨ rLtL K x y H Q)
  | .gt => fun x y H Q => (rI0 (fun i j => .bl (decide (j < i))) x y H Q ∨ ∃ i j, x = .str i ∧ y = .str j ∧ Q (.bl (decide (j.cps.toList < i.cps.toList))) H) ∨ rLtT K true false x y H Q
  | .le => fun x y H Q => (rI0 (fun i j => .bl (decide (i ≤ j))) x y H Q ∨ ∃ i j, x = .str i ∧ y = .str j ∧ Q (.bl (!decide (j.cps.toList < i.cps.toList))) H) ∨ rLtT K true true x y H Q
  | .ge => fun x y H Q => rI0 (fun i j => .bl (decide (j ≤ i))) x y H Q ∨ ∃ i j, x = .str i ∧ y = .str j ∧ Q (.bl (!decide (i.cps.toList < j.cps.toList))) H
  | .isn => fun x y H Q => y = .non ∧ Q (.bl (decide (x = .non))) H
  | .notn => fun x y H Q => y = .non ∧ Q (.bl (!decide (x = .non))) H
  | .in_ => fun x y H Q => rInD K x y H Q ∨ ∃ a o, y = .ref a ∧ DGet H a x o ∧ Q (.bl o.isSome) H
  | .nin => fun x y H Q => rNotInD K x y H Q ∨ ∃ a o, y = .ref a ∧ DGet H a x o ∧ Q (.bl (!o.isSome)) H
theorem cR_ok {o : C2} {op : CmpOp} (h : opC o op = true) (hr : Room k X.A) : OpR X (compareOp op) (cR X.K o) := by
  have u1 := room200 hr
  cases o <;> cases op <;> first | cases h | skip
  · exact op_eqW u1
  · exact op_neW u1
  · exact (op_lt.or op_lt_str).or ((op_ltT u1).or (op_ltL u1))
  · exact (op_le.or op_le_str).or (op_leT1 u1)
  · exact (op_gt.or op_gt_str).or (op_gtT u1)
  · exact op_ge.or op_ge_str
  · exact op_isN
  · exact op_notN
  · exact (op_inD (by omega)).or (op_dIn (by omega))
  · exact (op_notInD (by omega)).or (op_dNin (by omega))
theorem cR_holds {P : Program} {w : World} {K : PySem.W.Frag} {o : C2} {H0 Z0 : Hp} {g : Sg} {σ : L2.St} {H Z : Hp} {v u : V} {d e : D} {m m' : Md} {c : Bool} {Q : VK} (sr : SR P w H0 Z0 g σ H Z)
    (h1 : Hold P w H Z v d m) (h2 : Hold P w H Z u e m') (n1 : NoOb d m) (n2 : NoOb e m') (hc : cmpD o d e m' = some c) (q : Q (.bl c) H) : cR K o v u H Q := by
  cases o with
  | eq =>
    obtain ⟨ok, rfl⟩ := cmp_eq hc
    obtain ⟨c1, c2, _⟩ := eqOk_of ok
    exact ⟨d, e, h1.dp sr.zh n1 c1, h2.dp sr.zh n2 c2, ok, q⟩
  | ne =>
    obtain ⟨ok, rfl⟩ := cmp_ne hc
    obtain ⟨c1, c2, _⟩ := eqOk_of ok
    exact ⟨d, e, h1.dp sr.zh n1 c1, h2.dp sr.zh n2 c2, ok, q⟩
  | lt =>
    rcases orO_of (show orO (ltS d e) (orO (ltT d e) (ltL d e)) = some c from hc) with hc | hc
    · rcases lts_of hc with ⟨i, j, rfl, rfl, rfl⟩ | ⟨i, j, rfl, rfl, rfl⟩
      · exact .inl (.inl ⟨i, j, h1.int, h2.int, q⟩)
      · exact .inl (.inr ⟨i, j, h1.str, h2.str, q⟩)
    · rcases orO_of hc with hc | hc
      · obtain ⟨p1, p2, p3⟩ := ltT_of hc
        exact .inr (.inl ⟨d, e, c, h1.dp sr.zh n1 (plainD_of p1).2.1, h2.dp sr.zh n2 (plainD_of p2).2.1, p1, p2, p3, q⟩)
      · obtain ⟨xs, ys, rfl, rfl, p1, p2, p3, p4⟩ := ltL_of hc
        exact .inr (.inr ⟨xs, ys, c, h1.dp sr.zh n1 (lay_list p1), h2.dp sr.zh n2 (lay_list p2), p1, p2, p3, p4, q⟩)
  | gt =>
    rcases orO_of (show orO (ltS e d) (ltT e d) = some c from hc) with hc | hc
    · rcases lts_of hc with ⟨i, j, rfl, rfl, rfl⟩ | ⟨i, j, rfl, rfl, rfl⟩
      · exact .inl (.inl ⟨j, i, h1.int, h2.int, q⟩)
      · exact .inl (.inr ⟨j, i, h1.str, h2.str, q⟩)
    · obtain ⟨p2, p1, p3⟩ := ltT_of hc
      exact .inr ⟨d, e, c, h1.dp sr.zh n1 (plainD_of p1).2.1, h2.dp sr.zh n2 (plainD_of p2).2.1, p1, p2, p3, q⟩
  | le =>
    have hc' : (orO (ltS e d) (ltT e d)).map (!·) = some c := hc
    rw [Option.map_eq_some_iff] at hc'
    obtain ⟨c', h', rfl⟩ := hc'
    rcases orO_of h' with hc | hc
    · rcases lts_of hc with ⟨i, j, rfl, rfl, rfl⟩ | ⟨i, j, rfl, rfl, rfl⟩
      · exact .inl (.inl ⟨j, i, h1.int, h2.int, by dsimp only; rw [not_lt_le]; exact q⟩)
      · exact .inl (.inr ⟨j, i, h1.str, h2.str, q⟩)
    · obtain ⟨p2, p1, p3⟩ := ltT_of hc
      exact .inr ⟨d, e, c', h1.dp sr.zh n1 (plainD_of p1).2.1, h2.dp sr.zh n2 (plainD_of p2).2.1, p1, p2, p3, q⟩
  | ge =>
    have hc' : (ltS d e).map (!·) = some c := hc
    rw [Option.map_eq_some_iff] at hc'
    obtain ⟨c', h', rfl⟩ := hc'
    rcases lts_of h' with ⟨i, j, rfl, rfl, rfl⟩ | ⟨i, j, rfl, rfl, rfl⟩
    · exact .inl ⟨i, j, h1.int, h2.int, by dsimp only; rw [not_lt_le]; exact q⟩
    · exact .inr ⟨i, j, h1.str, h2.str, q⟩
  | isn =>
    simp only [cmpD] at hc
    split at hc
    · cases hc
      exact ⟨h2.none, by rw [non_iff h1]; exact q⟩
    · cases hc
  | notn =>
    simp only [cmpD] at hc
    split at hc
    · cases hc
      exact ⟨h2.none, by rw [non_iff h1]; exact q⟩
    · cases hc
  | in_ =>
    rcases in_of (show cmpD.inD d e m' = some c from hc) with ⟨xs, rfl, s1, s2, rfl⟩ | ⟨kvs, i, rfl, hm, rfl, rfl⟩
    · exact .inl ⟨d, xs, h1.dp sr.zh n1 (SeqAt.canLay_of_shaped s1), h2.dp sr.zh n2 (SeqAt.canLay_of_shaped s2), s1, s2, q⟩
    · obtain ⟨a, ks, rfl, e1, r⟩ := h2.dict sr.zh hm
      rw [h1.int]
      exact .inr ⟨a, _, rfl, DGet.k (k := .inl i) e1, by rw [repks_has r]; exact q⟩
  | nin =>
    have hc' : (cmpD.inD d e m').map (!·) = some c := hc
    rw [Option.map_eq_some_iff] at hc'
    obtain ⟨c', h', rfl⟩ := hc'
    rcases in_of h' with ⟨xs, rfl, s1, s2, rfl⟩ | ⟨kvs, i, rfl, hm, rfl, rfl⟩
    · exact .inl ⟨d, xs, h1.dp sr.zh n1 (SeqAt.canLay_of_shaped s1), h2.dp sr.zh n2 (SeqAt.canLay_of_shaped s2), s1, s2, q⟩
    · obtain ⟨a, ks, rfl, e1, r⟩ := h2.dict sr.zh hm
      rw [h1.int]
      exact .inr ⟨a, _, rfl, DGet.k (k := .inl i) e1, by rw [repks_has r]; exact q⟩
theorem s_cmp {o : C2} {a b : E} {l r : Expr} {op : CmpOp} {pos : Pos} (S : SC X FN N sc k GL C cls) (h1 : opC o op = true) (hm : behindInMarks op r = false) (ha : PE X l (tO X.prog X.w W cls fun g => opn a (ev GL C a g) g)) (hb : PE X r (tO X.prog X.w W cls fun g => opn b (ev GL C b g) g)) :
    PE X (.Compare l [op] [r] pos) (tE X.prog X.w W cls (ev GL C (.cmp o a b))) ∧ PT X (.Compare l [op] [r] pos) (tT X.prog X.w W cls (ev GL C (.cmp o a b))) := by
  have e : ev GL C (.cmp o a b) = fun g => (opn a (ev GL C a g) g).bd fun x g => (opn b (ev GL C b g) g).bd fun y g => ofO ((x.get g).bind fun d => (y.get g).bind fun e => (cmpD o d.1 e.1 e.2).map fun c => (.bool c, .fr)) g := by
    funext g; rw [ev]
  rw [e]
  have key : ∀ (H0 Z0 : Hp) (g : Sg) (σ : L2.St) (H Z : Hp) (x y : Opn) (v u : V) (d : D) (m : Md) (Q : VK), SR X.prog X.w H0 Z0 g σ H Z → OO σ Z v x → OO σ Z u y →
      ((x.get g).bind fun d => (y.get g).bind fun e => (cmpD o d.1 e.1 e.2).map fun c => ((.bool c, .fr) : D × Md)) = some (d, m) →
      (∀ H' Z', SR X.prog X.w H0 Z0 g σ H' Z' → Same Z Z' → ∀ v, Out X.prog X.w H0 g σ H' Z' v d m → Q v H') → cR X.K o v u H Q := by
    intro H0 Z0 g σ H Z x y v u d m Q sr ox oy e hk
    obtain ⟨d1, m1, d2, m2, ⟨h1, n1⟩, ⟨h2, n2⟩, e⟩ := two_of sr ox oy e
    rw [Option.map_eq_some_iff] at e
    obtain ⟨c, hc, e⟩ := e
    cases e
    exact cR_holds sr h1 h2 n1 n2 hc (fin_val (K := fun _ _ _ _ => True) sr hk (.bl c))
  exact ⟨s_cmp2 (cR_ok h1 S.room) ha hb hm _ key, s_tst2 (cR_ok h1 S.room) ha hb hm _ key⟩
end
end DL

set_option Elab.async false
set_option linter.all false
set_option maxRecDepth 100000
/-! D7: displays, and, or, not, conditional expressions, subscripts, slices, calls, built-ins, methods of lists. -/
namespace DL
open PySem L2 PySem.Spec PyProof.Rows
variable [Cfg] [Fix]

section
variable {X : Cx} {W : WX} {cls : Cls} {FN N : List Str} {sc : Scope} {k : Nat} {GL : Str → Option D} {C : Orc} {pos : Pos}
theorem pe_or' {e : Expr} {t t' : TE} (h : PE X e t) (h' : PE X e t') : PE X e (fun σ H Q => t σ H Q ∨ t' σ H Q) := ⟨fun pins s σ H Q I q => q.elim (h.run pins s σ H Q I) (h'.run pins s σ H Q I)⟩
theorem CallR.or' {f : Value} {r r' : List V → Hp → VK → Prop} (h : CallR X f r) (h' : CallR X f r') : CallR X f (fun x H Q => r x H Q ∨ r' x H Q) := fun pins s σ H vs us Q I rv q => q.elim (h pins s σ H vs us Q I rv) (h' pins s σ H vs us Q I rv)

/-! ### lists of expressions -/
theorem s_nil : PA X [] (tA X.prog X.w W cls (evs GL C .nil)) := pa_to pa_nil fun σ H Q ⟨H0, Z0, g, Z, sr, po⟩ => by
  rw [evs] at po
  exact po H Z sr (Same.refl _) [] .nil
theorem s_cons {a r : E} {e : Expr} {es : List Expr} (hs : isStar e = false) (ha : PE X e (tE X.prog X.w W cls (ev GL C a))) (hr : PA X es (tA X.prog X.w W cls (evs GL C r))) : PA X (e :: es) (tA X.prog X.w W cls (evs GL C (.cons a r))) :=
  pa_to (pa_cons (shared ha) hr (star_no hs)) fun σ H Q ⟨H0, Z0, g, Z, sr, po⟩ => by
    rw [evs] at po
    refine ⟨H0, Z0, g, Z, sr, po.bd.mono fun p g1 H1 Z1 sr1 zz po1 => ?_⟩
    by_cases c : p.2 = .on
    · rw [if_pos c] at po1; exact po1.elim
    · rw [if_neg c] at po1
      exact ⟨c, fun v rv => ⟨H0, Z0, g1, Z1, sr1, po1.bd.mono fun ds g2 H2 Z2 sr2 zz2 hk vs rs => hk H2 Z2 sr2 (Same.refl _) (v :: vs) (.cons (rv.up zz2) rs)⟩⟩
theorem s_tup {es : E} {elts : List Expr} {n : Nat} (h : PA X elts (tA X.prog X.w W cls (evs GL C es))) : PE X (.Tuple elts n pos) (tE X.prog X.w W cls (ev GL C (.tup es))) := pe_to (pe_tup h) fun σ H Q ⟨H0, Z0, g, Z, sr, po⟩ => by
  rw [ev] at po
  refine ⟨H0, Z0, g, Z, sr, po.bd.mono fun ds g1 H1 Z1 sr1 zz po1 vs rs => ?_⟩
  split at po1
  · exact ⟨by rw [rs.length]; assumption, fin_tup sr1 po1 rs⟩
  · exact po1.elim
theorem s_lst {es : E} {elts : List Expr} (h : PA X elts (tA X.prog X.w W cls (evs GL C es))) : PE X (.List elts pos) (tE X.prog X.w W cls (ev GL C (.lst es))) := pe_to (pe_lst h) fun σ H Q ⟨H0, Z0, g, Z, sr, po⟩ => by
  rw [ev] at po
  refine ⟨H0, Z0, g, Z, sr, po.bd.mono fun ds g1 H1 Z1 sr1 zz po1 vs rs => ?_⟩
  split at po1
  · exact ⟨by rw [rs.length]; assumption, fin_list sr1 po1 rs⟩
  · exact po1.elim

/-! ### constants -/
theorem s_int {i : Int} {n : Nat} : PE X (.Constant (.int i) n pos) (tE X.prog X.w W cls (ev GL C (.int i))) := pe_to pe_int fun σ H Q ⟨H0, Z0, g, Z, sr, po⟩ => by
  rw [ev] at po; exact po H Z sr (Same.refl _) _ (Out.fr (.int i))
theorem s_neg {i : Int} {n : Nat} {p : Pos} : PE X (.UnaryOp .USub (.Constant (.int i) n p) pos) (tE X.prog X.w W cls (ev GL C (.int (-i)))) := pe_to (pe_un un_neg pe_int) fun σ H Q ⟨H0, Z0, g, Z, sr, po⟩ => by
  rw [ev] at po; exact ⟨i, rfl, po H Z sr (Same.refl _) _ (Out.fr (.int (-i)))⟩
theorem s_str {x : Str} {n : Nat} : PE X (.Constant (.str x) n pos) (tE X.prog X.w W cls (ev GL C (.str x))) := pe_to pe_str fun σ H Q ⟨H0, Z0, g, Z, sr, po⟩ => by
  rw [ev] at po; exact po H Z sr (Same.refl _) _ (Out.fr (.str x))
theorem s_bl {b : Bool} {n : Nat} : PE X (.Constant (.bool b) n pos) (tE X.prog X.w W cls (ev GL C (.bl b))) := pe_to pe_bl fun σ H Q ⟨H0, Z0, g, Z, sr, po⟩ => by
  rw [ev] at po; exact po H Z sr (Same.refl _) _ (Out.fr (.bl b))
theorem s_non {n : Nat} : PE X (.Constant .none n pos) (tE X.prog X.w W cls (ev GL C .non)) := pe_to pe_non fun σ H Q ⟨H0, Z0, g, Z, sr, po⟩ => by
  rw [ev] at po; exact po H Z sr (Same.refl _) _ (Out.fr .non)
theorem s_glob {x : Str} (S : SC X FN N sc k GL C cls) (h : gloB sc x = true) : PE X (.Name x pos) (tE X.prog X.w W cls (ev GL C (.glob x))) := by
  by_cases c : ∃ i, GL x = some (.int i)
  · obtain ⟨i, hd⟩ := c
    obtain ⟨t, h1⟩ := S.ft.gl x i hd
    refine pe_to (pe_glob (v := .int i) (S.gl h) h1 ⟨t, rfl⟩ (glo_of h).2.1) fun σ H Q ⟨H0, Z0, g, Z, sr, po⟩ => ?_
    rw [ev, hd] at po
    exact po H Z sr (Same.refl _) _ (Out.fr (.int i))
  · refine ⟨fun pins s σ H Q I ⟨H0, Z0, g, Z, sr, po⟩ => ?_⟩
    rw [ev] at po
    cases q : GL x with
    | none => rw [q] at po; exact po.elim
    | some d =>
      rw [q] at po
      cases d <;> first | exact po.elim | exact absurd ⟨_, q⟩ c

/-! ### a dict of the module by texts -/
theorem isDictO_of {o : Option D} (h : isDictO o = true) : ∃ es, o = some (.dict es) := by
  unfold isDictO at h
  split at h
  · exact ⟨_, rfl⟩
  · cases h
theorem gnin_of {o : Option D} {d : D} {r : D × Md} (h : gninD o d = some r) : ∃ es k, o = some (.dict es) ∧ d = .str k ∧ ((getKey es (.str k) = some .none ∧ r = (.bool true, .fr)) ∨ ∃ y, getKey es (.str k) = some (.str y) ∧ r = (.bool false, .fr)) := by
  unfold gninD at h
  split at h
  · split at h
    · cases h; exact ⟨_, _, rfl, rfl, .inl ⟨by assumption, rfl⟩⟩
    · cases h; exact ⟨_, _, rfl, rfl, .inr ⟨_, by assumption, rfl⟩⟩
    · cases h
  · cases h
theorem gix_of {o : Option D} {d : D} {r : D × Md} (h : gixD o d = some r) : ∃ es k y, o = some (.dict es) ∧ d = .str k ∧ getKey es (.str k) = some (.str y) ∧ r = (.str y, .fr) := by
  unfold gixD at h
  split at h
  · split at h
    · cases h; exact ⟨_, _, _, rfl, rfl, by assumption, rfl⟩
    · cases h
  · cases h
theorem s_gnin {x : Str} {a : E} {e : Expr} {p : Pos} (S : SC X FN N sc k GL C cls) (h : gloB sc x = true) (hm : behindInMarks .NotIn (.Name x p) = false) (ha : PE X e (tE X.prog X.w W cls (ev GL C a))) :
    PE X (.Compare e [.NotIn] [.Name x p] pos) (tE X.prog X.w W cls (ev GL C (.gnin x a))) ∧ PT X (.Compare e [.NotIn] [.Name x p] pos) (tT X.prog X.w W cls (ev GL C (.gnin x a))) := by
  by_cases c : ∃ es, GL x = some (.dict es)
  · obtain ⟨es, hd⟩ := c
    obtain ⟨d, ar, n, G⟩ := S.ft.gd x es hd
    have hdo : isDictO (GL x) = true := by rw [hd]; rfl
    have nm := pe_glob (X := X) (pos := p) (v := .ref d) (S.gl h) G.mg rfl (glo_of h).2.1
    have key : ∀ (q : D × Md) (r : D × Md) (H0 Z0 H Z : Hp) (g : Sg) (σ : L2.St) (v : V) (Q : VK), SR X.prog X.w H0 Z0 g σ H Z → Out X.prog X.w H0 g σ H Z v q.1 q.2 → gninD (GL x) q.1 = some r → ∀ b, r = (.bool b, .fr) → Q (.bl b) H →
        ∃ (z : Str) (r : Option Value), v = .str z ∧ V.ref d = .ref d ∧ PySem.W.nsIn X.K d z = some r ∧ Q (.bl (!r.isSome)) H := fun q r H0 Z0 H Z g σ v Q sr ov e b eb hQ => by
      obtain ⟨es', z, e1, e2, e3⟩ := gnin_of e
      rw [hd] at e1
      cases e1
      obtain ⟨q1, q2⟩ := q
      simp only at e2
      subst e2
      rcases e3 with ⟨e3, rfl⟩ | ⟨y, e3, rfl⟩
      · cases eb; exact ⟨z, none, ov.hold.str, rfl, G.no z e3, hQ⟩
      · obtain ⟨t, e4⟩ := G.yes z y e3
        cases eb; exact ⟨z, some (.str y t), ov.hold.str, rfl, e4, hQ⟩
    refine ⟨pe_to (pe_cmpR (op_notIn_kd G.kd) ha nm hm) fun σ H Q ⟨H0, Z0, g, Z, sr, po⟩ => ?_, pt_to (pt_cmpR (op_notIn_kd G.kd) ha nm hm) fun σ H Q ⟨H0, Z0, g, Z, sr, po⟩ => ?_⟩
    · rw [ev, if_pos hdo] at po
      refine ⟨H0, Z0, g, Z, sr, po.bd.mono fun q g1 H1 Z1 sr1 zz po1 v ov => ?_⟩
      obtain ⟨r, e, hk⟩ := po1.ofO
      obtain ⟨_, _, _, _, e3⟩ := gnin_of e
      rcases e3 with ⟨_, rfl⟩ | ⟨_, _, rfl⟩
      · exact key q _ H0 Z0 H1 Z1 g1 σ v Q sr1 ov e _ rfl (hk H1 Z1 sr1 (Same.refl _) _ (Out.fr (.bl true)))
      · exact key q _ H0 Z0 H1 Z1 g1 σ v Q sr1 ov e _ rfl (hk H1 Z1 sr1 (Same.refl _) _ (Out.fr (.bl false)))
    · rw [ev, if_pos hdo] at po
      refine ⟨H0, Z0, g, Z, sr, po.bd.mono fun q g1 H1 Z1 sr1 zz po1 v ov => ?_⟩
      obtain ⟨r, e, hk⟩ := po1.ofO
      obtain ⟨c, ec, hq⟩ := hk H1 Z1 sr1 (Same.refl _)
      obtain ⟨_, _, _, _, e3⟩ := gnin_of e
      rcases e3 with ⟨_, rfl⟩ | ⟨_, _, rfl⟩
      · cases ec; exact key q _ H0 Z0 H1 Z1 g1 σ v (fun x H' => ∃ k, x = V.bl k ∧ Q k H') sr1 ov e _ rfl ⟨_, rfl, hq⟩
      · cases ec; exact key q _ H0 Z0 H1 Z1 g1 σ v (fun x H' => ∃ k, x = V.bl k ∧ Q k H') sr1 ov e _ rfl ⟨_, rfl, hq⟩
  · have no : isDictO (GL x) = false := by
      cases q : isDictO (GL x) with
      | false => rfl
      | true => exact absurd (isDictO_of q) c
    have e1 : ∀ g, ev GL C (.gnin x a) g = .stuck := fun g => by rw [ev, no]; rfl
    exact ⟨⟨fun pins s σ H Q I ⟨H0, Z0, g, Z, sr, po⟩ => by rw [e1] at po; exact po.elim⟩, ⟨fun pins s σ H Q I ⟨H0, Z0, g, Z, sr, po⟩ => by rw [e1] at po; exact po.elim⟩⟩

/-! ### and, or, not, a if t else b -/
theorem bool_res {K : D × Md → Sg → Hp → Hp → Prop} {P : Program} {w : World} {σ : L2.St} {H0 Z0 Z : Hp} {p : D × Md} {g : Sg} {f1 f2 : Res (D × Md)} {H : Hp} {v : V}
    (po : Po P w W cls σ H0 Z0 Z (match p.1 with | .bool true => f1 | .bool false => f2 | _ => .stuck) K) (ov : Out P w H0 g σ H Z v p.1 p.2) :
    ∃ c, p.1 = .bool c ∧ v = .bl c ∧ Po P w W cls σ H0 Z0 Z (if c = true then f1 else f2) K := by
  obtain ⟨d, m⟩ := p
  cases d with
  | bool c => exact ⟨c, rfl, ov.hold.bool, by cases c <;> exact po⟩
  | _ => exact po.elim
theorem s_not {a : E} {e : Expr} (h : PE X e (tE X.prog X.w W cls (ev GL C a))) : PE X (.UnaryOp .Not e pos) (tE X.prog X.w W cls (ev GL C (.not_ a))) := pe_to (pe_not h) fun σ H Q ⟨H0, Z0, g, Z, sr, po⟩ => by
  rw [ev] at po
  refine ⟨H0, Z0, g, Z, sr, po.bd.mono fun p g1 H1 Z1 sr1 zz po1 v ov => ?_⟩
  obtain ⟨d, m⟩ := p
  cases d with
  | bool c => exact ⟨c, ov.hold.bool, po1 H1 Z1 sr1 (Same.refl _) _ (Out.fr (.bl (!c)))⟩
  | _ => exact po1.elim
theorem s_notT {a : E} {e : Expr} (h : PT X e (tT X.prog X.w W cls (ev GL C a))) : PT X (.UnaryOp .Not e pos) (tT X.prog X.w W cls (ev GL C (.not_ a))) := pt_to (pt_not h) fun σ H Q ⟨H0, Z0, g, Z, sr, po⟩ => by
  rw [ev] at po
  refine ⟨H0, Z0, g, Z, sr, po.bd.mono fun p g1 H1 Z1 sr1 zz po1 => ?_⟩
  obtain ⟨d, m⟩ := p
  cases d with
  | bool c =>
    obtain ⟨c', e, q⟩ := po1 H1 Z1 sr1 (Same.refl _)
    cases e
    exact ⟨c, rfl, q⟩
  | _ => exact po1.elim
theorem s_tst {a : E} {e : Expr} (hn : isTst e = false) (h : PE X e (tE X.prog X.w W cls (ev GL C a))) : PT X e (tT X.prog X.w W cls (ev GL C a)) := pt_to (pt_val h (plain_tst hn)) fun σ H Q ⟨H0, Z0, g, Z, sr, po⟩ => by
  refine ⟨H0, Z0, g, Z, sr, po.mono fun p g1 H1 Z1 sr1 zz q v ov => ?_⟩
  obtain ⟨c, e, q⟩ := q
  have hh := ov.hold
  rw [e] at hh
  exact ⟨c, hh.bool, q⟩
theorem s_ite {t a b : E} {c x y : Expr} (hc : PT X c (tT X.prog X.w W cls (ev GL C t))) (ha : PE X x (tE X.prog X.w W cls (ev GL C a))) (hb : PE X y (tE X.prog X.w W cls (ev GL C b))) : PE X (.IfExp c x y pos) (tE X.prog X.w W cls (ev GL C (.ite t a b))) := pe_to (pe_ifExp hc ha hb) fun σ H Q ⟨H0, Z0, g, Z, sr, po⟩ => by
  rw [ev] at po
  refine ⟨H0, Z0, g, Z, sr, po.bd.mono fun p g1 H1 Z1 sr1 zz po1 => ?_⟩
  obtain ⟨d, m⟩ := p
  cases d with
  | bool c =>
    refine ⟨c, rfl, ?_⟩
    cases c with
    | true => exact iteT ⟨H0, Z0, g1, Z1, sr1, po1⟩
    | false => exact iteF ⟨H0, Z0, g1, Z1, sr1, po1⟩
  | _ => exact po1.elim
/-- the parts of an and, of an or -/
inductive EL (X : Cx) (W : WX) (cls : Cls) (GL : Str → Option D) (C : Orc) : E → List Expr → Prop
  | nil : EL X W cls GL C .nil []
  | cons {a r : E} {e : Expr} {es : List Expr} : PE X e (tE X.prog X.w W cls (ev GL C a)) → PT X e (tT X.prog X.w W cls (ev GL C a)) → EL X W cls GL C r es → EL X W cls GL C (.cons a r) (e :: es)
theorem one_bool {a : E} {g : Sg} {K : D × Md → Sg → Hp → Hp → Prop} {P : Program} {w : World} {σ : L2.St} {H0 Z0 Z : Hp}
    (po : Po P w W cls σ H0 Z0 Z ((ev GL C a g).bd fun p g => match p.1 with | .bool c => .ok (.bool c, .fr) g | _ => .stuck) K) :
    Po P w W cls σ H0 Z0 Z (ev GL C a g) fun p g' H' Z' => ∃ c, p.1 = .bool c ∧ K (.bool c, .fr) g' H' Z' := po.bd.mono fun p g1 H1 Z1 sr1 zz po1 => by
  obtain ⟨d, m⟩ := p
  cases d with
  | bool c => exact ⟨c, rfl, po1 H1 Z1 sr1 (Same.refl _)⟩
  | _ => exact po1.elim
theorem s_and : ∀ {es : E} {vs : List Expr}, EL X W cls GL C es vs → isNilE es = false → PE X (.BoolOp .And vs pos) (tE X.prog X.w W cls (evAnd GL C es)) ∧ PW X (.BoolOp .And vs pos) (tT X.prog X.w W cls (evAnd GL C es))
  | _, _, .nil, h => by cases h
  | _, _, .cons (a := a) h1 h2 .nil, _ => by
    refine ⟨pe_to (pe_one h1) fun σ H Q ⟨H0, Z0, g, Z, sr, po⟩ => ?_, pw_to (pw_and1 h2) fun σ H Q ⟨H0, Z0, g, Z, sr, po⟩ => ?_⟩
    · rw [evAnd] at po
      refine ⟨H0, Z0, g, Z, sr, (one_bool po).mono fun p g1 H1 Z1 sr1 zz q v ov => ?_⟩
      obtain ⟨c, e, q⟩ := q
      have hh := ov.hold
      rw [e] at hh
      rw [hh.bool]
      exact q _ (Out.fr (.bl c))
    · rw [evAnd] at po
      refine ⟨H0, Z0, g, Z, sr, (one_bool po).mono fun p g1 H1 Z1 sr1 zz q => ?_⟩
      obtain ⟨c, e, c', e', q⟩ := q
      cases e'
      exact ⟨c, e, q⟩
  | _, _, .cons (a := a) h1 h2 (.cons (a := a') (r := r') g1 g2 t), _ => by
    obtain ⟨i1, i2⟩ := s_and (.cons g1 g2 t) rfl
    have ee : ∀ g, evAnd GL C (.cons a (.cons a' r')) g = (ev GL C a g).bd fun p g => match p.1 with | .bool true => evAnd GL C (.cons a' r') g | .bool false => .ok (.bool false, .fr) g | _ => .stuck := fun g => by
      rw [evAnd] <;> first | rfl | (intro h; cases h)
    refine ⟨pe_to (pe_and h1 i1) fun σ H Q ⟨H0, Z0, g, Z, sr, po⟩ => ?_, pw_to (pw_and h2 i2) fun σ H Q ⟨H0, Z0, g, Z, sr, po⟩ => ?_⟩
    · rw [ee] at po
      refine ⟨H0, Z0, g, Z, sr, po.bd.mono fun p g1 H1 Z1 sr1 zz po1 v ov => ?_⟩
      obtain ⟨c, e, ev, po2⟩ := bool_res po1 ov
      refine ⟨c, ev, ?_⟩
      cases c with
      | true => exact iteT ⟨H0, Z0, g1, Z1, sr1, po2⟩
      | false => exact iteF (po2 H1 Z1 sr1 (Same.refl _) _ (Out.fr (.bl false)))
    · rw [ee] at po
      refine ⟨H0, Z0, g, Z, sr, po.bd.mono fun p g1 H1 Z1 sr1 zz po1 => ?_⟩
      obtain ⟨d, m⟩ := p
      cases d with
      | bool c =>
        refine ⟨c, rfl, ?_⟩
        cases c with
        | true => exact iteT ⟨H0, Z0, g1, Z1, sr1, po1⟩
        | false =>
          obtain ⟨c', e, q⟩ := po1 H1 Z1 sr1 (Same.refl _)
          cases e
          exact iteF q
      | _ => exact po1.elim
theorem s_or : ∀ {es : E} {vs : List Expr}, EL X W cls GL C es vs → isNilE es = false → PE X (.BoolOp .Or vs pos) (tE X.prog X.w W cls (evOr GL C es)) ∧ PW X (.BoolOp .Or vs pos) (tT X.prog X.w W cls (evOr GL C es))
  | _, _, .nil, h => by cases h
  | _, _, .cons (a := a) h1 h2 .nil, _ => by
    refine ⟨pe_to (pe_one h1) fun σ H Q ⟨H0, Z0, g, Z, sr, po⟩ => ?_, pw_to (pw_or1 h2) fun σ H Q ⟨H0, Z0, g, Z, sr, po⟩ => ?_⟩
    · rw [evOr] at po
      refine ⟨H0, Z0, g, Z, sr, (one_bool po).mono fun p g1 H1 Z1 sr1 zz q v ov => ?_⟩
      obtain ⟨c, e, q⟩ := q
      have hh := ov.hold
      rw [e] at hh
      rw [hh.bool]
      exact q _ (Out.fr (.bl c))
    · rw [evOr] at po
      refine ⟨H0, Z0, g, Z, sr, (one_bool po).mono fun p g1 H1 Z1 sr1 zz q => ?_⟩
      obtain ⟨c, e, c', e', q⟩ := q
      cases e'
      exact ⟨c, e, q⟩
  | _, _, .cons (a := a) h1 h2 (.cons (a := a') (r := r') g1 g2 t), _ => by
    obtain ⟨i1, i2⟩ := s_or (.cons g1 g2 t) rfl
    have ee : ∀ g, evOr GL C (.cons a (.cons a' r')) g = (ev GL C a g).bd fun p g => match p.1 with | .bool false => evOr GL C (.cons a' r') g | .bool true => .ok (.bool true, .fr) g | _ => .stuck := fun g => by
      rw [evOr] <;> first | rfl | (intro h; cases h)
    refine ⟨pe_to (pe_or h1 i1) fun σ H Q ⟨H0, Z0, g, Z, sr, po⟩ => ?_, pw_to (pw_or h2 i2) fun σ H Q ⟨H0, Z0, g, Z, sr, po⟩ => ?_⟩
    · rw [ee] at po
      refine ⟨H0, Z0, g, Z, sr, po.bd.mono fun p g1 H1 Z1 sr1 zz po1 v ov => ?_⟩
      obtain ⟨d, m⟩ := p
      cases d with
      | bool c =>
        refine ⟨c, ov.hold.bool, ?_⟩
        cases c with
        | false => exact iteF ⟨H0, Z0, g1, Z1, sr1, po1⟩
        | true => exact iteT (po1 H1 Z1 sr1 (Same.refl _) _ (Out.fr (.bl true)))
      | _ => exact po1.elim
    · rw [ee] at po
      refine ⟨H0, Z0, g, Z, sr, po.bd.mono fun p g1 H1 Z1 sr1 zz po1 => ?_⟩
      obtain ⟨d, m⟩ := p
      cases d with
      | bool c =>
        refine ⟨c, rfl, ?_⟩
        cases c with
        | false => exact iteF ⟨H0, Z0, g1, Z1, sr1, po1⟩
        | true =>
          obtain ⟨c', e, q⟩ := po1 H1 Z1 sr1 (Same.refl _)
          cases e
          exact iteT q
      | _ => exact po1.elim

/-! ### subscripts and slices -/
theorem reps_at {Z : Hp} {vs : List V} {ds : List D} {i : Int} {d : D} (r : Reps Z vs ds) (h : atI ds i = some d) : ∃ v, atI vs i = some v ∧ Rep Z v d := by
  unfold atI at h ⊢
  rw [r.length]
  cases e : ixN ds.length i with
  | none => rw [e] at h; cases h
  | some j =>
    rw [e] at h
    exact r.get h
theorem repks_get {Z : Hp} {kvs : List (Key × V)} {es : List (D × D)} (r : RepKs Z kvs es) {i : Int} {d : D} (h : getKey es (.int i) = some d) : ∃ v, valV kvs (.inl i) = some v ∧ Rep Z v d := by
  induction kvs generalizing es with
  | nil => cases r; cases h
  | cons kv kvs ih =>
    cases r with
    | @cons k v d' _ es' rv r =>
      unfold getKey at h
      rw [List.find?_cons] at h
      by_cases hk : k = i
      · subst hk
        have e1 : PyData.eqv (.int k) (.int k) = true := by simp [PyData.eqv]
        rw [e1] at h
        cases h
        exact ⟨v, by simp [valV], rv⟩
      · have e1 : PyData.eqv (.int k) (.int i) = false := by simp [PyData.eqv, hk]
        rw [e1] at h
        obtain ⟨v', h1, h2⟩ := ih r (by unfold getKey; exact h)
        exact ⟨v', by rw [← h1]; simp [valV, hk], h2⟩
theorem ix_of {d i r : D} (h : ixD d i = some r) : (∃ xs k, d = .list xs ∧ i = .int k ∧ atI xs k = some r) ∨ (∃ xs k, d = .tuple xs ∧ i = .int k ∧ atI xs k = some r) ∨ (∃ kvs k, d = .dict kvs ∧ i = .int k ∧ getKey kvs (.int k) = some r) := by
  unfold ixD at h
  split at h
  · exact .inl ⟨_, _, rfl, rfl, h⟩
  · exact .inr (.inl ⟨_, _, rfl, rfl, h⟩)
  · exact .inr (.inr ⟨_, _, rfl, rfl, h⟩)
  · cases h
theorem s_ix {a i : E} {x y : Expr} (S : SC X FN N sc k GL C cls) (hs : isSlice y = false) (ha : PE X x (tO X.prog X.w W cls fun g => opn a (ev GL C a g) g)) (hi : PE X y (tE X.prog X.w W cls (ev GL C i))) : PE X (.Subscript x y pos) (tE X.prog X.w W cls (ev GL C (.ix a i))) := by
  have u1 := room200 S.room
  have hp : PE X (.Subscript x y pos) (fun σ H Q => ∃ H0 Z0 g Z, SR X.prog X.w H0 Z0 g σ H Z ∧ Po X.prog X.w W cls σ H0 Z0 Z (ev GL C (.ix a i) g) fun p g' H' Z' => ∀ v, Out X.prog X.w H0 g' σ H' Z' v p.1 p.2 → Q v H') := by
    refine ⟨fun pins s σ H Q I q => ?_⟩
    obtain ⟨H0, Z0, g, Z, sr, po⟩ := q
    rw [ev] at po
    refine Subscript_ (thn (ha.run pins s σ H (fun v H1 => ∃ o g1 Z1, SR X.prog X.w H0 Z0 g1 σ H1 Z1 ∧ OO σ Z1 v o ∧ Po X.prog X.w W cls σ H0 Z0 Z1 ((ev GL C i g1).bd fun k g => ofO ((o.get g).bind fun d => if d.2 = .on then none else (ixD d.1 k.1).map fun r => (r, .fr)) g) fun p g' H' Z' => ∀ v, Out X.prog X.w H0 g' σ H' Z' v p.1 p.2 → Q v H') I ⟨H0, Z0, g, Z, sr, po.bd.mono fun o g1 H1 Z1 sr1 zz po1 v ov => ⟨o, g1, Z1, sr1, ov, po1⟩⟩) fun u s1 ⟨v, H1, I1, r1, o, g1, Z1, sr1, ov, po1⟩ => ?_)
    refine thn (hi.run pins s1 σ H1 (fun w' H2 => ∃ d m j r g2 Z2, SR X.prog X.w H0 Z0 g2 σ H2 Z2 ∧ m ≠ .on ∧ Hold X.prog X.w H2 Z2 v d m ∧ w' = .int j ∧ ixD d (.int j) = some r ∧ ∀ v, Rep Z2 v r → Q v H2) I1 ⟨H0, Z0, g1, Z1, sr1, po1.bd.mono fun p g2 H2 Z2 sr2 zz2 po2 w' ow => ?_⟩) fun u2 s2 ⟨w', H2, I2, r2, d, m, j, r, g2, Z2, sr2, hm, hd, ew, ed, hk⟩ => ?_
    · obtain ⟨⟨r, m'⟩, e, hk⟩ := po2.ofO
      cases q : o.get g2 with
      | none => rw [q] at e; cases e
      | some dm =>
        rw [q] at e
        have e' : (if dm.2 = .on then none else (ixD dm.1 p.1).map (fun r => ((r, Md.fr) : D × Md))) = some (r, m') := e
        split at e'
        · cases e'
        rename_i hm
        rw [Option.map_eq_some_iff] at e'
        obtain ⟨r', e1, e2⟩ := e'
        cases e2
        obtain ⟨pd, pm⟩ := p
        have hh := ow.hold
        have key : ∃ j, pd = .int j := by
          rcases ix_of e1 with ⟨_, j, _, h, _⟩ | ⟨_, j, _, h, _⟩ | ⟨_, j, _, h, _⟩ <;> exact ⟨j, h⟩
        obtain ⟨j, rfl⟩ := key
        exact ⟨dm.1, dm.2, j, r, g2, Z2, sr2, hm, (ov.up zz2).get sr2 q, hh.int, e1, fun v rv => hk H2 Z2 sr2 (Same.refl _) v (Out.fr rv)⟩
    · subst ew
      rcases ix_of ed with ⟨xs, j', rfl, ej, ea⟩ | ⟨xs, j', rfl, ej, ea⟩ | ⟨kvs, j', rfl, ej, ea⟩
      · cases ej
        obtain ⟨b, vs, rfl, rd, rs⟩ := hd.list sr2.zh
        obtain ⟨v', h1, h2⟩ := reps_at rs ea
        exact ix_list x y pins s2 σ H2 _ _ _ _ Q I2 r1 r2 ⟨b, vs, j, v', rfl, rfl, .inl rd, h1, hk v' h2⟩ (plain_ix hs _ _)
      · cases ej
        obtain ⟨b, vs, rfl, rd, zd, rs⟩ := hd.tuple sr2.zh (noOb_of hm)
        obtain ⟨v', h1, h2⟩ := reps_at rs ea
        exact ix_tup x y pins s2 σ H2 _ _ _ _ Q I2 r1 r2 ⟨b, vs, j, v', rfl, rfl, .of rd, h1, hk v' h2⟩ (plain_ix hs _ _)
      · cases ej
        obtain ⟨b, ks, rfl, e1, rs⟩ := hd.dict sr2.zh hm
        obtain ⟨v', h1, h2⟩ := repks_get rs ea
        have dg : DGet H2 b (kV (.inl j)) (some v') := by rw [← h1]; exact DGet.k e1
        obtain rfl : u = Value.ref b := r1
        exact tail_any (dict_typeIs I2 dg) PySem.F.slot_dict_getitem.lookup (d_getItem (by omega) I2 dg r2 fun w'' s' I' rw' => ⟨v', H2, I', rw', hk v' h2⟩) (plain_ix hs _ _)
  exact hp
/-- X[e], X a dict of the module -/
theorem s_gix {x : Str} {a : E} {e : Expr} {p : Pos} (S : SC X FN N sc k GL C cls) (h : gloB sc x = true) (hs : isSlice e = false) (ha : PE X e (tE X.prog X.w W cls (ev GL C a))) :
    PE X (.Subscript (.Name x p) e pos) (tE X.prog X.w W cls (ev GL C (.gix x a))) := by
  refine ⟨fun pins s σ H Q I ⟨H0, Z0, g, Z, sr, po⟩ => ?_⟩
  by_cases c : ∃ es, GL x = some (.dict es)
  · obtain ⟨es, hd⟩ := c
    obtain ⟨d, ar, n, G⟩ := S.ft.gd x es hd
    have hdo : isDictO (GL x) = true := by rw [hd]; rfl
    have nm := pe_glob (X := X) (pos := p) (v := .ref d) (S.gl h) G.mg rfl (glo_of h).2.1
    rw [ev, if_pos hdo] at po
    refine Subscript_ (thn (nm.run pins s σ H (fun v H1 => v = .ref d ∧ H1 = H) I ⟨rfl, rfl⟩) fun u s1 ⟨v, H1, I1, r1, e1, e2⟩ => ?_)
    subst e1
    rw [e2] at I1
    refine thn (ha.run pins s1 σ H (fun v H2 => ∃ z y t, v = .str z ∧ PySem.W.nsIn X.K d z = some (some (.str y t)) ∧ Q (.str y) H2) I1 ⟨H0, Z0, g, Z, sr, po.bd.mono fun q g1 H1 Z1 sr1 zz po1 v ov => ?_⟩) fun w s2 ⟨w', H2, I2, r2, z, y, t, ew, en, hq⟩ => ?_
    · obtain ⟨r, e, hk⟩ := po1.ofO
      obtain ⟨es', z, y, e1, e2, e3, rfl⟩ := gix_of e
      rw [hd] at e1
      cases e1
      obtain ⟨q1, q2⟩ := q
      simp only at e2
      subst e2
      obtain ⟨t, e4⟩ := G.yes z y e3
      exact ⟨z, y, t, ov.hold.str, e4, hk H1 Z1 sr1 (Same.refl _) _ (Out.fr (.str y))⟩
    · obtain rfl : u = Value.ref d := r1
      exact tail_any (kd_type G.kd I2) PySem.F.slot_dict_getitem.lookup (op_item_kd G.kd pins s2 σ H2 (.ref d) w' (.ref d) w Q I2 rfl r2 ⟨z, .str y t, .str y, rfl, ew, en, ⟨t, rfl⟩, hq⟩) (plain_ix hs _ _)
  · have no : isDictO (GL x) = false := by
      cases q : isDictO (GL x) with
      | false => rfl
      | true => exact absurd (isDictO_of q) c
    rw [ev, no] at po
    exact po.elim
end
end DL

set_option Elab.async false
set_option linter.all false
set_option maxRecDepth 100000
/-! D8: slices, calls, built-ins, methods of lists. -/
namespace DL
open PySem L2 PySem.Spec PyProof.Rows
variable [Cfg] [Fix]

theorem star_any {env : Env} {pos : Pos} : ∀ {es : List Expr}, (∀ e ∈ es, isStar e = false) → (backTo pos (starEach es env)).any (·.1) = false
  | [], _ => rfl
  | e :: es, h => by
    rw [star_no (h e (by simp))]
    have := star_any (env := env) (pos := pos) (es := es) fun x hx => h x (by simp [hx])
    unfold backTo at this ⊢
    simp only [List.map_cons, List.any_cons, Bool.false_or]
    exact this

section
variable {X : Cx} {W : WX} {cls : Cls} {FN N : List Str} {sc : Scope} {k : Nat} {GL : Str → Option D} {C : Orc} {pos : Pos}
def tP (P : Program) (w : World) (W : WX) (cls : Cls) (f : Sg → Res (Option Int)) : TO := fun σ H Q => ∃ H0 Z0 g Z, SR P w H0 Z0 g σ H Z ∧ Po P w W cls σ H0 Z0 Z (f g) fun o g' H' Z' => Q o H'
theorem s_part0 : PO X none (tP X.prog X.w W cls fun g => part .nil (ev GL C .nil g) g) := po_to po_none fun σ H Q ⟨H0, Z0, g, Z, sr, po⟩ => po H Z sr (Same.refl _)
theorem s_part1 {a : E} {e : Expr} (hn : isNilE a = false) (h : PE X e (tE X.prog X.w W cls (ev GL C a))) : PO X (some e) (tP X.prog X.w W cls fun g => part a (ev GL C a g) g) := po_to (po_some h) fun σ H Q ⟨H0, Z0, g, Z, sr, po⟩ => by
  have e1 : part a (ev GL C a g) g = (ev GL C a g).bd fun p g => match p.1 with | .int i => .ok (some i) g | _ => .stuck := by
    cases a <;> first | rfl | cases hn
  dsimp only at po
  rw [e1] at po
  refine ⟨H0, Z0, g, Z, sr, po.bd.mono fun p g1 H1 Z1 sr1 zz po1 v ov => ?_⟩
  obtain ⟨d, m⟩ := p
  cases d with
  | int i => exact ⟨i, ov.hold.int, po1 H1 Z1 sr1 (Same.refl _)⟩
  | _ => exact po1.elim
theorem reps_cut {Z : Hp} {vs : List V} {ds : List D} (r : Reps Z vs ds) (lo hi : Option Int) : Reps Z (cutV vs lo hi) (cutL ds lo hi) := by
  unfold cutV cutL
  rw [r.length]
  exact (r.drop _).take _
theorem cut_all {α : Type} {xs : List α} {lo hi : Option Int} (h : HT.sIx xs.length 0 lo = 0 ∧ HT.sIx xs.length xs.length hi = xs.length) : cutL xs lo hi = xs := by
  unfold cutL
  rw [h.1, h.2]
  simp
theorem s_sl {a lo hi : E} {x : Expr} {l h : Option Expr} {p2 : Pos} (ha : PE X x (tO X.prog X.w W cls fun g => opn a (ev GL C a g) g))
    (hl : PO X l (tP X.prog X.w W cls fun g => part lo (ev GL C lo g) g)) (hh : PO X h (tP X.prog X.w W cls fun g => part hi (ev GL C hi g) g)) :
    PE X (.Subscript x (.Slice l h none p2) pos) (tE X.prog X.w W cls (ev GL C (.sl a lo hi))) := pe_to (pe_slice (sl_list.or sl_tupA) ha hl hh) fun σ H Q ⟨H0, Z0, g, Z, sr, po⟩ => by
  rw [ev] at po
  refine ⟨H0, Z0, g, Z, sr, po.bd.mono fun o g1 H1 Z1 sr1 zz1 po1 v ov => ⟨H0, Z0, g1, Z1, sr1, po1.bd.mono fun l g2 H2 Z2 sr2 zz2 po2 => ⟨H0, Z0, g2, Z2, sr2, po2.bd.mono fun h g3 H3 Z3 sr3 zz3 po3 => ?_⟩⟩⟩
  obtain ⟨⟨r, m'⟩, e, hk⟩ := po3.ofO
  cases q : o.get g3 with
  | none => rw [q] at e; cases e
  | some dm =>
    rw [q] at e
    have e' : slD dm.1 l h = some (r, m') := e
    obtain ⟨hd, hno⟩ := ((ov.up zz2).up zz3).get2 sr3 q
    obtain ⟨d, m⟩ := dm
    unfold slD at e'
    split at e'
    · rename_i xs ed
      cases e'
      cases ed
      obtain ⟨b, vs, rfl, rd, rs⟩ := hd.list sr3.zh
      exact .inl ⟨b, vs, rfl, .inl rd, fin_list sr3 hk (reps_cut rs l h)⟩
    · rename_i xs ed
      cases e'
      cases ed
      obtain ⟨b, vs, rfl, rd, zd, rs⟩ := hd.tuple sr3.zh hno
      refine .inr ⟨b, vs, rfl, .of rd, fun c => ?_, fun _ => fin_tup sr3 hk (reps_cut rs l h)⟩
      rw [rs.length] at c
      refine fin_val (K := fun _ _ _ _ => True) sr3 hk ?_
      rw [cut_all c]
      exact .tup zd rs
    · cases e'

/-! ### calls -/
theorem s_call {f : Str} {es : E} {e : Expr} {args : List Expr} {p : Pos} (S : SC X FN N sc k GL C cls) (tk : Takes X W) (hg : gloB sc f = true) (hf : fnB FN f = true) (hn : ∀ x ∈ e :: args, isStar x = false)
    (ha : PA X (e :: args) (tA X.prog X.w W cls (evs GL C es))) : PE X (.Call (.Name f p) (e :: args) [] pos) (tE X.prog X.w W cls (ev GL C (.call f es))) := by
  obtain ⟨fa, fd, ps, h1, h2, h3, h4⟩ := S.ft.fn f hf
  refine pe_to (pe_callS h3 S.room (S.gl hg) h1 h2 h4 (fun σ => passAt tk σ) ha (glo_of hg).2.1 (star_no (hn e (by simp))) (star_any fun x hx => hn x (by simp [hx]))) fun σ H Q ⟨H0, Z0, g, Z, sr, po⟩ => ?_
  rw [ev] at po
  refine ⟨H0, Z0, g, Z, sr, po.bd.mono fun ds g1 H1 Z1 sr1 zz po1 vs rs => ⟨Z1, ds, sr1.zh, rs, ?_⟩⟩
  cases q : C f ds with
  | ok d m =>
    rw [q] at po1
    simp only at po1 ⊢
    split at po1
    · exact po1.elim
    · rename_i hm
      exact ⟨hm, fun v H' Z' t hh hnew => po1 H' Z' (sr1.tr t) t.zz v (own_res sr1 t hh hm hnew)⟩
  | exc c =>
    rw [q] at po1
    intro H' hs
    exact po1 H' Z1 (sr1.tr ⟨hs, Same.refl _, sr1.zh.trans hs, fun _ _ => rfl⟩) (Same.refl _)
  | stuck => rw [q] at po1; exact po1.elim

/-! ### built-ins of one argument -/
theorem s_bi1 {f : Value} {nm : Str} {a : E} {x : Expr} {p : Pos} {r : List V → Hp → VK → Prop} {id : String} (S : SC X FN N sc k GL C cls) (hg : gloB sc nm = true) (hb : nm ∈ biNames) (hv : bootBuiltins nm = some (.builtin id)) (hs : isStar x = false)
    (hc : CallR X (.builtin id) r) (ha : PE X x (tO X.prog X.w W cls fun g => opn a (ev GL C a g) g)) (F : D × Md → Option (D × Md))
    (hF : ∀ (H0 Z0 : Hp) (g : Sg) (σ : L2.St) (H Z : Hp) (v : V) (d : D) (m : Md) (d' : D) (m' : Md) (Q : VK), SR X.prog X.w H0 Z0 g σ H Z → Hold X.prog X.w H Z v d m → NoOb d m → F (d, m) = some (d', m') →
      (∀ H' Z', SR X.prog X.w H0 Z0 g σ H' Z' → Same Z Z' → ∀ v, Out X.prog X.w H0 g σ H' Z' v d' m' → Q v H') → r [v] H Q) :
    PE X (.Call (.Name nm p) [x] [] pos) (tE X.prog X.w W cls fun g => (opn a (ev GL C a g) g).bd fun x g => ofO ((x.get g).bind F) g) :=
  pe_to (pe_callB hc (S.gl hg) (S.ft.bi nm hb) hv (pa_cons ha pa_nil (star_no hs)) (glo_of hg).2.2 (glo_of hg).2.1 (star_no hs) rfl) fun σ H Q ⟨H0, Z0, g, Z, sr, po⟩ => by
    refine ⟨H0, Z0, g, Z, sr, po.bd.mono fun o g1 H1 Z1 sr1 zz1 po1 v ov => ?_⟩
    obtain ⟨⟨d', m'⟩, e, hk⟩ := po1.ofO
    cases q : o.get g1 with
    | none => rw [q] at e; cases e
    | some dm =>
      rw [q] at e
      exact hF H0 Z0 g1 σ H1 Z1 v dm.1 dm.2 d' m' Q sr1 (ov.get2 sr1 q).1 (ov.get2 sr1 q).2 e hk
theorem s_ty1 {f : Value} {nm : Str} {a : E} {x : Expr} {p : Pos} {r : List V → Hp → VK → Prop} {id : String} (S : SC X FN N sc k GL C cls) (hg : gloB sc nm = true) (hb : nm ∈ biNames) (hv : bootBuiltins nm = some (.type id)) (hs : isStar x = false)
    (hc : CallR X (.type id) r) (ha : PE X x (tO X.prog X.w W cls fun g => opn a (ev GL C a g) g)) (F : D × Md → Option (D × Md))
    (hF : ∀ (H0 Z0 : Hp) (g : Sg) (σ : L2.St) (H Z : Hp) (v : V) (d : D) (m : Md) (d' : D) (m' : Md) (Q : VK), SR X.prog X.w H0 Z0 g σ H Z → Hold X.prog X.w H Z v d m → NoOb d m → F (d, m) = some (d', m') →
      (∀ H' Z', SR X.prog X.w H0 Z0 g σ H' Z' → Same Z Z' → ∀ v, Out X.prog X.w H0 g σ H' Z' v d' m' → Q v H') → r [v] H Q) :
    PE X (.Call (.Name nm p) [x] [] pos) (tE X.prog X.w W cls fun g => (opn a (ev GL C a g) g).bd fun x g => ofO ((x.get g).bind F) g) :=
  pe_to (pe_callTy hc (S.gl hg) (S.ft.bi nm hb) hv (pa_cons ha pa_nil (star_no hs)) (glo_of hg).2.2 (glo_of hg).2.1 (star_no hs) rfl) fun σ H Q ⟨H0, Z0, g, Z, sr, po⟩ => by
    refine ⟨H0, Z0, g, Z, sr, po.bd.mono fun o g1 H1 Z1 sr1 zz1 po1 v ov => ?_⟩
    obtain ⟨⟨d', m'⟩, e, hk⟩ := po1.ofO
    cases q : o.get g1 with
    | none => rw [q] at e; cases e
    | some dm =>
      rw [q] at e
      exact hF H0 Z0 g1 σ H1 Z1 v dm.1 dm.2 d' m' Q sr1 (ov.get2 sr1 q).1 (ov.get2 sr1 q).2 e hk
theorem s_len {a : E} {x : Expr} {p : Pos} (S : SC X FN N sc k GL C cls) (hg : gloB sc "len" = true) (hs : isStar x = false) (ha : PE X x (tO X.prog X.w W cls fun g => opn a (ev GL C a g) g)) :
    PE X (.Call (.Name "len" p) [x] [] pos) (tE X.prog X.w W cls (ev GL C (.len a))) := by
  have e : ev GL C (.len a) = fun g => (opn a (ev GL C a g) g).bd fun x g => ofO ((x.get g).bind fun d => if d.2 = .on then none else (lenD d.1).map fun (n : Nat) => (((.int (n : Int)), .fr) : D × Md)) g := by funext g; rw [ev]
  rw [e]
  refine s_bi1 (f := .none) S hg (by decide) PySem.boot_len hs (CallR.or' call_len_seq call_lenD) ha _ fun H0 Z0 g σ H Z v d m d' m' Q sr h hno e hk => ?_
  dsimp only at e
  split at e
  · cases e
  rename_i hm
  rw [Option.map_eq_some_iff] at e
  obtain ⟨n, e, e2⟩ := e
  cases e2
  have fin := fun r => fin_val (d := .int n) (v := .int n) (K := fun _ _ _ _ => True) sr hk r
  unfold lenD at e
  split at e
  · cases e
    obtain ⟨b, vs, rfl, rd, rs⟩ := h.list sr.zh
    exact .inl ⟨b, vs, rfl, .inl (.inl rd), by rw [rs.length]; exact fin (.int _)⟩
  · cases e
    obtain ⟨b, vs, rfl, rd, zd, rs⟩ := h.tuple sr.zh hno
    exact .inl ⟨b, vs, rfl, .inr (.of rd), by rw [rs.length]; exact fin (.int _)⟩
  · cases e
    obtain ⟨b, ks, rfl, e1, rs⟩ := h.dict sr.zh hm
    exact .inr ⟨b, ks, rfl, e1, by rw [rs.length]; exact fin (.int _)⟩
  · cases e
theorem repks_keys {Z : Hp} : ∀ {kvs : List (Key × V)} {es : List (D × D)}, RepKs Z kvs es → Reps Z (kvs.map fun kv => kV kv.1) (es.map (·.1))
  | [], [], _ => .nil
  | [], _ :: _, r => by cases r
  | _ :: _, [], r => by cases r
  | _ :: _, _ :: _, r => by cases r with | cons a b => exact .cons (.int _) (repks_keys b)
theorem s_list {a : E} {x : Expr} {p : Pos} (S : SC X FN N sc k GL C cls) (hg : gloB sc "list" = true) (hs : isStar x = false) (ha : PE X x (tO X.prog X.w W cls fun g => opn a (ev GL C a g) g)) :
    PE X (.Call (.Name "list" p) [x] [] pos) (tE X.prog X.w W cls (ev GL C (.list a))) := by
  have e : ev GL C (.list a) = fun g => (opn a (ev GL C a g) g).bd fun x g => ofO ((x.get g).bind listD) g := by funext g; rw [ev]
  rw [e]
  refine s_ty1 (f := .none) S hg (by decide) PyProof.Rows.boot_list hs (CallR.or' call_list_of (call_list_dK S.calm)) ha _ fun H0 Z0 g σ H Z v d m d' m' Q sr h hno e hk => ?_
  unfold listD at e
  split at e
  · cases e; rename_i e; cases e
    obtain ⟨b, vs, rfl, rd, rs⟩ := h.list sr.zh
    exact .inl ⟨b, vs, rfl, .inl (.inl rd), fin_list sr hk rs⟩
  · cases e; rename_i e; cases e
    obtain ⟨b, vs, rfl, rd, zd, rs⟩ := h.tuple sr.zh hno
    exact .inl ⟨b, vs, rfl, .inr (.of rd), fin_list sr hk rs⟩
  · cases e; rename_i e; cases e
    obtain ⟨b, ks, rfl, e1, rs⟩ := h.dict sr.zh (by decide)
    exact .inr ⟨b, ks, rfl, e1, fin_list sr hk (repks_keys rs)⟩
  · cases e; rename_i e; cases e
    obtain ⟨b, ks, rfl, e1, rs⟩ := h.dict sr.zh (by decide)
    exact .inr ⟨b, ks, rfl, e1, fin_list sr hk (repks_keys rs)⟩
  · cases e
theorem s_tuple {a : E} {x : Expr} {p : Pos} (S : SC X FN N sc k GL C cls) (hg : gloB sc "tuple" = true) (hs : isStar x = false) (ha : PE X x (tO X.prog X.w W cls fun g => opn a (ev GL C a g) g)) :
    PE X (.Call (.Name "tuple" p) [x] [] pos) (tE X.prog X.w W cls (ev GL C (.tuple a))) := by
  have e : ev GL C (.tuple a) = fun g => (opn a (ev GL C a g) g).bd fun x g => ofO ((x.get g).bind tupleD) g := by funext g; rw [ev]
  rw [e]
  refine s_ty1 (f := .none) S hg (by decide) PyProof.Rows.boot_tuple hs call_tuple_of ha _ fun H0 Z0 g σ H Z v d m d' m' Q sr h hno e hk => ?_
  unfold tupleD at e
  split at e
  · cases e; rename_i e; cases e
    obtain ⟨b, vs, rfl, rd, rs⟩ := h.list sr.zh
    exact ⟨b, vs, rfl, .inl ⟨.inl rd, fin_tup sr hk rs⟩⟩
  · cases e; rename_i e; cases e
    obtain ⟨b, vs, rfl, rd, zd, rs⟩ := h.tuple sr.zh hno
    exact ⟨b, vs, rfl, .inr ⟨.of rd, fin_val (K := fun _ _ _ _ => True) sr hk (.tup zd rs)⟩⟩
  · cases e
theorem s_bi2 {nm : Str} {a b : E} {x y : Expr} {p : Pos} {r : List V → Hp → VK → Prop} {id : String} (S : SC X FN N sc k GL C cls) (hg : gloB sc nm = true) (hb : nm ∈ biNames) (hv : bootBuiltins nm = some (.builtin id)) (hs : isStar x = false) (hs2 : isStar y = false)
    (hc : CallR X (.builtin id) r) (ha : PE X x (tE X.prog X.w W cls (ev GL C a))) (hb' : PE X y (tE X.prog X.w W cls (ev GL C b))) (F : Int → Int → Int)
    (hF : ∀ (H : Hp) (i j : Int) (Q : VK), Q (.int (F i j)) H → r [.int i, .int j] H Q) :
    PE X (.Call (.Name nm p) [x, y] [] pos) (tE X.prog X.w W cls fun g => (ev GL C a g).bd fun x g => (ev GL C b g).bd fun y g => match x.1, y.1 with | .int i, .int j => .ok (.int (F i j), .fr) g | _, _ => .stuck) :=
  pe_to (pe_callB hc (S.gl hg) (S.ft.bi nm hb) hv (pa_cons ha (pa_cons hb' pa_nil (star_no hs2)) (star_no hs)) (glo_of hg).2.2 (glo_of hg).2.1 (star_no hs) (star_any fun z hz => by simp at hz; rw [hz]; exact hs2)) fun σ H Q ⟨H0, Z0, g, Z, sr, po⟩ => by
    refine ⟨H0, Z0, g, Z, sr, po.bd.mono fun q g1 H1 Z1 sr1 zz1 po1 v ov => ⟨H0, Z0, g1, Z1, sr1, po1.bd.mono fun q2 g2 H2 Z2 sr2 zz2 po2 u ou => ?_⟩⟩
    obtain ⟨d1, m1⟩ := q
    obtain ⟨d2, m2⟩ := q2
    cases d1 <;> cases d2 <;> first | exact po2.elim | skip
    rename_i i j
    rw [ov.hold.int, ou.hold.int]
    exact hF H2 i j Q (po2 H2 Z2 sr2 (Same.refl _) _ (Out.fr (.int _)))
theorem s_min {a b : E} {x y : Expr} {p : Pos} (S : SC X FN N sc k GL C cls) (hg : gloB sc "min" = true) (hs : isStar x = false) (hs2 : isStar y = false) (ha : PE X x (tE X.prog X.w W cls (ev GL C a))) (hb' : PE X y (tE X.prog X.w W cls (ev GL C b))) :
    PE X (.Call (.Name "min" p) [x, y] [] pos) (tE X.prog X.w W cls (ev GL C (.min a b))) := by
  have e : ev GL C (.min a b) = fun g => (ev GL C a g).bd fun x g => (ev GL C b g).bd fun y g => match x.1, y.1 with | .int i, .int j => .ok (.int (if j < i then j else i), .fr) g | _, _ => .stuck := by funext g; rw [ev] <;> rfl
  rw [e]
  exact s_bi2 S hg (by decide) PyProof.Rows.boot_min hs hs2 (call_min2 S.calm) ha hb' (fun i j => if j < i then j else i) fun H i j Q q => ⟨i, j, rfl, q⟩
theorem s_max {a b : E} {x y : Expr} {p : Pos} (S : SC X FN N sc k GL C cls) (hg : gloB sc "max" = true) (hs : isStar x = false) (hs2 : isStar y = false) (ha : PE X x (tE X.prog X.w W cls (ev GL C a))) (hb' : PE X y (tE X.prog X.w W cls (ev GL C b))) :
    PE X (.Call (.Name "max" p) [x, y] [] pos) (tE X.prog X.w W cls (ev GL C (.max a b))) := by
  have e : ev GL C (.max a b) = fun g => (ev GL C a g).bd fun x g => (ev GL C b g).bd fun y g => match x.1, y.1 with | .int i, .int j => .ok (.int (if j > i then j else i), .fr) g | _, _ => .stuck := by funext g; rw [ev] <;> rfl
  rw [e]
  exact s_bi2 S hg (by decide) (by decide +kernel) hs hs2 (call_max2 S.calm) ha hb' (fun i j => if j > i then j else i) fun H i j Q q => ⟨i, j, rfl, q⟩
theorem s_toInt {a : E} {x : Expr} {p : Pos} (S : SC X FN N sc k GL C cls) (hg : gloB sc "int" = true) (hs : isStar x = false) (ha : PE X x (tE X.prog X.w W cls (ev GL C a))) :
    PE X (.Call (.Name "int" p) [x] [] pos) (tE X.prog X.w W cls (ev GL C (.toInt a))) :=
  pe_to (pe_callTy call_int1 (S.gl hg) S.bi PyProof.Rows.boot_int (pa_cons ha pa_nil (star_no hs)) (glo_of hg).2.2 (glo_of hg).2.1 (star_no hs) rfl) fun σ H Q ⟨H0, Z0, g, Z, sr, po⟩ => by
    rw [ev] at po
    refine ⟨H0, Z0, g, Z, sr, po.bd.mono fun q g1 H1 Z1 sr1 zz1 po1 v ov => ?_⟩
    obtain ⟨d, m⟩ := q
    cases d <;> first | exact po1.elim | skip
    · rename_i c
      rw [ov.hold.bool]
      exact .inr ⟨c, rfl, po1 H1 Z1 sr1 (Same.refl _) _ (Out.fr (.int _))⟩
    · rename_i i
      rw [ov.hold.int]
      exact .inl ⟨i, rfl, po1 H1 Z1 sr1 (Same.refl _) _ (Out.fr (.int _))⟩
/-- the type's name as the model has it -/
def tyS : Ty → String
  | .int => "int"
  | .bool => "bool"
  | .str => "str"
  | .tuple => "tuple"
  | .list => "list"
  | .dict => "dict"
def subTy : Ty → Ty → Bool
  | .bool, .int => true
  | a, b => decide (a = b)
theorem kit_sub (s t : Ty) : kitB (tyS s) (tyS t) = some (subTy s t) := by
  cases s <;> cases t <;> decide +kernel
theorem kit_none (t : Ty) : kitB "NoneType" (tyS t) = some false := by
  cases t <;> decide +kernel
theorem hold_ty {P : Program} {w : World} {K : PySem.W.Frag} {H Z : Hp} {v : V} {d : D} {m : Md} (h : Hold P w H Z v d m) (hz : Same Z H) (hm : m ≠ .on) (t : Ty) : ∃ u, TyX K H v u ∧ PySem.W.kitOne K u (.type (tyS t)) = some (isiD d t) := by
  cases d with
  | none => rw [h.none]; exact ⟨_, .base .non, by have q := kit_none t; cases t <;> exact kit_ty q⟩
  | bool b => rw [h.bool]; exact ⟨_, .base (.bl b), by have q := kit_sub .bool t; cases t <;> exact kit_ty q⟩
  | int i => rw [h.int]; exact ⟨_, .base (.int i), by have q := kit_sub .int t; cases t <;> exact kit_ty q⟩
  | str x => rw [h.str]; exact ⟨_, .base (.str x), by have q := kit_sub .str t; cases t <;> exact kit_ty q⟩
  | list xs =>
    obtain ⟨b, vs, rfl, rd, rs⟩ := h.list hz
    refine ⟨.type "list", ?_, by have q := kit_sub .list t; cases t <;> exact kit_ty q⟩
    rcases rd with rd | ⟨o, rd⟩
    · exact .base (.lst rd)
    · exact .base (.frz rd)
  | tuple xs =>
    obtain ⟨b, vs, rfl, rd, zd, rs⟩ := h.tuple hz (noOb_of hm)
    exact ⟨_, .base (.tup rd), by have q := kit_sub .tuple t; cases t <;> exact kit_ty q⟩
  | dict es =>
    obtain ⟨b, ks, rfl, e1, rs⟩ := h.dict hz hm
    exact ⟨_, .base (.dK e1), by have q := kit_sub .dict t; cases t <;> exact kit_ty q⟩
theorem tyName_eq (t : Ty) : bootBuiltins (tyName t) = some (.type (tyS t)) ∧ tyName t ∈ biNames := by
  cases t <;> exact ⟨by decide +kernel, by decide⟩
theorem s_isi {a : E} {t : Ty} {x : Expr} {p p2 : Pos} (S : SC X FN N sc k GL C cls) (hg : gloB sc "isinstance" = true) (hg2 : gloB sc (tyName t) = true) (hs : isStar x = false) (ha : PE X x (tO X.prog X.w W cls fun g => opn a (ev GL C a g) g)) :
    PE X (.Call (.Name "isinstance" p) [x, .Name (tyName t) p2] [] pos) (tE X.prog X.w W cls (ev GL C (.isi a t))) := by
  obtain ⟨hb, hm⟩ := tyName_eq t
  refine pe_to (pe_callB call_isi (S.gl hg) S.bi PyProof.Rows.boot_isinstance (pa_cons ha (pa_cons (pe_bltn (v := .ty (tyS t)) (S.gl hg2) (S.ft.bi _ hm) hb rfl (glo_of hg2).2.2 (glo_of hg2).2.1) pa_nil rfl) (star_no hs)) (glo_of hg).2.2 (glo_of hg).2.1 (star_no hs) rfl) fun σ H Q ⟨H0, Z0, g, Z, sr, po⟩ => ?_
  rw [ev] at po
  refine ⟨H0, Z0, g, Z, sr, po.bd.mono fun o g1 H1 Z1 sr1 zz1 po1 v ov => ?_⟩
  obtain ⟨⟨d', m'⟩, e, hk⟩ := po1.ofO
  cases q : o.get g1 with
  | none => rw [q] at e; cases e
  | some dm =>
    rw [q] at e
    obtain ⟨d, m⟩ := dm
    have e' : (if m = .on then none else some ((.bool (isiD d t), .fr) : D × Md)) = some (d', m') := e
    split at e'
    · cases e'
    · rename_i hm'
      cases e'
      obtain ⟨u, h1, h2⟩ := hold_ty (K := X.K) (ov.get sr1 q) sr1.zh hm' t
      exact ⟨v, .ty (tyS t), u, .type (tyS t), isiD d t, rfl, .ty _, h1, h2, fin_val (K := fun _ _ _ _ => True) sr1 hk (.bl _)⟩

/-! ### methods of a slot's own list -/
theorem own_list {P : Program} {w : World} {H0 Z0 H Z : Hp} {g : Sg} {σ : L2.St} (sr : SR P w H0 Z0 g σ H Z) {i : Nat} (h : ownL i g = true) : ∃ p vs ds, g[i]? = some (some (.list ds, .ow)) ∧ σ[i]? = some (some (.ref p)) ∧ H p = some (.lst vs) ∧ Z p = none ∧ Reps Z vs ds := by
  unfold ownL at h
  split at h
  · rename_i ds q
    obtain ⟨v, hv, hh⟩ := sr.sl i _ _ q
    cases hh with
    | owl a b c => exact ⟨_, _, ds, q, hv, b, a, c⟩
  · cases h
theorem ownL_of {g : Sg} {i : Nat} {ds : List D} (h : g[i]? = some (some (.list ds, .ow))) : ownL i g = true := by
  unfold ownL; rw [h]
section
variable {i : Nat} {x : Str} {p apos cpos : Pos}
theorem s_pop (S : SC X FN N sc k GL C cls) (hi : N[i]? = some x) (hv : visB sc x = true) (hx : okN x = true) (hl : (apos.endLine == cpos.line) = true) :
    PE X (.Call (.Attribute (.Name x p) "pop" apos) [] [] cpos) (tE X.prog X.w W cls (ev GL C (.pop i))) := by
  obtain ⟨h4, h5⟩ := okN_of hx
  refine pe_to (pe_bm0 PySem.F.plainAttrs_list PySem.F.slot_list_pop PySem.F.type_list_pop mt_pop (pe_var (i := i) (by rw [S.hN]; exact hi) (by rw [S.sc]; exact vis_of hv) h4 h5) rfl hl) fun σ H Q ⟨H0, Z0, g, Z, sr, po⟩ => ?_
  rw [ev] at po
  split at po
  · rename_i ds q
    obtain ⟨a, vs, ds', q', hs, hp, zp, rs⟩ := own_list sr (ownL_of q)
    rw [q] at q'; cases q'
    split at po
    · rename_i d hd
      obtain ⟨v, e1, r1⟩ := rs.get hd
      refine ⟨.ref a, hs, .inl ⟨rfl, vs, .of hp⟩, a, vs, v, rfl, rfl, hp, by rw [rs.length]; exact e1, ?_⟩
      have sr' := sr.mut (p := a) (o := .lst vs.dropLast) (d' := .list ds.dropLast) q (by decide) hs (by rw [hp]; exact fun z => by cases z) (.owl zp upd_same rs.dropLast)
      exact po _ Z sr' (Same.refl _) v (Out.fr r1)
    · exact po.elim
  · exact po.elim
theorem s_clear (S : SC X FN N sc k GL C cls) (hi : N[i]? = some x) (hv : visB sc x = true) (hx : okN x = true) (hl : (apos.endLine == cpos.line) = true) :
    PE X (.Call (.Attribute (.Name x p) "clear" apos) [] [] cpos) (tE X.prog X.w W cls (ev GL C (.clear i))) := by
  obtain ⟨h4, h5⟩ := okN_of hx
  refine pe_to (pe_bm0 PySem.F.plainAttrs_list PySem.F.slot_list_clear PySem.F.type_list_clear mt_clear (pe_var (i := i) (by rw [S.hN]; exact hi) (by rw [S.sc]; exact vis_of hv) h4 h5) rfl hl) fun σ H Q ⟨H0, Z0, g, Z, sr, po⟩ => ?_
  rw [ev] at po
  split at po
  · rename_i ds q
    obtain ⟨a, vs, ds', q', hs, hp, zp, rs⟩ := own_list sr (ownL_of q)
    refine ⟨.ref a, hs, .inl ⟨rfl, vs, .of hp⟩, a, vs, rfl, rfl, hp, ?_⟩
    have sr' := sr.mut (p := a) (o := .lst []) (d' := .list []) q (by decide) hs (by rw [hp]; exact fun z => by cases z) (.owl zp upd_same .nil)
    exact po _ Z sr' (Same.refl _) _ (Out.fr .non)
  · exact po.elim
theorem few1 {e : Expr} {env : Env} (h : isStar e = false) : ((backTo cpos (starEach [e] env)).all (fun x => !x.1) && (backToKw cpos (keywordEach [] env)).all (fun x => x.1.isSome)
      && decide ([e].length + ([] : List Keyword).length + (if ([] : List Keyword).isEmpty then 0 else 1) < 30)) = true := by
  rw [star_no h]
  rfl
theorem s_append {a : E} {e : Expr} (S : SC X FN N sc k GL C cls) (hi : N[i]? = some x) (hv : visB sc x = true) (hx : okN x = true) (hl : (apos.endLine == cpos.line) = true) (hs : isStar e = false) (ha : PE X e (tE X.prog X.w W cls (ev GL C a))) :
    PE X (.Call (.Attribute (.Name x p) "append" apos) [e] [] cpos) (tE X.prog X.w W cls (ev GL C (.append i a))) := by
  obtain ⟨h4, h5⟩ := okN_of hx
  refine pe_to (pe_bm PySem.F.plainAttrs_list PySem.F.slot_list_append PySem.F.type_list_append mt_append (pe_var (i := i) (by rw [S.hN]; exact hi) (by rw [S.sc]; exact vis_of hv) h4 h5) (pa_cons (shared ha) pa_nil (star_no hs)) rfl (few1 hs) hl (star_no hs) rfl) fun σ H Q ⟨H0, Z0, g, Z, sr, po⟩ => ?_
  rw [ev] at po
  split at po
  · rename_i ho
    obtain ⟨a1, vs1, ds1, q1, hs1, hp1, zp1, rs1⟩ := own_list sr ho
    refine ⟨.ref a1, hs1, .inl ⟨rfl, vs1, .of hp1⟩, H0, Z0, g, Z, sr, po.bd.mono fun d g1 H1 Z1 sr1 zz1 po1 => ?_⟩
    split at po1
    · exact po1.elim
    · rename_i hm
      refine ⟨hm, fun u ru => ?_⟩
      split at po1
      · rename_i ds q
        obtain ⟨a2, vs, ds', q', hs2, hp, zp, rs⟩ := own_list sr1 (ownL_of q)
        rw [q] at q'; cases q'
        rw [hs1] at hs2; cases hs2
        split at po1
        · rename_i hz
          refine ⟨a1, vs, u, rfl, rfl, hp, by rw [rs.length]; exact hz, ?_⟩
          have sr' := sr1.mut (p := a1) (o := .lst (vs ++ [u])) (d' := .list (ds ++ [d.1])) q (by decide) hs1 (by rw [hp]; exact fun z => by cases z) (.owl zp upd_same (rs.append (.cons ru .nil)))
          exact po1 _ Z1 sr' (Same.refl _) _ (Out.fr .non)
        · exact po1.elim
      · exact po1.elim
  · exact po.elim
theorem s_extend {a : E} {e : Expr} (S : SC X FN N sc k GL C cls) (hi : N[i]? = some x) (hv : visB sc x = true) (hx : okN x = true) (hl : (apos.endLine == cpos.line) = true) (hs : isStar e = false) (ha : PE X e (tE X.prog X.w W cls (ev GL C a))) :
    PE X (.Call (.Attribute (.Name x p) "extend" apos) [e] [] cpos) (tE X.prog X.w W cls (ev GL C (.extend i a))) := by
  obtain ⟨h4, h5⟩ := okN_of hx
  refine pe_to (pe_bm PySem.F.plainAttrs_list PySem.F.slot_list_extend PySem.F.type_list_extend mt_extR (pe_var (i := i) (by rw [S.hN]; exact hi) (by rw [S.sc]; exact vis_of hv) h4 h5) (pa_cons ha pa_nil (star_no hs)) rfl (few1 hs) hl (star_no hs) rfl) fun σ H Q ⟨H0, Z0, g, Z, sr, po⟩ => ?_
  rw [ev] at po
  split at po
  · rename_i ho
    obtain ⟨a1, vs1, ds1, q1, hs1, hp1, zp1, rs1⟩ := own_list sr ho
    refine ⟨.ref a1, hs1, .inl ⟨rfl, vs1, .of hp1⟩, H0, Z0, g, Z, sr, po.bd.mono fun d g1 H1 Z1 sr1 zz1 po1 u ou => ?_⟩
    split at po1
    · rename_i es ds ed q
      obtain ⟨a2, vs, ds', q', hs2, hp, zp, rs⟩ := own_list sr1 (ownL_of q)
      rw [q] at q'; cases q'
      rw [hs1] at hs2; cases hs2
      split at po1
      · rename_i hz
        obtain ⟨d1, m1⟩ := d
        simp only at ed
        subst ed
        obtain ⟨b, ws, rfl, rd, rs2⟩ := ou.hold.list sr1.zh
        refine ⟨a1, b, vs, ws, rfl, rfl, hp, rd, by rw [rs.length, rs2.length]; exact hz, ?_⟩
        have rs3 : Reps Z1 ws es := rs2
        have sr' := sr1.mut (p := a1) (o := .lst (vs ++ ws)) (d' := .list (ds ++ es)) q (by decide) hs1 (by rw [hp]; exact fun z => by cases z) (.owl zp upd_same (rs.append rs3))
        exact po1 _ Z1 sr' (Same.refl _) _ (Out.fr .non)
      · exact po1.elim
    · exact po1.elim
  · exact po.elim
end
end
end DL

set_option Elab.async false
set_option linter.all false
set_option maxRecDepth 100000
/-! D9: what is walked; comprehensions. -/
namespace DL
open PySem L2 PySem.Spec PyProof.Rows
variable [Cfg] [Fix]

section
variable {X : Cx} {W : WX} {cls : Cls} {FN N : List Str} {sc : Scope} {k : Nat} {GL : Str → Option D} {C : Orc} {pos : Pos} {tg : Expr}
theorem pi_or {e : Expr} {t t' : TI} (h : PI X tg e t) (h' : PI X tg e t') : PI X tg e (fun σ H R => t σ H R ∨ t' σ H R) := ⟨fun pins s σ H R I q => q.elim (h.run pins s σ H R I) (h'.run pins s σ H R I)⟩
theorem it_list {K : PySem.W.Frag} {Z : Hp} {a : Addr} {xs : List V} {ds : List D} (h : Rd Z a (.lst xs)) (r : Reps Z xs ds) : ItOk Z (Itl K a) ds := by
  refine ⟨fun i d H e zh => ?_, fun i H zh hi => ⟨xs, .inl (Rd.same zh h), by rw [r.length]; exact hi⟩⟩
  obtain ⟨v, e1, r1⟩ := r.get e
  refine ⟨⟨xs, v, .inl (Rd.same zh h), e1⟩, fun x H' y => ⟨y.1, ?_⟩⟩
  have e2 := y.2 xs (.inl (Rd.same zh h))
  rw [e1] at e2; cases e2
  exact r1
theorem it_tup {K : PySem.W.Frag} {Z : Hp} {a : Addr} {xs : List V} {ds : List D} (h : Z a = some (.tup xs)) (r : Reps Z xs ds) : ItOk Z (Itt K a) ds := by
  refine ⟨fun i d H e zh => ?_, fun i H zh hi => ⟨xs, .of (zh _ _ h), by rw [r.length]; exact hi⟩⟩
  obtain ⟨v, e1, r1⟩ := r.get e
  refine ⟨⟨xs, v, .of (zh _ _ h), e1⟩, fun x H' y => ⟨y.1, ?_⟩⟩
  have e2 := y.2 xs (.of (zh _ _ h))
  rw [e1] at e2; cases e2
  exact r1
theorem it_rng {Z : Hp} {lo hi : Int} : ItOk Z (Itr lo (hi - lo).toNat) (rangeD lo hi) := by
  have hl : (rangeD lo hi).length = (hi - lo).toNat := by simp [rangeD]
  refine ⟨fun i d H e zh => ?_, fun i H zh hi' => by rw [hl] at hi'; exact hi'⟩
  have hi' : i < (hi - lo).toNat := by rw [← hl]; exact (List.getElem?_eq_some_iff.mp e).1
  refine ⟨hi', fun x H' y => ⟨y.1, ?_⟩⟩
  have : d = .int (lo + (i : Nat)) := by
    unfold rangeD at e
    rw [List.getElem?_map, List.getElem?_range hi'] at e
    cases e; rfl
  rw [this, y.2]
  exact .int _
theorem it_revL {K : PySem.W.Frag} {Z : Hp} {a : Addr} {xs : List V} {ds : List D} (h : Rd Z a (.lst xs)) (r : Reps Z xs ds) : ItOk Z (Itv K a xs.length) ds.reverse := by
  have hl := r.length
  refine ⟨fun i d H e zh => ?_, fun i H zh hi => by rw [List.length_reverse, ← hl] at hi; exact hi⟩
  have hi : i < ds.length := by have := (List.getElem?_eq_some_iff.mp e).1; simpa using this
  rw [List.getElem?_reverse hi] at e
  obtain ⟨v, e1, r1⟩ := r.get e
  rw [← hl] at e1
  refine ⟨⟨by omega, xs, v, .inl (Rd.same zh h), e1⟩, fun x H' y => ⟨y.1, ?_⟩⟩
  have e2 := y.2 xs (.inl (Rd.same zh h))
  rw [e1] at e2; cases e2
  exact r1
theorem it_revT {K : PySem.W.Frag} {Z : Hp} {a : Addr} {xs : List V} {ds : List D} (h : Z a = some (.tup xs)) (r : Reps Z xs ds) : ItOk Z (RT.ItvT K a xs.length) ds.reverse := by
  have hl := r.length
  refine ⟨fun i d H e zh => ?_, fun i H zh hi => by rw [List.length_reverse, ← hl] at hi; exact hi⟩
  have hi : i < ds.length := by have := (List.getElem?_eq_some_iff.mp e).1; simpa using this
  rw [List.getElem?_reverse hi] at e
  obtain ⟨v, e1, r1⟩ := r.get e
  rw [← hl] at e1
  refine ⟨⟨by omega, xs, v, .of (zh _ _ h), e1⟩, fun x H' y => ⟨y.1, ?_⟩⟩
  have e2 := y.2 xs (.of (zh _ _ h))
  rw [e1] at e2; cases e2
  exact r1
theorem s_iter {f : Sg → Res (D × Md)} {e : Expr} (h : PE X e (tE X.prog X.w W cls f)) : PI X tg e (tI X.prog X.w W cls f) := pi_to (pi_or (pi_list (shared h)) (pi_tup (shared h))) fun σ H R ⟨H0, Z0, g, Z, sr, po⟩ => by
  by_cases c : ∃ xs m g1, f g = .ok (.list xs, m) g1
  · obtain ⟨xs, m, g1, e⟩ := c
    refine .inl ⟨H0, Z0, g, Z, sr, ?_⟩
    rw [e] at po ⊢
    intro H' Z' sr' zz
    obtain ⟨hm, ds, e1, q⟩ := po H' Z' sr' zz
    refine ⟨hm, fun v r => ?_⟩
    cases e1
    cases r with
    | lst a b => exact ⟨_, rfl, ⟨_, .inl (Rd.same sr'.zh a)⟩, q _ (it_list a b)⟩
  · refine .inr ⟨H0, Z0, g, Z, sr, ?_⟩
    cases e : f g with
    | ok p g1 =>
      rw [e] at po
      intro H' Z' sr' zz
      obtain ⟨hm, ds, e1, q⟩ := po H' Z' sr' zz
      refine ⟨hm, fun v r => ?_⟩
      obtain ⟨d, m⟩ := p
      cases d with
      | list xs => exact absurd ⟨xs, m, g1, e⟩ c
      | tuple xs =>
        cases e1
        cases r with
        | tup a b => exact ⟨_, rfl, ⟨_, .of (sr'.zh _ _ a)⟩, q _ (it_tup a b)⟩
      | _ => cases e1
    | exc c' g1 => rw [e] at po; exact po
    | stuck => rw [e] at po; exact po
theorem s_rng1 {a : E} {x : Expr} {p : Pos} (S : SC X FN N sc k GL C cls) (hg : gloB sc "range" = true) (hs : isStar x = false) (ha : PE X x (tE X.prog X.w W cls (ev GL C a))) :
    PI X tg (.Call (.Name "range" p) [x] [] pos) (tI X.prog X.w W cls (ev GL C (.range1 a))) := pi_to (pi_range1 (S.gl hg) S.bi (pa_cons ha pa_nil (star_no hs)) (star_no hs)) fun σ H R ⟨H0, Z0, g, Z, sr, po⟩ => by
  rw [ev] at po
  refine ⟨H0, Z0, g, Z, sr, po.bd.mono fun q g1 H1 Z1 sr1 zz1 po1 v ov => ?_⟩
  obtain ⟨d, m⟩ := q
  cases d <;> first | exact po1.elim | skip
  rename_i j
  dsimp only at po1
  split at po1
  · rename_i hj
    have hb : -(2 ^ 62) ≤ j ∧ j < 2 ^ 62 := rngOk_of hj
    obtain ⟨hm, ds, e1, q⟩ := po1 H1 Z1 sr1 (Same.refl _)
    cases e1
    have q' := q _ (it_rng (lo := 0) (hi := j))
    rw [Int.sub_zero] at q'
    exact ⟨j, by rw [ov.hold.int], hb.1, hb.2, q'⟩
  · exact po1.elim
theorem s_rng2 {a b : E} {x y : Expr} {p : Pos} (S : SC X FN N sc k GL C cls) (hg : gloB sc "range" = true) (hs : isStar x = false) (hs2 : isStar y = false) (ha : PE X x (tE X.prog X.w W cls (ev GL C a))) (hb : PE X y (tE X.prog X.w W cls (ev GL C b))) :
    PI X tg (.Call (.Name "range" p) [x, y] [] pos) (tI X.prog X.w W cls (ev GL C (.range2 a b))) := pi_to (pi_range2 (S.gl hg) S.bi (pa_cons ha (pa_cons hb pa_nil (star_no hs2)) (star_no hs)) (by rw [star_no hs, star_no hs2] <;> rfl) (star_no hs2)) fun σ H R ⟨H0, Z0, g, Z, sr, po⟩ => by
  rw [ev] at po
  refine ⟨H0, Z0, g, Z, sr, po.bd.mono fun q g1 H1 Z1 sr1 zz1 po1 v ov => ⟨H0, Z0, g1, Z1, sr1, po1.bd.mono fun q2 g2 H2 Z2 sr2 zz2 po2 u ou => ?_⟩⟩
  obtain ⟨d, m⟩ := q
  obtain ⟨d2, m2⟩ := q2
  cases d <;> cases d2 <;> first | exact po2.elim | skip
  rename_i i j
  dsimp only at po2
  split at po2
  · rename_i hj
    rw [Bool.and_eq_true] at hj
    have h1 : -(2 ^ 62) ≤ i ∧ i < 2 ^ 62 := rngOk_of hj.1
    have h2 : -(2 ^ 62) ≤ j ∧ j < 2 ^ 62 := rngOk_of hj.2
    obtain ⟨hm, ds, e1, q⟩ := po2 H2 Z2 sr2 (Same.refl _)
    cases e1
    exact ⟨i, j, by rw [ov.hold.int, ou.hold.int], ⟨h1.1, h1.2, h2.1, h2.2⟩, q _ it_rng⟩
  · exact po2.elim
theorem s_rev {a : E} {x : Expr} {p : Pos} (S : SC X FN N sc k GL C cls) (hg : gloB sc "reversed" = true) (hs : isStar x = false) (ha : PE X x (tE X.prog X.w W cls (ev GL C a))) :
    PI X tg (.Call (.Name "reversed" p) [x] [] pos) (tI X.prog X.w W cls (ev GL C (.rev a))) := pi_to (RT.pi_revA (S.gl hg) S.bi (shared ha) (star_no hs)) fun σ H R ⟨H0, Z0, g, Z, sr, po⟩ => by
  rw [ev] at po
  refine ⟨H0, Z0, g, Z, sr, po.bd.mono fun q g1 H1 Z1 sr1 zz1 po1 => ?_⟩
  split at po1
  · exact po1.elim
  rename_i hm
  refine ⟨hm, fun v r => ?_⟩
  obtain ⟨d, m⟩ := q
  cases d <;> first | exact po1.elim | skip
  · rename_i xs
    obtain ⟨_, ds, e1, q⟩ := po1 H1 Z1 sr1 (Same.refl _)
    cases e1
    cases r with
    | lst a b => exact ⟨_, _, rfl, .inl ⟨.inl (Rd.same sr1.zh a), q _ (it_revL a b)⟩⟩
  · rename_i xs
    obtain ⟨_, ds, e1, q⟩ := po1 H1 Z1 sr1 (Same.refl _)
    cases e1
    cases r with
    | tup a b => exact ⟨_, _, rfl, .inr ⟨.of (sr1.zh _ _ a), q _ (it_revT a b)⟩⟩
end

/-! ### comprehensions -/
section
variable {P : Program} {w : World} {H0 Z0 H Z H' Z' : Hp} {g : Sg} {σ : L2.St} {v : V} {d : D} {m : Md} {p : Addr} {o : HO}
theorem hide_get {g : Sg} {i : Nat} {d : D} {m : Md} (h : (hide g)[i]? = some (some (d, m))) : m = .fr ∧ g[i]? = some (some (d, .fr)) := by
  unfold hide at h
  rw [List.getElem?_map] at h
  cases q : g[i]? with
  | none => rw [q] at h; cases h
  | some s =>
    rw [q] at h
    have h' : hide1 s = some (d, m) := by simpa using h
    unfold hide1 at h'
    split at h'
    · cases h'; exact ⟨rfl, rfl⟩
    · cases h'
/-- a block within: all that stands now is kept, the slots' own things are out of sight -/
theorem SR.block (s : SR P w H0 Z0 g σ H Z) : SR P w H Z (hide g) σ H Z := by
  refine ⟨s.zh, Same.refl _, fun _ _ => rfl, Same.refl _, by unfold hide; rw [List.length_map]; exact s.len, fun i d m e => ?_, fun i d m v b e hv a => ?_, fun i j d d' m m' v v' b e e' hv hv' a a' => ?_, fun p xs v hp e hv => absurd (hide_get e).1 (by decide)⟩
  · obtain ⟨rfl, q⟩ := hide_get e
    obtain ⟨v, hv, h⟩ := s.sl i d .fr q
    exact ⟨v, hv, h⟩
  · exact absurd (hide_get e).1 a.1
  · exact absurd (hide_get e).1 a.1
theorem SR.toTr (s : SR P w H Z g σ H' Z') : Tr H Z H' Z' := ⟨s.keep, s.z0, s.zh, s.old⟩
/-- the address L is no slot's own -/
def NotOwn (g : Sg) (σ : L2.St) (H : Hp) (L : Addr) : Prop := ∀ (j : Nat) (d' : D) (m' : Md) (v' : V), g[j]? = some (some (d', m')) → σ[j]? = some (some v') → ¬ Adr H v' m' L
theorem NotOwn.tr {L : Addr} (n : NotOwn g σ H L) (s : SR P w H0 Z0 g σ H Z) (t : Tr H Z H' Z') : NotOwn g σ H' L := fun j d' m' v' e hv a => by
  obtain ⟨v2, hv2, hh⟩ := s.sl j d' m' e
  rw [hv] at hv2; cases hv2
  exact n j d' m' v' e hv (hh.adr_tr t.hh a)
omit [Cfg] [Fix] in
theorem NotOwn.upd {L : Addr} (n : NotOwn g σ H L) : NotOwn g σ (upd H L o) L := fun j d' m' v' e hv a => by
  obtain ⟨hm, a⟩ := a
  rcases a with a | ⟨q, a, l⟩
  · exact n j d' m' v' e hv ⟨hm, .inl a⟩
  · by_cases hq : q = L
    · subst hq; exact n j d' m' v' e hv ⟨hm, .inl a⟩
    · obtain ⟨C, dx, fs, e1, e2⟩ := l
      rw [upd_ne hq] at e1
      exact n j d' m' v' e hv ⟨hm, .inr ⟨q, a, C, dx, fs, e1, e2⟩⟩
/-- an object that is no slot's is changed -/
theorem SR.other (s : SR P w H0 Z0 g σ H Z) (hz : Z p = none) (h0 : H0 p = none) (hn : NotOwn g σ H p) : SR P w H0 Z0 g σ (upd H p o) Z := by
  have back : ∀ (i : Nat) (d : D) (m : Md) (v : V) (b : Addr), g[i]? = some (some (d, m)) → σ[i]? = some (some v) → Adr (upd H p o) v m b → Adr H v m b := fun i d m v b e hv a => a.back fun q eq hm => upd_ne fun z => hn i d m v e hv ⟨hm, .inl (by rw [eq, z])⟩
  refine ⟨fun b u q => ?_, s.z0, s.old, fun b u q => ?_, s.len, fun i d m e => ?_, fun i d m v b e hv a => s.own i d m v b e hv (back i d m v b e hv a),
    fun i j d d' m m' v v' b e e' hv hv' a a' => s.inj i j d d' m m' v v' b e e' hv hv' (back i d m v b e hv a) (back j d' m' v' b e' hv' a'), s.fix⟩
  · rw [upd_ne (ne_of_none q hz)]; exact s.zh b u q
  · rw [upd_ne (ne_of_none q h0)]; exact s.keep b u q
  · obtain ⟨v, hv, h⟩ := s.sl i d m e
    refine ⟨v, hv, h.step (Same.refl _) fun q a => ?_⟩
    exact ⟨(h.adr a).1, upd_ne fun z => hn i d m v e hv (by rw [← z]; exact a)⟩
theorem freeze_len : ∀ (fz : List Nat) (g : Sg), (freeze fz g).length = g.length
  | [], _ => rfl
  | i :: fz, g => by
    show (freeze fz (frz1 g i)).length = _
    rw [freeze_len fz]
    unfold frz1
    split <;> simp
theorem SR.freeze : ∀ (fz : List Nat) {g : Sg} {Z : Hp}, SR P w H0 Z0 g σ H Z → ∃ Z', Same Z Z' ∧ SR P w H0 Z0 (DL.freeze fz g) σ H Z'
  | [], _, Z, s => ⟨Z, Same.refl _, s⟩
  | i :: fz, g, Z, s => by
    have : ∃ Z', Same Z Z' ∧ SR P w H0 Z0 (frz1 g i) σ H Z' := by
      unfold frz1
      split
      · rename_i d q
        obtain ⟨_, Z', _, zz, s', _⟩ := s.use q (by decide)
        exact ⟨Z', zz, s'⟩
      · exact ⟨Z, Same.refl _, s⟩
    obtain ⟨Z1, z1, s1⟩ := this
    obtain ⟨Z2, z2, s2⟩ := SR.freeze fz s1
    exact ⟨Z2, z1.trans z2, s2⟩
end
theorem Po.later {α : Type} {P : Program} {w : World} {W : WX} {cls : Cls} {σ : L2.St} {H0 Z0 Z Z1 : Hp} {r : Res α} {K : α → Sg → Hp → Hp → Prop} (h : Po P w W cls σ H0 Z0 Z r K) (zz : Same Z Z1) : Po P w W cls σ H0 Z0 Z1 r K := by
  cases r with
  | ok a g => exact fun H' Z' s z => h H' Z' s (zz.trans z)
  | exc c g => exact fun H' Z' s z => h H' Z' s (zz.trans z)
  | stuck => exact h
abbrev W0 : WX := fun _ _ _ _ => False
section
variable {X : Cx} {W : WX} {cls : Cls} {FN N : List Str} {sc : Scope} {k : Nat} {GL : Str → Option D} {C : Orc} {pos : Pos}
theorem SC.blk (S : SC X FN N sc k GL C cls) (s : Shared) (H : Hp) (scope : Scope) (cl : List (Str × Addr)) (c : Addr) (fp : List Addr) : SC (X.blk s H scope (compEnvC scope cl c X.env) fp) FN N (relS scope sc) k GL C cls :=
  ⟨S.hN, S.nd, by rw [← S.sc]; rfl, S.calm, S.room, S.ft⟩
/-- one item of a comprehension -/
def lcF (GL : Str → Option D) (C : Orc) (elt cond : E) (i : Nat) (g : Sg) (d : D) : Res (Option D) :=
  (iff_ cond (ev GL C cond ((hide g).set i (some (d, .fr)))) ((hide g).set i (some (d, .fr)))).bd fun c g => if c then (ev GL C elt g).bd fun p g => if p.2 = .on then .stuck else .ok (some p.1) g else .ok none g
def tI1 (P : Program) (w : World) (W : WX) (cls : Cls) (f : Sg → Res Bool) : TT := fun σ H Q => ∃ H0 Z0 g Z, SR P w H0 Z0 g σ H Z ∧ Po P w W cls σ H0 Z0 Z (f g) fun c g' H' Z' => Q c H'
theorem s_if0 : PTs X [] (tI1 X.prog X.w W cls fun g => iff_ .nil (ev GL C .nil g) g) := ⟨fun pins s σ H Q I ⟨H0, Z0, g, Z, sr, po⟩ => pts_nil.run pins s σ H Q I (po H Z sr (Same.refl _))⟩
theorem s_if1 {a : E} {e : Expr} (hn : isNilE a = false) (h : PT X e (tT X.prog X.w W cls (ev GL C a))) : PTs X [e] (tI1 X.prog X.w W cls fun g => iff_ a (ev GL C a g) g) := by
  refine ⟨fun pins s σ H Q I ⟨H0, Z0, g, Z, sr, po⟩ => (pts_one h).run pins s σ H Q I ?_⟩
  have e1 : iff_ a (ev GL C a g) g = (ev GL C a g).bd fun p g => match p.1 with | .bool c => .ok c g | _ => .stuck := by
    cases a <;> first | rfl | cases hn
  dsimp only at po
  rw [e1] at po
  refine ⟨H0, Z0, g, Z, sr, po.bd.mono fun p g1 H1 Z1 sr1 zz po1 => ?_⟩
  obtain ⟨d, m⟩ := p
  cases d with
  | bool c => exact ⟨c, rfl, po1 H1 Z1 sr1 (Same.refl _)⟩
  | _ => exact po1.elim
theorem lcGo_cons {f : D → Res (Option D)} {d : D} {ds out : List D} (h : lcGo f (d :: ds) = some out) : (∃ g, f d = .ok none g ∧ lcGo f ds = some out) ∨ ∃ e g r, f d = .ok (some e) g ∧ lcGo f ds = some r ∧ out = e :: r := by
  rw [lcGo] at h
  split at h
  · exact .inl ⟨_, by assumption, h⟩
  · rw [Option.map_eq_some_iff] at h
    obtain ⟨r, h1, h2⟩ := h
    exact .inr ⟨_, _, r, by assumption, h1, h2.symm⟩
  · cases h
theorem lc_imp {P : Program} {w : World} {elt it cond : E} {i : Nat} {fz : List Nat} (y : Str) {σ : L2.St} {H : Hp} {Q : VK} (h : tE P w W cls (ev GL C (.lc elt i it cond fz)) σ H Q) :
    tLc (tI P w W cls (ev GL C it)) (gName i) (tI1 P w W0 cls fun g => iff_ cond (ev GL C cond g) g) (tE P w W0 cls (ev GL C elt)) ([(y, i)].map (·.2)) σ H Q := by
  obtain ⟨H0, Z0, g0, Z0', sr0, po0⟩ := h
  rw [ev] at po0
  obtain ⟨Z1, zz0, sr1⟩ := sr0.freeze fz
  have po1 : Po P w W cls σ H0 Z0 Z1 ((ev GL C it (DL.freeze fz g0)).bd fun p g => if p.2 = .on then .stuck else match itemsD p.1 with
    | some ds => match lcGo (lcF GL C elt cond i g) ds with
      | some out => if out.length ≤ sizeLine then .ok (.list out, .ow) g else .stuck
      | none => .stuck
    | none => .stuck) fun p g' H' Z' => ∀ v, Out P w H0 g' σ H' Z' v p.1 p.2 → Q v H' := by
    exact po0.later zz0
  refine ⟨H0, Z0, DL.freeze fz g0, Z1, sr1, po1.bd.mono fun p g H1 Z2 sr2 zz1 po2 => ?_⟩
  split at po2
  · exact po2.elim
  rename_i hm
  refine ⟨hm, ?_⟩
  split at po2
  case h_2 => exact po2.elim
  rename_i ds hds
  refine ⟨ds, hds, fun J hJ L hL => ?_⟩
  split at po2
  case h_2 => exact po2.elim
  rename_i out hout
  split at po2
  case isFalse => exact po2.elim
  rename_i hsz
  have hk := po2
  -- the new list's address is nobody's
  have hL0 : H0 L = none := Same.free sr2.keep hL
  have hLn : NotOwn g σ (upd H1 L (.lst [])) L := fun j d' m' v' e' hv => (own_new (m := .ow) sr2 hL (by intro _ _ _ z; cases z) L ⟨by decide, .inl rfl⟩).2 j d' m' v' e' hv
  refine ⟨fun n m H => m = ds.length - n ∧ n ≤ ds.length ∧ ∃ Z acc outs rest, SR P w H0 Z0 g σ H Z ∧ NotOwn g σ H L ∧ Same Z2 Z ∧ H L = some (.lst acc) ∧ Z L = none ∧ Reps Z acc outs ∧ lcGo (lcF GL C elt cond i g) (ds.drop n) = some rest ∧ out = outs ++ rest,
    ⟨ds.length, by simp, Nat.zero_le _, Z2, [], [], out, sr2.tr (Tr.laid sr2.zh hL), hLn, Same.refl _, upd_same, zfree sr2.zh hL, .nil, hout, rfl⟩, ?_⟩
  rintro n m H ⟨rfl, hn, Z, acc, outs, rest, srn, nn, zzn, hHL, hZL, hacc, hgo, hrest⟩
  by_cases hlt : n < ds.length
  · have hd : ds[n]? = some ds[n] := List.getElem?_eq_getElem hlt
    rw [List.drop_eq_getElem_cons hlt] at hgo
    obtain ⟨j1, j2⟩ := hJ.item n ds[n] H hd (zzn.trans srn.zh)
    refine .inr ⟨j1, fun H' => ∃ m', m' < ds.length - n ∧ (m' = ds.length - (n + 1) ∧ n + 1 ≤ ds.length ∧ ∃ Z acc outs rest, SR P w H0 Z0 g σ H' Z ∧ NotOwn g σ H' L ∧ Same Z2 Z ∧ H' L = some (.lst acc) ∧ Z L = none ∧ Reps Z acc outs ∧ lcGo (lcF GL C elt cond i g) (ds.drop (n + 1)) = some rest ∧ out = outs ++ rest),
      fun H' q => q, fun x H' yl => ?_⟩
    obtain ⟨rfl, rx⟩ := j2 x H' yl
    have hw : ∀ τ : L2.St, wipe τ ([(y, i)].map (·.2)) = τ.set i none := fun τ => rfl
    refine ⟨by rw [hw, hw]; simp [List.set_set], ?_⟩
    -- the block's state
    have sb : SR P w H' Z ((hide g).set i (some (ds[n], .fr))) ((wipe σ ([(y, i)].map (·.2))).set i (some x)) H' Z := by
      have s1 := (srn.block).set (Out.fr (rx.up zzn)) i
      rw [hw, List.set_set]
      exact s1
    have post : Po P w W0 cls ((wipe σ ([(y, i)].map (·.2))).set i (some x)) H' Z Z (lcF GL C elt cond i g ds[n]) fun o _ H3 Z3 => match o with
        | none => ∃ m', m' < ds.length - n ∧ (m' = ds.length - (n + 1) ∧ n + 1 ≤ ds.length ∧ ∃ Z acc outs rest, SR P w H0 Z0 g σ H3 Z ∧ NotOwn g σ H3 L ∧ Same Z2 Z ∧ H3 L = some (.lst acc) ∧ Z L = none ∧ Reps Z acc outs ∧ lcGo (lcF GL C elt cond i g) (ds.drop (n + 1)) = some rest ∧ out = outs ++ rest)
        | some d' => ∀ v, Rep Z3 v d' → ∃ acc, H3 L = some (.lst acc) ∧ acc.length < sizeLine ∧ ∃ m', m' < ds.length - n ∧ (m' = ds.length - (n + 1) ∧ n + 1 ≤ ds.length ∧ ∃ Z acc' outs rest, SR P w H0 Z0 g σ (upd H3 L (.lst (acc ++ [v]))) Z ∧ NotOwn g σ (upd H3 L (.lst (acc ++ [v]))) L ∧ Same Z2 Z ∧ upd H3 L (.lst (acc ++ [v])) L = some (.lst acc') ∧ Z L = none ∧ Reps Z acc' outs ∧ lcGo (lcF GL C elt cond i g) (ds.drop (n + 1)) = some rest ∧ out = outs ++ rest) := by
      rcases lcGo_cons hgo with ⟨gx, e1, e2⟩ | ⟨e, gx, r, e1, e2, e3⟩
      · rw [e1]
        intro H3 Z3 sr3 zz3
        have t := sr3.toTr
        refine ⟨ds.length - (n + 1), by omega, rfl, hlt, Z3, acc, outs, rest, srn.tr t, nn.tr srn t, zzn.trans t.zz, t.hh _ _ hHL, by rw [t.old L (by rw [hHL]; exact fun z => by cases z)]; exact hZL, hacc.up t.zz, e2, hrest⟩
      · rw [e1]
        intro H3 Z3 sr3 zz3 v rv
        have t := sr3.toTr
        have h3 := t.hh _ _ hHL
        have z3 : Z3 L = none := by rw [t.old L (by rw [hHL]; exact fun z => by cases z)]; exact hZL
        have hlen : acc.length < sizeLine := by
          have := hacc.length
          rw [hrest, e3] at hsz
          simp only [List.length_append, List.length_cons] at hsz
          omega
        refine ⟨acc, h3, hlen, ds.length - (n + 1), by omega, rfl, hlt, Z3, acc ++ [v], outs ++ [e], r, (srn.tr t).other z3 hL0 (nn.tr srn t), (nn.tr srn t).upd, zzn.trans t.zz, upd_same, z3, (hacc.up t.zz).append (.cons rv .nil), e2, ?_⟩
        rw [hrest, e3]; simp
    unfold lcF at post
    refine ⟨H', Z, _, Z, sb, post.bd.mono fun c g3 H3 Z3 sr3 zz3 q3 => ?_⟩
    cases c with
    | false =>
      refine iteF ?_
      exact q3 H3 Z3 sr3 (Same.refl _)
    | true =>
      refine iteT ⟨H', Z, g3, Z3, sr3, q3.bd.map fun pe g4 hk4 H4 Z4 sr4 zz4 v ov => ?_⟩
      by_cases hon : pe.2 = .on
      · have := hk4 H4 Z4 sr4 zz4
        rw [if_pos hon] at this
        exact this.elim
      · obtain ⟨Z5, z45, sr5, r5⟩ := sr4.share ov hon
        have := hk4 H4 Z5 sr5 (zz4.trans z45)
        rw [if_neg hon] at this
        exact this H4 Z5 sr5 (Same.refl _) v r5
  · have e : n = ds.length := by omega
    subst e
    rw [List.drop_length, lcGo] at hgo
    cases hgo
    rw [List.append_nil] at hrest
    subst hrest
    refine .inl ⟨hJ.stop _ H (zzn.trans srn.zh) (Nat.le_refl _), ?_⟩
    exact hk H Z srn zzn _ ⟨.owl hZL hHL hacc, fun b a => by
      have := adr_own hHL (by intro _ _ _ z; cases z) a
      subst this
      exact ⟨hL0, nn⟩, fun _ z => by cases z⟩
theorem s_lc {elt it cond : E} {i : Nat} {fz : List Nat} {pelt piter : Expr} {ifs : List Expr} {scope : Scope} {y : Str} {py : Pos} (S : SC X FN N sc k GL C cls) (hi : N[i]? = some y) (hb : blkC N sc scope [(y, i)] = true) (hy : (relS scope sc).names.lookup y = some .local)
    (hs : isSetE piter = false) (hit : PI X (.Name y py) piter (tI X.prog X.w W cls (ev GL C it)))
    (hc : ∀ X', X'.prog = X.prog → X'.w = X.w → SC X' FN N (relS scope sc) k GL C cls → PTs X' ifs (tI1 X.prog X.w W0 cls fun g => iff_ cond (ev GL C cond g) g))
    (he : ∀ X', X'.prog = X.prog → X'.w = X.w → SC X' FN N (relS scope sc) k GL C cls → PE X' pelt (tE X.prog X.w W0 cls (ev GL C elt))) :
    PE X (.ListComp pelt [⟨.Name y py, piter, ifs, 0⟩] scope pos) (tE X.prog X.w W cls (ev GL C (.lc elt i it cond fz))) := by
  have nd : X.N.Nodup := by rw [S.hN]; exact S.nd
  exact pe_to (pe_lc (own := [(y, i)]) S.calm nd hit (by rw [S.hN, S.sc]; exact blkOk_by hb) (g := gName i)
    (fun s H c cl fp => pg_name nd (by rw [S.hN]; exact hi) (by rw [(S.blk s H scope cl c fp).sc]; exact .inl hy) (.inr (by rw [(S.blk s H scope cl c fp).sc]; exact hy)))
    (fun s H c cl fp => hc _ rfl rfl (S.blk s H scope cl c fp)) (fun s H c cl fp => he _ rfl rfl (S.blk s H scope cl c fp)) (set_no hs)) fun σ H Q h => lc_imp y h
end
end DL

set_option Elab.async false
set_option linter.all false
set_option maxRecDepth 100000
/-! D10: sorted(set(xs)) of a list of ints. -/
namespace DL
open PySem L2 PySem.Spec PyProof.Rows
/-- the set as it is made -/
abbrev newSet (w : World) : Obj := { cls := .type "set", dict := none, data := .set #[] 0 (.fresh 0 0 (!w.params.followText "set-order")) }
section
variable {P : Program} {w : World} {A : Around} {E : Value → Shared → Prop} {s : Shared}
set_option maxHeartbeats 3200000 in
/-- set(xs), xs a list of ints -/
theorem set_of_list {l : Addr} {its : Array Value} (ns : List Int) {Q : Value → Shared → Prop} (hh : A.handled = none) (hl : s.heap.IsList l its) (hi : IntsAre its.toList ns) (hb : ns.length + 1 < scanBound)
    (h : ∀ (h' : Heap) (tk c : Nat), SetR w h' s.heap.objs.size (fun j => decide (j ∈ ns)) c → c ≤ ns.length → (∀ b o, s.heap.get? b = some o → h'.get? b = some o) → Q (.ref s.heap.objs.size) { s with heap := h', toks := tk }) :
    wpAny (model P w) A (call (.type "set") [.ref l]) Q E s := by
  have hz : its.size = ns.length := by have q := IntsAre.length hi; simpa using q
  obtain ⟨c, tl, hmro⟩ := F.called_set.mro
  have a1 := F.called_set.made; have a2 := F.called_set.sub; have a3 := F.called_set.notType; have a4 := F.called_set.canCreate
  have a5 := F.typeCall_set_1 (.ref l)
  refine wpAny_call (codeAny_of_tree (show wpAny _ _ (callAny (.type "set") _) _ _ _ from wpAny_pure ⟨Code.quiet_builtin _ (by decide +kernel), codeAny_builtin F.entry_type_call ?_⟩))
  rw [Around.under_plain (weight_type_call_type "set" [.ref l] []) rfl]
  repeat (any_goals (first | assumption | wp_step))
  refine codeAny_mono (code_set_led1 (.ref l) (E := E) (Q₁ := fun ob t => ob = .ref s.heap.objs.size ∧ t = { s with heap := s.heap.push (newSet w) }) ⟨rfl, rfl⟩) fun r t hr => ?_
  cases r with
  | error e => exact hr
  | ok fl =>
    cases fl with
    | ret ob =>
      obtain ⟨rfl, rfl⟩ := hr
      have b1 : (s.heap.push (newSet w)).get? s.heap.objs.size = some (newSet w) := Heap.get?_push_size _ rfl
      have b2 : Shared.TypeIs { s with heap := s.heap.push (newSet w) } (.ref s.heap.objs.size) "set" := ⟨_, b1, rfl⟩
      have b3 := F.called_set.init.lookup; have b4 := F.called_set.init.bind (.ref s.heap.objs.size)
      repeat (any_goals (first | assumption | wp_step))
      refine codeAny_mono (codeAny_call_builtin (R := wants (fun r t => r = .none ∧ ∃ h' tk c, t = { s with heap := h', toks := tk } ∧ SetR w h' s.heap.objs.size (fun j => decide (j ∈ ns)) c ∧ c ≤ ns.length ∧
          ∀ b o, s.heap.get? b = some o → h'.get? b = some o) E) F.called_set.init.plain F.entry_set_init (check_set_init_1 b2 ?_)) fun r2 t2 hr2 => ?_
      · obtain ⟨⟨oc, od, odt, osl⟩, hol, hcl, nl, hdl⟩ := hl
        simp only at hcl hdl
        subst hcl hdl
        have c1 : (s.heap.push (newSet w)).get? l = some { cls := .type "list", dict := od, data := .seq its nl, slots := osl } := Heap.get?_push_of_some _ hol
        have c2 := F.sub_list_set; have c3 := F.sub_list_frozenset
        have c4 : (Value.type "list" == Value.type "dict") = false := by decide
        have c5 : (s.heap.push (newSet w)).IsList l its := ⟨_, c1, rfl, nl, rfl⟩
        unfold Builtin.«set.__init__» noKeywords Builtin.Frozenset.updateFrom
        generalize hPI : pyIter = PI
        wp_walk
        subst hPI
        refine wpAny_pyIter_list c5 (wpAny_bind (wpAny_runValue ?_))
        have d1 : l < s.heap.objs.size := Heap.lt_size hol
        have d2 : A.in1.in1.in1.handled = none := by simp [hh]
        have d3 : l ≠ (s.heap.push (newSet w)).objs.size := by rw [Heap.size_push]; exact Nat.ne_of_lt (Nat.lt_succ_of_lt d1)
        have d4 : s.heap.objs.size ∉ [(s.heap.push (newSet w)).objs.size, l] := by
          rw [Heap.size_push]
          simp only [List.mem_cons, List.not_mem_nil, or_false, not_or]
          exact ⟨Nat.ne_of_lt (Nat.lt_succ_self _), Nat.ne_of_gt d1⟩
        have d5 : ∀ (i : Nat) (v : Value), its[i]? = some v → ∃ k t, ns[i]? = some k ∧ v = .int k t := fun i v hv => by
          have q : i < ns.length := by rw [← hz]; exact (Array.getElem?_eq_some_iff.mp hv).1
          obtain ⟨t, e⟩ := IntsAre.int_at hi i v (by rw [Array.getElem?_toList]; exact hv)
          exact ⟨ns[i], t, List.getElem?_eq_getElem q, by rw [e, List.getD_eq_getElem?_getD, List.getElem?_eq_getElem q] <;> rfl⟩
        refine set_update_ints ((Walks.list d2 _ l d3 its).toS) s.heap.objs.size d4 ns hz hb d5 (its.size - 0) 0 _ (by omega) (Nat.zero_le _) ⟨⟨_, Heap.get?_push_size _ rfl, rfl, rfl⟩, (c5.push _)⟩
          ⟨0, Nat.le_refl 0, setR_new_at (Heap.get?_push_of_some _ b1)⟩ fun s' c' hm hc' hS' => ?_
        obtain ⟨h', g2, d', tk', os'⟩ := s'
        have e1 : g2 = s.gens := hm.gens
        have e2 : d' = s.drawn := hm.drawn
        have e3 : os' = s.os := hm.os
        subst e1 e2 e3
        refine (show wpAny _ _ _ _ _ _ from wpAny_pure (show wpAny _ _ (ret Value.none) _ _ _ from ?_))
        rw [hz] at hc'
        refine wpAny_pure ⟨rfl, h', tk', c', rfl, hS', hc', fun b o e => hm.heap b o ?_ (Heap.get?_push_of_some _ (Heap.get?_push_of_some _ e))⟩
        have q := Heap.lt_size e
        simp only [List.mem_cons, List.not_mem_nil, or_false, not_or]
        exact ⟨Nat.ne_of_lt q, by rw [Heap.size_push]; exact Nat.ne_of_lt (Nat.lt_succ_of_lt q)⟩
      · cases r2 with
        | error e => exact hr2
        | ok fl2 =>
          cases fl2 with
          | ret r =>
            obtain ⟨rfl, h', tk, c', rfl, q1, q2, q3⟩ := hr2
            repeat (any_goals (first | assumption | wp_step))
            exact h _ _ _ q1 q2 q3
          | _ => exact hr2.elim
    | _ => exact hr.elim
end
section
variable {X : Cx}
def rSetOfL (K : PySem.W.Frag) (w : World) : List V → Hp → VK → Prop := fun vs H Q => ∃ (a : Addr) (ns : List Int), vs = [.ref a] ∧ SqL K H a (ns.map V.int) ∧ ns.length ≤ 1000 ∧
  ∀ p c, H p = none → c ≤ ns.length → Q (.ref p) (upd H p (SetO w p (fun j => decide (j ∈ ns)) c))
theorem cr_setOfL (hc : X.calm = true) : CallR X (.type "set") (rSetOfL X.K X.w) := fun pins s σ H vs us Q I r h => by
  obtain ⟨a, ns, rfl, hs, hn, q⟩ := h
  obtain ⟨its, rv, pl, hz⟩ := I.list hs
  rw [Vals.ref1 r]
  refine set_of_list ns (I.ok.hd hc) pl.isList (by simpa using intsAre_of rv) (by unfold scanBound; omega) fun h' tk c hR hle kp => ?_
  have hf : H s.heap.objs.size = none := I.hok.fresh (Nat.le_refl _)
  exact ⟨.ref s.heap.objs.size, _, I.laid (t' := tk) kp (Nat.le_refl _) (setO_new hR), rfl, q _ c hf hle⟩
end
/-! ### strictly rising lists -/
theorem insI_mem {x k : Int} : ∀ {l : List Int}, k ∈ insI x l ↔ k = x ∨ k ∈ l
  | [] => by simp [insI]
  | y :: ys => by
    unfold insI
    split
    · simp
    · split
      · rename_i h; subst h; simp
      · rw [List.mem_cons, insI_mem, List.mem_cons]
        constructor
        · rintro (h | h | h)
          · exact .inr (.inl h)
          · exact .inl h
          · exact .inr (.inr h)
        · rintro (h | h | h)
          · exact .inr (.inl h)
          · exact .inl h
          · exact .inr (.inr h)
theorem insI_up {x : Int} : ∀ {l : List Int}, l.Pairwise (· < ·) → (insI x l).Pairwise (· < ·)
  | [], _ => by simp [insI]
  | y :: ys, h => by
    obtain ⟨h1, h2⟩ := List.pairwise_cons.mp h
    unfold insI
    split
    · rename_i c
      refine List.pairwise_cons.mpr ⟨fun z hz => ?_, h⟩
      rcases List.mem_cons.mp hz with rfl | hz
      · exact c
      · exact Int.lt_trans c (h1 z hz)
    · split
      · exact h
      · refine List.pairwise_cons.mpr ⟨fun z hz => ?_, insI_up h2⟩
        rcases insI_mem.mp hz with rfl | hz
        · omega
        · exact h1 z hz
theorem sortI_mem {k : Int} : ∀ {l : List Int}, k ∈ sortI l ↔ k ∈ l
  | [] => by simp [sortI]
  | x :: xs => by rw [sortI, insI_mem, sortI_mem, List.mem_cons]
theorem sortI_up : ∀ l : List Int, (sortI l).Pairwise (· < ·)
  | [] => List.Pairwise.nil
  | x :: xs => insI_up (sortI_up xs)
theorem up_uniq : ∀ {l m : List Int}, l.Pairwise (· < ·) → m.Pairwise (· < ·) → (∀ k, k ∈ l ↔ k ∈ m) → l = m
  | [], [], _, _, _ => rfl
  | [], y :: m, _, _, h => by have := (h y).mpr (by simp); simp at this
  | x :: l, [], _, _, h => by have := (h x).mp (by simp); simp at this
  | x :: l, y :: m, hl, hm, h => by
    obtain ⟨l1, l2⟩ := List.pairwise_cons.mp hl
    obtain ⟨m1, m2⟩ := List.pairwise_cons.mp hm
    have e : x = y := by
      have a := (h x).mp (by simp)
      have b := (h y).mpr (by simp)
      rcases List.mem_cons.mp a with a | a
      · exact a
      · rcases List.mem_cons.mp b with b | b
        · exact b.symm
        · have := l1 y b; have := m1 x a; omega
    subst e
    rw [up_uniq l2 m2 fun k => ?_]
    constructor
    · intro hk
      rcases List.mem_cons.mp ((h k).mp (by simp [hk])) with e | e
      · subst e; have := l1 k hk; omega
      · exact e
    · intro hk
      rcases List.mem_cons.mp ((h k).mpr (by simp [hk])) with e | e
      · subst e; have := m1 k hk; omega
      · exact e
theorem intsD_eq : ∀ {ds : List D} {ns : List Int}, intsD ds = some ns → ds = ns.map .int
  | [], _, h => by cases h; rfl
  | d :: ds, ns, h => by
    cases d <;> first | cases h | skip
    rename_i i
    have h' : (intsD ds).map (i :: ·) = some ns := h
    rw [Option.map_eq_some_iff] at h'
    obtain ⟨r, h1, rfl⟩ := h'
    rw [intsD_eq h1]; rfl
variable [Cfg] [Fix]
theorem reps_ints {Z : Hp} : ∀ {vs : List V} {ns : List Int}, Reps Z vs (ns.map .int) → vs = ns.map V.int
  | [], [], _ => rfl
  | [], _ :: _, r => by cases r
  | _ :: _, [], r => by cases r
  | v :: vs, n :: ns, r => by
    cases r with | cons a b =>
    cases a
    rw [reps_ints b]; rfl
theorem ints_reps {Z : Hp} : ∀ (ns : List Int), Reps Z (ns.map V.int) (ns.map .int)
  | [] => .nil
  | n :: ns => .cons (.int n) (ints_reps ns)
section
variable {X : Cx} {W : WX} {cls : Cls} {FN N : List Str} {sc : Scope} {k : Nat} {GL : Str → Option D} {C : Orc} {pos : Pos}
theorem s_sortset {a : E} {x : Expr} {p p2 pos2 : Pos} (S : SC X FN N sc k GL C cls) (hg : gloB sc "sorted" = true) (hg2 : gloB sc "set" = true) (hs : isStar x = false) (ha : PE X x (tO X.prog X.w W cls fun g => opn a (ev GL C a g) g)) :
    PE X (.Call (.Name "sorted" p) [.Call (.Name "set" p2) [x] [] pos2] [] pos) (tE X.prog X.w W cls (ev GL C (.sortset a))) :=
  pe_to (pe_callB (cr_sortedSet S.calm) (S.gl hg) S.bi PyProof.Rows.boot_sorted (pa_cons (pe_callTy (cr_setOfL S.calm) (S.gl hg2) S.bi PyProof.Rows.boot_set (pa_cons ha pa_nil (star_no hs)) (glo_of hg2).2.2 (glo_of hg2).2.1 (star_no hs) rfl) pa_nil rfl) (glo_of hg).2.2 (glo_of hg).2.1 rfl rfl) fun σ H Q ⟨H0, Z0, g, Z, sr, po⟩ => by
    rw [ev] at po
    refine ⟨H0, Z0, g, Z, sr, po.bd.mono fun o g1 H1 Z1 sr1 zz1 po1 v ov => ?_⟩
    obtain ⟨⟨d', m'⟩, e, hk⟩ := po1.ofO
    cases q : o.get g1 with
    | none => rw [q] at e; cases e
    | some dm =>
      rw [q] at e
      have e' : sortsetD dm.1 = some (d', m') := e
      have hh := ov.get sr1 q
      obtain ⟨d, m⟩ := dm
      unfold sortsetD at e'
      split at e'
      · rename_i xs ed
        cases ed
        obtain ⟨ns, h1, h2⟩ := Option.bind_eq_some_iff.mp e'
        split at h2
        · rename_i hn
          cases h2
          have ex := intsD_eq h1
          subst ex
          obtain ⟨b, vs, rfl, rd, rs⟩ := hh.list sr1.zh
          have ev := reps_ints rs
          subst ev
          refine ⟨b, ns, rfl, .inl rd, by omega, fun p c hp hc => ⟨p, _, c, rfl, upd_same, by omega, fun ms p' hup hmem hlen hp' => ?_⟩⟩
          have em : ms = sortI ns := up_uniq hup (sortI_up ns) fun k => by
            rw [hmem, sortI_mem]; simp
          rw [em]
          have sr2 := sr1.tr (Tr.laid (o := SetO X.w p (fun j => decide (j ∈ ns)) c) sr1.zh hp)
          exact fin_list sr2 (fun H' Z' s z => hk H' Z' s z) (ints_reps _) p' hp'
        · cases h2
      · cases e'
end
end DL

set_option Elab.async false
set_option linter.all false
set_option maxRecDepth 100000
/-! D17: sorted(list) of plain data. -/
namespace DL
open PySem L2 PySem.Spec PyProof.Rows PySem.SeqAt SrtO

/-! ### reading plain data off the heap -/
mutual
theorem reads_keep {h h' : Heap} {a : Addr} (k : ∀ b o, b ≠ a → h.get? b = some o → h'.get? b = some o) (ha : ∀ o, h.get? a = some o → o.cls ≠ .type "tuple") :
    ∀ (d : D) (v : Value) (as : List Addr), keyOk d = true → Reads h v d as → Reads h' v d as
  | .int i, _, _, _, r => by cases r; exact .int i _
  | .str i, _, _, _, r => by cases r; exact .str i _
  | .tuple xs, _, _, p, r => by
    cases r with
    | tuple e1 e2 e3 e4 => exact .tuple (k _ _ (fun z => by subst z; exact ha _ e1 e2) e1) e2 e3 (readsAll_keep k ha xs _ _ (by simpa [keyOk] using p) e4)
  | .none, _, _, p, _ => by simp [keyOk] at p
  | .bool _, _, _, p, _ => by simp [keyOk] at p
  | .list _, _, _, p, _ => by simp [keyOk] at p
  | .dict _, _, _, p, _ => by simp [keyOk] at p
theorem readsAll_keep {h h' : Heap} {a : Addr} (k : ∀ b o, b ≠ a → h.get? b = some o → h'.get? b = some o) (ha : ∀ o, h.get? a = some o → o.cls ≠ .type "tuple") :
    ∀ (ds : List D) (vs : List Value) (as : List Addr), plainAll ds = true → ReadsAll h vs ds as → ReadsAll h' vs ds as
  | [], _, _, _, r => by cases r; exact .nil
  | d :: ds, _, _, p, r => by
    simp only [plainAll, keyOk.keyOkAll, Bool.and_eq_true] at p
    cases r with
    | cons a b => exact .cons (reads_keep k ha d _ _ p.1 a) (readsAll_keep k ha ds _ _ p.2 b)
end
/-- what an item of sorted is -/
def RdP (h : Heap) (v : Value) (d : D) : Prop := (∃ as, Reads h v d as) ∧ keyOk d = true ∧ d.canLay0 = true ∧ d.depth ≤ 100
open Classical in
noncomputable def rdF (h : Heap) (v : Value) : D := if q : ∃ d, RdP h v d then Classical.choose q else .int 0
theorem rdF_eq {h : Heap} {v : Value} {d : D} (r : RdP h v d) : rdF h v = d := by
  unfold rdF
  rw [dif_pos ⟨d, r⟩]
  obtain ⟨⟨as, r1⟩, _⟩ := r
  obtain ⟨⟨bs, r2⟩, _⟩ := Classical.choose_spec (⟨d, ⟨as, r1⟩, by assumption⟩ : ∃ d, RdP h v d)
  exact (Reads.unique r2 _ _ r1).1
theorem rdF_plain (h : Heap) (v : Value) : keyOk (rdF h v) = true := by
  unfold rdF
  split
  · rename_i q
    exact (Classical.choose_spec q).2.1
  · rfl
/-- the order of the items -/
noncomputable def ltV (h : Heap) (v u : Value) : Bool := ltB (rdF h v) (rdF h u)
theorem swoV (h : Heap) : Swo (ltV h) := ⟨fun x y q => ltB_asym q, fun x y z q1 q2 => ltB_tr (rdF_plain h x) (rdF_plain h y) (rdF_plain h z) q1 q2⟩

/-! ### two items compared -/
section
variable {prog : Program} {w : World} {A : Around} {s : Shared}
theorem kat_data {b fin : Bool} {Q : Bool → Shared → Prop} : ∀ (xs ys : List D) (vs us : List Value) (as bs : List Addr) (i : Nat) (r : Bool), ReadsAll s.heap vs xs as → ReadsAll s.heap us ys bs → plainAll xs = true → plainAll ys = true →
    PyData.canLayAll0 xs = true → PyData.canLayAll0 ys = true → PyData.depthAll xs ≤ 100 → A.units + 101 < cLine → fin = decide (xs.length < ys.length) → ltD.ltAll xs ys = some r →
    (∀ x y, (b && i == 0) = true → xs[0]? = some x → ys[0]? = some y → ∃ p q, x = .str p ∧ y = .str q) → Q r s → PySem.W.KatLex prog w A b fin Q (vs.zip us) i s
  | [], [], _, _, _, _, i, r, ra, rb, _, _, _, _, _, _, hf, h, _, q => by
    cases ra; cases rb
    simp [ltD.ltAll] at h
    simp at hf
    subst h hf
    exact PySem.W.kat_nil q
  | [], _ :: _, _, _, _, _, i, r, ra, rb, _, _, _, _, _, _, hf, h, _, q => by
    cases ra; cases rb
    simp [ltD.ltAll] at h
    simp at hf
    subst h hf
    exact PySem.W.kat_nil q
  | _ :: _, [], _, _, _, _, i, r, ra, rb, _, _, _, _, _, _, hf, h, _, q => by
    cases ra; cases rb
    simp [ltD.ltAll] at h
    simp at hf
    subst h hf
    exact PySem.W.kat_nil q
  | x :: xs, y :: ys, _, _, _, _, i, r, ra, rb, px, py, lx, ly, dx, hu, hf, h, h0, q => by
    simp only [plainAll, keyOk.keyOkAll, Bool.and_eq_true] at px py
    simp only [PyData.canLayAll0, Bool.and_eq_true] at lx ly
    simp only [PyData.depthAll] at dx
    have dx1 : x.depth ≤ 100 := by omega
    have dx2 : PyData.depthAll xs ≤ 100 := by omega
    cases ra with
    | cons a1 a2 =>
      cases rb with
      | cons b1 b2 =>
        rw [ltD.ltAll] at h
        refine PySem.W.kat_cons (eqAt_reads x y A s _ _ _ _ a1 b1 lx.1 ly.1 (by have := Nat.min_le_left x.depth y.depth; omega) prog w _ _ ?_)
        refine PySem.W.kat_go (fun e => ?_) (fun e => ?_)
        · rw [if_pos e] at h
          exact PySem.W.kat_yes (kat_data xs ys _ _ _ _ (i + 1) r a2 b2 px.2 py.2 lx.2 ly.2 dx2 hu (by rw [hf]; simp) h (fun x y hb => by simp at hb) q)
        · rw [if_neg (by rw [e]; decide)] at h
          refine PySem.W.kat_no ?_
          cases c : (b && i == 0) with
          | true =>
            obtain ⟨p, p', rfl, rfl⟩ := h0 x y c rfl rfl
            cases a1; cases b1
            simp only [ltD, Option.some.injEq] at h
            subst h
            exact oneLt_str q
          | false => exact PySem.W.kat_one _ _ (lt_reads 100 x y r A s _ _ _ _ dx1 a1 b1 lx.1 ly.1 px.1 py.1 (by omega) h prog w _ _ q)
theorem fst_items {d : D} (h : fstStr d = true ∨ fstTup d = true) : ∃ x xs, d = .tuple (x :: xs) ∧ ((fstStr d = true ∧ ∃ p, x = .str p) ∨ (fstTup d = true ∧ ∃ p, x = .tuple p)) := by
  unfold fstStr fstTup at h
  rcases h with h | h
  · split at h
    · exact ⟨_, _, rfl, .inl ⟨rfl, _, rfl⟩⟩
    · cases h
  · split at h
    · exact ⟨_, _, rfl, .inr ⟨rfl, _, rfl⟩⟩
    · cases h
/-- the first items -/
theorem kat_tups {h : Heap} {T : Value} (b : Bool) (hb : (b = true ∧ T = .type "str") ∨ (b = false ∧ T = .type "tuple")) : ∀ (vs : List Value), (∀ v ∈ vs, ∃ d, RdP h v d ∧ (if b = true then fstStr d = true else fstTup d = true)) →
    ∃ fs : List Value, PySem.W.KatTups h vs fs ∧ fs.length = vs.length ∧ ∀ f ∈ fs, ∀ M : Model, PySem.W.Looks M h (typeOf f) T
  | [], _ => ⟨[], PySem.W.KatTups.nil, rfl, fun f hf => by cases hf⟩
  | v :: vs, hv => by
    obtain ⟨fs, h1, h2, h3⟩ := kat_tups b hb vs fun u hu => hv u (List.mem_cons_of_mem _ hu)
    obtain ⟨d, ⟨⟨as, r⟩, hp, _⟩, hk⟩ := hv v List.mem_cons_self
    have : ∃ x xs, d = .tuple (x :: xs) ∧ ((b = true ∧ ∃ p, x = .str p) ∨ (b = false ∧ ∃ p, x = .tuple p)) := by
      cases b with
      | true =>
        obtain ⟨x, xs, rfl, q⟩ := fst_items (.inl hk)
        rcases q with ⟨_, p, rfl⟩ | ⟨q, p, rfl⟩
        · exact ⟨_, _, rfl, .inl ⟨rfl, p, rfl⟩⟩
        · cases hk
      | false =>
        obtain ⟨x, xs, rfl, q⟩ := fst_items (.inr hk)
        rcases q with ⟨_, p, rfl⟩ | ⟨q, p, rfl⟩
        · cases hk
        · exact ⟨_, _, rfl, .inr ⟨rfl, p, rfl⟩⟩
    obtain ⟨x, xs, rfl, hx⟩ := this
    cases r with
    | tuple e1 e2 e3 e4 =>
      rename_i a o us n
      obtain ⟨us⟩ := us
      cases us with
      | nil => cases e4
      | cons u0 us =>
        cases e4 with
        | cons f1 f2 =>
          refine ⟨u0 :: fs, PySem.W.KatTups.cons e1 e2 e3 (by simp) h1, by simp [h2], fun f hf M => ?_⟩
          rcases List.mem_cons.mp hf with rfl | hf
          · rcases hx with ⟨rfl, p, rfl⟩ | ⟨rfl, p, rfl⟩
            · rcases hb with ⟨_, rfl⟩ | ⟨z, _⟩
              · cases f1; exact PySem.W.Looks.now
              · cases z
            · rcases hb with ⟨z, _⟩ | ⟨_, rfl⟩
              · cases z
              · cases f1 with
                | tuple g1 g2 g3 g4 =>
                  have q := show PySem.W.Looks M h (typeOf (.ref _)) _ from (PySem.W.Looks.ld g1).andThen .now
                  rw [g2] at q
                  exact q
          · exact h3 f hf M
/-- two of the items compare -/
theorem cmp_data {h : Heap} {b : Bool} {vs : List Value} {ds : List D} (hh : s.heap = h) (hs : ∀ x ∈ ds, ∀ y ∈ ds, (ltD x y).isSome = true) (hv : ∀ v ∈ vs, ∃ d, d ∈ ds ∧ RdP h v d ∧ (if b = true then fstStr d = true else fstTup d = true)) {ltv : Value → Value → Bool} (hlt : ∀ v u d e, v ∈ vs → u ∈ vs → RdP h v d → RdP h u e → ltv v u = ltB d e) (hu : A.units + 101 < cLine) :
    Cmp prog w A s (tuples' b) (fun p => p.1 ∈ vs) (lt2 ltv) := by
  subst hh
  intro p q hp hq
  obtain ⟨d, hd, rd, kd⟩ := hv _ hp
  obtain ⟨e, he, re, ke⟩ := hv _ hq
  show wpAny (model prog w) A (keyLt' (tuples' b) p.1 q.1) (fun r s' => s' = s ∧ r = ltv p.1 q.1) (fun _ _ => False) s
  rw [hlt _ _ _ _ hp hq rd re]
  obtain ⟨r, hr⟩ := Option.isSome_iff_exists.mp (hs d hd e he)
  obtain ⟨⟨as, r1⟩, pd, ld, dd⟩ := rd
  obtain ⟨⟨bs, r2⟩, pe, le, de⟩ := re
  rw [← ltD_plain d e r pd pe hr]
  have sh : ∀ d : D, (if b = true then fstStr d = true else fstTup d = true) → ∃ x xs, d = .tuple (x :: xs) ∧ (b = true → ∃ p, x = .str p) := fun d k => by
    cases b with
    | true =>
      obtain ⟨x, xs, rfl, q⟩ := fst_items (.inl k)
      rcases q with ⟨_, p, rfl⟩ | ⟨q, p, rfl⟩
      · exact ⟨_, _, rfl, fun _ => ⟨p, rfl⟩⟩
      · cases k
    | false =>
      obtain ⟨x, xs, rfl, q⟩ := fst_items (.inr k)
      exact ⟨_, _, rfl, fun z => by cases z⟩
  obtain ⟨x, xs, rfl, hx⟩ := sh d kd
  obtain ⟨y, ys, rfl, hy⟩ := sh e ke
  generalize hd1 : x :: xs = xs1 at *
  generalize hd2 : y :: ys = ys1 at *
  generalize p.1 = pv at *
  generalize q.1 = qv at *
  cases r1 with
  | tuple a1 a2 a3 a4 =>
    cases r2 with
    | tuple b1 b2 b3 b4 =>
      refine PySem.W.kat_lt a1 a3 b1 b3 (kat_data xs1 ys1 _ _ _ _ 0 r a4 b4 (by simpa [keyOk] using pd) (by simpa [keyOk] using pe) (by simpa [PyData.canLay0] using ld) (by simpa [PyData.canLay0] using le) (by simp [PyData.depth] at dd; omega) hu ?_ (by simpa [ltD] using hr) ?_ ⟨rfl, rfl⟩)
      · obtain ⟨l1, _⟩ := readsAll_get a4
        obtain ⟨l2, _⟩ := readsAll_get b4
        rw [← l1, ← l2]; simp
      · intro u v hb h1 h2
        have hb' : b = true := by simpa using hb
        subst hd1 hd2
        simp at h1 h2
        subst h1 h2
        obtain ⟨p1, e1⟩ := hx hb'
        obtain ⟨p2, e2⟩ := hy hb'
        exact ⟨p1, p2, e1, e2⟩
end
/-! ### there is one sorted list -/
abbrev Up (l : List D) : Prop := l.Pairwise fun x y => ltB y x = false
theorem up_one : ∀ {l m : List D}, (∀ x ∈ l, keyOk x = true) → Up l → Up m → l.Perm m → l = m
  | [], m, _, _, _, p => (List.Perm.nil_eq p)
  | x :: l, [], _, _, _, p => absurd p.length_eq (by simp)
  | x :: l, y :: m, hk, hl, hm, p => by
    have hx : x ∈ y :: m := p.mem_iff.mp List.mem_cons_self
    have hy : y ∈ x :: l := p.mem_iff.mpr List.mem_cons_self
    have e : x = y := by
      by_cases c : x = y
      · exact c
      · have h1 : ltB x y = false := (List.pairwise_cons.mp hm).1 x ((List.mem_cons.mp hx).resolve_left c)
        have h2 : ltB y x = false := (List.pairwise_cons.mp hl).1 y ((List.mem_cons.mp hy).resolve_left (fun z => c z.symm))
        exact ltB_total (hk x List.mem_cons_self) (hk y hy) h1 h2
    subst e
    rw [up_one (fun z hz => hk z (List.mem_cons_of_mem _ hz)) (List.pairwise_cons.mp hl).2 (List.pairwise_cons.mp hm).2 (List.Perm.cons_inv p)]
theorem insD_perm (x : D) : ∀ l : List D, (insD x l).Perm (x :: l)
  | [] => .refl _
  | y :: ys => by
    unfold insD
    split
    · exact ((insD_perm x ys).cons y).trans (List.Perm.swap x y ys)
    · exact .refl _
theorem sortD_perm : ∀ l : List D, (sortD l).Perm l
  | [] => .refl _
  | x :: xs => (insD_perm x (sortD xs)).trans ((sortD_perm xs).cons x)
theorem insD_up {x : D} (px : keyOk x = true) : ∀ {l : List D}, (∀ y ∈ l, keyOk y = true ∧ (ltD y x).isSome = true) → Up l → Up (insD x l)
  | [], _, _ => List.pairwise_singleton _ _
  | y :: ys, h, u => by
    obtain ⟨hy, c⟩ := h y List.mem_cons_self
    obtain ⟨r, hr⟩ := Option.isSome_iff_exists.mp c
    have er := ltD_plain y x r hy px hr
    obtain ⟨u1, u2⟩ := List.pairwise_cons.mp u
    unfold insD
    by_cases q : r = true
    · subst q
      rw [if_pos hr]
      refine List.pairwise_cons.mpr ⟨fun z hz => ?_, insD_up px (fun z hz => h z (List.mem_cons_of_mem _ hz)) u2⟩
      rcases List.mem_cons.mp ((insD_perm x ys).mem_iff.mp hz) with rfl | hz
      · exact ltB_asym er.symm
      · exact u1 z hz
    · have q' : r = false := by simpa using q
      subst q'
      rw [if_neg (by rw [hr]; simp)]
      refine List.pairwise_cons.mpr ⟨fun z hz => ?_, u⟩
      rcases List.mem_cons.mp hz with rfl | hz
      · exact er.symm
      · exact ltB_tr px hy (h z (List.mem_cons_of_mem _ hz)).1 er.symm (u1 z hz)
theorem sortD_up : ∀ {l : List D}, (∀ x ∈ l, keyOk x = true) → (∀ x ∈ l, ∀ y ∈ l, (ltD x y).isSome = true) → Up (sortD l)
  | [], _, _ => List.Pairwise.nil
  | x :: xs, h, c => by
    refine insD_up (h x List.mem_cons_self) (fun y hy => ?_) (sortD_up (fun z hz => h z (List.mem_cons_of_mem _ hz)) fun a ha b hb => c a (List.mem_cons_of_mem _ ha) b (List.mem_cons_of_mem _ hb))
    have hy' : y ∈ xs := (sortD_perm xs).mem_iff.mp hy
    exact ⟨h y (List.mem_cons_of_mem _ hy'), c y (List.mem_cons_of_mem _ hy') x List.mem_cons_self⟩
structure SortOk (ds : List D) : Prop where
  plain : ∀ d ∈ ds, keyOk d = true ∧ d.canLay0 = true ∧ d.depth ≤ 100
  cmp : ∀ x ∈ ds, ∀ y ∈ ds, (ltD x y).isSome = true
  sz : ds.length ≤ sizeLine
  kind : ds.length < 2 ∨ (∀ d ∈ ds, fstStr d = true) ∨ (∀ d ∈ ds, fstTup d = true)
theorem sortOk_of {ds : List D} (h : sortable ds = true) : SortOk ds := by
  unfold sortable at h
  simp only [Bool.and_eq_true, Bool.or_eq_true, List.all_eq_true, decide_eq_true_eq] at h
  obtain ⟨⟨⟨h1, h2⟩, h3⟩, h4⟩ := h
  refine ⟨fun d hd => ⟨(h1 d hd).1.1, (h1 d hd).1.2, (h1 d hd).2⟩, h2, h3, ?_⟩
  rcases h4 with (h4 | h4) | h4
  · exact .inl h4
  · exact .inr (.inl h4)
  · exact .inr (.inr h4)
theorem paired_mem {α β : Type} {F : α → β → Prop} : ∀ {l : List α} {m : List β}, Paired F l m → ∀ a ∈ l, ∃ b, b ∈ m ∧ F a b
  | _, _, .nil, a, h => by cases h
  | _, _, .cons r t, a, h => by
    rcases List.mem_cons.mp h with rfl | h
    · exact ⟨_, List.mem_cons_self, r⟩
    · obtain ⟨b, h1, h2⟩ := paired_mem t a h
      exact ⟨b, List.mem_cons_of_mem _ h1, h2⟩
theorem paired_rdF {h : Heap} : ∀ {vs : List Value} {ds : List D}, Paired (RdP h) vs ds → vs.map (rdF h) = ds
  | _, _, .nil => rfl
  | _, _, .cons r t => by rw [List.map_cons, rdF_eq r, paired_rdF t]
section
variable {prog : Program} {w : World} {A : Around} {E : Value → Shared → Prop} {s : Shared}
theorem sorted_data {l : Addr} {vs : List Value} {ds : List D} {Q : Value → Shared → Prop} (hl : s.heap.IsList l vs.toArray) (hp : Paired (RdP s.heap) vs ds) (ok : SortOk ds) (hu : A.units + 110 < cLine)
    (h : ∀ (h' : Heap) (d : Addr) (out : List Value), out.Perm vs → out.map (rdF s.heap) = sortD ds → (∀ b o, s.heap.get? b = some o → h'.get? b = some o) → s.heap.objs.size ≤ d → (∃ n, h'.get? d = some (seqObj "list" out.toArray n)) → Q (.ref d) { s with heap := h' }) :
    wpAny (model prog w) A (call (.builtin "sorted") [.ref l]) Q E s := by
  have hlen : vs.length = ds.length := Paired.length hp
  have ein : A.in1.in1.units = A.units + 2 := rfl
  refine sorted_ord (swoV s.heap) hl (by rw [hlen]; exact ok.sz) (fun h2 h₁ a ha kk => ?_) fun out hs hb => ?_
  · intro h' keep
    have nt : ∀ o, h₁.get? a = some o → o.cls ≠ .type "tuple" := fun o e => by
      have e' : some o = some (seqObj "list" vs.toArray 0) := e.symm.trans ha
      cases e'
      intro c
      exact absurd (Value.type.inj c) (by decide)
    have up : ∀ {v : Value} {d : D}, RdP s.heap v d → RdP h' v d := fun {v d} ⟨⟨as, r⟩, p1, p2, p3⟩ => by
      have r1 : Reads h₁ v d as := Reads.keeps (fun b o e => (kk b o e).2) r
      exact ⟨⟨as, reads_keep keep nt d v as p1 r1⟩, p1, p2, p3⟩
    have kd : (∀ d ∈ ds, fstStr d = true) ∨ (∀ d ∈ ds, fstTup d = true) := ok.kind.resolve_left (by omega)
    have fin : ∀ (b : Bool) (T : Value), (b = true ∧ T = .type "str") ∨ (b = false ∧ T = .type "tuple") → (∀ d ∈ ds, if b = true then fstStr d = true else fstTup d = true) →
        ∃ κ, (∀ (Q : SortKind → Shared → Prop) (E : Value → Shared → Prop), Q κ { s with heap := h' } → wpAny (model prog w) A.in1.in1 (keyKind' vs.toArray) Q E { s with heap := h' }) ∧ Cmp prog w A.in1.in1 { s with heap := h' } κ (fun p => p.1 ∈ vs) (lt2 (ltV s.heap)) := fun b T hb hk => by
      have hv : ∀ v ∈ vs, ∃ d, d ∈ ds ∧ RdP h' v d ∧ (if b = true then fstStr d = true else fstTup d = true) := fun v hm => by
        obtain ⟨d, h1, h2⟩ := paired_mem hp v hm
        exact ⟨d, h1, up h2, hk d h1⟩
      obtain ⟨fs, f1, f2, f3⟩ := kat_tups (h := h') b hb vs fun v hm => by
        obtain ⟨d, _, h2, h3⟩ := hv v hm
        exact ⟨d, h2, h3⟩
      refine ⟨tuples' b, fun Q E hq => ?_, cmp_data rfl ok.cmp hv (fun v u d e hv hu r1 r2 => ?_) (by rw [ein]; omega)⟩
      · refine PySem.W.kat_kind (T := T) f1 (by omega) (fun f hm => f3 f hm _) ?_ ?_
        · rcases hb with ⟨_, rfl⟩ | ⟨_, rfl⟩ <;> rfl
        · rcases hb with ⟨rfl, rfl⟩ | ⟨rfl, rfl⟩
          · have e : (Value.type "str" != Value.type "tuple") = true := by first | decide +kernel | rfl | decide
            rw [e]; exact hq
          · have e : (Value.type "tuple" != Value.type "tuple") = false := by first | decide +kernel | rfl | decide
            rw [e]; exact hq
      · obtain ⟨d', _, q1⟩ := paired_mem hp v hv
        obtain ⟨e', _, q2⟩ := paired_mem hp u hu
        have e1 : d = d' := by rw [← rdF_eq r1, rdF_eq (up q1)]
        have e2 : e = e' := by rw [← rdF_eq r2, rdF_eq (up q2)]
        unfold ltV
        rw [rdF_eq q1, rdF_eq q2, e1, e2]
    rcases kd with kd | kd
    · exact fin true _ (.inl ⟨rfl, rfl⟩) (fun d hd => by simpa using kd d hd)
    · exact fin false _ (.inr ⟨rfl, rfl⟩) (fun d hd => by simpa using kd d hd)
  · refine h _ _ out hb.perm ?_ (fun b o e => sortedAll_old e) (Nat.le_succ _) (sortedAll_at s.heap vs out.toArray)
    have pm : (out.map (rdF s.heap)).Perm ds := by
      have := hb.perm.map (rdF s.heap)
      rwa [paired_rdF hp] at this
    refine up_one (fun x hx => (ok.plain x (pm.mem_iff.mp hx)).1) (List.pairwise_map.mpr hs) (sortD_up (fun x hx => (ok.plain x hx).1) ok.cmp) (pm.trans (sortD_perm ds).symm)
end
end DL

set_option Elab.async false
set_option linter.all false
set_option maxRecDepth 100000
/-! D18: sorted(list), the rule. -/
namespace DL
open PySem L2 PySem.Spec PyProof.Rows SrtO
variable [Cfg] [Fix]
theorem out_vals {h : Heap} {Z : Hp} : ∀ (out : List Value), (∀ u ∈ out, ∃ x d, RelV x u ∧ Rep Z x d ∧ RdP h u d) → ∃ outV, Vals outV out ∧ Reps Z outV (out.map (rdF h))
  | [], _ => ⟨[], .nil, .nil⟩
  | u :: out, hu => by
    obtain ⟨x, d, h1, h2, h3⟩ := hu u List.mem_cons_self
    obtain ⟨outV, v1, v2⟩ := out_vals out fun w hw => hu w (List.mem_cons_of_mem _ hw)
    exact ⟨x :: outV, .cons h1 v1, by rw [List.map_cons, rdF_eq h3]; exact .cons h2 v2⟩
section
variable {X : Cx}
def rSorted : List V → Hp → VK → Prop := fun vs H Q => ∃ (a : Addr) (xs : List V) (ds : List D) (Z : Hp), vs = [.ref a] ∧ Rd H a (.lst xs) ∧ Same Z H ∧ Reps Z xs ds ∧ SortOk ds ∧
  ∀ p outV, H p = none → Reps Z outV (sortD ds) → Q (.ref p) (upd H p (.lst outV))
theorem cr_sorted (hu : X.A.units + 110 < cLine) : CallR X (.builtin "sorted") rSorted := fun pins s σ H vs us Q I r h => by
  obtain ⟨a, xs, ds, Z, rfl, hs, zh, rs, ok, q⟩ := h
  obtain ⟨its, rv, pl, hz⟩ := I.list (.inl hs)
  rw [Vals.ref1 r]
  have lay : PyData.canLayAll0 ds = true := by
    have : ∀ l : List D, (∀ d ∈ l, d.canLay0 = true) → PyData.canLayAll0 l = true := fun l => by
      induction l with
      | nil => intro _; simp [PyData.canLayAll0]
      | cons d l ih => intro hl; simp [PyData.canLayAll0, hl d List.mem_cons_self, ih fun e he => hl e (List.mem_cons_of_mem _ he)]
    exact this ds fun d hd => (ok.plain d hd).2.1
  have pair : ∀ (ds : List D) (xs : List V) (its : List Value), Reps Z xs ds → Vals xs its → (∀ d ∈ ds, keyOk d = true ∧ d.canLay0 = true ∧ d.depth ≤ 100) → Paired (RdP s.heap) its ds ∧ ∀ u ∈ its, ∃ x d, RelV x u ∧ Rep Z x d ∧ RdP s.heap u d := by
    intro ds
    induction ds with
    | nil =>
      intro xs its r v _
      cases r; cases v
      exact ⟨.nil, fun u hu => by cases hu⟩
    | cons d ds ih =>
      intro xs its r v hp
      cases r with
      | cons r1 r2 =>
        cases v with
        | cons v1 v2 =>
          obtain ⟨p1, p2⟩ := ih _ _ r2 v2 fun e he => hp e (List.mem_cons_of_mem _ he)
          obtain ⟨k1, k2, k3⟩ := hp d List.mem_cons_self
          obtain ⟨as, rr⟩ := Dp.reads I d _ _ (Rep.dp zh d _ k2 r1) v1
          have rd : RdP s.heap _ d := ⟨⟨as, rr⟩, k1, k2, k3⟩
          refine ⟨.cons rd p1, fun u hu => ?_⟩
          rcases List.mem_cons.mp hu with rfl | hu
          · exact ⟨_, d, v1, r1, rd⟩
          · exact p2 u hu
  obtain ⟨p1, p2⟩ := pair ds xs its rs rv ok.plain
  refine sorted_data pl.isList p1 ok hu fun h' d out hperm hmap kp hd hget => ?_
  obtain ⟨n, hget⟩ := hget
  obtain ⟨outV, w1, w2⟩ := out_vals (h := s.heap) (Z := Z) out fun u hu => p2 u (hperm.mem_iff.mp hu)
  rw [hmap] at w2
  have hf : H d = none := I.hok.fresh hd
  have hlen : outV.length ≤ sizeLine := by
    rw [w2.length, (sortD_perm ds).length_eq]; exact ok.sz
  exact ⟨.ref d, _, I.laid (t' := s.toks) kp hd (show ObjOk X.prog X.w (upd H d (.lst outV)) h' d (.lst outV) from ⟨hlen, out, n, w1, hget⟩), rfl, q d outV hf w2⟩
end
section
variable {X : Cx} {W : WX} {cls : Cls} {FN N : List Str} {sc : Scope} {k : Nat} {GL : Str → Option D} {C : Orc} {pos : Pos}
theorem s_sorted {a : E} {x : Expr} {p : Pos} (S : SC X FN N sc k GL C cls) (hg : gloB sc "sorted" = true) (hs : isStar x = false) (ha : PE X x (tO X.prog X.w W cls fun g => opn a (ev GL C a g) g)) :
    PE X (.Call (.Name "sorted" p) [x] [] pos) (tE X.prog X.w W cls (ev GL C (.sorted a))) := by
  have e : ev GL C (.sorted a) = fun g => (opn a (ev GL C a g) g).bd fun x g => ofO ((x.get g).bind sortedD) g := by funext g; rw [ev]
  rw [e]
  refine s_bi1 (f := Value.none) S hg (by decide) PyProof.Rows.boot_sorted hs (cr_sorted (by have := S.room.un; omega)) ha sortedD fun H0 Z0 g σ H Z v d m d' m' Q sr hh hno hF hk => ?_
  cases d with
  | list xs =>
    have hF : (if sortable xs then some ((.list (sortD xs), .ow) : D × Md) else none) = some (d', m') := hF
    split at hF
    · rename_i ok
      cases hF
      obtain ⟨b, vs, rfl, rd, rs⟩ := hh.list sr.zh
      exact ⟨b, vs, xs, Z, rfl, rd, sr.zh, rs, sortOk_of ok, fun p outV hp w => fin_list sr hk w p hp⟩
    · cases hF
  | _ => cases hF
end
end DL

set_option Elab.async false
set_option linter.all false
set_option maxRecDepth 100000
/-! D19: dicts whose keys are ints: copied, popped from, compared, stored in. -/
namespace DL
open PySem L2 PySem.Spec PyProof.Rows PySem.SeqAt
variable [Cfg] [Fix]

section
variable {Z : Hp}
theorem repks_any {kvs : List (Key × V)} {es : List (D × D)} (r : RepKs Z kvs es) (i : Int) : (kvs.any fun kv => decide (kv.1 = Sum.inl i)) = hasKey es (.int i) := by
  rw [valV_any]; exact repks_has r i
theorem repks_map {kvs : List (Key × V)} {es : List (D × D)} (r : RepKs Z kvs es) (i : Int) {v : V} {d : D} (rv : Rep Z v d) : RepKs Z (kvs.map fun kv => if kv.1 = Sum.inl i then (kv.1, v) else kv) (es.map fun p => if PyData.eqv p.1 (.int i) then (p.1, d) else p) := by
  induction kvs generalizing es with
  | nil => cases r; exact .nil
  | cons kv kvs ih =>
    cases r with
    | @cons k v0 d0 _ es' rv0 r =>
      simp only [List.map_cons]
      by_cases hk : k = i
      · subst hk
        have e1 : PyData.eqv (.int k) (.int k) = true := by simp [PyData.eqv]
        simp only [e1, if_true]
        exact .cons rv (ih r)
      · have e1 : PyData.eqv (.int k) (.int i) = false := by simp [PyData.eqv, hk]
        have e2 : ¬ (Sum.inl k : Key) = Sum.inl i := fun z => hk (by cases z; rfl)
        simp only [e1, e2, if_false, Bool.false_eq_true]
        exact .cons rv0 (ih r)
theorem repks_snoc {kvs : List (Key × V)} {es : List (D × D)} (r : RepKs Z kvs es) (i : Int) {v : V} {d : D} (rv : Rep Z v d) : RepKs Z (kvs ++ [(Sum.inl i, v)]) (es ++ [(.int i, d)]) := by
  induction kvs generalizing es with
  | nil => cases r; exact .cons rv .nil
  | cons kv kvs ih => cases r with | cons a b => exact .cons a (ih b)
theorem repks_put {kvs : List (Key × V)} {es : List (D × D)} (r : RepKs Z kvs es) (i : Int) {v : V} {d : D} (rv : Rep Z v d) : RepKs Z (putK kvs (Sum.inl i) v) (putKey es (.int i) d) := by
  unfold putK putKey
  rw [repks_any r]
  split
  · exact repks_map r i rv
  · exact repks_snoc r i rv
theorem repks_drop {kvs : List (Key × V)} {es : List (D × D)} (r : RepKs Z kvs es) (i : Int) : RepKs Z (dropK kvs (Sum.inl i)) (dropKey es (.int i)) := by
  unfold dropK dropKey
  induction kvs generalizing es with
  | nil => cases r; exact .nil
  | cons kv kvs ih =>
    cases r with
    | @cons k v0 d0 _ es' rv0 r =>
      by_cases hk : k = i
      · subst hk
        have e1 : PyData.eqv (.int k) (.int k) = true := by simp [PyData.eqv]
        simp [e1]
        simpa using ih r
      · have e1 : PyData.eqv (.int k) (.int i) = false := by simp [PyData.eqv, hk]
        simp [e1, hk]
        exact .cons rv0 (by simpa using ih r)
end
theorem ownDD_of {i : Nat} {g : Sg} (h : ownDD i g = true) : ∃ es, g[i]? = some (some (.dict es, .ow)) := by
  unfold ownDD at h
  split at h
  · exact ⟨_, by assumption⟩
  · cases h
theorem own_dict {P : Program} {w : World} {H0 Z0 H Z : Hp} {g : Sg} {σ : L2.St} (sr : SR P w H0 Z0 g σ H Z) {i : Nat} {es : List (D × D)} (h : g[i]? = some (some (.dict es, .ow))) : ∃ p kvs, σ[i]? = some (some (.ref p)) ∧ H p = some (.dK kvs) ∧ Z p = none ∧ RepKs Z kvs es := by
  obtain ⟨v, hv, hh⟩ := sr.sl i _ _ h
  cases hh with
  | owd a b c => exact ⟨_, _, hv, b, a, c⟩
section
variable {X : Cx} {W : WX} {cls : Cls} {FN N : List Str} {sc : Scope} {k : Nat} {GL : Str → Option D} {C : Orc} {pos : Pos} {L : Nat}
theorem s_dict {a : E} {x : Expr} {p : Pos} (S : SC X FN N sc k GL C cls) (hg : gloB sc "dict" = true) (hs : isStar x = false) (ha : PE X x (tO X.prog X.w W cls fun g => opn a (ev GL C a g) g)) :
    PE X (.Call (.Name "dict" p) [x] [] pos) (tE X.prog X.w W cls (ev GL C (.dict a))) := by
  have e : ev GL C (.dict a) = fun g => (opn a (ev GL C a g) g).bd fun x g => ofO ((x.get g).bind dictD) g := by funext g; rw [ev]
  rw [e]
  refine s_ty1 (f := Value.none) S hg (by decide) (by decide +kernel) hs call_dictD ha dictD fun H0 Z0 g σ H Z v d m d' m' Q sr h hno e hk => ?_
  have key : ∀ es, d = .dict es → m ≠ .on → d' = .dict es → m' = .ow → ∃ (a : Addr) (kvs : List (Key × V)), [v] = [.ref a] ∧ Rd H a (.dK kvs) ∧ ∀ p, H p = none → Q (.ref p) (upd H p (.dK kvs)) := fun es e1 hm e2 e3 => by
    subst e1 e2 e3
    obtain ⟨b, ks, rfl, e1, rs⟩ := h.dict sr.zh hm
    refine ⟨b, ks, rfl, .inl e1, fun p hp => ?_⟩
    exact hk _ Z (sr.tr (Tr.laid sr.zh hp)) (Same.refl _) _ ⟨.owd (zfree sr.zh hp) upd_same rs, own_new sr hp, noOb_of (by decide)⟩
  unfold dictD at e
  split at e
  · rename_i q; cases e; cases q; exact key _ rfl (by decide) rfl rfl
  · rename_i q; cases e; cases q; exact key _ rfl (by decide) rfl rfl
  · cases e
theorem isD_k {H : Hp} {a : Addr} {kvs : List (Key × V)} (h : H a = some (.dK kvs)) : IsD H a := .inl ⟨kvs, .inl h⟩
theorem s_dpop {i : Nat} {x : Str} {e : Expr} {a : E} {p apos cpos : Pos} (S : SC X FN N sc k GL C cls) (hi : N[i]? = some x) (hv : visB sc x = true) (hx : okN x = true) (hl : (apos.endLine == cpos.line) = true) (hs : isStar e = false)
    (ha : PE X e (tE X.prog X.w W cls (ev GL C a))) : PE X (.Call (.Attribute (.Name x p) "pop" apos) [e] [] cpos) (tE X.prog X.w W cls (ev GL C (.dpop i a))) := by
  obtain ⟨h4, h5⟩ := okN_of hx
  have es1 : starEach [e] X.env = [(false, eval e X.env)] := by rw [star_no hs]; rfl
  have m : M1 X (.Name x p) "pop" apos e cpos := ⟨rfl, by rw [es1] <;> rfl, hl, by rw [es1] <;> rfl⟩
  refine pe_to (pe_dpop1 (pe_var (i := i) (by rw [S.hN]; exact hi) (by rw [S.sc]; exact vis_of hv) h4 h5) ha m) fun σ H Q ⟨H0, Z0, g, Z, sr, po⟩ => ?_
  rw [ev] at po
  split at po
  case isFalse => exact po.elim
  rename_i hod
  have hod' : ∃ es, g[i]? = some (some (.dict es, .ow)) := by
    unfold ownD at hod
    split at hod
    · exact ⟨_, by assumption⟩
    · cases hod
  obtain ⟨es, q⟩ := hod'
  obtain ⟨b, kvs, hs', hp, zp, rs⟩ := own_dict sr q
  refine ⟨.ref b, hs', b, rfl, isD_k hp, H0, Z0, g, Z, sr, po.bd.mono fun p g1 H1 Z1 sr1 zz po1 v ov => ?_⟩
  obtain ⟨d, md⟩ := p
  dsimp only at po1
  split at po1
  case h_2 => exact po1.elim
  rename_i es1 q1
  split at po1
  case isFalse => exact po1.elim
  rename_i hint
  obtain ⟨j, rfl⟩ := int_key hint
  split at po1
  case h_2 => exact po1.elim
  rename_i r hr
  obtain ⟨b1, kvs1, hs1, hp1, zp1, rs1⟩ := own_dict sr1 q1
  rw [hs'] at hs1
  cases hs1
  obtain ⟨v', h1, h2⟩ := repks_get rs1 hr
  refine ⟨kvs1, Sum.inl j, v', hp1, ov.hold.int, h1, ?_⟩
  have sr' := sr1.mut (p := b) (o := .dK (dropK kvs1 (Sum.inl j))) (d' := .dict (dropKey es1 (.int j))) q1 (by decide) hs' (by rw [hp1]; exact fun z => by cases z) (.owd zp1 upd_same (repks_drop rs1 j))
  exact po1 _ Z1 sr' (Same.refl _) v' (Out.fr h2)

/-! ### two dicts that are alike -/
theorem hits_data {A : Around} {s : Shared} {H : Hp} {pins : List (Addr × Obj)} {σ : L2.St} (I : Inv X pins σ H s) {Z : Hp} (zh : Same Z H) (hu : A.units + 100 < cLine) {ls : List (Key × V)} {vb : List (Key × Value)} (rb : KV ls vb) {fs : List (D × D)} (rl : RepKs Z ls fs) {ks : List (Key × V)} {va : List (Key × Value)} (ra : KV ks va) :
    ∀ {es : List (D × D)}, RepKs Z ks es → (∀ p ∈ es, plainD p.2 = true ∧ ∃ v, getKey fs p.1 = some v ∧ plainD v = true ∧ PyData.eqv p.2 v = true) → PySem.W.KeqHits A s vb va true := by
  unfold KV at ra
  induction ra with
  | nil => intro es _ _; exact .nil
  | @cons p q ps qs h t ih =>
    intro es re hp
    obtain ⟨h1, h2⟩ := h
    cases re with
    | @cons k v d _ es' rv re =>
      obtain ⟨pd, v2, g2, pd2, ev2⟩ := hp (.int k, d) List.mem_cons_self
      obtain ⟨w2, hw2, rw2⟩ := repks_get rl g2
      have rr : RelO (some w2) (valueAt vb (Sum.inl k)) := by rw [← hw2]; exact rb.val _
      obtain ⟨y, hy, ry⟩ := rr.some_of
      obtain ⟨k', v'⟩ := q
      have h1' : Sum.inl k = k' := h1
      subst h1'
      have k1 := plainD_of pd
      have k2 := plainD_of pd2
      obtain ⟨as, r1⟩ := Dp.reads I d _ _ (Rep.dp zh d _ k1.2.1 rv) h2
      obtain ⟨bs, r2⟩ := Dp.reads I v2 _ _ (Rep.dp zh v2 _ k2.2.1 rw2) ry
      have e := eqAt_reads d v2 A s v' y as bs r1 r2 k1.2.1 k2.2.1 (by have := Nat.min_le_left d.depth v2.depth; have := k1.2.2; omega)
      rw [ev2] at e
      show PySem.W.KeqHits A s vb ((Sum.inl k, v') :: qs) (true && true)
      exact .hit hy e (ih re fun p hm => hp p (List.mem_cons_of_mem _ hm))
def rAlike (n : Bool) : R2 := fun x y H Q => ∃ a b ks ls es fs Z, x = .ref a ∧ y = .ref b ∧ H a = some (.dK ks) ∧ H b = some (.dK ls) ∧ Same Z H ∧ RepKs Z ks es ∧ RepKs Z ls fs ∧ es.length = fs.length ∧
  (∀ p ∈ es, plainD p.2 = true ∧ ∃ v, getKey fs p.1 = some v ∧ plainD v = true ∧ PyData.eqv p.2 v = true) ∧ Q (.bl (!n)) H
theorem op_alike (hu : X.A.units + 200 < cLine) : OpR X (compareOp .Eq) (rAlike false) := by
  intro pins s σ H x y v u Q I rx ry h
  obtain ⟨a, b, ks, ls, es, fs, Z, rfl, rfl, ea, eb, zh, r1, r2, hlen, hp, q⟩ := h
  obtain rfl : v = Value.ref a := rx
  obtain rfl : u = Value.ref b := ry
  obtain ⟨_, ya, va, ra, da⟩ := (show ObjOk X.prog X.w H s.heap a (.dK ks) from I.hok a _ ea)
  obtain ⟨_, yb, vb, rb, db⟩ := (show ObjOk X.prog X.w H s.heap b (.dK ls) from I.hok b _ eb)
  have hl : va.length = vb.length := by rw [← ra.length, ← rb.length, r1.length, r2.length]; exact hlen
  exact PySem.W.keq_eq (knd := mixKind X.prog X.w) (r := true) ya yb da db (by omega) (fun _ => hits_data I zh (by show X.A.units + 1 + 100 < cLine; omega) rb r2 ra r1 hp) ⟨.bl true, H, I, by simp [hl]; rfl, q⟩
theorem op_nalike (hu : X.A.units + 200 < cLine) : OpR X (compareOp .NotEq) (rAlike true) := by
  intro pins s σ H x y v u Q I rx ry h
  obtain ⟨a, b, ks, ls, es, fs, Z, rfl, rfl, ea, eb, zh, r1, r2, hlen, hp, q⟩ := h
  obtain rfl : v = Value.ref a := rx
  obtain rfl : u = Value.ref b := ry
  obtain ⟨_, ya, va, ra, da⟩ := (show ObjOk X.prog X.w H s.heap a (.dK ks) from I.hok a _ ea)
  obtain ⟨_, yb, vb, rb, db⟩ := (show ObjOk X.prog X.w H s.heap b (.dK ls) from I.hok b _ eb)
  have hl : va.length = vb.length := by rw [← ra.length, ← rb.length, r1.length, r2.length]; exact hlen
  exact PySem.W.keq_ne (knd := mixKind X.prog X.w) (r := true) ya yb da db (by omega) (fun _ => hits_data I zh (by show X.A.units + 1 + 100 < cLine; omega) rb r2 ra r1 hp) ⟨.bl false, H, I, by simp [hl]; rfl, q⟩
theorem alikeD_of {d e : D × Md} (h : alikeD d e = true) : ∃ es fs m m', d = (.dict es, m) ∧ e = (.dict fs, m') ∧ m ≠ .on ∧ m' ≠ .on ∧ es.length = fs.length ∧ ∀ p ∈ es, plainD p.2 = true ∧ ∃ v, getKey fs p.1 = some v ∧ plainD v = true ∧ PyData.eqv p.2 v = true := by
  unfold alikeD at h
  split at h
  · rename_i es m fs m'
    simp only [Bool.and_eq_true, decide_eq_true_eq, List.all_eq_true] at h
    obtain ⟨⟨⟨h1, h2⟩, h3⟩, h4⟩ := h
    refine ⟨es, fs, m, m', rfl, rfl, h1, h2, h3, fun p hp => ?_⟩
    obtain ⟨h5, h6⟩ := h4 p hp
    refine ⟨h5, ?_⟩
    split at h6
    · simp only [Bool.and_eq_true] at h6; exact ⟨_, by assumption, h6.1, h6.2⟩
    · cases h6
  · cases h
theorem s_dcmp {n : Bool} {a b : E} {l r : Expr} {op : CmpOp} {pos : Pos} (S : SC X FN N sc k GL C cls) (h1 : op = if n = true then .NotEq else .Eq) (hm : behindInMarks op r = false) (ha : PE X l (tO X.prog X.w W cls fun g => opn a (ev GL C a g) g)) (hb : PE X r (tO X.prog X.w W cls fun g => opn b (ev GL C b g) g)) :
    PE X (.Compare l [op] [r] pos) (tE X.prog X.w W cls (ev GL C (.dcmp n a b))) ∧ PT X (.Compare l [op] [r] pos) (tT X.prog X.w W cls (ev GL C (.dcmp n a b))) := by
  have e : ev GL C (.dcmp n a b) = fun g => (opn a (ev GL C a g) g).bd fun x g => (opn b (ev GL C b g) g).bd fun y g => ofO ((x.get g).bind fun d => (y.get g).bind fun e => if alikeD d e then some (.bool (!n), .fr) else none) g := by
    funext g; rw [ev]
  rw [e]
  have ho : OpR X (compareOp op) (rAlike n) := by
    subst h1
    cases n
    · exact op_alike (room200 S.room)
    · exact op_nalike (room200 S.room)
  have key : ∀ (H0 Z0 : Hp) (g : Sg) (σ : L2.St) (H Z : Hp) (x y : Opn) (v u : V) (d : D) (m : Md) (Q : VK), SR X.prog X.w H0 Z0 g σ H Z → OO σ Z v x → OO σ Z u y →
      ((x.get g).bind fun d => (y.get g).bind fun e => if alikeD d e then some ((.bool (!n), .fr) : D × Md) else none) = some (d, m) →
      (∀ H' Z', SR X.prog X.w H0 Z0 g σ H' Z' → Same Z Z' → ∀ v, Out X.prog X.w H0 g σ H' Z' v d m → Q v H') → rAlike n v u H Q := by
    intro H0 Z0 g σ H Z x y v u d m Q sr ox oy e hk
    obtain ⟨d1, m1, d2, m2, ⟨h1, no1⟩, ⟨h2, no2⟩, e⟩ := two_of (G := fun d e => if alikeD d e then some ((.bool (!n), .fr) : D × Md) else none) sr ox oy e
    split at e
    case isFalse => cases e
    rename_i hal
    cases e
    obtain ⟨es, fs, m, m', e1, e2, n1, n2, hlen, hp⟩ := alikeD_of hal
    cases e1
    cases e2
    obtain ⟨a, ks, rfl, ea, ra⟩ := h1.dict sr.zh n1
    obtain ⟨b, ls, rfl, eb, rb⟩ := h2.dict sr.zh n2
    exact ⟨a, b, ks, ls, es, fs, Z, rfl, rfl, ea, eb, sr.zh, ra, rb, hlen, hp, fin_val (K := fun _ _ _ _ => True) sr hk (.bl _)⟩
  exact ⟨s_cmp2 ho ha hb hm _ key, s_tst2 ho ha hb hm _ key⟩
end
end DL

set_option Elab.async false
set_option linter.all false
set_option maxRecDepth 100000
/-! D20: the walker in a slot: its term read, its methods called. -/
namespace DL
open PySem L2 PySem.Spec PyProof.Rows
variable [Cfg] [Fix]

section
variable {P : Program} {w : World} {H0 Z0 H Z H' Z' : Hp} {g : Sg} {σ : L2.St}
omit [Cfg] [Fix] in
theorem objAt_of {i : Nat} {st : List D} (h : objAt i g = some st) : g[i]? = some (some (.tuple st, .on)) := by
  unfold objAt at h
  split at h
  · cases h; assumption
  · cases h
theorem obj_of (sr : SR P w H0 Z0 g σ H Z) {i : Nat} {st : List D} (h : objAt i g = some st) : ∃ p l t ts, g[i]? = some (some (.tuple st, .on)) ∧ σ[i]? = some (some (.ref p)) ∧ st = [t, .list ts] ∧ WS H Z p l t ts := by
  have q := objAt_of h
  obtain ⟨v, hv, hh⟩ := sr.sl i _ _ q
  cases hh with
  | ob ws => exact ⟨_, _, _, _, q, hv, rfl, ws⟩
omit [Cfg] [Fix] in
theorem del_ne {p l b : Addr} (h1 : b ≠ p) (h2 : b ≠ l) : del H p l b = H b := by
  unfold del
  rw [if_neg (fun z => z.elim h1 h2)]
omit [Cfg] [Fix] in
theorem del_none {p l b : Addr} (h : del H p l b = none) : b = p ∨ b = l ∨ H b = none := by
  unfold del at h
  split at h
  · rename_i c; exact c.elim .inl fun c => .inr (.inl c)
  · exact .inr (.inr h)
theorem WS.adr {p l b : Addr} {t : D} {ts : List D} (ws : WS H Z p l t ts) (a : Adr H (.ref p) .on b) : b = p ∨ b = l := by
  rcases a.2 with e | ⟨q, e, lo⟩
  · cases e; exact .inl rfl
  · cases e; exact .inr (ws.lst_of.mp lo)
omit [Cfg] [Fix] in
theorem WS.adr1 {p : Addr} : Adr H (.ref p) .on p := ⟨by decide, .inl rfl⟩
theorem WS.adr2 {p l : Addr} {t : D} {ts : List D} (ws : WS H Z p l t ts) : Adr H (.ref p) .on l := ⟨by decide, .inr ⟨p, rfl, ws.lst_of.mpr rfl⟩⟩
/-- the walker of slot i has gone on -/
theorem SR.walk (sr : SR P w H0 Z0 g σ H Z) {i : Nat} {p l l' : Addr} {t t' : D} {ts ts' : List D} (q : g[i]? = some (some (.tuple [t, .list ts], .on))) (hv : σ[i]? = some (some (.ref p))) (ws : WS H Z p l t ts)
    (tr : Tr (del H p l) Z H' Z') (hd : del H p l l' = none) (ws' : WS H' Z' p l' t' ts') : SR P w H0 Z0 (g.set i (some (.tuple [t', .list ts'], .on))) σ H' Z' := by
  refine sr.chg q hv (fun b u hb na => ?_) tr.zz tr.zh (fun b hb na => ?_) (.ob ws') (fun b a => ?_) (.inr rfl)
  · have h1 : b ≠ p := fun z => na (by rw [z]; exact WS.adr1)
    have h2 : b ≠ l := fun z => na (by rw [z]; exact ws.adr2)
    exact tr.hh b u (by rw [del_ne h1 h2]; exact hb)
  · have h1 : b ≠ p := fun z => na (by rw [z]; exact WS.adr1)
    have h2 : b ≠ l := fun z => na (by rw [z]; exact ws.adr2)
    exact tr.old b (by rw [del_ne h1 h2]; exact hb)
  · rcases ws'.adr a with rfl | rfl
    · exact .inl WS.adr1
    · rcases del_none hd with rfl | rfl | hn
      · exact .inl WS.adr1
      · exact .inl ws.adr2
      · exact .inr hn
omit [Cfg] [Fix] in
theorem lk_mem {α : Type} : ∀ {l : List (Str × α)} {x : Str} {e : α}, l.lookup x = some e → (x, e) ∈ l
  | [], _, _, h => by cases h
  | (y, a) :: r, x, e, h => by
    rw [List.lookup_cons] at h
    split at h
    · rename_i q
      have : x = y := by simpa using q
      subst this
      cases h
      exact List.mem_cons_self
    · exact List.mem_cons_of_mem _ (lk_mem h)
omit [Cfg] [Fix] in
theorem no_fld {f m : Str} (h : mths.lookup f = some m) (tv u : V) : List.lookup f [(("term" : Str), tv), (("taken" : Str), u)] = none := by
  have h1 : (f == ("term" : Str)) = false ∧ (f == ("taken" : Str)) = false := by
    have := lk_mem h
    unfold mths at this
    simp only [List.mem_cons, List.not_mem_nil, or_false, Prod.mk.injEq] at this
    rcases this with ⟨rfl, _⟩ | ⟨rfl, _⟩ | ⟨rfl, _⟩ | ⟨rfl, _⟩ | ⟨rfl, _⟩ | ⟨rfl, _⟩ <;> decide +kernel
  rw [List.lookup_cons, h1.1, List.lookup_cons, h1.2]
  rfl
end
section
variable {X : Cx} {W : WX} {cls : Cls} {FN N : List Str} {sc : Scope} {k : Nat} {GL : Str → Option D} {C : Orc} {pos : Pos} {i : Nat} {x : Str} {p apos : Pos}
theorem fldD_of {st : List D} {t : D} (h : fldD st = some t) : ∃ ts, st = [t, .list ts] := by
  unfold fldD at h
  split at h
  · cases h; exact ⟨_, rfl⟩
  · cases h
theorem s_fld (S : SC X FN N sc k GL C cls) (hi : N[i]? = some x) (hv : visB sc x = true) (hx : okN x = true) (hm : hasM FN = true) : PE X (.Attribute (.Name x p) "term" pos) (tE X.prog X.w W cls (ev GL C (.fld i))) := by
  obtain ⟨h4, h5⟩ := okN_of hx
  have K := S.ft.wk hm
  refine pe_to (pe_fld (pe_var (i := i) (by rw [S.hN]; exact hi) (by rw [S.sc]; exact vis_of hv) h4 h5) rfl) fun σ H Q ⟨H0, Z0, g, Z, sr, po⟩ => ?_
  rw [ev] at po
  obtain ⟨⟨d, m⟩, e, hk⟩ := po.ofO
  rw [Option.map_eq_some_iff] at e
  obtain ⟨t, e, e2⟩ := e
  cases e2
  rw [Option.bind_eq_some_iff] at e
  obtain ⟨st, e1, e2⟩ := e
  obtain ⟨q, l, t', ts, hg, hs, est, ws⟩ := obj_of sr e1
  subst est
  cases e2
  cases ws with
  | mk z1 z2 n e3 rt el rs =>
    exact ⟨.ref q, hs, q, _, _, _, _, rfl, e3, K.cl, K.n1, lk_term _ _, fin_val (K := fun _ _ _ _ => True) sr hk rt⟩
theorem s_mcall {f m : Str} {es : E} {e : Expr} {args : List Expr} (S : SC X FN N sc k GL C cls) (tk : Takes X W) (hi : N[i]? = some x) (hv : visB sc x = true) (hx : okN x = true) (hm : hasM FN = true) (hl : mths.lookup f = some m) (hc : FN.contains m = true)
    (hln : (apos.endLine == pos.line) = true) (hnum : (e :: args).length < 10) (hn : ∀ y ∈ e :: args, isStar y = false) (ha : PA X (e :: args) (tA X.prog X.w W cls (evs GL C es))) : PE X (.Call (.Attribute (.Name x p) f apos) (e :: args) [] pos) (tE X.prog X.w W cls (ev GL C (.mcall i m es))) := by
  obtain ⟨h4, h5⟩ := okN_of hx
  have K := S.ft.wk hm
  obtain ⟨fa, fd, ps, h1, h2, h3⟩ := S.ft.mt f m hl hc
  have hf : methodCallForm ((e :: args).length + ([] : List Keyword).length) (backTo pos (starEach (e :: args) X.env)) (backToKw pos (keywordEach [] X.env)) = true := by
    have h1 := star_any (env := X.env) (pos := pos) hn
    have h2 : (backTo pos (starEach (e :: args) X.env)).all (fun x => !x.1) = true := by
      rw [List.all_eq_not_any_not]
      simpa using h1
    have h3 : decide ((e :: args).length + ([] : List Keyword).length + (if (backToKw pos (keywordEach [] X.env)).isEmpty = true then 0 else 1) < 30) = true := by
      have : (if (backToKw pos (keywordEach [] X.env)).isEmpty = true then 0 else 1) ≤ 1 := by split <;> omega
      rw [decide_eq_true_iff]
      simp only [List.length_nil] at *
      omega
    unfold methodCallForm
    rw [h2, h3]
    rfl
  have ht : eval (.Call (.Attribute (.Name x p) f apos) (e :: args) [] pos) X.env = (do
      let ov ← eval (.Name x p) X.env
      standAt apos.atName
      let (f, first) ← holding [ov] (getMethod ov f (plainOf (.Name x p) X.env))
      callWith pos f first (backTo pos (starEach (e :: args) X.env)) (backToKw pos (keywordEach [] X.env))) := by
    rw [arm_eval_Call]
    show (do
      let ov ← eval (.Name x p) X.env
      standAt apos.atName
      methodCall (.Name x p) f apos pos X.env ov ((e :: args).length + ([] : List Keyword).length) (backTo pos (starEach (e :: args) X.env)) (backToKw pos (keywordEach [] X.env))) = _
    congr 1
    funext ov
    rw [mcall_line hf hln]
  refine pe_to (pe_meth (CX := L2.CX X.prog X.w) (E := fun _ _ _ => False) (pe_var (i := i) (by rw [S.hN]; exact hi) (by rw [S.sc]; exact vis_of hv) h4 h5) K.cl h1 h2 S.room h3 .nil (passes_call tk (fun _ _ _ _ h => h.elim)) ha (star_no (hn e (by simp))) (star_any fun y hy => hn y (by simp [hy])) ht) fun σ H Q ⟨H0, Z0, g, Z, sr, po⟩ => ?_
  rw [ev] at po
  split at po
  case isFalse => exact po.elim
  rename_i ho
  obtain ⟨st, ho⟩ := Option.isSome_iff_exists.mp ho
  obtain ⟨q, l, t, ts, hg, hs, est, ws⟩ := obj_of sr ho
  have he : ∃ dx tv, H q = some (.ins Cfg.wc dx [("term", tv), ("taken", .ref l)]) := by
    cases ws with
    | mk z1 z2 n e3 rt el rs => exact ⟨_, _, e3⟩
  obtain ⟨dx, tv, he⟩ := he
  refine ⟨.ref q, hs, q, dx, _, rfl, he, no_fld hl _ _, H0, Z0, g, Z, sr, po.bd.mono fun ds g1 H1 Z1 sr1 zz po1 us rs => ?_⟩
  split at po1
  case h_2 => exact po1.elim
  rename_i r st' hmet
  rw [Option.bind_eq_some_iff] at hmet
  obtain ⟨st1, ho1, hmet⟩ := hmet
  obtain ⟨q1, l1, t1, ts1, hg1, hs1, est1, ws1⟩ := obj_of sr1 ho1
  rw [hs] at hs1
  cases hs1
  subst est1
  refine ⟨Z1, q, l1, t1, ts1, us, ds, by rw [List.append_nil], sr1.zh, ws1, rs, ?_⟩
  rw [hmet]
  intro v H' Z' l' t' ts' est tr hd ws' rv
  subst est
  exact po1 H' Z' (sr1.walk hg1 hs ws1 tr hd ws') tr.zz v (Out.fr rv)
end
end DL

set_option Elab.async false
set_option linter.all false
set_option maxRecDepth 100000
/-! D22: a displayed dict of texts, read at once. -/
namespace DL
open PySem L2 PySem.Spec PyProof.Rows
variable [Cfg] [Fix]

def kvV (kvs : List (Str × Str)) : List (Key × V) := kvs.map fun p => (Sum.inr p.1, V.str p.2)
theorem valV_merge (k : Str) : ∀ (kvs : List (Str × Str)) (acc : List (Key × V)), valV (mergeK acc (kvV kvs)) (Sum.inr k : Key) = match pickS kvs k none with | some y => some (.str y) | none => valV acc (Sum.inr k) := by
  have out : ∀ (kvs : List (Str × Str)) (o : Option Str), pickS kvs k o = match pickS kvs k none with | some y => some y | none => o := by
    intro kvs
    induction kvs with
    | nil => intro o; rfl
    | cons p r ih =>
      intro o
      simp only [pickS]
      by_cases e : k = p.1
      · rw [if_pos e, if_pos e, ih (some p.2)]
        cases pickS r k none <;> rfl
      · rw [if_neg e, if_neg e, ih o]
  intro kvs
  induction kvs with
  | nil => intro acc; rfl
  | cons p r ih =>
    intro acc
    show valV (mergeK (putK acc (Sum.inr p.1) (.str p.2)) (kvV r)) _ = _
    rw [ih, valV_put]
    simp only [pickS]
    by_cases e : k = p.1
    · subst e
      rw [if_pos rfl, if_pos rfl, out r (some p.2)]
      cases pickS r p.1 none <;> rfl
    · rw [if_neg (fun z => e (Sum.inr.inj z)), if_neg e]
section
variable {X : Cx} {W : WX} {cls : Cls} {FN N : List Str} {sc : Scope} {k : Nat} {GL : Str → Option D} {C : Orc} {pos : Pos}
theorem pps_of : ∀ {kvs : List (Str × Str)} {ks : List (Option Expr)} {vs : List Expr}, chkKV kvs ks vs = true → ks.all (·.isSome) = true ∧ ks.length = vs.length ∧ ks.length = kvs.length ∧ ∃ trs, PPs X pos ks vs trs ∧ ∀ (σ : L2.St) (H : Hp) (Q : List (V × V) → Hp → Prop), Q ((kvV kvs).map fun kv => (kV kv.1, kv.2)) H → tPairs trs σ H Q
  | [], [], [], _ => ⟨rfl, rfl, rfl, [], pps_nil, fun σ H Q q => q⟩
  | [], _ :: _, _, h => by simp [chkKV] at h
  | [], [], _ :: _, h => by simp [chkKV] at h
  | (a, b) :: r, ks, vs, h => by
    unfold chkKV at h
    split at h
    · rename_i e1; cases e1
    · rename_i a' b' r' x p1 p2 ks' y p3 p4 vs' e1
      cases e1
      simp only [Bool.and_eq_true, decide_eq_true_eq] at h
      obtain ⟨⟨rfl, rfl⟩, h⟩ := h
      obtain ⟨h1, h2, h3, trs, h4, h5⟩ := pps_of h
      exact ⟨by simpa using h1, by simp [h2], by simp [h3], _, pps_cons pe_str pe_str h4, fun σ H Q q => h5 σ H _ q⟩
    · cases h
theorem s_dpick {kvs : List (Str × Str)} {a : E} {ks : List (Option Expr)} {vs : List Expr} {e : Expr} {p : Pos} (S : SC X FN N sc k GL C cls) (hk : chkKV kvs ks vs = true) (h0 : kvs.isEmpty = false) (h15 : kvs.length ≤ 15) (hs : isSlice e = false) (ha : PE X e (tE X.prog X.w W cls (ev GL C a))) :
    PE X (.Subscript (.Dict ks vs p) e pos) (tE X.prog X.w W cls (ev GL C (.dpick kvs a))) := by
  have u1 := room200 S.room
  obtain ⟨h1, h2, h3, trs, h4, h5⟩ := pps_of (X := X) (pos := p) hk
  have hne : ks ≠ [] := fun z => by rw [z] at h3; cases kvs <;> simp at h3 h0
  refine pe_to (pe_dget (by omega) (pe_disp h4 h1 h2 hne (by omega)) ha (fun ov iv => by have := plain_ix hs ov iv; exact this)) fun σ H Q ⟨H0, Z0, g, Z, sr, po⟩ => ?_
  rw [ev] at po
  intro d hd
  refine h5 _ _ _ ⟨upd_same, kvV kvs, rfl, by simp [kvV]; exact h15, ?_⟩
  have t : Tr H Z (upd (upd H d (.dK [])) d (.dK (mergeK [] (kvV kvs)))) Z := by
    have s1 : Same H (upd (upd H d (.dK [])) d (.dK (mergeK [] (kvV kvs)))) := fun b u q => by rw [upd_ne (ne_of_none q hd), upd_ne (ne_of_none q hd)]; exact q
    exact ⟨s1, Same.refl _, sr.zh.trans s1, fun _ _ => rfl⟩
  have hd2 : (upd (upd H d (.dK [])) d (.dK (mergeK [] (kvV kvs)))) d = some (.dK (mergeK [] (kvV kvs))) := upd_same
  generalize upd (upd H d (.dK [])) d (.dK (mergeK [] (kvV kvs))) = H1 at t hd2
  cases hev : ev GL C a (hide g) with
  | exc c g' => rw [hev] at po; exact po.elim
  | stuck => rw [hev] at po; exact po.elim
  | ok r g' =>
    rw [hev] at po
    obtain ⟨⟨d', m'⟩, e1, hk'⟩ := po.ofO
    refine ⟨H1, Z, hide g, Z, (sr.tr t).block, ?_⟩
    rw [hev]
    intro H2 Z2 sr2 zz v ov
    have tr := sr2.toTr
    have e2 := tr.hh _ _ hd2
    obtain ⟨rd, rm⟩ := r
    unfold dpickD at e1
    split at e1
    case h_2 => cases e1
    rename_i x ex
    simp only at ex
    subst ex
    rw [Option.map_eq_some_iff] at e1
    obtain ⟨y, e3, e4⟩ := e1
    cases e4
    rw [ov.hold.str]
    refine ⟨d, .str y, rfl, ?_, hk' H2 Z2 ((sr.tr t).tr tr) (t.zz.trans tr.zz) _ (Out.fr (.str y))⟩
    have := DGet.k (k := (Sum.inr x : Key)) e2
    rw [valV_merge, e3] at this
    exact this
end
end DL

set_option Elab.async false
set_option linter.all false
set_option maxRecDepth 100000
/-! D12: expressions hold. -/
namespace DL
open PySem L2 PySem.Spec PyProof.Rows
variable [Cfg] [Fix]

section
variable {X : Cx} {W : WX} {cls : Cls} {FN N : List Str} {sc : Scope} {k : Nat} {GL : Str → Option D} {C : Orc} {pos : Pos}
theorem s_dnew : PE X (.Dict [] [] pos) (tE X.prog X.w W cls (ev GL C (.dnew false))) := pe_to pe_dnewK fun σ H Q ⟨H0, Z0, g, Z, sr, po⟩ p hp => by
  rw [ev] at po
  exact po _ Z (sr.tr (Tr.laid sr.zh hp)) (Same.refl _) _ ⟨.owd (zfree sr.zh hp) upd_same .nil, own_new sr hp, noOb_of (by decide)⟩
theorem allStar {es : E} {pes : List Expr} (h : chkL FN N es sc pes = true) : ∀ x ∈ pes, isStar x = false := by
  induction pes generalizing es with
  | nil => intro x hx; cases hx
  | cons p ps ih =>
    unfold chkL at h
    split at h
    · rename_i e1 e2; cases e2
    · rename_i a r sc' x xs e
      cases e
      simp only [Bool.and_eq_true, Bool.not_eq_true'] at h
      intro y hy
      rcases List.mem_cons.mp hy with rfl | hy
      · exact h.1.2
      · exact ih h.2 y hy
    · cases h
/-- all that is shown of a small expression -/
structure Good (FN N : List Str) (k : Nat) (GL : Str → Option D) (C : Orc) (cls : Cls) (e : E) : Prop where
  pe : ∀ (X : Cx) (W : WX) (sc : Scope) (p : Expr), SC X FN N sc k GL C cls → Takes X W → chk FN N e false sc p = true → PE X p (tE X.prog X.w W cls (ev GL C e))
  pt : ∀ (X : Cx) (W : WX) (sc : Scope) (p : Expr), SC X FN N sc k GL C cls → Takes X W → chk FN N e false sc p = true → tstOk p = true → PT X p (tT X.prog X.w W cls (ev GL C e))
  pi : ∀ (X : Cx) (W : WX) (sc : Scope) (p tg : Expr), SC X FN N sc k GL C cls → Takes X W → chk FN N e true sc p = true → PI X tg p (tI X.prog X.w W cls (ev GL C e))
  pa : ∀ (X : Cx) (W : WX) (sc : Scope) (ps : List Expr), SC X FN N sc k GL C cls → Takes X W → chkL FN N e sc ps = true → PA X ps (tA X.prog X.w W cls (evs GL C e))
  el : ∀ (X : Cx) (W : WX) (sc : Scope) (ps : List Expr), SC X FN N sc k GL C cls → Takes X W → chkL FN N e sc ps = true → ps.all tstOk = true → EL X W cls GL C e ps
/-- .. of one whose value decides all -/
theorem Good.of {e : E} (h : ∀ (X : Cx) (W : WX) (sc : Scope) (p : Expr), SC X FN N sc k GL C cls → Takes X W → chk FN N e false sc p = true → PE X p (tE X.prog X.w W cls (ev GL C e)) ∧ (isTst p = true → tstOk p = true → PT X p (tT X.prog X.w W cls (ev GL C e))))
    (hb : ∀ sc p, chk FN N e true sc p = chk FN N e false sc p) (hl : ∀ sc ps, chkL FN N e sc ps = false) : Good FN N k GL C cls e where
  pe := fun X W sc p S tk c => (h X W sc p S tk c).1
  pt := fun X W sc p S tk c ht => by
    cases q : isTst p with
    | false => exact s_tst q (h X W sc p S tk c).1
    | true => exact (h X W sc p S tk c).2 q ht
  pi := fun X W sc p tg S tk c => s_iter (h X W sc p S tk (by rw [← hb]; exact c)).1
  pa := fun X W sc ps S tk c => by rw [hl] at c; cases c
  el := fun X W sc ps S tk c => by rw [hl] at c; cases c
theorem Good.plain {e : E} (h : ∀ (X : Cx) (W : WX) (sc : Scope) (p : Expr), SC X FN N sc k GL C cls → Takes X W → chk FN N e false sc p = true → PE X p (tE X.prog X.w W cls (ev GL C e)) ∧ isTst p = false)
    (hb : ∀ sc p, chk FN N e true sc p = chk FN N e false sc p) (hl : ∀ sc ps, chkL FN N e sc ps = false) : Good FN N k GL C cls e :=
  .of (fun X W sc p S tk c => ⟨(h X W sc p S tk c).1, fun q => by rw [(h X W sc p S tk c).2] at q; cases q⟩) hb hl
theorem nl {e : E} (h : isNilE e = false) (h2 : ∀ a r, e ≠ .cons a r) : ∀ sc ps, chkL FN N e sc ps = false := by
  intro sc ps
  cases e <;> first
    | exact absurd rfl (h2 _ _)
    | (simp [isNilE] at h; done)
    | (cases ps <;> simp [chkL])
theorem good : ∀ e : E, Good FN N k GL C cls e := by
  intro e
  induction e with
  | nil => exact ⟨fun X W sc p S tk c => (by simp [chk] at c), fun X W sc p S tk c => (by simp [chk] at c), fun X W sc p tg S tk c => by simp [chk] at c,
      fun X W sc ps S tk c => by
        cases ps with
        | nil => exact s_nil
        | cons _ _ => simp [chkL] at c,
      fun X W sc ps S tk c _ => by
        cases ps with
        | nil => exact .nil
        | cons _ _ => simp [chkL] at c⟩
  | cons a r iha ihr =>
    refine ⟨fun X W sc p S tk c => (by simp [chk] at c), fun X W sc p S tk c => (by simp [chk] at c), fun X W sc p tg S tk c => (by simp [chk] at c), fun X W sc ps S tk c => ?_, fun X W sc ps S tk c ht => ?_⟩
    · cases ps with
      | nil => simp [chkL] at c
      | cons x xs =>
        simp only [chkL, Bool.and_eq_true, Bool.not_eq_true'] at c
        exact s_cons c.1.2 (iha.pe X W sc x S tk c.1.1) (ihr.pa X W sc xs S tk c.2)
    · cases ps with
      | nil => simp [chkL] at c
      | cons x xs =>
        simp only [chkL, Bool.and_eq_true, Bool.not_eq_true'] at c
        simp only [List.all_cons, Bool.and_eq_true] at ht
        exact .cons (iha.pe X W sc x S tk c.1.1) (iha.pt X W sc x S tk c.1.1 ht.1) (ihr.el X W sc xs S tk c.2 ht.2)
  | var i => exact .plain (fun X W sc p S tk c => ⟨s_var S c, by unfold chk at c; split at c <;> first | rfl | cases c⟩) (fun _ _ => rfl) (nl rfl (fun _ _ h => nomatch h))
  | int i =>
    refine .of (fun X W sc p S tk c => ?_) (fun _ _ => rfl) (nl rfl (fun _ _ h => nomatch h))
    unfold chk at c
    split at c
    · have := of_decide_eq_true c; subst this; exact ⟨s_int, fun q => nomatch q⟩
    · have := of_decide_eq_true c; subst this; exact ⟨s_neg, fun q => nomatch q⟩
    · cases c
  | str x =>
    refine .plain (fun X W sc p S tk c => ?_) (fun _ _ => rfl) (nl rfl (fun _ _ h => nomatch h))
    unfold chk at c
    split at c
    · have := of_decide_eq_true c; subst this; exact ⟨s_str, rfl⟩
    · cases c
  | bl x =>
    refine .plain (fun X W sc p S tk c => ?_) (fun _ _ => rfl) (nl rfl (fun _ _ h => nomatch h))
    unfold chk at c
    split at c
    · have := of_decide_eq_true c; subst this; exact ⟨s_bl, rfl⟩
    · cases c
  | non =>
    refine .plain (fun X W sc p S tk c => ?_) (fun _ _ => rfl) (nl rfl (fun _ _ h => nomatch h))
    unfold chk at c
    split at c
    · exact ⟨s_non, rfl⟩
    · cases c
  | glob x =>
    refine .plain (fun X W sc p S tk c => ?_) (fun _ _ => rfl) (nl rfl (fun _ _ h => nomatch h))
    unfold chk at c
    split at c
    · simp only [Bool.and_eq_true, decide_eq_true_eq] at c
      obtain ⟨rfl, c⟩ := c
      exact ⟨s_glob S c, rfl⟩
    · cases c
  | tup es ih =>
    refine .plain (fun X W sc p S tk c => ?_) (fun _ _ => rfl) (nl rfl (fun _ _ h => nomatch h))
    unfold chk at c
    split at c
    · exact ⟨s_tup (ih.pa X W sc _ S tk c), rfl⟩
    · cases c
  | lst es ih =>
    refine .plain (fun X W sc p S tk c => ?_) (fun _ _ => rfl) (nl rfl (fun _ _ h => nomatch h))
    unfold chk at c
    split at c
    · exact ⟨s_lst (ih.pa X W sc _ S tk c), rfl⟩
    · cases c
  | dnew n =>
    refine .plain (fun X W sc p S tk c => ?_) (fun _ _ => rfl) (nl rfl (fun _ _ h => nomatch h))
    unfold chk at c
    split at c
    · cases n with
      | false => exact ⟨s_dnew, rfl⟩
      | true => cases c
    · cases c
  | bin o a b iha ihb =>
    refine .plain (fun X W sc p S tk c => ?_) (fun _ _ => rfl) (nl rfl (fun _ _ h => nomatch h))
    unfold chk at c
    split at c
    · simp only [Bool.and_eq_true] at c
      obtain ⟨⟨c1, c2⟩, c3⟩ := c
      exact ⟨s_bin S c1 (s_opn S c2 (iha.pe X W sc _ S tk c2)) (s_opn S c3 (ihb.pe X W sc _ S tk c3)), rfl⟩
    · cases c
  | cmp o a b iha ihb =>
    refine .of (fun X W sc p S tk c => ?_) (fun _ _ => rfl) (nl rfl (fun _ _ h => nomatch h))
    unfold chk at c
    split at c
    · simp only [Bool.and_eq_true, Bool.not_eq_true'] at c
      obtain ⟨⟨⟨⟨c1, c2⟩, c3⟩, c4⟩, _⟩ := c
      rename_i l op r pos _
      have q := s_cmp (pos := pos) S c1 c4 (s_opn S c2 (iha.pe X W sc _ S tk c2)) (s_opn S c3 (ihb.pe X W sc _ S tk c3))
      exact ⟨q.1, fun _ _ => q.2⟩
    · cases c
  | and_ es ih =>
    refine .of (fun X W sc p S tk c => ?_) (fun _ _ => rfl) (nl rfl (fun _ _ h => nomatch h))
    unfold chk at c
    split at c
    · simp only [Bool.and_eq_true, Bool.not_eq_true'] at c
      obtain ⟨⟨c1, c2⟩, c3⟩ := c
      rename_i vs pos
      have q := s_and (pos := pos) (ih.el X W sc _ S tk c1 c3) c2
      have e1 : ev GL C (.and_ es) = evAnd GL C es := by funext g; rw [ev]
      rw [e1]
      exact ⟨q.1, fun _ _ => q.2.pt⟩
    · cases c
  | or_ es ih =>
    refine .of (fun X W sc p S tk c => ?_) (fun _ _ => rfl) (nl rfl (fun _ _ h => nomatch h))
    unfold chk at c
    split at c
    · simp only [Bool.and_eq_true, Bool.not_eq_true'] at c
      obtain ⟨⟨c1, c2⟩, c3⟩ := c
      rename_i vs pos
      have q := s_or (pos := pos) (ih.el X W sc _ S tk c1 c3) c2
      have e1 : ev GL C (.or_ es) = evOr GL C es := by funext g; rw [ev]
      rw [e1]
      exact ⟨q.1, fun _ _ => q.2.pt⟩
    · cases c
  | not_ a ih =>
    refine .of (fun X W sc p S tk c => ?_) (fun _ _ => rfl) (nl rfl (fun _ _ h => nomatch h))
    unfold chk at c
    split at c
    · simp only [Bool.and_eq_true] at c
      exact ⟨s_not (ih.pe X W sc _ S tk c.1), fun _ _ => s_notT (ih.pt X W sc _ S tk c.1 c.2)⟩
    · cases c
  | ite t a b iht iha ihb =>
    refine .of (fun X W sc p S tk c => ?_) (fun _ _ => rfl) (nl rfl (fun _ _ h => nomatch h))
    unfold chk at c
    split at c
    · simp only [Bool.and_eq_true] at c
      obtain ⟨⟨⟨c1, c2⟩, c3⟩, c4⟩ := c
      exact ⟨s_ite (iht.pt X W sc _ S tk c1 c4) (iha.pe X W sc _ S tk c2) (ihb.pe X W sc _ S tk c3), fun _ q => nomatch q⟩
    · cases c
  | ix a i iha ihi =>
    refine .plain (fun X W sc p S tk c => ?_) (fun _ _ => rfl) (nl rfl (fun _ _ h => nomatch h))
    unfold chk at c
    split at c
    · simp only [Bool.and_eq_true, Bool.not_eq_true'] at c
      obtain ⟨⟨c1, c2⟩, c3⟩ := c
      exact ⟨s_ix S c3 (s_opn S c1 (iha.pe X W sc _ S tk c1)) (ihi.pe X W sc _ S tk c2), rfl⟩
    · cases c
  | sl a lo hi iha ihl ihh =>
    refine .plain (fun X W sc p S tk c => ?_) (fun _ _ => rfl) (nl rfl (fun _ _ h => nomatch h))
    unfold chk at c
    split at c
    · simp only [Bool.and_eq_true] at c
      obtain ⟨⟨c1, c2⟩, c3⟩ := c
      rename_i x l h p2 pos
      have hl : PO X l (tP X.prog X.w W cls fun g => part lo (ev GL C lo g) g) := by
        cases l with
        | none => cases lo <;> first | exact s_part0 | (simp [isNilE] at c2; done)
        | some y =>
          simp only [Bool.and_eq_true, Bool.not_eq_true'] at c2
          exact s_part1 c2.2 (ihl.pe X W sc _ S tk c2.1)
      have hh : PO X h (tP X.prog X.w W cls fun g => part hi (ev GL C hi g) g) := by
        cases h with
        | none => cases hi <;> first | exact s_part0 | (simp [isNilE] at c3; done)
        | some y =>
          simp only [Bool.and_eq_true, Bool.not_eq_true'] at c3
          exact s_part1 c3.2 (ihh.pe X W sc _ S tk c3.1)
      exact ⟨s_sl (s_opn S c1 (iha.pe X W sc _ S tk c1)) hl hh, rfl⟩
    · cases c
  | call f es ih =>
    refine .plain (fun X W sc p S tk c => ?_) (fun _ _ => rfl) (nl rfl (fun _ _ h => nomatch h))
    unfold chk at c
    split at c
    · rename_i x args q
      simp only [Bool.and_eq_true, Bool.not_eq_true', decide_eq_true_eq] at c
      obtain ⟨⟨⟨⟨rfl, c1⟩, c2⟩, c3⟩, c4⟩ := c
      obtain ⟨pp, pos, rfl⟩ := callOf_eq q
      cases args with
      | nil => cases es <;> first | (simp [isNilE] at c4; done) | (simp [chkL] at c3; done)
      | cons y ys => exact ⟨s_call S tk c2 c1 (allStar c3) (ih.pa X W sc _ S tk c3), rfl⟩
    · cases c
  | len a ih =>
    refine .plain (fun X W sc p S tk c => ?_) (fun _ _ => rfl) (nl rfl (fun _ _ h => nomatch h))
    unfold chk at c
    split at c
    · rename_i x q
      obtain ⟨⟨pp, pos, rfl⟩, q2, q3⟩ := call1_eq q
      exact ⟨s_len S q2 q3 (s_opn S c (ih.pe X W sc _ S tk c)), rfl⟩
    · cases c
  | list a ih =>
    refine .plain (fun X W sc p S tk c => ?_) (fun _ _ => rfl) (nl rfl (fun _ _ h => nomatch h))
    unfold chk at c
    split at c
    · rename_i x q
      obtain ⟨⟨pp, pos, rfl⟩, q2, q3⟩ := call1_eq q
      exact ⟨s_list S q2 q3 (s_opn S c (ih.pe X W sc _ S tk c)), rfl⟩
    · cases c
  | tuple a ih =>
    refine .plain (fun X W sc p S tk c => ?_) (fun _ _ => rfl) (nl rfl (fun _ _ h => nomatch h))
    unfold chk at c
    split at c
    · rename_i x q
      obtain ⟨⟨pp, pos, rfl⟩, q2, q3⟩ := call1_eq q
      exact ⟨s_tuple S q2 q3 (s_opn S c (ih.pe X W sc _ S tk c)), rfl⟩
    · cases c
  | sorted a ih =>
    refine .plain (fun X W sc p S tk c => ?_) (fun _ _ => rfl) (nl rfl (fun _ _ h => nomatch h))
    unfold chk at c
    split at c
    · rename_i x q
      obtain ⟨⟨pp, pos, rfl⟩, q2, q3⟩ := call1_eq q
      exact ⟨s_sorted S q2 q3 (s_opn S c (ih.pe X W sc _ S tk c)), rfl⟩
    · cases c
  | sortset a ih =>
    refine .plain (fun X W sc p S tk c => ?_) (fun _ _ => rfl) (nl rfl (fun _ _ h => nomatch h))
    unfold chk at c
    split at c
    · rename_i y q
      split at c
      · rename_i x qq
        obtain ⟨⟨pp, pos, rfl⟩, q2, q3⟩ := call1_eq q
        obtain ⟨⟨pp2, pos2, rfl⟩, q4, q5⟩ := call1_eq qq
        exact ⟨s_sortset S q2 q4 q5 (s_opn S c (ih.pe X W sc _ S tk c)), rfl⟩
      · cases c
    · cases c
  | dict a ih =>
    refine .plain (fun X W sc p S tk c => ?_) (fun _ _ => rfl) (nl rfl (fun _ _ h => nomatch h))
    unfold chk at c
    split at c
    · rename_i x q
      obtain ⟨⟨pp, pos, rfl⟩, q2, q3⟩ := call1_eq q
      exact ⟨s_dict S q2 q3 (s_opn S c (ih.pe X W sc _ S tk c)), rfl⟩
    · cases c
  | gnin x a ih =>
    refine .of (fun X W sc p S tk c => ?_) (fun _ _ => rfl) (nl rfl (fun _ _ h => nomatch h))
    unfold chk at c
    split at c
    · simp only [Bool.and_eq_true, Bool.not_eq_true', decide_eq_true_eq] at c
      obtain ⟨⟨⟨rfl, c2⟩, c3⟩, c4⟩ := c
      rename_i pos
      have q := s_gnin (pos := pos) S c2 c4 (ih.pe X W sc _ S tk c3)
      exact ⟨q.1, fun _ _ => q.2⟩
    · cases c
  | gix x a ih =>
    refine .plain (fun X W sc p S tk c => ?_) (fun _ _ => rfl) (nl rfl (fun _ _ h => nomatch h))
    unfold chk at c
    split at c
    · simp only [Bool.and_eq_true, Bool.not_eq_true', decide_eq_true_eq] at c
      obtain ⟨⟨⟨rfl, c2⟩, c3⟩, c4⟩ := c
      exact ⟨s_gix S c2 c4 (ih.pe X W sc _ S tk c3), rfl⟩
    · cases c
  | dcmp n a b iha ihb =>
    refine .of (fun X W sc p S tk c => ?_) (fun _ _ => rfl) (nl rfl (fun _ _ h => nomatch h))
    unfold chk at c
    split at c
    · simp only [Bool.and_eq_true, Bool.not_eq_true'] at c
      obtain ⟨⟨⟨c1, c2⟩, c3⟩, c4⟩ := c
      rename_i l op r pos
      have e1 : op = if n = true then .NotEq else .Eq := by
        split at c1
        · cases n <;> first | rfl | cases c1
        · subst c1; rfl
        · cases c1
      have q := s_dcmp (pos := pos) (n := n) S e1 c4 (s_opn S c2 (iha.pe X W sc _ S tk c2)) (s_opn S c3 (ihb.pe X W sc _ S tk c3))
      exact ⟨q.1, fun _ _ => q.2⟩
    · cases c
  | min a b iha ihb =>
    refine .plain (fun X W sc p S tk c => ?_) (fun _ _ => rfl) (nl rfl (fun _ _ h => nomatch h))
    unfold chk at c
    split at c
    · rename_i x y q
      simp only [Bool.and_eq_true] at c
      obtain ⟨⟨pp, pos, rfl⟩, q2, q3, q4⟩ := call2_eq q
      exact ⟨s_min S q2 q3 q4 (iha.pe X W sc _ S tk c.1) (ihb.pe X W sc _ S tk c.2), rfl⟩
    · cases c
  | max a b iha ihb =>
    refine .plain (fun X W sc p S tk c => ?_) (fun _ _ => rfl) (nl rfl (fun _ _ h => nomatch h))
    unfold chk at c
    split at c
    · rename_i x y q
      simp only [Bool.and_eq_true] at c
      obtain ⟨⟨pp, pos, rfl⟩, q2, q3, q4⟩ := call2_eq q
      exact ⟨s_max S q2 q3 q4 (iha.pe X W sc _ S tk c.1) (ihb.pe X W sc _ S tk c.2), rfl⟩
    · cases c
  | toInt a ih =>
    refine .plain (fun X W sc p S tk c => ?_) (fun _ _ => rfl) (nl rfl (fun _ _ h => nomatch h))
    unfold chk at c
    split at c
    · rename_i x q
      obtain ⟨⟨pp, pos, rfl⟩, q2, q3⟩ := call1_eq q
      exact ⟨s_toInt S q2 q3 (ih.pe X W sc _ S tk c), rfl⟩
    · cases c
  | isi a t ih =>
    refine .plain (fun X W sc p S tk c => ?_) (fun _ _ => rfl) (nl rfl (fun _ _ h => nomatch h))
    unfold chk at c
    split at c
    · rename_i x y q
      simp only [Bool.and_eq_true, decide_eq_true_eq] at c
      obtain ⟨⟨c1, c2⟩, c3⟩ := c
      obtain ⟨⟨pp, pos, rfl⟩, q2, q3, q4⟩ := call2_eq q
      have : ∃ p2, y = .Name (tyName t) p2 := by
        unfold nameIs at c2
        split at c2
        · cases c2; exact ⟨_, rfl⟩
        · cases c2
      obtain ⟨p2, rfl⟩ := this
      exact ⟨s_isi S q2 c3 q3 (s_opn S c1 (ih.pe X W sc _ S tk c1)), rfl⟩
    · cases c
  | dictzip a b iha ihb => exact .plain (fun X W sc p S tk c => by simp [chk] at c) (fun _ _ => rfl) (nl rfl (fun _ _ h => nomatch h))
  | pop i =>
    refine .plain (fun X W sc p S tk c => ?_) (fun _ _ => rfl) (nl rfl (fun _ _ h => nomatch h))
    unfold chk at c
    split at c
    · rename_i x m q
      simp only [Bool.and_eq_true, decide_eq_true_eq] at c
      obtain ⟨⟨⟨rfl, c1⟩, c2⟩, c3⟩ := c
      obtain ⟨pp, apos, cpos, rfl, hl⟩ := methOf_eq q
      exact ⟨s_pop S c1 c2 c3 hl, rfl⟩
    · cases c
  | append i a ih =>
    refine .plain (fun X W sc p S tk c => ?_) (fun _ _ => rfl) (nl rfl (fun _ _ h => nomatch h))
    unfold chk at c
    split at c
    · rename_i x m y q
      simp only [Bool.and_eq_true, Bool.not_eq_true', decide_eq_true_eq] at c
      obtain ⟨⟨⟨⟨⟨rfl, c1⟩, c2⟩, c3⟩, c4⟩, c5⟩ := c
      obtain ⟨pp, apos, cpos, rfl, hl⟩ := methOf_eq q
      exact ⟨s_append S c1 c2 c3 hl c5 (ih.pe X W sc _ S tk c4), rfl⟩
    · cases c
  | extend i a ih =>
    refine .plain (fun X W sc p S tk c => ?_) (fun _ _ => rfl) (nl rfl (fun _ _ h => nomatch h))
    unfold chk at c
    split at c
    · rename_i x m y q
      simp only [Bool.and_eq_true, Bool.not_eq_true', decide_eq_true_eq] at c
      obtain ⟨⟨⟨⟨⟨rfl, c1⟩, c2⟩, c3⟩, c4⟩, c5⟩ := c
      obtain ⟨pp, apos, cpos, rfl, hl⟩ := methOf_eq q
      exact ⟨s_extend S c1 c2 c3 hl c5 (ih.pe X W sc _ S tk c4), rfl⟩
    · cases c
  | clear i =>
    refine .plain (fun X W sc p S tk c => ?_) (fun _ _ => rfl) (nl rfl (fun _ _ h => nomatch h))
    unfold chk at c
    split at c
    · rename_i x m q
      simp only [Bool.and_eq_true, decide_eq_true_eq] at c
      obtain ⟨⟨⟨rfl, c1⟩, c2⟩, c3⟩ := c
      obtain ⟨pp, apos, cpos, rfl, hl⟩ := methOf_eq q
      exact ⟨s_clear S c1 c2 c3 hl, rfl⟩
    · cases c
  | dpop i a ih =>
    refine .plain (fun X W sc p S tk c => ?_) (fun _ _ => rfl) (nl rfl (fun _ _ h => nomatch h))
    unfold chk at c
    split at c
    · rename_i x m y q
      simp only [Bool.and_eq_true, Bool.not_eq_true', decide_eq_true_eq] at c
      obtain ⟨⟨⟨⟨⟨rfl, c1⟩, c2⟩, c3⟩, c4⟩, c5⟩ := c
      obtain ⟨pp, apos, cpos, rfl, hl⟩ := methOf_eq q
      exact ⟨s_dpop S c1 c2 c3 hl c5 (ih.pe X W sc _ S tk c4), rfl⟩
    · cases c
  | lc elt i it cond fz ihe ihi ihc =>
    refine .plain (fun X W sc p S tk c => ?_) (fun _ _ => rfl) (nl rfl (fun _ _ h => nomatch h))
    unfold chk at c
    split at c
    · rename_i pelt y py piter ifs scope pos
      simp only [Bool.and_eq_true, Bool.not_eq_true', decide_eq_true_eq] at c
      obtain ⟨⟨⟨⟨⟨⟨c1, c2⟩, c3⟩, c4⟩, c5⟩, c6⟩, c7⟩ := c
      refine ⟨s_lc S c1 c2 c3 c6 (ihi.pi X W sc _ _ S tk c5) (fun X' e1 e2 S' => ?_) (fun X' e1 e2 S' => ?_), rfl⟩
      · rw [← e1, ← e2]
        cases ifs with
        | nil => cases cond <;> first | exact s_if0 | (simp [isNilE] at c7; done)
        | cons c0 r0 =>
          cases r0 with
          | nil =>
            simp only [Bool.and_eq_true, Bool.not_eq_true'] at c7
            exact s_if1 c7.1.2 (ihc.pt X' W0 _ _ S' takes0 c7.1.1 c7.2)
          | cons _ _ => cases c7
      · rw [← e1, ← e2]
        exact ihe.pe X' W0 _ _ S' takes0 c4
    · cases c
  | range1 a ih =>
    refine ⟨fun X W sc p S tk c => (by simp [chk] at c), fun X W sc p S tk c => (by simp [chk] at c), fun X W sc p tg S tk c => ?_, fun X W sc ps S tk c => (by rw [nl (e := .range1 a) rfl (fun _ _ h => nomatch h)] at c; cases c), fun X W sc ps S tk c _ => (by rw [nl (e := .range1 a) rfl (fun _ _ h => nomatch h)] at c; cases c)⟩
    unfold chk at c
    rw [Bool.true_and] at c
    split at c
    · rename_i x q
      obtain ⟨⟨pp, pos, rfl⟩, q2, q3⟩ := call1_eq q
      exact s_rng1 S q2 q3 (ih.pe X W sc _ S tk c)
    · cases c
  | range2 a b iha ihb =>
    refine ⟨fun X W sc p S tk c => (by simp [chk] at c), fun X W sc p S tk c => (by simp [chk] at c), fun X W sc p tg S tk c => ?_, fun X W sc ps S tk c => (by rw [nl (e := .range2 a b) rfl (fun _ _ h => nomatch h)] at c; cases c), fun X W sc ps S tk c _ => (by rw [nl (e := .range2 a b) rfl (fun _ _ h => nomatch h)] at c; cases c)⟩
    unfold chk at c
    rw [Bool.true_and] at c
    split at c
    · rename_i x y q
      simp only [Bool.and_eq_true] at c
      obtain ⟨⟨pp, pos, rfl⟩, q2, q3, q4⟩ := call2_eq q
      exact s_rng2 S q2 q3 q4 (iha.pe X W sc _ S tk c.1) (ihb.pe X W sc _ S tk c.2)
    · cases c
  | rev a ih =>
    refine ⟨fun X W sc p S tk c => (by simp [chk] at c), fun X W sc p S tk c => (by simp [chk] at c), fun X W sc p tg S tk c => ?_, fun X W sc ps S tk c => (by rw [nl (e := .rev a) rfl (fun _ _ h => nomatch h)] at c; cases c), fun X W sc ps S tk c _ => (by rw [nl (e := .rev a) rfl (fun _ _ h => nomatch h)] at c; cases c)⟩
    unfold chk at c
    rw [Bool.true_and] at c
    split at c
    · rename_i x q
      obtain ⟨⟨pp, pos, rfl⟩, q2, q3⟩ := call1_eq q
      exact s_rev S q2 q3 (ih.pe X W sc _ S tk c)
    · cases c
  | dpick kvs a ih =>
    refine .plain (fun X W sc p S tk c => ?_) (fun _ _ => rfl) (nl rfl (fun _ _ h => nomatch h))
    unfold chk at c
    split at c
    · simp only [Bool.and_eq_true, Bool.not_eq_true', decide_eq_true_eq] at c
      obtain ⟨⟨⟨⟨c1, c2⟩, c3⟩, c4⟩, c5⟩ := c
      exact ⟨s_dpick S c1 c2 c3 c4 (ih.pe X W sc _ S tk c5), rfl⟩
    · cases c
  | fld i =>
    refine .plain (fun X W sc p S tk c => ?_) (fun _ _ => rfl) (nl rfl (fun _ _ h => nomatch h))
    unfold chk at c
    split at c
    · simp only [Bool.and_eq_true, decide_eq_true_eq] at c
      obtain ⟨⟨⟨⟨c1, c2⟩, c3⟩, rfl⟩, c5⟩ := c
      exact ⟨s_fld S c1 c2 c3 c5, rfl⟩
    · cases c
  | mcall i m es ih =>
    refine .plain (fun X W sc p S tk c => ?_) (fun _ _ => rfl) (nl rfl (fun _ _ h => nomatch h))
    unfold chk at c
    split at c
    · simp only [Bool.and_eq_true, Bool.not_eq_true', decide_eq_true_eq] at c
      obtain ⟨⟨⟨⟨⟨⟨⟨⟨⟨c1, cl⟩, cn⟩, c2⟩, c3⟩, c4⟩, c5⟩, c6⟩, c7⟩, c8⟩ := c
      rename_i args pos
      cases args with
      | nil => cases es <;> first | (simp [isNilE] at c8; done) | (simp [chkL] at c7; done)
      | cons e args => exact ⟨s_mcall S tk c1 c2 c3 c6 c4 c5 cl cn (allStar c7) (ih.pa X W sc _ S tk c7), rfl⟩
    · cases c
end
end DL

set_option Elab.async false
set_option linter.all false
set_option maxRecDepth 100000
/-! D13: statements hold. -/
namespace DL
open PySem L2 PySem.Spec PyProof.Rows

/-- a comprehension on the line of its name; or the name is a cell -/
def lcSw (sc : Scope) (y : Str) (py : Pos) (pe : Expr) : Bool := match pe with
  | .ListComp _ _ scope p2 => (match sc.names.lookup y with
    | some .local => decide (sc.kind = .function) && (py.line == p2.line) && !(scope.names.any fun (n, k) => n == y && (k == .local || k == .cell))
    | some .cell => true
    | _ => false)
  | _ => false
theorem sw_cell {elt : Expr} {gs : List Comprehension} {scope : Scope} {pos py : Pos} {y : Str} {l : Nat} {env : Env} (hy : env.scope.names.lookup y = some .cell) : swapsWith (.ListComp elt gs scope pos) (some (.Name y py)) l env = pure false := by
  have ky : env.kindOf y = some .cell := hy
  have e : (some NameKind.cell == some NameKind.local) = false := by decide
  unfold swapsWith
  simp only [ky, e, Bool.and_false, Bool.false_and]
structure SE (X : Cx) : Prop where
  hp : PassesOwn (model X.prog X.w) X.A X.env X.xe
  fn : ∀ x, X.fn x = true
  st : X.stack = X.env :: X.outer
  fr : X.env.frame = some X.env.locals
/-- what an except suite hands back -/
def sufB : Expr → D → Bool
  | .Constant (.bool b) _ _, .bool c => decide (b = c)
  | .Constant (.str x) _ _, .str y => decide (x = y)
  | .Constant .none _ _, .none => true
  | _, _ => false
def isTrueD : D → Bool
  | .bool true => true
  | _ => false
/-- except x: return constant -/
def chkH (sc : Scope) (cn : List Nat) : List (Nat × D) → List ExceptHandler → Bool
  | [], [] => true
  | (c, d) :: r, h :: hs => (match h with
    | .ExceptHandler (some (.Name x _)) none [.Return (some e) _] _ => decide (x = clsName c) && cn.contains c && gloB sc x && sufB e d
    | _ => false) && chkH sc cn r hs
  | _, _ => false
/-- except x as n: return isinstance(n, ValueError) -/
def chkA (N : List Str) (sc : Scope) (cn : List Nat) (c : Nat) (d : D) : List ExceptHandler → Bool
  | [.ExceptHandler (some (.Name x _)) (some n) [.Return (some (.Call (.Name f _) [.Name n2 _, .Name t _] [] _)) _] _] => decide (x = clsName c) && cn.contains c && gloB sc x && isTrueD d && decide (n2 = n) && decide (f = "isinstance") && decide (t = "ValueError") && gloB sc f && gloB sc t &&
    decide (N.contains n) && decide (sc.names.lookup n = some .local) && okN n
  | _ => false
mutual
/-- the statement st of the model is the small statement -/
def chkS (FN N : List Str) (CN : List Nat) : S → Scope → Stmt → Bool
  | .set i e, sc, st => match st with
    | .Assign [.Name y py] pe _ => decide (N[i]? = some y) && locB sc y && chk FN N e false sc pe && (match e with | .lc _ _ _ _ _ => lcSw sc y py pe | _ => !isComp pe)
    | _ => false
  | .ite t a b, sc, st => match st with | .If c x y _ => chk FN N t false sc c && tstOk c && chkB FN N CN a sc x && chkB FN N CN b sc y | _ => false
  | .whl t b, sc, st => match st with | .While c x [] _ => chk FN N t false sc c && tstOk c && chkB FN N CN b sc x | _ => false
  | .for_ i it b, sc, st => match st with | .For (.Name y _) pe x [] _ => decide (N[i]? = some y) && locB sc y && chk FN N it true sc pe && !isSetE pe && chkB FN N CN b sc x | _ => false
  | .ret e, sc, st => match st with
    | .Return (some pe) _ => chk FN N e false sc pe
    | .Return none _ => isNon e
    | _ => false
  | .expr e, sc, st => match st with | .Expr pe _ => chk FN N e false sc pe && !isComp pe | _ => false
  | .never, _, _ => true
  | .put i k v, sc, st => match st with
    | .Assign [.Subscript (.Name y _) ke _] ve _ => decide (N[i]? = some y) && visB sc y && okN y && chk FN N k false sc ke && !isSlice ke && chk FN N v false sc ve && !isComp ve
    | _ => false
  | .raise c, sc, st => match st with
    | .Raise (some (.Call (.Name x _) [.Constant (.str _) _ _] [] _)) none _ => decide (x = clsName c) && CN.contains c && gloB sc x
    | _ => false
  | .try_ cn b hs, sc, st => match st with
    | .Try body (h :: hds) [] [] _ => decide (cn = CN) && chkB FN N CN b sc body && (chkH sc CN hs (h :: hds) || (match hs with | [(c, d)] => chkA N sc CN c d (h :: hds) | _ => false))
    | _ => false
  | .mk i e, sc, st => match st with
    | .Assign [.Name y _] (.Call (.Name c _) [a] [] _) _ => decide (N[i]? = some y) && locB sc y && decide (c = "Walker") && gloB sc c && !isStar a && chk FN N e false sc a && hasM FN
    | _ => false
  | .setT i e, sc, st => match st with
    | .Assign [.Attribute (.Name x _) f _] pe _ => decide (N[i]? = some x) && visB sc x && okN x && decide (f = "term") && hasM FN && chk FN N e false sc pe && !isComp pe
    | _ => false
  | .appT i e, sc, st => match st with
    | .Expr (.Call (.Attribute (.Attribute (.Name x _) f _) m apos) [a] [] cpos) _ => decide (N[i]? = some x) && visB sc x && okN x && decide (f = "taken") && decide (m = "append") && (apos.endLine == cpos.line) && !isStar a && chk FN N e false sc a && hasM FN
    | _ => false
  | .retT i, sc, st => match st with
    | .Return (some (.Attribute (.Name x _) f _)) _ => decide (N[i]? = some x) && visB sc x && okN x && decide (f = "taken") && hasM FN
    | _ => false
  | .skip, _, _ => false
  | .seq _ _, _, _ => false
def chkB (FN N : List Str) (CN : List Nat) : S → Scope → List Stmt → Bool
  | .skip, _, [] => true
  | .seq a r, sc, x :: xs => chkS FN N CN a sc x && chkB FN N CN r sc xs
  | _, _, _ => false
end

variable [Cfg] [Fix]
/-- what is wanted behind a statement's run by values -/
def PoS (P : Program) (w : World) (W : WX) (cls : Cls) (D : Ends) (H0 Z0 Z : Hp) (r : Res Ctl) : Prop := match r with
  | .ok .next g => ∀ σ H' Z', SR P w H0 Z0 g σ H' Z' → Same Z Z' → D.nx σ H'
  | .ok .brk g => ∀ σ H' Z', SR P w H0 Z0 g σ H' Z' → Same Z Z' → D.bk σ H'
  | .ok .cont g => ∀ σ H' Z', SR P w H0 Z0 g σ H' Z' → Same Z Z' → D.ct σ H'
  | .ok (.ret d m) g => ∀ v σ H' Z', SR P w H0 Z0 g σ H' Z' → Hold P w H' Z' v d m → (∀ p, v = .ref p → m ≠ .fr → H0 p = none) → D.rt v H'
  | .exc c g => ∀ σ H' Z', SR P w H0 Z0 g σ H' Z' → Same Z Z' → W (cls c) none σ H'
  | .stuck => False
def tS (P : Program) (w : World) (W : WX) (cls : Cls) (f : Sg → Res Ctl) : TS := fun D σ H => ∃ H0 Z0 g Z, SR P w H0 Z0 g σ H Z ∧ PoS P w W cls D H0 Z0 Z (f g)
section
variable {P : Program} {w : World} {W : WX} {cls : Cls} {D : Ends} {σ : L2.St} {H0 Z0 Z : Hp}
theorem PoS.later {r : Res Ctl} {Z1 : Hp} (h : PoS P w W cls D H0 Z0 Z r) (zz : Same Z Z1) : PoS P w W cls D H0 Z0 Z1 r := by
  unfold PoS at h ⊢
  split at h <;> first
    | exact fun σ H' Z' s z => h σ H' Z' s (zz.trans z)
    | exact h
theorem PoS.bd {α : Type} {r : Res α} {f : α → Sg → Res Ctl} (h : PoS P w W cls D H0 Z0 Z (r.bd f)) : Po P w W cls σ H0 Z0 Z r (fun a g H' Z' => PoS P w W cls D H0 Z0 Z' (f a g)) := by
  cases r with
  | ok a g => exact fun H' Z' sr zz => PoS.later (r := f a g) h zz
  | exc c g => exact fun H' Z' sr zz => h σ H' Z' sr zz
  | stuck => exact h
/-- .. behind a statement -/
theorem PoS.sq {r : Res Ctl} {k : Ctl → Sg → Res Ctl} {D' : Ends} (h : PoS P w W cls D H0 Z0 Z (r.bd k)) (hn : ∀ g, PoS P w W cls D H0 Z0 Z (k .next g) → ∀ σ H' Z', SR P w H0 Z0 g σ H' Z' → Same Z Z' → D'.nx σ H')
    (hb : ∀ g, PoS P w W cls D H0 Z0 Z (k .brk g) → ∀ σ H' Z', SR P w H0 Z0 g σ H' Z' → Same Z Z' → D'.bk σ H') (hc : ∀ g, PoS P w W cls D H0 Z0 Z (k .cont g) → ∀ σ H' Z', SR P w H0 Z0 g σ H' Z' → Same Z Z' → D'.ct σ H')
    (hr : ∀ d m g, k (.ret d m) g = .ok (.ret d m) g) (ht : D'.rt = D.rt) : PoS P w W cls D' H0 Z0 Z r := by
  cases r with
  | ok a g => cases a with
    | next => exact hn g h
    | brk => exact hb g h
    | cont => exact hc g h
    | ret d m =>
      have h' : PoS P w W cls D H0 Z0 Z (k (.ret d m) g) := h
      rw [hr] at h'
      intro v σ' H' Z' t hh hnew
      rw [ht]
      exact h' v σ' H' Z' t hh hnew
  | exc c g => exact h
  | stuck => exact h
end
theorem ps_to {X : Cx} {e : Stmt} {t t' : TS} (h : PS X e t) (i : ∀ D σ H, t' D σ H → t D σ H) : PS X e t' := ⟨fun pins s σ H D I q => h.run pins s σ H D I (i D σ H q)⟩
theorem pss_to {X : Cx} {e : List Stmt} {t t' : TS} (h : PSs X e t) (i : ∀ D σ H, t' D σ H → t D σ H) : PSs X e t' := ⟨fun pins s σ H D I q => h.run pins s σ H D I (i D σ H q)⟩

section
variable {X : Cx} {W : WX} {cls : Cls} {FN N : List Str} {sc : Scope} {k : Nat} {GL : Str → Option D} {C : Orc} {pos : Pos} {L : Nat}
theorem r_never {st : Stmt} : PS X st (tS X.prog X.w W cls (ex GL C L .never)) := ps_to ps_never fun D σ H ⟨_, _, _, _, _, po⟩ => po
theorem r_nil : PSs X [] (tS X.prog X.w W cls (ex GL C L .skip)) := pss_to pss_nil fun D σ H ⟨H0, Z0, g, Z, sr, po⟩ => po σ H Z sr (Same.refl _)
theorem r_cons {a r : S} {x : Stmt} {xs : List Stmt} (ha : PS X x (tS X.prog X.w W cls (ex GL C L a))) (hr : PSs X xs (tS X.prog X.w W cls (ex GL C L r))) : PSs X (x :: xs) (tS X.prog X.w W cls (ex GL C L (.seq a r))) :=
  pss_to (pss_cons ha hr) fun D σ H ⟨H0, Z0, g, Z, sr, po⟩ => by
    rw [ex] at po
    refine ⟨H0, Z0, g, Z, sr, po.sq (fun g1 q σ1 H1 Z1 sr1 zz => ⟨H0, Z0, g1, Z1, sr1, q.later zz⟩) (fun g1 q σ1 H1 Z1 sr1 zz => q σ1 H1 Z1 sr1 zz) (fun g1 q σ1 H1 Z1 sr1 zz => q σ1 H1 Z1 sr1 zz) (fun _ _ _ => rfl) rfl⟩
/-- what name = value leaves -/
theorem set_imp {P : Program} {w : World} {i : Nat} {e : E} {D : Ends} {σ : L2.St} {H : Hp} (h : tS P w W cls (ex GL C L (.set i e)) D σ H) : tE P w W cls (ev GL C e) σ H fun x H1 => gName i x σ H1 D.nx := by
  obtain ⟨H0, Z0, g, Z, sr, po⟩ := h
  rw [ex] at po
  exact ⟨H0, Z0, g, Z, sr, po.bd.mono fun p g1 H1 Z1 sr1 zz q v o => q _ H1 Z1 (sr1.set o i) (Same.refl _)⟩
theorem r_set {i : Nat} {y : Str} {py : Pos} {e : E} {pe : Expr} (S : SC X FN N sc k GL C cls) (hp : SE X) (hi : N[i]? = some y) (hl : Loc sc y) (hc : isComp pe = false) (he : PE X pe (tE X.prog X.w W cls (ev GL C e))) :
    PS X (.Assign [.Name y py] pe pos) (tS X.prog X.w W cls (ex GL C L (.set i e))) := by
  have nd : X.N.Nodup := by rw [S.hN]; exact S.nd
  have hl' : Loc X.env.scope y := by rw [S.sc]; exact hl
  exact ps_to (ps_set nd (by rw [S.hN]; exact hi) hl' he (swaps_no hc) (.inl (hp.fn y))) fun D σ H h => set_imp h
theorem r_if {t : E} {a b : S} {c : Expr} {x y : List Stmt} (ht : PT X c (tT X.prog X.w W cls (ev GL C t))) (ha : PSs X x (tS X.prog X.w W cls (ex GL C L a))) (hb : PSs X y (tS X.prog X.w W cls (ex GL C L b))) :
    PS X (.If c x y pos) (tS X.prog X.w W cls (ex GL C L (.ite t a b))) := ps_to (ps_if ht ha hb) fun D σ H ⟨H0, Z0, g, Z, sr, po⟩ => by
  rw [ex] at po
  refine ⟨H0, Z0, g, Z, sr, po.bd.mono fun p g1 H1 Z1 sr1 zz q => ?_⟩
  split at q
  · rename_i e
    exact ⟨true, e, iteT ⟨H0, Z0, g1, Z1, sr1, q⟩⟩
  · rename_i e
    exact ⟨false, e, iteF ⟨H0, Z0, g1, Z1, sr1, q⟩⟩
  · exact q.elim
theorem r_while {t : E} {b : S} {c : Expr} {x : List Stmt} (hp : SE X) (ht : PT X c (tT X.prog X.w W cls (ev GL C t))) (hb : PSs X x (tS X.prog X.w W cls (ex GL C L b))) :
    PS X (.While c x [] pos) (tS X.prog X.w W cls (ex GL C L (.whl t b))) := ps_to (ps_while hp.hp ht hb) fun D σ H ⟨H0, Z0, g, Z, sr, po⟩ => by
  rw [ex] at po
  refine ⟨fun m σ H => ∃ g Z, SR X.prog X.w H0 Z0 g σ H Z ∧ PoS X.prog X.w W cls D H0 Z0 Z (whlGo (ev GL C t) (ex GL C L b) m g), ⟨L, g, Z, sr, po⟩, ?_⟩
  rintro m σ1 H1 ⟨g1, Z1, sr1, po1⟩
  cases m with
  | zero => exact po1.elim
  | succ n =>
    rw [whlGo] at po1
    refine ⟨H0, Z0, g1, Z1, sr1, po1.bd.mono fun p g2 H2 Z2 sr2 zz q => ?_⟩
    split at q
    · rename_i e
      refine ⟨true, e, iteT ⟨fun σ' H' => ∃ g Z, SR X.prog X.w H0 Z0 g σ' H' Z ∧ PoS X.prog X.w W cls D H0 Z0 Z (whlGo (ev GL C t) (ex GL C L b) n g), fun σ' H' h => ⟨n, Nat.lt_succ_self n, h⟩, H0, Z0, g2, Z2, sr2, ?_⟩⟩
      exact q.sq (fun g3 q3 σ3 H3 Z3 sr3 zz3 => ⟨g3, Z3, sr3, q3.later zz3⟩) (fun g3 q3 σ3 H3 Z3 sr3 zz3 => q3 σ3 H3 Z3 sr3 zz3) (fun g3 q3 σ3 H3 Z3 sr3 zz3 => ⟨g3, Z3, sr3, q3.later zz3⟩) (fun _ _ _ => rfl) rfl
    · rename_i e
      exact ⟨false, e, iteF (q σ1 H2 Z2 sr2 (Same.refl _))⟩
    · exact q.elim
theorem r_for {i : Nat} {y : Str} {py : Pos} {it : E} {b : S} {pe : Expr} {x : List Stmt} (S : SC X FN N sc k GL C cls) (hp : SE X) (hi : N[i]? = some y) (hl : Loc sc y) (hs : isSetE pe = false)
    (hit : PI X (.Name y py) pe (tI X.prog X.w W cls (ev GL C it))) (hb : PSs X x (tS X.prog X.w W cls (ex GL C L b))) : PS X (.For (.Name y py) pe x [] pos) (tS X.prog X.w W cls (ex GL C L (.for_ i it b))) := by
  have nd : X.N.Nodup := by rw [S.hN]; exact S.nd
  have hl' : Loc X.env.scope y := by rw [S.sc]; exact hl
  refine ps_to (ps_for hp.hp S.calm hit (pg_name nd (by rw [S.hN]; exact hi) hl' (.inl (hp.fn y))) hb (set_no hs)) fun D σ H ⟨H0, Z0, g, Z, sr, po⟩ => ?_
  rw [ex] at po
  refine ⟨H0, Z0, g, Z, sr, po.bd.mono fun p g1 H1 Z1 sr1 zz q => ?_⟩
  split at q
  · exact q.elim
  rename_i hm
  split at q
  case h_2 => exact q.elim
  rename_i ds hds
  refine ⟨hm, ds, hds, fun J hJ => ?_⟩
  refine ⟨fun n m σ H => m = ds.length - n ∧ n ≤ ds.length ∧ ∃ g Z, SR X.prog X.w H0 Z0 g σ H Z ∧ Same Z1 Z ∧ PoS X.prog X.w W cls D H0 Z0 Z (forGo (fun d g => ex GL C L b (g.set i (some (d, .fr)))) (ds.drop n) g), ⟨ds.length, by simp, Nat.zero_le _, g1, Z1, sr1, Same.refl _, q⟩, ?_⟩
  rintro n m σ2 H2 ⟨rfl, hn, g2, Z2, sr2, zz2, q2⟩
  by_cases hlt : n < ds.length
  · rw [List.drop_eq_getElem_cons hlt, forGo] at q2
    obtain ⟨j1, j2⟩ := hJ.item n ds[n] H2 (List.getElem?_eq_getElem hlt) (zz2.trans sr2.zh)
    refine .inr ⟨j1, fun σ' H' => ∃ g Z, SR X.prog X.w H0 Z0 g σ' H' Z ∧ Same Z1 Z ∧ PoS X.prog X.w W cls D H0 Z0 Z (forGo (fun d g => ex GL C L b (g.set i (some (d, .fr)))) (ds.drop (n + 1)) g), fun σ' H' h => ⟨ds.length - (n + 1), by omega, rfl, hlt, h⟩, fun x H' yl => ?_⟩
    obtain ⟨rfl, rx⟩ := j2 x H' yl
    refine ⟨H0, Z0, _, Z2, sr2.set (Out.fr (rx.up zz2)) i, ?_⟩
    exact q2.sq (fun g3 q3 σ3 H3 Z3 sr3 zz3 => ⟨g3, Z3, sr3, zz2.trans zz3, q3.later zz3⟩) (fun g3 q3 σ3 H3 Z3 sr3 zz3 => q3 σ3 H3 Z3 sr3 zz3) (fun g3 q3 σ3 H3 Z3 sr3 zz3 => ⟨g3, Z3, sr3, zz2.trans zz3, q3.later zz3⟩) (fun _ _ _ => rfl) rfl
  · have e : n = ds.length := by omega
    subst e
    rw [List.drop_length, forGo] at q2
    exact .inl ⟨hJ.stop _ H2 (zz2.trans sr2.zh) (Nat.le_refl _), q2 σ2 H2 Z2 sr2 (Same.refl _)⟩
theorem r_expr {e : E} {pe : Expr} (hc : isComp pe = false) (he : PE X pe (tE X.prog X.w W cls (ev GL C e))) : PS X (.Expr pe pos) (tS X.prog X.w W cls (ex GL C L (.expr e))) :=
  ps_to (ps_expr he (swaps_no hc)) fun D σ H ⟨H0, Z0, g, Z, sr, po⟩ => by
    rw [ex] at po
    exact ⟨H0, Z0, g, Z, sr, po.bd.mono fun p g1 H1 Z1 sr1 zz q v o => q σ H1 Z1 sr1 (Same.refl _)⟩
theorem r_ret {e : E} {pe : Expr} (S : SC X FN N sc k GL C cls) (hc : chk FN N e false sc pe = true) (he : PE X pe (tE X.prog X.w W cls (ev GL C e))) : PS X (.Return (some pe) pos) (tS X.prog X.w W cls (ex GL C L (.ret e))) := by
  by_cases hv : ∃ i, e = .var i
  · obtain ⟨i, rfl⟩ := hv
    unfold chk at hc
    split at hc
    · rename_i x p
      simp only [Bool.and_eq_true, decide_eq_true_eq] at hc
      obtain ⟨⟨h1, h2⟩, h3⟩ := hc
      obtain ⟨h4, h5⟩ := okN_of h3
      refine ps_to (ps_ret (pe_var (by rw [S.hN]; exact h1) (by rw [S.sc]; exact vis_of h2) h4 h5)) fun D σ H ⟨H0, Z0, g, Z, sr, po⟩ => ?_
      rw [ex, retv] at po
      split at po
      · rename_i d q
        obtain ⟨v, hv, hh⟩ := sr.sl i d .ow q
        exact ⟨v, hv, po v σ H Z sr hh fun p ep hm => sr.own i d .ow v p q hv ⟨hm, .inl ep⟩⟩
      · rename_i d q
        obtain ⟨v, hv, hh⟩ := sr.sl i d .fr q
        exact ⟨v, hv, po v σ H Z sr hh fun p ep hm => absurd rfl hm⟩
      · exact po.elim
    · cases hc
  · refine ps_to (ps_ret he) fun D σ H ⟨H0, Z0, g, Z, sr, po⟩ => ?_
    have e1 : retv GL C e g = ev GL C e g := by
      cases e <;> first | rfl | exact absurd ⟨_, rfl⟩ hv
    rw [ex, e1] at po
    exact ⟨H0, Z0, g, Z, sr, po.bd.mono fun p g1 H1 Z1 sr1 zz q v o => q v σ H1 Z1 sr1 o.hold fun pp ep hm => (o.new pp ⟨hm, .inl ep⟩).1⟩
theorem r_setLc {elt it cond : E} {i j : Nat} {fz : List Nat} {pe : Expr} {z : Str} {pz : Pos} (S : SC X FN N sc k GL C cls) (hp : SE X) (tk : Takes X W) (hj : N[j]? = some z) (hl : Loc sc z) (c : chk FN N (.lc elt i it cond fz) false sc pe = true) (sw : lcSw sc z pz pe = true) :
    PS X (.Assign [.Name z pz] pe pos) (tS X.prog X.w W cls (ex GL C L (.set j (.lc elt i it cond fz)))) := by
  have nd : X.N.Nodup := by rw [S.hN]; exact S.nd
  have c0 := c
  have hl' : Loc X.env.scope z := by rw [S.sc]; exact hl
  unfold chk at c
  split at c
  case h_2 => cases c
  rename_i pelt y py piter ifs scope p2
  unfold lcSw at sw
  simp only at sw
  split at sw
  case h_3 => cases sw
  case h_2 =>
    rename_i hcell
    have hcell' : X.env.scope.names.lookup z = some .cell := by rw [S.sc]; exact hcell
    exact ps_to (ps_set nd (by rw [S.hN]; exact hj) hl' ((good (.lc elt i it cond fz)).pe X W sc _ S tk c0) (sw_cell hcell') (.inl (hp.fn z))) fun D σ H h => set_imp h
  rename_i hloc
  have hl' : X.env.scope.names.lookup z = some .local := by rw [S.sc]; exact hloc
  simp only [Bool.and_eq_true, Bool.not_eq_true', decide_eq_true_eq] at sw
  obtain ⟨⟨w1, w2⟩, w3⟩ := sw
  simp only [Bool.and_eq_true, Bool.not_eq_true', decide_eq_true_eq] at c
  obtain ⟨⟨⟨⟨⟨⟨c1, c2⟩, c3⟩, c4⟩, c5⟩, c6⟩, c7⟩ := c
  have hc : ∀ X', X'.prog = X.prog → X'.w = X.w → SC X' FN N (relS scope sc) k GL C cls → PTs X' ifs (tI1 X.prog X.w W0 cls fun g => iff_ cond (ev GL C cond g) g) := fun X' e1 e2 S' => by
    rw [← e1, ← e2]
    cases ifs with
    | nil => cases cond <;> first | exact s_if0 | (simp [isNilE] at c7; done)
    | cons c0 r0 =>
      cases r0 with
      | nil =>
        simp only [Bool.and_eq_true, Bool.not_eq_true'] at c7
        exact s_if1 c7.1.2 ((good cond).pt X' W0 _ _ S' takes0 c7.1.1 c7.2)
      | cons _ _ => cases c7
  have he : ∀ X', X'.prog = X.prog → X'.w = X.w → SC X' FN N (relS scope sc) k GL C cls → PE X' pelt (tE X.prog X.w W0 cls (ev GL C elt)) := fun X' e1 e2 S' => by
    rw [← e1, ← e2]
    exact (good elt).pe X' W0 _ _ S' takes0 c4
  exact ps_to (ps_setLc (own := [(y, i)]) S.calm nd (by rw [S.hN]; exact hj) hl' (sw_true (by rw [S.sc]; exact w1) hl' w2 w3) ((good it).pi X W _ _ _ S tk c5) (by rw [S.hN, S.sc]; exact blkOk_by c2) (g := gName i)
    (fun s H c cl fp => pg_name nd (by rw [S.hN]; exact c1) (by rw [(S.blk s H scope cl c fp).sc]; exact .inl c3) (.inr (by rw [(S.blk s H scope cl c fp).sc]; exact c3)))
    (fun s H c cl fp => hc _ rfl rfl (S.blk s H scope cl c fp)) (fun s H c cl fp => he _ rfl rfl (S.blk s H scope cl c fp)) (set_no c6)) fun D σ H h => lc_imp y (set_imp h)
theorem r_put {i : Nat} {y : Str} {py p2 : Pos} {k v : E} {ke ve : Expr} {kk : Nat} (S : SC X FN N sc kk GL C cls) (hi : N[i]? = some y) (hv : visB sc y = true) (hx : okN y = true) (hs : isSlice ke = false) (hc : isComp ve = false) (hk : PE X ke (tE X.prog X.w W cls (ev GL C k))) (hv' : PE X ve (tE X.prog X.w W cls (ev GL C v))) :
    PS X (.Assign [.Subscript (.Name y py) ke p2] ve pos) (tS X.prog X.w W cls (ex GL C L (.put i k v))) := by
  obtain ⟨h4, h5⟩ := okN_of hx
  have u1 := room200 S.room
  refine ps_to (ps_dput (by omega) (pe_var (i := i) (by rw [S.hN]; exact hi) (by rw [S.sc]; exact vis_of hv) h4 h5) hk (shared hv') (swaps_no hc)) fun D σ H ⟨H0, Z0, g, Z, sr, po⟩ => ?_
  rw [ex] at po
  refine ⟨H0, Z0, g, Z, sr, po.bd.map fun p g1 hk1 H1 Z1 sr1 zz => ?_⟩
  have po1 := hk1 H1 Z1 sr1 zz
  split at po1
  · exact po1.elim
  rename_i hm
  split at po1
  case isFalse => exact po1.elim
  rename_i hod
  refine ⟨hm, fun u ru => ?_⟩
  obtain ⟨es, q⟩ := ownDD_of hod
  · obtain ⟨b, kvs, hs', hp, zp, rs⟩ := own_dict sr1 q
    refine ⟨.ref b, hs', H0, Z0, g1, Z1, sr1, po1.bd.mono fun p2 g2 H2 Z2 sr2 zz2 po2 w ow => ?_⟩
    split at po2
    · rename_i es2 q2
      split at po2
      case isFalse => exact po2.elim
      rename_i hcond
      obtain ⟨hint, hlen⟩ := hcond
      obtain ⟨d2, m2⟩ := p2
      obtain ⟨j, rfl⟩ := int_key hint
      obtain ⟨b1, kvs1, hs1, hp1, zp1, rs1⟩ := own_dict sr2 q2
      rw [hs'] at hs1
      cases hs1
      rw [ow.hold.int]
      refine ⟨b, _, rfl, DPut.k (k := Sum.inl j) hp1 (by rw [rs1.length]; exact hlen), ?_⟩
      have sr' := sr2.mut (p := b) (o := .dK (putK kvs1 (Sum.inl j) u)) (d' := .dict (putKey es2 (.int j) p.1)) q2 (by decide) hs' (by rw [hp1]; exact fun z => by cases z) (.owd zp1 upd_same (repks_put rs1 j (ru.up zz2)))
      exact po2 σ _ Z2 sr' (Same.refl _)
    · exact po2.elim
/-! ### errors -/
theorem r_raise {c : Nat} {m : Str} {j : Nat} {p p2 pp : Pos} (S : SC X FN N sc k GL C cls) (tk : Takes X W) (hg : gloB sc (clsName c) = true) (hc : c ∈ cls.on) :
    PS X (.Raise (some (.Call (.Name (clsName c) p) [.Constant (.str m) j p2] [] pp)) none pos) (tS X.prog X.w W cls (ex GL C L (.raise c))) := by
  obtain ⟨A, h⟩ := S.ft.cl c hc
  refine ps_to (ps_raise S.calm tk (pmk_own PySem.F.excBase_ValueError h.ex h.mg h.kp (raises_own h.sub h.ty) (S.gl hg) (glo_of hg).2.1)) fun D σ H ⟨H0, Z0, g, Z, sr, po⟩ => ?_
  rw [ex] at po
  have := po σ H Z sr (Same.refl _)
  rw [h.is] at this
  exact this
theorem suf_rep {e : Expr} {d : D} (h : sufB e d = true) : ∃ v, (∀ Z, Rep Z v d) ∧ ∀ X : Cx, PE X e (tC v) := by
  unfold sufB at h
  split at h
  · have := of_decide_eq_true h; subst this; exact ⟨_, fun _ => .bl _, fun X => pe_bl⟩
  · have := of_decide_eq_true h; subst this; exact ⟨_, fun _ => .str _, fun X => pe_str⟩
  · exact ⟨_, fun _ => .non, fun X => pe_non⟩
  · cases h
theorem isTrueD_of {d : D} (h : isTrueD d = true) : d = .bool true := by
  unfold isTrueD at h
  split at h
  · rfl
  · cases h
theorem PoS.otherW {P : Program} {w : World} {W W' : WX} {D : Ends} {H0 Z0 Z : Hp} {ct : Ctl} {g : Sg} (h : PoS P w W cls D H0 Z0 Z (.ok ct g)) : PoS P w W' cls D H0 Z0 Z (.ok ct g) := by cases ct <;> exact h
theorem catch_yes {c' : Nat} {d : D} {r : List (Nat × D)} {c : Nat} (h : subC c c' = true) : catchD ((c', d) :: r) c = some d := by unfold catchD; simp [h]
theorem catch_no {c' : Nat} {d : D} {r : List (Nat × D)} {c : Nat} (h : subC c c' = false) : catchD ((c', d) :: r) c = catchD r c := by unfold catchD; simp [h]
theorem r_tryM {b : S} {hs : List (Nat × D)} {body : List Stmt} {h : ExceptHandler} {hds : List ExceptHandler} {CN : List Nat} (S : SC X FN N sc k GL C cls) (tk : Takes X W) (hp : SE X) (hcn : cls.on = CN)
    (hb : ∀ (W' : WX) (pn : List (Addr × Obj)) (xe : Value → Shared → Prop), Takes (X.tr pn xe) W' → PassesOwn (model X.prog X.w) X.A X.env xe → PSs (X.tr pn xe) body (tS X.prog X.w W' cls (ex GL C L b)))
    (hh : chkH sc CN hs (h :: hds) = true) : PS X (.Try body (h :: hds) [] [] pos) (tS X.prog X.w W cls (ex GL C L (.try_ CN b hs))) := by
  have mk : ∀ (hs : List (Nat × D)) (hds : List ExceptHandler), chkH sc CN hs hds = true → ∃ l, HdsOk X hds l ∧ ∀ (D : Ends) (c : Nat) (σ : L2.St) (H0 Z0 H' Z' : Hp) (g : Sg), c ∈ cls.on → SR X.prog X.w H0 Z0 g σ H' Z' →
      (match catchD hs c with | some d => PoS X.prog X.w W cls D H0 Z0 Z' (.ok (.ret d .fr) g) | none => PoS X.prog X.w W cls D H0 Z0 Z' (.exc c g)) → wMany X.K W D l (cls c) none σ H' := by
    intro hs
    induction hs with
    | nil =>
      intro hds c
      cases hds with
      | cons _ _ => simp [chkH] at c
      | nil =>
        refine ⟨[], .nil, fun D c σ H0 Z0 H' Z' g hc sr po => ?_⟩
        have po : PoS X.prog X.w W cls D H0 Z0 Z' (.exc c g) := po
        exact po σ H' Z' sr (Same.refl _)
    | cons p r ih =>
      obtain ⟨c0, d0⟩ := p
      intro hds c
      cases hds with
      | nil => simp [chkH] at c
      | cons hd hds =>
        simp only [chkH, Bool.and_eq_true] at c
        obtain ⟨c1, c2⟩ := c
        split at c1
        case h_2 => cases c1
        rename_i x px e pr ph
        simp only [Bool.and_eq_true, decide_eq_true_eq] at c1
        obtain ⟨⟨⟨rfl, k1⟩, k2⟩, k3⟩ := c1
        have hc0 : c0 ∈ cls.on := by rw [hcn]; exact List.contains_iff_mem.mp k1
        obtain ⟨A, hA⟩ := S.ft.cl c0 hc0
        obtain ⟨v, hv, hpe⟩ := suf_rep k3
        obtain ⟨l, hl, hw⟩ := ih hds c2
        refine ⟨(cls c0, fun _ _ _ => fun D σ H => D.rt v H) :: l, .cons ⟨S.gl k2, (glo_of k2).2.1, .inl (by rw [hA.is]; exact hA.mg)⟩ (fun a oe cv dd pn hz hf => pss_to (pss_one (ps_ret (hpe _))) fun D σ H q => q) hl, fun D c σ H0 Z0 H' Z' g hc sr po => ?_⟩
        refine ⟨subC c c0, S.ft.em c hc c0 hc0, fun hb a ha => ?_, fun hb => ?_⟩
        · rw [catch_yes hb] at po
          exact po v σ H' Z' sr (.fr (hv _)) fun p ep hm => absurd rfl hm
        · rw [catch_no hb] at po
          exact hw D c σ H0 Z0 H' Z' g hc sr po
  obtain ⟨l, hl, hw⟩ := mk hs (h :: hds) hh
  refine ps_to (ps_try_many hp.st hp.fr tk hb hl) fun D σ H ⟨H0, Z0, g, Z, sr, po⟩ => ?_
  rw [ex] at po
  refine ⟨H0, Z0, g, Z, sr, ?_⟩
  cases q : ex GL C L b g with
  | ok ct g1 => rw [q] at po; exact PoS.otherW po
  | stuck => rw [q] at po; exact po.elim
  | exc c g1 =>
    rw [q] at po
    dsimp only at po
    split at po
    case isFalse => exact po.elim
    rename_i hc
    have hc : c ∈ cls.on := by rw [hcn]; exact List.contains_iff_mem.mp hc
    intro σ' H' Z' sr' zz
    refine hw D c σ' H0 Z0 H' Z' g1 hc sr' ?_
    cases q2 : catchD hs c with
    | none => rw [q2] at po; exact PoS.later po zz
    | some d => rw [q2] at po; exact PoS.later po zz
theorem r_tryA {b : S} {c0 : Nat} {d0 : D} {body : List Stmt} {h : ExceptHandler} {hds : List ExceptHandler} {CN : List Nat} (S : SC X FN N sc k GL C cls) (tk : Takes X W) (hp : SE X) (hcn : cls.on = CN)
    (hb : ∀ (W' : WX) (pn : List (Addr × Obj)) (xe : Value → Shared → Prop), Takes (X.tr pn xe) W' → PassesOwn (model X.prog X.w) X.A X.env xe → PSs (X.tr pn xe) body (tS X.prog X.w W' cls (ex GL C L b)))
    (hh : chkA N sc CN c0 d0 (h :: hds) = true) : PS X (.Try body (h :: hds) [] [] pos) (tS X.prog X.w W cls (ex GL C L (.try_ CN b [(c0, d0)]))) := by
  unfold chkA at hh
  split at hh
  case h_2 => cases hh
  rename_i x px n f pf n2 pn2 t pt pc pr ph e1
  cases e1
  simp only [Bool.and_eq_true, decide_eq_true_eq] at hh
  obtain ⟨⟨⟨⟨⟨⟨⟨⟨⟨⟨⟨rfl, k1⟩, k2⟩, k0⟩, rfl⟩, rfl⟩, rfl⟩, k3⟩, k4⟩, k5⟩, k6⟩, k7⟩ := hh
  have k0 := isTrueD_of k0
  subst k0
  have hc0 : c0 ∈ cls.on := by rw [hcn]; exact List.contains_iff_mem.mp k1
  obtain ⟨A, hA⟩ := S.ft.cl c0 hc0
  obtain ⟨i, hi⟩ := List.getElem?_of_mem (List.contains_iff_mem.mp k5)
  obtain ⟨h4, h5⟩ := okN_of k7
  have nd : X.N.Nodup := by rw [S.hN]; exact S.nd
  have hi' : X.N[i]? = some n2 := by rw [S.hN]; exact hi
  have hln : X.env.kindOf n2 = some .local := by show X.env.scope.names.lookup n2 = _; rw [S.sc]; exact k6
  have hsuf : ∀ (a : Addr) (oe : Obj) (cv : Value) (d : Option Addr) (pn : List (Addr × Obj)), Zc cv d oe → (∃ vs, oe.data = .fields vs) → PSs (X.suite a ((a, oe) :: pn)) [.Return (some (.Call (.Name "isinstance" pf) [.Name n2 pn2, .Name "ValueError" pt] [] pc)) pr]
      (fun D σ H => (∃ A, cv = .ref A ∧ d = none ∧ ExcC X.K A ∧ PySem.W.kitOne X.K (.ref A) (.type "ValueError") = some true) ∧ (∃ σ0 : L2.St, σ = σ0.set i (some (.ref a))) ∧ D.rt (.bl true) H) := fun a oe cv d pn hz hf => by
    refine ⟨fun pins s σ H D I q => ?_⟩
    obtain ⟨⟨A, rfl, rfl, ec, kit⟩, ⟨σ0, es⟩, q⟩ := q
    have hs : σ[i]? = some (some (.ref a)) := by
      have h1 : σ.length = X.N.length := I.len
      have h2 : i < X.N.length := (List.getElem?_eq_some_iff.mp hi').1
      rw [es] at h1 ⊢
      rw [List.length_set] at h1
      rw [List.getElem?_set_self (by omega)]
    have hgl : ∀ {y : Str}, gloB sc y = true → Gl (X.suite a ((a, oe) :: pn)) y := fun {y} h => S.gl h
    refine (pss_one (ps_ret (pe_callB (call_isE ec hz hf) (hgl k3) (S.ft.bi _ (by decide)) PyProof.Rows.boot_isinstance (pa_cons (pe_var (X := X.suite a ((a, oe) :: pn)) (i := i) hi' (.inl hln) h4 h5) (pa_cons (pe_bltn (v := .ty "ValueError") (u := .type "ValueError") (hgl k4) (S.ft.bi _ (by decide)) (by decide +kernel) rfl) pa_nil))))).run pins s σ H D I ?_
    exact ⟨_, hs, .ty "ValueError", .type "ValueError", true, rfl, fun u r => r, kit, q⟩
  refine ps_to (ps_try_as (i := i) hp.st hp.fr nd hi' hln ⟨S.gl k2, (glo_of k2).2.1, .inl hA.mg⟩ tk hb hsuf) fun D σ H ⟨H0, Z0, g, Z, sr, po⟩ => ?_
  rw [ex] at po
  refine ⟨H0, Z0, g, Z, sr, ?_⟩
  cases q : ex GL C L b g with
  | ok ct g1 => rw [q] at po; exact PoS.otherW po
  | stuck => rw [q] at po; exact po.elim
  | exc c g1 =>
    rw [q] at po
    dsimp only at po
    split at po
    case isFalse => exact po.elim
    rename_i hc
    have hc : c ∈ cls.on := by rw [hcn]; exact List.contains_iff_mem.mp hc
    obtain ⟨B, hB⟩ := S.ft.cl c hc
    intro σ' H' Z' sr' zz
    refine ⟨subC c c0, by rw [← hA.is]; exact S.ft.em c hc c0 hc0, fun hb' a ha => ?_, fun hb' => ?_⟩
    · rw [catch_yes hb'] at po
      exact ⟨⟨B, hB.is, rfl, hB.ec, hB.kit⟩, ⟨σ', rfl⟩, po (.bl true) σ' H' Z' sr' (.fr (.bl true)) fun p ep hm => absurd rfl hm⟩
    · rw [catch_no hb'] at po
      exact po σ' H' Z' sr' zz
/-! ### the walker -/
theorem put_term (v tv u : V) : putF "term" v [(("term" : Str), tv), (("taken" : Str), u)] = [(("term" : Str), v), (("taken" : Str), u)] := by
  show (if ("term" : Str) = "term" then _ else _) = _
  rw [if_pos rfl]
theorem setTD_of {t : D} {st st' : List D} (h : setTD t st = some st') : ∃ t0 ds, st = [t0, .list ds] ∧ st' = [t, .list ds] := by
  unfold setTD at h
  split at h
  · cases h; exact ⟨_, _, rfl, rfl⟩
  · cases h
theorem appTD_of {x : D} {st st' : List D} (h : appTD x st = some st') : ∃ t ds, st = [t, .list ds] ∧ st' = [t, .list (ds ++ [x])] ∧ ds.length < sizeLine := by
  unfold appTD at h
  split at h
  · split at h
    · cases h; exact ⟨_, _, rfl, rfl, by assumption⟩
    · cases h
  · cases h
theorem takD_of {st ds : List D} (h : takD st = some ds) : ∃ t, st = [t, .list ds] := by
  unfold takD at h
  split at h
  · cases h; exact ⟨_, rfl⟩
  · cases h
theorem r_mk {i : Nat} {y : Str} {py p p2 : Pos} {e : E} {a : Expr} (S : SC X FN N sc k GL C cls) (tk : Takes X W) (hp : SE X) (hi : N[i]? = some y) (hl : Loc sc y) (hg : gloB sc "Walker" = true) (hs : isStar a = false) (hm : hasM FN = true) (he : PE X a (tE X.prog X.w W cls (ev GL C e))) :
    PS X (.Assign [.Name y py] (.Call (.Name "Walker" p) [a] [] p2) pos) (tS X.prog X.w W cls (ex GL C L (.mk i e))) := by
  have nd : X.N.Nodup := by rw [S.hN]; exact S.nd
  have hl' : Loc X.env.scope y := by rw [S.sc]; exact hl
  have K := S.ft.wk hm
  by_cases hk : 2 ≤ k
  case neg =>
    refine ⟨fun pins s σ H D I q => ?_⟩
    obtain ⟨H0, Z0, g, Z, sr, po⟩ := q
    exfalso
    rw [ex] at po
    split at po
    · exact po.elim
    · split at po
      · rename_i d m e1
        exact hk (S.ft.ini _ _ _ e1)
      · exact po.elim
  obtain ⟨fI, fd, M, F, hb⟩ := K.mkW
  refine ps_to (ps_set nd (by rw [S.hN]; exact hi) hl' (pe_make (CX := L2.CX X.prog X.w) (E := fun _ _ _ => False) M F (S.room.mono hk) (S.gl hg) K.mgW hb .nil (passes_call tk (fun _ _ _ _ h => h.elim)) (pa_cons (shared he) pa_nil (star_no hs)) (glo_of hg).2.1 (star_no hs) rfl) (swaps_no rfl) (.inl (hp.fn y))) fun D σ H ⟨H0, Z0, g, Z, sr, po⟩ => ?_
  rw [ex] at po
  split at po
  · exact po.elim
  rename_i hi0
  split at po
  case h_2 => exact po.elim
  refine ⟨H0, Z0, g, Z, sr, po.bd.mono fun q g1 H1 Z1 sr1 zz po1 => ?_⟩
  split at po1
  · exact po1.elim
  rename_i hon
  refine ⟨hon, fun v rv x dx hx hdx hne => ⟨x, dx, v, rfl, upd_same, fun l H' hl0 h1 h2 h3 => ⟨rfl, ?_⟩⟩⟩
  have nx : l ≠ x := fun z => by rw [z, upd_same] at hl0; cases hl0
  have ndx : l ≠ dx := fun z => by rw [z, upd_ne hne, upd_same] at hl0; cases hl0
  have hl1 : H1 l = none := by rw [upd_ne nx, upd_ne ndx] at hl0; exact hl0
  have hh : Same H1 H' := fun b u e => h3 b u (by rw [upd_ne (ne_of_none e hx), upd_ne (ne_of_none e hdx)]; exact e) (ne_of_none e hx)
  have t : Tr H1 Z1 H' Z1 := ⟨hh, Same.refl _, sr1.zh.trans hh, fun _ _ => rfl⟩
  have ws : WS H' Z1 x l q.1 [] := .mk (zfree sr1.zh hx) (zfree sr1.zh hl1) (Ne.symm nx) h1 rv h2 .nil
  refine po1 _ H' Z1 ((sr1.tr t).set' (.ob ws) (fun b ab => ?_) i fun h0 => absurd h0 hi0) (Same.refl _)
  have hb1 : H1 b = none := by
    rcases ws.adr ab with rfl | rfl
    · exact hx
    · exact hl1
  refine ⟨Same.free sr1.keep hb1, fun j d' m' v' ej vj aj => ?_⟩
  obtain ⟨v2, hv2, h2'⟩ := sr1.sl j d' m' ej
  rw [vj] at hv2; cases hv2
  obtain ⟨_, u, hu⟩ := h2'.adr (h2'.adr_tr hh aj)
  rw [hb1] at hu; cases hu
theorem r_setT {i : Nat} {x : Str} {p p2 : Pos} {e : E} {pe : Expr} (S : SC X FN N sc k GL C cls) (hi : N[i]? = some x) (hv : visB sc x = true) (hx : okN x = true) (hm : hasM FN = true) (hc : isComp pe = false) (he : PE X pe (tE X.prog X.w W cls (ev GL C e))) :
    PS X (.Assign [.Attribute (.Name x p) "term" p2] pe pos) (tS X.prog X.w W cls (ex GL C L (.setT i e))) := by
  obtain ⟨h4, h5⟩ := okN_of hx
  have K := S.ft.wk hm
  refine ps_to (ps_fld (pe_var (i := i) (by rw [S.hN]; exact hi) (by rw [S.sc]; exact vis_of hv) h4 h5) (shared he) (swaps_no hc)) fun D σ H ⟨H0, Z0, g, Z, sr, po⟩ => ?_
  rw [ex] at po
  refine ⟨H0, Z0, g, Z, sr, po.bd.mono fun r g1 H1 Z1 sr1 zz po1 => ?_⟩
  split at po1
  · exact po1.elim
  rename_i hon
  refine ⟨hon, fun v rv => ?_⟩
  split at po1
  case h_2 => exact po1.elim
  rename_i st' hst
  rw [Option.bind_eq_some_iff] at hst
  obtain ⟨st, ho, hst⟩ := hst
  obtain ⟨q, l, t, ts, hg, hs, est, ws⟩ := obj_of sr1 ho
  obtain ⟨t0, ds, e1, e2⟩ := setTD_of hst
  subst est
  cases e1
  subst e2
  have ws0 := ws
  cases ws with
  | mk z1 z2 n e3 rt el rs =>
    refine ⟨.ref q, hs, q, _, _, _, rfl, e3, K.cl, K.n1, (by show 2 < 1000; decide), ?_⟩
    rw [put_term]
    refine po1 σ _ Z1 (sr1.walk hg hs ws0 ⟨fun b u eb => ?_, Same.refl _, fun b u eb => ?_, fun _ _ => rfl⟩ (by unfold del; rw [if_pos (.inr rfl)]) (.mk z1 z2 n upd_same rv (by rw [upd_ne (Ne.symm n)]; exact el) rs)) (Same.refl _)
    · have hb : b ≠ q := fun z => by rw [z] at eb; unfold del at eb; rw [if_pos (.inl rfl)] at eb; cases eb
      rw [upd_ne hb]
      unfold del at eb
      split at eb
      · cases eb
      · exact eb
    · rw [upd_ne (ne_of_none eb z1)]; exact sr1.zh b u eb
theorem r_appT {i : Nat} {x : Str} {p p2 apos cpos : Pos} {e : E} {a : Expr} (S : SC X FN N sc k GL C cls) (hi : N[i]? = some x) (hv : visB sc x = true) (hx : okN x = true) (hm : hasM FN = true) (hl : (apos.endLine == cpos.line) = true) (hs : isStar a = false) (he : PE X a (tE X.prog X.w W cls (ev GL C e))) :
    PS X (.Expr (.Call (.Attribute (.Attribute (.Name x p) "taken" p2) "append" apos) [a] [] cpos) pos) (tS X.prog X.w W cls (ex GL C L (.appT i e))) := by
  obtain ⟨h4, h5⟩ := okN_of hx
  have K := S.ft.wk hm
  refine ps_to (ps_expr (pe_bm PySem.F.plainAttrs_list PySem.F.slot_list_append PySem.F.type_list_append mt_append (pe_fld (pe_var (i := i) (by rw [S.hN]; exact hi) (by rw [S.sc]; exact vis_of hv) h4 h5) rfl) (pa_cons (shared he) pa_nil (star_no hs)) rfl (few1 hs) hl (star_no hs) rfl) (swaps_no rfl)) fun D σ H ⟨H0, Z0, g, Z, sr, po⟩ => ?_
  rw [ex] at po
  cases hev : ev GL C e (hide g) with
  | exc c g' => rw [hev] at po; exact po.elim
  | stuck => rw [hev] at po; exact po.elim
  | ok r g' =>
    rw [hev] at po
    dsimp only at po
    split at po
    · exact po.elim
    rename_i hon
    split at po
    case h_2 => exact po.elim
    rename_i st' hst
    rw [Option.bind_eq_some_iff] at hst
    obtain ⟨st, ho, hst⟩ := hst
    obtain ⟨q, l, t, ts, hg, hs', est, ws⟩ := obj_of sr ho
    obtain ⟨t0, ds, e1, e2, hz⟩ := appTD_of hst
    subst est
    cases e1
    subst e2
    have ws0 := ws
    cases ws with
    | mk z1 z2 n e3 rt el rs =>
      refine ⟨.ref q, hs', q, _, _, _, _, rfl, e3, K.cl, K.n2, lk_taken _ _, .inl ⟨rfl, _, .of el⟩, H, Z, hide g, Z, sr.block, ?_⟩
      rw [hev]
      intro H' Z' sr' zz
      refine ⟨hon, fun v rv => ?_⟩
      have tr := sr'.toTr
      have z1' : Z' q = none := by rw [tr.old q (by rw [e3]; exact fun z => by cases z)]; exact z1
      have z2' : Z' l = none := by rw [tr.old l (by rw [el]; exact fun z => by cases z)]; exact z2
      have el' := tr.hh _ _ el
      have e3' := tr.hh _ _ e3
      have sr2 := sr.tr tr
      have ws2 : WS H' Z' q l t ts := .mk z1' z2' n e3' (rt.up tr.zz) el' (rs.up tr.zz)
      refine ⟨l, _, v, rfl, rfl, el', by rw [rs.length]; exact hz, ?_⟩
      refine po σ _ Z' (sr2.walk hg hs' ws2 ⟨fun b u eb => ?_, Same.refl _, fun b u eb => ?_, fun _ _ => rfl⟩ (by unfold del; rw [if_pos (.inr rfl)]) (.mk z1' z2' n (by rw [upd_ne n]; exact e3') (rt.up tr.zz) upd_same ((rs.up tr.zz).append (.cons rv .nil)))) tr.zz
      · have hb : b ≠ l := fun z => by rw [z] at eb; unfold del at eb; rw [if_pos (.inr rfl)] at eb; cases eb
        rw [upd_ne hb]
        unfold del at eb
        split at eb
        · cases eb
        · exact eb
      · rw [upd_ne (ne_of_none eb z2')]; exact tr.zh b u eb
theorem r_retT {i : Nat} {x : Str} {p p2 : Pos} (S : SC X FN N sc k GL C cls) (hi : N[i]? = some x) (hv : visB sc x = true) (hx : okN x = true) (hm : hasM FN = true) :
    PS X (.Return (some (.Attribute (.Name x p) "taken" p2)) pos) (tS X.prog X.w W cls (ex GL C L (.retT i))) := by
  obtain ⟨h4, h5⟩ := okN_of hx
  have K := S.ft.wk hm
  refine ps_to (ps_ret (pe_fld (pe_var (i := i) (by rw [S.hN]; exact hi) (by rw [S.sc]; exact vis_of hv) h4 h5) rfl)) fun D σ H ⟨H0, Z0, g, Z, sr, po⟩ => ?_
  rw [ex] at po
  split at po
  case h_2 => exact po.elim
  rename_i ds' hst
  rw [Option.bind_eq_some_iff] at hst
  obtain ⟨st, ho, hst⟩ := hst
  obtain ⟨q, l, t, ts, hg, hs', est, ws⟩ := obj_of sr ho
  obtain ⟨t0, e1⟩ := takD_of hst
  subst est
  cases e1
  have ws0 := ws
  cases ws with
  | mk z1 z2 n e3 rt el rs =>
    refine ⟨.ref q, hs', q, _, _, _, _, rfl, e3, K.cl, K.n2, lk_taken _ _, ?_⟩
    exact po (.ref l) σ H Z (sr.none_at i) (.owl z2 el rs) fun b eb _ => by
      cases eb
      exact sr.own i _ .on (.ref q) l hg hs' ws0.adr2
structure GoodS (FN N : List Str) (CN : List Nat) (k : Nat) (GL : Str → Option D) (C : Orc) (cls : Cls) (L : Nat) (s : S) : Prop where
  one : ∀ (X : Cx) (W : WX) (sc : Scope) (st : Stmt), SC X FN N sc k GL C cls → Takes X W → SE X → chkS FN N CN s sc st = true → PS X st (tS X.prog X.w W cls (ex GL C L s))
  all : ∀ (X : Cx) (W : WX) (sc : Scope) (st : List Stmt), SC X FN N sc k GL C cls → Takes X W → SE X → chkB FN N CN s sc st = true → PSs X st (tS X.prog X.w W cls (ex GL C L s))
theorem GoodS.of {CN : List Nat} {s : S} (h : ∀ (X : Cx) (W : WX) (sc : Scope) (st : Stmt), SC X FN N sc k GL C cls → Takes X W → SE X → chkS FN N CN s sc st = true → PS X st (tS X.prog X.w W cls (ex GL C L s)))
    (hn : ∀ sc st, chkB FN N CN s sc st = false) : GoodS FN N CN k GL C cls L s := ⟨h, fun X W sc st S tk hp c => by rw [hn] at c; cases c⟩
theorem goodS {CN : List Nat} (hcn : cls.on = CN) : ∀ s : S, GoodS FN N CN k GL C cls L s := by
  intro s
  induction s with
  | skip => exact ⟨fun X W sc st S tk hp c => by simp [chkS] at c, fun X W sc st S tk hp c => by
      cases st with
      | nil => exact r_nil
      | cons _ _ => simp [chkB] at c⟩
  | seq a r iha ihr => exact ⟨fun X W sc st S tk hp c => by simp [chkS] at c, fun X W sc st S tk hp c => by
      cases st with
      | nil => simp [chkB] at c
      | cons x xs =>
        simp only [chkB, Bool.and_eq_true] at c
        exact r_cons (iha.one X W sc x S tk hp c.1) (ihr.all X W sc xs S tk hp c.2)⟩
  | set i e =>
    refine .of (fun X W sc st S tk hp c => ?_) (fun sc st => by cases st <;> simp [chkB])
    unfold chkS at c
    split at c
    · rename_i y py pe pos
      simp only [Bool.and_eq_true, decide_eq_true_eq] at c
      obtain ⟨⟨⟨c1, c2⟩, c3⟩, c4⟩ := c
      split at c4
      · exact r_setLc S hp tk c1 (loc_of c2) c3 c4
      · simp only [Bool.not_eq_true'] at c4
        exact r_set S hp c1 (loc_of c2) c4 ((good _).pe X W sc pe S tk c3)
    · cases c
  | put i k v =>
    refine .of (fun X W sc st S tk hp c => ?_) (fun sc st => by cases st <;> simp [chkB])
    unfold chkS at c
    split at c
    · simp only [Bool.and_eq_true, Bool.not_eq_true', decide_eq_true_eq] at c
      obtain ⟨⟨⟨⟨⟨⟨c1, c2⟩, c3⟩, c4⟩, c5⟩, c6⟩, c7⟩ := c
      exact r_put S c1 c2 c3 c5 c7 ((good k).pe X W sc _ S tk c4) ((good v).pe X W sc _ S tk c6)
    · cases c
  | ite t a b iha ihb =>
    refine .of (fun X W sc st S tk hp c => ?_) (fun sc st => by cases st <;> simp [chkB])
    unfold chkS at c
    split at c
    · simp only [Bool.and_eq_true] at c
      obtain ⟨⟨⟨c1, c2⟩, c3⟩, c4⟩ := c
      exact r_if ((good t).pt X W sc _ S tk c1 c2) (iha.all X W sc _ S tk hp c3) (ihb.all X W sc _ S tk hp c4)
    · cases c
  | whl t b ihb =>
    refine .of (fun X W sc st S tk hp c => ?_) (fun sc st => by cases st <;> simp [chkB])
    unfold chkS at c
    split at c
    · simp only [Bool.and_eq_true] at c
      obtain ⟨⟨c1, c2⟩, c3⟩ := c
      exact r_while hp ((good t).pt X W sc _ S tk c1 c2) (ihb.all X W sc _ S tk hp c3)
    · cases c
  | for_ i it b ihb =>
    refine .of (fun X W sc st S tk hp c => ?_) (fun sc st => by cases st <;> simp [chkB])
    unfold chkS at c
    split at c
    · simp only [Bool.and_eq_true, Bool.not_eq_true', decide_eq_true_eq] at c
      obtain ⟨⟨⟨⟨c1, c2⟩, c3⟩, c4⟩, c5⟩ := c
      exact r_for S hp c1 (loc_of c2) c4 ((good it).pi X W sc _ _ S tk c3) (ihb.all X W sc _ S tk hp c5)
    · cases c
  | ret e =>
    refine .of (fun X W sc st S tk hp c => ?_) (fun sc st => by cases st <;> simp [chkB])
    unfold chkS at c
    split at c
    · exact r_ret S c ((good e).pe X W sc _ S tk c)
    · have : e = .non := by cases e <;> first | rfl | cases c
      subst this
      refine ps_to ps_retN fun D σ H ⟨H0, Z0, g, Z, sr, po⟩ => ?_
      rw [ex] at po
      exact po .non σ H Z sr (.fr .non) fun p ep hm => absurd rfl hm
    · cases c
  | expr e =>
    refine .of (fun X W sc st S tk hp c => ?_) (fun sc st => by cases st <;> simp [chkB])
    unfold chkS at c
    split at c
    · simp only [Bool.and_eq_true, Bool.not_eq_true'] at c
      exact r_expr c.2 ((good e).pe X W sc _ S tk c.1)
    · cases c
  | raise c0 =>
    refine .of (fun X W sc st S tk hp c => ?_) (fun sc st => by cases st <;> simp [chkB])
    unfold chkS at c
    split at c
    · simp only [Bool.and_eq_true, decide_eq_true_eq] at c
      obtain ⟨⟨rfl, c2⟩, c3⟩ := c
      exact r_raise S tk c3 (by rw [hcn]; exact List.contains_iff_mem.mp c2)
    · cases c
  | try_ cn b hs ihb =>
    refine .of (fun X W sc st S tk hp c => ?_) (fun sc st => by cases st <;> simp [chkB])
    unfold chkS at c
    split at c
    · simp only [Bool.and_eq_true, Bool.or_eq_true, decide_eq_true_eq] at c
      obtain ⟨⟨rfl, c2⟩, c3⟩ := c
      rename_i body h hds pos
      have hb : ∀ (W' : WX) (pn : List (Addr × Obj)) (xe : Value → Shared → Prop), Takes (X.tr pn xe) W' → PassesOwn (model X.prog X.w) X.A X.env xe → PSs (X.tr pn xe) body (tS X.prog X.w W' cls (ex GL C L b)) := fun W' pn xe tk' po =>
        ihb.all (X.tr pn xe) W' sc body ⟨S.hN, S.nd, S.sc, S.calm, S.room, S.ft⟩ tk' ⟨po, hp.fn, hp.st, hp.fr⟩ c2
      rcases c3 with c3 | c3
      · exact r_tryM S tk hp hcn hb c3
      · split at c3
        · exact r_tryA S tk hp hcn hb c3
        · cases c3
    · cases c
  | never => exact .of (fun X W sc st S tk hp c => r_never) (fun sc st => by cases st <;> simp [chkB])
  | mk i e =>
    refine .of (fun X W sc st S tk hp c => ?_) (fun sc st => by cases st <;> simp [chkB])
    unfold chkS at c
    split at c
    · simp only [Bool.and_eq_true, Bool.not_eq_true', decide_eq_true_eq] at c
      obtain ⟨⟨⟨⟨⟨⟨c1, c2⟩, rfl⟩, c4⟩, c5⟩, c6⟩, c7⟩ := c
      exact r_mk S tk hp c1 (loc_of c2) c4 c5 c7 ((good e).pe X W sc _ S tk c6)
    · cases c
  | setT i e =>
    refine .of (fun X W sc st S tk hp c => ?_) (fun sc st => by cases st <;> simp [chkB])
    unfold chkS at c
    split at c
    · simp only [Bool.and_eq_true, Bool.not_eq_true', decide_eq_true_eq] at c
      obtain ⟨⟨⟨⟨⟨⟨c1, c2⟩, c3⟩, rfl⟩, c5⟩, c6⟩, c7⟩ := c
      exact r_setT S c1 c2 c3 c5 c7 ((good e).pe X W sc _ S tk c6)
    · cases c
  | appT i e =>
    refine .of (fun X W sc st S tk hp c => ?_) (fun sc st => by cases st <;> simp [chkB])
    unfold chkS at c
    split at c
    · simp only [Bool.and_eq_true, Bool.not_eq_true', decide_eq_true_eq] at c
      obtain ⟨⟨⟨⟨⟨⟨⟨⟨c1, c2⟩, c3⟩, rfl⟩, rfl⟩, c6⟩, c7⟩, c8⟩, c9⟩ := c
      exact r_appT S c1 c2 c3 c9 c6 c7 ((good e).pe X W sc _ S tk c8)
    · cases c
  | retT i =>
    refine .of (fun X W sc st S tk hp c => ?_) (fun sc st => by cases st <;> simp [chkB])
    unfold chkS at c
    split at c
    · simp only [Bool.and_eq_true, Bool.not_eq_true', decide_eq_true_eq] at c
      obtain ⟨⟨⟨⟨c1, c2⟩, c3⟩, rfl⟩, c5⟩ := c
      exact r_retT S c1 c2 c3 c5
    · cases c
end
end DL

set_option Elab.async false
set_option linter.all false
set_option maxRecDepth 100000
/-! D14: defs hold, at every number of calls; the law's end. -/
namespace DL
open PySem L2 PySem.Spec PyProof.Rows

/-- a def: its small text, the names of its slots (the parameters first), its text -/
structure Ent where
  np : Nat
  N : List Str
  body : S
  st : Stmt
  kd : Nat
def Ent.fd (e : Ent) : Fd := ⟨e.np, e.N.length, e.body, e.kd⟩
abbrev Tab := List (Str × Ent)
def tabT (tab : Tab) : Str → Option Fd := fun x => (tab.lookup x).map Ent.fd
def tabN (tab : Tab) : List Str := tab.map (·.1)
/-- its scope is as a def's is -/
def scB (N : List Str) (np : Nat) (sc : Scope) : Bool := decide (sc.kind = .function) && !sc.isCoroutine && !sc.isGenerator && decide N.Nodup && decide (np ≤ N.length) &&
  ((N.take np).all fun x => match sc.names.lookup x with | some .local => true | some .cell => true | _ => false) && (sc.names.all fun y => match y.2 with | .free => false | _ => true)
theorem sc_of {N : List Str} {np : Nat} {sc : Scope} (h : scB N np sc = true) : FnScope N (N.take np) sc := by
  simp only [scB, Bool.and_eq_true, Bool.not_eq_true', decide_eq_true_eq, List.all_eq_true] at h
  obtain ⟨⟨⟨⟨⟨⟨h1, h2⟩, h3⟩, h4⟩, h5⟩, h6⟩, h7⟩ := h
  refine ⟨h1, h2, h3, h4, ?_, fun x hx => ?_, fun y hy e => ?_⟩
  · rw [List.length_take, Nat.min_eq_left h5]
  · have := h6 x hx
    split at this <;> first | exact .inl (by assumption) | exact .inr (by assumption) | cases this
  · have := h7 y hy
    rw [e] at this
    cases this
/-- 0: a def, 1: a method, 2: the class's __init__ -/
def kdOf (x : Str) : Nat := if x = "Walker.__init__" then 2 else if isM x = true then 1 else 0
/-- the text of __init__ -/
def initB (sc : Scope) : List Stmt → Bool
  | [.Assign [.Attribute (.Name a _) f _] (.Name b _) _, .Assign [.Attribute (.Name c _) g _] (.List [] _) _] => decide (a = "self") && decide (f = "term") && decide (b = "term") && decide (c = "self") && decide (g = "taken") && visB sc "self" && visB sc "term"
  | _ => false
def entB (FN : List Str) (CN : List Nat) (x : Str) (e : Ent) : Bool := decide (e.kd = kdOf x) && scB e.N e.np (defScope e.st) && (if e.kd = 2 then decide (e.N = (["self", "term"] : List Str)) && decide (e.np = 2) && initB (defScope e.st) (defBody e.st) else (decide (e.kd = 0) || decide (0 < e.np)) && chkB FN e.N CN e.body (defScope e.st) (defBody e.st))
def tabB (CN : List Nat) (tab : Tab) : Bool := tab.all fun p => entB (tabN tab) CN p.1 p.2
/-- the module's own: each def of the table stands under its name -/
structure FnAt (K : PySem.W.Frag) (mg : Str → Option Value) (x : Str) (e : Ent) (f : Addr) (fd : FuncData) : Prop where
  fn : Fun K x x e.st f fd
  mg : mg x = some (.ref f)
  bd : Binds K fd (e.N.take e.np) []
  z : e.kd = 0
section
variable [Cfg]
/-- a method -/
structure MtAt (K : PySem.W.Frag) (a x : Str) (e : Ent) (f : Addr) (fd : FuncData) : Prop where
  fn : Fun K a x e.st f fd
  mt : Meth K Cfg.wc a f
  bd : Binds K fd (e.N.take e.np) []
inductive FnsAt (K : PySem.W.Frag) (mg : Str → Option Value) : Tab → Prop
  | nil : FnsAt K mg []
  | cons {x : Str} {e : Ent} {f : Addr} {fd : FuncData} {tab : Tab} : FnAt K mg x e f fd → FnsAt K mg tab → FnsAt K mg ((x, e) :: tab)
  | meth {a x : Str} {e : Ent} {f : Addr} {fd : FuncData} {tab : Tab} : e.kd = 1 → mths.lookup a = some x → MtAt K a x e f fd → FnsAt K mg tab → FnsAt K mg ((x, e) :: tab)
  | init {x : Str} {e : Ent} {tab : Tab} : e.kd = 2 → x = "Walker.__init__" → FnsAt K mg tab → FnsAt K mg ((x, e) :: tab)
theorem FnsAt.get {K : PySem.W.Frag} {mg : Str → Option Value} {tab : Tab} (h : FnsAt K mg tab) {x : Str} {e : Ent} (l : tab.lookup x = some e) (hk : e.kd = 0) : ∃ f fd, FnAt K mg x e f fd := by
  induction h with
  | nil => cases l
  | cons a _ ih =>
    rw [List.lookup_cons] at l
    split at l
    · rename_i q
      have q := (beq_iff_eq.mp q)
      subst q
      cases l
      exact ⟨_, _, a⟩
    · exact ih l
  | meth k1 _ _ _ ih =>
    rw [List.lookup_cons] at l
    split at l
    · cases l; rw [k1] at hk; cases hk
    · exact ih l
  | init k1 _ _ ih =>
    rw [List.lookup_cons] at l
    split at l
    · cases l; rw [k1] at hk; cases hk
    · exact ih l
theorem mths_inj {a b x : Str} (h : mths.lookup a = some x) (h2 : mths.lookup b = some x) : a = b := by
  have h := lk_mem h
  have h2 := lk_mem h2
  have key : ∀ p ∈ mths, ∀ q ∈ mths, p.2 = q.2 → p.1 = q.1 := by decide +kernel
  exact key _ h _ h2 rfl
theorem mths_isM {a x : Str} (h : mths.lookup a = some x) : kdOf x = 1 := by
  have h := lk_mem h
  have key : ∀ p ∈ mths, kdOf p.2 = 1 := by decide +kernel
  exact key _ h
theorem FnsAt.getM {K : PySem.W.Frag} {mg : Str → Option Value} {tab : Tab} (h : FnsAt K mg tab) {a x : Str} {e : Ent} (ha : mths.lookup a = some x) (l : tab.lookup x = some e) (hk : e.kd = 1) : ∃ f fd, MtAt K a x e f fd := by
  induction h with
  | nil => cases l
  | @cons y e' f fd tab A _ ih =>
    rw [List.lookup_cons] at l
    split at l
    · rename_i q
      cases l
      have q := (beq_iff_eq.mp q)
      subst q
      exact absurd A.z (by rw [hk]; decide)
    · exact ih l
  | @meth b y e' f fd tab k1 hb A _ ih =>
    rw [List.lookup_cons] at l
    split at l
    · rename_i q
      have q := (beq_iff_eq.mp q)
      subst q
      cases l
      have := mths_inj ha hb
      subst this
      exact ⟨_, _, A⟩
    · exact ih l
  | init k1 _ _ ih =>
    rw [List.lookup_cons] at l
    split at l
    · cases l; rw [k1] at hk; cases hk
    · exact ih l
/-- the class Walker as the top has made it -/
structure WC (K : PySem.W.Frag) (mg : Str → Option Value) (tab : Tab) : Prop where
  cl : L2.Cls K Cfg.wc
  n1 : NoAttr K Cfg.wc "term"
  n2 : NoAttr K Cfg.wc "taken"
  mgW : mg "Walker" = some (.ref Cfg.wc)
  ini : ∃ e fI fd, tab.lookup ("Walker.__init__" : Str) = some e ∧ Mk K Cfg.wc fI ∧ Fun K "__init__" "Walker.__init__" e.st fI fd ∧ Binds K fd ["self", "term"] []
structure Mods (w : World) (K : PySem.W.Frag) (mg : Str → Option Value) (tab : Tab) (GL : Str → Option D) (cls : Cls) : Prop where
  fns : FnsAt K mg tab
  gl : ∀ x i, GL x = some (.int i) → ∃ t, mg x = some (.int i t)
  gd : ∀ x es, GL x = some (.dict es) → ∃ d a n, GDict w K mg x es d a n
  cl : ∀ c ∈ cls.on, ∃ C, ClsAt K mg cls c C
  em : ∀ c ∈ cls.on, ∀ d ∈ cls.on, PySem.W.exmOne K (cls c) (cls d) = some (subC c d)
  bi : ∀ x ∈ biNames, mg x = none
  wc : hasM (tabN tab) = true → WC K mg tab
end
theorem startG_get {ns : Nat} {ds : List D} {i : Nat} {d : D} {m : Md} (h : (startG ns ds)[i]? = some (some (d, m))) : m = .fr ∧ ds[i]? = some d := by
  unfold startG at h
  by_cases hi : i < ds.length
  · rw [List.getElem?_append_left (by simpa using hi), List.getElem?_map] at h
    cases e : ds[i]? with
    | none => rw [e] at h; cases h
    | some d' => rw [e] at h; cases h; exact ⟨rfl, rfl⟩
  · rw [List.getElem?_append_right (by simpa using hi), List.getElem?_replicate] at h
    split at h <;> cases h
theorem start_get {N : List Str} {vs : List V} {i : Nat} {v : V} (h : vs[i]? = some v) : (L2.start N vs)[i]? = some (some v) := by
  have hi : i < vs.length := (List.getElem?_eq_some_iff.mp h).1
  unfold L2.start
  rw [List.getElem?_append_left (by simpa using hi), List.getElem?_map, h]
  rfl
theorem sr_start [Cfg] [Fix] (hfx : Fix.fx = none) {P : Program} {w : World} {H Z : Hp} {N : List Str} {vs : List V} {ds : List D} (zh : Same Z H) (r : Reps Z vs ds) (hl : vs.length ≤ N.length) : SR P w H Z (startG N.length ds) (L2.start N vs) H Z := by
  refine ⟨zh, Same.refl _, fun _ _ => rfl, Same.refl _, ?_, fun i d m h => ?_, fun i d m v b h hv a => ?_, fun i j d d' m m' v v' b h h' hv hv' a a' => ?_, fun p xs v hp => by rw [hfx] at hp; cases hp⟩
  · unfold startG L2.start
    simp [r.length]
  · obtain ⟨rfl, h1⟩ := startG_get h
    obtain ⟨v, h2, h3⟩ := r.get h1
    exact ⟨v, start_get h2, .fr h3⟩
  · exact absurd (startG_get h).1 a.1
  · exact absurd (startG_get h).1 a.1
/-- the state in which a method begins -/
theorem sr_startM [Cfg] [Fix] {P : Program} {w : World} {H Z : Hp} {N : List Str} {us : List V} {ds : List D} {p l : Addr} {t : D} {ts : List D} (hfx : Fix.fx = some p) (zh : Same Z H) (ws : WS H Z p l t ts) (r : Reps Z us ds) (hl : us.length + 1 ≤ N.length) :
    SR P w (del H p l) Z (startM N.length (.tuple [t, .list ts] :: ds)) (L2.start N (.ref p :: us)) H Z := by
  have get : ∀ (i : Nat) (d : D) (m : Md), (startM N.length (.tuple [t, .list ts] :: ds))[i]? = some (some (d, m)) → (i = 0 ∧ d = .tuple [t, .list ts] ∧ m = .on) ∨ (m = .fr ∧ ∃ j, i = j + 1 ∧ ds[j]? = some d) := fun i d m h => by
    unfold startM at h
    cases i with
    | zero => cases h; exact .inl ⟨rfl, rfl, rfl⟩
    | succ j =>
      have h : (startG (N.length - 1) ds)[j]? = some (some (d, m)) := h
      exact .inr ⟨(startG_get h).1, j, rfl, (startG_get h).2⟩
  have s0 : (L2.start N (.ref p :: us))[0]? = some (some (.ref p)) := start_get (i := 0) rfl
  refine ⟨zh, Same.refl _, fun _ _ => rfl, fun b u e => ?_, ?_, fun i d m h => ?_, fun i d m v b h hv a => ?_, fun i j d d' m m' v v' b h h' hv hv' a a' => ?_, fun q xs v hq h hv => ?_⟩
  · unfold del at e
    split at e
    · cases e
    · exact e
  · unfold startM startG L2.start
    simp [r.length]
    have := r.length
    omega
  · rcases get i d m h with ⟨rfl, rfl, rfl⟩ | ⟨rfl, j, rfl, hj⟩
    · exact ⟨_, s0, .ob ws⟩
    · obtain ⟨v, h2, h3⟩ := r.get hj
      exact ⟨v, start_get (by simpa using h2), .fr h3⟩
  · rcases get i d m h with ⟨rfl, rfl, rfl⟩ | ⟨rfl, _⟩
    · rw [s0] at hv
      cases hv
      unfold del
      rw [if_pos (ws.adr a)]
    · exact absurd rfl a.1
  · rcases get i d m h with ⟨rfl, rfl, rfl⟩ | ⟨rfl, _⟩
    · rcases get j d' m' h' with ⟨rfl, _⟩ | ⟨rfl, _⟩
      · rfl
      · exact absurd rfl a'.1
    · exact absurd rfl a.1
  · rw [hfx] at hq
    cases hq
    rw [s0] at hv
    cases hv; rfl
theorem lookup_mem {α : Type} : ∀ {l : List (Str × α)} {x : Str} {e : α}, l.lookup x = some e → (x, e) ∈ l
  | [], _, _, h => by cases h
  | (y, a) :: r, x, e, h => by
    rw [List.lookup_cons] at h
    split at h
    · rename_i q
      have : x = y := by simpa using q
      subst this
      cases h
      exact List.mem_cons_self
    · exact List.mem_cons_of_mem _ (lookup_mem h)
theorem lookup_name {tab : Tab} {x : Str} (h : (tabN tab).contains x = true) : ∃ e, tab.lookup x = some e := by
  induction tab with
  | nil => simp [tabN] at h
  | cons p r ih =>
    obtain ⟨y, a⟩ := p
    rw [List.lookup_cons]
    by_cases q : x = y
    · subst q; exact ⟨a, by simp⟩
    · have hb : (x == y) = false := by simpa using q
      rw [hb]
      apply ih
      simp only [tabN, List.map_cons, List.contains_cons, Bool.or_eq_true] at h ⊢
      rcases h with h | h
      · rw [hb] at h; cases h
      · exact h
section
variable [Cfg] {P : Program} {w : World} {K : PySem.W.Frag} {mg : Str → Option Value} {base : Heap} {tab : Tab} {GL : Str → Option D} {cls : Cls} {L : Nat}
theorem ent_ok {CN : List Nat} (ok : tabB CN tab = true) {x : Str} {e : Ent} (hT : tab.lookup x = some e) : e.kd = kdOf x ∧ scB e.N e.np (defScope e.st) = true ∧ (e.kd = 2 → e.N = (["self", "term"] : List Str) ∧ e.np = 2 ∧ initB (defScope e.st) (defBody e.st) = true) ∧ (e.kd ≠ 2 → (e.kd = 0 ∨ 0 < e.np) ∧ chkB (tabN tab) e.N CN e.body (defScope e.st) (defBody e.st) = true) := by
  have hok : entB (tabN tab) CN x e = true := List.all_eq_true.mp ok (x, e) (lookup_mem hT)
  simp only [entB, Bool.and_eq_true, decide_eq_true_eq] at hok
  obtain ⟨⟨h1, h2⟩, h3⟩ := hok
  refine ⟨h1, h2, fun hk => ?_, fun hk => ?_⟩
  · rw [if_pos hk] at h3
    simp only [Bool.and_eq_true, decide_eq_true_eq] at h3
    exact ⟨h3.1.1, h3.1.2, h3.2⟩
  · rw [if_neg hk] at h3
    simp only [Bool.and_eq_true, Bool.or_eq_true, decide_eq_true_eq] at h3
    exact h3
theorem np_le {N : List Str} {np : Nat} {sc : Scope} (h : scB N np sc = true) : np ≤ N.length := by
  simp only [scB, Bool.and_eq_true, decide_eq_true_eq] at h
  exact h.1.1.2
/-- __init__ holds -/
theorem initOk {CN : List Nat} (ok : tabB CN tab = true) {e : Ent} (hT : tab.lookup ("Walker.__init__" : Str) = some e) {fI : Addr} {fd : FuncData} (F : Fun K "__init__" "Walker.__init__" e.st fI fd) (W : WC K mg tab) : FnOk P w K mg base (L2.CX P w) 1 fI fd ["self", "term"] spInit := by
  obtain ⟨k1, k2, k3, _⟩ := ent_ok ok hT
  obtain ⟨eN, en, hb⟩ := k3 (by rw [k1]; decide +kernel)
  have hs := sc_of k2
  rw [eN, en] at hs
  refine F.okX (k := 0) (N := ["self", "term"]) hs (fun vs H Q E h => ?_) (fun cdv A outer s H vs Q E hr h => ?_)
  · obtain ⟨p, dx, tv, rfl, _⟩ := h; rfl
  obtain ⟨p, dx, tv, rfl, hp, q⟩ := h
  generalize hst : defBody e.st = body at hb ⊢
  unfold initB at hb
  split at hb
  case h_2 => cases hb
  simp only [Bool.and_eq_true, decide_eq_true_eq] at hb
  obtain ⟨⟨⟨⟨⟨⟨rfl, rfl⟩, rfl⟩, rfl⟩, rfl⟩, v1⟩, v2⟩ := hb
  refine ⟨_, pss_cons (ps_fld (pe_var (i := 0) rfl (vis_of v1) (by decide +kernel) (by decide +kernel)) (pe_var (i := 1) rfl (vis_of v2) (by decide +kernel) (by decide +kernel)) (swaps_no rfl)) (pss_one (ps_fld (pe_var (i := 0) rfl (vis_of v1) (by decide +kernel) (by decide +kernel)) (pe_lst pa_nil) (swaps_no rfl))), ?_⟩
  refine ⟨tv, rfl, .ref p, rfl, p, Cfg.wc, dx, [], rfl, hp, W.cl, W.n1, (by show 0 < 1000; decide), ?_⟩
  refine ⟨(by show 0 ≤ sizeLine; exact Nat.zero_le _), fun l hl => ?_⟩
  have npl : p ≠ l := fun z => by rw [← z, upd_same] at hl; cases hl
  refine ⟨.ref p, rfl, p, Cfg.wc, dx, putF "term" tv [], rfl, (by rw [upd_ne npl, upd_same]), W.cl, W.n2, (by show 1 < 1000; decide), ?_⟩
  have hl0 : H l = none := by rw [upd_ne (Ne.symm npl)] at hl; exact hl
  have e1 : putF "taken" (V.ref l) (putF "term" tv []) = [(("term" : Str), tv), (("taken" : Str), V.ref l)] := by
    show (if ("term" : Str) = "taken" then _ else _) = _
    rw [if_neg (by decide +kernel)]
    rfl
  rw [e1]
  refine q l _ hl0 upd_same (by rw [upd_ne (Ne.symm npl), upd_same]) fun b u eb hbp => ?_
  have hbl : b ≠ l := ne_of_none eb hl0
  rw [upd_ne hbp, upd_ne hbl, upd_ne hbp]
  exact eb
structure AllOk (P : Program) (w : World) (K : PySem.W.Frag) (mg : Str → Option Value) (base : Heap) (tab : Tab) (GL : Str → Option D) (cls : Cls) (L n : Nat) : Prop where
  f : ∀ (x : Str) (e : Ent) (f : Addr) (fd : FuncData), tab.lookup x = some e → FnAt K mg x e f fd → FnOk P w K mg base (L2.CX P w) n f fd (e.N.take e.np) (spD P w (callD GL (tabT tab) L n) cls x)
  m : ∀ (a x : Str) (e : Ent) (f : Addr) (fd : FuncData), mths.lookup a = some x → tab.lookup x = some e → MtAt K a x e f fd → FnOk P w K mg base (L2.CX P w) n f fd (e.N.take e.np) (spM P w (callD GL (tabT tab) L n) x)
theorem allOk (M : Mods w K mg tab GL cls) (ok : tabB cls.on tab = true) : ∀ n : Nat, AllOk P w K mg base tab GL cls L n
  | 0 => by
    refine ⟨fun x e f fd hT A => ?_, fun a x e f fd ha hT A => ?_⟩
    · have no : ∀ vs H Q E, ¬ spD P w (callD GL (tabT tab) L 0) cls x vs H Q E := fun vs H Q E ⟨_, _, _, _, h⟩ => h
      exact ⟨fun vs H Q E h => absurd h (no vs H Q E), fun A outer s H args us vs Q E _ _ _ _ h => absurd h (no vs H Q E)⟩
    · have no : ∀ vs H Q E, ¬ spM P w (callD GL (tabT tab) L 0) x vs H Q E := fun vs H Q E ⟨_, _, _, _, _, _, _, _, _, _, _, h⟩ => h
      exact ⟨fun vs H Q E h => absurd h (no vs H Q E), fun A outer s H args us vs Q E _ _ _ _ h => absurd h (no vs H Q E)⟩
  | n + 1 => by
    have I := allOk M ok n
    have ft : FT P w K mg base n GL (callD GL (tabT tab) L n) cls (tabN tab) := by
      refine ⟨M.gl, M.gd, M.cl, M.em, fun g hg => ?_, M.bi, fun hm => ?_, fun ds d m h => ?_, fun a x ha hc => ?_⟩
      · unfold fnB at hg
        simp only [Bool.and_eq_true, Bool.not_eq_true'] at hg
        obtain ⟨e', he'⟩ := lookup_name hg.1
        have hk : e'.kd = 0 := by
          rw [(ent_ok ok he').1]
          have h1 : g ≠ "Walker.__init__" := fun z => by subst z; have := hg.2; revert this; decide +kernel
          unfold kdOf
          rw [if_neg h1, if_neg (by rw [hg.2]; decide)]
        obtain ⟨fa, fd', A2⟩ := M.fns.get he' hk
        exact ⟨fa, fd', _, A2.mg, A2.fn.kp, I.f g e' fa fd' he' A2, A2.bd⟩
      · have W := M.wc hm
        obtain ⟨e, fI, fd, he, mk, F, hb⟩ := W.ini
        exact ⟨W.cl, W.n1, W.n2, W.mgW, fI, fd, mk, initOk ok he F W, hb⟩
      · cases n with
        | zero => cases h
        | succ n' =>
          rw [callD] at h
          cases q : tab.lookup ("Walker.__init__" : Str) with
          | none =>
            have e1 : tabT tab "Walker.__init__" = none := by simp [tabT, q]
            simp only [e1] at h
            cases h
          | some e =>
            have e1 : tabT tab "Walker.__init__" = some e.fd := by simp [tabT, q]
            simp only [e1] at h
            have hk : e.fd.kd = 2 := by
              show e.kd = 2
              rw [(ent_ok ok q).1]; decide +kernel
            rw [hk] at h
            split at h
            · simp only at h
              split at h
              · cases h
              · omega
            · cases h
      · obtain ⟨e', he'⟩ := lookup_name hc
        have hk : e'.kd = 1 := by rw [(ent_ok ok he').1]; exact mths_isM ha
        obtain ⟨fa, fd', A2⟩ := M.fns.getM ha he' hk
        exact ⟨fa, fd', _, A2.mt, I.m a x e' fa fd' ha he' A2, A2.bd⟩
    refine ⟨fun x e f fd hT A => ?_, fun a x e f fd ha hT A => ?_⟩
    · letI : Fix := ⟨none⟩
      obtain ⟨k1, hsc, _, k4⟩ := ent_ok ok hT
      obtain ⟨_, hck⟩ := k4 (by rw [A.z]; decide)
      have hnp := np_le hsc
      have e1 : tabT tab x = some e.fd := by simp [tabT, hT]
      have hkd : e.fd.kd = 0 := A.z
      refine A.fn.okX (sc_of hsc) (fun vs H Q E h => ?_) (fun cdv A' outer s H vs Q E hr h => ?_)
      · obtain ⟨Z, ds, _, r, h⟩ := h
        rw [callD] at h
        simp only [e1] at h
        by_cases c : ds.length = e.fd.np
        · rw [List.length_take, Nat.min_eq_left hnp, r.length, c]; rfl
        · rw [if_neg c] at h; exact h.elim
      obtain ⟨Z, ds, zh, r, h⟩ := h
      rw [callD] at h
      simp only [e1] at h
      by_cases c : ds.length = e.fd.np
      case neg => rw [if_neg c] at h; exact h.elim
      rw [if_pos c, hkd] at h
      simp only at h
      have S : SC (cxOf (L2.CX P w) P w K mg base e.N x (defScope e.st) f cdv A' outer s H E) (tabN tab) e.N (defScope e.st) n GL (callD GL (tabT tab) L n) cls :=
        ⟨rfl, (sc_of hsc).nd, rfl, rfl, hr, ft⟩
      have tk : Takes (cxOf (L2.CX P w) P w K mg base e.N x (defScope e.st) f cdv A' outer s H E) (fun c d _ H' => E c d H') := takes_of rfl rfl rfl rfl
      have hp : PassesOwn (model P w) (cxOf (L2.CX P w) P w K mg base e.N x (defScope e.st) f cdv A' outer s H E).A (cxOf (L2.CX P w) P w K mg base e.N x (defScope e.st) f cdv A' outer s H E).env (cxOf (L2.CX P w) P w K mg base e.N x (defScope e.st) f cdv A' outer s H E).xe := passes_of rfl
      refine ⟨_, (goodS rfl e.body).all (L := L) _ _ _ _ S tk ⟨hp, fun _ => rfl, rfl, rfl⟩ hck, H, Z, startG e.N.length ds, Z, sr_start rfl zh r (by rw [r.length, c]; exact hnp), ?_⟩
      have hs : e.fd.ns = e.N.length := rfl
      rw [hs] at h
      show PoS P w (fun c d _ H' => E c d H') cls _ H Z Z (ex GL (callD GL (tabT tab) L n) L e.fd.body (startG e.N.length ds))
      cases q : ex GL (callD GL (tabT tab) L n) L e.fd.body (startG e.N.length ds) with
      | ok ct g =>
        rw [q] at h
        cases ct with
        | next =>
          intro σ H' Z' sr zz
          exact h.2 .non H' Z' sr.toTr (.fr .non) fun p ep hm => absurd rfl hm
        | brk => exact h.elim
        | cont => exact h.elim
        | ret d m =>
          intro v σ' H' Z' sr hh hnew
          have t := sr.toTr
          unfold toCR at h
          simp only at h
          by_cases hm : m = .on
          · rw [if_pos hm] at h; exact h.elim
          · rw [if_neg hm] at h; exact h.2 v H' Z' t hh hnew
      | exc c0 g =>
        rw [q] at h
        intro σ H' Z' sr zz
        have h : ∀ H', Same H H' → E (cls c0) none H' := h
        exact h H' sr.keep
      | stuck => rw [q] at h; exact h.elim
    · obtain ⟨k1, hsc, _, k4⟩ := ent_ok ok hT
      have hk1 : e.kd = 1 := by rw [k1]; exact mths_isM ha
      obtain ⟨hpos, hck⟩ := k4 (by rw [hk1]; decide)
      have hpos : 0 < e.np := hpos.resolve_left (by rw [hk1]; decide)
      have hnp := np_le hsc
      have e1 : tabT tab x = some e.fd := by simp [tabT, hT]
      have hkd : e.fd.kd = 1 := hk1
      refine A.fn.okX (sc_of hsc) (fun vs H Q E h => ?_) (fun cdv A' outer s H vs Q E hr h => ?_)
      · obtain ⟨Z, p, l, t, ts, us, ds, rfl, _, _, r, h⟩ := h
        rw [callD] at h
        simp only [e1] at h
        by_cases c : (PyData.tuple [t, .list ts] :: ds).length = e.fd.np
        · rw [List.length_take, Nat.min_eq_left hnp, List.length_cons, r.length]; exact c
        · rw [if_neg c] at h; exact h.elim
      obtain ⟨Z, p, l, t, ts, us, ds, rfl, zh, ws, r, h⟩ := h
      letI : Fix := ⟨some p⟩
      rw [callD] at h
      simp only [e1] at h
      by_cases c : (PyData.tuple [t, .list ts] :: ds).length = e.fd.np
      case neg => rw [if_neg c] at h; exact h.elim
      rw [if_pos c, hkd] at h
      simp only at h
      have S : SC (cxOf (L2.CX P w) P w K mg base e.N x (defScope e.st) f cdv A' outer s H E) (tabN tab) e.N (defScope e.st) n GL (callD GL (tabT tab) L n) cls :=
        ⟨rfl, (sc_of hsc).nd, rfl, rfl, hr, ft⟩
      have tk : Takes (cxOf (L2.CX P w) P w K mg base e.N x (defScope e.st) f cdv A' outer s H E) (fun c d _ H' => E c d H') := takes_of rfl rfl rfl rfl
      have hp : PassesOwn (model P w) (cxOf (L2.CX P w) P w K mg base e.N x (defScope e.st) f cdv A' outer s H E).A (cxOf (L2.CX P w) P w K mg base e.N x (defScope e.st) f cdv A' outer s H E).env (cxOf (L2.CX P w) P w K mg base e.N x (defScope e.st) f cdv A' outer s H E).xe := passes_of rfl
      have hlen : us.length + 1 ≤ e.N.length := by
        have c' : ds.length + 1 = e.np := c
        rw [r.length]; omega
      refine ⟨_, (goodS rfl e.body).all (L := L) _ _ _ _ S tk ⟨hp, fun _ => rfl, rfl, rfl⟩ hck, del H p l, Z, startM e.N.length (.tuple [t, .list ts] :: ds), Z, sr_startM rfl zh ws r hlen, ?_⟩
      have hs : e.fd.ns = e.N.length := rfl
      rw [hs] at h
      show PoS P w (fun c d _ H' => E c d H') cls _ (del H p l) Z Z (ex GL (callD GL (tabT tab) L n) L e.fd.body (startM e.N.length (.tuple [t, .list ts] :: ds)))
      have fin : ∀ (g : Sg) (st : List D) (r : D) (σ : L2.St) (H' Z' : Hp) (v : V), objAt 0 g = some st → SR P w (del H p l) Z g σ H' Z' → Rep Z' v r →
          (∀ v H' Z' l' t' ts', st = [t', .list ts'] → Tr (del H p l) Z H' Z' → del H p l l' = none → WS H' Z' p l' t' ts' → Rep Z' v r → Q v H') → Q v H' := fun g st r σ H' Z' v ho sr rv hq => by
        obtain ⟨q, l', t', ts', hg, hσ, est, ws'⟩ := obj_of sr ho
        have := sr.fix p st (.ref q) rfl hg hσ
        cases this
        exact hq v H' Z' l' t' ts' est sr.toTr (sr.own 0 _ .on (.ref p) l' hg hσ ws'.adr2) ws' rv
      cases q : ex GL (callD GL (tabT tab) L n) L e.fd.body (startM e.N.length (.tuple [t, .list ts] :: ds)) with
      | ok ct g =>
        rw [q] at h
        cases ct with
        | next =>
          intro σ H' Z' sr zz
          unfold toCM at h
          simp only at h
          cases ho : objAt 0 g with
          | none => rw [ho] at h; exact h.elim
          | some st => rw [ho] at h; exact fin g st .none σ H' Z' .non ho sr .non h
        | brk => exact h.elim
        | cont => exact h.elim
        | ret d m =>
          intro v σ' H' Z' sr hh hnew
          unfold toCM at h
          simp only at h
          cases ho : objAt 0 g with
          | none => rw [ho] at h; exact h.elim
          | some st =>
            rw [ho] at h
            simp only at h
            by_cases hm : m = .fr
            · subst hm
              cases hh with
              | fr rv => exact fin g st d σ' H' Z' v ho sr rv h
            · rw [if_neg hm] at h; exact h.elim
      | exc c0 g => rw [q] at h; exact h.elim
      | stuck => rw [q] at h; exact h.elim

/-! ### the law's end -/
/-- no list is one of the module's own things -/
def noLst (K : PySem.W.Frag) : Bool := K.all fun p => match p.2.cls with | .type x => !(x == "list") | _ => true
theorem noLst_of {K : PySem.W.Frag} (h : noLst K = true) {a : Addr} {o : Obj} (l : K.lookup a = some o) : o.cls ≠ .type "list" := by
  induction K with
  | nil => cases l
  | cons p r ih =>
    obtain ⟨b, x⟩ := p
    simp only [noLst, List.all_cons, Bool.and_eq_true] at h
    rw [List.lookup_cons] at l
    split at l
    · cases l
      intro e
      rw [e] at h
      exact absurd h.1 (by decide)
    · exact ih h.2 l
/-- the script -/
theorem script_rep {H : Hp} {a : Addr} {ns : List Int} (h : SqL K H a (ns.map V.int)) (hL : noLst K = true) : Rep H (.ref a) (.list (ns.map .int)) := by
  rcases h with h | ⟨o, its, n, hk, hc, _⟩
  · refine .lst h ?_
    clear h
    induction ns with
    | nil => exact .nil
    | cons i r ih => exact .cons (.int i) ih
  · exact absurd hc (noLst_of hL hk)
/-- what the law's def promises -/
def spEnd (K : PySem.W.Frag) : Sp := fun vs H Q _ => ∃ (a : Addr) (ns : List Int), vs = [.ref a] ∧ SqL K H a (ns.map V.int) ∧ ns.length ≤ 63 ∧ (∀ z ∈ ns, Builtin.Int.intBits z ≤ 1048576) ∧ ∀ H', Q (.bl true) H'
theorem sp_end {C : Orc} {f : Str} {H : Hp} {vs : List V} {Q : VK} {E : XK} (h : spEnd K vs H Q E) (hL : noLst K = true) (law : ∀ ns : List Int, ns.length ≤ 63 → (∀ z ∈ ns, Builtin.Int.intBits z ≤ 1048576) → C f [.list (ns.map .int)] = .ok (.bool true) .fr) :
    spD P w C cls f vs H Q E := by
  obtain ⟨a, ns, rfl, hS, hl, hb, q⟩ := h
  refine ⟨H, [.list (ns.map .int)], Same.refl _, .cons (script_rep hS hL) .nil, ?_⟩
  rw [law ns hl hb]
  refine ⟨(by decide), fun v H' Z' t hh _ => ?_⟩
  rw [hh.bool]
  exact q H'
end
theorem FnOk.weak {P : Program} {w : World} {K : PySem.W.Frag} {mg : Str → Option Value} {base : Heap} {CX : CXT} {k : Nat} {f : Addr} {fd : FuncData} {ps : List Str} {sp sp' : Sp} (F : FnOk P w K mg base CX k f fd ps sp) (h : ∀ vs H Q E, sp' vs H Q E → sp vs H Q E) : FnOk P w K mg base CX k f fd ps sp' :=
  ⟨fun vs H Q E q => F.len vs H Q E (h vs H Q E q), fun A outer s H args us vs Q E a b c d q => F.run A outer s H args us vs Q E a b c d (h vs H Q E q)⟩
/-- THE WALK of a law: its table, checked; the module's things; the run by values says True at every script -/
theorem walkD {l : PySem.W.OpenLaw} {q : Program} {loose : List Str} {XP : (Str → Option Value) → Heap → Prop} {YP : World → Heap → Prop} {d : DefRec} {K : Params → PySem.W.Frag} {tab : Tab} {GL : Str → Option D} {CN : List Nat} {e : Ent} {x : Str} {k L : Nat}
    (hn : l.most = some 63) (hdf : d.params.defaults = []) (hr : Room k callerA) (hY : ∀ (w : World) (h : Heap), YP w h → (K w.params).In h) (hT : tab.lookup ("law" : Str) = some e) (ok : tabB CN tab = true) (hx : e.N.take e.np = [x]) (hL : ∀ w : World, noLst (K w.params) = true)
    (F : ∀ (w : World) (mg : Str → Option Value) (fa : Addr) (h : Heap), (K w.params).In h → h.Ns mainGlobals mg → mg d.name = some (.ref fa) →
      ∃ (cf : Cfg) (cls : Cls), cls.on = CN ∧ Mods w (K w.params) mg tab GL cls ∧ ∃ fd, FnAt (K w.params) mg "law" e fa fd ∧ (∀ (s : Shared) (u : Value), BindsTo s fd ⟨[u], []⟩ [(x, u)]))
    (law : ∀ ns : List Int, ns.length ≤ 63 → (∀ z ∈ ns, Builtin.Int.intBits z ≤ 1048576) → callD GL (tabT tab) L k "law" [.list (ns.map .int)] = .ok (.bool true) .fr) :
    PySem.W.WalkO q loose XP YP l.row.toRowW d [] (fun f vs => PySem.call f vs) := by
  refine L2.walk_ofB (n := 63) (k := k) (x := x) (CX := fun w => L2.CX l.prog w) (sp := fun w => spEnd (K w.params)) hn (by decide) hdf hr hY ?_ ?_ ?_
  · intro w mg fa h KX G hmg
    obtain ⟨cf, cls, hcn, M, fd, A, hb⟩ := F w mg fa h KX G hmg
    refine ⟨fd, hb, fun base _ _ => ?_⟩
    have := (allOk (P := l.prog) (w := w) (base := base) (cls := cls) (L := L) M (by rw [hcn]; exact ok) k).f "law" e fa fd hT A
    rw [hx] at this
    exact FnOk.weak this fun vs H Q E q => sp_end q (hL w) law
  · intro w H a ns hl hb hO hS
    exact ⟨a, ns, rfl, hS, hl, hb, fun H' => rfl⟩
  · intro w H s e s' h
    obtain ⟨_, _, _, _, _, _, _, _, _, _, _, _, z⟩ := h
    exact z.elim
theorem getKey_mem {k : Str} {es : List (D × D)} {v x y : D} (h : getKey ((x, y) :: es) (.str k) = some v) : (∃ z, x = .str z ∧ z = k ∧ y = v) ∨ getKey es (.str k) = some v := by
  unfold getKey at h
  rw [List.find?_cons] at h
  split at h
  · rename_i q
    cases x <;> simp [PyData.eqv] at q
    exact .inl ⟨_, rfl, q, by simpa using h⟩
  · exact .inr h
theorem kit_of {K : PySem.W.Frag} {C : Addr} (h : PySem.W.subIn K (.ref C) (.type "ValueError") = some true) : PySem.W.kitOne K (.ref C) (.type "ValueError") = some true := by
  unfold PySem.W.kitOne
  rw [if_neg (by intro z; cases (beq_iff_eq.mp z))]
  show (if PySem.W.kitMeta "ValueError" = true then PySem.W.subIn K (.ref C) (.type "ValueError") else none) = some true
  rw [if_pos (by decide +kernel)]
  exact h
end DL

set_option Elab.async false
set_option linter.all false
set_option maxRecDepth 100000
/-! B: the small texts of the defs that more than one law has (printed by gen.py lib). R: what a raise is. -/
namespace DL
open PySem L2
/-- is_whole: 0 thing -/
def b_is_whole : S := (.seq (.ret (.and_ (.cons (.isi (.var 0) .int) (.cons (.not_ (.isi (.var 0) .bool)) .nil))))
  .skip)
def N_is_whole : List Str := ["thing"]
/-- is_leaf: 0 term -/
def b_is_leaf : S := (.seq (.ret (.or_ (.cons (.cmp .eq (.ix (.var 0) (.int (0))) (.str "name")) (.cons (.cmp .eq (.ix (.var 0) (.int (0))) (.str "open")) .nil))))
  .skip)
def N_is_leaf : List Str := ["term"]
/-- has_shape: 0 thing -/
def b_has_shape : S := (.seq (.ite (.or_ (.cons (.not_ (.isi (.var 0) .tuple)) (.cons (.cmp .eq (.len (.var 0)) (.int (0))) (.cons (.not_ (.isi (.ix (.var 0) (.int (0))) .str)) .nil)))) (.seq (.ret (.bl false))
  .skip) .skip)
  (.seq (.ite (.or_ (.cons (.cmp .eq (.ix (.var 0) (.int (0))) (.str "sum")) (.cons (.cmp .eq (.ix (.var 0) (.int (0))) (.str "mul")) (.cons (.cmp .eq (.ix (.var 0) (.int (0))) (.str "pair")) .nil)))) (.seq (.ret (.cmp .eq (.len (.var 0)) (.int (3))))
  .skip) .skip)
  (.seq (.ite (.or_ (.cons (.cmp .ne (.len (.var 0)) (.int (2))) (.cons (.not_ (.call "is_whole" (.cons (.ix (.var 0) (.int (1))) .nil))) (.cons (.cmp .lt (.ix (.var 0) (.int (1))) (.int (0))) .nil)))) (.seq (.ret (.bl false))
  .skip) .skip)
  (.seq (.ite (.cmp .eq (.ix (.var 0) (.int (0))) (.str "name")) (.seq (.ret (.cmp .le (.ix (.var 0) (.int (1))) (.glob "GREATEST")))
  .skip) .skip)
  (.seq (.ret (.and_ (.cons (.cmp .eq (.ix (.var 0) (.int (0))) (.str "open")) (.cons (.cmp .lt (.ix (.var 0) (.int (1))) (.glob "OPENS")) .nil))))
  .skip)))))
def N_has_shape : List Str := ["thing"]
/-- leaves_of: 0 term, 1 found, 2 waiting, 3 part -/
def b_leaves_of (R : Nat → S) : S := (.seq (.set 1 (.lst .nil))
  (.seq (.set 2 (.lst (.cons (.var 0) .nil)))
  (.seq (.whl (.cmp .ne (.var 2) (.lst .nil)) (.seq (.set 3 (.pop 2))
  (.seq (.ite (.not_ (.call "has_shape" (.cons (.var 3) .nil))) (.seq (R 1)
  .skip) .skip)
  (.seq (.ite (.call "is_leaf" (.cons (.var 3) .nil)) (.seq (.expr (.append 1 (.var 3)))
  .skip) (.seq (.expr (.append 2 (.ix (.var 3) (.int (2)))))
  (.seq (.expr (.append 2 (.ix (.var 3) (.int (1)))))
  .skip)))
  .skip))))
  (.seq (.ite (.cmp .gt (.len (.var 1)) (.glob "LEAVES")) (.seq (R 2)
  .skip) .skip)
  (.seq (.ret (.var 1))
  .skip)))))
def N_leaves_of : List Str := ["term", "found", "waiting", "part"]
/-- leaves: 0 term -/
def b_leaves : S := (.seq (.ret (.len (.call "leaves_of" (.cons (.var 0) .nil))))
  .skip)
def N_leaves : List Str := ["term"]
/-- opens: 0 term, 1 leaf -/
def b_opens : S := (.seq (.ret (.sortset (.lc (.ix (.var 1) (.int (1))) 1 (.call "leaves_of" (.cons (.var 0) .nil)) (.cmp .eq (.ix (.var 1) (.int (0))) (.str "open")) [])))
  .skip)
def N_opens : List Str := ["term", "leaf"]
/-- _law_cell_at: 0 _law_script, 1 _law_k -/
def b__law_cell_at : S := (.seq (.ite (.cmp .lt (.var 1) (.len (.var 0))) (.seq (.ret (.ix (.var 0) (.var 1)))
  .skip) .skip)
  (.seq (.ret (.int (0)))
  .skip))
def N__law_cell_at : List Str := ["_law_script", "_law_k"]
/-- _law_cells_by: 0 _law_script, 1 _law_first, 2 _law_most, 3 _law_size, 4 _law_k -/
def b__law_cells_by : S := (.seq (.set 3 (.call "_law_cell_at" (.cons (.var 0) (.cons (.int (0)) .nil))))
  (.seq (.ite (.cmp .eq (.bin .mod (.var 3) (.int (4))) (.int (1))) (.seq (.ret (.lc (.bin .mod (.bin .pow (.bin .add (.bin .add (.bin .fdiv (.var 3) (.int (4))) (.bin .mul (.int (104729)) (.var 4))) (.int (1))) (.int (3))) (.int (2147483647))) 4 (.range1 (.bin .mod (.bin .fdiv (.var 3) (.int (4))) (.bin .add (.var 2) (.int (1))))) .nil [3]))
  .skip) .skip)
  (.seq (.ret (.sl (.var 0) (.var 1) (.bin .add (.var 1) (.var 2))))
  .skip)))
def N__law_cells_by : List Str := ["_law_script", "_law_first", "_law_most", "_law_size", "_law_k"]
/-- parts_of: 0 one, 1 sign -/
def b_parts_of : S := (.seq (.ite (.cmp .eq (.ix (.var 0) (.int (0))) (.var 1)) (.seq (.ret (.list (.sl (.var 0) (.int (1)) .nil)))
  .skip) .skip)
  (.seq (.ret (.lst (.cons (.var 0) .nil)))
  .skip))
def N_parts_of : List Str := ["one", "sign"]
/-- joined: 0 sign, 1 ones, 2 row, 3 one -/
def b_joined : S := (.seq (.set 2 (.lst .nil))
  (.seq (.for_ 3 (.var 1) (.seq (.expr (.extend 2 (.call "parts_of" (.cons (.var 3) (.cons (.var 0) .nil)))))
  .skip))
  (.seq (.ite (.cmp .eq (.len (.var 2)) (.int (1))) (.seq (.ret (.ix (.var 2) (.int (0))))
  .skip) .skip)
  (.seq (.ret (.bin .add (.tup (.cons (.var 0) .nil)) (.tuple (.sorted (.var 2)))))
  .skip))))
def N_joined : List Str := ["sign", "ones", "row", "one"]
/-- flat: 0 term -/
def b_flat : S := (.seq (.ite (.call "is_leaf" (.cons (.var 0) .nil)) (.seq (.ret (.var 0))
  .skip) .skip)
  (.seq (.ite (.cmp .eq (.ix (.var 0) (.int (0))) (.str "pair")) (.seq (.ret (.tup (.cons (.str "pair") (.cons (.call "flat" (.cons (.ix (.var 0) (.int (1))) .nil)) (.cons (.call "flat" (.cons (.ix (.var 0) (.int (2))) .nil)) .nil)))))
  .skip) .skip)
  (.seq (.ret (.call "joined" (.cons (.ix (.var 0) (.int (0))) (.cons (.lst (.cons (.call "flat" (.cons (.ix (.var 0) (.int (1))) .nil)) (.cons (.call "flat" (.cons (.ix (.var 0) (.int (2))) .nil)) .nil))) .nil))))
  .skip)))
def N_flat : List Str := ["term"]
/-- form: 0 term -/
def b_form : S := (.seq (.expr (.call "leaves" (.cons (.var 0) .nil)))
  (.seq (.ret (.call "flat" (.cons (.var 0) .nil)))
  .skip))
def N_form : List Str := ["term"]
/-- put: 0 one, 1 filling, 2 part -/
def b_put : S := (.seq (.ite (.cmp .eq (.ix (.var 0) (.int (0))) (.str "open")) (.seq (.ret (.ix (.var 1) (.ix (.var 0) (.int (1)))))
  .skip) .skip)
  (.seq (.ite (.cmp .eq (.ix (.var 0) (.int (0))) (.str "name")) (.seq (.ret (.var 0))
  .skip) .skip)
  (.seq (.ite (.cmp .eq (.ix (.var 0) (.int (0))) (.str "pair")) (.seq (.ret (.tup (.cons (.str "pair") (.cons (.call "put" (.cons (.ix (.var 0) (.int (1))) (.cons (.var 1) .nil))) (.cons (.call "put" (.cons (.ix (.var 0) (.int (2))) (.cons (.var 1) .nil))) .nil)))))
  .skip) .skip)
  (.seq (.ret (.call "joined" (.cons (.ix (.var 0) (.int (0))) (.cons (.lc (.call "put" (.cons (.var 2) (.cons (.var 1) .nil))) 2 (.sl (.var 0) (.int (1)) .nil) .nil [1]) .nil))))
  .skip))))
def N_put : List Str := ["one", "filling", "part"]
/-- filled: 0 term, 1 filling, 2 number -/
def b_filled (R : Nat → S) : S := (.seq (.for_ 2 (.call "opens" (.cons (.var 0) .nil)) (.seq (.ite (.cmp .nin (.var 2) (.var 1)) (.seq (R 4)
  .skip) .skip)
  .skip))
  (.seq (.ret (.call "put" (.cons (.call "flat" (.cons (.var 0) .nil)) (.cons (.var 1) .nil))))
  .skip))
def N_filled : List Str := ["term", "filling", "number"]
/-- picks: 0 size, 1 most, 2 found, 3 rows, 4 place, 5 longer, 6 row -/
def b_picks : S := (.seq (.set 2 (.lst .nil))
  (.seq (.set 3 (.lst (.cons (.lst .nil) .nil)))
  (.seq (.for_ 4 (.range1 (.var 0)) (.seq (.set 5 (.lc (.bin .add (.var 6) (.lst (.cons (.var 4) .nil))) 6 (.var 3) (.cmp .lt (.len (.var 6)) (.var 1)) [1, 4]))
  (.seq (.expr (.extend 2 (.var 5)))
  (.seq (.set 3 (.bin .add (.var 3) (.var 5)))
  .skip))))
  (.seq (.ret (.var 2))
  .skip))))
def N_picks : List Str := ["size", "most", "found", "rows", "place", "longer", "row"]
/-- shared: 0 sign, 1 wanted, 2 there, 3 filling, 4 most, 5 found, 6 tried, 7 pick, 8 taken, 9 others, 10 one, 11 place -/
def b_shared : S := (.seq (.ite (.cmp .eq (.var 1) (.lst .nil)) (.seq (.ret (.ite (.cmp .eq (.var 2) (.lst .nil)) (.lst (.cons (.var 3) .nil)) (.lst .nil)))
  .skip) .skip)
  (.seq (.set 4 (.int (1)))
  (.seq (.ite (.cmp .eq (.ix (.ix (.var 1) (.int (0))) (.int (0))) (.str "open")) (.seq (.set 4 (.bin .add (.bin .sub (.len (.var 2)) (.len (.var 1))) (.int (1))))
  .skip) .skip)
  (.seq (.set 5 (.lst .nil))
  (.seq (.set 6 (.dnew false))
  (.seq (.for_ 7 (.call "picks" (.cons (.len (.var 2)) (.cons (.var 4) .nil))) (.seq (.set 8 (.call "joined" (.cons (.var 0) (.cons (.lc (.ix (.var 2) (.var 11)) 11 (.var 7) .nil [2]) .nil))))
  (.seq (.ite (.cmp .nin (.var 8) (.var 6)) (.seq (.put 6 (.var 8) (.bl true))
  (.seq (.set 9 (.lc (.ix (.var 2) (.var 11)) 11 (.range1 (.len (.var 2))) (.cmp .nin (.var 11) (.var 7)) [2, 7]))
  (.seq (.for_ 10 (.call "matched" (.cons (.ix (.var 1) (.int (0))) (.cons (.var 8) (.cons (.var 3) .nil)))) (.seq (.expr (.extend 5 (.call "shared" (.cons (.var 0) (.cons (.sl (.var 1) (.int (1)) .nil) (.cons (.var 9) (.cons (.var 10) .nil)))))))
  .skip))
  .skip))) .skip)
  .skip)))
  (.seq (.ret (.var 5))
  .skip)))))))
def N_shared : List Str := ["sign", "wanted", "there", "filling", "most", "found", "tried", "pick", "taken", "others", "one", "place"]
/-- matched: 0 one, 1 whole, 2 filling, 3 more, 4 found -/
def b_matched : S := (.seq (.ite (.cmp .eq (.ix (.var 0) (.int (0))) (.str "open")) (.seq (.ite (.cmp .in_ (.ix (.var 0) (.int (1))) (.var 2)) (.seq (.ret (.ite (.cmp .eq (.ix (.var 2) (.ix (.var 0) (.int (1)))) (.var 1)) (.lst (.cons (.var 2) .nil)) (.lst .nil)))
  .skip) .skip)
  (.seq (.set 3 (.dict (.var 2)))
  (.seq (.put 3 (.ix (.var 0) (.int (1))) (.var 1))
  (.seq (.ret (.lst (.cons (.var 3) .nil)))
  .skip)))) .skip)
  (.seq (.ite (.or_ (.cons (.cmp .eq (.ix (.var 0) (.int (0))) (.str "name")) (.cons (.cmp .ne (.ix (.var 0) (.int (0))) (.ix (.var 1) (.int (0)))) .nil))) (.seq (.ret (.ite (.cmp .eq (.var 0) (.var 1)) (.lst (.cons (.var 2) .nil)) (.lst .nil)))
  .skip) .skip)
  (.seq (.ite (.cmp .eq (.ix (.var 0) (.int (0))) (.str "pair")) (.seq (.set 4 (.lst .nil))
  (.seq (.for_ 3 (.call "matched" (.cons (.ix (.var 0) (.int (1))) (.cons (.ix (.var 1) (.int (1))) (.cons (.var 2) .nil)))) (.seq (.expr (.extend 4 (.call "matched" (.cons (.ix (.var 0) (.int (2))) (.cons (.ix (.var 1) (.int (2))) (.cons (.var 3) .nil))))))
  .skip))
  (.seq (.ret (.var 4))
  .skip))) .skip)
  (.seq (.ret (.call "shared" (.cons (.ix (.var 0) (.int (0))) (.cons (.list (.sl (.var 0) (.int (1)) .nil)) (.cons (.list (.sl (.var 1) (.int (1)) .nil)) (.cons (.var 2) .nil))))))
  .skip))))
def N_matched : List Str := ["one", "whole", "filling", "more", "found"]
/-- need_plain: 0 term -/
def b_need_plain (R : Nat → S) : S := (.seq (.ite (.cmp .ne (.call "opens" (.cons (.var 0) .nil)) (.lst .nil)) (.seq (R 5)
  .skip) .skip)
  .skip)
def N_need_plain : List Str := ["term"]
/-- fillings: 0 pattern, 1 term, 2 numbers, 3 rows, 4 filling, 5 row, 6 number -/
def b_fillings : S := (.seq (.expr (.call "leaves" (.cons (.var 0) .nil)))
  (.seq (.expr (.call "need_plain" (.cons (.var 1) .nil)))
  (.seq (.set 2 (.call "opens" (.cons (.var 0) .nil)))
  (.seq (.set 3 (.dnew false))
  (.seq (.for_ 4 (.call "matched" (.cons (.call "flat" (.cons (.var 0) .nil)) (.cons (.call "flat" (.cons (.var 1) .nil)) (.cons (.dnew false) .nil)))) (.seq (.put 3 (.tuple (.lc (.ix (.var 4) (.var 6)) 6 (.var 2) .nil [4])) (.bl true))
  .skip))
  (.seq (.ret (.lc (.dictzip (.var 2) (.var 5)) 5 (.sorted (.var 3)) .nil [2]))
  .skip))))))
def N_fillings : List Str := ["pattern", "term", "numbers", "rows", "filling", "row", "number"]
/-- part_at: 0 term, 1 place, 2 step -/
def b_part_at (R : Nat → S) : S := (.seq (.for_ 2 (.var 1) (.seq (.ite (.or_ (.cons (.call "is_leaf" (.cons (.var 0) .nil)) (.cons (.cmp .lt (.var 2) (.int (0))) (.cons (.cmp .gt (.var 2) (.int (1))) .nil)))) (.seq (R 3)
  .skip) .skip)
  (.seq (.set 0 (.ix (.var 0) (.bin .add (.int (1)) (.var 2))))
  .skip)))
  (.seq (.ret (.var 0))
  .skip))
def N_part_at : List Str := ["term", "place", "step"]
/-- with_part: 0 term, 1 place, 2 part -/
def b_with_part : S := (.seq (.ite (.cmp .eq (.var 1) (.tup .nil)) (.seq (.ret (.var 2))
  .skip) .skip)
  (.seq (.ite (.cmp .eq (.ix (.var 1) (.int (0))) (.int (0))) (.seq (.ret (.tup (.cons (.ix (.var 0) (.int (0))) (.cons (.call "with_part" (.cons (.ix (.var 0) (.int (1))) (.cons (.sl (.var 1) (.int (1)) .nil) (.cons (.var 2) .nil)))) (.cons (.ix (.var 0) (.int (2))) .nil)))))
  .skip) .skip)
  (.seq (.ret (.tup (.cons (.ix (.var 0) (.int (0))) (.cons (.ix (.var 0) (.int (1))) (.cons (.call "with_part" (.cons (.ix (.var 0) (.int (2))) (.cons (.sl (.var 1) (.int (1)) .nil) (.cons (.var 2) .nil)))) .nil)))))
  .skip)))
def N_with_part : List Str := ["term", "place", "part"]
/-- turned: 0 part, 1 word, 2 sign -/
def b_turned (R : Nat → S) : S := (.seq (.set 2 (.ix (.var 0) (.int (0))))
  (.seq (.ite (.and_ (.cons (.cmp .ne (.var 2) (.str "sum")) (.cons (.cmp .ne (.var 2) (.str "mul")) .nil))) (.seq (R 3)
  .skip) .skip)
  (.seq (.ite (.cmp .eq (.var 1) (.str "swap")) (.seq (.ret (.tup (.cons (.var 2) (.cons (.ix (.var 0) (.int (2))) (.cons (.ix (.var 0) (.int (1))) .nil)))))
  .skip) .skip)
  (.seq (.ite (.and_ (.cons (.cmp .eq (.var 1) (.str "left")) (.cons (.cmp .eq (.ix (.ix (.var 0) (.int (2))) (.int (0))) (.var 2)) .nil))) (.seq (.ret (.tup (.cons (.var 2) (.cons (.tup (.cons (.var 2) (.cons (.ix (.var 0) (.int (1))) (.cons (.ix (.ix (.var 0) (.int (2))) (.int (1))) .nil)))) (.cons (.ix (.ix (.var 0) (.int (2))) (.int (2))) .nil)))))
  .skip) .skip)
  (.seq (.ite (.and_ (.cons (.cmp .eq (.var 1) (.str "right")) (.cons (.cmp .eq (.ix (.ix (.var 0) (.int (1))) (.int (0))) (.var 2)) .nil))) (.seq (.ret (.tup (.cons (.var 2) (.cons (.ix (.ix (.var 0) (.int (1))) (.int (1))) (.cons (.tup (.cons (.var 2) (.cons (.ix (.ix (.var 0) (.int (1))) (.int (2))) (.cons (.ix (.var 0) (.int (2))) .nil)))) .nil)))))
  .skip) .skip)
  (.seq (R 3)
  .skip))))))
def N_turned : List Str := ["part", "word", "sign"]
/-- done: 0 term, 1 move -/
def b_done : S := (.seq (.ret (.call "with_part" (.cons (.var 0) (.cons (.ix (.var 1) (.int (1))) (.cons (.call "turned" (.cons (.call "part_at" (.cons (.var 0) (.cons (.ix (.var 1) (.int (1))) .nil))) (.cons (.ix (.var 1) (.int (0))) .nil))) .nil)))))
  .skip)
def N_done : List Str := ["term", "move"]
/-- moved: 0 term, 1 move -/
def b_moved : S := (.seq (.expr (.call "leaves" (.cons (.var 0) .nil)))
  (.seq (.ret (.call "done" (.cons (.var 0) (.cons (.var 1) .nil))))
  .skip))
def N_moved : List Str := ["term", "move"]
/-- back: 0 move -/
def b_back (R : Nat → S) : S := (.seq (.ite (.gnin "BACK" (.ix (.var 0) (.int (0)))) (.seq (R 3)
  .skip) .skip)
  (.seq (.ret (.tup (.cons (.gix "BACK" (.ix (.var 0) (.int (0)))) (.cons (.ix (.var 0) (.int (1))) .nil))))
  .skip))
def N_back : List Str := ["move"]
/-- moves: 0 term, 1 walker -/
def b_moves : S := (.seq (.expr (.call "leaves" (.cons (.var 0) .nil)))
  (.seq (.mk 1 (.var 0))
  (.seq (.expr (.mcall 1 "Walker.settle" (.cons (.tup .nil) .nil)))
  (.seq (.retT 1)
  .skip))))
def N_moves : List Str := ["term", "walker"]
/-- way: 0 one, 1 other, 2 move -/
def b_way : S := (.seq (.expr (.call "leaves" (.cons (.var 0) .nil)))
  (.seq (.expr (.call "leaves" (.cons (.var 1) .nil)))
  (.seq (.ite (.cmp .ne (.call "flat" (.cons (.var 0) .nil)) (.call "flat" (.cons (.var 1) .nil))) (.seq (.ret .non)
  .skip) .skip)
  (.seq (.ret (.bin .add (.call "moves" (.cons (.var 0) .nil)) (.lc (.call "back" (.cons (.var 2) .nil)) 2 (.rev (.call "moves" (.cons (.var 1) .nil))) .nil [])))
  .skip))))
def N_way : List Str := ["one", "other", "move"]
/-- uses: 0 pattern, 1 result, 2 whole, 3 filling -/
def b_uses : S := (.seq (.ret (.lc (.call "put" (.cons (.var 1) (.cons (.var 3) .nil))) 3 (.call "matched" (.cons (.var 0) (.cons (.var 2) (.cons (.dnew false) .nil)))) .nil [1]))
  .skip)
def N_uses : List Str := ["pattern", "result", "whole", "filling"]
/-- ones: 0 pattern, 1 result, 2 whole, 3 found, 4 there, 5 pick, 6 taken, 7 others, 8 came, 9 one, 10 place -/
def b_ones : S := (.seq (.set 3 (.call "uses" (.cons (.var 0) (.cons (.var 1) (.cons (.var 2) .nil)))))
  (.seq (.ite (.cmp .eq (.ix (.var 2) (.int (0))) (.str "pair")) (.seq (.expr (.extend 3 (.lc (.tup (.cons (.str "pair") (.cons (.var 9) (.cons (.ix (.var 2) (.int (2))) .nil)))) 9 (.call "ones" (.cons (.var 0) (.cons (.var 1) (.cons (.ix (.var 2) (.int (1))) .nil)))) .nil [2])))
  (.seq (.expr (.extend 3 (.lc (.tup (.cons (.str "pair") (.cons (.ix (.var 2) (.int (1))) (.cons (.var 9) .nil)))) 9 (.call "ones" (.cons (.var 0) (.cons (.var 1) (.cons (.ix (.var 2) (.int (2))) .nil)))) .nil [2])))
  .skip)) .skip)
  (.seq (.ite (.or_ (.cons (.cmp .eq (.ix (.var 2) (.int (0))) (.str "sum")) (.cons (.cmp .eq (.ix (.var 2) (.int (0))) (.str "mul")) .nil))) (.seq (.set 4 (.sl (.var 2) (.int (1)) .nil))
  (.seq (.for_ 5 (.call "picks" (.cons (.len (.var 4)) (.cons (.bin .sub (.len (.var 4)) (.int (1))) .nil))) (.seq (.set 6 (.lc (.ix (.var 4) (.var 10)) 10 (.var 5) .nil [4]))
  (.seq (.set 7 (.lc (.ix (.var 4) (.var 10)) 10 (.range1 (.len (.var 4))) (.cmp .nin (.var 10) (.var 5)) [4, 5]))
  (.seq (.ite (.cmp .eq (.len (.var 6)) (.int (1))) (.seq (.set 8 (.call "ones" (.cons (.var 0) (.cons (.var 1) (.cons (.ix (.var 6) (.int (0))) .nil)))))
  .skip) (.seq (.set 8 (.call "uses" (.cons (.var 0) (.cons (.var 1) (.cons (.call "joined" (.cons (.ix (.var 2) (.int (0))) (.cons (.var 6) .nil))) .nil)))))
  .skip))
  (.seq (.expr (.extend 3 (.lc (.call "joined" (.cons (.ix (.var 2) (.int (0))) (.cons (.bin .add (.lst (.cons (.var 9) .nil)) (.var 7)) .nil))) 9 (.var 8) .nil [2, 7])))
  .skip)))))
  .skip)) .skip)
  (.seq (.ret (.var 3))
  .skip))))
def N_ones : List Str := ["pattern", "result", "whole", "found", "there", "pick", "taken", "others", "came", "one", "place"]
/-- made: 0 rule, 1 term, 2 known, 3 number, 4 rows, 5 one -/
def b_made (R : Nat → S) : S := (.seq (.expr (.call "leaves" (.cons (.ix (.var 0) (.int (0))) .nil)))
  (.seq (.expr (.call "leaves" (.cons (.ix (.var 0) (.int (1))) .nil)))
  (.seq (.expr (.call "leaves" (.cons (.var 1) .nil)))
  (.seq (.set 2 (.call "opens" (.cons (.ix (.var 0) (.int (0))) .nil)))
  (.seq (.for_ 3 (.call "opens" (.cons (.ix (.var 0) (.int (1))) .nil)) (.seq (.ite (.cmp .nin (.var 3) (.var 2)) (.seq (R 6)
  .skip) .skip)
  .skip))
  (.seq (.ite (.cmp .ne (.call "opens" (.cons (.var 1) .nil)) (.lst .nil)) (.seq (R 5)
  .skip) .skip)
  (.seq (.set 4 (.dnew false))
  (.seq (.for_ 5 (.call "ones" (.cons (.call "flat" (.cons (.ix (.var 0) (.int (0))) .nil)) (.cons (.call "flat" (.cons (.ix (.var 0) (.int (1))) .nil)) (.cons (.call "flat" (.cons (.var 1) .nil)) .nil)))) (.seq (.put 4 (.var 5) (.bl true))
  .skip))
  (.seq (.ret (.sorted (.var 4)))
  .skip)))))))))
def N_made : List Str := ["rule", "term", "known", "number", "rows", "one"]
/-- _law_same: 0 _law_found, 1 _law_due, 2 _law_k -/
def b__law_same : S := (.seq (.ite (.isi (.var 1) .tuple) (.seq (.ite (.or_ (.cons (.not_ (.isi (.var 0) .tuple)) (.cons (.cmp .ne (.len (.var 0)) (.len (.var 1))) .nil))) (.seq (.ret (.bl false))
  .skip) .skip)
  (.seq (.for_ 2 (.range1 (.len (.var 1))) (.seq (.ite (.not_ (.call "_law_same" (.cons (.ix (.var 0) (.var 2)) (.cons (.ix (.var 1) (.var 2)) .nil)))) (.seq (.ret (.bl false))
  .skip) .skip)
  .skip))
  (.seq (.ret (.bl true))
  .skip))) .skip)
  (.seq (.ite (.isi (.var 1) .str) (.seq (.ret (.and_ (.cons (.isi (.var 0) .str) (.cons (.cmp .eq (.var 0) (.var 1)) .nil))))
  .skip) .skip)
  (.seq (.ret (.and_ (.cons (.isi (.var 0) .int) (.cons (.not_ (.isi (.var 0) .bool)) (.cons (.cmp .eq (.var 0) (.var 1)) .nil)))))
  .skip)))
def N__law_same : List Str := ["_law_found", "_law_due", "_law_k"]
/-- _law_places: 0 _law_term, 1 _law_found, 2 _law_waiting, 3 _law_pair -/
def b__law_places : S := (.seq (.set 1 (.lst .nil))
  (.seq (.set 2 (.lst (.cons (.tup (.cons (.var 0) (.cons (.tup .nil) .nil))) .nil)))
  (.seq (.whl (.cmp .ne (.var 2) (.lst .nil)) (.seq (.set 3 (.pop 2))
  (.seq (.expr (.append 1 (.ix (.var 3) (.int (1)))))
  (.seq (.ite (.cmp .eq (.len (.ix (.var 3) (.int (0)))) (.int (3))) (.seq (.expr (.append 2 (.tup (.cons (.ix (.ix (.var 3) (.int (0))) (.int (2))) (.cons (.bin .add (.ix (.var 3) (.int (1))) (.tup (.cons (.int (1)) .nil))) .nil)))))
  (.seq (.expr (.append 2 (.tup (.cons (.ix (.ix (.var 3) (.int (0))) (.int (1))) (.cons (.bin .add (.ix (.var 3) (.int (1))) (.tup (.cons (.int (0)) .nil))) .nil)))))
  .skip)) .skip)
  .skip))))
  (.seq (.ret (.var 1))
  .skip))))
def N__law_places : List Str := ["_law_term", "_law_found", "_law_waiting", "_law_pair"]
/-- _law_joins: 0 _law_term, 1 _law_found, 2 _law_waiting, 3 _law_pair -/
def b__law_joins : S := (.seq (.set 1 (.lst .nil))
  (.seq (.set 2 (.lst (.cons (.tup (.cons (.var 0) (.cons (.tup .nil) .nil))) .nil)))
  (.seq (.whl (.cmp .ne (.var 2) (.lst .nil)) (.seq (.set 3 (.pop 2))
  (.seq (.ite (.cmp .eq (.len (.ix (.var 3) (.int (0)))) (.int (3))) (.seq (.ite (.cmp .ne (.ix (.ix (.var 3) (.int (0))) (.int (0))) (.str "pair")) (.seq (.expr (.append 1 (.ix (.var 3) (.int (1)))))
  .skip) .skip)
  (.seq (.expr (.append 2 (.tup (.cons (.ix (.ix (.var 3) (.int (0))) (.int (2))) (.cons (.bin .add (.ix (.var 3) (.int (1))) (.tup (.cons (.int (1)) .nil))) .nil)))))
  (.seq (.expr (.append 2 (.tup (.cons (.ix (.ix (.var 3) (.int (0))) (.int (1))) (.cons (.bin .add (.ix (.var 3) (.int (1))) (.tup (.cons (.int (0)) .nil))) .nil)))))
  .skip))) .skip)
  .skip)))
  (.seq (.ret (.var 1))
  .skip))))
def N__law_joins : List Str := ["_law_term", "_law_found", "_law_waiting", "_law_pair"]
/-- Walker_take: 0 self, 1 word, 2 place -/
def b_Walker_take : S := (.seq (.setT 0 (.call "done" (.cons (.fld 0) (.cons (.tup (.cons (.var 1) (.cons (.var 2) .nil))) .nil))))
  (.seq (.appT 0 (.tup (.cons (.var 1) (.cons (.var 2) .nil))))
  .skip))
def N_Walker_take : List Str := ["self", "word", "place"]
/-- Walker_word_at: 0 self, 1 place -/
def b_Walker_word_at : S := (.seq (.ret (.ix (.call "part_at" (.cons (.fld 0) (.cons (.var 1) .nil))) (.int (0))))
  .skip)
def N_Walker_word_at : List Str := ["self", "place"]
/-- Walker_settle: 0 self, 1 place, 2 word -/
def b_Walker_settle : S := (.seq (.set 2 (.mcall 0 "Walker.word_at" (.cons (.var 1) .nil)))
  (.seq (.ite (.cmp .eq (.var 2) (.str "pair")) (.seq (.expr (.mcall 0 "Walker.settle" (.cons (.bin .add (.var 1) (.tup (.cons (.int (0)) .nil))) .nil)))
  (.seq (.expr (.mcall 0 "Walker.settle" (.cons (.bin .add (.var 1) (.tup (.cons (.int (1)) .nil))) .nil)))
  .skip)) .skip)
  (.seq (.ite (.or_ (.cons (.cmp .eq (.var 2) (.str "sum")) (.cons (.cmp .eq (.var 2) (.str "mul")) .nil))) (.seq (.expr (.mcall 0 "Walker.order" (.cons (.var 1) (.cons (.mcall 0 "Walker.comb" (.cons (.var 1) (.cons (.var 2) .nil))) .nil))))
  .skip) .skip)
  .skip)))
def N_Walker_settle : List Str := ["self", "place", "word"]
/-- Walker_comb: 0 self, 1 place, 2 sign, 3 many -/
def b_Walker_comb : S := (.seq (.set 3 (.int (1)))
  (.seq (.whl (.cmp .eq (.mcall 0 "Walker.word_at" (.cons (.var 1) .nil)) (.var 2)) (.seq (.whl (.cmp .eq (.mcall 0 "Walker.word_at" (.cons (.bin .add (.var 1) (.tup (.cons (.int (0)) .nil))) .nil)) (.var 2)) (.seq (.expr (.mcall 0 "Walker.take" (.cons (.str "right") (.cons (.var 1) .nil))))
  .skip))
  (.seq (.expr (.mcall 0 "Walker.settle" (.cons (.bin .add (.var 1) (.tup (.cons (.int (0)) .nil))) .nil)))
  (.seq (.set 1 (.bin .add (.var 1) (.tup (.cons (.int (1)) .nil))))
  (.seq (.set 3 (.bin .add (.var 3) (.int (1))))
  .skip)))))
  (.seq (.expr (.mcall 0 "Walker.settle" (.cons (.var 1) .nil)))
  (.seq (.ret (.var 3))
  .skip))))
def N_Walker_comb : List Str := ["self", "place", "sign", "many"]
/-- Walker_order: 0 self, 1 place, 2 many, 3 turn, 4 k -/
def b_Walker_order : S := (.seq (.for_ 3 (.range1 (.var 2)) (.seq (.for_ 4 (.range1 (.bin .sub (.var 2) (.int (1)))) (.seq (.expr (.mcall 0 "Walker.exchange" (.cons (.bin .add (.var 1) (.bin .mul (.tup (.cons (.int (1)) .nil)) (.var 4))) (.cons (.cmp .eq (.var 4) (.bin .sub (.var 2) (.int (2)))) .nil))))
  .skip))
  .skip))
  .skip)
def N_Walker_order : List Str := ["self", "place", "many", "turn", "k"]
/-- Walker_exchange: 0 self, 1 place, 2 is_last, 3 other -/
def b_Walker_exchange : S := (.seq (.set 3 (.ite (.var 2) (.bin .add (.var 1) (.tup (.cons (.int (1)) .nil))) (.bin .add (.var 1) (.tup (.cons (.int (1)) (.cons (.int (0)) .nil))))))
  (.seq (.ite (.cmp .le (.call "flat" (.cons (.call "part_at" (.cons (.fld 0) (.cons (.bin .add (.var 1) (.tup (.cons (.int (0)) .nil))) .nil))) .nil)) (.call "flat" (.cons (.call "part_at" (.cons (.fld 0) (.cons (.var 3) .nil))) .nil))) (.seq (.ret .non)
  .skip) .skip)
  (.seq (.ite (.var 2) (.seq (.expr (.mcall 0 "Walker.take" (.cons (.str "swap") (.cons (.var 1) .nil))))
  .skip) (.seq (.expr (.mcall 0 "Walker.take" (.cons (.str "left") (.cons (.var 1) .nil))))
  (.seq (.expr (.mcall 0 "Walker.take" (.cons (.str "swap") (.cons (.bin .add (.var 1) (.tup (.cons (.int (0)) .nil))) .nil))))
  (.seq (.expr (.mcall 0 "Walker.take" (.cons (.str "right") (.cons (.var 1) .nil))))
  .skip))))
  .skip)))
def N_Walker_exchange : List Str := ["self", "place", "is_last", "other"]
end DL

set_option Elab.async false
set_option linter.all false
set_option maxRecDepth 100000
/-! G0: the rules by which a run by values is worked out (printed by gsimp.py). -/
namespace DL
open PySem L2
section
variable (GL : Str → Option D) (C : Orc) (L : Nat)
@[simp] theorem ev_var_i {i} {g : Sg} : ev GL C (.var i) g = use i g := by first | (rw [ev] <;> rfl) | rfl
@[simp] theorem ev_int_i {i} {g : Sg} : ev GL C (.int i) g = .ok (.int i, .fr) g := by first | (rw [ev] <;> rfl) | rfl
@[simp] theorem ev_str_x {x} {g : Sg} : ev GL C (.str x) g = .ok (.str x, .fr) g := by first | (rw [ev] <;> rfl) | rfl
@[simp] theorem ev_bl_b {b} {g : Sg} : ev GL C (.bl b) g = .ok (.bool b, .fr) g := by first | (rw [ev] <;> rfl) | rfl
@[simp] theorem ev_non  {g : Sg} : ev GL C .non g = .ok (.none, .fr) g := by first | (rw [ev] <;> rfl) | rfl
@[simp] theorem ev_glob_x {x} {g : Sg} : ev GL C (.glob x) g = ofO ((GL x).bind globD) g := by first | (rw [ev] <;> rfl) | rfl
@[simp] theorem ev_tup_es {es} {g : Sg} : ev GL C (.tup es) g = (evs GL C es g).bd fun ds g => if ds.length ≤ sizeLine then .ok (.tuple ds, .fr) g else .stuck := by first | (rw [ev] <;> rfl) | rfl
@[simp] theorem ev_lst_es {es} {g : Sg} : ev GL C (.lst es) g = (evs GL C es g).bd fun ds g => if ds.length ≤ sizeLine then .ok (.list ds, .ow) g else .stuck := by first | (rw [ev] <;> rfl) | rfl
@[simp] theorem ev_dnew_n {n} {g : Sg} : ev GL C (.dnew n) g = .ok (.dict [], (match n with | true => Md.on | false => Md.ow)) g := by first | (rw [ev] <;> rfl) | rfl
@[simp] theorem ev_bin_o_a_b {o} {a} {b} {g : Sg} : ev GL C (.bin o a b) g = (opn a (ev GL C a g) g).bd fun x g => (opn b (ev GL C b g) g).bd fun y g => ofO ((x.get g).bind fun d => (y.get g).bind fun e => binD o d.1 e.1) g := by first | (rw [ev] <;> rfl) | rfl
@[simp] theorem ev_cmp_o_a_b {o} {a} {b} {g : Sg} : ev GL C (.cmp o a b) g = (opn a (ev GL C a g) g).bd fun x g => (opn b (ev GL C b g) g).bd fun y g => ofO ((x.get g).bind fun d => (y.get g).bind fun e => (cmpD o d.1 e.1 e.2).map fun c => (.bool c, .fr)) g := by first | (rw [ev] <;> rfl) | rfl
@[simp] theorem ev_and_es {es} {g : Sg} : ev GL C (.and_ es) g = evAnd GL C es g := by first | (rw [ev] <;> rfl) | rfl
@[simp] theorem ev_or_es {es} {g : Sg} : ev GL C (.or_ es) g = evOr GL C es g := by first | (rw [ev] <;> rfl) | rfl
@[simp] theorem ev_not_a {a} {g : Sg} : ev GL C (.not_ a) g = (ev GL C a g).bd fun p g => match p.1 with | .bool c => .ok (.bool (!c), .fr) g | _ => .stuck := by first | (rw [ev] <;> rfl) | rfl
@[simp] theorem ev_ite_t_a_b {t} {a} {b} {g : Sg} : ev GL C (.ite t a b) g = (ev GL C t g).bd fun p g => match p.1 with | .bool true => ev GL C a g | .bool false => ev GL C b g | _ => .stuck := by first | (rw [ev] <;> rfl) | rfl
@[simp] theorem ev_ix_a_i {a} {i} {g : Sg} : ev GL C (.ix a i) g = (opn a (ev GL C a g) g).bd fun x g => (ev GL C i g).bd fun k g => ofO ((x.get g).bind fun d => if d.2 = .on then none else (ixD d.1 k.1).map fun r => (r, .fr)) g := by first | (rw [ev] <;> rfl) | rfl
@[simp] theorem ev_sl_a_lo_hi {a} {lo} {hi} {g : Sg} : ev GL C (.sl a lo hi) g = (opn a (ev GL C a g) g).bd fun x g => (part lo (ev GL C lo g) g).bd fun l g => (part hi (ev GL C hi g) g).bd fun h g => ofO ((x.get g).bind fun d => slD d.1 l h) g := by first | (rw [ev] <;> rfl) | rfl
@[simp] theorem ev_call_f_es {f} {es} {g : Sg} : ev GL C (.call f es) g = (evs GL C es g).bd fun ds g => match C f ds with
    | .ok d m => if m = .on then .stuck else .ok (d, m) g
    | .exc c => .exc c g
    | .stuck => .stuck := by first | (rw [ev] <;> rfl) | rfl
@[simp] theorem ev_len_a {a} {g : Sg} : ev GL C (.len a) g = (opn a (ev GL C a g) g).bd fun x g => ofO ((x.get g).bind fun d => if d.2 = .on then none else (lenD d.1).map fun (n : Nat) => (((.int (n : Int)), .fr) : D × Md)) g := by first | (rw [ev] <;> rfl) | rfl
@[simp] theorem ev_list_a {a} {g : Sg} : ev GL C (.list a) g = (opn a (ev GL C a g) g).bd fun x g => ofO ((x.get g).bind listD) g := by first | (rw [ev] <;> rfl) | rfl
@[simp] theorem ev_tuple_a {a} {g : Sg} : ev GL C (.tuple a) g = (opn a (ev GL C a g) g).bd fun x g => ofO ((x.get g).bind tupleD) g := by first | (rw [ev] <;> rfl) | rfl
@[simp] theorem ev_sorted_a {a} {g : Sg} : ev GL C (.sorted a) g = (opn a (ev GL C a g) g).bd fun x g => ofO ((x.get g).bind sortedD) g := by first | (rw [ev] <;> rfl) | rfl
@[simp] theorem ev_sortset_a {a} {g : Sg} : ev GL C (.sortset a) g = (opn a (ev GL C a g) g).bd fun x g => ofO ((x.get g).bind fun d => sortsetD d.1) g := by first | (rw [ev] <;> rfl) | rfl
@[simp] theorem ev_dict_a {a} {g : Sg} : ev GL C (.dict a) g = (opn a (ev GL C a g) g).bd fun x g => ofO ((x.get g).bind dictD) g := by first | (rw [ev] <;> rfl) | rfl
@[simp] theorem ev_min_a_b {a} {b} {g : Sg} : ev GL C (.min a b) g = (ev GL C a g).bd fun x g => (ev GL C b g).bd fun y g => match x.1, y.1 with | .int i, .int j => .ok (.int (if j < i then j else i), .fr) g | _, _ => .stuck := by first | (rw [ev] <;> rfl) | rfl
@[simp] theorem ev_max_a_b {a} {b} {g : Sg} : ev GL C (.max a b) g = (ev GL C a g).bd fun x g => (ev GL C b g).bd fun y g => match x.1, y.1 with | .int i, .int j => .ok (.int (if j > i then j else i), .fr) g | _, _ => .stuck := by first | (rw [ev] <;> rfl) | rfl
@[simp] theorem ev_toInt_a {a} {g : Sg} : ev GL C (.toInt a) g = (ev GL C a g).bd fun x g => match x.1 with | .bool c => .ok (.int (if c then 1 else 0), .fr) g | .int i => .ok (.int i, .fr) g | _ => .stuck := by first | (rw [ev] <;> rfl) | rfl
@[simp] theorem ev_isi_a_t {a} {t} {g : Sg} : ev GL C (.isi a t) g = (opn a (ev GL C a g) g).bd fun x g => ofO ((x.get g).bind fun d => if d.2 = .on then none else some (.bool (isiD d.1 t), .fr)) g := by first | (rw [ev] <;> rfl) | rfl
@[simp] theorem ev_dictzip_a_b {a} {b} {g : Sg} : ev GL C (.dictzip a b) g = (ev GL C a g).bd fun x g => (ev GL C b g).bd fun y g => ofO (dictzipD x.1 y.1) g := by first | (rw [ev] <;> rfl) | rfl
@[simp] theorem ev_pop_i {i} {g : Sg} : ev GL C (.pop i) g = match g[i]? with
    | some (some (.list ds, .ow)) => match ds[ds.length - 1]? with
      | some d => .ok (d, .fr) (g.set i (some (.list ds.dropLast, .ow)))
      | none => .stuck
    | _ => .stuck := by first | (rw [ev] <;> rfl) | rfl
@[simp] theorem ev_append_i_a {i} {a} {g : Sg} : ev GL C (.append i a) g = if ownL i g then (ev GL C a g).bd fun p g => if p.2 = .on then .stuck else match g[i]? with
    | some (some (.list ds, .ow)) => if ds.length < sizeLine then .ok (.none, .fr) (g.set i (some (.list (ds ++ [p.1]), .ow))) else .stuck
    | _ => .stuck
    else .stuck := by first | (rw [ev] <;> rfl) | rfl
@[simp] theorem ev_extend_i_a {i} {a} {g : Sg} : ev GL C (.extend i a) g = if ownL i g then (ev GL C a g).bd fun p g => match p.1, g[i]? with
    | .list es, some (some (.list ds, .ow)) => if ds.length + es.length ≤ sizeLine then .ok (.none, .fr) (g.set i (some (.list (ds ++ es), .ow))) else .stuck
    | _, _ => .stuck
    else .stuck := by first | (rw [ev] <;> rfl) | rfl
@[simp] theorem ev_clear_i {i} {g : Sg} : ev GL C (.clear i) g = match g[i]? with
    | some (some (.list _, .ow)) => .ok (.none, .fr) (g.set i (some (.list [], .ow)))
    | _ => .stuck := by first | (rw [ev] <;> rfl) | rfl
@[simp] theorem ev_dpop_i_a {i} {a} {g : Sg} : ev GL C (.dpop i a) g = if ownD i g then (ev GL C a g).bd fun p g => match g[i]? with
    | some (some (.dict kvs, .ow)) => if isInt p.1 then match getKey kvs p.1 with
      | some d => .ok (d, .fr) (g.set i (some (.dict (dropKey kvs p.1), .ow)))
      | none => .stuck
      else .stuck
    | _ => .stuck
    else .stuck := by first | (rw [ev] <;> rfl) | rfl
@[simp] theorem ev_lc_elt_i_it_cond_fz {elt} {i} {it} {cond} {fz} {g : Sg} : ev GL C (.lc elt i it cond fz) g = (ev GL C it (freeze fz g)).bd fun p g => if p.2 = .on then .stuck else match itemsD p.1 with
    | some ds => match lcGo (fun d => (iff_ cond (ev GL C cond ((hide g).set i (some (d, .fr)))) ((hide g).set i (some (d, .fr)))).bd fun c g => if c then (ev GL C elt g).bd fun p g => if p.2 = .on then .stuck else .ok (some p.1) g else .ok none g) ds with
      | some out => if out.length ≤ sizeLine then .ok (.list out, .ow) g else .stuck
      | none => .stuck
    | none => .stuck := by first | (rw [ev] <;> rfl) | rfl
@[simp] theorem ev_range1_a {a} {g : Sg} : ev GL C (.range1 a) g = (ev GL C a g).bd fun p g => match p.1 with | .int n => if rngOk n then .ok (.list (rangeD 0 n), .fr) g else .stuck | _ => .stuck := by first | (rw [ev] <;> rfl) | rfl
@[simp] theorem ev_range2_a_b {a} {b} {g : Sg} : ev GL C (.range2 a b) g = (ev GL C a g).bd fun x g => (ev GL C b g).bd fun y g => match x.1, y.1 with | .int lo, .int hi => if rngOk lo && rngOk hi then .ok (.list (rangeD lo hi), .fr) g else .stuck | _, _ => .stuck := by first | (rw [ev] <;> rfl) | rfl
@[simp] theorem ev_rev_a {a} {g : Sg} : ev GL C (.rev a) g = (ev GL C a g).bd fun p g => if p.2 = .on then .stuck else match itemsD p.1 with | some ds => .ok (.list ds.reverse, .fr) g | none => .stuck := by first | (rw [ev] <;> rfl) | rfl
@[simp] theorem ev_gnin_x_a {x} {a} {g : Sg} : ev GL C (.gnin x a) g = if isDictO (GL x) then (ev GL C a g).bd fun p g => ofO (gninD (GL x) p.1) g else .stuck := by first | (rw [ev] <;> rfl) | rfl
@[simp] theorem ev_gix_x_a {x} {a} {g : Sg} : ev GL C (.gix x a) g = if isDictO (GL x) then (ev GL C a g).bd fun p g => ofO (gixD (GL x) p.1) g else .stuck := by first | (rw [ev] <;> rfl) | rfl
@[simp] theorem ev_dcmp_n_a_b {n} {a} {b} {g : Sg} : ev GL C (.dcmp n a b) g = (opn a (ev GL C a g) g).bd fun x g => (opn b (ev GL C b g) g).bd fun y g => ofO ((x.get g).bind fun d => (y.get g).bind fun e => if alikeD d e then some (.bool (!n), .fr) else none) g := by first | (rw [ev] <;> rfl) | rfl
@[simp] theorem ev_dpick_kvs_a {kvs} {a} {g : Sg} : ev GL C (.dpick kvs a) g = match ev GL C a (hide g) with
    | .ok p _ => ofO (dpickD kvs p.1) g
    | _ => .stuck := by first | (rw [ev] <;> rfl) | rfl
@[simp] theorem ev_fld_i {i} {g : Sg} : ev GL C (.fld i) g = ofO (((objAt i g).bind fldD).map fun t => (t, .fr)) g := by first | (rw [ev] <;> rfl) | rfl
@[simp] theorem ev_mcall_i_m_es {i} {m} {es} {g : Sg} : ev GL C (.mcall i m es) g = if (objAt i g).isSome then (evs GL C es g).bd fun ds g => match (objAt i g).bind fun st => metD (C m (.tuple st :: ds)) with
    | some (r, st) => .ok (r, .fr) (g.set i (some (.tuple st, .on)))
    | none => .stuck
    else .stuck := by first | (rw [ev] <;> rfl) | rfl
@[simp] theorem ev_nil  {g : Sg} : ev GL C .nil g = .stuck := by first | (rw [ev] <;> rfl) | rfl
@[simp] theorem ev_cons_u0_u1 {u0} {u1} {g : Sg} : ev GL C (.cons u0 u1) g = .stuck := by first | (rw [ev] <;> rfl) | rfl
@[simp] theorem evs_nil  {g : Sg} : evs GL C .nil g = .ok [] g := by first | (rw [evs] <;> rfl) | rfl
@[simp] theorem evs_cons_a_r {a} {r} {g : Sg} : evs GL C (.cons a r) g = (ev GL C a g).bd fun p g => if p.2 = .on then .stuck else (evs GL C r g).bd fun ds g => .ok (p.1 :: ds) g := by first | (rw [evs] <;> rfl) | rfl
@[simp] theorem ex_skip  {g : Sg} : ex GL C L .skip g = .ok .next g := by first | (rw [ex] <;> rfl) | rfl
@[simp] theorem ex_seq_a_r {a} {r} {g : Sg} : ex GL C L (.seq a r) g = (ex GL C L a g).bd fun c g => match c with
    | .next => ex GL C L r g
    | .brk => .ok .brk g
    | .cont => .ok .cont g
    | .ret d m => .ok (.ret d m) g := by first | (rw [ex] <;> rfl) | rfl
@[simp] theorem ex_set_i_e {i} {e} {g : Sg} : ex GL C L (.set i e) g = (ev GL C e g).bd fun p g => .ok .next (g.set i (some p)) := by first | (rw [ex] <;> rfl) | rfl
@[simp] theorem ex_put_i_k_v {i} {k} {v} {g : Sg} : ex GL C L (.put i k v) g = (ev GL C v g).bd fun p g => if p.2 = .on then .stuck else if ownDD i g then (ev GL C k g).bd fun q g => match g[i]? with
    | some (some (.dict kvs, .ow)) => if isInt q.1 ∧ kvs.length < sizeLine then .ok .next (g.set i (some (.dict (putKey kvs q.1 p.1), .ow))) else .stuck
    | _ => .stuck
    else .stuck := by first | (rw [ex] <;> rfl) | rfl
@[simp] theorem ex_ite_t_a_b {t} {a} {b} {g : Sg} : ex GL C L (.ite t a b) g = (ev GL C t g).bd fun p g => match p.1 with
    | .bool true => ex GL C L a g
    | .bool false => ex GL C L b g
    | _ => .stuck := by first | (rw [ex] <;> rfl) | rfl
@[simp] theorem ex_whl_t_b {t} {b} {g : Sg} : ex GL C L (.whl t b) g = whlGo (ev GL C t) (ex GL C L b) L g := by first | (rw [ex] <;> rfl) | rfl
@[simp] theorem ex_for_i_it_b {i} {it} {b} {g : Sg} : ex GL C L (.for_ i it b) g = (ev GL C it g).bd fun p g => if p.2 = .on then .stuck else match itemsD p.1 with
    | some ds => forGo (fun d g => ex GL C L b (g.set i (some (d, .fr)))) ds g
    | none => .stuck := by first | (rw [ex] <;> rfl) | rfl
@[simp] theorem ex_ret_e {e} {g : Sg} : ex GL C L (.ret e) g = (retv GL C e g).bd fun p g => .ok (.ret p.1 p.2) g := by first | (rw [ex] <;> rfl) | rfl
@[simp] theorem ex_expr_e {e} {g : Sg} : ex GL C L (.expr e) g = (ev GL C e g).bd fun _ g => .ok .next g := by first | (rw [ex] <;> rfl) | rfl
@[simp] theorem ex_raise_c {c} {g : Sg} : ex GL C L (.raise c) g = .exc c g := by first | (rw [ex] <;> rfl) | rfl
@[simp] theorem ex_try_cn_b_hs {cn} {b} {hs} {g : Sg} : ex GL C L (.try_ cn b hs) g = match ex GL C L b g with
    | .exc c g => if cn.contains c then match catchD hs c with
        | some d => .ok (.ret d .fr) g
        | none => .exc c g
      else .stuck
    | r => r := by first | (rw [ex] <;> rfl) | rfl
@[simp] theorem ex_never  {g : Sg} : ex GL C L .never g = .stuck := by first | (rw [ex] <;> rfl) | rfl
@[simp] theorem ex_mk_i_e {i} {e} {g : Sg} : ex GL C L (.mk i e) g = if i = 0 then .stuck else match C "Walker.__init__" [.none, .none] with
    | .ok _ _ => (ev GL C e g).bd fun p g => if p.2 = .on then .stuck else .ok .next (g.set i (some (.tuple [p.1, .list []], .on)))
    | _ => .stuck := by first | (rw [ex] <;> rfl) | rfl
@[simp] theorem ex_setT_i_e {i} {e} {g : Sg} : ex GL C L (.setT i e) g = (ev GL C e g).bd fun p g => if p.2 = .on then .stuck else match (objAt i g).bind (setTD p.1) with
    | some st => .ok .next (g.set i (some (.tuple st, .on)))
    | none => .stuck := by first | (rw [ex] <;> rfl) | rfl
@[simp] theorem ex_appT_i_e {i} {e} {g : Sg} : ex GL C L (.appT i e) g = match ev GL C e (hide g) with
    | .ok p _ => if p.2 = .on then .stuck else match (objAt i g).bind (appTD p.1) with
      | some st => .ok .next (g.set i (some (.tuple st, .on)))
      | none => .stuck
    | _ => .stuck := by first | (rw [ex] <;> rfl) | rfl
@[simp] theorem ex_retT_i {i} {g : Sg} : ex GL C L (.retT i) g = match (objAt i g).bind takD with
    | some ds => .ok (.ret (.list ds) .ow) (g.set i none)
    | none => .stuck := by first | (rw [ex] <;> rfl) | rfl
@[simp] theorem evAnd_one {a : E} {g : Sg} : evAnd GL C (.cons a .nil) g = (ev GL C a g).bd fun p g => match p.1 with | .bool c => .ok (.bool c, .fr) g | _ => .stuck := by rw [evAnd] <;> rfl
@[simp] theorem evAnd_more {a b r : E} {g : Sg} : evAnd GL C (.cons a (.cons b r)) g = (ev GL C a g).bd fun p g => match p.1 with | .bool true => evAnd GL C (.cons b r) g | .bool false => .ok (.bool false, .fr) g | _ => .stuck := by rw [evAnd] <;> first | rfl | (intro h; cases h)
@[simp] theorem evOr_one {a : E} {g : Sg} : evOr GL C (.cons a .nil) g = (ev GL C a g).bd fun p g => match p.1 with | .bool c => .ok (.bool c, .fr) g | _ => .stuck := by rw [evOr] <;> rfl
@[simp] theorem evOr_more {a b r : E} {g : Sg} : evOr GL C (.cons a (.cons b r)) g = (ev GL C a g).bd fun p g => match p.1 with | .bool false => evOr GL C (.cons b r) g | .bool true => .ok (.bool true, .fr) g | _ => .stuck := by rw [evOr] <;> first | rfl | (intro h; cases h)
end
@[simp] theorem opn_def (a : E) (r : Res (D × Md)) (g : Sg) : opn a r g = (match a with
  | .var i => match g[i]? with
    | some (some _) => .ok (.s i) g
    | _ => .stuck
  | _ => r.bd fun p g => if p.2 = Md.on then .stuck else .ok (.v p.1) g) := rfl
@[simp] theorem Opn_get_def (o : Opn) (g : Sg) : Opn.get o g = (match o with
  | .v d => some (d, .fr)
  | .s i => match g[i]? with
    | some (some p) => if isObj p then none else some p
    | _ => none) := rfl
@[simp] theorem use_def (i : Nat) (g : Sg) : use i g = (match g[i]? with
  | some (some (d, .fr)) => .ok (d, .fr) g
  | some (some (d, .ow)) => .ok (d, .fr) (g.set i (some (d, .fr)))
  | _ => .stuck) := rfl
@[simp] theorem ofO_def {α : Type} (o : Option α) (g : Sg) : ofO o g = (match o with
  | some a => .ok a g
  | none => .stuck) := rfl
@[simp] theorem part_def (a : E) (r : Res (D × Md)) (g : Sg) : part a r g = (match a with
  | .nil => .ok none g
  | _ => r.bd fun p g => match p.1 with | .int i => .ok (some i) g | _ => .stuck) := rfl
@[simp] theorem iff__def (a : E) (r : Res (D × Md)) (g : Sg) : iff_ a r g = (match a with
  | .nil => .ok true g
  | _ => r.bd fun p g => match p.1 with | .bool c => .ok c g | _ => .stuck) := rfl
@[simp] theorem ixD_def (d i : D) : ixD d i = (match d, i with
  | .list xs, .int k => atI xs k
  | .tuple xs, .int k => atI xs k
  | .dict kvs, .int k => getKey kvs (.int k)
  | _, _ => none) := rfl
@[simp] theorem slD_def (d : D) (lo hi : Option Int) : slD d lo hi = (match d with
  | .list xs => some (.list (cutL xs lo hi), .ow)
  | .tuple xs => some (.tuple (cutL xs lo hi), .fr)
  | _ => none) := rfl
@[simp] theorem ownL_def (i : Nat) (g : Sg) : ownL i g = (match g[i]? with
  | some (some (.list _, .ow)) => true
  | _ => false) := rfl
@[simp] theorem ownD_def (i : Nat) (g : Sg) : ownD i g = (match g[i]? with
  | some (some (.dict _, .ow)) => true
  | _ => false) := rfl
@[simp] theorem ownDD_def (i : Nat) (g : Sg) : ownDD i g = (match g[i]? with
  | some (some (.dict _, .ow)) => true
  | _ => false) := rfl
@[simp] theorem freeze_def (fz : List Nat) (g : Sg) : freeze fz g = (fz.foldl frz1 g) := rfl
@[simp] theorem frz1_def (g : Sg) (i : Nat) : frz1 g i = (match g[i]? with
  | some (some (d, .ow)) => g.set i (some (d, .fr))
  | _ => g) := rfl
@[simp] theorem cmpD_def (o : C2) (d e : D) (m : Md) : cmpD o d e m = (match o with
  | .eq => if eqOk d e then some (PyData.eqv d e) else none
  | .ne => if eqOk d e then some (!PyData.eqv d e) else none
  | .lt => orO (ltS d e) (orO (ltT d e) (ltL d e))
  | .gt => orO (ltS e d) (ltT e d)
  | .le => (orO (ltS e d) (ltT e d)).map (!·)
  | .ge => (ltS d e).map (!·)
  | .isn => match e with | .none => some (isNoneD d) | _ => none
  | .notn => match e with | .none => some (!isNoneD d) | _ => none
  | .in_ => cmpD.inD d e m
  | .nin => (cmpD.inD d e m).map (!·)) := rfl
@[simp] theorem startG_def (ns : Nat) (ds : List D) : startG ns ds = (ds.map (fun d => some (d, .fr)) ++ List.replicate (ns - ds.length) none) := rfl
@[simp] theorem hide_def (g : Sg) : hide g = (g.map hide1) := rfl
@[simp] theorem objAt_def (i : Nat) (g : Sg) : objAt i g = (match g[i]? with
  | some (some (.tuple st, .on)) => some st
  | _ => none) := rfl
@[simp] theorem isObj_def (p : D × Md) : isObj p = (match p.2 with
  | .on => (match p.1 with | .tuple _ => true | _ => false)
  | _ => false) := rfl
@[simp] theorem fldD_mk {t : D} {ds : List D} : fldD [t, .list ds] = some t := rfl
@[simp] theorem dpickD_str {kvs : List (Str × Str)} {k : Str} : dpickD kvs (.str k) = (pickS kvs k none).map fun y => (.str y, .fr) := rfl
@[simp] theorem pickS_nil {k : Str} {o : Option Str} : pickS [] k o = o := rfl
@[simp] theorem pickS_cons {k : Str} {o : Option Str} {p : Str × Str} {r : List (Str × Str)} : pickS (p :: r) k o = pickS r k (if k = p.1 then some p.2 else o) := rfl
@[simp] theorem takD_mk {t : D} {ds : List D} : takD [t, .list ds] = some ds := rfl
@[simp] theorem setTD_mk {t t0 : D} {ds : List D} : setTD t [t0, .list ds] = some [t, .list ds] := rfl
@[simp] theorem appTD_mk {x t : D} {ds : List D} : appTD x [t, .list ds] = if ds.length < sizeLine then some [t, .list (ds ++ [x])] else none := rfl
@[simp] theorem metD_mk {r : D} {st : List D} : metD (.ok (.tuple [r, .tuple st]) .on) = some (r, st) := rfl
section
variable {GL : Str → Option D} {C : Orc}
@[simp] theorem retv_var {i : Nat} {g : Sg} : retv GL C (.var i) g = (match g[i]? with | some (some (d, .ow)) => .ok (d, .ow) g | some (some (d, .fr)) => .ok (d, .fr) g | _ => .stuck) := rfl
theorem retv_ev {e : E} {g : Sg} (h : (match e with | .var _ => false | _ => true) = true) : retv GL C e g = ev GL C e g := by cases e <;> first | rfl | cases h

@[simp] theorem retv_nil  {g : Sg} : retv GL C (.nil ) g = ev GL C (.nil ) g := rfl
@[simp] theorem retv_cons  {a r : E} {g : Sg} : retv GL C (.cons a r) g = ev GL C (.cons a r) g := rfl
@[simp] theorem retv_int  {i : Int} {g : Sg} : retv GL C (.int i) g = ev GL C (.int i) g := rfl
@[simp] theorem retv_str  {x : Str} {g : Sg} : retv GL C (.str x) g = ev GL C (.str x) g := rfl
@[simp] theorem retv_bl  {b : Bool} {g : Sg} : retv GL C (.bl b) g = ev GL C (.bl b) g := rfl
@[simp] theorem retv_non  {g : Sg} : retv GL C (.non ) g = ev GL C (.non ) g := rfl
@[simp] theorem retv_glob  {x : Str} {g : Sg} : retv GL C (.glob x) g = ev GL C (.glob x) g := rfl
@[simp] theorem retv_tup  {es : E} {g : Sg} : retv GL C (.tup es) g = ev GL C (.tup es) g := rfl
@[simp] theorem retv_lst  {es : E} {g : Sg} : retv GL C (.lst es) g = ev GL C (.lst es) g := rfl
@[simp] theorem retv_dnew  {nested : Bool} {g : Sg} : retv GL C (.dnew nested) g = ev GL C (.dnew nested) g := rfl
@[simp] theorem retv_bin  {o : B2} {a b : E} {g : Sg} : retv GL C (.bin o a b) g = ev GL C (.bin o a b) g := rfl
@[simp] theorem retv_cmp  {o : C2} {a b : E} {g : Sg} : retv GL C (.cmp o a b) g = ev GL C (.cmp o a b) g := rfl
@[simp] theorem retv_and_  {es : E} {g : Sg} : retv GL C (.and_ es) g = ev GL C (.and_ es) g := rfl
@[simp] theorem retv_or_  {es : E} {g : Sg} : retv GL C (.or_ es) g = ev GL C (.or_ es) g := rfl
@[simp] theorem retv_not_  {a : E} {g : Sg} : retv GL C (.not_ a) g = ev GL C (.not_ a) g := rfl
@[simp] theorem retv_ite  {t a b : E} {g : Sg} : retv GL C (.ite t a b) g = ev GL C (.ite t a b) g := rfl
@[simp] theorem retv_ix  {a i : E} {g : Sg} : retv GL C (.ix a i) g = ev GL C (.ix a i) g := rfl
@[simp] theorem retv_sl  {a lo hi : E} {g : Sg} : retv GL C (.sl a lo hi) g = ev GL C (.sl a lo hi) g := rfl
@[simp] theorem retv_call  {f : Str} {es : E} {g : Sg} : retv GL C (.call f es) g = ev GL C (.call f es) g := rfl
@[simp] theorem retv_len  {a : E} {g : Sg} : retv GL C (.len a) g = ev GL C (.len a) g := rfl
@[simp] theorem retv_list  {a : E} {g : Sg} : retv GL C (.list a) g = ev GL C (.list a) g := rfl
@[simp] theorem retv_tuple  {a : E} {g : Sg} : retv GL C (.tuple a) g = ev GL C (.tuple a) g := rfl
@[simp] theorem retv_sorted  {a : E} {g : Sg} : retv GL C (.sorted a) g = ev GL C (.sorted a) g := rfl
@[simp] theorem retv_sortset  {a : E} {g : Sg} : retv GL C (.sortset a) g = ev GL C (.sortset a) g := rfl
@[simp] theorem retv_dict  {a : E} {g : Sg} : retv GL C (.dict a) g = ev GL C (.dict a) g := rfl
@[simp] theorem retv_min  {a b : E} {g : Sg} : retv GL C (.min a b) g = ev GL C (.min a b) g := rfl
@[simp] theorem retv_max  {a b : E} {g : Sg} : retv GL C (.max a b) g = ev GL C (.max a b) g := rfl
@[simp] theorem retv_toInt  {a : E} {g : Sg} : retv GL C (.toInt a) g = ev GL C (.toInt a) g := rfl
@[simp] theorem retv_isi  {a : E} {t : Ty} {g : Sg} : retv GL C (.isi a t) g = ev GL C (.isi a t) g := rfl
@[simp] theorem retv_dictzip  {a b : E} {g : Sg} : retv GL C (.dictzip a b) g = ev GL C (.dictzip a b) g := rfl
@[simp] theorem retv_pop  {i : Nat} {g : Sg} : retv GL C (.pop i) g = ev GL C (.pop i) g := rfl
@[simp] theorem retv_append  {i : Nat} {a : E} {g : Sg} : retv GL C (.append i a) g = ev GL C (.append i a) g := rfl
@[simp] theorem retv_extend  {i : Nat} {a : E} {g : Sg} : retv GL C (.extend i a) g = ev GL C (.extend i a) g := rfl
@[simp] theorem retv_clear  {i : Nat} {g : Sg} : retv GL C (.clear i) g = ev GL C (.clear i) g := rfl
@[simp] theorem retv_dpop  {i : Nat} {a : E} {g : Sg} : retv GL C (.dpop i a) g = ev GL C (.dpop i a) g := rfl
@[simp] theorem retv_lc  {elt : E} {i : Nat} {it cond : E} {fz : List Nat} {g : Sg} : retv GL C (.lc elt i it cond fz) g = ev GL C (.lc elt i it cond fz) g := rfl
@[simp] theorem retv_range1  {a : E} {g : Sg} : retv GL C (.range1 a) g = ev GL C (.range1 a) g := rfl
@[simp] theorem retv_range2  {a b : E} {g : Sg} : retv GL C (.range2 a b) g = ev GL C (.range2 a b) g := rfl
@[simp] theorem retv_rev  {a : E} {g : Sg} : retv GL C (.rev a) g = ev GL C (.rev a) g := rfl
@[simp] theorem retv_gnin  {x : Str} {a : E} {g : Sg} : retv GL C (.gnin x a) g = ev GL C (.gnin x a) g := rfl
@[simp] theorem retv_gix  {x : Str} {a : E} {g : Sg} : retv GL C (.gix x a) g = ev GL C (.gix x a) g := rfl
@[simp] theorem retv_dcmp  {ne : Bool} {a b : E} {g : Sg} : retv GL C (.dcmp ne a b) g = ev GL C (.dcmp ne a b) g := rfl
@[simp] theorem retv_fld  {i : Nat} {g : Sg} : retv GL C (.fld i) g = ev GL C (.fld i) g := rfl
@[simp] theorem retv_mcall  {i : Nat} {m : Str} {es : E} {g : Sg} : retv GL C (.mcall i m es) g = ev GL C (.mcall i m es) g := rfl
@[simp] theorem retv_dpick  {kvs : List (Str × Str)} {a : E} {g : Sg} : retv GL C (.dpick kvs a) g = ev GL C (.dpick kvs a) g := rfl
end
@[simp] theorem isi_none_int  : isiD (.none : D) .int = false := rfl
@[simp] theorem isi_none_bool  : isiD (.none : D) .bool = false := rfl
@[simp] theorem isi_none_str  : isiD (.none : D) .str = false := rfl
@[simp] theorem isi_none_tuple  : isiD (.none : D) .tuple = false := rfl
@[simp] theorem isi_none_list  : isiD (.none : D) .list = false := rfl
@[simp] theorem isi_none_dict  : isiD (.none : D) .dict = false := rfl
@[simp] theorem isInt_none  : isInt (.none : D) = false := rfl
@[simp] theorem isNone_none  : isNoneD (.none : D) = true := rfl
@[simp] theorem isi_bool_int {b : Bool} : isiD (.bool b : D) .int = true := rfl
@[simp] theorem isi_bool_bool {b : Bool} : isiD (.bool b : D) .bool = true := rfl
@[simp] theorem isi_bool_str {b : Bool} : isiD (.bool b : D) .str = false := rfl
@[simp] theorem isi_bool_tuple {b : Bool} : isiD (.bool b : D) .tuple = false := rfl
@[simp] theorem isi_bool_list {b : Bool} : isiD (.bool b : D) .list = false := rfl
@[simp] theorem isi_bool_dict {b : Bool} : isiD (.bool b : D) .dict = false := rfl
@[simp] theorem isInt_bool {b : Bool} : isInt (.bool b : D) = false := rfl
@[simp] theorem isNone_bool {b : Bool} : isNoneD (.bool b : D) = false := rfl
@[simp] theorem isi_int_int {i : Int} : isiD (.int i : D) .int = true := rfl
@[simp] theorem isi_int_bool {i : Int} : isiD (.int i : D) .bool = false := rfl
@[simp] theorem isi_int_str {i : Int} : isiD (.int i : D) .str = false := rfl
@[simp] theorem isi_int_tuple {i : Int} : isiD (.int i : D) .tuple = false := rfl
@[simp] theorem isi_int_list {i : Int} : isiD (.int i : D) .list = false := rfl
@[simp] theorem isi_int_dict {i : Int} : isiD (.int i : D) .dict = false := rfl
@[simp] theorem isInt_int {i : Int} : isInt (.int i : D) = true := rfl
@[simp] theorem isNone_int {i : Int} : isNoneD (.int i : D) = false := rfl
@[simp] theorem isi_str_int {x : Str} : isiD (.str x : D) .int = false := rfl
@[simp] theorem isi_str_bool {x : Str} : isiD (.str x : D) .bool = false := rfl
@[simp] theorem isi_str_str {x : Str} : isiD (.str x : D) .str = true := rfl
@[simp] theorem isi_str_tuple {x : Str} : isiD (.str x : D) .tuple = false := rfl
@[simp] theorem isi_str_list {x : Str} : isiD (.str x : D) .list = false := rfl
@[simp] theorem isi_str_dict {x : Str} : isiD (.str x : D) .dict = false := rfl
@[simp] theorem isInt_str {x : Str} : isInt (.str x : D) = false := rfl
@[simp] theorem isNone_str {x : Str} : isNoneD (.str x : D) = false := rfl
@[simp] theorem isi_tuple_int {xs : List D} : isiD (.tuple xs : D) .int = false := rfl
@[simp] theorem isi_tuple_bool {xs : List D} : isiD (.tuple xs : D) .bool = false := rfl
@[simp] theorem isi_tuple_str {xs : List D} : isiD (.tuple xs : D) .str = false := rfl
@[simp] theorem isi_tuple_tuple {xs : List D} : isiD (.tuple xs : D) .tuple = true := rfl
@[simp] theorem isi_tuple_list {xs : List D} : isiD (.tuple xs : D) .list = false := rfl
@[simp] theorem isi_tuple_dict {xs : List D} : isiD (.tuple xs : D) .dict = false := rfl
@[simp] theorem isInt_tuple {xs : List D} : isInt (.tuple xs : D) = false := rfl
@[simp] theorem isNone_tuple {xs : List D} : isNoneD (.tuple xs : D) = false := rfl
@[simp] theorem isi_list_int {xs : List D} : isiD (.list xs : D) .int = false := rfl
@[simp] theorem isi_list_bool {xs : List D} : isiD (.list xs : D) .bool = false := rfl
@[simp] theorem isi_list_str {xs : List D} : isiD (.list xs : D) .str = false := rfl
@[simp] theorem isi_list_tuple {xs : List D} : isiD (.list xs : D) .tuple = false := rfl
@[simp] theorem isi_list_list {xs : List D} : isiD (.list xs : D) .list = true := rfl
@[simp] theorem isi_list_dict {xs : List D} : isiD (.list xs : D) .dict = false := rfl
@[simp] theorem isInt_list {xs : List D} : isInt (.list xs : D) = false := rfl
@[simp] theorem isNone_list {xs : List D} : isNoneD (.list xs : D) = false := rfl
@[simp] theorem isi_dict_int {kvs : List (D × D)} : isiD (.dict kvs : D) .int = false := rfl
@[simp] theorem isi_dict_bool {kvs : List (D × D)} : isiD (.dict kvs : D) .bool = false := rfl
@[simp] theorem isi_dict_str {kvs : List (D × D)} : isiD (.dict kvs : D) .str = false := rfl
@[simp] theorem isi_dict_tuple {kvs : List (D × D)} : isiD (.dict kvs : D) .tuple = false := rfl
@[simp] theorem isi_dict_list {kvs : List (D × D)} : isiD (.dict kvs : D) .list = false := rfl
@[simp] theorem isi_dict_dict {kvs : List (D × D)} : isiD (.dict kvs : D) .dict = true := rfl
@[simp] theorem isInt_dict {kvs : List (D × D)} : isInt (.dict kvs : D) = false := rfl
@[simp] theorem isNone_dict {kvs : List (D × D)} : isNoneD (.dict kvs : D) = false := rfl
section
variable {i j : Int} {xs ys : List D}
@[simp] theorem binx_add : binD .add (.int i) (.int j) = some (.int (i + j), .fr) := rfl
@[simp] theorem binx_addL : binD .add (.list xs) (.list ys) = if xs.length + ys.length ≤ sizeLine then some (.list (xs ++ ys), .ow) else none := rfl
@[simp] theorem binx_addT : binD .add (.tuple xs) (.tuple ys) = if xs.length + ys.length ≤ sizeLine then some (.tuple (xs ++ ys), .fr) else none := rfl
@[simp] theorem binx_sub : binD .sub (.int i) (.int j) = some (.int (i - j), .fr) := rfl
@[simp] theorem binx_mul : binD .mul (.int i) (.int j) = if mulOk i j then some (.int (i * j), .fr) else none := rfl
@[simp] theorem binx_mulL : binD .mul (.list xs) (.int i) = if 0 ≤ i ∧ i ≤ 1000 ∧ xs.length ≤ 1000 then some (.list (List.replicate i.toNat xs).flatten, .ow) else none := rfl
@[simp] theorem binx_mulT : binD .mul (.tuple xs) (.int i) = if 0 ≤ i ∧ i ≤ 1000 ∧ 0 < xs.length ∧ xs.length ≤ 1000 then some (.tuple (List.replicate i.toNat xs).flatten, .fr) else none := rfl
@[simp] theorem binx_fdiv : binD .fdiv (.int i) (.int j) = if 0 < j ∧ j.natAbs.log2 < 9000 then some (.int (i / j), .fr) else none := rfl
@[simp] theorem binx_mod : binD .mod (.int i) (.int j) = if 0 < j then some (.int (i % j), .fr) else none := rfl
@[simp] theorem binx_pow : binD .pow (.int i) (.int j) = if 0 ≤ j ∧ (Builtin.Int.intBits i : Int) * j ≤ 2 ^ 27 then some (.int (i ^ j.toNat), .fr) else none := rfl
@[simp] theorem log_lit {n : Nat} [h : NeZero n] (hn : n < 1000000000000) : n.log2 < 9000 := by
  have : n.log2 ≤ 50 := by
    have : n < 2 ^ 50 := Nat.lt_of_lt_of_le hn (by decide)
    have := (Nat.log2_lt h.ne).mpr this
    omega
  omega
end
@[simp] theorem hide1_fr {d : D} : hide1 (some (d, .fr)) = some (d, .fr) := rfl
@[simp] theorem hide1_ow {d : D} : hide1 (some (d, .ow)) = none := rfl
@[simp] theorem hide1_on {d : D} : hide1 (some (d, .on)) = none := rfl
@[simp] theorem hide1_none : hide1 none = none := rfl
@[simp] theorem size_val : sizeLine = 16777216 := sizeLine_eq
@[simp] theorem lenD_list {xs : List D} : lenD (.list xs) = some xs.length := rfl
@[simp] theorem lenD_tuple {xs : List D} : lenD (.tuple xs) = some xs.length := rfl
@[simp] theorem lenD_dict {xs : List (D × D)} : lenD (.dict xs) = some xs.length := rfl
@[simp] theorem ltS_int {i j : Int} : ltS (.int i) (.int j) = some (decide (i < j)) := rfl
@[simp] theorem globD_int {i : Int} : globD (.int i) = some (.int i, .fr) := rfl
@[simp] theorem orO_some {c : Bool} {b : Option Bool} : orO (some c) b = some c := rfl
@[simp] theorem orO_none {b : Option Bool} : orO none b = b := rfl
@[simp] theorem ltS_tuple {xs ys : List D} : ltS (.tuple xs) (.tuple ys) = none := rfl
@[simp] theorem ltS_list {xs ys : List D} : ltS (.list xs) (.list ys) = none := rfl
@[simp] theorem isDictO_some {es : List (D × D)} : isDictO (some (.dict es)) = true := rfl
@[simp] theorem itemsD_list {xs : List D} : itemsD (.list xs) = some xs := rfl
@[simp] theorem itemsD_tuple {xs : List D} : itemsD (.tuple xs) = some xs := rfl
@[simp] theorem listD_list {xs : List D} {m : Md} : listD (.list xs, m) = some (.list xs, .ow) := by cases m <;> rfl
@[simp] theorem listD_tuple {xs : List D} {m : Md} : listD (.tuple xs, m) = some (.list xs, .ow) := by cases m <;> rfl
@[simp] theorem tupleD_list {xs : List D} {m : Md} : tupleD (.list xs, m) = some (.tuple xs, .fr) := by cases m <;> rfl
@[simp] theorem tupleD_tuple {xs : List D} {m : Md} : tupleD (.tuple xs, m) = some (.tuple xs, .fr) := by cases m <;> rfl
@[simp] theorem toCR_next (g : Sg) : toCR (.ok .next g) = .ok .none .fr := rfl
@[simp] theorem toCR_retF (d : D) (g : Sg) : toCR (.ok (.ret d .fr) g) = .ok d .fr := rfl
@[simp] theorem toCR_retO (d : D) (g : Sg) : toCR (.ok (.ret d .ow) g) = .ok d .ow := rfl
@[simp] theorem toCR_exc (c : Nat) (g : Sg) : toCR (.exc c g) = .exc c := rfl
@[simp] theorem at0 {x : D} {r : List D} : atI (x :: r) 0 = some x := atI_nat (j := 0) rfl
@[simp] theorem at1 {x y : D} {r : List D} : atI (x :: y :: r) 1 = some y := atI_nat (j := 1) rfl
@[simp] theorem at2 {x y z : D} {r : List D} : atI (x :: y :: z :: r) 2 = some z := atI_nat (j := 2) rfl
@[simp] theorem at3 {x y z w : D} {r : List D} : atI (x :: y :: z :: w :: r) 3 = some w := atI_nat (j := 3) rfl
@[simp] theorem eqOk_str {x y : Str} (hx : PyData.strOk x = true) (hy : PyData.strOk y = true) : eqOk (.str x) (.str y) = true := by simp [eqOk, PyData.canLay0, hx, hy, PyData.depth]
@[simp] theorem eqOk_int {i j : Int} : eqOk (.int i) (.int j) = true := by simp [eqOk, PyData.canLay0, PyData.depth]
@[simp] theorem eqv_str {x y : Str} : PyData.eqv (.str x) (.str y) = decide (x = y) := rfl
@[simp] theorem eqv_int {i j : Int} : PyData.eqv (.int i) (.int j) = decide (i = j) := rfl
@[simp] theorem ok_name : PyData.strOk (Str.ofString "name") = true := by decide +kernel
@[simp] theorem ne_name_open : (Str.ofString "name" = Str.ofString "open") = False := by simp only [eq_iff_iff, iff_false]; decide
@[simp] theorem ne_name_sum : (Str.ofString "name" = Str.ofString "sum") = False := by simp only [eq_iff_iff, iff_false]; decide
@[simp] theorem ne_name_mul : (Str.ofString "name" = Str.ofString "mul") = False := by simp only [eq_iff_iff, iff_false]; decide
@[simp] theorem ne_name_pair : (Str.ofString "name" = Str.ofString "pair") = False := by simp only [eq_iff_iff, iff_false]; decide
@[simp] theorem ne_name_swap : (Str.ofString "name" = Str.ofString "swap") = False := by simp only [eq_iff_iff, iff_false]; decide
@[simp] theorem ne_name_left : (Str.ofString "name" = Str.ofString "left") = False := by simp only [eq_iff_iff, iff_false]; decide
@[simp] theorem ne_name_right : (Str.ofString "name" = Str.ofString "right") = False := by simp only [eq_iff_iff, iff_false]; decide
@[simp] theorem ok_open : PyData.strOk (Str.ofString "open") = true := by decide +kernel
@[simp] theorem ne_open_name : (Str.ofString "open" = Str.ofString "name") = False := by simp only [eq_iff_iff, iff_false]; decide
@[simp] theorem ne_open_sum : (Str.ofString "open" = Str.ofString "sum") = False := by simp only [eq_iff_iff, iff_false]; decide
@[simp] theorem ne_open_mul : (Str.ofString "open" = Str.ofString "mul") = False := by simp only [eq_iff_iff, iff_false]; decide
@[simp] theorem ne_open_pair : (Str.ofString "open" = Str.ofString "pair") = False := by simp only [eq_iff_iff, iff_false]; decide
@[simp] theorem ne_open_swap : (Str.ofString "open" = Str.ofString "swap") = False := by simp only [eq_iff_iff, iff_false]; decide
@[simp] theorem ne_open_left : (Str.ofString "open" = Str.ofString "left") = False := by simp only [eq_iff_iff, iff_false]; decide
@[simp] theorem ne_open_right : (Str.ofString "open" = Str.ofString "right") = False := by simp only [eq_iff_iff, iff_false]; decide
@[simp] theorem ok_sum : PyData.strOk (Str.ofString "sum") = true := by decide +kernel
@[simp] theorem ne_sum_name : (Str.ofString "sum" = Str.ofString "name") = False := by simp only [eq_iff_iff, iff_false]; decide
@[simp] theorem ne_sum_open : (Str.ofString "sum" = Str.ofString "open") = False := by simp only [eq_iff_iff, iff_false]; decide
@[simp] theorem ne_sum_mul : (Str.ofString "sum" = Str.ofString "mul") = False := by simp only [eq_iff_iff, iff_false]; decide
@[simp] theorem ne_sum_pair : (Str.ofString "sum" = Str.ofString "pair") = False := by simp only [eq_iff_iff, iff_false]; decide
@[simp] theorem ne_sum_swap : (Str.ofString "sum" = Str.ofString "swap") = False := by simp only [eq_iff_iff, iff_false]; decide
@[simp] theorem ne_sum_left : (Str.ofString "sum" = Str.ofString "left") = False := by simp only [eq_iff_iff, iff_false]; decide
@[simp] theorem ne_sum_right : (Str.ofString "sum" = Str.ofString "right") = False := by simp only [eq_iff_iff, iff_false]; decide
@[simp] theorem ok_mul : PyData.strOk (Str.ofString "mul") = true := by decide +kernel
@[simp] theorem ne_mul_name : (Str.ofString "mul" = Str.ofString "name") = False := by simp only [eq_iff_iff, iff_false]; decide
@[simp] theorem ne_mul_open : (Str.ofString "mul" = Str.ofString "open") = False := by simp only [eq_iff_iff, iff_false]; decide
@[simp] theorem ne_mul_sum : (Str.ofString "mul" = Str.ofString "sum") = False := by simp only [eq_iff_iff, iff_false]; decide
@[simp] theorem ne_mul_pair : (Str.ofString "mul" = Str.ofString "pair") = False := by simp only [eq_iff_iff, iff_false]; decide
@[simp] theorem ne_mul_swap : (Str.ofString "mul" = Str.ofString "swap") = False := by simp only [eq_iff_iff, iff_false]; decide
@[simp] theorem ne_mul_left : (Str.ofString "mul" = Str.ofString "left") = False := by simp only [eq_iff_iff, iff_false]; decide
@[simp] theorem ne_mul_right : (Str.ofString "mul" = Str.ofString "right") = False := by simp only [eq_iff_iff, iff_false]; decide
@[simp] theorem ok_pair : PyData.strOk (Str.ofString "pair") = true := by decide +kernel
@[simp] theorem ne_pair_name : (Str.ofString "pair" = Str.ofString "name") = False := by simp only [eq_iff_iff, iff_false]; decide
@[simp] theorem ne_pair_open : (Str.ofString "pair" = Str.ofString "open") = False := by simp only [eq_iff_iff, iff_false]; decide
@[simp] theorem ne_pair_sum : (Str.ofString "pair" = Str.ofString "sum") = False := by simp only [eq_iff_iff, iff_false]; decide
@[simp] theorem ne_pair_mul : (Str.ofString "pair" = Str.ofString "mul") = False := by simp only [eq_iff_iff, iff_false]; decide
@[simp] theorem ne_pair_swap : (Str.ofString "pair" = Str.ofString "swap") = False := by simp only [eq_iff_iff, iff_false]; decide
@[simp] theorem ne_pair_left : (Str.ofString "pair" = Str.ofString "left") = False := by simp only [eq_iff_iff, iff_false]; decide
@[simp] theorem ne_pair_right : (Str.ofString "pair" = Str.ofString "right") = False := by simp only [eq_iff_iff, iff_false]; decide
@[simp] theorem ok_swap : PyData.strOk (Str.ofString "swap") = true := by decide +kernel
@[simp] theorem ne_swap_name : (Str.ofString "swap" = Str.ofString "name") = False := by simp only [eq_iff_iff, iff_false]; decide
@[simp] theorem ne_swap_open : (Str.ofString "swap" = Str.ofString "open") = False := by simp only [eq_iff_iff, iff_false]; decide
@[simp] theorem ne_swap_sum : (Str.ofString "swap" = Str.ofString "sum") = False := by simp only [eq_iff_iff, iff_false]; decide
@[simp] theorem ne_swap_mul : (Str.ofString "swap" = Str.ofString "mul") = False := by simp only [eq_iff_iff, iff_false]; decide
@[simp] theorem ne_swap_pair : (Str.ofString "swap" = Str.ofString "pair") = False := by simp only [eq_iff_iff, iff_false]; decide
@[simp] theorem ne_swap_left : (Str.ofString "swap" = Str.ofString "left") = False := by simp only [eq_iff_iff, iff_false]; decide
@[simp] theorem ne_swap_right : (Str.ofString "swap" = Str.ofString "right") = False := by simp only [eq_iff_iff, iff_false]; decide
@[simp] theorem ok_left : PyData.strOk (Str.ofString "left") = true := by decide +kernel
@[simp] theorem ne_left_name : (Str.ofString "left" = Str.ofString "name") = False := by simp only [eq_iff_iff, iff_false]; decide
@[simp] theorem ne_left_open : (Str.ofString "left" = Str.ofString "open") = False := by simp only [eq_iff_iff, iff_false]; decide
@[simp] theorem ne_left_sum : (Str.ofString "left" = Str.ofString "sum") = False := by simp only [eq_iff_iff, iff_false]; decide
@[simp] theorem ne_left_mul : (Str.ofString "left" = Str.ofString "mul") = False := by simp only [eq_iff_iff, iff_false]; decide
@[simp] theorem ne_left_pair : (Str.ofString "left" = Str.ofString "pair") = False := by simp only [eq_iff_iff, iff_false]; decide
@[simp] theorem ne_left_swap : (Str.ofString "left" = Str.ofString "swap") = False := by simp only [eq_iff_iff, iff_false]; decide
@[simp] theorem ne_left_right : (Str.ofString "left" = Str.ofString "right") = False := by simp only [eq_iff_iff, iff_false]; decide
@[simp] theorem ok_right : PyData.strOk (Str.ofString "right") = true := by decide +kernel
@[simp] theorem ne_right_name : (Str.ofString "right" = Str.ofString "name") = False := by simp only [eq_iff_iff, iff_false]; decide
@[simp] theorem ne_right_open : (Str.ofString "right" = Str.ofString "open") = False := by simp only [eq_iff_iff, iff_false]; decide
@[simp] theorem ne_right_sum : (Str.ofString "right" = Str.ofString "sum") = False := by simp only [eq_iff_iff, iff_false]; decide
@[simp] theorem ne_right_mul : (Str.ofString "right" = Str.ofString "mul") = False := by simp only [eq_iff_iff, iff_false]; decide
@[simp] theorem ne_right_pair : (Str.ofString "right" = Str.ofString "pair") = False := by simp only [eq_iff_iff, iff_false]; decide
@[simp] theorem ne_right_swap : (Str.ofString "right" = Str.ofString "swap") = False := by simp only [eq_iff_iff, iff_false]; decide
@[simp] theorem ne_right_left : (Str.ofString "right" = Str.ofString "left") = False := by simp only [eq_iff_iff, iff_false]; decide
end DL

set_option Elab.async false
set_option linter.all false
set_option maxRecDepth 100000
/-! G1: runs by values of the common defs: terms, leaves. -/
namespace DL
open PySem L2

/-! ### calls -/
/-- the call comes to r, with c calls or more left -/
def Calls (GL : Str → Option D) (T : Str → Option Fd) (L c : Nat) (f : Str) (ds : List D) (r : CR) : Prop := ∀ n, c ≤ n → callD GL T L n f ds = r
theorem callD_succ {GL : Str → Option D} {T : Str → Option Fd} {L n : Nat} {f : Str} {ds : List D} {fd : Fd} (hT : T f = some fd) (hl : ds.length = fd.np) (hk : fd.kd = 0 := by rfl) : callD GL T L (n + 1) f ds = toCR (ex GL (callD GL T L n) L fd.body (startG fd.ns ds)) := by
  rw [callD]; simp only [hT, hl, if_true, hk]
theorem Calls.mk {GL : Str → Option D} {T : Str → Option Fd} {L c : Nat} {f : Str} {ds : List D} {r : CR} {fd : Fd} (hT : T f = some fd) (hl : ds.length = fd.np) (h : ∀ n, c ≤ n → toCR (ex GL (callD GL T L n) L fd.body (startG fd.ns ds)) = r) (hk : fd.kd = 0 := by rfl) : Calls GL T L (c + 1) f ds r := by
  intro n hn
  obtain ⟨m, rfl⟩ : ∃ m, n = m + 1 := ⟨n - 1, by omega⟩
  rw [callD_succ hT hl hk]
  exact h m (by omega)
theorem Calls.mono {GL : Str → Option D} {T : Str → Option Fd} {L c c' : Nat} {f : Str} {ds : List D} {r : CR} (h : Calls GL T L c f ds r) (hc : c ≤ c') : Calls GL T L c' f ds r := fun n hn => h n (by omega)

/-! ### loops -/
/-- a while loop, by an invariant with a measure -/
theorem whl_inv {t : Sg → Res (D × Md)} {f : Sg → Res Ctl} (I : Nat → Sg → Prop) {Q : Res Ctl → Prop} (hd : ∀ m g, I m g → (∃ m1 g1, t g = .ok (.bool false, m1) g1 ∧ Q (.ok .next g1)) ∨ (∃ m1 g1, t g = .ok (.bool true, m1) g1 ∧ ∃ g2, f g1 = .ok .next g2 ∧ ∃ m', m' < m ∧ I m' g2)) :
    ∀ (L m : Nat) (g : Sg), m < L → I m g → Q (whlGo t f L g)
  | 0, m, g, h, _ => absurd h (Nat.not_lt_zero _)
  | L + 1, m, g, h, i => by
    rw [whlGo]
    rcases hd m g i with ⟨m1, g1, e, q⟩ | ⟨m1, g1, e, g2, e2, m', hm, i2⟩
    · rw [e]; exact q
    · rw [e]
      simp only [bd_ok]
      rw [e2]
      exact whl_inv I hd L m' g2 (by omega) i2
/-- a for loop, by an invariant -/
theorem for_inv {f : D → Sg → Res Ctl} (I : Nat → Sg → Prop) {Q : Res Ctl → Prop} (ds : List D) {g : Sg} (h0 : I 0 g) (hs : ∀ i d g, ds[i]? = some d → I i g → ∃ g', f d g = .ok .next g' ∧ I (i + 1) g') (hd : ∀ g, I ds.length g → Q (.ok .next g)) : Q (forGo f ds g) := by
  have go : ∀ (n i : Nat) (g : Sg), n = ds.length - i → i ≤ ds.length → I i g → Q (forGo f (ds.drop i) g) := by
    intro n
    induction n with
    | zero =>
      intro i g hn hi h
      have e : i = ds.length := by omega
      subst e
      rw [List.drop_length, forGo]
      exact hd g h
    | succ n ih =>
      intro i g hn hi h
      have hlt : i < ds.length := by omega
      rw [List.drop_eq_getElem_cons hlt, forGo]
      obtain ⟨g', e, h'⟩ := hs i _ g (List.getElem?_eq_getElem hlt) h
      rw [e]
      exact ih (i + 1) g' (by omega) hlt h'
  have := go _ 0 g rfl (Nat.zero_le _) h0
  simpa using this

/-! ### statements, one after another -/
/-- Q holds of what the statement comes to -/
def Runs (GL : Str → Option D) (C : Orc) (L : Nat) (s : S) (g : Sg) (Q : Res Ctl → Prop) : Prop := Q (ex GL C L s g)
section
variable {GL : Str → Option D} {C : Orc} {L : Nat} {Q : Res Ctl → Prop} {a b r : S} {e t it : E} {g g1 : Sg} {p : D × Md} {i : Nat} {m : Md} {d : D}
theorem Runs.sq (h : ex GL C L a g = .ok .next g1) (h2 : Runs GL C L r g1 Q) : Runs GL C L (.seq a r) g Q := by
  unfold Runs at *; rw [ex, h]; exact h2
theorem Runs.set (h : ev GL C e g = .ok p g1) (h2 : Runs GL C L r (g1.set i (some p)) Q) : Runs GL C L (.seq (.set i e) r) g Q := .sq (by rw [ex, h]; rfl) h2
theorem Runs.ex (h : ev GL C e g = .ok p g1) (h2 : Runs GL C L r g1 Q) : Runs GL C L (.seq (.expr e) r) g Q := .sq (by rw [DL.ex, h]; rfl) h2
theorem Runs.as (h : Runs GL C L (.seq a (.seq b r)) g Q) : Runs GL C L (.seq (.seq a b) r) g Q := by
  unfold Runs at *
  rw [DL.ex, DL.ex] at *
  cases q : DL.ex GL C L a g with
  | ok c g1 =>
    rw [q] at h
    cases c with
    | next => simp only [bd_ok] at h ⊢; rw [DL.ex] at h; exact h
    | brk => exact h
    | cont => exact h
    | ret d m => exact h
  | exc c g1 => rw [q] at h; exact h
  | stuck => rw [q] at h; exact h
theorem Runs.skip (h : Runs GL C L r g Q) : Runs GL C L (.seq .skip r) g Q := .sq (by rw [DL.ex]) h
theorem Runs.ifT (h : ev GL C t g = .ok (.bool true, m) g1) (h2 : Runs GL C L (.seq a r) g1 Q) : Runs GL C L (.seq (.ite t a b) r) g Q := by
  unfold Runs at *; rw [DL.ex] at *; rw [DL.ex, h]; exact h2
theorem Runs.ifF (h : ev GL C t g = .ok (.bool false, m) g1) (h2 : Runs GL C L (.seq b r) g1 Q) : Runs GL C L (.seq (.ite t a b) r) g Q := by
  unfold Runs at *; rw [DL.ex] at *; rw [DL.ex, h]; exact h2
theorem Runs.nil (h : Q (.ok .next g)) : Runs GL C L .skip g Q := by unfold Runs; rw [DL.ex]; exact h
theorem Runs.ret (h : retv GL C e g = .ok (d, m) g1) (h2 : Q (.ok (.ret d m) g1)) : Runs GL C L (.seq (.ret e) r) g Q := by
  unfold Runs; rw [DL.ex, DL.ex, h]; exact h2
theorem Runs.for_ {ds : List D} (I : Nat → Sg → Prop) (h : ev GL C it g = .ok (d, m) g1) (hm : m ≠ .on) (hd : itemsD d = some ds) (h0 : I 0 g1)
    (hs : ∀ j x g, ds[j]? = some x → I j g → ∃ g', DL.ex GL C L b (g.set i (some (x, .fr))) = .ok .next g' ∧ I (j + 1) g') (hr : ∀ g, I ds.length g → Runs GL C L r g Q) : Runs GL C L (.seq (.for_ i it b) r) g Q := by
  unfold Runs at *
  rw [DL.ex, DL.ex, h]
  simp only [bd_ok, hm, if_false, hd]
  exact for_inv I (Q := fun x => Q (x.bd _)) ds h0 hs hr
theorem Runs.whl (I : Nat → Sg → Prop) (n : Nat) (hn : n < L) (h0 : I n g) (hd : ∀ m g, I m g → (∃ m1 g1, ev GL C t g = .ok (.bool false, m1) g1 ∧ Runs GL C L r g1 Q) ∨ (∃ m1 g1, ev GL C t g = .ok (.bool true, m1) g1 ∧ ∃ g2, DL.ex GL C L b g1 = .ok .next g2 ∧ ∃ m', m' < m ∧ I m' g2)) :
    Runs GL C L (.seq (.whl t b) r) g Q := by
  unfold Runs at *
  rw [DL.ex, DL.ex]
  exact whl_inv I (Q := fun x => Q (x.bd _)) hd L n g hn h0
end
theorem call_runs {GL : Str → Option D} {T : Str → Option Fd} {L n : Nat} {f : Str} {ds : List D} {fd : Fd} {r : CR} (hT : T f = some fd) (hl : ds.length = fd.np) (h : Runs GL (callD GL T L n) L fd.body (startG fd.ns ds) fun x => toCR x = r) (hk : fd.kd = 0 := by rfl) : callD GL T L (n + 1) f ds = r := by
  rw [callD_succ hT hl hk]; exact h

/-! ### terms -/
inductive Sn where
  | sum | mul | pair
  deriving DecidableEq
def Sn.s : Sn → Str
  | .sum => Str.ofString "sum"
  | .mul => Str.ofString "mul"
  | .pair => Str.ofString "pair"
def kS : Bool → Str
  | true => Str.ofString "open"
  | false => Str.ofString "name"
inductive Tm where
  | leaf (o : Bool) (i : Int)
  | node (s : Sn) (a b : Tm)
def Tm.d : Tm → D
  | .leaf o i => .tuple [.str (kS o), .int i]
  | .node s a b => .tuple [.str s.s, a.d, b.d]
/-- a leaf's number is as it may be -/
def leafOk (o : Bool) (i : Int) : Prop := 0 ≤ i ∧ if o = true then i < 10 else i ≤ 1000000000
def Tm.ok : Tm → Prop
  | .leaf o i => leafOk o i
  | .node _ a b => a.ok ∧ b.ok
/-- its leaves, from the left -/
def Tm.ls : Tm → List (Bool × Int)
  | .leaf o i => [(o, i)]
  | .node _ a b => a.ls ++ b.ls
def Tm.sz : Tm → Nat
  | .leaf _ _ => 1
  | .node _ a b => a.sz + b.sz + 1
theorem Tm.ls_pos : ∀ t : Tm, 0 < t.ls.length
  | .leaf _ _ => by simp [Tm.ls]
  | .node _ a b => by have := a.ls_pos; simp [Tm.ls]; omega
theorem Tm.sz_ls : ∀ t : Tm, t.sz + 1 = 2 * t.ls.length
  | .leaf _ _ => rfl
  | .node _ a b => by have := a.sz_ls; have := b.sz_ls; simp [Tm.ls, Tm.sz]; omega
def lfD (p : Bool × Int) : D := .tuple [.str (kS p.1), .int p.2]
/-- what the module's names are -/
structure Lib1 (GL : Str → Option D) (T : Str → Option Fd) (R : Nat → S) : Prop where
  whole : T (Str.ofString "is_whole") = some ⟨1, 1, b_is_whole, 0⟩
  leaf : T (Str.ofString "is_leaf") = some ⟨1, 1, b_is_leaf, 0⟩
  shape : T (Str.ofString "has_shape") = some ⟨1, 1, b_has_shape, 0⟩
  of : T (Str.ofString "leaves_of") = some ⟨1, 4, b_leaves_of R, 0⟩
  lv : (T (Str.ofString "leaves")).isSome = true → T (Str.ofString "leaves") = some ⟨1, 1, b_leaves, 0⟩
  gr : GL (Str.ofString "GREATEST") = some (.int 1000000000)
  op : GL (Str.ofString "OPENS") = some (.int 10)
  le : GL (Str.ofString "LEAVES") = some (.int 40)
section
variable {GL : Str → Option D} {T : Str → Option Fd} {L : Nat} {R : Nat → S}
theorem r_is_whole (l : Lib1 GL T R) (i : Int) : Calls GL T L 1 (Str.ofString "is_whole") [.int i] (.ok (.bool true) .fr) :=
  .mk l.whole rfl fun n _ => by simp [b_is_whole]
theorem r_is_leaf (l : Lib1 GL T R) (t : Tm) : Calls GL T L 1 (Str.ofString "is_leaf") [t.d] (.ok (.bool (match t with | .leaf _ _ => true | _ => false)) .fr) :=
  .mk l.leaf rfl fun n _ => by
    cases t with
    | leaf o i => cases o <;> simp [b_is_leaf, Tm.d, kS]
    | node s a b => cases s <;> simp [b_is_leaf, Tm.d, Sn.s]
theorem r_has_shape (l : Lib1 GL T R) (t : Tm) (ok : t.ok) : Calls GL T L 2 (Str.ofString "has_shape") [t.d] (.ok (.bool true) .fr) :=
  .mk l.shape rfl fun n hn => by
    cases t with
    | leaf o i =>
      have hc := r_is_whole (L := L) l i n hn
      have ok : leafOk o i := ok
      obtain ⟨h1, h2⟩ := ok
      have h1' : ¬ i < 0 := by omega
      cases o with
      | true =>
        have h2 : i < 10 := by simpa using h2
        simp [b_has_shape, Tm.d, kS, hc, l.gr, l.op, h1', h2]
      | false =>
        have h2 : ¬ 1000000000 < i := by have : i ≤ 1000000000 := by simpa using h2
                                         omega
        simp [b_has_shape, Tm.d, kS, hc, l.gr, l.op, h1', h2]
    | node s a b => cases s <;> simp [b_has_shape, Tm.d, Sn.s]
end
end DL

set_option Elab.async false
set_option linter.all false
set_option maxRecDepth 100000
/-! G2: leaves_of, leaves, opens. -/
namespace DL
open PySem L2

theorem lay_kS (o : Bool) : PyData.strOk (kS o) = true := by cases o <;> decide +kernel
theorem lay_sS (s : Sn) : PyData.strOk s.s = true := by cases s <;> decide +kernel
theorem Tm.lay : ∀ t : Tm, t.d.canLay0 = true
  | .leaf o i => by simp [Tm.d, PyData.canLay0, PyData.canLayAll0, lay_kS]
  | .node s a b => by simp [Tm.d, PyData.canLay0, PyData.canLayAll0, lay_sS, a.lay, b.lay]
theorem layAll_map {α : Type} {f : α → D} (h : ∀ a, (f a).canLay0 = true) : ∀ l : List α, PyData.canLayAll0 (l.map f) = true
  | [] => by simp [PyData.canLayAll0]
  | a :: l => by simp [PyData.canLayAll0, h a, layAll_map h l]
theorem lay_lfD (p : Bool × Int) : (lfD p).canLay0 = true := by simp [lfD, PyData.canLay0, PyData.canLayAll0, lay_kS]
/-- row != [], row == [] -/
theorem eqOk_nil {ds : List D} (h : PyData.canLayAll0 ds = true) : eqOk (.list ds) (.list []) = true := by
  have : Nat.min (PyData.depth (.list ds)) (PyData.depth (.list [])) ≤ 200 := Nat.le_trans (Nat.min_le_right _ _) (by decide)
  simp [eqOk, PyData.canLay0, PyData.canLayAll0, h]
  exact this
theorem eqv_nil {ds : List D} : PyData.eqv (.list ds) (.list []) = ds.isEmpty := by cases ds <;> simp [PyData.eqv, PyData.eqvAll]
@[simp] theorem eqOk_nil0 : eqOk (.list []) (.list []) = true := eqOk_nil (by simp [PyData.canLayAll0])
@[simp] theorem snoc_empty {α : Type} {l : List α} {a : α} : (l ++ [a]).isEmpty = false := by cases l <;> rfl
theorem small_line {n : Nat} (h : n ≤ 100000) : n < sizeLine := by rw [sizeLine_eq]; omega
def szs (ws : List Tm) : Nat := (ws.map Tm.sz).sum
theorem szs_append (a b : List Tm) : szs (a ++ b) = szs a + szs b := by simp [szs]
section
variable {GL : Str → Option D} {T : Str → Option Fd} {L : Nat} {R : Nat → S}
/-- the leaves of the terms that wait, the last one first -/
def lsW (ws : List Tm) : List (Bool × Int) := (ws.reverse.map Tm.ls).flatten
theorem lsW_snoc (ws : List Tm) (t : Tm) : lsW (ws ++ [t]) = t.ls ++ lsW ws := by simp [lsW]
theorem len_le_szs : ∀ ws : List Tm, ws.length ≤ szs ws
  | [] => by simp [szs]
  | t :: ws => by
    have := len_le_szs ws
    have : 0 < t.sz := by cases t <;> simp [Tm.sz]
    simp [szs] at *
    omega
theorem snoc_cases {α : Type} (l : List α) : l = [] ∨ ∃ l' a, l = l' ++ [a] := by
  rcases List.eq_nil_or_concat l with h | ⟨l', a, h⟩
  · exact .inl h
  · exact .inr ⟨l', a, by simpa using h⟩
theorem r_leaves_of (l : Lib1 GL T R) (hL : 200 < L) (t : Tm) (ok : t.ok) (h40 : t.ls.length ≤ 40) : Calls GL T L 3 (Str.ofString "leaves_of") [t.d] (.ok (.list (t.ls.map lfD)) .ow) :=
  .mk l.of rfl fun n hn => by
    have hsz := t.sz_ls
    simp [b_leaves_of]
    refine whl_inv (I := fun m g => ∃ (fs : List (Bool × Int)) (ws : List Tm) (x : Sl), g = [some (t.d, .fr), some (.list (fs.map lfD), .ow), some (.list (ws.map Tm.d), .ow), x] ∧ fs ++ lsW ws = t.ls ∧ (∀ u ∈ ws, u.ok) ∧ szs ws = m ∧ m + fs.length ≤ t.sz)
      (Q := fun r => toCR (r.bd _) = _) ?_ L (t.sz) _ (by omega) ⟨[], [t], none, rfl, by simp [lsW], by simpa using ok, by simp [szs], by simp⟩
    rintro m g ⟨fs, ws, x, rfl, h1, h2, h3, h4⟩
    rcases snoc_cases ws with rfl | ⟨ws, u, rfl⟩
    · left
      have : fs = t.ls := by simpa [lsW] using h1
      subst this
      refine ⟨_, _, by simp [eqv_nil]; exact ⟨rfl, rfl⟩, ?_⟩
      have : ¬ (40 : Int) < (t.ls.length : Nat) := by omega
      simp [l.le, this]
    · right
      have hu : u.ok := h2 u (by simp)
      have hlay : PyData.canLayAll0 (ws.map Tm.d ++ [u.d]) = true := by simpa using layAll_map Tm.lay (ws ++ [u])
      have c1 := r_has_shape (L := L) l u hu n (by omega)
      have c2 := r_is_leaf (L := L) l u n (by omega)
      have hlen := len_le_szs ws
      rw [szs_append] at h3
      rw [lsW_snoc] at h1
      refine ⟨_, _, by simp [eqOk_nil hlay, eqv_nil]; exact ⟨rfl, rfl⟩, ?_⟩
      cases u with
      | leaf o i =>
        refine ⟨[some (t.d, .fr), some (.list ((fs ++ [(o, i)]).map lfD), .ow), some (.list (ws.map Tm.d), .ow), some ((Tm.leaf o i).d, .fr)], ?_, szs ws, ?_, fs ++ [(o, i)], ws, _, rfl, ?_, fun v hv => h2 v (by simp [hv]), rfl, ?_⟩
        · simp [c1, c2]
          rw [if_pos (by omega)]
          rfl
        · simp [szs, Tm.sz] at h3 ⊢; omega
        · simpa [Tm.ls] using h1
        · simp [szs, Tm.sz] at h3 ⊢; omega
      | node s a b =>
        refine ⟨[some (t.d, .fr), some (.list (fs.map lfD), .ow), some (.list ((ws ++ [b, a]).map Tm.d), .ow), some ((Tm.node s a b).d, .fr)], ?_, szs (ws ++ [b, a]), ?_, fs, ws ++ [b, a], _, rfl, ?_, ?_, rfl, ?_⟩
        · simp [c1, c2]
          rw [Tm.d]
          simp
          rw [if_pos (by simp [szs, Tm.sz] at h3 hlen; omega)]
          simp
          rw [if_pos (by simp [szs, Tm.sz] at h3 hlen; omega)]
          simp
        · simp [szs, Tm.sz] at h3 ⊢; omega
        · rw [← h1]; simp [lsW, Tm.ls]
        · intro v hv
          have hu : a.ok ∧ b.ok := hu
          simp at hv
          rcases hv with hv | rfl | rfl
          · exact h2 v (by simp [hv])
          · exact hu.2
          · exact hu.1
        · simp [szs, Tm.sz] at h3 ⊢; omega
theorem r_leaves (l : Lib1 GL T R) (hv : (T (Str.ofString "leaves")).isSome = true) (hL : 200 < L) (t : Tm) (ok : t.ok) (h40 : t.ls.length ≤ 40) : Calls GL T L 4 (Str.ofString "leaves") [t.d] (.ok (.int t.ls.length) .fr) :=
  .mk (l.lv hv) rfl fun n hn => by
    have c := r_leaves_of l hL t ok h40 n hn
    simp [b_leaves, c]
end
/-! ### comprehensions -/
theorem lcGo_fm {α : Type} {f : D → Res (Option D)} (k : α → D) (h : α → Option D) : ∀ (l : List α), (∀ a ∈ l, ∃ g, f (k a) = .ok (h a) g) → lcGo f (l.map k) = some (l.filterMap h)
  | [], _ => rfl
  | a :: l, hf => by
    obtain ⟨g, e⟩ := hf a (by simp)
    have ih := lcGo_fm k h l fun b hb => hf b (by simp [hb])
    rw [List.map_cons, lcGo, e]
    cases q : h a with
    | none => simp [q, ih]
    | some b => simp [q, ih]
theorem intsD_map : ∀ l : List Int, intsD (l.map .int) = some l
  | [] => rfl
  | a :: l => by simp [intsD, intsD_map l]
/-- the numbers of the open ones -/
def opN (ls : List (Bool × Int)) : List Int := ls.filterMap fun p => if p.1 = true then some p.2 else none
theorem opN_len : ∀ ls : List (Bool × Int), (opN ls).length ≤ ls.length := fun ls => List.length_filterMap_le _ _
theorem mem_opN {ls : List (Bool × Int)} {i : Int} : i ∈ opN ls ↔ (true, i) ∈ ls := by
  simp [opN, List.mem_filterMap]
section
variable {GL : Str → Option D} {T : Str → Option Fd} {L : Nat} {R : Nat → S}
theorem r_opens (l : Lib1 GL T R) (hT : T (Str.ofString "opens") = some ⟨1, 2, b_opens, 0⟩) (hL : 200 < L) (t : Tm) (ok : t.ok) (h40 : t.ls.length ≤ 40) : Calls GL T L 4 (Str.ofString "opens") [t.d] (.ok (.list ((sortI (opN t.ls)).map .int)) .ow) :=
  .mk hT rfl fun n hn => by
    have c := r_leaves_of l hL t ok h40 n hn
    simp [b_opens, c]
    rw [lcGo_fm lfD (fun p => if p.1 = true then some (.int p.2) else none) t.ls fun p hp => by
      obtain ⟨o, i⟩ := p
      cases o <;> simp [lfD, kS]]
    have e : (t.ls.filterMap fun p => if p.1 = true then some (PyData.int p.2) else none) = (opN t.ls).map .int := by
      unfold opN
      rw [List.map_filterMap]
      congr 1
      funext p
      split <;> rfl
    rw [e]
    have := opN_len t.ls
    simp
    rw [if_pos (by omega)]
    simp [sortsetD, intsD_map]
    rw [if_pos (by omega)]
    simp
end
end DL

set_option Elab.async false
set_option linter.all false
set_option maxRecDepth 100000
/-! G3: a script's cells. -/
namespace DL
open PySem L2

abbrev bits (z : Int) : Nat := Builtin.Int.intBits z
theorem bits_ediv {x : Int} {k : Int} {m : Nat} (hk : 0 < k) (h : bits x ≤ m) : bits (x / k) ≤ m := by
  have := PySem.intBits_fdiv_le (y := k) h
  rwa [Int.fdiv_eq_ediv_of_nonneg x (by omega)] at this
/-- the k-th number of the script, 0 behind its end -/
def cellAt (ns : List Int) (k : Nat) : Int := (ns[k]?).getD 0
theorem cellAt_bits {ns : List Int} {m : Nat} (h : ∀ z ∈ ns, bits z ≤ m) (k : Nat) : bits (cellAt ns k) ≤ m := by
  unfold cellAt
  cases e : ns[k]? with
  | none => simp; exact Nat.zero_le _
  | some z => simp; exact h z (List.mem_of_getElem? e)
theorem at_ints {ns : List Int} {k : Nat} (h : k < ns.length) : atI (ns.map PyData.int) (k : Int) = some (.int (cellAt ns k)) := by
  apply atI_nat
  rw [List.getElem?_map]
  unfold cellAt
  rw [List.getElem?_eq_getElem h]
  rfl
structure Lib3 (T : Str → Option Fd) : Prop where
  cell : T (Str.ofString "_law_cell_at") = some ⟨2, 2, b__law_cell_at, 0⟩
  by_ : T (Str.ofString "_law_cells_by") = some ⟨3, 5, b__law_cells_by, 0⟩
section
variable {GL : Str → Option D} {T : Str → Option Fd} {L : Nat}
theorem r_cell_at (hT : T (Str.ofString "_law_cell_at") = some ⟨2, 2, b__law_cell_at, 0⟩) (ns : List Int) (k : Nat) : Calls GL T L 1 (Str.ofString "_law_cell_at") [.list (ns.map .int), .int (k : Int)] (.ok (.int (cellAt ns k)) .fr) :=
  .mk hT rfl fun n _ => by
    by_cases c : k < ns.length
    · simp [b__law_cell_at, c, at_ints c]
    · simp [b__law_cell_at, c]
      unfold cellAt
      rw [List.getElem?_eq_none (by omega)]
      rfl
theorem range_get {n : Int} : rangeD 0 n = (List.range n.toNat).map fun (k : Nat) => PyData.int (k : Int) := by
  unfold rangeD
  simp
def mix (size : Int) (k : Nat) : Int := (size / 4 + 104729 * (k : Int) + 1) ^ 3 % 2147483647
theorem map_int_range (f : Nat → Int) (n : Nat) : (List.range n).map (fun k => PyData.int (f k)) = ((List.range n).map f).map .int := by simp
theorem bits_sum {x : Int} {k : Nat} (h : bits x ≤ 1048576) (hk : k ≤ 1000) : bits (x / 4 + 104729 * (k : Int) + 1) ≤ 1048578 := by
  have h1 := bits_ediv (k := 4) (by omega) h
  have h2 : bits (104729 * (k : Int)) ≤ 64 := PySem.intBits_le_64 (by omega) (by omega)
  have h3 := PySem.intBits_add_le h1 h2
  have h4 : bits (1 : Int) ≤ 64 := PySem.intBits_le_64 (by omega) (by omega)
  have h5 := PySem.intBits_add_le h3 h4
  exact Nat.le_trans h5 (by decide)
theorem pow_ok {x : Int} (h : bits x ≤ 1048578) : (Builtin.Int.intBits x : Int) * 3 ≤ 134217728 := by
  have h' : Builtin.Int.intBits x ≤ 1048578 := h
  omega
theorem cut_len {α : Type} {xs : List α} {a b : Int} (ha : 0 ≤ a) (hb : 0 ≤ b) : (cutL xs (some a) (some (a + b))).length ≤ b.toNat := by
  unfold cutL
  rw [List.length_take, List.length_drop]
  unfold HT.sIx
  simp only
  split <;> split <;> omega
theorem cut_map {α β : Type} (f : α → β) (xs : List α) (a b : Option Int) : cutL (xs.map f) a b = (cutL xs a b).map f := by simp [cutL]
theorem r_cells_by (l : Lib3 T) (ns : List Int) (hb : ∀ z ∈ ns, bits z ≤ 1048576) (a m : Nat) (hm : m ≤ 100) : ∃ cs : List Int, cs.length ≤ m ∧ Calls GL T L 2 (Str.ofString "_law_cells_by") [.list (ns.map .int), .int (a : Int), .int (m : Int)] (.ok (.list (cs.map .int)) .ow) := by
  by_cases c : cellAt ns 0 % 4 = 1
  · refine ⟨(List.range (cellAt ns 0 / 4 % ((m : Int) + 1)).toNat).map (mix (cellAt ns 0)), ?_, .mk l.by_ rfl fun n hn => ?_⟩
    · simp
      have := Int.emod_lt_of_pos (cellAt ns 0 / 4) (show (0 : Int) < (m : Int) + 1 by omega)
      omega
    · have h0 := r_cell_at (GL := GL) (L := L) l.cell ns 0 n (by omega)
      have h0 : callD GL T L n (Str.ofString "_law_cell_at") [PyData.list (List.map PyData.int ns), PyData.int 0] = CR.ok (PyData.int (cellAt ns 0)) Md.fr := h0
      have hmod := Int.emod_lt_of_pos (cellAt ns 0 / 4) (show (0 : Int) < (m : Int) + 1 by omega)
      have hnn := Int.emod_nonneg (cellAt ns 0 / 4) (show (m : Int) + 1 ≠ 0 by omega)
      have hr : rngOk (cellAt ns 0 / 4 % ((m : Int) + 1)) = true := by
        exact rngOk_small (by omega) (by omega)
      have hm1 : (0 : Int) < (m : Int) + 1 := by omega
      have hl : Nat.log2 4 < 9000 := by decide
      simp [b__law_cells_by, h0, c, hr, hl, hm1]
      have hk : ∀ k ∈ List.range (cellAt ns 0 / 4 % ((m : Int) + 1)).toNat, k ≤ 1000 := fun k hk => by have := List.mem_range.mp hk; omega
      rw [range_get, lcGo_fm (fun k : Nat => PyData.int (k : Int)) (fun k => some (.int (mix (cellAt ns 0) k))) _ fun k h => by
        have hb0 := pow_ok (bits_sum (cellAt_bits hb 0) (hk k h))
        have hm0 : mulOk 104729 (k : Int) = true := by unfold mulOk; rw [lowI_small (i := 104729) (by omega) (by omega)]; rfl
        simp [hm0, hl, hb0, mix]]
      rw [List.filterMap_eq_map']
      simp
      rw [if_pos (by omega)]
      simp
  · refine ⟨cutL ns (some (a : Int)) (some ((a : Int) + (m : Int))), ?_, .mk l.by_ rfl fun n hn => ?_⟩
    · have := cut_len (xs := ns) (a := (a : Int)) (b := (m : Int)) (by omega) (by omega)
      omega
    · have h0 := r_cell_at (GL := GL) (L := L) l.cell ns 0 n (by omega)
      have h0 : callD GL T L n (Str.ofString "_law_cell_at") [PyData.list (List.map PyData.int ns), PyData.int 0] = CR.ok (PyData.int (cellAt ns 0)) Md.fr := h0
      simp [b__law_cells_by, h0, c, cut_map]
end
end DL

set_option Elab.async false
set_option linter.all false
set_option maxRecDepth 100000
/-! G4: forms: their data, that they compare; parts_of, joined, flat, form. -/
namespace DL
open PySem L2

/-! ### forms -/
inductive IsF : D → Prop
  | leaf (o : Bool) (i : Int) : IsF (.tuple [.str (kS o), .int i])
  | pair {a b : D} : IsF a → IsF b → IsF (.tuple [.str (Str.ofString "pair"), a, b])
  | sum {xs : List D} : (∀ x ∈ xs, IsF x) → IsF (.tuple (.str (Str.ofString "sum") :: xs))
  | mul {xs : List D} : (∀ x ∈ xs, IsF x) → IsF (.tuple (.str (Str.ofString "mul") :: xs))
theorem plainAll_of : ∀ {xs : List D}, (∀ x ∈ xs, keyOk x = true) → plainAll xs = true
  | [], _ => rfl
  | x :: xs, h => by
    simp only [plainAll, keyOk.keyOkAll, Bool.and_eq_true]
    exact ⟨h x List.mem_cons_self, plainAll_of fun y hy => h y (List.mem_cons_of_mem _ hy)⟩
theorem layAll_of : ∀ {xs : List D}, (∀ x ∈ xs, x.canLay0 = true) → PyData.canLayAll0 xs = true
  | [], _ => by simp [PyData.canLayAll0]
  | x :: xs, h => by
    simp only [PyData.canLayAll0, Bool.and_eq_true]
    exact ⟨h x List.mem_cons_self, layAll_of fun y hy => h y (List.mem_cons_of_mem _ hy)⟩
theorem IsF.plain {d : D} (h : IsF d) : keyOk d = true := by
  induction h with
  | leaf o i => rfl
  | pair _ _ iha ihb => simp [keyOk, keyOk.keyOkAll, iha, ihb]
  | sum _ ih => simp [keyOk, keyOk.keyOkAll]; exact plainAll_of ih
  | mul _ ih => simp [keyOk, keyOk.keyOkAll]; exact plainAll_of ih
theorem IsF.lay {d : D} (h : IsF d) : d.canLay0 = true := by
  induction h with
  | leaf o i => simp [PyData.canLay0, PyData.canLayAll0, lay_kS]
  | pair _ _ iha ihb => simp [PyData.canLay0, PyData.canLayAll0, iha, ihb]
  | sum _ ih => simp [PyData.canLay0, PyData.canLayAll0]; exact layAll_of ih
  | mul _ ih => simp [PyData.canLay0, PyData.canLayAll0]; exact layAll_of ih
theorem IsF.str {d : D} (h : IsF d) : ∃ x xs, d = .tuple (.str x :: xs) := by cases h <;> exact ⟨_, _, rfl⟩
/-- what a form is behind its word -/
theorem ltAll_some : ∀ (xs ys : List D), (∀ x ∈ xs, ∀ y ∈ ys, (ltD x y).isSome = true) → (ltD.ltAll xs ys).isSome = true
  | [], [], _ => rfl
  | [], _ :: _, _ => rfl
  | _ :: _, [], _ => rfl
  | x :: xs, y :: ys, h => by
    rw [ltD.ltAll]
    split
    · exact ltAll_some xs ys fun a ha b hb => h a (List.mem_cons_of_mem _ ha) b (List.mem_cons_of_mem _ hb)
    · exact h x List.mem_cons_self y List.mem_cons_self
theorem ltAll_word {x y : Str} {xs ys : List D} (h : x = y → (ltD.ltAll xs ys).isSome = true) : (ltD (.tuple (.str x :: xs)) (.tuple (.str y :: ys))).isSome = true := by
  rw [ltD, ltD.ltAll]
  by_cases e : x = y
  · rw [if_pos (by rw [eqv_str]; simpa using e)]; exact h e
  · rw [if_neg (by rw [eqv_str]; simpa using e), ltD]; rfl
theorem IsF.cmp {d : D} (h : IsF d) : ∀ e : D, IsF e → (ltD d e).isSome = true := by
  induction h with
  | leaf o i =>
    intro e he
    cases he with
    | leaf p j => exact ltAll_word fun _ => ltAll_some _ _ fun a ha b hb => by simp at ha hb; subst ha hb; rfl
    | pair _ _ => cases o <;> exact ltAll_word fun z => by simp [kS] at z
    | sum _ => cases o <;> exact ltAll_word fun z => by simp [kS] at z
    | mul _ => cases o <;> exact ltAll_word fun z => by simp [kS] at z
  | pair ha hb iha ihb =>
    intro e he
    cases he with
    | leaf p j => cases p <;> exact ltAll_word fun z => by simp [kS] at z
    | pair hc hd =>
      refine ltAll_word fun _ => ltAll_some _ _ fun x hx y hy => ?_
      simp at hx hy
      rcases hx with rfl | rfl <;> rcases hy with rfl | rfl <;> first | exact iha _ (by assumption) | exact ihb _ (by assumption)
    | sum _ => exact ltAll_word fun z => by simp at z
    | mul _ => exact ltAll_word fun z => by simp at z
  | sum hx ih =>
    intro e he
    cases he with
    | leaf p j => cases p <;> exact ltAll_word fun z => by simp [kS] at z
    | pair hc hd => exact ltAll_word fun z => by simp at z
    | sum hy => exact ltAll_word fun _ => ltAll_some _ _ fun x hx y hyy => ih x hx y (hy y hyy)
    | mul _ => exact ltAll_word fun z => by simp at z
  | mul hx ih =>
    intro e he
    cases he with
    | leaf p j => cases p <;> exact ltAll_word fun z => by simp [kS] at z
    | pair hc hd => exact ltAll_word fun z => by simp at z
    | sum hy => exact ltAll_word fun z => by simp at z
    | mul hy => exact ltAll_word fun _ => ltAll_some _ _ fun x hx y hyy => ih x hx y (hy y hyy)
theorem sortable_forms {ds : List D} (h : ∀ d ∈ ds, IsF d ∧ d.depth ≤ 100) (hl : ds.length ≤ 100000) : sortable ds = true := by
  unfold sortable
  simp only [Bool.and_eq_true, Bool.or_eq_true, List.all_eq_true, decide_eq_true_eq]
  refine ⟨⟨⟨fun d hd => ⟨⟨(h d hd).1.plain, (h d hd).1.lay⟩, (h d hd).2⟩, fun x hx y hy => (h x hx).1.cmp y (h y hy).1⟩, by rw [sizeLine_eq]; omega⟩, .inl (.inr fun d hd => ?_)⟩
  obtain ⟨x, xs, rfl⟩ := (h d hd).1.str
  rfl
/-- the parts of a form of a sign, or the form itself -/
def partsD (s : Str) (d : D) : List D := match d with
  | .tuple (.str x :: r) => if x = s then r else [d]
  | _ => [d]
theorem partsD_word {s x : Str} {xs : List D} : partsD s (.tuple (.str x :: xs)) = if x = s then xs else [.tuple (.str x :: xs)] := rfl
/-- some forms joined -/
def joinR (s : Str) (row : List D) : D := match row with
  | [d] => d
  | row => .tuple (.str s :: sortD row)
theorem joinR_more (s : Str) {row : List D} (h : row.length ≠ 1) : joinR s row = .tuple (.str s :: sortD row) := by
  unfold joinR
  split
  · simp at h
  · rfl
def joinD (s : Str) (ds : List D) : D := joinR s (ds.flatMap (partsD s))
def Tm.form : Tm → D
  | .leaf o i => .tuple [.str (kS o), .int i]
  | .node .pair a b => .tuple [.str (Str.ofString "pair"), a.form, b.form]
  | .node .sum a b => joinD (Str.ofString "sum") [a.form, b.form]
  | .node .mul a b => joinD (Str.ofString "mul") [a.form, b.form]
def Tm.ht : Tm → Nat
  | .leaf _ _ => 1
  | .node _ a b => max a.ht b.ht + 1
theorem Tm.ht_ls : ∀ t : Tm, t.ht ≤ t.ls.length
  | .leaf _ _ => Nat.le_refl _
  | .node _ a b => by
    have := a.ht_ls
    have := b.ht_ls
    have := a.ls_pos
    have := b.ls_pos
    simp [Tm.ht, Tm.ls]
    omega
theorem depthAll_le {n : Nat} : ∀ {xs : List D}, (∀ x ∈ xs, x.depth ≤ n) → PyData.depthAll xs ≤ n
  | [], _ => by simp [PyData.depthAll]
  | x :: xs, h => by
    have := h x List.mem_cons_self
    have := depthAll_le fun y hy => h y (List.mem_cons_of_mem _ hy)
    simp [PyData.depthAll]
    omega
theorem parts_form {s : Str} {d : D} (h : IsF d) (hs : s = Str.ofString "sum" ∨ s = Str.ofString "mul") {n : Nat} (hd : d.depth ≤ n) : ∀ x ∈ partsD s d, IsF x ∧ x.depth ≤ n := by
  intro x hx
  cases h with
  | leaf o i =>
    have e : partsD s (.tuple [.str (kS o), .int i]) = [.tuple [.str (kS o), .int i]] := by
      unfold partsD
      simp only
      rw [if_neg]
      rcases hs with rfl | rfl <;> cases o <;> simp [kS]
    rw [e] at hx
    simp at hx
    subst hx
    exact ⟨.leaf o i, hd⟩
  | pair ha hb =>
    rename_i a b
    have e : partsD s (.tuple [.str (Str.ofString "pair"), a, b]) = [.tuple [.str (Str.ofString "pair"), a, b]] := by
      unfold partsD
      simp only
      rw [if_neg]
      rcases hs with rfl | rfl <;> simp
    rw [e] at hx
    simp at hx
    subst hx
    exact ⟨.pair ha hb, hd⟩
  | sum hxs =>
    rename_i xs
    unfold partsD at hx
    simp only at hx
    split at hx
    · refine ⟨hxs x hx, ?_⟩
      have := depth_mem hx
      simp [PyData.depth, PyData.depthAll] at hd
      omega
    · simp at hx
      subst hx
      exact ⟨.sum hxs, hd⟩
  | mul hxs =>
    rename_i xs
    unfold partsD at hx
    simp only at hx
    split at hx
    · refine ⟨hxs x hx, ?_⟩
      have := depth_mem hx
      simp [PyData.depth, PyData.depthAll] at hd
      omega
    · simp at hx
      subst hx
      exact ⟨.mul hxs, hd⟩
theorem join_form {s : Str} (hs : s = Str.ofString "sum" ∨ s = Str.ofString "mul") {ds : List D} {n : Nat} (h : ∀ d ∈ ds, IsF d ∧ d.depth ≤ n) : IsF (joinD s ds) ∧ (joinD s ds).depth ≤ n + 1 := by
  have hr : ∀ x ∈ ds.flatMap (partsD s), IsF x ∧ x.depth ≤ n := fun x hx => by
    obtain ⟨d, h1, h2⟩ := List.mem_flatMap.mp hx
    exact parts_form (h d h1).1 hs (h d h1).2 x h2
  unfold joinD joinR
  split
  · rename_i d e
    rw [e] at hr
    have := hr d (by simp)
    exact ⟨this.1, by omega⟩
  · rename_i row _
    have hr2 : ∀ x ∈ sortD (ds.flatMap (partsD s)), IsF x ∧ x.depth ≤ n := fun x hx => hr x ((sortD_perm _).mem_iff.mp hx)
    refine ⟨?_, ?_⟩
    · rcases hs with rfl | rfl
      · exact .sum fun x hx => (hr2 x hx).1
      · exact .mul fun x hx => (hr2 x hx).1
    · have := depthAll_le fun x hx => (hr2 x hx).2
      simp [PyData.depth, PyData.depthAll]
      omega
theorem Tm.form_ok : ∀ t : Tm, IsF t.form ∧ t.form.depth ≤ t.ht
  | .leaf o i => ⟨.leaf o i, by simp [Tm.form, Tm.ht, PyData.depth, PyData.depthAll]⟩
  | .node s a b => by
    obtain ⟨a1, a2⟩ := a.form_ok
    obtain ⟨b1, b2⟩ := b.form_ok
    have both : ∀ d ∈ [a.form, b.form], IsF d ∧ d.depth ≤ max a.ht b.ht := fun d hd => by
      simp at hd
      rcases hd with rfl | rfl
      · exact ⟨a1, by omega⟩
      · exact ⟨b1, by omega⟩
    cases s with
    | sum => exact join_form (.inl rfl) both
    | mul => exact join_form (.inr rfl) both
    | pair =>
      refine ⟨.pair a1 b1, ?_⟩
      simp [Tm.form, Tm.ht, PyData.depth, PyData.depthAll]
      omega
/-- a term's form has a part at least, and no more than its leaves -/
theorem parts_len : ∀ (t : Tm) (s : Str), (s = Str.ofString "sum" ∨ s = Str.ofString "mul") → 1 ≤ (partsD s t.form).length ∧ (partsD s t.form).length ≤ t.ls.length
  | .leaf o i, s, hs => by
    have e : partsD s (Tm.leaf o i).form = [(Tm.leaf o i).form] := by
      unfold Tm.form partsD
      simp only
      rw [if_neg]
      rcases hs with rfl | rfl <;> cases o <;> simp [kS]
    rw [e]
    simp [Tm.ls]
  | .node .pair a b, s, hs => by
    have e : partsD s (Tm.node .pair a b).form = [(Tm.node .pair a b).form] := by
      unfold Tm.form partsD
      simp only
      rw [if_neg]
      rcases hs with rfl | rfl <;> simp
    have := a.ls_pos
    rw [e]
    simp [Tm.ls]
    omega
  | .node .sum a b, s, hs => by
    obtain ⟨a1, a2⟩ := parts_len a (Str.ofString "sum") (.inl rfl)
    obtain ⟨b1, b2⟩ := parts_len b (Str.ofString "sum") (.inl rfl)
    have e : (Tm.node .sum a b).form = .tuple (.str (Str.ofString "sum") :: sortD (partsD (Str.ofString "sum") a.form ++ partsD (Str.ofString "sum") b.form)) := by
      show joinD _ [a.form, b.form] = _
      unfold joinD
      rw [joinR_more _ (by simp; omega)]
      simp
    have hl := (sortD_perm (partsD (Str.ofString "sum") a.form ++ partsD (Str.ofString "sum") b.form)).length_eq
    rw [List.length_append] at hl
    rw [e, partsD_word]
    split
    · rw [hl]; simp [Tm.ls]; omega
    · simp [Tm.ls]; omega
  | .node .mul a b, s, hs => by
    obtain ⟨a1, a2⟩ := parts_len a (Str.ofString "mul") (.inr rfl)
    obtain ⟨b1, b2⟩ := parts_len b (Str.ofString "mul") (.inr rfl)
    have e : (Tm.node .mul a b).form = .tuple (.str (Str.ofString "mul") :: sortD (partsD (Str.ofString "mul") a.form ++ partsD (Str.ofString "mul") b.form)) := by
      show joinD _ [a.form, b.form] = _
      unfold joinD
      rw [joinR_more _ (by simp; omega)]
      simp
    have hl := (sortD_perm (partsD (Str.ofString "mul") a.form ++ partsD (Str.ofString "mul") b.form)).length_eq
    rw [List.length_append] at hl
    rw [e, partsD_word]
    split
    · rw [hl]; simp [Tm.ls]; omega
    · simp [Tm.ls]; omega
end DL

set_option Elab.async false
set_option linter.all false
set_option maxRecDepth 100000
/-! G5: runs of parts_of, joined, flat, form. -/
namespace DL
open PySem L2

theorem cut_tail {α : Type} (x : α) (r : List α) : cutL (x :: r) (some 1) none = r := by
  unfold cutL HT.sIx
  simp
theorem IsF.word {d : D} (h : IsF d) : ∃ x xs, d = .tuple (.str x :: xs) ∧ PyData.strOk x = true := by
  obtain ⟨x, xs, rfl⟩ := h.str
  have := h.lay
  simp [PyData.canLay0, PyData.canLayAll0] at this
  exact ⟨x, xs, rfl, this.1⟩
structure Lib5 (T : Str → Option Fd) : Prop where
  parts : T (Str.ofString "parts_of") = some ⟨2, 2, b_parts_of, 0⟩
  join : T (Str.ofString "joined") = some ⟨2, 4, b_joined, 0⟩
  flat : T (Str.ofString "flat") = some ⟨1, 1, b_flat, 0⟩
section
variable {GL : Str → Option D} {T : Str → Option Fd} {L : Nat} {R : Nat → S}
theorem r_parts_of (l : Lib5 T) {d : D} (hd : IsF d) {s : Str} (hs : PyData.strOk s = true) : Calls GL T L 1 (Str.ofString "parts_of") [d, .str s] (.ok (.list (partsD s d)) .ow) :=
  .mk l.parts rfl fun n _ => by
    obtain ⟨x, xs, rfl, hx⟩ := hd.word
    by_cases e : x = s
    · subst e; simp [b_parts_of, eqOk_str hx hx, cut_tail, partsD_word]
    · simp [b_parts_of, eqOk_str hx hs, e, partsD_word]
theorem r_joined (l : Lib5 T) {s : Str} (hs : s = Str.ofString "sum" ∨ s = Str.ofString "mul") {ds : List D} (hd : ∀ d ∈ ds, IsF d ∧ d.depth ≤ 90) (hn : (ds.flatMap (partsD s)).length ≤ 1000) :
    Calls GL T L 2 (Str.ofString "joined") [.str s, .list ds] (.ok (joinD s ds) .fr) := by
  intro n hn2
  obtain ⟨n, rfl⟩ : ∃ m, n = m + 1 := ⟨n - 1, by omega⟩
  have ks : PyData.strOk s = true := by rcases hs with rfl | rfl <;> simp
  refine call_runs l.join rfl ?_
  unfold b_joined
  simp only [startG_def]
  refine .set (p := (.list [], .ow)) (by simp; rfl) ?_
  refine .for_ (ds := ds) (fun i g => ∃ z : Sl, g = [some (.str s, .fr), some (.list ds, .fr), some (.list ((ds.take i).flatMap (partsD s)), .ow), z]) (by simp; exact ⟨rfl, rfl⟩) (by decide) rfl ⟨none, rfl⟩ ?_ ?_
  · rintro i d g hi ⟨z, rfl⟩
    have hlt : i < ds.length := (List.getElem?_eq_some_iff.mp hi).1
    have hmem := List.mem_of_getElem? hi
    have c := r_parts_of (GL := GL) (L := L) l (hd d hmem).1 ks n (by omega)
    have et : (ds.take (i + 1)).flatMap (partsD s) = (ds.take i).flatMap (partsD s) ++ partsD s d := by
      rw [List.take_succ_eq_append_getElem hlt, List.flatMap_append]
      have : ds[i] = d := (List.getElem?_eq_some_iff.mp hi).2
      simp [this]
    have hle : ((ds.take i).flatMap (partsD s)).length + (partsD s d).length ≤ 16777216 := by
      have h1 : ((ds.take (i + 1)).flatMap (partsD s)).length ≤ (ds.flatMap (partsD s)).length := by
        conv => rhs; rw [← List.take_append_drop (i + 1) ds]
        rw [List.flatMap_append, List.length_append]
        omega
      rw [et, List.length_append] at h1
      omega
    refine ⟨[some (.str s, .fr), some (.list ds, .fr), some (.list ((ds.take (i + 1)).flatMap (partsD s)), .ow), some (d, .fr)], ?_, _, rfl⟩
    rw [et]
    simp only [List.length_flatMap] at hle
    simp [c]
    rw [if_pos (by simpa using hle)]
    rfl
  · rintro g ⟨z, rfl⟩
    rw [List.take_length]
    have hrow : ∀ x ∈ ds.flatMap (partsD s), IsF x ∧ x.depth ≤ 90 := fun x hx => by
      obtain ⟨d, h1, h2⟩ := List.mem_flatMap.mp hx
      exact parts_form (hd d h1).1 hs (hd d h1).2 x h2
    have hsort := sortable_forms (ds := ds.flatMap (partsD s)) (fun d h => ⟨(hrow d h).1, by have := (hrow d h).2; omega⟩) (by omega)
    unfold joinD
    generalize ds.flatMap (partsD s) = row at *
    have hlen : (sortD row).length = row.length := (sortD_perm row).length_eq
    by_cases e : row.length = 1
    · obtain ⟨d, rfl⟩ : ∃ d, row = [d] := by
        match row, e with
        | [d], _ => exact ⟨d, rfl⟩
      refine .ifT (by simp; exact ⟨rfl, rfl⟩) (.as (.ret (d := d) (m := .fr) (by simp; rfl) rfl))
    · have e' : ¬ ((row.length : Nat) : Int) = 1 := by omega
      refine .ifF (by simp [e']; exact ⟨rfl, rfl⟩) (.skip ?_)
      rw [joinR_more s e]
      refine .ret (d := .tuple (.str s :: sortD row)) (m := .fr) (g1 := [some (.str s, .fr), some (.list ds, .fr), some (.list row, .ow), z]) ?_ rfl
      have hz : 1 + row.length ≤ 16777216 := by omega
      have hz' : row.length + 1 ≤ 16777216 := by omega
      have hz2 : row.length ≤ 16777215 := by omega
      simp [sortedD, hsort, hlen, hz, hz', hz2]
theorem r_flat (l1 : Lib1 GL T R) (l : Lib5 T) : ∀ t : Tm, t.ls.length ≤ 60 → Calls GL T L (t.ht + 3) (Str.ofString "flat") [t.d] (.ok t.form .fr)
  | .leaf o i, hl => by
    intro n hn
    obtain ⟨n, rfl⟩ : ∃ m, n = m + 1 := ⟨n - 1, by omega⟩
    have c := r_is_leaf (L := L) l1 (.leaf o i) n (by simp [Tm.ht] at hn; omega)
    refine call_runs l.flat rfl ?_
    unfold b_flat
    simp only [startG_def]
    exact .ifT (by simp [c]; exact ⟨rfl, rfl⟩) (.as (.ret (d := (Tm.leaf o i).form) (m := .fr) (by simp; exact ⟨rfl, rfl⟩) rfl))
  | .node s a b, hl => by
    intro n hn
    obtain ⟨n, rfl⟩ : ∃ m, n = m + 1 := ⟨n - 1, by omega⟩
    have hla : a.ls.length ≤ 60 := by simp [Tm.ls] at hl; omega
    have hlb : b.ls.length ≤ 60 := by simp [Tm.ls] at hl; omega
    simp only [Tm.ht] at hn
    have c := r_is_leaf (L := L) l1 (.node s a b) n (by omega)
    have ca := r_flat l1 l a hla n (by omega)
    have cb := r_flat l1 l b hlb n (by omega)
    have both : ∀ d ∈ [a.form, b.form], IsF d ∧ d.depth ≤ 90 := fun d hd => by
      have := a.ht_ls
      have := b.ht_ls
      simp at hd
      rcases hd with rfl | rfl
      · exact ⟨a.form_ok.1, by have := a.form_ok.2; omega⟩
      · exact ⟨b.form_ok.1, by have := b.form_ok.2; omega⟩
    have cj : ∀ s, (s = Str.ofString "sum" ∨ s = Str.ofString "mul") → callD GL T L n (Str.ofString "joined") [.str s, .list [a.form, b.form]] = .ok (joinD s [a.form, b.form]) .fr := fun s hs => r_joined l hs both (by
      have := (parts_len a s hs).2
      have := (parts_len b s hs).2
      simp; omega) n (by omega)
    refine call_runs l.flat rfl ?_
    unfold b_flat
    simp only [startG_def]
    refine .ifF (by simp [c]; exact ⟨rfl, rfl⟩) (.skip ?_)
    cases s with
    | pair =>
      exact .ifT (by simp [Tm.d, Sn.s]; exact ⟨rfl, rfl⟩) (.as (.ret (d := (Tm.node .pair a b).form) (m := .fr) (by simp [Tm.d, ca, cb]; exact ⟨rfl, rfl⟩) rfl))
    | sum =>
      refine .ifF (by simp [Tm.d, Sn.s]; exact ⟨rfl, rfl⟩) (.skip ?_)
      exact .ret (d := (Tm.node .sum a b).form) (m := .fr) (by simp [Tm.d, Sn.s, ca, cb, cj]; exact ⟨rfl, rfl⟩) rfl
    | mul =>
      refine .ifF (by simp [Tm.d, Sn.s]; exact ⟨rfl, rfl⟩) (.skip ?_)
      exact .ret (d := (Tm.node .mul a b).form) (m := .fr) (by simp [Tm.d, Sn.s, ca, cb, cj]; exact ⟨rfl, rfl⟩) rfl
theorem r_form (l1 : Lib1 GL T R) (hv : (T (Str.ofString "leaves")).isSome = true) (l : Lib5 T) (hT : T (Str.ofString "form") = some ⟨1, 1, b_form, 0⟩) (hL : 200 < L) (t : Tm) (ok : t.ok) (hl : t.ls.length ≤ 40) : Calls GL T L (t.ht + 5) (Str.ofString "form") [t.d] (.ok t.form .fr) := by
  intro n hn
  obtain ⟨n, rfl⟩ : ∃ m, n = m + 1 := ⟨n - 1, by omega⟩
  have c1 := r_leaves (L := L) l1 hv hL t ok hl n (by omega)
  have c2 := r_flat (L := L) l1 l t (by omega) n (by omega)
  refine call_runs hT rfl ?_
  unfold b_form
  simp only [startG_def]
  refine .ex (by simp [c1]; exact ⟨rfl, rfl⟩) ?_
  exact .ret (d := t.form) (m := .fr) (by simp [c2]; rfl) rfl
end
end DL

set_option Elab.async false
set_option linter.all false
set_option maxRecDepth 100000
/-! G6: what the laws' own defs share: cells to leaves, the pile. -/
namespace DL
open PySem L2
theorem mod4 (x : Int) : x % 4 = 0 ∨ x % 4 = 1 ∨ x % 4 = 2 ∨ x % 4 = 3 := by omega
/-- the name's number -/
def nameN (m p : Int) : Int := if p % 4 = 3 then m % 1000000001 else if p % 4 = 2 then m % 40 else m % 3
theorem nameN_ok (m p : Int) : 0 ≤ nameN m p ∧ nameN m p ≤ 1000000000 := by
  unfold nameN
  split
  · omega
  · split <;> omega
/-- leaves of all of them -/
def lsum (ts : List Tm) : Nat := (ts.map fun t => t.ls.length).sum
theorem lsum_snoc (ts : List Tm) (t : Tm) : lsum (ts ++ [t]) = lsum ts + t.ls.length := by simp [lsum]
theorem lsum_len : ∀ ts : List Tm, ts.length ≤ lsum ts
  | [] => by simp [lsum]
  | t :: ts => by
    have := lsum_len ts
    have := t.ls_pos
    simp [lsum] at *
    omega
def sgn4 (c : Int) : Sn := if c = 1 then .mul else if c = 3 then .pair else .sum
theorem two_last {α : Type} (l : List α) (h : ¬ l.length < 2) : ∃ l' a b, l = l' ++ [a] ++ [b] := by
  rcases snoc_cases l with rfl | ⟨l1, b, rfl⟩
  · simp at h
  · rcases snoc_cases l1 with rfl | ⟨l2, a, rfl⟩
    · simp at h
    · exact ⟨l2, a, b, rfl⟩
end DL

set_option Elab.async false
set_option linter.all false
set_option maxRecDepth 100000
/-! the defs as small texts, the table of them, the module's things. -/
namespace DL
open PySem L2
def CNS : List Nat := [0, 1, 2, 3]
def top (i : Nat) : Stmt := PySem.Challenge.pw_anyorder_k08_whole_ways.main.body.getD i (.Pass ⟨0, 0, 0, 0⟩)
def e_is_whole : Ent := ⟨1, N_is_whole, b_is_whole, top 9, 0⟩
def e_is_leaf : Ent := ⟨1, N_is_leaf, b_is_leaf, top 10, 0⟩
def e_has_shape : Ent := ⟨1, N_has_shape, b_has_shape, top 11, 0⟩
def e_leaves_of : Ent := ⟨1, N_leaves_of, (b_leaves_of .raise), top 12, 0⟩
def e_leaves : Ent := ⟨1, N_leaves, b_leaves, top 13, 0⟩
def e_parts_of : Ent := ⟨2, N_parts_of, b_parts_of, top 15, 0⟩
def e_joined : Ent := ⟨2, N_joined, b_joined, top 16, 0⟩
def e_flat : Ent := ⟨1, N_flat, b_flat, top 17, 0⟩
def e_part_at : Ent := ⟨2, N_part_at, (b_part_at .raise), top 20, 0⟩
def e_with_part : Ent := ⟨3, N_with_part, b_with_part, top 21, 0⟩
def e_turned : Ent := ⟨2, N_turned, (b_turned .raise), top 22, 0⟩
def e_done : Ent := ⟨2, N_done, b_done, top 23, 0⟩
def e_back : Ent := ⟨1, N_back, (b_back .raise), top 24, 0⟩
def e_moves : Ent := ⟨1, N_moves, b_moves, top 26, 0⟩
def e_way : Ent := ⟨2, N_way, b_way, top 27, 0⟩
def e__law_cell_at : Ent := ⟨2, N__law_cell_at, b__law_cell_at, top 29, 0⟩
def e__law_cells_by : Ent := ⟨3, N__law_cells_by, b__law_cells_by, top 30, 0⟩
/-- _law_leaf: 0 _law_cell, 1 _law_more -/
def b__law_leaf : S := (.seq (.ite (.cmp .eq (.bin .mod (.var 0) (.int (5))) (.int (4))) (.seq (.ret (.tup (.cons (.str "open") (.cons (.bin .mod (.bin .fdiv (.var 0) (.int (5))) (.int (10))) .nil))))
  .skip) .skip)
  (.seq (.set 1 (.bin .fdiv (.var 0) (.int (20))))
  (.seq (.ret (.tup (.cons (.str "name") (.cons (.ix (.lst (.cons (.bin .mod (.var 1) (.int (3))) (.cons (.bin .mod (.var 1) (.int (3))) (.cons (.bin .mod (.var 1) (.int (40))) (.cons (.bin .mod (.var 1) (.int (1000000001))) .nil))))) (.bin .mod (.bin .fdiv (.var 0) (.int (5))) (.int (4)))) .nil))))
  .skip)))
def N__law_leaf : List Str := ["_law_cell", "_law_more"]
def e__law_leaf : Ent := ⟨1, N__law_leaf, b__law_leaf, top 31, 0⟩
/-- _law_made: 0 _law_cells, 1 _law_pile, 2 _law_cell, 3 _law_other_here -/
def b__law_made : S := (.seq (.set 1 (.lst .nil))
  (.seq (.for_ 2 (.var 0) (.seq (.ite (.or_ (.cons (.cmp .lt (.bin .mod (.var 2) (.int (8))) (.int (4))) (.cons (.cmp .lt (.len (.var 1)) (.int (2))) .nil))) (.seq (.expr (.append 1 (.call "_law_leaf" (.cons (.bin .fdiv (.var 2) (.int (8))) .nil))))
  .skip) (.seq (.set 3 (.pop 1))
  (.seq (.expr (.append 1 (.tup (.cons (.ix (.lst (.cons (.str "sum") (.cons (.str "mul") (.cons (.str "sum") (.cons (.str "pair") .nil))))) (.bin .sub (.bin .mod (.var 2) (.int (8))) (.int (4)))) (.cons (.pop 1) (.cons (.var 3) .nil))))))
  .skip)))
  .skip))
  (.seq (.whl (.cmp .gt (.len (.var 1)) (.int (1))) (.seq (.set 3 (.pop 1))
  (.seq (.expr (.append 1 (.tup (.cons (.str "sum") (.cons (.pop 1) (.cons (.var 3) .nil))))))
  .skip)))
  (.seq (.ite (.cmp .eq (.var 1) (.lst .nil)) (.seq (.ret (.tup (.cons (.str "name") (.cons (.int (7)) .nil))))
  .skip) .skip)
  (.seq (.ret (.ix (.var 1) (.int (0))))
  .skip)))))
def N__law_made : List Str := ["_law_cells", "_law_pile", "_law_cell", "_law_other_here"]
def e__law_made : Ent := ⟨1, N__law_made, b__law_made, top 32, 0⟩
def e__law_places : Ent := ⟨1, N__law_places, b__law_places, top 33, 0⟩
/-- _law_turned: 0 _law_part, 1 _law_word, 2 _law_sign -/
def b__law_turned : S := (.seq (.set 2 (.ix (.var 0) (.int (0))))
  (.seq (.ite (.cmp .eq (.var 1) (.str "leaf")) (.seq (.ret (.ix (.lst (.cons (.tup (.cons (.str "name") (.cons (.int (3)) .nil))) (.cons (.tup (.cons (.str "open") (.cons (.int (9)) .nil))) (.cons (.var 0) .nil)))) (.bin .add (.bin .mul (.toInt (.cmp .eq (.len (.var 0)) (.int (3)))) (.int (2))) (.toInt (.cmp .eq (.var 0) (.tup (.cons (.str "name") (.cons (.int (3)) .nil))))))))
  .skip) .skip)
  (.seq (.ite (.and_ (.cons (.cmp .eq (.var 1) (.str "sign")) (.cons (.cmp .eq (.len (.var 0)) (.int (3))) .nil))) (.seq (.ret (.tup (.cons (.dpick [("sum", "mul"), ("mul", "pair"), ("pair", "sum")] (.var 2)) (.cons (.ix (.var 0) (.int (1))) (.cons (.ix (.var 0) (.int (2))) .nil)))))
  .skip) .skip)
  (.seq (.ite (.and_ (.cons (.cmp .eq (.var 1) (.str "pair")) (.cons (.cmp .eq (.var 2) (.str "pair")) .nil))) (.seq (.ret (.tup (.cons (.var 2) (.cons (.ix (.var 0) (.int (2))) (.cons (.ix (.var 0) (.int (1))) .nil)))))
  .skip) .skip)
  (.seq (.ite (.and_ (.cons (.cmp .ne (.var 2) (.str "sum")) (.cons (.cmp .ne (.var 2) (.str "mul")) .nil))) (.seq (.ret .non)
  .skip) .skip)
  (.seq (.ite (.cmp .eq (.var 1) (.str "swap")) (.seq (.ret (.tup (.cons (.var 2) (.cons (.ix (.var 0) (.int (2))) (.cons (.ix (.var 0) (.int (1))) .nil)))))
  .skip) .skip)
  (.seq (.ite (.and_ (.cons (.cmp .eq (.var 1) (.str "left")) (.cons (.cmp .eq (.ix (.ix (.var 0) (.int (2))) (.int (0))) (.var 2)) .nil))) (.seq (.ret (.tup (.cons (.var 2) (.cons (.tup (.cons (.var 2) (.cons (.ix (.var 0) (.int (1))) (.cons (.ix (.ix (.var 0) (.int (2))) (.int (1))) .nil)))) (.cons (.ix (.ix (.var 0) (.int (2))) (.int (2))) .nil)))))
  .skip) .skip)
  (.seq (.ite (.and_ (.cons (.cmp .eq (.var 1) (.str "right")) (.cons (.cmp .eq (.ix (.ix (.var 0) (.int (1))) (.int (0))) (.var 2)) .nil))) (.seq (.ret (.tup (.cons (.var 2) (.cons (.ix (.ix (.var 0) (.int (1))) (.int (1))) (.cons (.tup (.cons (.var 2) (.cons (.ix (.ix (.var 0) (.int (1))) (.int (2))) (.cons (.ix (.var 0) (.int (2))) .nil)))) .nil)))))
  .skip) .skip)
  (.seq (.ret .non)
  .skip)))))))))
def N__law_turned : List Str := ["_law_part", "_law_word", "_law_sign"]
def e__law_turned : Ent := ⟨2, N__law_turned, b__law_turned, top 34, 0⟩
/-- _law_moved: 0 _law_term, 1 _law_word, 2 _law_place, 3 _law_inner -/
def b__law_moved : S := (.seq (.ite (.cmp .eq (.var 2) (.tup .nil)) (.seq (.ret (.call "_law_turned" (.cons (.var 0) (.cons (.var 1) .nil))))
  .skip) .skip)
  (.seq (.ite (.or_ (.cons (.cmp .eq (.len (.var 0)) (.int (2))) (.cons (.isi (.ix (.var 2) (.int (0))) .bool) (.cons (.not_ (.isi (.ix (.var 2) (.int (0))) .int)) (.cons (.cmp .nin (.ix (.var 2) (.int (0))) (.lst (.cons (.int (0)) (.cons (.int (1)) .nil)))) .nil))))) (.seq (.ret .non)
  .skip) .skip)
  (.seq (.set 3 (.call "_law_moved" (.cons (.ix (.var 0) (.bin .add (.int (1)) (.ix (.var 2) (.int (0))))) (.cons (.var 1) (.cons (.sl (.var 2) (.int (1)) .nil) .nil)))))
  (.seq (.ite (.cmp .isn (.var 3) .non) (.seq (.ret .non)
  .skip) .skip)
  (.seq (.ite (.cmp .eq (.ix (.var 2) (.int (0))) (.int (0))) (.seq (.ret (.tup (.cons (.ix (.var 0) (.int (0))) (.cons (.var 3) (.cons (.ix (.var 0) (.int (2))) .nil)))))
  .skip) .skip)
  (.seq (.ret (.tup (.cons (.ix (.var 0) (.int (0))) (.cons (.ix (.var 0) (.int (1))) (.cons (.var 3) .nil)))))
  .skip))))))
def N__law_moved : List Str := ["_law_term", "_law_word", "_law_place", "_law_inner"]
def e__law_moved : Ent := ⟨3, N__law_moved, b__law_moved, top 35, 0⟩
/-- _law_tried: 0 _law_term, 1 _law_word, 2 _law_cell, 3 _law_places_here, 4 _law_found -/
def b__law_tried : S := (.seq (.set 3 (.call "_law_places" (.cons (.var 0) .nil)))
  (.seq (.set 4 (.call "_law_moved" (.cons (.var 0) (.cons (.var 1) (.cons (.ix (.var 3) (.bin .mod (.var 2) (.len (.var 3)))) .nil)))))
  (.seq (.ite (.cmp .isn (.var 4) .non) (.seq (.ret (.var 0))
  .skip) .skip)
  (.seq (.ret (.var 4))
  .skip))))
def N__law_tried : List Str := ["_law_term", "_law_word", "_law_cell", "_law_places_here", "_law_found"]
def e__law_tried : Ent := ⟨3, N__law_tried, b__law_tried, top 36, 0⟩
/-- _law_form: 0 _law_term, 1 _law_one, 2 _law_other_here, 3 _law_row, 4 _law_part -/
def b__law_form : S := (.seq (.ite (.cmp .eq (.len (.var 0)) (.int (2))) (.seq (.ret (.var 0))
  .skip) .skip)
  (.seq (.set 1 (.call "_law_form" (.cons (.ix (.var 0) (.int (1))) .nil)))
  (.seq (.set 2 (.call "_law_form" (.cons (.ix (.var 0) (.int (2))) .nil)))
  (.seq (.ite (.cmp .eq (.ix (.var 0) (.int (0))) (.str "pair")) (.seq (.ret (.tup (.cons (.str "pair") (.cons (.var 1) (.cons (.var 2) .nil)))))
  .skip) .skip)
  (.seq (.set 3 (.lst .nil))
  (.seq (.for_ 4 (.lst (.cons (.var 1) (.cons (.var 2) .nil))) (.seq (.ite (.cmp .eq (.ix (.var 4) (.int (0))) (.ix (.var 0) (.int (0)))) (.seq (.set 3 (.bin .add (.var 3) (.list (.sl (.var 4) (.int (1)) .nil))))
  .skip) (.seq (.expr (.append 3 (.var 4)))
  .skip))
  .skip))
  (.seq (.ret (.bin .add (.tup (.cons (.ix (.var 0) (.int (0))) .nil)) (.tuple (.sorted (.var 3)))))
  .skip)))))))
def N__law_form : List Str := ["_law_term", "_law_one", "_law_other_here", "_law_row", "_law_part"]
def e__law_form : Ent := ⟨1, N__law_form, b__law_form, top 37, 0⟩
/-- _law_other: 0 _law_term, 1 _law_script, 2 _law_cell, 3 _law_k, 4 _law_mixed, 5 _law_more -/
def b__law_other : S := (.seq (.set 2 (.call "_law_cell_at" (.cons (.var 1) (.cons (.int (1)) .nil))))
  (.seq (.ite (.cmp .eq (.bin .mod (.var 2) (.int (6))) (.int (5))) (.seq (.ret (.call "_law_made" (.cons (.lc (.bin .add (.bin .fdiv (.call "_law_cell_at" (.cons (.var 1) (.cons (.int (2)) .nil))) (.int (3))) (.bin .mul (.int (5)) (.var 3))) 3 (.range1 (.bin .mod (.bin .fdiv (.var 2) (.int (6))) (.int (5)))) .nil [1]) .nil)))
  .skip) .skip)
  (.seq (.for_ 3 (.range1 (.bin .mod (.bin .fdiv (.var 2) (.int (6))) (.int (13)))) (.seq (.set 4 (.bin .mod (.bin .pow (.bin .add (.bin .add (.bin .fdiv (.var 2) (.int (78))) (.bin .mul (.int (104729)) (.var 3))) (.int (1))) (.int (3))) (.int (2147483647))))
  (.seq (.set 0 (.call "_law_tried" (.cons (.var 0) (.cons (.ix (.lst (.cons (.str "swap") (.cons (.str "left") (.cons (.str "right") .nil)))) (.bin .mod (.var 4) (.int (3)))) (.cons (.bin .fdiv (.var 4) (.int (3))) .nil)))))
  .skip)))
  (.seq (.ite (.cmp .gt (.bin .mod (.var 2) (.int (6))) (.int (2))) (.seq (.set 5 (.call "_law_cell_at" (.cons (.var 1) (.cons (.int (2)) .nil))))
  (.seq (.set 0 (.call "_law_tried" (.cons (.var 0) (.cons (.ix (.lst (.cons (.str "leaf") (.cons (.str "sign") (.cons (.str "pair") .nil)))) (.bin .mod (.var 5) (.int (3)))) (.cons (.bin .fdiv (.var 5) (.int (3))) .nil)))))
  .skip)) .skip)
  (.seq (.ret (.var 0))
  .skip)))))
def N__law_other : List Str := ["_law_term", "_law_script", "_law_cell", "_law_k", "_law_mixed", "_law_more"]
def e__law_other : Ent := ⟨2, N__law_other, b__law_other, top 38, 0⟩
/-- law: 0 _law_script, 1 _law_cells, 2 _law_one, 3 _law_other_here, 4 _law_found, 5 _law_move, 6 _law_cell -/
def b_law : S := (.seq (.set 1 (.call "_law_cells_by" (.cons (.var 0) (.cons (.int (3)) (.cons (.int (11)) .nil)))))
  (.seq (.ite (.cmp .eq (.bin .mod (.bin .fdiv (.call "_law_cell_at" (.cons (.var 0) (.cons (.int (0)) .nil))) (.int (4))) (.int (5))) (.int (1))) (.seq (.set 1 (.lc (.bin .mul (.int (8)) (.var 6)) 6 (.var 1) .nil []))
  .skip) .skip)
  (.seq (.set 2 (.call "_law_made" (.cons (.var 1) .nil)))
  (.seq (.set 3 (.call "_law_other" (.cons (.var 2) (.cons (.var 0) .nil))))
  (.seq (.set 4 (.call "way" (.cons (.var 2) (.cons (.var 3) .nil))))
  (.seq (.ite (.cmp .isn (.var 4) .non) (.seq (.ret (.cmp .ne (.call "_law_form" (.cons (.var 2) .nil)) (.call "_law_form" (.cons (.var 3) .nil))))
  .skip) .skip)
  (.seq (.ite (.not_ (.isi (.var 4) .list)) (.seq (.ret (.bl false))
  .skip) .skip)
  (.seq (.for_ 5 (.var 4) (.seq (.ite (.or_ (.cons (.not_ (.isi (.var 5) .tuple)) (.cons (.cmp .ne (.len (.var 5)) (.int (2))) (.cons (.cmp .nin (.ix (.var 5) (.int (0))) (.lst (.cons (.str "swap") (.cons (.str "left") (.cons (.str "right") .nil))))) .nil)))) (.seq (.ret (.bl false))
  .skip) .skip)
  (.seq (.ite (.not_ (.isi (.ix (.var 5) (.int (1))) .tuple)) (.seq (.ret (.bl false))
  .skip) .skip)
  (.seq (.set 2 (.call "_law_moved" (.cons (.var 2) (.cons (.ix (.var 5) (.int (0))) (.cons (.ix (.var 5) (.int (1))) .nil)))))
  (.seq (.ite (.cmp .isn (.var 2) .non) (.seq (.ret (.bl false))
  .skip) .skip)
  .skip)))))
  (.seq (.ret (.cmp .eq (.var 2) (.var 3)))
  .skip)))))))))
def N_law : List Str := ["_law_script", "_law_cells", "_law_one", "_law_other_here", "_law_found", "_law_move", "_law_cell"]
def e_law : Ent := ⟨1, N_law, b_law, top 39, 0⟩
def N_Walker_init : List Str := ["self", "term"]
def e_Walker_init : Ent := ⟨2, N_Walker_init, .never, inClass (top 25) 0, 2⟩
def e_Walker_take : Ent := ⟨3, N_Walker_take, b_Walker_take, inClass (top 25) 1, 1⟩
def e_Walker_word_at : Ent := ⟨2, N_Walker_word_at, b_Walker_word_at, inClass (top 25) 2, 1⟩
def e_Walker_settle : Ent := ⟨2, N_Walker_settle, b_Walker_settle, inClass (top 25) 3, 1⟩
def e_Walker_comb : Ent := ⟨3, N_Walker_comb, b_Walker_comb, inClass (top 25) 4, 1⟩
def e_Walker_order : Ent := ⟨3, N_Walker_order, b_Walker_order, inClass (top 25) 5, 1⟩
def e_Walker_exchange : Ent := ⟨3, N_Walker_exchange, b_Walker_exchange, inClass (top 25) 6, 1⟩
def tab : Tab := [(("is_whole" : Str), e_is_whole), (("is_leaf" : Str), e_is_leaf), (("has_shape" : Str), e_has_shape), (("leaves_of" : Str), e_leaves_of), (("leaves" : Str), e_leaves), (("parts_of" : Str), e_parts_of), (("joined" : Str), e_joined), (("flat" : Str), e_flat), (("part_at" : Str), e_part_at), (("with_part" : Str), e_with_part), (("turned" : Str), e_turned), (("done" : Str), e_done), (("back" : Str), e_back), (("moves" : Str), e_moves), (("way" : Str), e_way), (("_law_cell_at" : Str), e__law_cell_at), (("_law_cells_by" : Str), e__law_cells_by), (("_law_leaf" : Str), e__law_leaf), (("_law_made" : Str), e__law_made), (("_law_places" : Str), e__law_places), (("_law_turned" : Str), e__law_turned), (("_law_moved" : Str), e__law_moved), (("_law_tried" : Str), e__law_tried), (("_law_form" : Str), e__law_form), (("_law_other" : Str), e__law_other), (("law" : Str), e_law), (("Walker.__init__" : Str), e_Walker_init), (("Walker.take" : Str), e_Walker_take), (("Walker.word_at" : Str), e_Walker_word_at), (("Walker.settle" : Str), e_Walker_settle), (("Walker.comb" : Str), e_Walker_comb), (("Walker.order" : Str), e_Walker_order), (("Walker.exchange" : Str), e_Walker_exchange)]
def gls : List (Str × D) := [("LEAVES", .int 40), ("GREATEST", .int 1000000000), ("OPENS", .int 10), ("BACK", .dict [(.str "swap", .str "swap"), (.str "left", .str "right"), (.str "right", .str "left")])]
def GLs : Str → Option D := fun x => gls.lookup x
set_option maxHeartbeats 8000000 in
theorem tab_ok : tabB CNS tab = true := by decide +kernel
set_option maxHeartbeats 8000000 in
theorem mods_mk {w : World} {K : PySem.W.Frag} {h : Heap} {mg : Str → Option Value} {fa : Addr} (X : K.In h) (G : h.Ns mainGlobals mg) (hfa : mg "law" = some (.ref fa))
    {f0 : Addr} {od0 an0 : Option Addr} {sl0 : Array (Option Value)} {oc0 kV0 dc0 pm0 cd0 ct0 : Value}
    {f1 : Addr} {od1 an1 : Option Addr} {sl1 : Array (Option Value)} {oc1 kV1 dc1 pm1 cd1 ct1 : Value}
    {f2 : Addr} {od2 an2 : Option Addr} {sl2 : Array (Option Value)} {oc2 kV2 dc2 pm2 cd2 ct2 : Value}
    {f3 : Addr} {od3 an3 : Option Addr} {sl3 : Array (Option Value)} {oc3 kV3 dc3 pm3 cd3 ct3 : Value}
    {f4 : Addr} {od4 an4 : Option Addr} {sl4 : Array (Option Value)} {oc4 kV4 dc4 pm4 cd4 ct4 : Value}
    {f5 : Addr} {od5 an5 : Option Addr} {sl5 : Array (Option Value)} {oc5 kV5 dc5 pm5 cd5 ct5 : Value}
    {f6 : Addr} {od6 an6 : Option Addr} {sl6 : Array (Option Value)} {oc6 kV6 dc6 pm6 cd6 ct6 : Value}
    {f7 : Addr} {od7 an7 : Option Addr} {sl7 : Array (Option Value)} {oc7 kV7 dc7 pm7 cd7 ct7 : Value}
    {f8 : Addr} {od8 an8 : Option Addr} {sl8 : Array (Option Value)} {oc8 kV8 dc8 pm8 cd8 ct8 : Value}
    {f9 : Addr} {od9 an9 : Option Addr} {sl9 : Array (Option Value)} {oc9 kV9 dc9 pm9 cd9 ct9 : Value}
    {f10 : Addr} {od10 an10 : Option Addr} {sl10 : Array (Option Value)} {oc10 kV10 dc10 pm10 cd10 ct10 : Value}
    {f11 : Addr} {od11 an11 : Option Addr} {sl11 : Array (Option Value)} {oc11 kV11 dc11 pm11 cd11 ct11 : Value}
    {f12 : Addr} {od12 an12 : Option Addr} {sl12 : Array (Option Value)} {oc12 kV12 dc12 pm12 cd12 ct12 : Value}
    {f13 : Addr} {od13 an13 : Option Addr} {sl13 : Array (Option Value)} {oc13 kV13 dc13 pm13 cd13 ct13 : Value}
    {f14 : Addr} {od14 an14 : Option Addr} {sl14 : Array (Option Value)} {oc14 kV14 dc14 pm14 cd14 ct14 : Value}
    {f15 : Addr} {od15 an15 : Option Addr} {sl15 : Array (Option Value)} {oc15 kV15 dc15 pm15 cd15 ct15 : Value}
    {f16 : Addr} {od16 an16 : Option Addr} {sl16 : Array (Option Value)} {oc16 kV16 dc16 pm16 cd16 ct16 : Value}
    {f17 : Addr} {od17 an17 : Option Addr} {sl17 : Array (Option Value)} {oc17 kV17 dc17 pm17 cd17 ct17 : Value}
    {f18 : Addr} {od18 an18 : Option Addr} {sl18 : Array (Option Value)} {oc18 kV18 dc18 pm18 cd18 ct18 : Value}
    {f19 : Addr} {od19 an19 : Option Addr} {sl19 : Array (Option Value)} {oc19 kV19 dc19 pm19 cd19 ct19 : Value}
    {f20 : Addr} {od20 an20 : Option Addr} {sl20 : Array (Option Value)} {oc20 kV20 dc20 pm20 cd20 ct20 : Value}
    {f21 : Addr} {od21 an21 : Option Addr} {sl21 : Array (Option Value)} {oc21 kV21 dc21 pm21 cd21 ct21 : Value}
    {f22 : Addr} {od22 an22 : Option Addr} {sl22 : Array (Option Value)} {oc22 kV22 dc22 pm22 cd22 ct22 : Value}
    {f23 : Addr} {od23 an23 : Option Addr} {sl23 : Array (Option Value)} {oc23 kV23 dc23 pm23 cd23 ct23 : Value}
    {f24 : Addr} {od24 an24 : Option Addr} {sl24 : Array (Option Value)} {oc24 kV24 dc24 pm24 cd24 ct24 : Value}
    {f25 : Addr} {od25 an25 : Option Addr} {sl25 : Array (Option Value)} {oc25 kV25 dc25 pm25 cd25 ct25 : Value}
    {Cw : Addr}
    {f26 : Addr} {od26 an26 : Option Addr} {sl26 : Array (Option Value)} {oc26 kV26 dc26 pm26 cd26 ct26 : Value}
    {f27 : Addr} {od27 an27 : Option Addr} {sl27 : Array (Option Value)} {oc27 kV27 dc27 pm27 cd27 ct27 : Value}
    {f28 : Addr} {od28 an28 : Option Addr} {sl28 : Array (Option Value)} {oc28 kV28 dc28 pm28 cd28 ct28 : Value}
    {f29 : Addr} {od29 an29 : Option Addr} {sl29 : Array (Option Value)} {oc29 kV29 dc29 pm29 cd29 ct29 : Value}
    {f30 : Addr} {od30 an30 : Option Addr} {sl30 : Array (Option Value)} {oc30 kV30 dc30 pm30 cd30 ct30 : Value}
    {f31 : Addr} {od31 an31 : Option Addr} {sl31 : Array (Option Value)} {oc31 kV31 dc31 pm31 cd31 ct31 : Value}
    {f32 : Addr} {od32 an32 : Option Addr} {sl32 : Array (Option Value)} {oc32 kV32 dc32 pm32 cd32 ct32 : Value}
    {t_LEAVES : Tok}
    {t_GREATEST : Tok}
    {t_OPENS : Tok}
    {d_BACK : Addr} {e_BACK_ : Array DictEntry} {n_BACK : Nat}
    {t_BACK_0 : Tok}
    {t_BACK_1 : Tok}
    {t_BACK_2 : Tok}
    {C0 : Addr}
    {C1 : Addr}
    {C2 : Addr}
    {C3 : Addr}
    (a0 : PySem.W.nsIn K mainGlobals "is_whole" = some (some (.ref f0)))
    (l0 : K.lookup f0 = some ⟨oc0, od0, .func (PySem.W.fnOf "is_whole" "is_whole" (defArgs e_is_whole.st) (defBody e_is_whole.st) (defScope e_is_whole.st) .none kV0 dc0 pm0 an0 cd0 ct0), sl0⟩)
    (c0 : PySem.W.codeIn K cd0 "is_whole" = true)
    (k0 : PySem.W.keepIn K (.ref f0) = true)
    (a1 : PySem.W.nsIn K mainGlobals "is_leaf" = some (some (.ref f1)))
    (l1 : K.lookup f1 = some ⟨oc1, od1, .func (PySem.W.fnOf "is_leaf" "is_leaf" (defArgs e_is_leaf.st) (defBody e_is_leaf.st) (defScope e_is_leaf.st) .none kV1 dc1 pm1 an1 cd1 ct1), sl1⟩)
    (c1 : PySem.W.codeIn K cd1 "is_leaf" = true)
    (k1 : PySem.W.keepIn K (.ref f1) = true)
    (a2 : PySem.W.nsIn K mainGlobals "has_shape" = some (some (.ref f2)))
    (l2 : K.lookup f2 = some ⟨oc2, od2, .func (PySem.W.fnOf "has_shape" "has_shape" (defArgs e_has_shape.st) (defBody e_has_shape.st) (defScope e_has_shape.st) .none kV2 dc2 pm2 an2 cd2 ct2), sl2⟩)
    (c2 : PySem.W.codeIn K cd2 "has_shape" = true)
    (k2 : PySem.W.keepIn K (.ref f2) = true)
    (a3 : PySem.W.nsIn K mainGlobals "leaves_of" = some (some (.ref f3)))
    (l3 : K.lookup f3 = some ⟨oc3, od3, .func (PySem.W.fnOf "leaves_of" "leaves_of" (defArgs e_leaves_of.st) (defBody e_leaves_of.st) (defScope e_leaves_of.st) .none kV3 dc3 pm3 an3 cd3 ct3), sl3⟩)
    (c3 : PySem.W.codeIn K cd3 "leaves_of" = true)
    (k3 : PySem.W.keepIn K (.ref f3) = true)
    (a4 : PySem.W.nsIn K mainGlobals "leaves" = some (some (.ref f4)))
    (l4 : K.lookup f4 = some ⟨oc4, od4, .func (PySem.W.fnOf "leaves" "leaves" (defArgs e_leaves.st) (defBody e_leaves.st) (defScope e_leaves.st) .none kV4 dc4 pm4 an4 cd4 ct4), sl4⟩)
    (c4 : PySem.W.codeIn K cd4 "leaves" = true)
    (k4 : PySem.W.keepIn K (.ref f4) = true)
    (a5 : PySem.W.nsIn K mainGlobals "parts_of" = some (some (.ref f5)))
    (l5 : K.lookup f5 = some ⟨oc5, od5, .func (PySem.W.fnOf "parts_of" "parts_of" (defArgs e_parts_of.st) (defBody e_parts_of.st) (defScope e_parts_of.st) .none kV5 dc5 pm5 an5 cd5 ct5), sl5⟩)
    (c5 : PySem.W.codeIn K cd5 "parts_of" = true)
    (k5 : PySem.W.keepIn K (.ref f5) = true)
    (a6 : PySem.W.nsIn K mainGlobals "joined" = some (some (.ref f6)))
    (l6 : K.lookup f6 = some ⟨oc6, od6, .func (PySem.W.fnOf "joined" "joined" (defArgs e_joined.st) (defBody e_joined.st) (defScope e_joined.st) .none kV6 dc6 pm6 an6 cd6 ct6), sl6⟩)
    (c6 : PySem.W.codeIn K cd6 "joined" = true)
    (k6 : PySem.W.keepIn K (.ref f6) = true)
    (a7 : PySem.W.nsIn K mainGlobals "flat" = some (some (.ref f7)))
    (l7 : K.lookup f7 = some ⟨oc7, od7, .func (PySem.W.fnOf "flat" "flat" (defArgs e_flat.st) (defBody e_flat.st) (defScope e_flat.st) .none kV7 dc7 pm7 an7 cd7 ct7), sl7⟩)
    (c7 : PySem.W.codeIn K cd7 "flat" = true)
    (k7 : PySem.W.keepIn K (.ref f7) = true)
    (a8 : PySem.W.nsIn K mainGlobals "part_at" = some (some (.ref f8)))
    (l8 : K.lookup f8 = some ⟨oc8, od8, .func (PySem.W.fnOf "part_at" "part_at" (defArgs e_part_at.st) (defBody e_part_at.st) (defScope e_part_at.st) .none kV8 dc8 pm8 an8 cd8 ct8), sl8⟩)
    (c8 : PySem.W.codeIn K cd8 "part_at" = true)
    (k8 : PySem.W.keepIn K (.ref f8) = true)
    (a9 : PySem.W.nsIn K mainGlobals "with_part" = some (some (.ref f9)))
    (l9 : K.lookup f9 = some ⟨oc9, od9, .func (PySem.W.fnOf "with_part" "with_part" (defArgs e_with_part.st) (defBody e_with_part.st) (defScope e_with_part.st) .none kV9 dc9 pm9 an9 cd9 ct9), sl9⟩)
    (c9 : PySem.W.codeIn K cd9 "with_part" = true)
    (k9 : PySem.W.keepIn K (.ref f9) = true)
    (a10 : PySem.W.nsIn K mainGlobals "turned" = some (some (.ref f10)))
    (l10 : K.lookup f10 = some ⟨oc10, od10, .func (PySem.W.fnOf "turned" "turned" (defArgs e_turned.st) (defBody e_turned.st) (defScope e_turned.st) .none kV10 dc10 pm10 an10 cd10 ct10), sl10⟩)
    (c10 : PySem.W.codeIn K cd10 "turned" = true)
    (k10 : PySem.W.keepIn K (.ref f10) = true)
    (a11 : PySem.W.nsIn K mainGlobals "done" = some (some (.ref f11)))
    (l11 : K.lookup f11 = some ⟨oc11, od11, .func (PySem.W.fnOf "done" "done" (defArgs e_done.st) (defBody e_done.st) (defScope e_done.st) .none kV11 dc11 pm11 an11 cd11 ct11), sl11⟩)
    (c11 : PySem.W.codeIn K cd11 "done" = true)
    (k11 : PySem.W.keepIn K (.ref f11) = true)
    (a12 : PySem.W.nsIn K mainGlobals "back" = some (some (.ref f12)))
    (l12 : K.lookup f12 = some ⟨oc12, od12, .func (PySem.W.fnOf "back" "back" (defArgs e_back.st) (defBody e_back.st) (defScope e_back.st) .none kV12 dc12 pm12 an12 cd12 ct12), sl12⟩)
    (c12 : PySem.W.codeIn K cd12 "back" = true)
    (k12 : PySem.W.keepIn K (.ref f12) = true)
    (a13 : PySem.W.nsIn K mainGlobals "moves" = some (some (.ref f13)))
    (l13 : K.lookup f13 = some ⟨oc13, od13, .func (PySem.W.fnOf "moves" "moves" (defArgs e_moves.st) (defBody e_moves.st) (defScope e_moves.st) .none kV13 dc13 pm13 an13 cd13 ct13), sl13⟩)
    (c13 : PySem.W.codeIn K cd13 "moves" = true)
    (k13 : PySem.W.keepIn K (.ref f13) = true)
    (a14 : PySem.W.nsIn K mainGlobals "way" = some (some (.ref f14)))
    (l14 : K.lookup f14 = some ⟨oc14, od14, .func (PySem.W.fnOf "way" "way" (defArgs e_way.st) (defBody e_way.st) (defScope e_way.st) .none kV14 dc14 pm14 an14 cd14 ct14), sl14⟩)
    (c14 : PySem.W.codeIn K cd14 "way" = true)
    (k14 : PySem.W.keepIn K (.ref f14) = true)
    (a15 : PySem.W.nsIn K mainGlobals "_law_cell_at" = some (some (.ref f15)))
    (l15 : K.lookup f15 = some ⟨oc15, od15, .func (PySem.W.fnOf "_law_cell_at" "_law_cell_at" (defArgs e__law_cell_at.st) (defBody e__law_cell_at.st) (defScope e__law_cell_at.st) .none kV15 dc15 pm15 an15 cd15 ct15), sl15⟩)
    (c15 : PySem.W.codeIn K cd15 "_law_cell_at" = true)
    (k15 : PySem.W.keepIn K (.ref f15) = true)
    (a16 : PySem.W.nsIn K mainGlobals "_law_cells_by" = some (some (.ref f16)))
    (l16 : K.lookup f16 = some ⟨oc16, od16, .func (PySem.W.fnOf "_law_cells_by" "_law_cells_by" (defArgs e__law_cells_by.st) (defBody e__law_cells_by.st) (defScope e__law_cells_by.st) .none kV16 dc16 pm16 an16 cd16 ct16), sl16⟩)
    (c16 : PySem.W.codeIn K cd16 "_law_cells_by" = true)
    (k16 : PySem.W.keepIn K (.ref f16) = true)
    (a17 : PySem.W.nsIn K mainGlobals "_law_leaf" = some (some (.ref f17)))
    (l17 : K.lookup f17 = some ⟨oc17, od17, .func (PySem.W.fnOf "_law_leaf" "_law_leaf" (defArgs e__law_leaf.st) (defBody e__law_leaf.st) (defScope e__law_leaf.st) .none kV17 dc17 pm17 an17 cd17 ct17), sl17⟩)
    (c17 : PySem.W.codeIn K cd17 "_law_leaf" = true)
    (k17 : PySem.W.keepIn K (.ref f17) = true)
    (a18 : PySem.W.nsIn K mainGlobals "_law_made" = some (some (.ref f18)))
    (l18 : K.lookup f18 = some ⟨oc18, od18, .func (PySem.W.fnOf "_law_made" "_law_made" (defArgs e__law_made.st) (defBody e__law_made.st) (defScope e__law_made.st) .none kV18 dc18 pm18 an18 cd18 ct18), sl18⟩)
    (c18 : PySem.W.codeIn K cd18 "_law_made" = true)
    (k18 : PySem.W.keepIn K (.ref f18) = true)
    (a19 : PySem.W.nsIn K mainGlobals "_law_places" = some (some (.ref f19)))
    (l19 : K.lookup f19 = some ⟨oc19, od19, .func (PySem.W.fnOf "_law_places" "_law_places" (defArgs e__law_places.st) (defBody e__law_places.st) (defScope e__law_places.st) .none kV19 dc19 pm19 an19 cd19 ct19), sl19⟩)
    (c19 : PySem.W.codeIn K cd19 "_law_places" = true)
    (k19 : PySem.W.keepIn K (.ref f19) = true)
    (a20 : PySem.W.nsIn K mainGlobals "_law_turned" = some (some (.ref f20)))
    (l20 : K.lookup f20 = some ⟨oc20, od20, .func (PySem.W.fnOf "_law_turned" "_law_turned" (defArgs e__law_turned.st) (defBody e__law_turned.st) (defScope e__law_turned.st) .none kV20 dc20 pm20 an20 cd20 ct20), sl20⟩)
    (c20 : PySem.W.codeIn K cd20 "_law_turned" = true)
    (k20 : PySem.W.keepIn K (.ref f20) = true)
    (a21 : PySem.W.nsIn K mainGlobals "_law_moved" = some (some (.ref f21)))
    (l21 : K.lookup f21 = some ⟨oc21, od21, .func (PySem.W.fnOf "_law_moved" "_law_moved" (defArgs e__law_moved.st) (defBody e__law_moved.st) (defScope e__law_moved.st) .none kV21 dc21 pm21 an21 cd21 ct21), sl21⟩)
    (c21 : PySem.W.codeIn K cd21 "_law_moved" = true)
    (k21 : PySem.W.keepIn K (.ref f21) = true)
    (a22 : PySem.W.nsIn K mainGlobals "_law_tried" = some (some (.ref f22)))
    (l22 : K.lookup f22 = some ⟨oc22, od22, .func (PySem.W.fnOf "_law_tried" "_law_tried" (defArgs e__law_tried.st) (defBody e__law_tried.st) (defScope e__law_tried.st) .none kV22 dc22 pm22 an22 cd22 ct22), sl22⟩)
    (c22 : PySem.W.codeIn K cd22 "_law_tried" = true)
    (k22 : PySem.W.keepIn K (.ref f22) = true)
    (a23 : PySem.W.nsIn K mainGlobals "_law_form" = some (some (.ref f23)))
    (l23 : K.lookup f23 = some ⟨oc23, od23, .func (PySem.W.fnOf "_law_form" "_law_form" (defArgs e__law_form.st) (defBody e__law_form.st) (defScope e__law_form.st) .none kV23 dc23 pm23 an23 cd23 ct23), sl23⟩)
    (c23 : PySem.W.codeIn K cd23 "_law_form" = true)
    (k23 : PySem.W.keepIn K (.ref f23) = true)
    (a24 : PySem.W.nsIn K mainGlobals "_law_other" = some (some (.ref f24)))
    (l24 : K.lookup f24 = some ⟨oc24, od24, .func (PySem.W.fnOf "_law_other" "_law_other" (defArgs e__law_other.st) (defBody e__law_other.st) (defScope e__law_other.st) .none kV24 dc24 pm24 an24 cd24 ct24), sl24⟩)
    (c24 : PySem.W.codeIn K cd24 "_law_other" = true)
    (k24 : PySem.W.keepIn K (.ref f24) = true)
    (a25 : PySem.W.nsIn K mainGlobals "law" = some (some (.ref f25)))
    (l25 : K.lookup f25 = some ⟨oc25, od25, .func (PySem.W.fnOf "law" "law" (defArgs e_law.st) (defBody e_law.st) (defScope e_law.st) .none kV25 dc25 pm25 an25 cd25 ct25), sl25⟩)
    (c25 : PySem.W.codeIn K cd25 "law" = true)
    (k25 : PySem.W.keepIn K (.ref f25) = true)
    (w_a : PySem.W.nsIn K mainGlobals "Walker" = some (some (.ref Cw)))
    (w_pg : PySem.W.plainGet K Cw Str.empty = true)
    (w_hd : PySem.W.hasDictIn K Cw = true)
    (w_po : PySem.W.plainOver K Cw = true)
    (w_sa : PySem.W.findIn K (.ref Cw) "__setattr__" = some (some (.builtin "object.__setattr__")))
    (w_mk : PySem.W.makesIn K Cw = true)
    (w_kc : PySem.W.keepIn K (.ref Cw) = true)
    (w_n1 : PySem.W.findIn K (.ref Cw) "term" = some none)
    (w_n2 : PySem.W.findIn K (.ref Cw) "taken" = some none)
    (a26 : PySem.W.findIn K (.ref Cw) "__init__" = some (some (.ref f26)))
    (i26 : PySem.W.isFn K (.ref f26) = true)
    (l26 : K.lookup f26 = some ⟨oc26, od26, .func (PySem.W.fnOf "__init__" "Walker.__init__" (defArgs e_Walker_init.st) (defBody e_Walker_init.st) (defScope e_Walker_init.st) .none kV26 dc26 pm26 an26 cd26 ct26), sl26⟩)
    (c26 : PySem.W.codeIn K cd26 "Walker.__init__" = true)
    (k26 : PySem.W.keepIn K (.ref f26) = true)
    (a27 : PySem.W.findIn K (.ref Cw) "take" = some (some (.ref f27)))
    (i27 : PySem.W.isFn K (.ref f27) = true)
    (l27 : K.lookup f27 = some ⟨oc27, od27, .func (PySem.W.fnOf "take" "Walker.take" (defArgs e_Walker_take.st) (defBody e_Walker_take.st) (defScope e_Walker_take.st) .none kV27 dc27 pm27 an27 cd27 ct27), sl27⟩)
    (c27 : PySem.W.codeIn K cd27 "Walker.take" = true)
    (k27 : PySem.W.keepIn K (.ref f27) = true)
    (a28 : PySem.W.findIn K (.ref Cw) "word_at" = some (some (.ref f28)))
    (i28 : PySem.W.isFn K (.ref f28) = true)
    (l28 : K.lookup f28 = some ⟨oc28, od28, .func (PySem.W.fnOf "word_at" "Walker.word_at" (defArgs e_Walker_word_at.st) (defBody e_Walker_word_at.st) (defScope e_Walker_word_at.st) .none kV28 dc28 pm28 an28 cd28 ct28), sl28⟩)
    (c28 : PySem.W.codeIn K cd28 "Walker.word_at" = true)
    (k28 : PySem.W.keepIn K (.ref f28) = true)
    (a29 : PySem.W.findIn K (.ref Cw) "settle" = some (some (.ref f29)))
    (i29 : PySem.W.isFn K (.ref f29) = true)
    (l29 : K.lookup f29 = some ⟨oc29, od29, .func (PySem.W.fnOf "settle" "Walker.settle" (defArgs e_Walker_settle.st) (defBody e_Walker_settle.st) (defScope e_Walker_settle.st) .none kV29 dc29 pm29 an29 cd29 ct29), sl29⟩)
    (c29 : PySem.W.codeIn K cd29 "Walker.settle" = true)
    (k29 : PySem.W.keepIn K (.ref f29) = true)
    (a30 : PySem.W.findIn K (.ref Cw) "comb" = some (some (.ref f30)))
    (i30 : PySem.W.isFn K (.ref f30) = true)
    (l30 : K.lookup f30 = some ⟨oc30, od30, .func (PySem.W.fnOf "comb" "Walker.comb" (defArgs e_Walker_comb.st) (defBody e_Walker_comb.st) (defScope e_Walker_comb.st) .none kV30 dc30 pm30 an30 cd30 ct30), sl30⟩)
    (c30 : PySem.W.codeIn K cd30 "Walker.comb" = true)
    (k30 : PySem.W.keepIn K (.ref f30) = true)
    (a31 : PySem.W.findIn K (.ref Cw) "order" = some (some (.ref f31)))
    (i31 : PySem.W.isFn K (.ref f31) = true)
    (l31 : K.lookup f31 = some ⟨oc31, od31, .func (PySem.W.fnOf "order" "Walker.order" (defArgs e_Walker_order.st) (defBody e_Walker_order.st) (defScope e_Walker_order.st) .none kV31 dc31 pm31 an31 cd31 ct31), sl31⟩)
    (c31 : PySem.W.codeIn K cd31 "Walker.order" = true)
    (k31 : PySem.W.keepIn K (.ref f31) = true)
    (a32 : PySem.W.findIn K (.ref Cw) "exchange" = some (some (.ref f32)))
    (i32 : PySem.W.isFn K (.ref f32) = true)
    (l32 : K.lookup f32 = some ⟨oc32, od32, .func (PySem.W.fnOf "exchange" "Walker.exchange" (defArgs e_Walker_exchange.st) (defBody e_Walker_exchange.st) (defScope e_Walker_exchange.st) .none kV32 dc32 pm32 an32 cd32 ct32), sl32⟩)
    (c32 : PySem.W.codeIn K cd32 "Walker.exchange" = true)
    (k32 : PySem.W.keepIn K (.ref f32) = true)
    (z_ValueError : PySem.W.nsIn K mainGlobals "ValueError" = some none)
    (z_bool : PySem.W.nsIn K mainGlobals "bool" = some none)
    (z_dict : PySem.W.nsIn K mainGlobals "dict" = some none)
    (z_int : PySem.W.nsIn K mainGlobals "int" = some none)
    (z_isinstance : PySem.W.nsIn K mainGlobals "isinstance" = some none)
    (z_len : PySem.W.nsIn K mainGlobals "len" = some none)
    (z_list : PySem.W.nsIn K mainGlobals "list" = some none)
    (z_max : PySem.W.nsIn K mainGlobals "max" = some none)
    (z_min : PySem.W.nsIn K mainGlobals "min" = some none)
    (z_range : PySem.W.nsIn K mainGlobals "range" = some none)
    (z_reversed : PySem.W.nsIn K mainGlobals "reversed" = some none)
    (z_set : PySem.W.nsIn K mainGlobals "set" = some none)
    (z_sorted : PySem.W.nsIn K mainGlobals "sorted" = some none)
    (z_str : PySem.W.nsIn K mainGlobals "str" = some none)
    (z_tuple : PySem.W.nsIn K mainGlobals "tuple" = some none)
    (z_zip : PySem.W.nsIn K mainGlobals "zip" = some none)
    (g_LEAVES : PySem.W.nsIn K mainGlobals "LEAVES" = some (some (.int 40 t_LEAVES)))
    (g_GREATEST : PySem.W.nsIn K mainGlobals "GREATEST" = some (some (.int 1000000000 t_GREATEST)))
    (g_OPENS : PySem.W.nsIn K mainGlobals "OPENS" = some (some (.int 10 t_OPENS)))
    (d0_BACK : PySem.W.nsIn K mainGlobals "BACK" = some (some (.ref d_BACK)))
    (d1_BACK : K.lookup d_BACK = some ⟨.type "dict", none, .dict e_BACK_ n_BACK, #[]⟩)
    (d2_BACK : PySem.W.KeysLit w.params e_BACK_.toList)
    (d3_BACK : (d_BACK == sysModules) = false)
    (d4_BACK_0 : PySem.W.nsIn K d_BACK "swap" = some (some (.str "swap" t_BACK_0)))
    (d4_BACK_1 : PySem.W.nsIn K d_BACK "left" = some (some (.str "right" t_BACK_1)))
    (d4_BACK_2 : PySem.W.nsIn K d_BACK "right" = some (some (.str "left" t_BACK_2)))
    (x_hn : PySem.W.specialIn K (.builtin "object.__class__") "__get__" = some (some (.builtin "getset_descriptor.__get__")))
    (x_ht : PySem.W.takesIn K (.builtin "object.__class__") = some true)
    (x0_0 : PySem.W.nsIn K mainGlobals "TermError" = some (some (.ref C0)))
    (x1_0 : PySem.W.excIn K C0 [.type "ValueError", .type "Exception", .type "BaseException", .type "object"] "ValueError.__new__" = true)
    (x2_0 : PySem.W.keepIn K (.ref C0) = true)
    (x3_0 : PySem.W.subIn K (.ref C0) (.type "BaseException") = some true)
    (x4_0 : PySem.W.typeIn K (.ref C0) = some (.type "type"))
    (x5_0 : PySem.W.findIn K (.ref C0) "__getattribute__" = some (some (.builtin "BaseException.__getattribute__")))
    (x6_0 : PySem.W.findIn K (.ref C0) "__getattr__" = some none)
    (x7_0 : PySem.W.hasDictIn K C0 = true)
    (x8_0 : PySem.W.findIn K (.ref C0) "__class__" = some (some (.builtin "object.__class__")))
    (x9_0 : PySem.W.mroIn K C0 (.type "object") = some true)
    (xk_0 : PySem.W.subIn K (.ref C0) (.type "ValueError") = some true)
    (x0_1 : PySem.W.nsIn K mainGlobals "NoTerm" = some (some (.ref C1)))
    (x1_1 : PySem.W.excIn K C1 [.type "ValueError", .type "Exception", .type "BaseException", .type "object"] "ValueError.__new__" = true)
    (x2_1 : PySem.W.keepIn K (.ref C1) = true)
    (x3_1 : PySem.W.subIn K (.ref C1) (.type "BaseException") = some true)
    (x4_1 : PySem.W.typeIn K (.ref C1) = some (.type "type"))
    (x5_1 : PySem.W.findIn K (.ref C1) "__getattribute__" = some (some (.builtin "BaseException.__getattribute__")))
    (x6_1 : PySem.W.findIn K (.ref C1) "__getattr__" = some none)
    (x7_1 : PySem.W.hasDictIn K C1 = true)
    (x8_1 : PySem.W.findIn K (.ref C1) "__class__" = some (some (.builtin "object.__class__")))
    (x9_1 : PySem.W.mroIn K C1 (.type "object") = some true)
    (xk_1 : PySem.W.subIn K (.ref C1) (.type "ValueError") = some true)
    (x0_2 : PySem.W.nsIn K mainGlobals "TooGreat" = some (some (.ref C2)))
    (x1_2 : PySem.W.excIn K C2 [.type "ValueError", .type "Exception", .type "BaseException", .type "object"] "ValueError.__new__" = true)
    (x2_2 : PySem.W.keepIn K (.ref C2) = true)
    (x3_2 : PySem.W.subIn K (.ref C2) (.type "BaseException") = some true)
    (x4_2 : PySem.W.typeIn K (.ref C2) = some (.type "type"))
    (x5_2 : PySem.W.findIn K (.ref C2) "__getattribute__" = some (some (.builtin "BaseException.__getattribute__")))
    (x6_2 : PySem.W.findIn K (.ref C2) "__getattr__" = some none)
    (x7_2 : PySem.W.hasDictIn K C2 = true)
    (x8_2 : PySem.W.findIn K (.ref C2) "__class__" = some (some (.builtin "object.__class__")))
    (x9_2 : PySem.W.mroIn K C2 (.type "object") = some true)
    (xk_2 : PySem.W.subIn K (.ref C2) (.type "ValueError") = some true)
    (x0_3 : PySem.W.nsIn K mainGlobals "NoMove" = some (some (.ref C3)))
    (x1_3 : PySem.W.excIn K C3 [.type "ValueError", .type "Exception", .type "BaseException", .type "object"] "ValueError.__new__" = true)
    (x2_3 : PySem.W.keepIn K (.ref C3) = true)
    (x3_3 : PySem.W.subIn K (.ref C3) (.type "BaseException") = some true)
    (x4_3 : PySem.W.typeIn K (.ref C3) = some (.type "type"))
    (x5_3 : PySem.W.findIn K (.ref C3) "__getattribute__" = some (some (.builtin "BaseException.__getattribute__")))
    (x6_3 : PySem.W.findIn K (.ref C3) "__getattr__" = some none)
    (x7_3 : PySem.W.hasDictIn K C3 = true)
    (x8_3 : PySem.W.findIn K (.ref C3) "__class__" = some (some (.builtin "object.__class__")))
    (x9_3 : PySem.W.mroIn K C3 (.type "object") = some true)
    (xk_3 : PySem.W.subIn K (.ref C3) (.type "ValueError") = some true)
    (y_0_0 : PySem.W.subIn K (.ref C0) (.ref C0) = some true)
    (y_0_1 : PySem.W.subIn K (.ref C0) (.ref C1) = some false)
    (y_0_2 : PySem.W.subIn K (.ref C0) (.ref C2) = some false)
    (y_0_3 : PySem.W.subIn K (.ref C0) (.ref C3) = some false)
    (y_1_0 : PySem.W.subIn K (.ref C1) (.ref C0) = some true)
    (y_1_1 : PySem.W.subIn K (.ref C1) (.ref C1) = some true)
    (y_1_2 : PySem.W.subIn K (.ref C1) (.ref C2) = some false)
    (y_1_3 : PySem.W.subIn K (.ref C1) (.ref C3) = some false)
    (y_2_0 : PySem.W.subIn K (.ref C2) (.ref C0) = some true)
    (y_2_1 : PySem.W.subIn K (.ref C2) (.ref C1) = some false)
    (y_2_2 : PySem.W.subIn K (.ref C2) (.ref C2) = some true)
    (y_2_3 : PySem.W.subIn K (.ref C2) (.ref C3) = some false)
    (y_3_0 : PySem.W.subIn K (.ref C3) (.ref C0) = some true)
    (y_3_1 : PySem.W.subIn K (.ref C3) (.ref C1) = some false)
    (y_3_2 : PySem.W.subIn K (.ref C3) (.ref C2) = some false)
    (y_3_3 : PySem.W.subIn K (.ref C3) (.ref C3) = some true) :
    ∃ (cf : Cfg) (cls : Cls), cls.on = CNS ∧ Mods w K mg tab GLs cls ∧ ∃ fd, FnAt K mg "law" e_law fa fd ∧ (∀ (s : Shared) (u : Value), BindsTo s fd ⟨[u], []⟩ [("_law_script", u)]) := by
  letI cf : Cfg := ⟨Cw⟩
  have A0 : FnAt K mg "is_whole" e_is_whole f0 _ := ⟨fun_mk (st := e_is_whole.st) l0 c0 k0, PySem.W.mg_of X G a0, (fun_mk (st := e_is_whole.st) l0 c0 k0).binds (ps := ["thing"]) fun _ _ _ _ _ _ us hl => match us, hl with | [_], _ => rfl, rfl⟩
  have A1 : FnAt K mg "is_leaf" e_is_leaf f1 _ := ⟨fun_mk (st := e_is_leaf.st) l1 c1 k1, PySem.W.mg_of X G a1, (fun_mk (st := e_is_leaf.st) l1 c1 k1).binds (ps := ["term"]) fun _ _ _ _ _ _ us hl => match us, hl with | [_], _ => rfl, rfl⟩
  have A2 : FnAt K mg "has_shape" e_has_shape f2 _ := ⟨fun_mk (st := e_has_shape.st) l2 c2 k2, PySem.W.mg_of X G a2, (fun_mk (st := e_has_shape.st) l2 c2 k2).binds (ps := ["thing"]) fun _ _ _ _ _ _ us hl => match us, hl with | [_], _ => rfl, rfl⟩
  have A3 : FnAt K mg "leaves_of" e_leaves_of f3 _ := ⟨fun_mk (st := e_leaves_of.st) l3 c3 k3, PySem.W.mg_of X G a3, (fun_mk (st := e_leaves_of.st) l3 c3 k3).binds (ps := ["term"]) fun _ _ _ _ _ _ us hl => match us, hl with | [_], _ => rfl, rfl⟩
  have A4 : FnAt K mg "leaves" e_leaves f4 _ := ⟨fun_mk (st := e_leaves.st) l4 c4 k4, PySem.W.mg_of X G a4, (fun_mk (st := e_leaves.st) l4 c4 k4).binds (ps := ["term"]) fun _ _ _ _ _ _ us hl => match us, hl with | [_], _ => rfl, rfl⟩
  have A5 : FnAt K mg "parts_of" e_parts_of f5 _ := ⟨fun_mk (st := e_parts_of.st) l5 c5 k5, PySem.W.mg_of X G a5, (fun_mk (st := e_parts_of.st) l5 c5 k5).binds (ps := ["one", "sign"]) fun _ _ _ _ _ _ us hl => match us, hl with | [_, _], _ => rfl, rfl⟩
  have A6 : FnAt K mg "joined" e_joined f6 _ := ⟨fun_mk (st := e_joined.st) l6 c6 k6, PySem.W.mg_of X G a6, (fun_mk (st := e_joined.st) l6 c6 k6).binds (ps := ["sign", "ones"]) fun _ _ _ _ _ _ us hl => match us, hl with | [_, _], _ => rfl, rfl⟩
  have A7 : FnAt K mg "flat" e_flat f7 _ := ⟨fun_mk (st := e_flat.st) l7 c7 k7, PySem.W.mg_of X G a7, (fun_mk (st := e_flat.st) l7 c7 k7).binds (ps := ["term"]) fun _ _ _ _ _ _ us hl => match us, hl with | [_], _ => rfl, rfl⟩
  have A8 : FnAt K mg "part_at" e_part_at f8 _ := ⟨fun_mk (st := e_part_at.st) l8 c8 k8, PySem.W.mg_of X G a8, (fun_mk (st := e_part_at.st) l8 c8 k8).binds (ps := ["term", "place"]) fun _ _ _ _ _ _ us hl => match us, hl with | [_, _], _ => rfl, rfl⟩
  have A9 : FnAt K mg "with_part" e_with_part f9 _ := ⟨fun_mk (st := e_with_part.st) l9 c9 k9, PySem.W.mg_of X G a9, (fun_mk (st := e_with_part.st) l9 c9 k9).binds (ps := ["term", "place", "part"]) fun _ _ _ _ _ _ us hl => match us, hl with | [_, _, _], _ => rfl, rfl⟩
  have A10 : FnAt K mg "turned" e_turned f10 _ := ⟨fun_mk (st := e_turned.st) l10 c10 k10, PySem.W.mg_of X G a10, (fun_mk (st := e_turned.st) l10 c10 k10).binds (ps := ["part", "word"]) fun _ _ _ _ _ _ us hl => match us, hl with | [_, _], _ => rfl, rfl⟩
  have A11 : FnAt K mg "done" e_done f11 _ := ⟨fun_mk (st := e_done.st) l11 c11 k11, PySem.W.mg_of X G a11, (fun_mk (st := e_done.st) l11 c11 k11).binds (ps := ["term", "move"]) fun _ _ _ _ _ _ us hl => match us, hl with | [_, _], _ => rfl, rfl⟩
  have A12 : FnAt K mg "back" e_back f12 _ := ⟨fun_mk (st := e_back.st) l12 c12 k12, PySem.W.mg_of X G a12, (fun_mk (st := e_back.st) l12 c12 k12).binds (ps := ["move"]) fun _ _ _ _ _ _ us hl => match us, hl with | [_], _ => rfl, rfl⟩
  have A13 : FnAt K mg "moves" e_moves f13 _ := ⟨fun_mk (st := e_moves.st) l13 c13 k13, PySem.W.mg_of X G a13, (fun_mk (st := e_moves.st) l13 c13 k13).binds (ps := ["term"]) fun _ _ _ _ _ _ us hl => match us, hl with | [_], _ => rfl, rfl⟩
  have A14 : FnAt K mg "way" e_way f14 _ := ⟨fun_mk (st := e_way.st) l14 c14 k14, PySem.W.mg_of X G a14, (fun_mk (st := e_way.st) l14 c14 k14).binds (ps := ["one", "other"]) fun _ _ _ _ _ _ us hl => match us, hl with | [_, _], _ => rfl, rfl⟩
  have A15 : FnAt K mg "_law_cell_at" e__law_cell_at f15 _ := ⟨fun_mk (st := e__law_cell_at.st) l15 c15 k15, PySem.W.mg_of X G a15, (fun_mk (st := e__law_cell_at.st) l15 c15 k15).binds (ps := ["_law_script", "_law_k"]) fun _ _ _ _ _ _ us hl => match us, hl with | [_, _], _ => rfl, rfl⟩
  have A16 : FnAt K mg "_law_cells_by" e__law_cells_by f16 _ := ⟨fun_mk (st := e__law_cells_by.st) l16 c16 k16, PySem.W.mg_of X G a16, (fun_mk (st := e__law_cells_by.st) l16 c16 k16).binds (ps := ["_law_script", "_law_first", "_law_most"]) fun _ _ _ _ _ _ us hl => match us, hl with | [_, _, _], _ => rfl, rfl⟩
  have A17 : FnAt K mg "_law_leaf" e__law_leaf f17 _ := ⟨fun_mk (st := e__law_leaf.st) l17 c17 k17, PySem.W.mg_of X G a17, (fun_mk (st := e__law_leaf.st) l17 c17 k17).binds (ps := ["_law_cell"]) fun _ _ _ _ _ _ us hl => match us, hl with | [_], _ => rfl, rfl⟩
  have A18 : FnAt K mg "_law_made" e__law_made f18 _ := ⟨fun_mk (st := e__law_made.st) l18 c18 k18, PySem.W.mg_of X G a18, (fun_mk (st := e__law_made.st) l18 c18 k18).binds (ps := ["_law_cells"]) fun _ _ _ _ _ _ us hl => match us, hl with | [_], _ => rfl, rfl⟩
  have A19 : FnAt K mg "_law_places" e__law_places f19 _ := ⟨fun_mk (st := e__law_places.st) l19 c19 k19, PySem.W.mg_of X G a19, (fun_mk (st := e__law_places.st) l19 c19 k19).binds (ps := ["_law_term"]) fun _ _ _ _ _ _ us hl => match us, hl with | [_], _ => rfl, rfl⟩
  have A20 : FnAt K mg "_law_turned" e__law_turned f20 _ := ⟨fun_mk (st := e__law_turned.st) l20 c20 k20, PySem.W.mg_of X G a20, (fun_mk (st := e__law_turned.st) l20 c20 k20).binds (ps := ["_law_part", "_law_word"]) fun _ _ _ _ _ _ us hl => match us, hl with | [_, _], _ => rfl, rfl⟩
  have A21 : FnAt K mg "_law_moved" e__law_moved f21 _ := ⟨fun_mk (st := e__law_moved.st) l21 c21 k21, PySem.W.mg_of X G a21, (fun_mk (st := e__law_moved.st) l21 c21 k21).binds (ps := ["_law_term", "_law_word", "_law_place"]) fun _ _ _ _ _ _ us hl => match us, hl with | [_, _, _], _ => rfl, rfl⟩
  have A22 : FnAt K mg "_law_tried" e__law_tried f22 _ := ⟨fun_mk (st := e__law_tried.st) l22 c22 k22, PySem.W.mg_of X G a22, (fun_mk (st := e__law_tried.st) l22 c22 k22).binds (ps := ["_law_term", "_law_word", "_law_cell"]) fun _ _ _ _ _ _ us hl => match us, hl with | [_, _, _], _ => rfl, rfl⟩
  have A23 : FnAt K mg "_law_form" e__law_form f23 _ := ⟨fun_mk (st := e__law_form.st) l23 c23 k23, PySem.W.mg_of X G a23, (fun_mk (st := e__law_form.st) l23 c23 k23).binds (ps := ["_law_term"]) fun _ _ _ _ _ _ us hl => match us, hl with | [_], _ => rfl, rfl⟩
  have A24 : FnAt K mg "_law_other" e__law_other f24 _ := ⟨fun_mk (st := e__law_other.st) l24 c24 k24, PySem.W.mg_of X G a24, (fun_mk (st := e__law_other.st) l24 c24 k24).binds (ps := ["_law_term", "_law_script"]) fun _ _ _ _ _ _ us hl => match us, hl with | [_, _], _ => rfl, rfl⟩
  have A25 : FnAt K mg "law" e_law f25 _ := ⟨fun_mk (st := e_law.st) l25 c25 k25, PySem.W.mg_of X G a25, (fun_mk (st := e_law.st) l25 c25 k25).binds (ps := ["_law_script"]) fun _ _ _ _ _ _ us hl => match us, hl with | [_], _ => rfl, rfl⟩
  have A27 : MtAt K "take" "Walker.take" e_Walker_take f27 _ := ⟨fun_mk (st := e_Walker_take.st) l27 c27 k27, ⟨a27, i27, k27⟩, (fun_mk (st := e_Walker_take.st) l27 c27 k27).binds (ps := ["self", "word", "place"]) fun _ _ _ _ _ _ us hl => match us, hl with | [_, _, _], _ => rfl⟩
  have A28 : MtAt K "word_at" "Walker.word_at" e_Walker_word_at f28 _ := ⟨fun_mk (st := e_Walker_word_at.st) l28 c28 k28, ⟨a28, i28, k28⟩, (fun_mk (st := e_Walker_word_at.st) l28 c28 k28).binds (ps := ["self", "place"]) fun _ _ _ _ _ _ us hl => match us, hl with | [_, _], _ => rfl⟩
  have A29 : MtAt K "settle" "Walker.settle" e_Walker_settle f29 _ := ⟨fun_mk (st := e_Walker_settle.st) l29 c29 k29, ⟨a29, i29, k29⟩, (fun_mk (st := e_Walker_settle.st) l29 c29 k29).binds (ps := ["self", "place"]) fun _ _ _ _ _ _ us hl => match us, hl with | [_, _], _ => rfl⟩
  have A30 : MtAt K "comb" "Walker.comb" e_Walker_comb f30 _ := ⟨fun_mk (st := e_Walker_comb.st) l30 c30 k30, ⟨a30, i30, k30⟩, (fun_mk (st := e_Walker_comb.st) l30 c30 k30).binds (ps := ["self", "place", "sign"]) fun _ _ _ _ _ _ us hl => match us, hl with | [_, _, _], _ => rfl⟩
  have A31 : MtAt K "order" "Walker.order" e_Walker_order f31 _ := ⟨fun_mk (st := e_Walker_order.st) l31 c31 k31, ⟨a31, i31, k31⟩, (fun_mk (st := e_Walker_order.st) l31 c31 k31).binds (ps := ["self", "place", "many"]) fun _ _ _ _ _ _ us hl => match us, hl with | [_, _, _], _ => rfl⟩
  have A32 : MtAt K "exchange" "Walker.exchange" e_Walker_exchange f32 _ := ⟨fun_mk (st := e_Walker_exchange.st) l32 c32 k32, ⟨a32, i32, k32⟩, (fun_mk (st := e_Walker_exchange.st) l32 c32 k32).binds (ps := ["self", "place", "is_last"]) fun _ _ _ _ _ _ us hl => match us, hl with | [_, _, _], _ => rfl⟩
  have e := hfa.symm.trans (PySem.W.mg_of X G a25)
  cases e
  refine ⟨cf, ⟨fun c => match c with | 0 => .ref C0 | 1 => .ref C1 | 2 => .ref C2 | 3 => .ref C3 | _ => .none, CNS⟩, rfl, ⟨?_, ?_, ?_, ?_, ?_, ?_, ?_⟩, _, A25, fun s v => .of_eq rfl⟩
  · exact (.cons A0 (.cons A1 (.cons A2 (.cons A3 (.cons A4 (.cons A5 (.cons A6 (.cons A7 (.cons A8 (.cons A9 (.cons A10 (.cons A11 (.cons A12 (.cons A13 (.cons A14 (.cons A15 (.cons A16 (.cons A17 (.cons A18 (.cons A19 (.cons A20 (.cons A21 (.cons A22 (.cons A23 (.cons A24 (.cons A25 (.init rfl rfl (.meth rfl (by decide +kernel) A27 (.meth rfl (by decide +kernel) A28 (.meth rfl (by decide +kernel) A29 (.meth rfl (by decide +kernel) A30 (.meth rfl (by decide +kernel) A31 (.meth rfl (by decide +kernel) A32 .nil)))))))))))))))))))))))))))))))))
  · intro x i q
    have q := lookup_mem q
    unfold gls at q
    simp only [List.mem_cons, List.not_mem_nil, or_false, Prod.mk.injEq] at q
    rcases q with ⟨rfl, q⟩ | ⟨rfl, q⟩ | ⟨rfl, q⟩ | ⟨rfl, q⟩
    · cases q; exact ⟨t_LEAVES, PySem.W.mg_of X G g_LEAVES⟩
    · cases q; exact ⟨t_GREATEST, PySem.W.mg_of X G g_GREATEST⟩
    · cases q; exact ⟨t_OPENS, PySem.W.mg_of X G g_OPENS⟩
    · cases q
  · intro x es q
    have q := lookup_mem q
    unfold gls at q
    simp only [List.mem_cons, List.not_mem_nil, or_false, Prod.mk.injEq] at q
    rcases q with ⟨rfl, q⟩ | ⟨rfl, q⟩ | ⟨rfl, q⟩ | ⟨rfl, q⟩
    · cases q
    · cases q
    · cases q
    · cases q
      refine ⟨d_BACK, e_BACK_, n_BACK, PySem.W.mg_of X G d0_BACK, ⟨d1_BACK, d2_BACK, d3_BACK⟩, fun k hk => ?_, fun k y hk => ?_⟩
      · skip
        rcases getKey_mem hk with ⟨z, e1, rfl, e3⟩ | hk
        · cases e1; cases e3
        rcases getKey_mem hk with ⟨z, e1, rfl, e3⟩ | hk
        · cases e1; cases e3
        rcases getKey_mem hk with ⟨z, e1, rfl, e3⟩ | hk
        · cases e1; cases e3
        cases hk
      · skip
        rcases getKey_mem hk with ⟨z, e1, rfl, e3⟩ | hk
        · cases e1; cases e3; exact ⟨_, d4_BACK_0⟩
        rcases getKey_mem hk with ⟨z, e1, rfl, e3⟩ | hk
        · cases e1; cases e3; exact ⟨_, d4_BACK_1⟩
        rcases getKey_mem hk with ⟨z, e1, rfl, e3⟩ | hk
        · cases e1; cases e3; exact ⟨_, d4_BACK_2⟩
        cases hk
  · intro c hc
    simp only [CNS, List.mem_cons, List.not_mem_nil, or_false] at hc
    rcases hc with rfl | rfl | rfl | rfl
    · exact ⟨C0, rfl, PySem.W.mg_of X G x0_0, x1_0, x2_0, x3_0, x4_0, ⟨x5_0, x6_0, x3_0, x7_0, x8_0, x_hn, x_ht, x9_0⟩, kit_of xk_0⟩
    · exact ⟨C1, rfl, PySem.W.mg_of X G x0_1, x1_1, x2_1, x3_1, x4_1, ⟨x5_1, x6_1, x3_1, x7_1, x8_1, x_hn, x_ht, x9_1⟩, kit_of xk_1⟩
    · exact ⟨C2, rfl, PySem.W.mg_of X G x0_2, x1_2, x2_2, x3_2, x4_2, ⟨x5_2, x6_2, x3_2, x7_2, x8_2, x_hn, x_ht, x9_2⟩, kit_of xk_2⟩
    · exact ⟨C3, rfl, PySem.W.mg_of X G x0_3, x1_3, x2_3, x3_3, x4_3, ⟨x5_3, x6_3, x3_3, x7_3, x8_3, x_hn, x_ht, x9_3⟩, kit_of xk_3⟩
  · intro c hc d hd
    simp only [CNS, List.mem_cons, List.not_mem_nil, or_false] at hc hd
    rcases hc with rfl | rfl | rfl | rfl <;> rcases hd with rfl | rfl | rfl | rfl
    · exact PySem.W.exm_ref x3_0 x7_0 x4_0 y_0_0
    · exact PySem.W.exm_ref x3_1 x7_1 x4_1 y_0_1
    · exact PySem.W.exm_ref x3_2 x7_2 x4_2 y_0_2
    · exact PySem.W.exm_ref x3_3 x7_3 x4_3 y_0_3
    · exact PySem.W.exm_ref x3_0 x7_0 x4_0 y_1_0
    · exact PySem.W.exm_ref x3_1 x7_1 x4_1 y_1_1
    · exact PySem.W.exm_ref x3_2 x7_2 x4_2 y_1_2
    · exact PySem.W.exm_ref x3_3 x7_3 x4_3 y_1_3
    · exact PySem.W.exm_ref x3_0 x7_0 x4_0 y_2_0
    · exact PySem.W.exm_ref x3_1 x7_1 x4_1 y_2_1
    · exact PySem.W.exm_ref x3_2 x7_2 x4_2 y_2_2
    · exact PySem.W.exm_ref x3_3 x7_3 x4_3 y_2_3
    · exact PySem.W.exm_ref x3_0 x7_0 x4_0 y_3_0
    · exact PySem.W.exm_ref x3_1 x7_1 x4_1 y_3_1
    · exact PySem.W.exm_ref x3_2 x7_2 x4_2 y_3_2
    · exact PySem.W.exm_ref x3_3 x7_3 x4_3 y_3_3
  · intro x q
    unfold biNames at q
    simp only [List.mem_cons, List.not_mem_nil, or_false] at q
    rcases q with rfl | rfl | rfl | rfl | rfl | rfl | rfl | rfl | rfl | rfl | rfl | rfl | rfl | rfl | rfl | rfl
    · exact PySem.W.mg_none_of X G z_len
    · exact PySem.W.mg_none_of X G z_list
    · exact PySem.W.mg_none_of X G z_tuple
    · exact PySem.W.mg_none_of X G z_sorted
    · exact PySem.W.mg_none_of X G z_set
    · exact PySem.W.mg_none_of X G z_dict
    · exact PySem.W.mg_none_of X G z_min
    · exact PySem.W.mg_none_of X G z_max
    · exact PySem.W.mg_none_of X G z_int
    · exact PySem.W.mg_none_of X G z_isinstance
    · exact PySem.W.mg_none_of X G z_zip
    · exact PySem.W.mg_none_of X G z_range
    · exact PySem.W.mg_none_of X G z_reversed
    · exact PySem.W.mg_none_of X G z_bool
    · exact PySem.W.mg_none_of X G z_str
    · exact PySem.W.mg_none_of X G z_ValueError
  · intro _
    exact ⟨⟨w_pg, w_hd, w_po, w_sa⟩, w_n1, w_n2, PySem.W.mg_of X G w_a, e_Walker_init, f26, _, rfl, ⟨w_mk, a26, i26, w_kc⟩, fun_mk (st := e_Walker_init.st) l26 c26 k26, (fun_mk (st := e_Walker_init.st) l26 c26 k26).binds (ps := ["self", "term"]) fun _ _ _ _ _ _ us hl => match us, hl with | [_, _], _ => rfl⟩
end DL

set_option Elab.async false
set_option linter.all false
set_option maxRecDepth 100000
/-! PL: the leaf of a cell, for the laws whose leaves are told by cell % 5. -/
namespace DL
open PySem L2
/-- a cell's leaf -/
def leafT (c : Int) : Tm := if c % 5 = 4 then .leaf true (c / 5 % 10) else .leaf false (nameN (c / 20) (c / 5))
theorem leafT_ok (c : Int) : (leafT c).ok := by
  unfold leafT
  split
  · exact ⟨by omega, by simp; omega⟩
  · have := nameN_ok (c / 20) (c / 5)
    exact ⟨this.1, by simp; exact this.2⟩
theorem leafT_ls (c : Int) : (leafT c).ls.length = 1 := by unfold leafT; split <;> rfl
section
variable {GL : Str → Option D} {T : Str → Option Fd} {L : Nat}
theorem r_leaf (hT : T (Str.ofString "_law_leaf") = some ⟨1, 2, b__law_leaf, 0⟩) (c : Int) : Calls GL T L 1 (Str.ofString "_law_leaf") [.int c] (.ok (leafT c).d .fr) :=
  .mk hT rfl fun n _ => by
    by_cases h : c % 5 = 4
    · simp [b__law_leaf, h, leafT, Tm.d, kS]
    · rcases mod4 (c / 5) with q | q | q | q <;> simp [b__law_leaf, h, leafT, Tm.d, kS, q, nameN]
end
end DL

set_option Elab.async false
set_option linter.all false
set_option maxRecDepth 100000
/-! G7: how big data is; _law_same. -/
namespace DL
open PySem L2

mutual
def wt : D → Nat
  | .tuple xs => wts xs + 1
  | _ => 1
def wts : List D → Nat
  | [] => 0
  | x :: xs => wt x + wts xs
end
theorem wt_pos (d : D) : 0 < wt d := by cases d <;> simp [wt]
theorem wts_sum : ∀ xs : List D, wts xs = (xs.map wt).sum
  | [] => rfl
  | x :: xs => by simp [wts, wts_sum xs]
theorem wts_len : ∀ xs : List D, xs.length ≤ wts xs
  | [] => Nat.le_refl _
  | x :: xs => by
    have := wts_len xs
    have := wt_pos x
    simp [wts]
    omega
theorem wts_mem {x : D} : ∀ {xs : List D}, x ∈ xs → wt x ≤ wts xs
  | [], h => by cases h
  | y :: ys, h => by
    simp only [wts]
    rcases List.mem_cons.mp h with rfl | h
    · omega
    · have := wts_mem h; omega
theorem wts_append (xs ys : List D) : wts (xs ++ ys) = wts xs + wts ys := by simp [wts_sum]
theorem wts_perm {xs ys : List D} (h : xs.Perm ys) : wts xs = wts ys := by
  induction h with
  | nil => rfl
  | cons x _ ih => simp [wts, ih]
  | swap x y l => simp [wts]; omega
  | trans _ _ i1 i2 => exact i1.trans i2
theorem parts_wt (s : Str) (d : D) : wts (partsD s d) ≤ wt d := by
  unfold partsD
  split
  · split
    · simp [wt, wts]; omega
    · simp [wts]
  · simp [wts]
theorem join2_wt (s : Str) (a b : D) : wt (joinD s [a, b]) ≤ wt a + wt b + 2 := by
  have h1 := parts_wt s a
  have h2 := parts_wt s b
  have e : [a, b].flatMap (partsD s) = partsD s a ++ partsD s b := by simp
  unfold joinD
  rw [e]
  have h3 := wts_append (partsD s a) (partsD s b)
  generalize partsD s a ++ partsD s b = row at *
  unfold joinR
  split
  · simp [wts] at h3; omega
  · have := wts_perm (sortD_perm row)
    simp [wt, wts]
    omega
theorem Tm.form_wt : ∀ t : Tm, wt t.form + 2 ≤ 5 * t.ls.length
  | .leaf o i => by simp [Tm.form, Tm.ls, wt, wts]
  | .node s a b => by
    have h1 := a.form_wt
    have h2 := b.form_wt
    have hl : (Tm.node s a b).ls.length = a.ls.length + b.ls.length := by simp [Tm.ls]
    rw [hl]
    cases s with
    | pair => simp [Tm.form, wt, wts]; omega
    | sum =>
      have := join2_wt (Str.ofString "sum") a.form b.form
      show wt (joinD _ _) + 2 ≤ _
      omega
    | mul =>
      have := join2_wt (Str.ofString "mul") a.form b.form
      show wt (joinD _ _) + 2 ≤ _
      omega
theorem range_item {n i : Nat} {d : D} (h : (rangeD 0 (n : Int))[i]? = some d) : i < n ∧ d = .int (i : Int) := by
  rw [range_get, List.getElem?_map] at h
  cases e : (List.range ((n : Int)).toNat)[i]? with
  | none => rw [e] at h; cases h
  | some k =>
    rw [e] at h
    obtain ⟨h1, h2⟩ := List.getElem?_eq_some_iff.mp e
    simp at h1 h2 h
    exact ⟨h1, by rw [← h, h2]⟩
theorem at_get {xs : List D} {j : Nat} {d : D} (h : xs[j]? = some d) : atI xs (j : Int) = some d := atI_nat h
section
variable {GL : Str → Option D} {T : Str → Option Fd} {L : Nat}
theorem r_same (hT : T (Str.ofString "_law_same") = some ⟨2, 3, b__law_same, 0⟩) : ∀ (k : Nat) (d : D), d.depth ≤ k → keyOk d = true → d.canLay0 = true → wt d ≤ 100000 → Calls GL T L (k + 1) (Str.ofString "_law_same") [d, d] (.ok (.bool true) .fr) := by
  intro k
  induction k with
  | zero =>
    intro d hk hp hl hw n hn
    obtain ⟨n, rfl⟩ : ∃ m, n = m + 1 := ⟨n - 1, by omega⟩
    refine call_runs hT rfl ?_
    unfold b__law_same
    simp only [startG_def]
    cases d <;> simp [keyOk] at hp
    · refine .ifF (by simp; exact ⟨rfl, rfl⟩) (.skip (.ifF (by simp; exact ⟨rfl, rfl⟩) (.skip ?_)))
      exact .ret (d := .bool true) (m := .fr) (by simp; rfl) rfl
    · rename_i x
      have hx : PyData.strOk x = true := by simpa [PyData.canLay0] using hl
      refine .ifF (by simp; exact ⟨rfl, rfl⟩) (.skip (.ifT (by simp; exact ⟨rfl, rfl⟩) (.as ?_)))
      exact .ret (d := .bool true) (m := .fr) (by simp [eqOk_str hx hx]; rfl) rfl
    · simp [PyData.depth] at hk
  | succ k ih =>
    intro d hk hp hl hw n hn
    obtain ⟨n, rfl⟩ : ∃ m, n = m + 1 := ⟨n - 1, by omega⟩
    refine call_runs hT rfl ?_
    unfold b__law_same
    simp only [startG_def]
    cases d <;> simp [keyOk] at hp
    · refine .ifF (by simp; exact ⟨rfl, rfl⟩) (.skip (.ifF (by simp; exact ⟨rfl, rfl⟩) (.skip ?_)))
      exact .ret (d := .bool true) (m := .fr) (by simp; rfl) rfl
    · rename_i x
      have hx : PyData.strOk x = true := by simpa [PyData.canLay0] using hl
      refine .ifF (by simp; exact ⟨rfl, rfl⟩) (.skip (.ifT (by simp; exact ⟨rfl, rfl⟩) (.as ?_)))
      exact .ret (d := .bool true) (m := .fr) (by simp [eqOk_str hx hx]; rfl) rfl
    · rename_i xs
      have hxs : PyData.canLayAll0 xs = true := by simpa [PyData.canLay0] using hl
      have hlen := wts_len xs
      have hw' : wts xs < 100000 := by simp [wt] at hw; omega
      have hr : rngOk (xs.length : Int) = true := rngOk_small (by omega) (by omega)
      refine .ifT (by simp; exact ⟨rfl, rfl⟩) (.as ?_)
      refine .ifF (by simp; exact ⟨rfl, rfl⟩) (.skip (.as ?_))
      refine .for_ (ds := rangeD 0 xs.length) (fun i g => ∃ z : Sl, g = [some (.tuple xs, .fr), some (.tuple xs, .fr), z]) (by simp [hr]; exact ⟨rfl, rfl⟩) (by decide) rfl ⟨none, rfl⟩ ?_ ?_
      · rintro i x g hi ⟨z, rfl⟩
        obtain ⟨hlt, rfl⟩ := range_item hi
        have hd : xs[i]? = some xs[i] := List.getElem?_eq_getElem hlt
        have hm := List.mem_of_getElem? hd
        have hdep : xs[i].depth ≤ k := by
          have h1 := depth_mem hm
          have h2 : PyData.depthAll xs + 1 ≤ k + 1 := by simpa [PyData.depth] using hk
          omega
        have c := ih xs[i] hdep (plain_mem hp hm) (lay_mem hxs hm) (Nat.le_trans (wts_mem hm) (Nat.le_of_lt hw')) n (by omega)
        refine ⟨[some (.tuple xs, .fr), some (.tuple xs, .fr), some (.int i, .fr)], ?_, _, rfl⟩
        simp [at_get hd, c]
      · rintro g ⟨z, rfl⟩
        exact .as (.ret (d := .bool true) (m := .fr) (by simp; rfl) rfl)
end
end DL

set_option Elab.async false
set_option linter.all false
set_option maxRecDepth 100000
/-! G8: loops that may hand back; the first place that differs. -/
namespace DL
open PySem L2 PySem.SeqAt
theorem for_invR {f : D → Sg → Res Ctl} (I : Nat → Sg → Prop) {Q Q' : Res Ctl → Prop} (ds : List D) {g : Sg} (h0 : I 0 g)
    (hs : ∀ i d g, ds[i]? = some d → I i g → (∃ g', f d g = .ok .next g' ∧ I (i + 1) g') ∨ ∃ v m g', f d g = .ok (.ret v m) g' ∧ Q (.ok (.ret v m) g')) (hd : ∀ g, I ds.length g → Q (.ok .next g)) : Q (forGo f ds g) := by
  have go : ∀ (n i : Nat) (g : Sg), n = ds.length - i → i ≤ ds.length → I i g → Q (forGo f (ds.drop i) g) := by
    intro n
    induction n with
    | zero =>
      intro i g hn hi h
      have e : i = ds.length := by omega
      subst e
      rw [List.drop_length, forGo]
      exact hd g h
    | succ n ih =>
      intro i g hn hi h
      have hlt : i < ds.length := by omega
      rw [List.drop_eq_getElem_cons hlt, forGo]
      rcases hs i _ g (List.getElem?_eq_getElem hlt) h with ⟨g', e, h'⟩ | ⟨v, m, g', e, h'⟩
      · rw [e]
        exact ih (i + 1) g' (by omega) hlt h'
      · rw [e]; exact h'
  have := go _ 0 g rfl (Nat.zero_le _) h0
  simpa using this
theorem Runs.forR {GL : Str → Option D} {C : Orc} {L : Nat} {Q : Res Ctl → Prop} {b r : S} {it : E} {g g1 : Sg} {i : Nat} {m : Md} {d : D} {ds : List D} (I : Nat → Sg → Prop) (h : ev GL C it g = .ok (d, m) g1) (hm : m ≠ .on) (hd : itemsD d = some ds) (h0 : I 0 g1)
    (hs : ∀ j x g, ds[j]? = some x → I j g → (∃ g', DL.ex GL C L b (g.set i (some (x, .fr))) = .ok .next g' ∧ I (j + 1) g') ∨ ∃ v m g', DL.ex GL C L b (g.set i (some (x, .fr))) = .ok (.ret v m) g' ∧ Q (.ok (.ret v m) g'))
    (hr : ∀ g, I ds.length g → Runs GL C L r g Q) : Runs GL C L (.seq (.for_ i it b) r) g Q := by
  unfold Runs at *
  rw [DL.ex, DL.ex, h]
  simp only [bd_ok, hm, if_false, hd]
  exact for_invR (Q' := fun _ => True) I (Q := fun x => Q (x.bd _)) ds h0 hs hr
theorem firstLt_skip {f g : Nat → Bool} {fin : Bool} : ∀ (l m : List Nat), (∀ i ∈ l, f i = true) → firstLt f g fin (l ++ m) = firstLt f g fin m
  | [], m, _ => rfl
  | a :: l, m, h => by
    rw [List.cons_append, firstLt_yes (h a List.mem_cons_self)]
    exact firstLt_skip l m fun i hi => h i (List.mem_cons_of_mem _ hi)
theorem firstLt_at {f g : Nat → Bool} {fin : Bool} {j n : Nat} (ah : Ahead f j) (hj : f j = false) (hn : j < n) : firstLt f g fin (List.range n) = g j := by
  have e : List.range n = List.range j ++ (j :: (List.range (n - j - 1)).map (j + 1 + ·)) := by
    have e1 : n = j + (n - j) := by omega
    rw [e1, List.range_add]
    congr 1
    have e2 : j + (n - j) - j = (n - j - 1) + 1 := by omega
    rw [show n - j = (n - j - 1) + 1 by omega, List.range_succ_eq_map]
    simp
    intro a _
    omega
  rw [e, firstLt_skip _ _ fun i hi => ah i (List.mem_range.mp hi), firstLt_no hj]
theorem firstLt_end {f g : Nat → Bool} {fin : Bool} {n : Nat} (ah : Ahead f n) : firstLt f g fin (List.range n) = fin := by
  have := firstLt_skip (f := f) (g := g) (fin := fin) (List.range n) [] fun i hi => ah i (List.mem_range.mp hi)
  rw [List.append_nil] at this
  exact this
theorem eqv_comm {x y : D} (hx : keyOk x = true) (hy : keyOk y = true) : PyData.eqv x y = PyData.eqv y x := by
  rw [Bool.eq_iff_iff, eqv_plain x y hx hy, eqv_plain y x hy hx]
  exact eq_comm
theorem eqOk_plain {x y : D} (lx : x.canLay0 = true) (ly : y.canLay0 = true) (dx : x.depth ≤ 200) : eqOk x y = true := by
  have h : Nat.min x.depth y.depth ≤ 200 := Nat.le_trans (Nat.min_le_left _ _) dx
  simp [eqOk, lx, ly]
  exact h
/-- what stands behind the first n statements -/
def tailS : Nat → S → S
  | 0, s => s
  | n + 1, .seq _ r => tailS n r
  | _ + 1, s => s
theorem cut_take {α : Type} {xs : List α} {m : Nat} (h : m ≤ xs.length) : cutL xs none (some (m : Int)) = xs.take m := by
  unfold cutL
  rw [HT.sIx_none, HT.sIx_nat, Nat.min_eq_left h]
  simp
theorem cut_drop {α : Type} {xs : List α} {m : Nat} (h : m ≤ xs.length) : cutL xs (some (m : Int)) none = xs.drop m := by
  unfold cutL
  rw [HT.sIx_none, HT.sIx_nat, Nat.min_eq_left h]
  rw [List.take_of_length_le (by rw [List.length_drop]; omega)]
theorem at_cast (xs : List D) (x : D) (n : Nat) (h : xs[n]? = some x) (i : Int) (e : i = (n : Int)) : atI xs i = some x := by subst e; exact at_get h
/-- an item by a number modulo the length -/
theorem at_mod {α : Type} (f : α → D) (l : List α) (h : 1 ≤ l.length) (x : Int) : ∃ a ∈ l, atI (l.map f) (x % (l.length : Int)) = some (f a) := by
  have h1 := Int.emod_nonneg x (show (l.length : Int) ≠ 0 by omega)
  have h2 := Int.emod_lt_of_pos x (show (0 : Int) < l.length by omega)
  have hlt : (x % (l.length : Int)).toNat < l.length := by omega
  refine ⟨l[(x % (l.length : Int)).toNat], List.getElem_mem _, at_cast _ _ (x % (l.length : Int)).toNat ?_ _ (by omega)⟩
  rw [List.getElem?_map, List.getElem?_eq_getElem hlt]
  rfl
end DL

set_option Elab.async false
set_option linter.all false
set_option maxRecDepth 100000
/-! G9: forms whose parts stand in order, and the terms that they are grown to. -/
namespace DL
open PySem L2

mutual
inductive Gr : D → Tm → Prop
  | leaf (o : Bool) (i : Int) : Gr (.tuple [.str (kS o), .int i]) (.leaf o i)
  | pair {a b : D} {ta tb : Tm} : Gr a ta → Gr b tb → Gr (.tuple [.str (Str.ofString "pair"), a, b]) (.node .pair ta tb)
  | join {s : Sn} {xs : List D} {t : Tm} : s ≠ .pair → 2 ≤ xs.length → GrL s xs t → Gr (.tuple (.str s.s :: xs)) t
inductive GrL : Sn → List D → Tm → Prop
  | one {s : Sn} {x : D} {t : Tm} : Gr x t → GrL s [x] t
  | more {s : Sn} {x y : D} {r : List D} {tx tr : Tm} : Gr x tx → GrL s (y :: r) tr → GrL s (x :: y :: r) (.node s tx tr)
end
/-- a form as it should be -/
inductive CF : D → Prop
  | leaf (o : Bool) (i : Int) : leafOk o i → CF (.tuple [.str (kS o), .int i])
  | pair {a b : D} : CF a → CF b → CF (.tuple [.str (Str.ofString "pair"), a, b])
  | join {s : Sn} {xs : List D} : s ≠ .pair → 2 ≤ xs.length → (∀ x ∈ xs, CF x) → Up xs → (∀ x ∈ xs, partsD s.s x = [x]) → CF (.tuple (.str s.s :: xs))
theorem CF.isF {d : D} (h : CF d) : IsF d := by
  induction h with
  | leaf o i _ => exact .leaf o i
  | pair _ _ iha ihb => exact .pair iha ihb
  | @join s xs hs _ _ _ _ ih =>
    cases s with
    | sum => exact .sum ih
    | mul => exact .mul ih
    | pair => exact absurd rfl hs
mutual
/-- how many leaves -/
def lvD : D → Nat
  | .int _ => 1
  | .tuple xs => lvDs xs
  | _ => 0
def lvDs : List D → Nat
  | [] => 0
  | x :: xs => lvD x + lvDs xs
end
theorem node_form {s : Sn} (hs : s ≠ .pair) (a b : Tm) : (Tm.node s a b).form = joinD s.s [a.form, b.form] := by
  cases s with
  | sum => rfl
  | mul => rfl
  | pair => exact absurd rfl hs
theorem sortD_id {xs : List D} (hf : ∀ x ∈ xs, IsF x) (u : Up xs) : sortD xs = xs :=
  (up_one (fun x hx => (hf x hx).plain) u (sortD_up (fun x hx => (hf x hx).plain) fun x hx y hy => (hf x hx).cmp y (hf y hy)) (sortD_perm xs).symm).symm
/-- each such form grows to a term whose form it is -/
theorem grows {d : D} (h : CF d) : ∃ t, Gr d t ∧ t.form = d ∧ t.ok ∧ t.ls.length = lvD d := by
  induction h with
  | leaf o i ok => exact ⟨.leaf o i, .leaf o i, rfl, ok, rfl⟩
  | pair _ _ iha ihb =>
    obtain ⟨ta, g1, f1, o1, l1⟩ := iha
    obtain ⟨tb, g2, f2, o2, l2⟩ := ihb
    refine ⟨.node .pair ta tb, .pair g1 g2, by simp [Tm.form, f1, f2], ⟨o1, o2⟩, by simp [Tm.ls, lvD, lvDs, l1, l2]⟩
  | @join s xs hs h2 hc u hp ih =>
    have hF : ∀ x ∈ xs, IsF x := fun x hx => (hc x hx).isF
    have key : ∀ r : List D, r ≠ [] → (∀ x ∈ r, IsF x ∧ partsD s.s x = [x] ∧ ∃ t, Gr x t ∧ t.form = x ∧ t.ok ∧ t.ls.length = lvD x) → Up r →
        ∃ t, GrL s r t ∧ partsD s.s t.form = r ∧ (2 ≤ r.length → t.form = .tuple (.str s.s :: r)) ∧ t.ok ∧ t.ls.length = lvDs r := by
      intro r
      induction r with
      | nil => intro h _ _; exact absurd rfl h
      | cons x r ihr =>
        intro _ hr ur
        obtain ⟨fx, px, tx, gx, ex, ox, lx⟩ := hr x List.mem_cons_self
        cases r with
        | nil => exact ⟨tx, .one gx, by rw [ex]; exact px, fun h => by simp at h, ox, by simp [lvDs, lx]⟩
        | cons y r =>
          obtain ⟨tr, gr, pr, _, or, lr⟩ := ihr (by simp) (fun z hz => hr z (List.mem_cons_of_mem _ hz)) (List.pairwise_cons.mp ur).2
          have ef : (Tm.node s tx tr).form = .tuple (.str s.s :: x :: y :: r) := by
            rw [node_form hs]
            unfold joinD
            have e : [tx.form, tr.form].flatMap (partsD s.s) = x :: y :: r := by
              simp [ex, px, pr]
            rw [e, joinR_more _ (by simp), sortD_id (fun z hz => (hr z hz).1) ur]
          refine ⟨.node s tx tr, .more gx gr, ?_, fun _ => ef, ⟨ox, or⟩, by simp [Tm.ls, lvDs, lx] at lr ⊢; omega⟩
          rw [ef, partsD_word, if_pos rfl]
    obtain ⟨t, g, _, f, o, l⟩ := key xs (fun e => by rw [e] at h2; simp at h2) (fun x hx => ⟨hF x hx, hp x hx, ih x hx⟩) u
    exact ⟨t, .join hs h2 g, f h2, o, by rw [l]; cases s <;> simp [lvD, lvDs]⟩
theorem Sn.inj {s s' : Sn} (h : s.s = s'.s) : s = s' := by cases s <;> cases s' <;> first | rfl | (simp [Sn.s] at h)
theorem kS_sn {o : Bool} {s : Sn} : kS o ≠ s.s := by cases o <;> cases s <;> simp [kS, Sn.s]
theorem kS_inj {o o' : Bool} (h : kS o = kS o') : o = o' := by cases o <;> cases o' <;> first | rfl | (simp [kS] at h)
mutual
theorem Gr.uniq {d : D} {t t' : Tm} (h : Gr d t) (h' : Gr d t') : t = t' := by
  cases h with
  | leaf o i =>
    generalize e : (PyData.tuple [.str (kS o), .int i]) = d at h'
    cases h' with
    | leaf o' i' =>
      simp only [PyData.tuple.injEq, List.cons.injEq, PyData.str.injEq, PyData.int.injEq] at e
      rw [kS_inj e.1, e.2.1]
    | pair _ _ => simp at e
    | @join s' xs' t' _ _ g =>
      simp only [PyData.tuple.injEq, List.cons.injEq, PyData.str.injEq] at e
      exact absurd e.1 kS_sn
  | @pair a b ta tb ga gb =>
    generalize e : (PyData.tuple [.str (Str.ofString "pair"), a, b]) = d at h'
    cases h' with
    | leaf o' i' => simp at e
    | @pair a' b' ta' tb' ga' gb' =>
      simp only [PyData.tuple.injEq, List.cons.injEq] at e
      obtain ⟨_, rfl, rfl, _⟩ := e
      rw [Gr.uniq ga ga', Gr.uniq gb gb']
    | @join s' xs' t' hs _ g =>
      simp only [PyData.tuple.injEq, List.cons.injEq, PyData.str.injEq] at e
      exact absurd (Sn.inj (s := .pair) (s' := s') e.1).symm hs
  | @join s xs t hs h2 g =>
    generalize e : (PyData.tuple (.str s.s :: xs)) = d at h'
    cases h' with
    | leaf o' i' =>
      simp only [PyData.tuple.injEq, List.cons.injEq, PyData.str.injEq] at e
      exact absurd e.1.symm kS_sn
    | @pair a' b' ta' tb' ga' gb' =>
      simp only [PyData.tuple.injEq, List.cons.injEq, PyData.str.injEq] at e
      exact absurd (Sn.inj (s := s) (s' := .pair) e.1) hs
    | @join s' xs' t' hs' _ g' =>
      simp only [PyData.tuple.injEq, List.cons.injEq, PyData.str.injEq] at e
      obtain ⟨e1, rfl⟩ := e
      have e1 := Sn.inj e1
      subst e1
      exact GrL.uniq g g'
theorem GrL.uniq {s : Sn} {xs : List D} {t t' : Tm} (h : GrL s xs t) (h' : GrL s xs t') : t = t' := by
  cases h with
  | one g => cases h' with | one g' => exact Gr.uniq g g'
  | more g gr => cases h' with | more g' gr' => rw [Gr.uniq g g', GrL.uniq gr gr']
end
theorem Tm.d_small : ∀ t : Tm, keyOk t.d = true ∧ t.d.depth ≤ t.ls.length ∧ wt t.d + 2 ≤ 5 * t.ls.length
  | .leaf o i => by simp [Tm.d, Tm.ls, keyOk, keyOk.keyOkAll, PyData.depth, PyData.depthAll, wt, wts]
  | .node s a b => by
    obtain ⟨a1, a2, a3⟩ := a.d_small
    obtain ⟨b1, b2, b3⟩ := b.d_small
    have := a.ls_pos
    have := b.ls_pos
    refine ⟨by simp [Tm.d, keyOk, keyOk.keyOkAll, a1, b1], ?_, ?_⟩
    · simp [Tm.d, Tm.ls, PyData.depth, PyData.depthAll]
      omega
    · simp [Tm.d, Tm.ls, wt, wts]
      omega
end DL

set_option Elab.async false
set_option linter.all false
set_option maxRecDepth 100000
/-! G10: places and moves of terms; moves leave the form as it is. -/
namespace DL
open PySem L2

theorem sort_eq {l m : List D} (hl : ∀ x ∈ l, IsF x) (p : l.Perm m) : sortD l = sortD m := by
  have hm : ∀ x ∈ m, IsF x := fun x hx => hl x (p.mem_iff.mpr hx)
  exact up_one (fun x hx => (hl x ((sortD_perm l).mem_iff.mp hx)).plain) (sortD_up (fun x hx => (hl x hx).plain) fun x hx y hy => (hl x hx).cmp y (hl y hy))
    (sortD_up (fun x hx => (hm x hx).plain) fun x hx y hy => (hm x hx).cmp y (hm y hy)) ((sortD_perm l).trans (p.trans (sortD_perm m).symm))
/-- the parts of a term's form, of a sign -/
abbrev Tm.parts (s : Sn) (t : Tm) : List D := partsD s.s t.form
theorem Sn.join {s : Sn} (h : s ≠ .pair) : s.s = Str.ofString "sum" ∨ s.s = Str.ofString "mul" := by
  cases s with
  | sum => exact .inl rfl
  | mul => exact .inr rfl
  | pair => exact absurd rfl h
theorem node_eq {s : Sn} (hs : s ≠ .pair) (a b : Tm) : (Tm.node s a b).form = .tuple (.str s.s :: sortD (a.parts s ++ b.parts s)) := by
  rw [node_form hs]
  have h1 := (parts_len a s.s (Sn.join hs)).1
  have h2 := (parts_len b s.s (Sn.join hs)).1
  unfold joinD
  rw [joinR_more _ (by simp; omega)]
  simp [Tm.parts]
theorem node_parts {s : Sn} (hs : s ≠ .pair) (a b : Tm) : (Tm.node s a b).parts s = sortD (a.parts s ++ b.parts s) := by
  show partsD s.s _ = _
  rw [node_eq hs, partsD_word, if_pos rfl]
theorem parts_isF {s : Sn} (hs : s ≠ .pair) (t : Tm) : ∀ x ∈ t.parts s, IsF x := fun x hx => (parts_form t.form_ok.1 (Sn.join hs) (Nat.le_refl _) x hx).1
theorem parts2_isF {s : Sn} (hs : s ≠ .pair) (a b : Tm) : ∀ x ∈ a.parts s ++ b.parts s, IsF x := fun x hx => by
  rcases List.mem_append.mp hx with h | h
  · exact parts_isF hs a x h
  · exact parts_isF hs b x h
theorem form_swap {s : Sn} (hs : s ≠ .pair) (a b : Tm) : (Tm.node s b a).form = (Tm.node s a b).form := by
  rw [node_eq hs, node_eq hs, sort_eq (parts2_isF hs b a) List.perm_append_comm]
theorem form_left {s : Sn} (hs : s ≠ .pair) (a b c : Tm) : (Tm.node s (.node s a b) c).form = (Tm.node s a (.node s b c)).form := by
  rw [node_eq hs, node_eq hs]
  refine congrArg (fun l => PyData.tuple (.str s.s :: l)) (sort_eq (parts2_isF hs _ _) ?_)
  rw [node_parts hs, node_parts hs]
  refine ((sortD_perm _).append_right _).trans ?_
  rw [List.append_assoc]
  exact (sortD_perm _).symm.append_left _

/-! ### places -/
def plD (p : List Bool) : D := .tuple (p.map fun b => .int (if b = true then 1 else 0))
def Tm.at : Tm → List Bool → Option Tm
  | t, [] => some t
  | .leaf _ _, _ :: _ => none
  | .node _ a b, x :: p => if x = true then b.at p else a.at p
/-- with another part at a place -/
def Tm.put (u : Tm) : Tm → List Bool → Tm
  | _, [] => u
  | .leaf o i, _ :: _ => .leaf o i
  | .node s a b, x :: p => if x = true then .node s a (Tm.put u b p) else .node s (Tm.put u a p) b
theorem Tm.at_nil (t : Tm) : t.at [] = some t := by cases t <;> rfl
theorem Tm.put_nil (u t : Tm) : Tm.put u t [] = u := by cases t <;> rfl
theorem at_snoc : ∀ (p : List Bool) (t : Tm) {s : Sn} {a b : Tm} (x : Bool), t.at p = some (.node s a b) → t.at (p ++ [x]) = some (if x = true then b else a)
  | [], t, s, a, b, x, h => by
    rw [Tm.at_nil] at h
    cases h
    show (Tm.node s a b).at [x] = _
    cases x <;> simp [Tm.at, Tm.at_nil]
  | y :: p, .leaf _ _, s, a, b, x, h => by simp [Tm.at] at h
  | y :: p, .node s' a' b', s, a, b, x, h => by
    cases y
    · simp only [Tm.at] at h ⊢
      exact at_snoc p a' x h
    · simp only [Tm.at] at h ⊢
      exact at_snoc p b' x h
theorem at_len : ∀ (p : List Bool) (t u : Tm), t.at p = some u → p.length + u.ls.length ≤ t.ls.length
  | [], t, u, h => by rw [Tm.at_nil] at h; cases h; simp
  | y :: p, .leaf _ _, u, h => by simp [Tm.at] at h
  | y :: p, .node s a b, u, h => by
    have pa := a.ls_pos
    have pb := b.ls_pos
    cases y
    · have := at_len p a u (by simpa [Tm.at] using h)
      simp [Tm.ls]
      omega
    · have := at_len p b u (by simpa [Tm.at] using h)
      simp [Tm.ls]
      omega
theorem node_of (s : Sn) {a a' b b' : Tm} (ha : a'.form = a.form) (hb : b'.form = b.form) : (Tm.node s a' b').form = (Tm.node s a b).form := by
  cases s <;> simp only [Tm.form, ha, hb]
theorem put_form {v u : Tm} (hf : u.form = v.form) (hl : u.ls.length = v.ls.length) (ho : v.ok → u.ok) : ∀ (p : List Bool) (t : Tm), t.at p = some v → (Tm.put u t p).form = t.form ∧ (Tm.put u t p).ls.length = t.ls.length ∧ (t.ok → (Tm.put u t p).ok)
  | [], t, h => by rw [Tm.at_nil] at h; cases h; rw [Tm.put_nil]; exact ⟨hf, hl, ho⟩
  | y :: p, .leaf _ _, h => by simp [Tm.at] at h
  | y :: p, .node s a b, h => by
    cases y
    · obtain ⟨i1, i2, i3⟩ := put_form hf hl ho p a (by simpa [Tm.at] using h)
      simp only [Tm.put]
      exact ⟨node_of s i1 rfl, by simp [Tm.ls] at i2 ⊢; exact i2, fun h => ⟨i3 h.1, h.2⟩⟩
    · obtain ⟨i1, i2, i3⟩ := put_form hf hl ho p b (by simpa [Tm.at] using h)
      simp only [Tm.put]
      exact ⟨node_of s rfl i1, by simp [Tm.ls] at i2 ⊢; exact i2, fun h => ⟨h.1, i3 h.2⟩⟩

/-! ### moves -/
inductive Wd where
  | swap | left | right
  deriving DecidableEq
def Wd.s : Wd → Str
  | .swap => Str.ofString "swap"
  | .left => Str.ofString "left"
  | .right => Str.ofString "right"
def turnO : Wd → Tm → Option Tm
  | .swap, .node s a b => if s = .pair then none else some (.node s b a)
  | .left, .node s a (.node s' b c) => if s = .pair then none else if s' = s then some (.node s (.node s a b) c) else none
  | .right, .node s (.node s' a b) c => if s = .pair then none else if s' = s then some (.node s a (.node s b c)) else none
  | _, _ => none
theorem turn_keeps {w : Wd} {t u : Tm} (h : turnO w t = some u) : u.form = t.form ∧ u.ls.length = t.ls.length ∧ (t.ok → u.ok) := by
  unfold turnO at h
  split at h
  · rename_i s a b
    split at h
    · cases h
    · rename_i hs
      cases h
      exact ⟨form_swap hs a b, by simp [Tm.ls]; omega, fun h => ⟨h.2, h.1⟩⟩
  · rename_i s a s' b c
    split at h
    · cases h
    · rename_i hs
      split at h
      · rename_i e
        subst e
        cases h
        exact ⟨form_left hs a b c, by simp [Tm.ls] <;> omega, fun h => ⟨⟨h.1, h.2.1⟩, h.2.2⟩⟩
      · cases h
  · rename_i s s' a b c
    split at h
    · cases h
    · rename_i hs
      split at h
      · rename_i e
        subst e
        cases h
        exact ⟨(form_left hs a b c).symm, by simp [Tm.ls] <;> omega, fun h => ⟨h.1.1, h.1.2, h.2⟩⟩
      · cases h
  · cases h
/-- a place where a sum or a mul stands -/
def JoinAt (t : Tm) (p : List Bool) : Prop := ∃ s a b, s ≠ Sn.pair ∧ t.at p = some (.node s a b)
/-- what a move makes of a join, a swap where the word can't be done (as the laws have it) -/
def turnT (w : Wd) (t : Tm) : Tm := match turnO w t with
  | some u => u
  | none => match t with
    | .node s a b => .node s b a
    | t => t
theorem turnT_keeps (w : Wd) {s : Sn} (hs : s ≠ .pair) (a b : Tm) : (turnT w (.node s a b)).form = (Tm.node s a b).form ∧ (turnT w (.node s a b)).ls.length = (Tm.node s a b).ls.length ∧ ((Tm.node s a b).ok → (turnT w (.node s a b)).ok) := by
  unfold turnT
  split
  · exact turn_keeps (by assumption)
  · exact ⟨form_swap hs a b, by simp [Tm.ls]; omega, fun h => ⟨h.2, h.1⟩⟩
theorem wd_ok (w : Wd) : PyData.strOk w.s = true := by cases w <;> simp [Wd.s]
theorem plD_lay (p : List Bool) : (plD p).canLay0 = true := by
  simp only [plD, PyData.canLay0]
  exact layAll_map (f := fun b : Bool => PyData.int (if b = true then 1 else 0)) (fun b => by simp [PyData.canLay0]) p
theorem plD_eqv (p : List Bool) : PyData.eqv (plD p) (.tuple []) = p.isEmpty := by cases p <;> simp [plD, PyData.eqv, PyData.eqvAll]
theorem eqOk_nilT {ds : List D} (h : PyData.canLayAll0 ds = true) : eqOk (.tuple ds) (.tuple []) = true := by
  have : Nat.min (PyData.depth (.tuple ds)) (PyData.depth (.tuple [])) ≤ 200 := Nat.le_trans (Nat.min_le_right _ _) (by decide)
  simp [eqOk, PyData.canLay0, PyData.canLayAll0, h]
  exact this
theorem plD_eqOk (p : List Bool) : eqOk (plD p) (.tuple []) = true := eqOk_nilT (by simpa [plD, PyData.canLay0] using plD_lay p)
end DL

set_option Elab.async false
set_option linter.all false
set_option maxRecDepth 100000
/-! G11: runs of part_at, with_part, turned, done, moved, back. -/
namespace DL
open PySem L2

/-! ### loops in which an error may be raised -/
theorem for_invX {f : D → Sg → Res Ctl} (I : Nat → Sg → Prop) {Q : Res Ctl → Prop} (ds : List D) {g : Sg} (h0 : I 0 g)
    (hs : ∀ i d g, ds[i]? = some d → I i g → (∃ g', f d g = .ok .next g' ∧ I (i + 1) g') ∨ ∃ c g', f d g = .exc c g' ∧ Q (.exc c g')) (hd : ∀ g, I ds.length g → Q (.ok .next g)) : Q (forGo f ds g) := by
  have go : ∀ (n i : Nat) (g : Sg), n = ds.length - i → i ≤ ds.length → I i g → Q (forGo f (ds.drop i) g) := by
    intro n
    induction n with
    | zero =>
      intro i g hn hi h
      have e : i = ds.length := by omega
      subst e
      rw [List.drop_length, forGo]
      exact hd g h
    | succ n ih =>
      intro i g hn hi h
      have hlt : i < ds.length := by omega
      rw [List.drop_eq_getElem_cons hlt, forGo]
      rcases hs i _ g (List.getElem?_eq_getElem hlt) h with ⟨g', e, h'⟩ | ⟨c, g', e, h'⟩
      · rw [e]
        exact ih (i + 1) g' (by omega) hlt h'
      · rw [e]; exact h'
  have := go _ 0 g rfl (Nat.zero_le _) h0
  simpa using this
theorem Runs.forX {GL : Str → Option D} {C : Orc} {L : Nat} {Q : Res Ctl → Prop} {b r : S} {it : E} {g g1 : Sg} {i : Nat} {m : Md} {d : D} {ds : List D} (I : Nat → Sg → Prop) (h : ev GL C it g = .ok (d, m) g1) (hm : m ≠ .on) (hd : itemsD d = some ds) (h0 : I 0 g1)
    (hs : ∀ j x g, ds[j]? = some x → I j g → (∃ g', DL.ex GL C L b (g.set i (some (x, .fr))) = .ok .next g' ∧ I (j + 1) g') ∨ ∃ c g', DL.ex GL C L b (g.set i (some (x, .fr))) = .exc c g' ∧ Q (.exc c g'))
    (hr : ∀ g, I ds.length g → Runs GL C L r g Q) : Runs GL C L (.seq (.for_ i it b) r) g Q := by
  unfold Runs at *
  rw [DL.ex, DL.ex, h]
  simp only [bd_ok, hm, if_false, hd]
  exact for_invX I (Q := fun x => Q (x.bd _)) ds h0 hs hr
section
variable {GL : Str → Option D} {C : Orc} {L : Nat} {Q : Res Ctl → Prop} {a b r : S} {e t it : E} {g g1 : Sg} {p : D × Md} {i : Nat} {m : Md} {d : D} {c : Nat}
theorem Runs.sqX (h : DL.ex GL C L a g = .exc c g1) (h2 : Q (.exc c g1)) : Runs GL C L (.seq a r) g Q := by
  unfold Runs; rw [DL.ex, h]; exact h2
theorem Runs.exX (h : ev GL C e g = .exc c g1) (h2 : Q (.exc c g1)) : Runs GL C L (.seq (.expr e) r) g Q := .sqX (by rw [DL.ex, h]; rfl) h2
theorem Runs.setX (h : ev GL C e g = .exc c g1) (h2 : Q (.exc c g1)) : Runs GL C L (.seq (.set i e) r) g Q := .sqX (by rw [DL.ex, h]; rfl) h2
theorem Runs.retX (h : retv GL C e g = .exc c g1) (h2 : Q (.exc c g1)) : Runs GL C L (.seq (.ret e) r) g Q := .sqX (by rw [DL.ex, h]; rfl) h2
theorem Runs.raise (h2 : Q (.exc c g)) : Runs GL C L (.seq (.raise c) r) g Q := .sqX (by rw [DL.ex]) h2
end

/-! ### places of whole numbers -/
def plI (p : List Int) : D := .tuple (p.map .int)
def Tm.atZ : Tm → List Int → Option Tm
  | t, [] => some t
  | .leaf _ _, _ :: _ => none
  | .node _ a b, x :: p => if x = 0 then a.atZ p else if x = 1 then b.atZ p else none
def Tm.putZ (u : Tm) : Tm → List Int → Tm
  | _, [] => u
  | .leaf o i, _ :: _ => .leaf o i
  | .node s a b, x :: p => if x = 0 then .node s (Tm.putZ u a p) b else .node s a (Tm.putZ u b p)
theorem Tm.atZ_nil (t : Tm) : t.atZ [] = some t := by cases t <;> rfl
theorem Tm.putZ_nil (u t : Tm) : Tm.putZ u t [] = u := by cases t <;> rfl
theorem putZ_form {v u : Tm} (hf : u.form = v.form) (hl : u.ls.length = v.ls.length) (ho : v.ok → u.ok) : ∀ (p : List Int) (t : Tm), t.atZ p = some v → (Tm.putZ u t p).form = t.form ∧ (Tm.putZ u t p).ls.length = t.ls.length ∧ (t.ok → (Tm.putZ u t p).ok)
  | [], t, h => by rw [Tm.atZ_nil] at h; cases h; rw [Tm.putZ_nil]; exact ⟨hf, hl, ho⟩
  | y :: p, .leaf _ _, h => by simp [Tm.atZ] at h
  | y :: p, .node s a b, h => by
    by_cases c : y = 0
    · obtain ⟨i1, i2, i3⟩ := putZ_form hf hl ho p a (by simpa [Tm.atZ, c] using h)
      simp only [Tm.putZ, c, if_true]
      exact ⟨node_of s i1 rfl, by simp [Tm.ls] at i2 ⊢; exact i2, fun h => ⟨i3 h.1, h.2⟩⟩
    · by_cases c1 : y = 1
      · obtain ⟨i1, i2, i3⟩ := putZ_form hf hl ho p b (by simpa [Tm.atZ, c1] using h)
        simp only [Tm.putZ, c, if_false]
        exact ⟨node_of s rfl i1, by simp [Tm.ls] at i2 ⊢; exact i2, fun h => ⟨h.1, i3 h.2⟩⟩
      · simp [Tm.atZ, c, c1] at h
theorem atZ_putZ {v u : Tm} : ∀ (p : List Int) (t : Tm), t.atZ p = some v → (Tm.putZ u t p).atZ p = some u
  | [], t, h => by rw [Tm.putZ_nil, Tm.atZ_nil]
  | y :: p, .leaf _ _, h => by simp [Tm.atZ] at h
  | y :: p, .node s a b, h => by
    by_cases c : y = 0
    · have := atZ_putZ (u := u) p a (by simpa [Tm.atZ, c] using h)
      simp [Tm.putZ, Tm.atZ, c, this]
    · by_cases c1 : y = 1
      · have := atZ_putZ (u := u) p b (by simpa [Tm.atZ, c1] using h)
        simp [Tm.putZ, Tm.atZ, c1, this]
      · simp [Tm.atZ, c, c1] at h
theorem putZ_putZ {v u : Tm} : ∀ (p : List Int) (t : Tm), t.atZ p = some v → Tm.putZ v (Tm.putZ u t p) p = t
  | [], t, h => by rw [Tm.atZ_nil] at h; cases h; rw [Tm.putZ_nil]
  | y :: p, .leaf _ _, h => by simp [Tm.atZ] at h
  | y :: p, .node s a b, h => by
    by_cases c : y = 0
    · have := putZ_putZ (u := u) p a (by simpa [Tm.atZ, c] using h)
      simp [Tm.putZ, c, this]
    · by_cases c1 : y = 1
      · have := putZ_putZ (u := u) p b (by simpa [Tm.atZ, c1] using h)
        simp [Tm.putZ, c1, this]
      · simp [Tm.atZ, c, c1] at h
theorem plI_lay (p : List Int) : (plI p).canLay0 = true := by
  simp only [plI, PyData.canLay0]
  exact layAll_map (f := PyData.int) (fun b => by simp [PyData.canLay0]) p
theorem plI_eqv (p : List Int) : PyData.eqv (plI p) (.tuple []) = p.isEmpty := by cases p <;> simp [plI, PyData.eqv, PyData.eqvAll]
theorem plI_eqOk (p : List Int) : eqOk (plI p) (.tuple []) = true := eqOk_nilT (by simpa [plI, PyData.canLay0] using plI_lay p)

/-! ### words -/
def turnS (x : Str) (t : Tm) : Option Tm := if x = Str.ofString "swap" then turnO .swap t else if x = Str.ofString "left" then turnO .left t else if x = Str.ofString "right" then turnO .right t else none
def moveR (x : Str) : Tm → List Int → Option Tm
  | t, [] => turnS x t
  | .leaf _ _, _ :: _ => none
  | .node s a b, y :: p => if y = 0 then (moveR x a p).map fun a' => .node s a' b else if y = 1 then (moveR x b p).map fun b' => .node s a b' else none
theorem moveR_nil (x : Str) (t : Tm) : moveR x t [] = turnS x t := by cases t <;> rfl
theorem moveR_eq (x : Str) : ∀ (p : List Int) (t : Tm), moveR x t p = (t.atZ p).bind fun u => (turnS x u).map fun v => Tm.putZ v t p
  | [], t => by
    rw [moveR_nil, Tm.atZ_nil]
    simp [Tm.putZ_nil]
  | y :: p, .leaf _ _ => by simp [moveR, Tm.atZ]
  | y :: p, .node s a b => by
    by_cases c : y = 0
    · subst c
      simp only [moveR, Tm.atZ, if_true, moveR_eq x p a]
      cases a.atZ p with
      | none => rfl
      | some u => cases e : turnS x u <;> simp [e, Tm.putZ]
    · by_cases c1 : y = 1
      · subst c1
        simp only [moveR, Tm.atZ, c, if_false, if_true, moveR_eq x p b]
        cases b.atZ p with
        | none => rfl
        | some u => cases e : turnS x u <;> simp [e, Tm.putZ]
      · simp [moveR, Tm.atZ, c, c1]
theorem turnS_keeps {x : Str} {t u : Tm} (h : turnS x t = some u) : u.form = t.form ∧ u.ls.length = t.ls.length ∧ (t.ok → u.ok) := by
  unfold turnS at h
  split at h
  · exact turn_keeps h
  · split at h
    · exact turn_keeps h
    · split at h
      · exact turn_keeps h
      · cases h
theorem moveR_keeps {x : Str} {t u : Tm} {p : List Int} (h : moveR x t p = some u) : u.form = t.form ∧ u.ls.length = t.ls.length ∧ (t.ok → u.ok) := by
  rw [moveR_eq] at h
  cases e : t.atZ p with
  | none => rw [e] at h; cases h
  | some v =>
    rw [e] at h
    cases e2 : turnS x v with
    | none => simp [e2] at h
    | some v' =>
      simp [e2] at h
      subst h
      obtain ⟨k1, k2, k3⟩ := turnS_keeps e2
      exact putZ_form k1 k2 k3 p t e
def Wd.back : Wd → Wd
  | .swap => .swap
  | .left => .right
  | .right => .left
theorem turnS_wd (w : Wd) (t : Tm) : turnS w.s t = turnO w t := by cases w <;> simp [turnS, Wd.s]
theorem turn_back {w : Wd} {t u : Tm} (h : turnO w t = some u) : turnO w.back u = some t := by
  unfold turnO at h
  split at h
  · split at h
    · cases h
    · cases h; rename_i hs; simp [Wd.back, turnO, hs]
  · split at h
    · cases h
    · split at h
      · rename_i hs e
        subst e; cases h; simp [Wd.back, turnO, hs]
      · cases h
  · split at h
    · cases h
    · split at h
      · rename_i hs e
        subst e; cases h; simp [Wd.back, turnO, hs]
      · cases h
  · cases h
theorem move_back {w : Wd} {t u : Tm} {p : List Int} (h : moveR w.s t p = some u) : moveR w.back.s u p = some t := by
  rw [moveR_eq] at h ⊢
  cases e : t.atZ p with
  | none => rw [e] at h; cases h
  | some v =>
    rw [e] at h
    cases e2 : turnS w.s v with
    | none => simp [e2] at h
    | some v' =>
      simp [e2] at h
      subst h
      rw [atZ_putZ p t e]
      have e3 : turnS w.back.s v' = some v := by rw [turnS_wd] at e2 ⊢; exact turn_back e2
      simp [e3, putZ_putZ p t e]
structure Lib11 (T : Str → Option Fd) (R : Nat → S) : Prop where
  part : T (Str.ofString "part_at") = some ⟨2, 3, b_part_at R, 0⟩
  with_ : T (Str.ofString "with_part") = some ⟨3, 3, b_with_part, 0⟩
  turn : T (Str.ofString "turned") = some ⟨2, 3, b_turned R, 0⟩
  done : T (Str.ofString "done") = some ⟨2, 2, b_done, 0⟩
section
variable {GL : Str → Option D} {T : Str → Option Fd} {L : Nat} {R : Nat → S}
theorem atZ_split : ∀ (q p : List Int) (t : Tm), t.atZ (q ++ p) = (t.atZ q).bind fun u => u.atZ p
  | [], p, t => by rw [Tm.atZ_nil]; rfl
  | y :: q, p, .leaf _ _ => by simp [Tm.atZ]
  | y :: q, p, .node s a b => by
    by_cases c : y = 0
    · simp [Tm.atZ, c, atZ_split q p a]
    · by_cases c1 : y = 1
      · simp [Tm.atZ, c1, atZ_split q p b]
      · simp [Tm.atZ, c, c1]
theorem r_part_at (l1 : Lib1 GL T R) (l : Lib11 T R) (t : Tm) (p : List Int) (n : Nat) (hn : 1 ≤ n) (hR : (t.atZ p).isSome = true ∨ R = .raise) :
    callD GL T L (n + 1) (Str.ofString "part_at") [t.d, plI p] = match t.atZ p with | some u => .ok u.d .fr | none => .exc 3 := by
  refine call_runs l.part rfl ?_
  unfold b_part_at
  simp only [startG_def]
  refine .forX (ds := p.map .int) (fun i g => ∃ (u : Tm) (z : Sl), g = [some (u.d, .fr), some (plI p, .fr), z] ∧ t.atZ (p.take i) = some u) (by simp; exact ⟨rfl, rfl⟩) (by decide) rfl ⟨t, none, rfl, by simp [Tm.atZ_nil]⟩ ?_ ?_
  · rintro i d g hd ⟨u, z, rfl, hu⟩
    have hlt : i < p.length := by simpa using (List.getElem?_eq_some_iff.mp hd).1
    have ed : d = .int p[i] := by
      rw [List.getElem?_map, List.getElem?_eq_getElem hlt] at hd
      cases hd; rfl
    subst ed
    have e0 : t.atZ p = (u.atZ (p.drop i)) := by
      have := atZ_split (p.take i) (p.drop i) t
      rw [List.take_append_drop, hu] at this
      exact this
    have e1 : p.drop i = p[i] :: p.drop (i + 1) := List.drop_eq_getElem_cons hlt
    have e3 : p.take (i + 1) = p.take i ++ [p[i]] := List.take_succ_eq_append_getElem hlt
    have e4 := atZ_split (p.take i) [p[i]] t
    rw [hu, ← e3] at e4
    have c := r_is_leaf (L := L) l1 u n hn
    rw [e1] at e0
    generalize p[i] = y at *
    have bad : t.atZ p = none → R = .raise := fun h => hR.elim (fun z => by rw [h] at z; cases z) id
    show _ ∨ _
    cases u with
    | leaf o k =>
      right
      have e5 : t.atZ p = none := by rw [e0]; simp [Tm.atZ]
      rw [bad e5, e5]
      refine ⟨3, [some ((Tm.leaf o k).d, .fr), some (plI p, .fr), some (.int y, .fr)], ?_, rfl⟩
      simp [c]
    | node s a b =>
      by_cases h0 : y = 0
      · subst h0
        left
        refine ⟨[some (a.d, .fr), some (plI p, .fr), some (.int 0, .fr)], ?_, a, _, rfl, by rw [e4]; simp [Tm.atZ, Tm.atZ_nil]⟩
        simp only [Tm.d] at c
        simp [c, Tm.d]
      · by_cases h1 : y = 1
        · subst h1
          left
          refine ⟨[some (b.d, .fr), some (plI p, .fr), some (.int 1, .fr)], ?_, b, _, rfl, by rw [e4]; simp [Tm.atZ, Tm.atZ_nil]⟩
          simp only [Tm.d] at c
          simp [c, Tm.d]
        · right
          have e5 : t.atZ p = none := by rw [e0]; simp [Tm.atZ, h0, h1]
          rw [bad e5, e5]
          refine ⟨3, [some ((Tm.node s a b).d, .fr), some (plI p, .fr), some (.int y, .fr)], ?_, rfl⟩
          by_cases h2 : y < 0
          · simp [c, h2]
          · have h3 : 1 < y := by omega
            simp [c, h2, h3]
  · rintro g ⟨u, z, rfl, hu⟩
    have e : (p.map PyData.int).length = p.length := by simp
    rw [e, List.take_length] at hu
    rw [hu]
    exact .ret (d := u.d) (m := .fr) (by simp; rfl) rfl
theorem plI_cut (x : Int) (p : List Int) : cutL (List.map PyData.int (x :: p)) (some 1) none = List.map PyData.int p := by rw [List.map_cons, cut_tail]
theorem r_with_part (l : Lib11 T R) (v : Tm) : ∀ (p : List Int) (t u : Tm), t.atZ p = some u → Calls GL T L (p.length + 1) (Str.ofString "with_part") [t.d, plI p, v.d] (.ok (Tm.putZ v t p).d .fr)
  | [], t, u, h => by
    intro n hn
    obtain ⟨n, rfl⟩ : ∃ m, n = m + 1 := ⟨n - 1, by omega⟩
    refine call_runs l.with_ rfl ?_
    unfold b_with_part
    simp only [startG_def]
    refine .ifT (by simp [plI_eqOk, plI_eqv]; exact ⟨rfl, rfl⟩) (.as ?_)
    rw [Tm.putZ_nil]
    exact .ret (d := v.d) (m := .fr) (by simp; rfl) rfl
  | x :: p, .leaf _ _, u, h => by simp [Tm.atZ] at h
  | x :: p, .node s a b, u, h => by
    intro n hn
    obtain ⟨n, rfl⟩ : ∃ m, n = m + 1 := ⟨n - 1, by omega⟩
    simp only [List.length_cons] at hn
    have hcut := plI_cut x p
    have e1 : PyData.eqv (plI (x :: p)) (.tuple []) = false := by rw [plI_eqv]; rfl
    have e2 := plI_eqOk (x :: p)
    refine call_runs l.with_ rfl ?_
    unfold b_with_part
    simp only [startG_def]
    refine .ifF (by simp [e1, e2]; exact ⟨rfl, rfl⟩) (.skip ?_)
    by_cases c : x = 0
    · subst c
      have ca := r_with_part l v p a u (by simpa [Tm.atZ] using h) n (by omega)
      refine .ifT (by simp [plI]; exact ⟨rfl, rfl⟩) (.as ?_)
      refine .ret (d := (Tm.putZ v (.node s a b) (0 :: p)).d) (m := .fr) (g1 := [some ((Tm.node s a b).d, .fr), some (plI (0 :: p), .fr), some (v.d, .fr)]) ?_ rfl
      simp [plI] at hcut ca
      simp [plI, Tm.d, hcut, ca, Tm.putZ]
    · by_cases c1 : x = 1
      · subst c1
        have cb := r_with_part l v p b u (by simpa [Tm.atZ] using h) n (by omega)
        refine .ifF (by simp [plI]; exact ⟨rfl, rfl⟩) (.skip ?_)
        refine .ret (d := (Tm.putZ v (.node s a b) (1 :: p)).d) (m := .fr) (g1 := [some ((Tm.node s a b).d, .fr), some (plI (1 :: p), .fr), some (v.d, .fr)]) ?_ rfl
        simp [plI] at hcut cb
        simp [plI, Tm.d, hcut, cb, Tm.putZ]
      · simp [Tm.atZ, c, c1] at h
theorem r_turnP (l : Lib11 T R) {x : Str} (kx : PyData.strOk x = true) (t : Tm) (n : Nat) (hR : (turnS x t).isSome = true ∨ R = .raise) :
    callD GL T L (n + 1) (Str.ofString "turned") [t.d, .str x] = match turnS x t with | some u => .ok u.d .fr | none => .exc 3 := by
  have bad : turnS x t = none → R = .raise := fun h => hR.elim (fun z => by rw [h] at z; cases z) id
  have k1 := eqOk_str kx (show PyData.strOk (Str.ofString "swap") = true by simp)
  have k2 := eqOk_str kx (show PyData.strOk (Str.ofString "left") = true by simp)
  have k3 := eqOk_str kx (show PyData.strOk (Str.ofString "right") = true by simp)
  have wd : ∀ t : Tm, ∃ y r, t.d = .tuple (.str y :: r) ∧ PyData.strOk y = true := fun t => by
    cases t with
    | leaf o i => exact ⟨_, _, rfl, lay_kS o⟩
    | node s a b => exact ⟨_, _, rfl, lay_sS s⟩
  refine call_runs l.turn rfl ?_
  unfold b_turned
  simp only [startG_def]
  cases t with
  | leaf o i =>
    have e5 : turnS x (.leaf o i) = none := by simp [turnS, turnO]
    rw [bad e5, e5]
    refine .set (p := (.str (kS o), .fr)) (by simp [Tm.d]; rfl) ?_
    exact .ifT (m := .fr) (g1 := [some ((Tm.leaf o i).d, .fr), some (.str x, .fr), some (.str (kS o), .fr)]) (by cases o <;> simp [kS, Tm.d]) (.as (.raise rfl))
  | node s a b =>
    by_cases hs : s = .pair
    · subst hs
      have e5 : turnS x (.node .pair a b) = none := by
        simp only [turnS]
        split
        · rfl
        · split
          · unfold turnO; split <;> first | rfl | simp_all
          · split
            · unfold turnO; split <;> first | rfl | simp_all
            · rfl
      rw [bad e5, e5]
      refine .set (p := (.str (Str.ofString "pair"), .fr)) (by simp [Tm.d, Sn.s]; rfl) ?_
      exact .ifT (by simp; exact ⟨rfl, rfl⟩) (.as (.raise rfl))
    · have ks := lay_sS s
      have m1 : s.s = Str.ofString "sum" ∨ s.s = Str.ofString "mul" := Sn.join hs
      refine .set (p := (.str s.s, .fr)) (by simp [Tm.d]; rfl) ?_
      refine .ifF (m := .fr) (g1 := [some ((Tm.node s a b).d, .fr), some (.str x, .fr), some (.str s.s, .fr)]) (by rcases m1 with m1 | m1 <;> simp [m1, Tm.d]) (.skip ?_)
      by_cases x1 : x = Str.ofString "swap"
      · subst x1
        have e5 : turnS (Str.ofString "swap") (.node s a b) = some (.node s b a) := by simp [turnS, turnO, hs]
        rw [e5]
        exact .ifT (by simp; exact ⟨rfl, rfl⟩) (.as (.ret (d := (Tm.node s b a).d) (m := .fr) (by simp [Tm.d]; rfl) rfl))
      · refine .ifF (m := .fr) (g1 := [some ((Tm.node s a b).d, .fr), some (.str x, .fr), some (.str s.s, .fr)]) (by simp [k1, x1]) (.skip ?_)
        by_cases x2 : x = Str.ofString "left"
        · subst x2
          have fin : ∀ {u : Option Tm}, turnO .left (.node s a b) = u → turnS (Str.ofString "left") (.node s a b) = u := fun h => by simp [turnS, h]
          have no : turnO .left (.node s a b) = none → (ev GL (callD GL T L n) (.and_ (.cons (.cmp .eq (.var 1) (.str "left")) (.cons (.cmp .eq (.ix (.ix (.var 0) (.int (2))) (.int (0))) (.var 2)) .nil))) [some ((Tm.node s a b).d, .fr), some (.str (Str.ofString "left"), .fr), some (.str s.s, .fr)]) = .ok (.bool false, .fr) [some ((Tm.node s a b).d, .fr), some (.str (Str.ofString "left"), .fr), some (.str s.s, .fr)] → Runs GL (callD GL T L n) L (.seq (.ite (.and_ (.cons (.cmp .eq (.var 1) (.str "left")) (.cons (.cmp .eq (.ix (.ix (.var 0) (.int (2))) (.int (0))) (.var 2)) .nil))) (.seq (.ret (.tup (.cons (.var 2) (.cons (.tup (.cons (.var 2) (.cons (.ix (.var 0) (.int (1))) (.cons (.ix (.ix (.var 0) (.int (2))) (.int (1))) .nil)))) (.cons (.ix (.ix (.var 0) (.int (2))) (.int (2))) .nil))))) .skip) .skip) (.seq (.ite (.and_ (.cons (.cmp .eq (.var 1) (.str "right")) (.cons (.cmp .eq (.ix (.ix (.var 0) (.int (1))) (.int (0))) (.var 2)) .nil))) (.seq (.ret (.tup (.cons (.var 2) (.cons (.ix (.ix (.var 0) (.int (1))) (.int (1))) (.cons (.tup (.cons (.var 2) (.cons (.ix (.ix (.var 0) (.int (1))) (.int (2))) (.cons (.ix (.var 0) (.int (2))) .nil)))) .nil))))) .skip) .skip) (.seq (R 3) .skip))) [some ((Tm.node s a b).d, .fr), some (.str (Str.ofString "left"), .fr), some (.str s.s, .fr)] fun z => toCR z = match turnS (Str.ofString "left") (.node s a b) with | some u => .ok u.d .fr | none => .exc 3 := fun h hev => by
            rw [bad (fin h), fin h]
            refine .ifF hev (.skip ?_)
            exact .ifF (m := .fr) (g1 := [some ((Tm.node s a b).d, .fr), some (.str (Str.ofString "left"), .fr), some (.str s.s, .fr)]) (by simp) (.skip (.raise rfl))
          cases b with
          | leaf o i =>
            have e : kS o ≠ s.s := kS_sn
            exact no rfl (by simp [Tm.d, eqOk_str (lay_kS o) ks, e])
          | node s' b c =>
            by_cases e : s' = s
            · subst e
              rw [fin (show turnO .left (.node s' a (.node s' b c)) = some (.node s' (.node s' a b) c) by simp [turnO, hs])]
              exact .ifT (m := .fr) (g1 := [some ((Tm.node s' a (.node s' b c)).d, .fr), some (.str (Str.ofString "left"), .fr), some (.str s'.s, .fr)]) (by simp [Tm.d, eqOk_str ks ks]) (.as (.ret (d := (Tm.node s' (.node s' a b) c).d) (m := .fr) (by simp [Tm.d]; rfl) rfl))
            · have e2 : s'.s ≠ s.s := fun z => e (Sn.inj z)
              exact no (by simp [turnO, hs, e]) (by simp [Tm.d, eqOk_str (lay_sS s') ks, e2])
        · refine .ifF (m := .fr) (g1 := [some ((Tm.node s a b).d, .fr), some (.str x, .fr), some (.str s.s, .fr)]) (by simp [k2, x2]) (.skip ?_)
          by_cases x3 : x = Str.ofString "right"
          · subst x3
            have fin : ∀ {u : Option Tm}, turnO .right (.node s a b) = u → turnS (Str.ofString "right") (.node s a b) = u := fun h => by simp [turnS, h]
            have no : turnO .right (.node s a b) = none → (ev GL (callD GL T L n) (.and_ (.cons (.cmp .eq (.var 1) (.str "right")) (.cons (.cmp .eq (.ix (.ix (.var 0) (.int (1))) (.int (0))) (.var 2)) .nil))) [some ((Tm.node s a b).d, .fr), some (.str (Str.ofString "right"), .fr), some (.str s.s, .fr)]) = .ok (.bool false, .fr) [some ((Tm.node s a b).d, .fr), some (.str (Str.ofString "right"), .fr), some (.str s.s, .fr)] → Runs GL (callD GL T L n) L (.seq (.ite (.and_ (.cons (.cmp .eq (.var 1) (.str "right")) (.cons (.cmp .eq (.ix (.ix (.var 0) (.int (1))) (.int (0))) (.var 2)) .nil))) (.seq (.ret (.tup (.cons (.var 2) (.cons (.ix (.ix (.var 0) (.int (1))) (.int (1))) (.cons (.tup (.cons (.var 2) (.cons (.ix (.ix (.var 0) (.int (1))) (.int (2))) (.cons (.ix (.var 0) (.int (2))) .nil)))) .nil))))) .skip) .skip) (.seq (R 3) .skip)) [some ((Tm.node s a b).d, .fr), some (.str (Str.ofString "right"), .fr), some (.str s.s, .fr)] fun z => toCR z = match turnS (Str.ofString "right") (.node s a b) with | some u => .ok u.d .fr | none => .exc 3 := fun h hev => by
              rw [bad (fin h), fin h]
              exact .ifF hev (.skip (.raise rfl))
            cases a with
            | leaf o i =>
              have e : kS o ≠ s.s := kS_sn
              exact no rfl (by simp [Tm.d, eqOk_str (lay_kS o) ks, e])
            | node s' a a2 =>
              by_cases e : s' = s
              · subst e
                rw [fin (show turnO .right (.node s' (.node s' a a2) b) = some (.node s' a (.node s' a2 b)) by simp [turnO, hs])]
                exact .ifT (m := .fr) (g1 := [some ((Tm.node s' (.node s' a a2) b).d, .fr), some (.str (Str.ofString "right"), .fr), some (.str s'.s, .fr)]) (by simp [Tm.d, eqOk_str ks ks]) (.as (.ret (d := (Tm.node s' a (.node s' a2 b)).d) (m := .fr) (by simp [Tm.d]; rfl) rfl))
              · have e2 : s'.s ≠ s.s := fun z => e (Sn.inj z)
                exact no (by simp [turnO, hs, e]) (by simp [Tm.d, eqOk_str (lay_sS s') ks, e2])
          · have e5 : turnS x (.node s a b) = none := by simp [turnS, x1, x2, x3]
            rw [bad e5, e5]
            refine .ifF (m := .fr) (g1 := [some ((Tm.node s a b).d, .fr), some (.str x, .fr), some (.str s.s, .fr)]) (by simp [k3, x3]) (.skip (.raise rfl))
/-- a move -/
def mvD (x : Str) (p : List Int) : D := .tuple [.str x, plI p]
theorem r_done (l1 : Lib1 GL T R) (l : Lib11 T R) {x : Str} (kx : PyData.strOk x = true) (t : Tm) (p : List Int) (n : Nat) (hn : p.length + 2 ≤ n) (hR : (moveR x t p).isSome = true ∨ R = .raise) :
    callD GL T L (n + 1) (Str.ofString "done") [t.d, mvD x p] = match moveR x t p with | some u => .ok u.d .fr | none => .exc 3 := by
  have h1 : (t.atZ p).isSome = true ∨ R = .raise := hR.imp_left fun h => by
    rw [moveR_eq] at h
    cases e : t.atZ p with
    | none => rw [e] at h; cases h
    | some u => rfl
  have c1 := r_part_at (L := L) l1 l t p (n - 1) (by omega) h1
  rw [show n - 1 + 1 = n by omega] at c1
  rw [moveR_eq] at hR ⊢
  refine call_runs l.done rfl ?_
  unfold b_done
  simp only [startG_def]
  cases e : t.atZ p with
  | none =>
    rw [e] at c1
    exact .retX (g1 := [some (t.d, .fr), some (mvD x p, .fr)]) (by simp [mvD, c1]) rfl
  | some u =>
    rw [e] at c1 hR
    have h2 : (turnS x u).isSome = true ∨ R = .raise := hR.imp_left fun h => by simpa using h
    have c2 := r_turnP (GL := GL) (T := T) (L := L) l kx u (n - 1) h2
    rw [show n - 1 + 1 = n by omega] at c2
    cases e2 : turnS x u with
    | none =>
      rw [e2] at c2
      exact .retX (c := 3) (g1 := [some (t.d, .fr), some (mvD x p, .fr)]) (by simp [mvD, c1, c2]) (by simp [e2])
    | some v =>
      rw [e2] at c2
      have c3 := r_with_part (GL := GL) (L := L) l v p t u e n (by omega)
      exact .ret (d := (Tm.putZ v t p).d) (m := .fr) (g1 := [some (t.d, .fr), some (mvD x p, .fr)]) (by simp [mvD, c1, c2, c3]) (by simp [e2])
theorem r_movedP (l1 : Lib1 GL T R) (hv : (T (Str.ofString "leaves")).isSome = true) (l : Lib11 T R) (hT : T (Str.ofString "moved") = some ⟨2, 2, b_moved, 0⟩) (hL : 200 < L) {x : Str} (kx : PyData.strOk x = true) (t : Tm) (ok : t.ok) (h40 : t.ls.length ≤ 40) (p : List Int) (n : Nat) (hn : p.length + 5 ≤ n) (hR : (moveR x t p).isSome = true ∨ R = .raise) :
    callD GL T L (n + 1) (Str.ofString "moved") [t.d, mvD x p] = match moveR x t p with | some u => .ok u.d .fr | none => .exc 3 := by
  have c0 := r_leaves (L := L) l1 hv hL t ok h40 n (by omega)
  have c1 := r_done (L := L) l1 l kx t p (n - 1) (by omega) hR
  rw [show n - 1 + 1 = n by omega] at c1
  refine call_runs hT rfl ?_
  unfold b_moved
  simp only [startG_def]
  refine .ex (by simp [c0]; exact ⟨rfl, rfl⟩) ?_
  cases e : moveR x t p with
  | none => rw [e] at c1; exact .retX (g1 := [some (t.d, .fr), some (mvD x p, .fr)]) (by simp [c1]) rfl
  | some u => rw [e] at c1; exact .ret (d := u.d) (m := .fr) (g1 := [some (t.d, .fr), some (mvD x p, .fr)]) (by simp [c1]) rfl
/-- what BACK tells of the three words -/
structure LibK (GL : Str → Option D) : Prop where
  is : isDictO (GL (Str.ofString "BACK")) = true
  has : ∀ w : Wd, gninD (GL (Str.ofString "BACK")) (.str w.s) = some (.bool false, .fr)
  get : ∀ w : Wd, gixD (GL (Str.ofString "BACK")) (.str w.s) = some (.str w.back.s, .fr)
theorem r_back (hT : T (Str.ofString "back") = some ⟨1, 1, b_back R, 0⟩) (k : LibK GL) (w : Wd) (p : List Int) (n : Nat) : callD GL T L (n + 1) (Str.ofString "back") [mvD w.s p] = .ok (mvD w.back.s p) .fr := by
  refine call_runs hT rfl ?_
  unfold b_back
  simp only [startG_def]
  refine .ifF (m := .fr) (g1 := [some (mvD w.s p, .fr)]) (by simp [mvD, k.is, k.has]) (.skip ?_)
  exact .ret (d := mvD w.back.s p) (m := .fr) (g1 := [some (mvD w.s p, .fr)]) (by simp [mvD, k.is, k.get]) rfl
end
end DL

set_option Elab.async false
set_option linter.all false
set_option maxRecDepth 100000
/-! PN: the laws' own turned (None where it can't be done), places (k05, k07, k08). -/
namespace DL
open PySem L2
def oD : Option Tm → D
  | some u => u.d
  | none => .none
theorem isNone_d (u : Tm) : isNoneD u.d = false := by cases u <;> rfl
section
variable {GL : Str → Option D} {T : Str → Option Fd} {L : Nat} {R : Nat → S}
/-- a term that waits, and its place -/
def tzD (q : Tm × List Int) : D := .tuple [q.1.d, plI q.2]
theorem tzD_lay (q : Tm × List Int) : (tzD q).canLay0 = true := by simp [tzD, PyData.canLay0, PyData.canLayAll0, q.1.lay, plI_lay]
theorem szs_snocZ (ws : List (Tm × List Int)) (t : Tm × List Int) : szs ((ws ++ [t]).map (·.1)) = szs (ws.map (·.1)) + t.1.sz := by simp [szs]
theorem r_places (hT : T (Str.ofString "_law_places") = some ⟨1, 4, b__law_places, 0⟩) (t : Tm) (h60 : t.ls.length ≤ 60) (hL : 200 < L) (n : Nat) :
    ∃ ps : List (List Int), 1 ≤ ps.length ∧ ps.length ≤ 1000 ∧ (∀ p ∈ ps, p.length + 1 ≤ t.ls.length) ∧ callD GL T L (n + 1) (Str.ofString "_law_places") [t.d] = .ok (.list (ps.map plI)) .ow := by
  suffices h : Runs GL (callD GL T L n) L b__law_places (startG 4 [t.d]) fun x => ∃ ps : List (List Int), 1 ≤ ps.length ∧ ps.length ≤ 1000 ∧ (∀ p ∈ ps, p.length + 1 ≤ t.ls.length) ∧ toCR x = .ok (.list (ps.map plI)) .ow by
    obtain ⟨ps, h0, h1, h2, h3⟩ := h
    exact ⟨ps, h0, h1, h2, call_runs hT rfl h3⟩
  have hsz := t.sz_ls
  unfold b__law_places
  simp only [startG_def]
  refine .set (p := (.list [], .ow)) (by simp; rfl) ?_
  refine .set (p := (.list [tzD (t, [])], .ow)) (by simp; exact ⟨rfl, rfl⟩) ?_
  refine .whl (fun m g => ∃ (fs : List (List Int)) (ws : List (Tm × List Int)) (x : Sl), g = [some (t.d, .fr), some (.list (fs.map plI), .ow), some (.list (ws.map tzD), .ow), x] ∧ (∀ p ∈ fs, p.length + 1 ≤ t.ls.length) ∧ (∀ q ∈ ws, q.2.length + q.1.ls.length ≤ t.ls.length) ∧ szs (ws.map (·.1)) = m ∧ m + fs.length ≤ t.sz ∧ 1 ≤ fs.length + ws.length)
    t.sz (by omega) ⟨[], [(t, [])], none, rfl, by simp, by simp, by simp [szs], by simp, by simp⟩ ?_
  rintro m g ⟨fs, ws, x, rfl, h1, h2, h3, h4, h5⟩
  rcases snoc_cases ws with rfl | ⟨ws, ⟨u, q⟩, rfl⟩
  · left
    refine ⟨_, _, by simp [eqv_nil]; exact ⟨rfl, rfl⟩, ?_⟩
    exact .ret (d := .list (fs.map plI)) (m := .ow) (by simp; rfl) ⟨fs, by simpa using h5, by omega, h1, rfl⟩
  · right
    have hq : q.length + u.ls.length ≤ t.ls.length := h2 (u, q) (by simp)
    have hlay : PyData.canLayAll0 (ws.map tzD ++ [tzD (u, q)]) = true := by simpa using layAll_map tzD_lay (ws ++ [(u, q)])
    rw [szs_snocZ] at h3
    have hws : ws.length ≤ szs (ws.map (·.1)) := by simpa using len_le_szs (ws.map (·.1))
    have hup := u.ls_pos
    have f1 : ∀ p ∈ fs ++ [q], p.length + 1 ≤ t.ls.length := fun p hp => by
      rcases List.mem_append.mp hp with hp | hp
      · exact h1 p hp
      · simp at hp; subst hp; omega
    refine ⟨_, _, by simp [eqOk_nil hlay, eqv_nil]; exact ⟨rfl, rfl⟩, ?_⟩
    cases u with
    | leaf o i =>
      simp [Tm.sz] at h3
      have z1 : fs.length < 16777216 := by omega
      refine ⟨[some (t.d, .fr), some (.list ((fs ++ [q]).map plI), .ow), some (.list (ws.map tzD), .ow), some (tzD (.leaf o i, q), .fr)], ?_, szs (ws.map (·.1)), ?_, fs ++ [q], ws, _, rfl, f1, fun v hv => h2 v (by simp [hv]), rfl, ?_, by simp; omega⟩
      · simp [tzD, Tm.d, z1]
      · omega
      · simp; omega
    | node s a b =>
      have ed : ∀ c : Int, plI (q ++ [c]) = .tuple ((q.map .int) ++ [.int c]) := fun c => by simp [plI]
      simp only [Tm.sz] at h3
      simp only [Tm.ls, List.length_append] at hq
      have pa := a.ls_pos
      have pb := b.ls_pos
      have z1 : fs.length < 16777216 := by omega
      have z2 : ws.length < 16777216 := by omega
      have z3 : ws.length + 1 < 16777216 := by omega
      have z4 : q.length + 1 ≤ 16777216 := by omega
      have z5 : ws.length < 16777215 := by omega
      have z6 : q.length ≤ 16777215 := by omega
      have hws2 : ∀ v ∈ ws ++ [(b, q ++ [(1 : Int)]), (a, q ++ [(0 : Int)])], v.2.length + v.1.ls.length ≤ t.ls.length := fun v hv => by
        simp at hv
        rcases hv with hv | rfl | rfl
        · exact h2 v (by simp [hv])
        · simp; omega
        · simp; omega
      have hm2 : szs ((ws ++ [(b, q ++ [(1 : Int)]), (a, q ++ [(0 : Int)])]).map (·.1)) = szs (ws.map (·.1)) + b.sz + a.sz := by simp [szs]; omega
      refine ⟨[some (t.d, .fr), some (.list ((fs ++ [q]).map plI), .ow), some (.list ((ws ++ [(b, q ++ [(1 : Int)]), (a, q ++ [(0 : Int)])]).map tzD), .ow), some (tzD (.node s a b, q), .fr)], ?_, szs ((ws ++ [(b, q ++ [(1 : Int)]), (a, q ++ [(0 : Int)])]).map (·.1)), ?_, fs ++ [q], _, _, rfl, f1, hws2, rfl, ?_, by simp; omega⟩
      · simp [tzD, Tm.d, ed, plI, z1, z2, z3, z4, z5, z6]
      · rw [hm2]; omega
      · rw [hm2]; simp; omega
end
end DL

set_option Elab.async false
set_option linter.all false
set_option maxRecDepth 100000
/-! PM: the term that is made of cells (k03, k05, k07). -/
namespace DL
open PySem L2
section
variable {GL : Str → Option D} {T : Str → Option Fd} {L : Nat}
theorem r_made (hT : T (Str.ofString "_law_made") = some ⟨1, 4, b__law_made, 0⟩) (hl : T (Str.ofString "_law_leaf") = some ⟨1, 2, b__law_leaf, 0⟩) (cs : List Int) (hc : cs.length ≤ 60) (hL : 200 < L) (n : Nat) (hn : 1 ≤ n) :
    ∃ t : Tm, t.ok ∧ t.ls.length ≤ max 1 cs.length ∧ callD GL T L (n + 1) (Str.ofString "_law_made") [.list (cs.map .int)] = .ok t.d .fr := by
  rw [callD_succ hT rfl]
  simp [b__law_made]
  refine for_inv (I := fun i g => ∃ (ts : List Tm) (x y : Sl), g = [some (.list (cs.map .int), .fr), some (.list (ts.map Tm.d), .ow), x, y] ∧ (∀ t ∈ ts, t.ok) ∧ lsum ts ≤ i) (Q := fun r => ∃ t : Tm, t.ok ∧ t.ls.length ≤ max 1 cs.length ∧ toCR (r.bd _) = .ok t.d .fr) (cs.map .int) ⟨[], none, none, rfl, by simp, by simp [lsum]⟩ ?_ ?_
  · rintro i d g hd ⟨ts, x, y, rfl, h1, h2⟩
    have hlt : i < cs.length := by simpa using (List.getElem?_eq_some_iff.mp hd).1
    obtain ⟨c, rfl⟩ : ∃ c : Int, d = .int c := by
      rw [List.getElem?_map] at hd
      cases e : cs[i]? with
      | none => rw [e] at hd; cases hd
      | some c => rw [e] at hd; cases hd; exact ⟨c, rfl⟩
    have hcl := r_leaf (GL := GL) (L := L) hl (c / 8) n hn
    have hlen := lsum_len ts
    by_cases c1 : c % 8 < 4 ∨ ts.length < 2
    · refine ⟨[some (.list (cs.map .int), .fr), some (.list ((ts ++ [leafT (c / 8)]).map Tm.d), .ow), some (.int c, .fr), y], ?_, ts ++ [leafT (c / 8)], _, _, rfl, ?_, ?_⟩
      · have hs : ts.length < 16777216 := by omega
        by_cases c2 : c % 8 < 4
        · simp [c2, hcl, hs]
        · have c3 : (ts.length : Int) < 2 := by omega
          simp [c2, c3, hcl, hs]
      · intro t ht
        rcases List.mem_append.mp ht with ht | ht
        · exact h1 t ht
        · simp at ht; subst ht; exact leafT_ok _
      · rw [lsum_snoc, leafT_ls]; omega
    · have c2 : ¬ c % 8 < 4 := fun h => c1 (.inl h)
      have c3 : ¬ ts.length < 2 := fun h => c1 (.inr h)
      obtain ⟨us, a, b, rfl⟩ := two_last ts c3
      refine ⟨[some (.list (cs.map .int), .fr), some (.list ((us ++ [Tm.node (sgn4 (c % 8 - 4)) a b]).map Tm.d), .ow), some (.int c, .fr), some (b.d, .fr)], ?_, us ++ [Tm.node (sgn4 (c % 8 - 4)) a b], _, _, rfl, ?_, ?_⟩
      · have hs : us.length < 16777216 := by
          have e2 : (us ++ [a] ++ [b]).length = us.length + 2 := by simp
          rw [e2] at hlen
          omega
        have c4 : ¬ ((us.length : Int) + 2 < 2) := by omega
        have hm : c % 8 - 4 = 0 ∨ c % 8 - 4 = 1 ∨ c % 8 - 4 = 2 ∨ c % 8 - 4 = 3 := by omega
        rcases hm with hm | hm | hm | hm <;> simp [c2, c4, hs, hm, Tm.d, sgn4, Sn.s]
      · intro t ht
        rcases List.mem_append.mp ht with ht | ht
        · exact h1 t (by simp [ht])
        · simp at ht; subst ht
          exact ⟨h1 a (by simp), h1 b (by simp)⟩
      · rw [lsum_snoc, lsum_snoc] at h2
        rw [lsum_snoc]
        simp [Tm.ls]
        omega
  · rintro g ⟨ts, x, y, rfl, h1, h2⟩
    simp
    simp at h2
    have hlen := lsum_len ts
    refine whl_inv (I := fun m g => ∃ (ts : List Tm) (y : Sl), g = [some (.list (cs.map .int), .fr), some (.list (ts.map Tm.d), .ow), x, y] ∧ (∀ t ∈ ts, t.ok) ∧ lsum ts ≤ cs.length ∧ ts.length = m) (Q := fun r => ∃ t : Tm, t.ok ∧ t.ls.length ≤ max 1 cs.length ∧ toCR (r.bd _) = .ok t.d .fr) ?_ L ts.length _ (by omega) ⟨ts, y, rfl, h1, h2, rfl⟩
    rintro m g ⟨ts, y, rfl, h1, h2, rfl⟩
    by_cases c1 : ts.length < 2
    · left
      have c2 : ¬ (1 : Int) < (ts.length : Nat) := by omega
      refine ⟨_, _, by simp [c2]; exact ⟨rfl, rfl⟩, ?_⟩
      cases ts with
      | nil =>
        refine ⟨.leaf false 7, ⟨by omega, by simp⟩, by simp [Tm.ls]; omega, ?_⟩
        simp [eqv_nil, Tm.d, kS]
      | cons t r =>
        cases r with
        | cons _ _ => simp only [List.length_cons] at c1; omega
        | nil =>
          refine ⟨t, h1 t (by simp), by simp [lsum] at h2; omega, ?_⟩
          have hlay : PyData.canLayAll0 [t.d] = true := by simp [PyData.canLayAll0, t.lay]
          simp [eqOk_nil hlay, eqv_nil]
    · right
      obtain ⟨us, a, b, rfl⟩ := two_last ts c1
      have c2 : (1 : Int) < (us.length : Int) + 2 := by omega
      have hs : us.length < 16777216 := by
        have e := lsum_len (us ++ [a] ++ [b])
        have e2 : (us ++ [a] ++ [b]).length = us.length + 2 := by simp
        rw [e2] at e
        omega
      refine ⟨_, _, by simp [c2]; exact ⟨rfl, rfl⟩, [some (.list (cs.map .int), .fr), some (.list ((us ++ [Tm.node .sum a b]).map Tm.d), .ow), x, some (b.d, .fr)], ?_, us.length + 1, by simp, us ++ [Tm.node .sum a b], _, rfl, ?_, ?_, by simp⟩
      · simp [hs, Tm.d, Sn.s]
      · intro t ht
        rcases List.mem_append.mp ht with ht | ht
        · exact h1 t (by simp [ht])
        · simp at ht; subst ht
          exact ⟨h1 a (by simp), h1 b (by simp)⟩
      · rw [lsum_snoc, lsum_snoc] at h2
        rw [lsum_snoc]
        simp [Tm.ls]
        omega
end
end DL

set_option Elab.async false
set_option linter.all false
set_option maxRecDepth 100000
/-! G12: forms as they should be: joined, filled. -/
namespace DL
open PySem L2

theorem cf_parts {d : D} (h : CF d) {s : Sn} (hs : s ≠ .pair) : ∀ x ∈ partsD s.s d, CF x ∧ partsD s.s x = [x] := by
  have self : ∀ {y : Str} {ys : List D}, y ≠ s.s → CF (.tuple (.str y :: ys)) → ∀ x ∈ partsD s.s (.tuple (.str y :: ys)), CF x ∧ partsD s.s x = [x] := fun {y ys} hy hc x hx => by
    have e : partsD s.s (.tuple (.str y :: ys)) = [.tuple (.str y :: ys)] := by rw [partsD_word, if_neg hy]
    rw [e] at hx
    simp at hx
    subst hx
    exact ⟨hc, e⟩
  cases h with
  | leaf o i ok => exact self kS_sn (.leaf o i ok)
  | pair ha hb => exact self (fun e => hs (Sn.inj (s := .pair) (s' := s) e).symm) (.pair ha hb)
  | @join s' xs hs' h2 hc u hp =>
    by_cases c : s'.s = s.s
    · have e := Sn.inj c
      subst e
      intro x hx
      rw [partsD_word, if_pos rfl] at hx
      exact ⟨hc x hx, hp x hx⟩
    · exact self c (.join hs' h2 hc u hp)
theorem lvDs_append : ∀ xs ys : List D, lvDs (xs ++ ys) = lvDs xs + lvDs ys
  | [], ys => by simp [lvDs]
  | x :: xs, ys => by simp [lvDs, lvDs_append xs ys]; omega
theorem lvDs_perm {xs ys : List D} (h : xs.Perm ys) : lvDs xs = lvDs ys := by
  induction h with
  | nil => rfl
  | cons x _ ih => simp [lvDs, ih]
  | swap x y l => simp [lvDs]; omega
  | trans _ _ i1 i2 => exact i1.trans i2
theorem lv_parts (s : Str) (d : D) : lvDs (partsD s d) = lvD d := by
  unfold partsD
  split
  · split
    · simp [lvD, lvDs]
    · simp [lvDs]
  · simp [lvDs]
theorem lv_flat (s : Str) : ∀ ds : List D, lvDs (ds.flatMap (partsD s)) = lvDs ds
  | [] => rfl
  | d :: ds => by rw [List.flatMap_cons, lvDs_append, lv_parts, lv_flat s ds]; rfl
/-- joined forms are a form as it should be -/
theorem cf_join {s : Sn} (hs : s ≠ .pair) {ds : List D} (h : ∀ d ∈ ds, CF d) (h2 : 2 ≤ (ds.flatMap (partsD s.s)).length) :
    CF (.tuple (.str s.s :: sortD (ds.flatMap (partsD s.s)))) ∧ lvD (.tuple (.str s.s :: sortD (ds.flatMap (partsD s.s)))) = lvDs ds := by
  have hr : ∀ x ∈ ds.flatMap (partsD s.s), CF x ∧ partsD s.s x = [x] := fun x hx => by
    obtain ⟨d, h3, h4⟩ := List.mem_flatMap.mp hx
    exact cf_parts (h d h3) hs x h4
  have pm := sortD_perm (ds.flatMap (partsD s.s))
  have hr2 := fun x hx => hr x (pm.mem_iff.mp hx)
  refine ⟨.join hs (by rw [pm.length_eq]; exact h2) (fun x hx => (hr2 x hx).1) (sortD_up (fun x hx => (hr x hx).1.isF.plain) fun x hx y hy => (hr x hx).1.isF.cmp y (hr y hy).1.isF) fun x hx => (hr2 x hx).2, ?_⟩
  have e := lvDs_perm pm
  rw [lv_flat] at e
  cases s <;> simp [lvD, lvDs, e]
theorem cf_small {d : D} (h : CF d) : d.depth ≤ lvD d ∧ wt d + 2 ≤ 5 * lvD d ∧ 1 ≤ lvD d := by
  obtain ⟨t, _, f, _, l⟩ := grows h
  have h1 := t.form_ok.2
  have h2 := t.ht_ls
  have h3 := t.form_wt
  have h4 := t.ls_pos
  rw [f] at h1 h3
  omega
theorem lvDs_pos : ∀ {ds : List D}, (∀ d ∈ ds, CF d) → ds.length ≤ lvDs ds
  | [], _ => by simp [lvDs]
  | d :: ds, h => by
    have := (cf_small (h d List.mem_cons_self)).2.2
    have := lvDs_pos fun e he => h e (List.mem_cons_of_mem _ he)
    simp [lvDs]
    omega
theorem parts_pos {d : D} (h : CF d) {s : Str} : 1 ≤ (partsD s d).length := by
  cases h with
  | leaf o i _ => rw [partsD_word]; split <;> simp
  | pair _ _ => rw [partsD_word]; split <;> simp
  | join _ h2 _ _ _ =>
    rw [partsD_word]
    split
    · omega
    · simp
theorem flat_pos {s : Str} : ∀ {ds : List D}, (∀ d ∈ ds, CF d) → ds.length ≤ (ds.flatMap (partsD s)).length
  | [], _ => by simp
  | d :: ds, h => by
    have := parts_pos (s := s) (h d List.mem_cons_self)
    have := flat_pos (s := s) fun e he => h e (List.mem_cons_of_mem _ he)
    simp at *
    omega
theorem lvDs_len2 : ∀ xs : List D, (∀ x ∈ xs, 1 ≤ lvD x) → xs.length ≤ lvDs xs
  | [], _ => by simp [lvDs]
  | x :: xs, h => by
    have := h x List.mem_cons_self
    have := lvDs_len2 xs fun y hy => h y (List.mem_cons_of_mem _ hy)
    simp [lvDs]
    omega
/-- two joined -/
theorem cf_join2 {s : Sn} (hs : s ≠ .pair) {a b : D} (ha : CF a) (hb : CF b) : joinD s.s [a, b] = .tuple (.str s.s :: sortD (partsD s.s a ++ partsD s.s b)) ∧ CF (joinD s.s [a, b]) ∧ lvD (joinD s.s [a, b]) = lvD a + lvD b := by
  have h : ∀ d ∈ [a, b], CF d := fun d hd => by simp at hd; rcases hd with rfl | rfl <;> assumption
  have h2 := flat_pos (s := s.s) h
  obtain ⟨c1, c2⟩ := cf_join hs h h2
  have e : joinD s.s [a, b] = .tuple (.str s.s :: sortD (partsD s.s a ++ partsD s.s b)) := by
    unfold joinD
    rw [joinR_more _ (by simp at h2 ⊢; omega)]
    simp
  have e2 : [a, b].flatMap (partsD s.s) = partsD s.s a ++ partsD s.s b := by simp
  rw [e2] at c1 c2
  exact ⟨e, by rw [e]; exact c1, by rw [e, c2]; simp [lvDs]⟩
theorem Tm.form_cf : ∀ t : Tm, t.ok → CF t.form ∧ lvD t.form = t.ls.length
  | .leaf o i, h => ⟨.leaf o i h, rfl⟩
  | .node .pair a b, h => by
    obtain ⟨a1, a2⟩ := a.form_cf h.1
    obtain ⟨b1, b2⟩ := b.form_cf h.2
    exact ⟨.pair a1 b1, by simp [Tm.form, Tm.ls, lvD, lvDs, a2, b2]⟩
  | .node .sum a b, h => by
    obtain ⟨a1, a2⟩ := a.form_cf h.1
    obtain ⟨b1, b2⟩ := b.form_cf h.2
    obtain ⟨_, c1, c2⟩ := cf_join2 (s := .sum) (by decide) a1 b1
    exact ⟨c1, by rw [show (Tm.node .sum a b).form = joinD Sn.sum.s [a.form, b.form] from rfl, c2]; simp [Tm.ls, a2, b2]⟩
  | .node .mul a b, h => by
    obtain ⟨a1, a2⟩ := a.form_cf h.1
    obtain ⟨b1, b2⟩ := b.form_cf h.2
    obtain ⟨_, c1, c2⟩ := cf_join2 (s := .mul) (by decide) a1 b1
    exact ⟨c1, by rw [show (Tm.node .mul a b).form = joinD Sn.mul.s [a.form, b.form] from rfl, c2]; simp [Tm.ls, a2, b2]⟩
theorem row_cf {s : Sn} (hs : s ≠ .pair) {ds : List D} (h : ∀ d ∈ ds, CF d) : ∀ x ∈ ds.flatMap (partsD s.s), CF x ∧ partsD s.s x = [x] := fun x hx => by
  obtain ⟨d, h3, h4⟩ := List.mem_flatMap.mp hx
  exact cf_parts (h d h3) hs x h4
/-- some joined, one or more -/
theorem cf_joins {s : Sn} (hs : s ≠ .pair) {ds : List D} (h : ∀ d ∈ ds, CF d) (h1 : ds ≠ []) : CF (joinD s.s ds) ∧ lvD (joinD s.s ds) = lvDs ds := by
  have hr := row_cf hs h
  have hp := flat_pos (s := s.s) h
  by_cases e : (ds.flatMap (partsD s.s)).length = 1
  · unfold joinD
    have hl := lv_flat s.s ds
    generalize ds.flatMap (partsD s.s) = row at *
    match row, e with
    | [d], _ => exact ⟨(hr d (by simp)).1, by rw [← hl]; simp [joinR, lvDs]⟩
  · have hlen : 1 ≤ ds.length := by cases ds with
      | nil => exact absurd rfl h1
      | cons _ _ => simp
    obtain ⟨c1, c2⟩ := cf_join hs h (by omega)
    unfold joinD
    rw [joinR_more _ e]
    exact ⟨c1, c2⟩
theorem parts_join {s : Sn} (hs : s ≠ .pair) {ds : List D} (h : ∀ d ∈ ds, CF d) : (partsD s.s (joinD s.s ds)).Perm (ds.flatMap (partsD s.s)) := by
  have hr := row_cf hs h
  by_cases e : (ds.flatMap (partsD s.s)).length = 1
  · unfold joinD
    generalize ds.flatMap (partsD s.s) = row at *
    match row, e with
    | [d], _ => rw [show joinR s.s [d] = d from rfl, (hr d (by simp)).2]
  · unfold joinD
    rw [joinR_more _ e, partsD_word, if_pos rfl]
    exact sortD_perm _
theorem joinR_perm {s : Str} {row row2 : List D} (hF : ∀ x ∈ row, IsF x) (p : row.Perm row2) : joinR s row = joinR s row2 := by
  by_cases e : row.length = 1
  · match row, e with
    | [d], _ =>
      have : row2 = [d] := (List.perm_singleton.mp p.symm)
      rw [this]
  · rw [joinR_more s e, joinR_more s (by rw [← p.length_eq]; exact e), sort_eq hF p]
theorem joinD_rows {s : Str} {ds es : List D} (hF : ∀ x ∈ ds.flatMap (partsD s), IsF x) (p : (ds.flatMap (partsD s)).Perm (es.flatMap (partsD s))) : joinD s ds = joinD s es := joinR_perm hF p

/-! ### filled -/
def Tm.fill (f : Int → D) : Tm → D
  | .leaf o i => if o = true then f i else .tuple [.str (kS o), .int i]
  | .node .pair a b => .tuple [.str (Str.ofString "pair"), a.fill f, b.fill f]
  | .node .sum a b => joinD (Str.ofString "sum") [a.fill f, b.fill f]
  | .node .mul a b => joinD (Str.ofString "mul") [a.fill f, b.fill f]
theorem fill_node {s : Sn} (hs : s ≠ .pair) (f : Int → D) (a b : Tm) : (Tm.node s a b).fill f = joinD s.s [a.fill f, b.fill f] := by
  cases s with
  | sum => rfl
  | mul => rfl
  | pair => exact absurd rfl hs
theorem fill_cf (f : Int → D) (m k : Nat) (hm : 1 ≤ m) : ∀ t : Tm, t.ok → (∀ i, (true, i) ∈ t.ls → CF (f i) ∧ lvD (f i) ≤ m ∧ (f i).depth ≤ k + 1) → CF (t.fill f) ∧ lvD (t.fill f) ≤ m * t.ls.length ∧ (t.fill f).depth ≤ t.ht + k
  | .leaf o i, ok, h => by
    cases o with
    | true =>
      obtain ⟨h1, h2, h3⟩ := h i (by simp [Tm.ls])
      simp only [Tm.fill, if_true, Tm.ls, List.length_singleton, Tm.ht]
      exact ⟨h1, by omega, by omega⟩
    | false =>
      simp only [Tm.fill, Bool.false_eq_true, if_false, Tm.ls, List.length_singleton, Tm.ht]
      exact ⟨.leaf false i ok, by simp [lvD, lvDs] <;> omega, by simp [PyData.depth, PyData.depthAll] <;> omega⟩
  | .node s a b, ok, h => by
    obtain ⟨a1, a2, a3⟩ := fill_cf f m k hm a ok.1 fun i hi => h i (by simp [Tm.ls, hi])
    obtain ⟨b1, b2, b3⟩ := fill_cf f m k hm b ok.2 fun i hi => h i (by simp [Tm.ls, hi])
    have e1 : m * (Tm.node s a b).ls.length = m * a.ls.length + m * b.ls.length := by simp [Tm.ls, Nat.mul_add]
    rw [e1]
    by_cases hs : s = .pair
    · subst hs
      refine ⟨.pair a1 b1, by simp [Tm.fill, lvD, lvDs]; omega, ?_⟩
      simp [Tm.fill, Tm.ht, PyData.depth, PyData.depthAll]
      omega
    · rw [fill_node hs]
      obtain ⟨_, c1, c2⟩ := cf_join2 hs a1 b1
      refine ⟨c1, by rw [c2]; omega, ?_⟩
      have := (join_form (Sn.join hs) (ds := [a.fill f, b.fill f]) (n := max a.ht b.ht + k) fun d hd => by
        simp at hd
        rcases hd with rfl | rfl
        · exact ⟨a1.isF, by omega⟩
        · exact ⟨b1.isF, by omega⟩).2
      simp [Tm.ht]
      omega
theorem fill_closed (f : Int → D) : ∀ t : Tm, (∀ i, (true, i) ∉ t.ls) → t.fill f = t.form
  | .leaf o i, h => by
    cases o with
    | true => exact absurd (by simp [Tm.ls]) (h i)
    | false => rfl
  | .node s a b, h => by
    have ha := fill_closed f a fun i hi => h i (by simp [Tm.ls, hi])
    have hb := fill_closed f b fun i hi => h i (by simp [Tm.ls, hi])
    cases s <;> simp [Tm.fill, Tm.form, ha, hb]
theorem fill_congr {f g : Int → D} : ∀ t : Tm, (∀ i, (true, i) ∈ t.ls → f i = g i) → t.fill f = t.fill g
  | .leaf o i, h => by
    cases o with
    | true => exact h i (by simp [Tm.ls])
    | false => rfl
  | .node s a b, h => by
    have ha := fill_congr a fun i hi => h i (by simp [Tm.ls, hi])
    have hb := fill_congr b fun i hi => h i (by simp [Tm.ls, hi])
    cases s <;> simp [Tm.fill, ha, hb]

/-! ### the leaves of a form -/
def lsT (xs : List D) (ys : List (Bool × Int)) : List (Bool × Int) := match xs with
  | [.str x, .int i] => [(decide (x = Str.ofString "open"), i)]
  | _ => ys
mutual
def lsD : D → List (Bool × Int)
  | .tuple xs => lsT xs (lsDs xs)
  | _ => []
def lsDs : List D → List (Bool × Int)
  | [] => []
  | x :: xs => lsD x ++ lsDs xs
end
theorem lsDs_flat : ∀ xs : List D, lsDs xs = xs.flatMap lsD
  | [] => rfl
  | x :: xs => by simp [lsDs, lsDs_flat xs]
theorem lsD_leaf (o : Bool) (i : Int) : lsD (.tuple [.str (kS o), .int i]) = [(o, i)] := by
  cases o <;> simp [lsD, lsT, kS]
theorem lsT_three {x y z : D} {r : List D} {ys : List (Bool × Int)} : lsT (x :: y :: z :: r) ys = ys := by
  unfold lsT
  split
  · rename_i h; cases h
  · rfl
theorem lsD_pair (a b : D) : lsD (.tuple [.str (Str.ofString "pair"), a, b]) = lsD a ++ lsD b := by
  simp [lsD, lsT_three, lsDs]
theorem lsD_join {s : Sn} {xs : List D} (h : 2 ≤ xs.length) : lsD (.tuple (.str s.s :: xs)) = xs.flatMap lsD := by
  match xs, h with
  | x :: y :: r, _ => simp [lsD, lsT_three, lsDs, lsDs_flat]
theorem lsD_parts {s : Sn} {d : D} (h : CF d) : (partsD s.s d).flatMap lsD = lsD d := by
  cases h with
  | leaf o i _ =>
    rw [partsD_word, if_neg kS_sn]
    simp
  | pair ha hb =>
    rw [partsD_word]
    split
    · rename_i a b e
      have := Sn.inj (s := .pair) e
      rw [lsD_pair]; simp
    · simp
  | @join s' xs hs' h2 hc u hp =>
    rw [partsD_word]
    split
    · rw [lsD_join h2]
    · simp
theorem lsD_joins {s : Sn} (hs : s ≠ .pair) {ds : List D} (h : ∀ d ∈ ds, CF d) (h1 : ds ≠ []) : (lsD (joinD s.s ds)).Perm (ds.flatMap lsD) := by
  rw [← lsD_parts (s := s) (cf_joins hs h h1).1]
  refine ((parts_join hs h).flatMap_right lsD).trans ?_
  rw [List.flatMap_assoc]
  have : ds.flatMap (fun x => (partsD s.s x).flatMap lsD) = ds.flatMap lsD := by
    clear h1
    induction ds with
    | nil => rfl
    | cons d ds ih =>
      rw [List.flatMap_cons, List.flatMap_cons, lsD_parts (h d List.mem_cons_self), ih fun e he => h e (List.mem_cons_of_mem _ he)]
  rw [this]
theorem form_ls : ∀ t : Tm, t.ok → (lsD t.form).Perm t.ls
  | .leaf o i, _ => by
    show (lsD (.tuple [.str (kS o), .int i])).Perm _
    rw [lsD_leaf]
    exact .refl _
  | .node s a b, ok => by
    have ia := form_ls a ok.1
    have ib := form_ls b ok.2
    by_cases hs : s = .pair
    · subst hs
      show (lsD (.tuple [.str (Str.ofString "pair"), a.form, b.form])).Perm _
      rw [lsD_pair]
      exact ia.append ib
    · rw [node_form hs]
      refine (lsD_joins hs (fun d hd => ?_) (by simp)).trans ?_
      · simp at hd
        rcases hd with rfl | rfl
        · exact (a.form_cf ok.1).1
        · exact (b.form_cf ok.2).1
      · simp
        exact ia.append ib

/-! ### forms put in -/
def putT (f : Int → D) (xs ys : List D) : D := match xs with
  | .str x :: r => if x = Str.ofString "open" then (match r with | [.int i] => f i | _ => .tuple xs) else if x = Str.ofString "name" then .tuple xs else if x = Str.ofString "pair" then .tuple ys else joinD x ys.tail
  | _ => .tuple xs
mutual
def putD (f : Int → D) : D → D
  | .tuple xs => putT f xs (putDs f xs)
  | d => d
def putDs (f : Int → D) : List D → List D
  | [] => []
  | x :: xs => putD f x :: putDs f xs
end
theorem putDs_map (f : Int → D) : ∀ xs : List D, putDs f xs = xs.map (putD f)
  | [] => rfl
  | x :: xs => by simp [putDs, putDs_map f xs]
theorem putD_leaf (f : Int → D) (o : Bool) (i : Int) : putD f (.tuple [.str (kS o), .int i]) = if o = true then f i else .tuple [.str (kS o), .int i] := by
  cases o <;> simp [putD, putT, kS]
theorem putD_pair (f : Int → D) (a b : D) : putD f (.tuple [.str (Str.ofString "pair"), a, b]) = .tuple [.str (Str.ofString "pair"), putD f a, putD f b] := by
  simp [putD, putT, putDs]
theorem putD_join (f : Int → D) {s : Sn} (hs : s ≠ .pair) (xs : List D) : putD f (.tuple (.str s.s :: xs)) = joinD s.s (xs.map (putD f)) := by
  have h1 : ¬ s.s = Str.ofString "open" := fun e => (kS_sn (o := true) (s := s)) e.symm
  have h2 : ¬ s.s = Str.ofString "name" := fun e => (kS_sn (o := false) (s := s)) e.symm
  have h3 : ¬ s.s = Str.ofString "pair" := fun e => hs (Sn.inj (s' := .pair) e)
  simp [putD, putT, h1, h2, h3, putDs, putDs_map]
theorem put_cf (f : Int → D) {d : D} (h : CF d) : (∀ i, (true, i) ∈ lsD d → CF (f i)) → CF (putD f d) := by
  induction h with
  | leaf o i ok =>
    intro hf
    rw [putD_leaf]
    split
    · rename_i e; subst e; exact hf i (by rw [lsD_leaf]; simp)
    · exact .leaf o i ok
  | pair ha hb iha ihb =>
    intro hf
    rw [putD_pair]
    rw [lsD_pair] at hf
    exact .pair (iha fun i hi => hf i (by simp [hi])) (ihb fun i hi => hf i (by simp [hi]))
  | @join s xs hs h2 hc u hp ih =>
    intro hf
    rw [putD_join f hs]
    rw [lsD_join h2] at hf
    refine (cf_joins hs (fun d hd => ?_) (by intro e; simp at e; rw [e] at h2; simp at h2)).1
    obtain ⟨x, hx, rfl⟩ := List.mem_map.mp hd
    exact ih x hx fun i hi => hf i (List.mem_flatMap.mpr ⟨x, hx, hi⟩)
theorem lsD_mem_parts {s : Sn} {d x : D} (h : CF d) (hx : x ∈ partsD s.s d) {p : Bool × Int} (hp : p ∈ lsD x) : p ∈ lsD d := by
  rw [← lsD_parts (s := s) h]
  exact List.mem_flatMap.mpr ⟨x, hx, hp⟩
theorem parts_put (f : Int → D) {s : Sn} (hs : s ≠ .pair) {d : D} (h : CF d) (hf : ∀ i, (true, i) ∈ lsD d → CF (f i)) : (partsD s.s (putD f d)).Perm ((partsD s.s d).flatMap fun x => partsD s.s (putD f x)) := by
  have other : partsD s.s d = [d] → (partsD s.s (putD f d)).Perm ((partsD s.s d).flatMap fun x => partsD s.s (putD f x)) := fun e => by rw [e]; simp
  cases h with
  | leaf o i ok => exact other (by rw [partsD_word, if_neg kS_sn])
  | pair ha hb => exact other (by rw [partsD_word, if_neg]; intro e; exact hs (Sn.inj (s := .pair) (s' := s) e).symm)
  | @join s' xs hs' h2 hc u hp =>
    by_cases c : s' = s
    · subst c
      have e : partsD s'.s (.tuple (.str s'.s :: xs)) = xs := by rw [partsD_word, if_pos rfl]
      rw [e, putD_join f hs]
      refine (parts_join hs fun d hd => ?_).trans ?_
      · obtain ⟨x, hx, rfl⟩ := List.mem_map.mp hd
        rw [lsD_join h2] at hf
        exact put_cf f (hc x hx) fun i hi => hf i (List.mem_flatMap.mpr ⟨x, hx, hi⟩)
      · rw [List.flatMap_map]
    · exact other (by rw [partsD_word, if_neg]; exact fun e => c (Sn.inj e))
/-- put into the form: the form of the filled term -/
theorem put_form_fill (f : Int → D) : ∀ t : Tm, t.ok → (∀ i, (true, i) ∈ t.ls → CF (f i)) → putD f t.form = t.fill f
  | .leaf o i, _, _ => by
    show putD f (.tuple [.str (kS o), .int i]) = _
    rw [putD_leaf]; rfl
  | .node s a b, ok, hf => by
    have ha : ∀ i, (true, i) ∈ a.ls → CF (f i) := fun i hi => hf i (by simp [Tm.ls, hi])
    have hb : ∀ i, (true, i) ∈ b.ls → CF (f i) := fun i hi => hf i (by simp [Tm.ls, hi])
    have ia := put_form_fill f a ok.1 ha
    have ib := put_form_fill f b ok.2 hb
    by_cases hs : s = .pair
    · subst hs
      show putD f (.tuple [.str (Str.ofString "pair"), a.form, b.form]) = _
      rw [putD_pair, ia, ib]; rfl
    · obtain ⟨ca, _⟩ := a.form_cf ok.1
      obtain ⟨cb, _⟩ := b.form_cf ok.2
      have fa : ∀ i, (true, i) ∈ lsD a.form → CF (f i) := fun i hi => ha i ((form_ls a ok.1).mem_iff.mp hi)
      have fb : ∀ i, (true, i) ∈ lsD b.form → CF (f i) := fun i hi => hb i ((form_ls b ok.2).mem_iff.mp hi)
      rw [fill_node hs, node_eq hs, putD_join f hs, ← ia, ← ib]
      have row : (partsD s.s (putD f a.form) ++ partsD s.s (putD f b.form)).Perm ((sortD (a.parts s ++ b.parts s)).flatMap fun x => partsD s.s (putD f x)) := by
        refine ((parts_put f hs ca fa).append (parts_put f hs cb fb)).trans ?_
        rw [← List.flatMap_append]
        exact ((sortD_perm _).symm).flatMap_right _
      refine (joinD_rows (s := s.s) (ds := [putD f a.form, putD f b.form]) (fun x hx => ?_) ?_).symm
      · exact (row_cf hs (ds := [putD f a.form, putD f b.form]) (fun d hd => by
          simp at hd
          rcases hd with rfl | rfl
          · exact put_cf f ca fa
          · exact put_cf f cb fb) x hx).1.isF
      · rw [List.flatMap_map]
        simpa using row
end DL

set_option Elab.async false
set_option linter.all false
set_option maxRecDepth 100000
/-! G14: rows of a join, their order, places within a term, ways of moves. -/
namespace DL
open PySem L2

/-! ### a row put in order by exchanges -/
def gtT (x y : Tm) : Bool := ltB y.form x.form
def bubG (x : Tm) : List Tm → List Tm
  | [] => [x]
  | y :: r => if gtT x y = true then y :: bubG x r else x :: bubG y r
def bub : List Tm → List Tm
  | [] => []
  | x :: r => bubG x r
def bubN : Nat → List Tm → List Tm
  | 0, l => l
  | n + 1, l => bubN n (bub l)
theorem bubG_perm : ∀ (r : List Tm) (x : Tm), (bubG x r).Perm (x :: r)
  | [], x => .refl _
  | y :: r, x => by
    rw [bubG]
    split
    · exact ((bubG_perm r x).cons y).trans (.swap x y r)
    · exact (bubG_perm r y).cons x
theorem bub_perm (l : List Tm) : (bub l).Perm l := by
  cases l with
  | nil => exact .refl _
  | cons x r => exact bubG_perm r x
theorem bubN_perm : ∀ (n : Nat) (l : List Tm), (bubN n l).Perm l
  | 0, l => .refl _
  | n + 1, l => (bubN_perm n (bub l)).trans (bub_perm l)
abbrev UpT (l : List Tm) : Prop := l.Pairwise fun x y => gtT x y = false
theorem gt_tr {x y z : Tm} (h1 : gtT x y = false) (h2 : gtT y z = false) : gtT x z = false := ltB_tr x.form_ok.1.plain y.form_ok.1.plain z.form_ok.1.plain h1 h2
theorem bubG_ok {b : List Tm} (hb : UpT b) : ∀ (r : List Tm) (x : Tm), (∀ y ∈ x :: r, ∀ z ∈ b, gtT y z = false) → ∃ a' b', bubG x (r ++ b) = a' ++ b' ∧ b'.length = b.length + 1 ∧ UpT b' ∧ (∀ y ∈ a', ∀ z ∈ b', gtT y z = false) ∧ ∀ z ∈ b', gtT x z = false
  | [], x, h => by
    have e : ∀ (b : List Tm), (∀ z ∈ b, gtT x z = false) → bubG x b = x :: b ∨ True := fun _ _ => .inr trivial
    have hx := h x List.mem_cons_self
    -- x is not greater than any part of b: nothing is exchanged
    have key : ∀ (b : List Tm) (x : Tm), UpT (x :: b) → bubG x b = x :: b := by
      intro b
      induction b with
      | nil => intro x _; rfl
      | cons y b ih =>
        intro x hu
        rw [bubG]
        have h1 := (List.pairwise_cons.mp hu).1 y List.mem_cons_self
        rw [h1, if_neg (by decide), ih y (List.pairwise_cons.mp hu).2]
    have hu : UpT (x :: b) := List.pairwise_cons.mpr ⟨hx, hb⟩
    refine ⟨[], x :: b, by rw [List.nil_append, key b x hu]; rfl, rfl, hu, (fun y hy => nomatch hy), fun z hz => ?_⟩
    rcases List.mem_cons.mp hz with rfl | hz
    · exact by
        cases q : gtT z z with
        | false => rfl
        | true => exact (show ltB z.form z.form = true from q).symm.trans (ltB_asym q)
    · exact hx z hz
  | y :: r, x, h => by
    rw [List.cons_append, bubG]
    split
    · rename_i hg
      obtain ⟨a', b', e, hl, hu, hab, hxb⟩ := bubG_ok hb r x fun u hu => h u (by simp at hu ⊢; rcases hu with rfl | hu; exact .inl rfl; exact .inr (.inr hu))
      have hyx : gtT y x = false := ltB_asym hg
      refine ⟨y :: a', b', by rw [e]; rfl, hl, hu, fun u hu' z hz => ?_, hxb⟩
      rcases List.mem_cons.mp hu' with rfl | hu'
      · exact gt_tr hyx (hxb z hz)
      · exact hab u hu' z hz
    · rename_i hg
      have hxy : gtT x y = false := by simpa using hg
      obtain ⟨a', b', e, hl, hu, hab, hyb⟩ := bubG_ok hb r y fun u hu => h u (List.mem_cons_of_mem _ hu)
      refine ⟨x :: a', b', by rw [e]; rfl, hl, hu, fun u hu' z hz => ?_, fun z hz => gt_tr hxy (hyb z hz)⟩
      rcases List.mem_cons.mp hu' with rfl | hu'
      · exact gt_tr hxy (hyb z hz)
      · exact hab u hu' z hz
theorem bubN_ok : ∀ (n : Nat) (a b : List Tm), a.length ≤ n → UpT b → (∀ y ∈ a, ∀ z ∈ b, gtT y z = false) → UpT (bubN n (a ++ b))
  | 0, a, b, hn, hb, h => by
    have : a = [] := List.eq_nil_of_length_eq_zero (by omega)
    subst this; exact hb
  | n + 1, [], b, _, hb, _ => by
    rw [List.nil_append]
    have key : ∀ (m : Nat) (b : List Tm), UpT b → bubN m b = b := by
      intro m
      induction m with
      | zero => intro b _; rfl
      | succ m ih =>
        intro b hb
        have e : bub b = b := by
          cases b with
          | nil => rfl
          | cons x r =>
            obtain ⟨a', b', e, hl, hu, hab, _⟩ := bubG_ok (b := r) (List.pairwise_cons.mp hb).2 [] x (fun y hy z hz => by
              have : y = x := by simpa using hy
              subst this; exact (List.pairwise_cons.mp hb).1 z hz)
            have hp := (bubG_perm r x).length_eq
            rw [List.nil_append] at e
            rw [e] at hp
            simp only [List.length_append, List.length_cons] at hp
            have : a' = [] := List.eq_nil_of_length_eq_zero (by omega)
            subst this
            have e2 : bub (x :: r) = b' := e
            rw [e2]
            -- two rows in order with the same parts at the same places
            have k2 : ∀ (r : List Tm) (x : Tm), UpT (x :: r) → bubG x r = x :: r := by
              intro r
              induction r with
              | nil => intro x _; rfl
              | cons y r ih =>
                intro x hu
                rw [bubG, (List.pairwise_cons.mp hu).1 y List.mem_cons_self, if_neg (by decide), ih y (List.pairwise_cons.mp hu).2]
            rw [← e2]; exact k2 r x hb
        show bubN m (bub b) = b
        rw [e, ih b hb]
    rw [key _ _ hb]; exact hb
  | n + 1, x :: a, b, hn, hb, h => by
    obtain ⟨a', b', e, hl, hu, hab, _⟩ := bubG_ok hb a x h
    show UpT (bubN n (bub (x :: (a ++ b))))
    have e2 : bub (x :: (a ++ b)) = a' ++ b' := e
    rw [e2]
    have hp := (bubG_perm (a ++ b) x).length_eq
    rw [e] at hp
    simp only [List.length_append, List.length_cons] at hp hn
    exact bubN_ok n a' b' (by omega) hu hab
theorem bubN_up (l : List Tm) : UpT (bubN l.length l) := by
  have := bubN_ok l.length l [] (Nat.le_refl _) List.Pairwise.nil (fun _ _ _ hz => nomatch hz)
  simpa using this

/-! ### a row grouped to the right -/
def tmL (s : Sn) (x : Tm) : List Tm → Tm
  | [] => x
  | y :: r => .node s x (tmL s y r)
def combT (s : Sn) : List Tm → Tm → Tm
  | [], v => v
  | x :: xs, v => .node s x (combT s xs v)
theorem comb_snoc (s : Sn) : ∀ (xs : List Tm) (x v : Tm), combT s (xs ++ [x]) v = combT s xs (.node s x v)
  | [], x, v => rfl
  | y :: xs, x, v => by rw [List.cons_append, combT, comb_snoc s xs x v]; rfl
theorem comb_row (s : Sn) : ∀ (pre : List Tm) (x : Tm) (r : List Tm) (y : Tm) (q : List Tm), pre ++ x :: r = y :: q → combT s pre (tmL s x r) = tmL s y q
  | [], x, r, y, q, h => by cases h; rfl
  | p :: pre, x, r, y, q, h => by
    simp only [List.cons_append, List.cons.injEq] at h
    obtain ⟨rfl, h⟩ := h
    cases q with
    | nil => simp at h
    | cons z q => rw [combT, comb_row s pre x r z q h]; rfl
/-- the form of a row whose parts are grown, in order -/
theorem row_grows {s : Sn} : ∀ (r : List Tm) (x : Tm), (∀ y ∈ x :: r, Gr y.form y) → GrL s ((x :: r).map Tm.form) (tmL s x r)
  | [], x, h => .one (h x List.mem_cons_self)
  | y :: r, x, h => .more (h x List.mem_cons_self) (row_grows r y fun z hz => h z (List.mem_cons_of_mem _ hz))

/-! ### places within a term -/
theorem putZ_split (v u : Tm) : ∀ (P Q : List Int) (t : Tm), t.atZ P = some u → Tm.putZ v t (P ++ Q) = Tm.putZ (Tm.putZ v u Q) t P
  | [], Q, t, h => by rw [Tm.atZ_nil] at h; cases h; rw [Tm.putZ_nil]; rfl
  | y :: P, Q, .leaf _ _, h => by simp [Tm.atZ] at h
  | y :: P, Q, .node s a b, h => by
    by_cases c : y = 0
    · have := putZ_split v u P Q a (by simpa [Tm.atZ, c] using h)
      simp [Tm.putZ, c, this]
    · by_cases c1 : y = 1
      · have := putZ_split v u P Q b (by simpa [Tm.atZ, c1] using h)
        simp [Tm.putZ, c1, this]
      · simp [Tm.atZ, c, c1] at h
/-- C: the term with v at the place P -/
def Ctx (P : List Int) (C : Tm → Tm) : Prop := ∀ v, (C v).atZ P = some v ∧ ∀ v', Tm.putZ v' (C v) P = C v'
theorem Ctx.nil : Ctx [] id := fun v => ⟨Tm.atZ_nil v, fun v' => Tm.putZ_nil v' v⟩
theorem Ctx.left {P : List Int} {C : Tm → Tm} (h : Ctx P C) (s : Sn) (b : Tm) : Ctx (P ++ [0]) fun v => C (.node s v b) := fun v => by
  refine ⟨by rw [atZ_split, (h _).1]; simp [Tm.atZ, Tm.atZ_nil], fun v' => ?_⟩
  rw [putZ_split v' _ P [0] _ (h _).1, (h _).2]
  simp [Tm.putZ, Tm.putZ_nil]
theorem Ctx.right {P : List Int} {C : Tm → Tm} (h : Ctx P C) (s : Sn) (a : Tm) : Ctx (P ++ [1]) fun v => C (.node s a v) := fun v => by
  refine ⟨by rw [atZ_split, (h _).1]; simp [Tm.atZ, Tm.atZ_nil], fun v' => ?_⟩
  rw [putZ_split v' _ P [1] _ (h _).1, (h _).2]
  simp [Tm.putZ, Tm.putZ_nil]
theorem Ctx.comb {s : Sn} : ∀ (xs : List Tm) {P : List Int} {C : Tm → Tm}, Ctx P C → Ctx (P ++ List.replicate xs.length 1) fun v => C (combT s xs v)
  | [], P, C, h => by simpa [combT] using h
  | x :: xs, P, C, h => by
    have := Ctx.comb (s := s) xs (h.right s x)
    rw [List.append_assoc] at this
    exact this
theorem Ctx.move {P : List Int} {C : Tm → Tm} (h : Ctx P C) (w : Wd) (v : Tm) : moveR w.s (C v) P = (turnO w v).map C := by
  rw [moveR_eq, (h v).1]
  show (turnS w.s v).map _ = _
  rw [turnS_wd]
  cases turnO w v with
  | none => rfl
  | some u => exact congrArg some ((h v).2 u)
theorem atZ_len : ∀ (p : List Int) (t u : Tm), t.atZ p = some u → p.length + u.ls.length ≤ t.ls.length ∧ (t.ok → u.ok)
  | [], t, u, h => by rw [Tm.atZ_nil] at h; cases h; exact ⟨by simp, id⟩
  | y :: p, .leaf _ _, u, h => by simp [Tm.atZ] at h
  | y :: p, .node s a b, u, h => by
    have ha := a.ls_pos
    have hb := b.ls_pos
    by_cases c : y = 0
    · obtain ⟨h1, h2⟩ := atZ_len p a u (by simpa [Tm.atZ, c] using h)
      exact ⟨by simp [Tm.ls]; omega, fun ok => h2 ok.1⟩
    · by_cases c1 : y = 1
      · obtain ⟨h1, h2⟩ := atZ_len p b u (by simpa [Tm.atZ, c1] using h)
        exact ⟨by simp [Tm.ls]; omega, fun ok => h2 ok.2⟩
      · simp [Tm.atZ, c, c1] at h

/-! ### ways of moves -/
abbrev Mv := Wd × List Int
def mvW (m : Mv) : D := mvD m.1.s m.2
inductive Way : Tm → List Mv → Tm → Prop
  | nil (t : Tm) : Way t [] t
  | cons {t u v : Tm} {w : Wd} {p : List Int} {ms : List Mv} : moveR w.s t p = some u → Way u ms v → Way t ((w, p) :: ms) v
theorem Way.app {t u v : Tm} {ms ns : List Mv} (h : Way t ms u) (h2 : Way u ns v) : Way t (ms ++ ns) v := by
  induction h with
  | nil _ => exact h2
  | cons a _ ih => exact .cons a (ih h2)
theorem Way.one {t u : Tm} {w : Wd} {p : List Int} (h : moveR w.s t p = some u) : Way t [(w, p)] u := .cons h (.nil _)
theorem Way.keeps {t u : Tm} {ms : List Mv} (h : Way t ms u) : u.form = t.form ∧ u.ls.length = t.ls.length ∧ (t.ok → u.ok) := by
  induction h with
  | nil _ => exact ⟨rfl, rfl, id⟩
  | cons a _ ih =>
    obtain ⟨k1, k2, k3⟩ := moveR_keeps a
    exact ⟨ih.1.trans k1, ih.2.1.trans k2, fun h => ih.2.2 (k3 h)⟩
theorem Way.back {t u : Tm} {ms : List Mv} (h : Way t ms u) : Way u (ms.reverse.map fun m => (m.1.back, m.2)) t := by
  induction h with
  | nil _ => exact .nil _
  | cons a _ ih =>
    rw [List.reverse_cons, List.map_append]
    exact ih.app (.one (move_back a))
end DL

set_option Elab.async false
set_option linter.all false
set_option maxRecDepth 100000
/-! G15: runs of the walker's methods. -/
namespace DL
open PySem L2

def stW (t : Tm) (ms : List Mv) : List D := [t.d, .list (ms.map mvW)]
def wdT : Tm → Str
  | .leaf o _ => kS o
  | .node s _ _ => s.s
structure LibW (T : Str → Option Fd) : Prop where
  take : T (Str.ofString "Walker.take") = some ⟨3, 3, b_Walker_take, 1⟩
  wat : T (Str.ofString "Walker.word_at") = some ⟨2, 2, b_Walker_word_at, 1⟩
  settle : T (Str.ofString "Walker.settle") = some ⟨2, 3, b_Walker_settle, 1⟩
  comb : T (Str.ofString "Walker.comb") = some ⟨3, 4, b_Walker_comb, 1⟩
  order : T (Str.ofString "Walker.order") = some ⟨3, 5, b_Walker_order, 1⟩
  exch : T (Str.ofString "Walker.exchange") = some ⟨3, 4, b_Walker_exchange, 1⟩
section
variable {GL : Str → Option D} {C : Orc} {L : Nat} {Q : Res Ctl → Prop} {r : S} {e : E} {g g1 : Sg} {i : Nat} {m : Md} {d t : D} {ds st st' : List D}
theorem runsM {T : Str → Option Fd} {n : Nat} {f : Str} {fd : Fd} {x : CR} (hT : T f = some fd) (hl : ds.length + 1 = fd.np) (hk : fd.kd = 1) (h : Runs GL (callD GL T L n) L fd.body (some (.tuple st, .on) :: startG (fd.ns - 1) ds) fun y => toCM y = x) : callD GL T L (n + 1) f (.tuple st :: ds) = x := by
  rw [callD]
  simp only [hT, List.length_cons, hl, if_true, hk]
  exact h
theorem Runs.setT (h : ev GL C e g = .ok (d, m) g1) (hm : m ≠ .on) (ho : objAt i g1 = some [t, .list ds]) (h2 : Runs GL C L r (g1.set i (some (.tuple [d, .list ds], .on))) Q) : Runs GL C L (.seq (.setT i e) r) g Q :=
  .sq (by rw [DL.ex, h]; simp only [bd_ok, hm, if_false, ho, Option.bind_some, setTD_mk]) h2
theorem Runs.appT (h : ev GL C e (hide g) = .ok (d, m) g1) (hm : m ≠ .on) (ho : objAt i g = some [t, .list ds]) (hl : ds.length < sizeLine) (h2 : Runs GL C L r (g.set i (some (.tuple [t, .list (ds ++ [d])], .on))) Q) : Runs GL C L (.seq (.appT i e) r) g Q :=
  .sq (by rw [DL.ex, h]; simp only [hm, if_false, ho, Option.bind_some, appTD_mk, hl, if_true]) h2
theorem ev_mcall_ok {f : Str} {es : E} {st0 : List D} {x : D} (ho : objAt i g = some st0) (he : evs GL C es g = .ok ds g1) (ho1 : objAt i g1 = some st) (hc : C f (.tuple st :: ds) = .ok (.tuple [x, .tuple st']) .on) : ev GL C (.mcall i f es) g = .ok (x, .fr) (g1.set i (some (.tuple st', .on))) := by
  rw [ev, ho, he]
  simp only [Option.isSome_some, if_true, bd_ok, ho1, Option.bind_some, hc, metD_mk]
theorem add_pl {p : List Int} {xs : List Int} (h : p.length + xs.length ≤ 1000) : binD .add (plI p) (.tuple (xs.map .int)) = some (plI (p ++ xs), .fr) := by
  show (if (p.map PyData.int).length + (xs.map PyData.int).length ≤ sizeLine then _ else _) = _
  rw [if_pos (by rw [List.length_map, List.length_map]; exact Nat.le_trans h (by decide)), plI, List.map_append]
theorem add_pl1 {p : List Int} {x : Int} (h : p.length ≤ 900) : binD .add (plI p) (.tuple [.int x]) = some (plI (p ++ [x]), .fr) := add_pl (xs := [x]) (by simp; omega)
theorem add_pl2 {p : List Int} {x y : Int} (h : p.length ≤ 900) : binD .add (plI p) (.tuple [.int x, .int y]) = some (plI (p ++ [x, y]), .fr) := add_pl (xs := [x, y]) (by simp; omega)
theorem lt_forms {x y : Tm} (hx : x.form.depth ≤ 90) (hy : y.form.depth ≤ 90) : orO (ltS y.form x.form) (ltT y.form x.form) = some (gtT x y) := by
  have fx := x.form_ok.1
  have fy := y.form_ok.1
  have h1 := ltD_plain y.form x.form
  obtain ⟨c, hc⟩ := Option.isSome_iff_exists.mp (fy.cmp _ fx)
  have hb := h1 c fy.plain fx.plain hc
  obtain ⟨a, as, ea⟩ := fx.str
  obtain ⟨b, bs, eb⟩ := fy.str
  have px : plainD x.form = true := by simp [plainD, fx.plain, fx.lay, hx]
  have py : plainD y.form = true := by simp [plainD, fy.plain, fy.lay, hy]
  have e1 : ltS y.form x.form = none := by rw [ea, eb]; rfl
  have e2 : ltT y.form x.form = some c := by
    rw [ea] at px hc ⊢
    rw [eb] at py hc ⊢
    unfold ltT
    simp only
    rw [px, py]
    rw [ltD] at hc
    exact hc
  rw [e1, e2, hb]
  rfl
end
section
variable {GL : Str → Option D} {T : Str → Option Fd} {L : Nat} {R : Nat → S}
theorem r_take (l1 : Lib1 GL T R) (l : Lib11 T R) (lw : LibW T) {t u : Tm} {ms : List Mv} {w : Wd} {p : List Int} {n : Nat} (hn : p.length + 3 ≤ n) (hm : ms.length < sizeLine) (h : moveR w.s t p = some u) :
    callD GL T L (n + 1) (Str.ofString "Walker.take") [.tuple (stW t ms), .str w.s, plI p] = .ok (.tuple [.none, .tuple (stW u (ms ++ [(w, p)]))]) .on := by
  have c := r_done (GL := GL) (L := L) l1 l (wd_ok w) t p (n - 1) (by omega) (.inl (by rw [h]; rfl))
  rw [show n - 1 + 1 = n by omega, h] at c
  refine runsM lw.take rfl rfl ?_
  unfold b_Walker_take
  simp only [startG_def, stW]
  refine .setT (d := u.d) (m := .fr) (g1 := [some (.tuple [t.d, .list (ms.map mvW)], .on), some (.str w.s, .fr), some (plI p, .fr)]) (t := t.d) (ds := ms.map mvW) (by simp; rw [show (PyData.tuple [.str w.s, plI p]) = mvD w.s p from rfl, c]; simp) (by decide) rfl ?_
  refine .appT (d := mvD w.s p) (m := .fr) (g1 := [none, some (.str w.s, .fr), some (plI p, .fr)]) (t := u.d) (ds := ms.map mvW) (by simp [hide1, mvD]) (by decide) rfl (by simpa using hm) ?_
  refine .nil ?_
  simp [toCM, mvW]
theorem r_word_at (l1 : Lib1 GL T R) (l : Lib11 T R) (lw : LibW T) {t u : Tm} {ms : List Mv} {p : List Int} {n : Nat} (hn : 2 ≤ n) (h : t.atZ p = some u) :
    callD GL T L (n + 1) (Str.ofString "Walker.word_at") [.tuple (stW t ms), plI p] = .ok (.tuple [.str (wdT u), .tuple (stW t ms)]) .on := by
  have c := r_part_at (GL := GL) (L := L) l1 l t p (n - 1) (by omega) (.inl (by rw [h]; rfl))
  rw [show n - 1 + 1 = n by omega, h] at c
  refine runsM lw.wat rfl rfl ?_
  unfold b_Walker_word_at
  simp only [startG_def, stW]
  refine .ret (d := .str (wdT u)) (m := .fr) (g1 := [some (.tuple [t.d, .list (ms.map mvW)], .on), some (plI p, .fr)]) (by simp [c]; cases u <;> simp [Tm.d, wdT, atI, ixN]) ?_
  simp [toCM]
theorem len_ctx {P : List Int} {C : Tm → Tm} (hC : Ctx P C) (v : Tm) (h : (C v).ls.length ≤ 40) : P.length + v.ls.length ≤ 40 := by
  have := (atZ_len P (C v) v (hC v).1).1
  omega
/-- the first part of what stands at P, the next one: are they in order -/
theorem r_exch (l1 : Lib1 GL T R) (l : Lib11 T R) (l5 : Lib5 T) (lw : LibW T) {P : List Int} {C : Tm → Tm} {s : Sn} {x y : Tm} {post : List Tm} {ms : List Mv} {n : Nat} (hC : Ctx P C) (hs : s ≠ .pair) (hn : 60 ≤ n) (h40 : (C (tmL s x (y :: post))).ls.length ≤ 40) (hm : ms.length + 3 < sizeLine) :
    ∃ ms', callD GL T L (n + 1) (Str.ofString "Walker.exchange") [.tuple (stW (C (tmL s x (y :: post))) ms), plI P, .bool post.isEmpty] = .ok (.tuple [.none, .tuple (stW (C (if gtT x y = true then tmL s y (x :: post) else tmL s x (y :: post))) (ms ++ ms'))]) .on ∧
      Way (C (tmL s x (y :: post))) ms' (C (if gtT x y = true then tmL s y (x :: post) else tmL s x (y :: post))) ∧ ms'.length ≤ 3 := by
  have hlen := len_ctx hC _ h40
  have hP : P.length ≤ 900 := by omega
  have hxl : x.ls.length ≤ 40 := by simp only [tmL, Tm.ls, List.length_append] at hlen; omega
  have hyl : y.ls.length ≤ 40 := by cases post <;> simp only [tmL, Tm.ls, List.length_append] at hlen <;> omega
  have dx : x.form.depth ≤ 90 := by have := x.form_ok.2; have := x.ht_ls; omega
  have dy : y.form.depth ≤ 90 := by have := y.form_ok.2; have := y.ht_ls; omega
  have fx := r_flat (L := L) l1 l5 x (by omega) n (by have := x.ht_ls; omega)
  have fy := r_flat (L := L) l1 l5 y (by omega) n (by have := y.ht_ls; omega)
  have ax : (C (tmL s x (y :: post))).atZ (P ++ [0]) = some x := (hC.left s (tmL s y post) x).1
  have cx := r_part_at (GL := GL) (L := L) l1 l _ _ (n - 1) (by omega) (.inl (by rw [ax]; rfl))
  rw [show n - 1 + 1 = n by omega, ax] at cx
  have cle := lt_forms dx dy
  obtain ⟨n', rfl⟩ : ∃ m, n = m + 1 := ⟨n - 1, by omega⟩
  cases post with
  | nil =>
    have ay : (C (tmL s x [y])).atZ (P ++ [1]) = some y := (hC.right s x y).1
    have cy := r_part_at (GL := GL) (L := L) l1 l _ _ n' (by omega) (.inl (by rw [ay]; rfl))
    rw [ay] at cy
    simp only at cx cy
    have run : ∀ Q : CR, (gtT x y = false → .ok (.tuple [.none, .tuple (stW (C (tmL s x [y])) ms)]) .on = Q) → (gtT x y = true → .ok (.tuple [.none, .tuple (stW (C (tmL s y [x])) (ms ++ [(Wd.swap, P)]))]) .on = Q) → callD GL T L (n' + 1 + 1) (Str.ofString "Walker.exchange") [.tuple (stW (C (tmL s x [y])) ms), plI P, .bool true] = Q := by
      intro Q q1 q2
      refine runsM lw.exch rfl rfl ?_
      unfold b_Walker_exchange
      simp only [startG_def]
      refine .set (p := (plI (P ++ [1]), .fr)) (g1 := [some (.tuple (stW (C (tmL s x [y])) ms), .on), some (plI P, .fr), some (.bool true, .fr), none]) (by simp [add_pl1 hP]) ?_
      cases hg : gtT x y with
      | false =>
        refine .ifT (m := .fr) (g1 := [some (.tuple (stW (C (tmL s x [y])) ms), .on), some (plI P, .fr), some (.bool true, .fr), some (plI (P ++ [1]), .fr)]) (by simp [add_pl1 hP, stW]; rw [cx]; simp [fx]; rw [cy]; simp [fy, cle, hg]) ?_
        exact .as (.ret (d := .none) (m := .fr) (g1 := [some (.tuple (stW (C (tmL s x [y])) ms), .on), some (plI P, .fr), some (.bool true, .fr), some (plI (P ++ [1]), .fr)]) (by simp) (q1 hg))
      | true =>
        refine .ifF (m := .fr) (g1 := [some (.tuple (stW (C (tmL s x [y])) ms), .on), some (plI P, .fr), some (.bool true, .fr), some (plI (P ++ [1]), .fr)]) (by simp [add_pl1 hP, stW]; rw [cx]; simp [fx]; rw [cy]; simp [fy, cle, hg]) (.skip ?_)
        refine .ifT (m := .fr) (g1 := [some (.tuple (stW (C (tmL s x [y])) ms), .on), some (plI P, .fr), some (.bool true, .fr), some (plI (P ++ [1]), .fr)]) (by simp) (.as ?_)
        have mv : moveR Wd.swap.s (C (tmL s x [y])) P = some (C (tmL s y [x])) := by rw [hC.move]; simp [tmL, turnO, hs]
        have ct := r_take (GL := GL) (L := L) l1 l lw (n := n') (ms := ms) (by omega) (by omega) mv
        refine .ex (ev_mcall_ok (g1 := [some (.tuple (stW (C (tmL s x [y])) ms), .on), some (plI P, .fr), some (.bool true, .fr), some (plI (P ++ [1]), .fr)]) (ds := [.str Wd.swap.s, plI P]) rfl (by simp [Wd.s]) rfl ct) ?_
        exact .skip (.nil (q2 hg))
    cases hg : gtT x y with
    | false => exact ⟨[], run _ (fun _ => by simp) (fun h => by rw [hg] at h; cases h), .nil _, by simp⟩
    | true => exact ⟨[(.swap, P)], run _ (fun h => by rw [hg] at h; cases h) (fun _ => by simp), .one (by rw [hC.move]; simp [tmL, turnO, hs]), by simp⟩
  | cons z post =>
    have ay : (C (tmL s x (y :: z :: post))).atZ (P ++ [1, 0]) = some y := by
      have := ((hC.right s x).left s (tmL s z post) y).1
      rw [List.append_assoc] at this
      exact this
    have cy := r_part_at (GL := GL) (L := L) l1 l _ _ n' (by omega) (.inl (by rw [ay]; rfl))
    rw [ay] at cy
    simp only at cx cy
    have m1 : moveR Wd.left.s (C (tmL s x (y :: z :: post))) P = some (C (.node s (.node s x y) (tmL s z post))) := by rw [hC.move]; simp [tmL, turnO, hs]
    have m2 : moveR Wd.swap.s (C (.node s (.node s x y) (tmL s z post))) (P ++ [0]) = some (C (.node s (.node s y x) (tmL s z post))) := by
      have := (hC.left s (tmL s z post)).move .swap (.node s x y)
      rw [this]; simp [turnO, hs]
    have m3 : moveR Wd.right.s (C (.node s (.node s y x) (tmL s z post))) P = some (C (tmL s y (x :: z :: post))) := by rw [hC.move]; simp [tmL, turnO, hs]
    have run : ∀ Q : CR, (gtT x y = false → .ok (.tuple [.none, .tuple (stW (C (tmL s x (y :: z :: post))) ms)]) .on = Q) → (gtT x y = true → .ok (.tuple [.none, .tuple (stW (C (tmL s y (x :: z :: post))) (((ms ++ [(Wd.left, P)]) ++ [(Wd.swap, P ++ [0])]) ++ [(Wd.right, P)]))]) .on = Q) → callD GL T L (n' + 1 + 1) (Str.ofString "Walker.exchange") [.tuple (stW (C (tmL s x (y :: z :: post))) ms), plI P, .bool false] = Q := by
      intro Q q1 q2
      refine runsM lw.exch rfl rfl ?_
      unfold b_Walker_exchange
      simp only [startG_def]
      refine .set (p := (plI (P ++ [1, 0]), .fr)) (g1 := [some (.tuple (stW (C (tmL s x (y :: z :: post))) ms), .on), some (plI P, .fr), some (.bool false, .fr), none]) (by simp [add_pl2 hP]) ?_
      cases hg : gtT x y with
      | false =>
        refine .ifT (m := .fr) (g1 := [some (.tuple (stW (C (tmL s x (y :: z :: post))) ms), .on), some (plI P, .fr), some (.bool false, .fr), some (plI (P ++ [1, 0]), .fr)]) (by simp [add_pl1 hP, stW]; rw [cx]; simp [fx]; rw [cy]; simp [fy, cle, hg]) ?_
        exact .as (.ret (d := .none) (m := .fr) (g1 := [some (.tuple (stW (C (tmL s x (y :: z :: post))) ms), .on), some (plI P, .fr), some (.bool false, .fr), some (plI (P ++ [1, 0]), .fr)]) (by simp) (q1 hg))
      | true =>
        refine .ifF (m := .fr) (g1 := [some (.tuple (stW (C (tmL s x (y :: z :: post))) ms), .on), some (plI P, .fr), some (.bool false, .fr), some (plI (P ++ [1, 0]), .fr)]) (by simp [add_pl1 hP, stW]; rw [cx]; simp [fx]; rw [cy]; simp [fy, cle, hg]) (.skip ?_)
        refine .ifF (m := .fr) (g1 := [some (.tuple (stW (C (tmL s x (y :: z :: post))) ms), .on), some (plI P, .fr), some (.bool false, .fr), some (plI (P ++ [1, 0]), .fr)]) (by simp) (.as ?_)
        have ct1 := r_take (GL := GL) (L := L) l1 l lw (n := n') (ms := ms) (by omega) (by omega) m1
        have ct2 := r_take (GL := GL) (L := L) l1 l lw (n := n') (ms := ms ++ [(Wd.left, P)]) (by simp; omega) (by simp only [List.length_append, List.length_cons, List.length_nil]; omega) m2
        have ct3 := r_take (GL := GL) (L := L) l1 l lw (n := n') (ms := (ms ++ [(Wd.left, P)]) ++ [(Wd.swap, P ++ [0])]) (by omega) (by simp only [List.length_append, List.length_cons, List.length_nil]; omega) m3
        refine .ex (ev_mcall_ok (g1 := [some (.tuple (stW (C (tmL s x (y :: z :: post))) ms), .on), some (plI P, .fr), some (.bool false, .fr), some (plI (P ++ [1, 0]), .fr)]) (ds := [.str Wd.left.s, plI P]) rfl (by simp [Wd.s]) rfl ct1) ?_
        refine .as (.ex (ev_mcall_ok (g1 := [some (.tuple (stW (C (.node s (.node s x y) (tmL s z post))) (ms ++ [(Wd.left, P)])), .on), some (plI P, .fr), some (.bool false, .fr), some (plI (P ++ [1, 0]), .fr)]) (ds := [.str Wd.swap.s, plI (P ++ [0])]) rfl (by simp [Wd.s, add_pl1 hP]) rfl ct2) ?_)
        refine .as (.ex (ev_mcall_ok (g1 := [some (.tuple (stW (C (.node s (.node s y x) (tmL s z post))) ((ms ++ [(Wd.left, P)]) ++ [(Wd.swap, P ++ [0])])), .on), some (plI P, .fr), some (.bool false, .fr), some (plI (P ++ [1, 0]), .fr)]) (ds := [.str Wd.right.s, plI P]) rfl (by simp [Wd.s]) rfl ct3) ?_)
        exact .skip (.nil (q2 hg))
    cases hg : gtT x y with
    | false => exact ⟨[], run _ (fun _ => by simp) (fun h => by rw [hg] at h; cases h), .nil _, by simp⟩
    | true => exact ⟨[(.left, P), (.swap, P ++ [0]), (.right, P)], run _ (fun h => by rw [hg] at h; cases h) (fun _ => by simp), .cons m1 (.cons m2 (.one m3)), by simp⟩
end
end DL

set_option Elab.async false
set_option linter.all false
set_option maxRecDepth 100000
/-! G16: runs of order. -/
namespace DL
open PySem L2

def rowT (s : Sn) : List Tm → Tm
  | [] => .leaf false 0
  | x :: r => tmL s x r
theorem row_comb (s : Sn) (pre : List Tm) (x : Tm) (r : List Tm) : rowT s (pre ++ x :: r) = combT s pre (tmL s x r) := by
  cases e : pre ++ x :: r with
  | nil => simp at e
  | cons y q => exact (comb_row s pre x r y q e).symm
theorem tmL_len (s : Sn) : ∀ (r : List Tm) (x : Tm), r.length + 1 ≤ (tmL s x r).ls.length
  | [], x => by have := x.ls_pos; simp [tmL]; omega
  | y :: r, x => by
    have := tmL_len s r y
    have := x.ls_pos
    simp [tmL, Tm.ls]
    omega
theorem bubN_out : ∀ (n : Nat) (l : List Tm), bubN (n + 1) l = bub (bubN n l)
  | 0, l => rfl
  | n + 1, l => by
    show bubN (n + 1) (bub l) = _
    rw [bubN_out n (bub l)]
    rfl
theorem rangeW_get {k j : Nat} {d : D} (h : (rangeD 0 (k : Int))[j]? = some d) : d = .int (j : Int) ∧ j < k := by
  unfold rangeD at h
  rw [List.getElem?_map] at h
  cases e : (List.range ((k : Int) - 0).toNat)[j]? with
  | none => rw [e] at h; cases h
  | some i =>
    rw [e] at h
    have hj := (List.getElem?_eq_some_iff.mp e).1
    rw [List.length_range] at hj
    rw [List.getElem?_range hj] at e
    cases e
    cases h
    exact ⟨by simp, by omega⟩
theorem rangeW_len (k : Nat) : (rangeD 0 (k : Int)).length = k := by simp [rangeD]
theorem mul_one1 {j : Nat} (h : j ≤ 1000) : binD .mul (.tuple [.int 1]) (.int (j : Int)) = some (.tuple (List.replicate j (.int 1)), .fr) := by
  show (if 0 ≤ (j : Int) ∧ (j : Int) ≤ 1000 ∧ 0 < [PyData.int 1].length ∧ [PyData.int 1].length ≤ 1000 then _ else _) = _
  rw [if_pos ⟨by omega, by omega, by decide, by decide⟩]
  have : (List.replicate (j : Int).toNat [PyData.int 1]).flatten = List.replicate j (PyData.int 1) := by
    rw [Int.toNat_natCast]
    clear h
    induction j with
    | zero => rfl
    | succ j ih => rw [List.replicate_succ, List.flatten_cons, ih, List.replicate_succ]; rfl
  rw [this]
section
variable {GL : Str → Option D} {T : Str → Option Fd} {L : Nat} {R : Nat → S}
/-- one pass -/
theorem r_pass (l1 : Lib1 GL T R) (l : Lib11 T R) (l5 : Lib5 T) (lw : LibW T) {P : List Int} {C : Tm → Tm} {s : Sn} {xs : List Tm} {ms : List Mv} {n k : Nat} {z3 z4 : Sl} {Q : Res Ctl → Prop} {b : S} (hC : Ctx P C) (hs : s ≠ .pair) (hn : 61 ≤ n) (hk : xs.length = k + 1)
    (h40 : (C (rowT s xs)).ls.length ≤ 40) (hm : ms.length + 3 * k + 3 < sizeLine)
    (hr : ∀ ms' z4', Way (C (rowT s xs)) ms' (C (rowT s (bub xs))) → ms'.length ≤ 3 * k → Runs GL (callD GL T L n) L b [some (.tuple (stW (C (rowT s (bub xs))) (ms ++ ms')), .on), some (plI P, .fr), some (.int ((k : Int) + 1), .fr), z3, z4'] Q) :
    Runs GL (callD GL T L n) L (.seq (.for_ 4 (.range1 (.bin .sub (.var 2) (.int (1)))) (.seq (.expr (.mcall 0 (Str.ofString "Walker.exchange") (.cons (.bin .add (.var 1) (.bin .mul (.tup (.cons (.int (1)) .nil)) (.var 4))) (.cons (.cmp .eq (.var 4) (.bin .sub (.var 2) (.int (2)))) .nil)))) .skip)) b)
      [some (.tuple (stW (C (rowT s xs)) ms), .on), some (plI P, .fr), some (.int ((k : Int) + 1), .fr), z3, z4] Q := by
  have hk40 : k + 1 ≤ 40 := by
    have h1 := len_ctx hC _ h40
    cases xs with
    | nil => simp at hk
    | cons x r =>
      have := tmL_len s r x
      simp only [List.length_cons] at hk
      simp only [rowT] at h1
      omega
  have hP : P.length ≤ 40 := by have := len_ctx hC _ h40; omega
  refine .for_ (ds := rangeD 0 (k : Int)) (m := .fr) (d := .list (rangeD 0 (k : Int))) (g1 := [some (.tuple (stW (C (rowT s xs)) ms), .on), some (plI P, .fr), some (.int ((k : Int) + 1), .fr), z3, z4])
    (fun j g => ∃ pre x r ms' z, g = [some (.tuple (stW (C (rowT s (pre ++ x :: r))) (ms ++ ms')), .on), some (plI P, .fr), some (.int ((k : Int) + 1), .fr), z3, z] ∧ pre.length = j ∧ pre.length + r.length = k ∧ pre ++ bubG x r = bub xs ∧ Way (C (rowT s xs)) ms' (C (rowT s (pre ++ x :: r))) ∧ ms'.length ≤ 3 * j)
    (by simp [show ((k : Int) + 1 - 1) = (k : Int) by omega, rngOk_small (i := (k : Int)) (by omega) (by omega)]) (by decide) rfl ?_ ?_ ?_
  · cases xs with
    | nil => simp at hk
    | cons x r => exact ⟨[], x, r, [], z4, by simp, rfl, by simpa using hk, rfl, .nil _, by simp⟩
  · rintro j d g hd ⟨pre, x, r, ms', z, rfl, hj, hlen, hb, hw, hl⟩
    obtain ⟨rfl, hjk⟩ := rangeW_get hd
    cases r with
    | nil => simp at hlen; omega
    | cons y post =>
      have e0 : rowT s (pre ++ x :: y :: post) = combT s pre (tmL s x (y :: post)) := row_comb s pre x (y :: post)
      have hC' := hC.comb (s := s) pre
      have hk2 := hw.keeps.2.1
      obtain ⟨ns, hx, hw2, hl2⟩ := r_exch (GL := GL) (L := L) (R := R) l1 l l5 lw (ms := ms ++ ms') (n := n - 1) (x := x) (y := y) (post := post) hC' hs (by omega) (by show (C (combT s pre (tmL s x (y :: post)))).ls.length ≤ 40; rw [← e0, hk2]; exact h40) (by rw [List.length_append]; omega)
      rw [show n - 1 + 1 = n by omega] at hx
      rw [← e0] at hx hw2
      have hflag : decide ((j : Int) = (k : Int) + 1 - 2) = post.isEmpty := by
        simp only [List.length_cons] at hlen
        cases post with
        | nil => simp at hlen ⊢; omega
        | cons _ _ => simp at hlen ⊢; omega
      have hpl : P ++ List.replicate pre.length (1 : Int) = P ++ List.replicate j 1 := by rw [hj]
      rw [hpl] at hx
      have hadd : binD .add (plI P) (.tuple (List.replicate j (.int 1))) = some (plI (P ++ List.replicate j 1), .fr) := by
        have := add_pl (p := P) (xs := List.replicate j 1) (by rw [List.length_replicate]; omega)
        rwa [List.map_replicate] at this
      have run : ∀ u : Tm, .ok (.tuple [.none, .tuple (stW (C u) ((ms ++ ms') ++ ns))]) .on = callD GL T L n (Str.ofString "Walker.exchange") [.tuple (stW (C (rowT s (pre ++ x :: y :: post))) (ms ++ ms')), plI (P ++ List.replicate j 1), .bool post.isEmpty] →
          DL.ex GL (callD GL T L n) L (.seq (.expr (.mcall 0 (Str.ofString "Walker.exchange") (.cons (.bin .add (.var 1) (.bin .mul (.tup (.cons (.int (1)) .nil)) (.var 4))) (.cons (.cmp .eq (.var 4) (.bin .sub (.var 2) (.int (2)))) .nil)))) .skip) [some (.tuple (stW (C (rowT s (pre ++ x :: y :: post))) (ms ++ ms')), .on), some (plI P, .fr), some (.int ((k : Int) + 1), .fr), z3, some (.int (j : Int), .fr)] =
          .ok .next [some (.tuple (stW (C u) ((ms ++ ms') ++ ns)), .on), some (plI P, .fr), some (.int ((k : Int) + 1), .fr), z3, some (.int (j : Int), .fr)] := fun u hu => by
        have := ev_mcall_ok (GL := GL) (C := callD GL T L n) (i := 0) (f := Str.ofString "Walker.exchange") (es := (.cons (.bin .add (.var 1) (.bin .mul (.tup (.cons (.int (1)) .nil)) (.var 4))) (.cons (.cmp .eq (.var 4) (.bin .sub (.var 2) (.int (2)))) .nil))) (g := [some (.tuple (stW (C (rowT s (pre ++ x :: y :: post))) (ms ++ ms')), .on), some (plI P, .fr), some (.int ((k : Int) + 1), .fr), z3, some (.int (j : Int), .fr)])
          (g1 := [some (.tuple (stW (C (rowT s (pre ++ x :: y :: post))) (ms ++ ms')), .on), some (plI P, .fr), some (.int ((k : Int) + 1), .fr), z3, some (.int (j : Int), .fr)]) (ds := [plI (P ++ List.replicate j 1), .bool post.isEmpty]) rfl
          (by simp [mul_one1 (show j ≤ 1000 by omega), hadd]; exact hflag) rfl hu.symm
        rw [DL.ex, DL.ex, this]
        rfl
      have fin : ∀ (a c : Tm), (pre ++ [a]) ++ bubG c post = bub xs → (if gtT x y = true then tmL s y (x :: post) else tmL s x (y :: post)) = tmL s a (c :: post) → ∃ g', DL.ex GL (callD GL T L n) L (.seq (.expr (.mcall 0 (Str.ofString "Walker.exchange") (.cons (.bin .add (.var 1) (.bin .mul (.tup (.cons (.int (1)) .nil)) (.var 4))) (.cons (.cmp .eq (.var 4) (.bin .sub (.var 2) (.int (2)))) .nil)))) .skip) [some (.tuple (stW (C (rowT s (pre ++ x :: y :: post))) (ms ++ ms')), .on), some (plI P, .fr), some (.int ((k : Int) + 1), .fr), z3, some (.int (j : Int), .fr)] = .ok .next g' ∧
          ∃ pre' x' r' ms'' z', g' = [some (.tuple (stW (C (rowT s (pre' ++ x' :: r'))) (ms ++ ms'')), .on), some (plI P, .fr), some (.int ((k : Int) + 1), .fr), z3, z'] ∧ pre'.length = j + 1 ∧ pre'.length + r'.length = k ∧ pre' ++ bubG x' r' = bub xs ∧ Way (C (rowT s xs)) ms'' (C (rowT s (pre' ++ x' :: r'))) ∧ ms''.length ≤ 3 * (j + 1) := fun a c hbb heq => by
        have er : combT s pre (tmL s a (c :: post)) = rowT s ((pre ++ [a]) ++ c :: post) := by
          rw [← row_comb, List.append_assoc]; rfl
        rw [heq, er] at hx hw2
        refine ⟨_, run _ hx.symm, pre ++ [a], c, post, ms' ++ ns, _, by rw [List.append_assoc ms], by simp [hj], ?_, hbb, hw.app hw2, by rw [List.length_append]; omega⟩
        simp only [List.length_append, List.length_cons, List.length_nil] at hlen ⊢
        omega
      cases hg : gtT x y with
      | true => exact fin y x (by rw [← hb, bubG, if_pos hg]; simp) (by rw [if_pos hg])
      | false => exact fin x y (by rw [← hb, bubG, if_neg (by rw [hg]; decide)]; simp) (by rw [if_neg (by rw [hg]; decide)])
  · rintro g ⟨pre, x, r, ms', z, rfl, hj, hlen, hb, hw, hl⟩
    rw [rangeW_len] at hj hl
    have : r = [] := List.eq_nil_of_length_eq_zero (by omega)
    subst this
    have hb' : pre ++ [x] = bub xs := hb
    rw [hb'] at hw ⊢
    exact hr ms' z hw hl
/-- the row is put in order -/
theorem r_order (l1 : Lib1 GL T R) (l : Lib11 T R) (l5 : Lib5 T) (lw : LibW T) {P : List Int} {C : Tm → Tm} {s : Sn} {xs : List Tm} {ms : List Mv} {n k : Nat} (hC : Ctx P C) (hs : s ≠ .pair) (hn : 61 ≤ n) (hk : xs.length = k + 1)
    (h40 : (C (rowT s xs)).ls.length ≤ 40) (hm : ms.length + 6000 < sizeLine) :
    ∃ ms', callD GL T L (n + 1) (Str.ofString "Walker.order") [.tuple (stW (C (rowT s xs)) ms), plI P, .int ((k : Int) + 1)] = .ok (.tuple [.none, .tuple (stW (C (rowT s (bubN (k + 1) xs))) (ms ++ ms'))]) .on ∧
      Way (C (rowT s xs)) ms' (C (rowT s (bubN (k + 1) xs))) ∧ ms'.length ≤ 120 * k := by
  have hk40 : k + 1 ≤ 40 := by
    have h1 := len_ctx hC _ h40
    cases xs with
    | nil => simp at hk
    | cons x r =>
      have := tmL_len s r x
      simp only [List.length_cons] at hk
      simp only [rowT] at h1
      omega
  suffices h : Runs GL (callD GL T L n) L b_Walker_order (some (.tuple (stW (C (rowT s xs)) ms), .on) :: startG 4 [plI P, .int ((k : Int) + 1)]) fun y => ∃ ms', toCM y = .ok (.tuple [.none, .tuple (stW (C (rowT s (bubN (k + 1) xs))) (ms ++ ms'))]) .on ∧
      Way (C (rowT s xs)) ms' (C (rowT s (bubN (k + 1) xs))) ∧ ms'.length ≤ 120 * k by
    obtain ⟨ms', h1, h2⟩ := h
    exact ⟨ms', runsM lw.order rfl rfl h1, h2⟩
  unfold b_Walker_order
  simp only [startG_def]
  refine .for_ (ds := rangeD 0 ((k + 1 : Nat) : Int)) (m := .fr) (d := .list (rangeD 0 ((k + 1 : Nat) : Int))) (g1 := [some (.tuple (stW (C (rowT s xs)) ms), .on), some (plI P, .fr), some (.int ((k : Int) + 1), .fr), none, none])
    (fun j g => ∃ ms' z z', g = [some (.tuple (stW (C (rowT s (bubN j xs))) (ms ++ ms')), .on), some (plI P, .fr), some (.int ((k : Int) + 1), .fr), z, z'] ∧ Way (C (rowT s xs)) ms' (C (rowT s (bubN j xs))) ∧ ms'.length ≤ 3 * k * j)
    (by simp [rngOk_small (i := (k : Int) + 1) (by omega) (by omega)]) (by decide) rfl ⟨[], none, none, by simp [bubN], .nil _, by simp⟩ ?_ ?_
  · rintro j d g hd ⟨ms', z, z', rfl, hw, hl⟩
    obtain ⟨rfl, hjk⟩ := rangeW_get hd
    have hl3 : ms'.length ≤ 3 * k * 40 := Nat.le_trans hl (Nat.mul_le_mul_left _ (by omega))
    have hkk := hw.keeps.2.1
    suffices h : Runs GL (callD GL T L n) L _ _ fun y => ∃ g', y = .ok .next g' ∧ ∃ ms'' w w', g' = [some (.tuple (stW (C (rowT s (bubN (j + 1) xs))) (ms ++ ms'')), .on), some (plI P, .fr), some (.int ((k : Int) + 1), .fr), w, w'] ∧ Way (C (rowT s xs)) ms'' (C (rowT s (bubN (j + 1) xs))) ∧ ms''.length ≤ 3 * k * (j + 1) from h
    refine r_pass (GL := GL) (L := L) (R := R) l1 l l5 lw (ms := ms ++ ms') (xs := bubN j xs) (k := k) hC hs hn (by rw [(bubN_perm j xs).length_eq]; exact hk) (by rw [hkk]; exact h40) (by rw [List.length_append]; omega) fun ns w hw2 hl2 => ?_
    refine .nil ⟨_, rfl, ms' ++ ns, _, _, by rw [bubN_out, List.append_assoc ms], by rw [bubN_out]; exact hw.app hw2, by rw [List.length_append, Nat.mul_succ]; omega⟩
  · rintro g ⟨ms', z, z', rfl, hw, hl⟩
    rw [rangeW_len] at hw hl ⊢
    refine .nil ⟨ms', rfl, hw, ?_⟩
    have : 3 * k * (k + 1) ≤ 3 * k * 40 := Nat.mul_le_mul_left _ hk40
    omega
end
end DL

set_option Elab.async false
set_option linter.all false
set_option maxRecDepth 100000
/-! G17: runs of comb and of settle. -/
namespace DL
open PySem L2

theorem wd_str (t : Tm) : PyData.strOk (wdT t) = true := by
  cases t with
  | leaf o i => cases o <;> simp [wdT, kS]
  | node s a b => cases s <;> simp [wdT, Sn.s]
theorem sn_str (s : Sn) : PyData.strOk s.s = true := by cases s <;> simp [Sn.s]
theorem parts_other {s : Sn} {t : Tm} (h : wdT t ≠ s.s) : t.parts s = [t.form] := by
  cases t with
  | leaf o i => show partsD s.s (.tuple (.str (kS o) :: _)) = _; rw [partsD_word, if_neg (show kS o ≠ s.s from h)]; rfl
  | node s' a b =>
    by_cases hp : s' = .pair
    · subst hp
      show partsD s.s (.tuple (.str (Str.ofString "pair") :: _)) = _
      rw [partsD_word, if_neg (show Str.ofString "pair" ≠ s.s from h)]; rfl
    · show partsD s.s _ = _
      rw [node_eq hp, partsD_word, if_neg (show s'.s ≠ s.s from h)]
theorem gr_form {t t' : Tm} (ok : t.ok) (h : Gr t.form t') : t'.form = t.form ∧ t'.ls.length = t.ls.length ∧ t'.ok := by
  obtain ⟨c, l⟩ := t.form_cf ok
  obtain ⟨t0, g, f, o, e⟩ := grows c
  have := Gr.uniq h g
  subst this
  exact ⟨f, by rw [e, l], o⟩
section
variable {GL : Str → Option D} {T : Str → Option Fd} {L : Nat} {R : Nat → S}
/-- is the word of what stands at p the sign -/
theorem ev_wat {t u : Tm} {ms : List Mv} {p : List Int} {n : Nat} {s : Sn} {e : E} {g : Sg} (hc : callD GL T L n (Str.ofString "Walker.word_at") [.tuple (stW t ms), plI p] = .ok (.tuple [.str (wdT u), .tuple (stW t ms)]) .on)
    (h0 : objAt 0 g = some (stW t ms)) (he : ev GL (callD GL T L n) e g = .ok (plI p, .fr) g) (hg : g.set 0 (some (.tuple (stW t ms), .on)) = g) (h2 : g[2]? = some (some (.str s.s, .fr))) :
    ev GL (callD GL T L n) (.cmp .eq (.mcall 0 (Str.ofString "Walker.word_at") (.cons e .nil)) (.var 2)) g = .ok (.bool (decide (wdT u = s.s)), .fr) g := by
  have hm := ev_mcall_ok (GL := GL) (C := callD GL T L n) (i := 0) (f := Str.ofString "Walker.word_at") (es := .cons e .nil) (g := g) (g1 := g) (ds := [plI p]) h0 (by simp [he]) h0 hc
  rw [hg] at hm
  have k1 := eqOk_str (wd_str u) (sn_str s)
  rw [ev]
  rw [hm]
  have e1 : opn (.mcall 0 (Str.ofString "Walker.word_at") (.cons e .nil)) (.ok (.str (wdT u), .fr) g) g = .ok (.v (.str (wdT u))) g := rfl
  rw [e1, bd_ok]
  have e2 : opn (.var 2) (ev GL (callD GL T L n) (.var 2) g) g = .ok (.s 2) g := by show (match g[2]? with | some (some _) => _ | _ => _) = _; rw [h2]
  rw [e2, bd_ok]
  have e3 : (Opn.s 2).get g = some (.str s.s, .fr) := by unfold Opn.get; simp only [h2]; rfl
  rw [e3]
  show ofO ((cmpD .eq (.str (wdT u)) (.str s.s) .fr).map fun c => ((PyData.bool c, Md.fr) : D × Md)) g = _
  have e4 : cmpD .eq (.str (wdT u)) (.str s.s) .fr = some (decide (wdT u = s.s)) := by
    show (if eqOk _ _ = true then _ else _) = _
    rw [if_pos k1, eqv_str]
  rw [e4]
  rfl
/-- the left part's joins are moved to the right -/
theorem r_rights (l1 : Lib1 GL T R) (l : Lib11 T R) (lw : LibW T) {P : List Int} {C : Tm → Tm} {s : Sn} {a c : Tm} {ms : List Mv} {n : Nat} {z : Sl} {Q : Res Ctl → Prop} {b : S} (hC : Ctx P C) (hs : s ≠ .pair) (hn : 60 ≤ n) (hL : 200 < L)
    (h40 : (C (.node s a c)).ls.length ≤ 40) (hm : ms.length + 60 < sizeLine)
    (hr : ∀ a' c' ms', Way (C (.node s a c)) ms' (C (.node s a' c')) → wdT a' ≠ s.s → (Tm.node s a' c').form = (Tm.node s a c).form → a'.ls.length + c'.ls.length = a.ls.length + c.ls.length → ms'.length ≤ 40 →
      Runs GL (callD GL T L n) L b [some (.tuple (stW (C (.node s a' c')) (ms ++ ms')), .on), some (plI P, .fr), some (.str s.s, .fr), z] Q) :
    Runs GL (callD GL T L n) L (.seq (.whl (.cmp .eq (.mcall 0 (Str.ofString "Walker.word_at") (.cons (.bin .add (.var 1) (.tup (.cons (.int (0)) .nil))) .nil)) (.var 2)) (.seq (.expr (.mcall 0 (Str.ofString "Walker.take") (.cons (.str (Str.ofString "right")) (.cons (.var 1) .nil)))) .skip)) b)
      [some (.tuple (stW (C (.node s a c)) ms), .on), some (plI P, .fr), some (.str s.s, .fr), z] Q := by
  have hlen := len_ctx hC _ h40
  simp only [Tm.ls, List.length_append] at hlen
  refine .whl (fun m g => ∃ a' c' ms', g = [some (.tuple (stW (C (.node s a' c')) (ms ++ ms')), .on), some (plI P, .fr), some (.str s.s, .fr), z] ∧ m = a'.ls.length ∧ Way (C (.node s a c)) ms' (C (.node s a' c')) ∧ (Tm.node s a' c').form = (Tm.node s a c).form ∧ a'.ls.length + c'.ls.length = a.ls.length + c.ls.length ∧ ms'.length + a'.ls.length ≤ a.ls.length)
    a.ls.length (by omega) ⟨a, c, [], by simp, rfl, .nil _, rfl, rfl, by simp⟩ ?_
  rintro m g ⟨a', c', ms', rfl, rfl, hw, hf, hsum, hl⟩
  have ha := (hC.left s c' a').1
  have hwa := r_word_at (GL := GL) (L := L) (R := R) l1 l lw (ms := ms ++ ms') (n := n - 1) (by omega) ha
  rw [show n - 1 + 1 = n by omega] at hwa
  have ht := ev_wat (s := s) (e := .bin .add (.var 1) (.tup (.cons (.int (0)) .nil))) (g := [some (.tuple (stW (C (.node s a' c')) (ms ++ ms')), .on), some (plI P, .fr), some (.str s.s, .fr), z]) hwa rfl (by simp [add_pl1 (show P.length ≤ 900 by omega)]) rfl rfl
  by_cases hd : wdT a' = s.s
  · rw [decide_eq_true hd] at ht
    refine .inr ⟨_, _, ht, ?_⟩
    cases a' with
    | leaf o i => exact absurd hd kS_sn
    | node s' x y =>
      have hss : s' = s := Sn.inj hd
      subst hss
      have mv : moveR Wd.right.s (C (.node s' (.node s' x y) c')) P = some (C (.node s' x (.node s' y c'))) := by rw [hC.move]; simp [turnO, hs]
      have ct := r_take (GL := GL) (L := L) (R := R) l1 l lw (n := n - 1) (ms := ms ++ ms') (by omega) (by rw [List.length_append]; omega) mv
      rw [show n - 1 + 1 = n by omega] at ct
      have e1 := ev_mcall_ok (GL := GL) (C := callD GL T L n) (i := 0) (f := Str.ofString "Walker.take") (es := (.cons (.str (Str.ofString "right")) (.cons (.var 1) .nil))) (g := [some (.tuple (stW (C (.node s' (.node s' x y) c')) (ms ++ ms')), .on), some (plI P, .fr), some (.str s'.s, .fr), z]) (g1 := [some (.tuple (stW (C (.node s' (.node s' x y) c')) (ms ++ ms')), .on), some (plI P, .fr), some (.str s'.s, .fr), z]) (ds := [.str Wd.right.s, plI P]) rfl (by simp [Wd.s]) rfl ct
      have xp := x.ls_pos
      have yp := y.ls_pos
      refine ⟨[some (.tuple (stW (C (.node s' x (.node s' y c'))) ((ms ++ ms') ++ [(Wd.right, P)])), .on), some (plI P, .fr), some (.str s'.s, .fr), z], by rw [DL.ex, DL.ex, e1]; rfl, x.ls.length, ?_, x, .node s' y c', ms' ++ [(.right, P)], by rw [List.append_assoc ms], rfl, hw.app (.one mv), ?_, ?_, ?_⟩
      · simp [Tm.ls]; omega
      · rw [← form_left hs]; exact hf
      · simp [Tm.ls] at hsum ⊢; omega
      · simp [Tm.ls] at hl ⊢; omega
  · rw [decide_eq_false hd] at ht
    exact .inl ⟨_, _, ht, hr a' c' ms' hw hd hf hsum (by omega)⟩
end
end DL

set_option Elab.async false
set_option linter.all false
set_option maxRecDepth 100000
/-! G18: runs of comb and of settle: a term is led to its form grown. -/
namespace DL
open PySem L2

section
variable {GL : Str → Option D} {T : Str → Option Fd} {L : Nat} {R : Nat → S}
theorem evs_one {C : Orc} {a : E} {g g1 : Sg} {d : D} {m : Md} (h : ev GL C a g = .ok (d, m) g1) (hm : m ≠ .on) : evs GL C (.cons a .nil) g = .ok [d] g1 := by
  rw [evs, h]
  simp only [bd_ok, hm, if_false]
  rw [evs]; rfl
theorem evs_two {C : Orc} {a b : E} {g g1 g2 : Sg} {d e : D} {m m' : Md} (h : ev GL C a g = .ok (d, m) g1) (hm : m ≠ .on) (h2 : ev GL C b g1 = .ok (e, m') g2) (hm' : m' ≠ .on) : evs GL C (.cons a (.cons b .nil)) g = .ok [d, e] g2 := by
  rw [evs, h]
  simp only [bd_ok, hm, if_false]
  rw [evs_one h2 hm']; rfl
def SettleOk (GL : Str → Option D) (T : Str → Option Fd) (L m : Nat) : Prop := ∀ (u : Tm) (P : List Int) (C : Tm → Tm) (ms : List Mv) (n : Nat), u.ls.length ≤ m → Ctx P C → (C u).ok → (C u).ls.length ≤ 40 → ms.length + 200 * u.ls.length + 7000 < sizeLine → 70 + 3 * u.ls.length ≤ n →
  ∃ u' ms', callD GL T L n (Str.ofString "Walker.settle") [.tuple (stW (C u) ms), plI P] = .ok (.tuple [.none, .tuple (stW (C u') (ms ++ ms'))]) .on ∧ Way (C u) ms' (C u') ∧ Gr u.form u' ∧ ms'.length + 200 ≤ 200 * u.ls.length
theorem r_comb (l1 : Lib1 GL T R) (l : Lib11 T R) (l5 : Lib5 T) (lw : LibW T) (hL : 200 < L) {m : Nat} (ih : SettleOk GL T L m) {P : List Int} {C : Tm → Tm} {s : Sn} {a c : Tm} {ms : List Mv} {n : Nat} (hC : Ctx P C) (hs : s ≠ .pair) (hu : (Tm.node s a c).ls.length ≤ m + 1)
    (ok : (C (.node s a c)).ok) (h40 : (C (.node s a c)).ls.length ≤ 40) (hm : ms.length + 200 * (Tm.node s a c).ls.length + 7000 < sizeLine) (hn : 69 + 3 * (Tm.node s a c).ls.length ≤ n + 1) :
    ∃ (xs : List Tm) (k : Nat) (ms' : List Mv), callD GL T L (n + 1) (Str.ofString "Walker.comb") [.tuple (stW (C (.node s a c)) ms), plI P, .str s.s] = .ok (.tuple [.int ((k : Int) + 1), .tuple (stW (C (rowT s xs)) (ms ++ ms'))]) .on ∧ xs.length = k + 1 ∧ 1 ≤ k ∧ Way (C (.node s a c)) ms' (C (rowT s xs)) ∧
      (∀ x ∈ xs, Gr x.form x ∧ partsD s.s x.form = [x.form]) ∧ ((Tm.node s a c).parts s).Perm (xs.map Tm.form) ∧ ms'.length + 160 * k + 200 ≤ 200 * (Tm.node s a c).ls.length := by
  generalize hN : (Tm.node s a c).ls.length = N at *
  generalize hU : Tm.node s a c = u at *
  have hlen := len_ctx hC _ h40
  suffices h : Runs GL (callD GL T L n) L b_Walker_comb (some (.tuple (stW (C u) ms), .on) :: startG 3 [plI P, .str s.s]) fun y => ∃ (xs : List Tm) (k : Nat) (ms' : List Mv), toCM y = .ok (.tuple [.int ((k : Int) + 1), .tuple (stW (C (rowT s xs)) (ms ++ ms'))]) .on ∧ xs.length = k + 1 ∧ 1 ≤ k ∧ Way (C u) ms' (C (rowT s xs)) ∧
      (∀ x ∈ xs, Gr x.form x ∧ partsD s.s x.form = [x.form]) ∧ (u.parts s).Perm (xs.map Tm.form) ∧ ms'.length + 160 * k + 200 ≤ 200 * N by
    obtain ⟨xs, k, ms', h1, h2⟩ := h
    exact ⟨xs, k, ms', runsM lw.comb rfl rfl h1, h2⟩
  unfold b_Walker_comb
  simp only [startG_def]
  refine .set (p := (.int 1, .fr)) (g1 := [some (.tuple (stW (C u) ms), .on), some (plI P, .fr), some (.str s.s, .fr), none]) (by simp) ?_
  refine .whl (fun M g => ∃ xs v ms', g = [some (.tuple (stW (C (combT s xs v)) (ms ++ ms')), .on), some (plI (P ++ List.replicate xs.length 1), .fr), some (.str s.s, .fr), some (.int ((xs.length : Int) + 1), .fr)] ∧ Way (C u) ms' (C (combT s xs v)) ∧
      (∀ x ∈ xs, Gr x.form x ∧ partsD s.s x.form = [x.form]) ∧ (u.parts s).Perm (xs.map Tm.form ++ v.parts s) ∧ ms'.length + 160 * xs.length + 200 * v.ls.length ≤ 200 * N ∧ ((xs = [] ∧ v = u) ∨ (1 ≤ xs.length ∧ v.ls.length < N)) ∧ M = v.ls.length)
    N (by omega) ⟨[], u, [], by simp [combT], .nil _, (fun x hx => nomatch hx), by simp, by simp [hN], .inl ⟨rfl, rfl⟩, hN.symm⟩ ?_
  rintro M g ⟨xs, v, ms', rfl, hw, hgr, hpm, hbd, hv, rfl⟩
  have hC' := hC.comb (s := s) xs
  have hk := hw.keeps
  have h40' : (C (combT s xs v)).ls.length ≤ 40 := by rw [hk.2.1]; exact h40
  have ok' : (C (combT s xs v)).ok := hk.2.2 ok
  have hlen' := len_ctx hC' v h40'
  have hvN : v.ls.length ≤ N := by rcases hv with ⟨_, rfl⟩ | h; exact Nat.le_of_eq hN; omega
  have hat := (hC' v).1
  have hwa := r_word_at (GL := GL) (L := L) (R := R) l1 l lw (ms := ms ++ ms') (n := n - 1) (by omega) hat
  rw [show n - 1 + 1 = n by omega] at hwa
  have ht := ev_wat (s := s) (e := .var 1) (g := [some (.tuple (stW (C (combT s xs v)) (ms ++ ms')), .on), some (plI (P ++ List.replicate xs.length 1), .fr), some (.str s.s, .fr), some (.int ((xs.length : Int) + 1), .fr)]) hwa rfl (by simp) rfl rfl
  by_cases hd : wdT v = s.s
  · rw [decide_eq_true hd] at ht
    refine .inr ⟨_, _, ht, ?_⟩
    cases v with
    | leaf o i => exact absurd hd kS_sn
    | node s' a1 c1 =>
      have hss : s' = s := Sn.inj hd
      subst hss
      suffices h : Runs GL (callD GL T L n) L _ _ fun y => ∃ g2, y = .ok .next g2 ∧ ∃ m', m' < (Tm.node s' a1 c1).ls.length ∧ ∃ xs v ms', g2 = [some (.tuple (stW (C (combT s' xs v)) (ms ++ ms')), .on), some (plI (P ++ List.replicate xs.length 1), .fr), some (.str s'.s, .fr), some (.int ((xs.length : Int) + 1), .fr)] ∧ Way (C u) ms' (C (combT s' xs v)) ∧
          (∀ x ∈ xs, Gr x.form x ∧ partsD s'.s x.form = [x.form]) ∧ (u.parts s').Perm (xs.map Tm.form ++ v.parts s') ∧ ms'.length + 160 * xs.length + 200 * v.ls.length ≤ 200 * N ∧ ((xs = [] ∧ v = u) ∨ (1 ≤ xs.length ∧ v.ls.length < N)) ∧ m' = v.ls.length from h
      refine r_rights (GL := GL) (L := L) (R := R) l1 l lw (ms := ms ++ ms') (a := a1) (c := c1) hC' hs (by omega) hL h40' (by rw [List.length_append]; simp [Tm.ls] at hbd; omega) fun a2 c2 ms1 hw1 hd2 hf hsum hl1 => ?_
      have hk1 := hw1.keeps
      have a2p := a2.ls_pos
      have c2p := c2.ls_pos
      have vlen : (Tm.node s' a1 c1).ls.length = a2.ls.length + c2.ls.length := by simp [Tm.ls]; omega
      rw [vlen] at hbd hvN
      have hC2 := hC'.left s' c2
      have ok2 : (C (combT s' xs (.node s' a2 c2))).ok := hk1.2.2 ok'
      have a2ok : a2.ok := (atZ_len _ _ _ (hC2 a2).1).2 ok2
      obtain ⟨a3, ms2, hc3, hw3, hg3, hl3⟩ := ih a2 _ _ ((ms ++ ms') ++ ms1) n (by omega) hC2 ok2 (by show (C (combT s' xs (.node s' a2 c2))).ls.length ≤ 40; rw [hk1.2.1]; exact h40') (by simp only [List.length_append]; omega) (by omega)
      obtain ⟨f3, n3, _⟩ := gr_form a2ok hg3
      refine .ex (ev_mcall_ok (st' := stW (C (combT s' xs (.node s' a3 c2))) (((ms ++ ms') ++ ms1) ++ ms2)) (x := .none) (g1 := [some (.tuple (stW (C (combT s' xs (.node s' a2 c2))) ((ms ++ ms') ++ ms1)), .on), some (plI (P ++ List.replicate xs.length 1), .fr), some (.str s'.s, .fr), some (.int ((xs.length : Int) + 1), .fr)]) (ds := [plI ((P ++ List.replicate xs.length 1) ++ [0])]) rfl (evs_one (m := .fr) (by simp [add_pl1 (show (P ++ List.replicate xs.length (1 : Int)).length ≤ 900 by omega)]) (by decide)) rfl hc3) ?_
      refine .set (p := (plI ((P ++ List.replicate xs.length 1) ++ [1]), .fr)) (g1 := [some (.tuple (stW (C (combT s' xs (.node s' a3 c2))) (((ms ++ ms') ++ ms1) ++ ms2)), .on), some (plI (P ++ List.replicate xs.length 1), .fr), some (.str s'.s, .fr), some (.int ((xs.length : Int) + 1), .fr)]) (by simp [add_pl1 (show (P ++ List.replicate xs.length (1 : Int)).length ≤ 900 by omega)]) ?_
      refine .set (p := (.int ((xs.length : Int) + 1 + 1), .fr)) (g1 := [some (.tuple (stW (C (combT s' xs (.node s' a3 c2))) (((ms ++ ms') ++ ms1) ++ ms2)), .on), some (plI ((P ++ List.replicate xs.length 1) ++ [1]), .fr), some (.str s'.s, .fr), some (.int ((xs.length : Int) + 1), .fr)]) (by simp) ?_
      refine .nil ⟨_, rfl, c2.ls.length, by rw [vlen]; omega, xs ++ [a3], c2, (ms' ++ ms1) ++ ms2, ?_, ?_, ?_, ?_, ?_, .inr ⟨by simp, by omega⟩, rfl⟩
      · rw [comb_snoc, List.length_append, List.length_cons, List.length_nil, List.replicate_succ']
        simp [List.append_assoc]
      · rw [comb_snoc]
        exact (hw.app hw1).app hw3
      · intro x hx
        rcases List.mem_append.mp hx with hx | hx
        · exact hgr x hx
        · have : x = a3 := by simpa using hx
          subst this
          exact ⟨by rw [f3]; exact hg3, by rw [f3]; exact parts_other hd2⟩
      · refine hpm.trans ?_
        rw [List.map_append, List.append_assoc]
        refine List.Perm.append_left _ ?_
        have e1 : (Tm.node s' a1 c1).parts s' = (Tm.node s' a2 c2).parts s' := by
          show partsD s'.s _ = partsD s'.s _
          rw [hf]
        rw [e1, node_parts hs]
        refine (sortD_perm _).trans ?_
        rw [parts_other hd2]
        simp [f3]
      · simp only [List.length_append, List.length_cons, List.length_nil]
        omega
  · rw [decide_eq_false hd] at ht
    refine .inl ⟨_, _, ht, ?_⟩
    have hlt : 1 ≤ xs.length ∧ v.ls.length < N := by
      rcases hv with ⟨_, rfl⟩ | h
      · rw [← hU] at hd; exact absurd rfl hd
      · exact h
    have vok : v.ok := (atZ_len _ _ _ (hC' v).1).2 ok'
    obtain ⟨v2, ms2, hc3, hw3, hg3, hl3⟩ := ih v _ _ (ms ++ ms') n (by omega) hC' ok' h40' (by simp only [List.length_append]; omega) (by omega)
    obtain ⟨f3, n3, _⟩ := gr_form vok hg3
    refine .ex (ev_mcall_ok (st' := stW (C (combT s xs v2)) ((ms ++ ms') ++ ms2)) (x := .none) (g1 := [some (.tuple (stW (C (combT s xs v)) (ms ++ ms')), .on), some (plI (P ++ List.replicate xs.length 1), .fr), some (.str s.s, .fr), some (.int ((xs.length : Int) + 1), .fr)]) (ds := [plI (P ++ List.replicate xs.length 1)]) rfl (evs_one (m := .fr) (by simp) (by decide)) rfl hc3) ?_
    refine .ret (d := .int ((xs.length : Int) + 1)) (m := .fr) (g1 := [some (.tuple (stW (C (combT s xs v2)) ((ms ++ ms') ++ ms2)), .on), some (plI (P ++ List.replicate xs.length 1), .fr), some (.str s.s, .fr), some (.int ((xs.length : Int) + 1), .fr)]) (by simp) ?_
    have er : rowT s (xs ++ [v2]) = combT s xs v2 := by rw [row_comb]; rfl
    refine ⟨xs ++ [v2], xs.length, ms' ++ ms2, ?_, by simp, hlt.1, ?_, ?_, ?_, ?_⟩
    · rw [er, List.append_assoc ms]; rfl
    · rw [er]; exact hw.app hw3
    · intro x hx
      rcases List.mem_append.mp hx with hx | hx
      · exact hgr x hx
      · have : x = v2 := by simpa using hx
        subst this
        exact ⟨by rw [f3]; exact hg3, by rw [f3]; exact parts_other hd⟩
    · refine hpm.trans ?_
      rw [parts_other hd]
      simp [f3]
    · simp only [List.length_append]
      omega
theorem r_settle (l1 : Lib1 GL T R) (l : Lib11 T R) (l5 : Lib5 T) (lw : LibW T) (hL : 200 < L) : ∀ m : Nat, SettleOk GL T L m
  | 0 => fun u P C ms n hu => absurd u.ls_pos (by omega)
  | m + 1 => by
    have ih := r_settle l1 l l5 lw hL m
    intro u P C ms n hu hC ok h40 hm hn
    obtain ⟨n, rfl⟩ : ∃ k, n = k + 1 := ⟨n - 1, by omega⟩
    have hlen := len_ctx hC _ h40
    have hat := (hC u).1
    have uok : u.ok := (atZ_len _ _ _ hat).2 ok
    have hwa := r_word_at (GL := GL) (L := L) (R := R) l1 l lw (ms := ms) (n := n - 1) (by omega) hat
    rw [show n - 1 + 1 = n by omega] at hwa
    suffices h : Runs GL (callD GL T L n) L b_Walker_settle (some (.tuple (stW (C u) ms), .on) :: startG 2 [plI P]) fun y => ∃ u' ms', toCM y = .ok (.tuple [.none, .tuple (stW (C u') (ms ++ ms'))]) .on ∧ Way (C u) ms' (C u') ∧ Gr u.form u' ∧ ms'.length + 200 ≤ 200 * u.ls.length by
      obtain ⟨u', ms', h1, h2⟩ := h
      exact ⟨u', ms', runsM lw.settle rfl rfl h1, h2⟩
    unfold b_Walker_settle
    simp only [startG_def]
    refine .set (p := (.str (wdT u), .fr)) (g1 := [some (.tuple (stW (C u) ms), .on), some (plI P, .fr), none]) (ev_mcall_ok (g1 := [some (.tuple (stW (C u) ms), .on), some (plI P, .fr), none]) (ds := [plI P]) rfl (evs_one (m := .fr) (by simp) (by decide)) rfl hwa) ?_
    have k0 := wd_str u
    have t1 : ev GL (callD GL T L n) (.cmp .eq (.var 2) (.str (Str.ofString "pair"))) [some (.tuple (stW (C u) ms), .on), some (plI P, .fr), some (.str (wdT u), .fr)] = .ok (.bool (decide (wdT u = Str.ofString "pair")), .fr) [some (.tuple (stW (C u) ms), .on), some (plI P, .fr), some (.str (wdT u), .fr)] := by
      simp [eqOk_str k0 (show PyData.strOk (Str.ofString "pair") = true by simp)]
    have t2 : ev GL (callD GL T L n) (.or_ (.cons (.cmp .eq (.var 2) (.str (Str.ofString "sum"))) (.cons (.cmp .eq (.var 2) (.str (Str.ofString "mul"))) .nil))) [some (.tuple (stW (C u) ms), .on), some (plI P, .fr), some (.str (wdT u), .fr)] = .ok (.bool (decide (wdT u = Str.ofString "sum" ∨ wdT u = Str.ofString "mul")), .fr) [some (.tuple (stW (C u) ms), .on), some (plI P, .fr), some (.str (wdT u), .fr)] := by
      by_cases h1 : wdT u = Str.ofString "sum"
      · simp [h1, eqOk_str k0 (show PyData.strOk (Str.ofString "sum") = true by simp)]
      · by_cases h2 : wdT u = Str.ofString "mul" <;> simp [h1, h2, eqOk_str k0 (show PyData.strOk (Str.ofString "sum") = true by simp), eqOk_str k0 (show PyData.strOk (Str.ofString "mul") = true by simp)]
    cases u with
    | leaf o i =>
      have n1 : ¬ wdT (.leaf o i) = Str.ofString "pair" := by cases o <;> simp [wdT, kS]
      have n2 : ¬ (wdT (.leaf o i) = Str.ofString "sum" ∨ wdT (.leaf o i) = Str.ofString "mul") := by cases o <;> simp [wdT, kS]
      rw [decide_eq_false n1] at t1
      rw [decide_eq_false n2] at t2
      refine .ifF t1 (.skip (.ifF t2 (.skip (.nil ?_))))
      exact ⟨.leaf o i, [], by simp [toCM], .nil _, .leaf o i, by simp [Tm.ls]⟩
    | node s a c =>
      have ap := a.ls_pos
      have cp := c.ls_pos
      have hul : (Tm.node s a c).ls.length = a.ls.length + c.ls.length := by simp [Tm.ls]
      rw [hul] at hu hm hn hlen ⊢
      by_cases hs : s = .pair
      · subst hs
        rw [decide_eq_true (show wdT (.node .pair a c) = Str.ofString "pair" from rfl)] at t1
        rw [decide_eq_false (show ¬ (wdT (.node .pair a c) = Str.ofString "sum" ∨ wdT (.node .pair a c) = Str.ofString "mul") by simp [wdT, Sn.s])] at t2
        obtain ⟨a2, ms1, ha2, hw1, hg1, hl1⟩ := ih a _ _ ms n (by omega) (hC.left .pair c) ok h40 (by omega) (by omega)
        have k1 := hw1.keeps
        obtain ⟨c2, ms2, hc2, hw2, hg2, hl2⟩ := ih c _ _ (ms ++ ms1) n (by omega) (hC.right .pair a2) (k1.2.2 ok) (by rw [k1.2.1]; exact h40) (by rw [List.length_append]; omega) (by omega)
        refine .ifT t1 (.as ?_)
        refine .ex (ev_mcall_ok (g1 := [some (.tuple (stW (C (.node .pair a c)) ms), .on), some (plI P, .fr), some (.str (wdT (.node .pair a c)), .fr)]) (ds := [plI (P ++ [0])]) rfl (evs_one (m := .fr) (by simp [add_pl1 (show P.length ≤ 900 by omega)]) (by decide)) rfl ha2) ?_
        refine .as (.ex (ev_mcall_ok (g1 := [some (.tuple (stW (C (.node .pair a2 c)) (ms ++ ms1)), .on), some (plI P, .fr), some (.str (wdT (.node .pair a c)), .fr)]) (ds := [plI (P ++ [1])]) rfl (evs_one (m := .fr) (by simp [add_pl1 (show P.length ≤ 900 by omega)]) (by decide)) rfl hc2) ?_)
        refine .skip (.ifF (m := .fr) (g1 := [some (.tuple (stW (C (.node .pair a2 c2)) ((ms ++ ms1) ++ ms2)), .on), some (plI P, .fr), some (.str (wdT (.node .pair a c)), .fr)]) ?_ (.skip (.nil ?_)))
        · simp [wdT, Sn.s]
        · refine ⟨.node .pair a2 c2, ms1 ++ ms2, by simp [toCM], hw1.app hw2, ?_, by rw [List.length_append]; omega⟩
          exact .pair hg1 hg2
      · have hj := Sn.join hs
        rw [decide_eq_false (show ¬ wdT (.node s a c) = Str.ofString "pair" by cases s <;> simp [wdT, Sn.s] at hs ⊢)] at t1
        rw [decide_eq_true (show wdT (.node s a c) = Str.ofString "sum" ∨ wdT (.node s a c) = Str.ofString "mul" from hj)] at t2
        obtain ⟨xs, k, ms1, hc1, hxk, hk1, hw1, hgr, hpm, hl1⟩ := r_comb (GL := GL) (L := L) (R := R) l1 l l5 lw hL ih (ms := ms) (n := n - 1) hC hs (by rw [hul]; exact hu) ok h40 (by rw [hul]; exact hm) (by rw [hul]; omega)
        rw [show n - 1 + 1 = n by omega] at hc1
        rw [hul] at hl1
        have kk := hw1.keeps
        obtain ⟨ms2, hc2, hw2, hl2⟩ := r_order (GL := GL) (L := L) (R := R) l1 l l5 lw (xs := xs) (k := k) (ms := ms ++ ms1) (n := n - 1) hC hs (by omega) hxk (by rw [kk.2.1]; exact h40) (by rw [List.length_append]; omega)
        rw [show n - 1 + 1 = n by omega] at hc2
        have e1 := ev_mcall_ok (GL := GL) (C := callD GL T L n) (i := 0) (f := Str.ofString "Walker.comb") (es := (.cons (.var 1) (.cons (.var 2) .nil))) (g := [some (.tuple (stW (C (.node s a c)) ms), .on), some (plI P, .fr), some (.str (wdT (.node s a c)), .fr)]) (g1 := [some (.tuple (stW (C (.node s a c)) ms), .on), some (plI P, .fr), some (.str (wdT (.node s a c)), .fr)]) (ds := [plI P, .str s.s]) rfl (evs_two (m := .fr) (m' := .fr) (g1 := [some (.tuple (stW (C (.node s a c)) ms), .on), some (plI P, .fr), some (.str (wdT (.node s a c)), .fr)]) (by simp) (by decide) (by simp [wdT]) (by decide)) rfl hc1
        refine .ifF t1 (.skip (.ifT t2 (.as ?_)))
        refine .ex (ev_mcall_ok (g1 := [some (.tuple (stW (C (rowT s xs)) (ms ++ ms1)), .on), some (plI P, .fr), some (.str (wdT (.node s a c)), .fr)]) (ds := [plI P, .int ((k : Int) + 1)]) rfl (evs_two (m := .fr) (m' := .fr) (g1 := [some (.tuple (stW (C (.node s a c)) ms), .on), some (plI P, .fr), some (.str (wdT (.node s a c)), .fr)]) (by simp) (by decide) e1 (by decide)) rfl hc2) ?_
        refine .skip (.nil ⟨rowT s (bubN (k + 1) xs), ms1 ++ ms2, by simp [toCM], hw1.app hw2, ?_, by rw [List.length_append]; omega⟩)
        -- the row in order is the form's
        have hp := bubN_perm (k + 1) xs
        have hup : UpT (bubN (k + 1) xs) := by rw [← hxk]; exact bubN_up xs
        have hF : (Tm.node s a c).form = .tuple (.str s.s :: (bubN (k + 1) xs).map Tm.form) := by
          rw [node_eq hs, ← node_parts hs]
          congr 2
          have hup2 : Up ((bubN (k + 1) xs).map Tm.form) := List.pairwise_map.mpr hup
          have hup1 : Up ((Tm.node s a c).parts s) := by
            rw [node_parts hs]
            exact sortD_up (fun x hx => (parts2_isF hs a c x hx).plain) fun x hx y hy => (parts2_isF hs a c x hx).cmp y (parts2_isF hs a c y hy)
          exact up_one (fun x hx => (parts_isF hs _ x hx).plain) hup1 hup2 (hpm.trans (hp.map _).symm)
        rw [hF]
        generalize hys : bubN (k + 1) xs = ys at *
        cases ys with
        | nil => have := hp.length_eq; simp at this; omega
        | cons y r =>
          refine .join hs (by have := hp.length_eq; simp at this ⊢; omega) (row_grows r y fun z hz => (hgr z (hp.mem_iff.mp hz)).1)
/-- settle at a term's own place -/
theorem r_settled (l1 : Lib1 GL T R) (l : Lib11 T R) (l5 : Lib5 T) (lw : LibW T) (hL : 200 < L) (t : Tm) (ok : t.ok) (h40 : t.ls.length ≤ 40) (n : Nat) (hn : 70 + 3 * t.ls.length ≤ n) :
    ∃ u ms, callD GL T L n (Str.ofString "Walker.settle") [.tuple (stW t []), .tuple []] = .ok (.tuple [.none, .tuple (stW u ms)]) .on ∧ Way t ms u ∧ Gr t.form u ∧ ms.length ≤ 8000 := by
  have z : (sizeLine : Nat) = 16777216 := by decide
  have z2 : ([] : List Mv).length + 200 * t.ls.length + 7000 < sizeLine := by rw [z, List.length_nil]; omega
  obtain ⟨u, ms, h1, h2, h3, h4⟩ := r_settle l1 l l5 lw hL t.ls.length t [] id [] n (Nat.le_refl _) .nil ok h40 z2 (by omega)
  exact ⟨u, ms, h1, h2, h3, by omega⟩
end
end DL

set_option Elab.async false
set_option linter.all false
set_option maxRecDepth 100000
/-! PW: the laws' own moved (k07, k08); the run of moves. -/
namespace DL
open PySem L2
def moveF (f : Tm → Option Tm) : Tm → List Int → Option Tm
  | t, [] => f t
  | .leaf _ _, _ :: _ => none
  | .node s a b, y :: p => if y = 0 then (moveF f a p).map fun a' => .node s a' b else if y = 1 then (moveF f b p).map fun b' => .node s a b' else none
theorem moveF_nil (f : Tm → Option Tm) (t : Tm) : moveF f t [] = f t := by cases t <;> rfl
theorem moveF_R (x : Str) : ∀ (p : List Int) (t : Tm), moveF (turnS x) t p = moveR x t p
  | [], t => by rw [moveF_nil, moveR_nil]
  | y :: p, .leaf _ _ => rfl
  | y :: p, .node s a b => by simp only [moveF, moveR, moveF_R x p a, moveF_R x p b]
theorem in01 (y : Int) : cmpD.inD (.int y) (.list [.int 0, .int 1]) .fr = some (decide (y = 0 ∨ y = 1)) := by
  have h1 : SeqAt.shaped (.int y) = true := by simp [SeqAt.shaped, PyData.canLay0, PyData.depth]
  have h2 : SeqAt.shaped (.list [.int 0, .int 1]) = true := by simp [SeqAt.shaped, PyData.canLay0, PyData.canLayAll0, PyData.depth, PyData.depthAll]
  show (if (SeqAt.shaped (.int y) && SeqAt.shaped (.list [.int 0, .int 1])) = true then some ([PyData.int 0, .int 1].any fun z => PyData.eqv z (.int y)) else none) = _
  rw [h1, h2]
  by_cases c0 : y = 0
  · subst c0; simp [PyData.eqv]
  · by_cases c1 : y = 1
    · subst c1; simp [PyData.eqv]
    · have : ¬ (0 : Int) = y := fun h => c0 h.symm
      have : ¬ (1 : Int) = y := fun h => c1 h.symm
      simp [PyData.eqv, *]
section
variable {GL : Str → Option D} {T : Str → Option Fd} {L : Nat} {R : Nat → S}
theorem r_wmoved (hM : T (Str.ofString "_law_moved") = some ⟨3, 4, b__law_moved, 0⟩) {x : Str} {f : Tm → Option Tm} (hf : ∀ t, Calls GL T L 1 (Str.ofString "_law_turned") [t.d, .str x] (.ok (oD (f t)) .fr)) : ∀ (p : List Int) (t : Tm),
    Calls GL T L (p.length + 2) (Str.ofString "_law_moved") [t.d, .str x, plI p] (.ok (oD (moveF f t p)) .fr)
  | [], t => by
    intro n hn
    obtain ⟨n, rfl⟩ : ∃ m, n = m + 1 := ⟨n - 1, by omega⟩
    have c := hf t n (by simp at hn; omega)
    refine call_runs hM rfl ?_
    unfold b__law_moved
    simp only [startG_def]
    refine .ifT (by simp [plI_eqOk, plI_eqv]; exact ⟨rfl, rfl⟩) (.as ?_)
    rw [moveF_nil]
    exact .ret (d := oD (f t)) (m := .fr) (by simp [c]; rfl) rfl
  | y :: p, .leaf o i => by
    intro n hn
    obtain ⟨n, rfl⟩ : ∃ m, n = m + 1 := ⟨n - 1, by omega⟩
    have e1 : PyData.eqv (plI (y :: p)) (.tuple []) = false := by rw [plI_eqv]; rfl
    have e2 := plI_eqOk (y :: p)
    refine call_runs hM rfl ?_
    unfold b__law_moved
    simp only [startG_def]
    refine .ifF (by simp [e1, e2]; exact ⟨rfl, rfl⟩) (.skip ?_)
    exact .ifT (by simp [Tm.d]; exact ⟨rfl, rfl⟩) (.as (.ret (d := .none) (m := .fr) (by simp; rfl) (by simp [moveF, oD])))
  | y :: p, .node s a b => by
    intro n hn
    obtain ⟨n, rfl⟩ : ∃ m, n = m + 1 := ⟨n - 1, by omega⟩
    simp only [List.length_cons] at hn
    have hcut := plI_cut y p
    have e1 : PyData.eqv (plI (y :: p)) (.tuple []) = false := by rw [plI_eqv]; rfl
    have e2 := plI_eqOk (y :: p)
    refine call_runs hM rfl ?_
    unfold b__law_moved
    simp only [startG_def]
    refine .ifF (by simp [e1, e2]; exact ⟨rfl, rfl⟩) (.skip ?_)
    by_cases c0 : y = 0
    · subst c0
      have ca := r_wmoved hM hf p a n (by omega)
      refine .ifF (m := .fr) (g1 := [some ((Tm.node s a b).d, .fr), some (.str x, .fr), some (plI (0 :: p), .fr), none]) (by simp [Tm.d, plI, isiD, in01]) (.skip ?_)
      refine .set (p := (oD (moveF f a p), .fr)) (g1 := [some ((Tm.node s a b).d, .fr), some (.str x, .fr), some (plI (0 :: p), .fr), none]) (by simp [plI] at hcut ca; simp [Tm.d, plI, hcut, ca]) ?_
      cases e : moveF f a p with
      | none => exact .ifT (m := .fr) (by simp [oD]; rfl) (.as (.ret (d := .none) (m := .fr) (by simp; rfl) (by simp [moveF, e, oD])))
      | some u =>
        refine .ifF (m := .fr) (by simp [oD, isNone_d]; rfl) (.skip ?_)
        exact .ifT (by simp [plI]; exact ⟨rfl, rfl⟩) (.as (.ret (d := (Tm.node s u b).d) (m := .fr) (by simp [Tm.d]; rfl) (by simp [moveF, e, oD])))
    · by_cases c1 : y = 1
      · subst c1
        have cb := r_wmoved hM hf p b n (by omega)
        refine .ifF (m := .fr) (g1 := [some ((Tm.node s a b).d, .fr), some (.str x, .fr), some (plI (1 :: p), .fr), none]) (by simp [Tm.d, plI, isiD, in01]) (.skip ?_)
        refine .set (p := (oD (moveF f b p), .fr)) (g1 := [some ((Tm.node s a b).d, .fr), some (.str x, .fr), some (plI (1 :: p), .fr), none]) (by simp [plI] at hcut cb; simp [Tm.d, plI, hcut, cb]) ?_
        cases e : moveF f b p with
        | none => exact .ifT (m := .fr) (by simp [oD]; rfl) (.as (.ret (d := .none) (m := .fr) (by simp; rfl) (by simp [moveF, e, oD])))
        | some u =>
          refine .ifF (m := .fr) (by simp [oD, isNone_d]; rfl) (.skip ?_)
          refine .ifF (by simp [plI]; exact ⟨rfl, rfl⟩) (.skip ?_)
          exact .ret (d := (Tm.node s a u).d) (m := .fr) (by simp [Tm.d]; rfl) (by simp [moveF, e, oD])
      · refine .ifT (m := .fr) (g1 := [some ((Tm.node s a b).d, .fr), some (.str x, .fr), some (plI (y :: p), .fr), none]) ?_ (.as (.ret (d := .none) (m := .fr) (by simp; rfl) (by simp [moveF, c0, c1, oD])))
        simp [Tm.d, plI, isiD, in01, c0, c1]
theorem r_moves (l1 : Lib1 GL T R) (hv : (T (Str.ofString "leaves")).isSome = true) (l : Lib11 T R) (l5 : Lib5 T) (lw : LibW T) (hi : T (Str.ofString "Walker.__init__") = some ⟨2, 2, .never, 2⟩) (hT : T (Str.ofString "moves") = some ⟨1, 2, b_moves, 0⟩) (hL : 200 < L) (t : Tm) (ok : t.ok) (h40 : t.ls.length ≤ 40) (n : Nat) (hn : 70 + 3 * t.ls.length ≤ n) :
    ∃ u ms, callD GL T L (n + 1) (Str.ofString "moves") [t.d] = .ok (.list (ms.map mvW)) .ow ∧ Way t ms u ∧ Gr t.form u ∧ ms.length ≤ 8000 := by
  obtain ⟨u, ms, h1, h2, h3, h4⟩ := r_settled (GL := GL) (L := L) (R := R) l1 l l5 lw hL t ok h40 n hn
  refine ⟨u, ms, ?_, h2, h3, h4⟩
  have c0 := r_leaves (L := L) l1 hv hL t ok h40 n (by omega)
  have c1 : callD GL T L n (Str.ofString "Walker.__init__") [.none, .none] = .ok .none .fr := by
    obtain ⟨n, rfl⟩ : ∃ m, n = m + 1 := ⟨n - 1, by omega⟩
    rw [callD]
    simp only [hi, List.length_cons, List.length_nil]
    show (if (2 : Nat) = 2 then (if n = 0 then CR.stuck else CR.ok .none .fr) else CR.stuck) = _
    rw [if_pos rfl, if_neg (by omega)]
  refine call_runs hT rfl ?_
  unfold b_moves
  simp only [startG_def]
  refine .ex (by simp [c0]; exact ⟨rfl, rfl⟩) ?_
  refine .sq (g1 := [some (t.d, .fr), some (.tuple (stW t []), .on)]) (by rw [DL.ex, if_neg (by decide)]; rw [c1]; simp [stW]) ?_
  refine .ex (ev_mcall_ok (g1 := [some (t.d, .fr), some (.tuple (stW t []), .on)]) (ds := [.tuple []]) rfl (by simp) rfl h1) ?_
  have e2 : DL.ex GL (callD GL T L n) L (.retT 1) [some (t.d, .fr), some (.tuple (stW u ms), .on)] = .ok (.ret (.list (ms.map mvW)) .ow) [some (t.d, .fr), none] := by
    rw [DL.ex]
    simp [stW]
  unfold Runs
  rw [DL.ex]
  rw [show ([some (t.d, .fr), some (.tuple (stW t []), .on)] : Sg).set 1 (some (.tuple (stW u ms), .on)) = [some (t.d, .fr), some (.tuple (stW u ms), .on)] from rfl, e2]
  rfl
end
end DL

set_option Elab.async false
set_option linter.all false
set_option maxRecDepth 100000
/-! PX: k08's own turned: its last part is that of the moves. -/
namespace DL
open PySem L2
def turnTail : S := match b__law_turned with
  | .seq _ (.seq _ (.seq _ (.seq _ r))) => r
  | _ => .skip
section
variable {GL : Str → Option D} {T : Str → Option Fd} {L : Nat} {R : Nat → S}
theorem r_ttail {n : Nat} {x : Str} (kx : PyData.strOk x = true) (t : Tm) : Runs GL (callD GL T L n) L turnTail [some (t.d, .fr), some (.str x, .fr), some (.str (wdT t), .fr)] fun z => toCR z = .ok (oD (turnS x t)) .fr := by
    have k1 := eqOk_str kx (show PyData.strOk (Str.ofString "swap") = true by simp)
    have k2 := eqOk_str kx (show PyData.strOk (Str.ofString "left") = true by simp)
    have k3 := eqOk_str kx (show PyData.strOk (Str.ofString "right") = true by simp)
    cases t with
    | leaf o i =>
      have e5 : turnS x (.leaf o i) = none := by simp [turnS, turnO]
      rw [e5]
      cases o <;> simp [Runs, turnTail, b__law_turned, Tm.d, kS, oD, wdT]
    | node s a b =>
      by_cases hs : s = .pair
      · subst hs
        have e5 : turnS x (.node .pair a b) = none := by
          simp only [turnS]
          split
          · rfl
          · split
            · unfold turnO; split <;> first | rfl | simp_all
            · split
              · unfold turnO; split <;> first | rfl | simp_all
              · rfl
        rw [e5]
        simp [Runs, turnTail, b__law_turned, Tm.d, Sn.s, oD, wdT]
      · have ks := lay_sS s
        have n1 : (ev GL (callD GL T L n) (.and_ (.cons (.cmp .ne (.var 2) (.str "sum")) (.cons (.cmp .ne (.var 2) (.str "mul")) .nil))) [some ((Tm.node s a b).d, .fr), some (.str x, .fr), some (.str s.s, .fr)]) = .ok (.bool false, .fr) [some ((Tm.node s a b).d, .fr), some (.str x, .fr), some (.str s.s, .fr)] := by
          rcases Sn.join hs with m1 | m1 <;> simp [m1]
        show Runs GL (callD GL T L n) L turnTail [some ((Tm.node s a b).d, .fr), some (.str x, .fr), some (.str s.s, .fr)] fun z => toCR z = _
        unfold turnTail b__law_turned
        dsimp only
        refine .ifF n1 (.skip ?_)
        by_cases x1 : x = Str.ofString "swap"
        · subst x1
          exact .ifT (by simp; exact ⟨rfl, rfl⟩) (.as (.ret (d := (Tm.node s b a).d) (m := .fr) (by simp [Tm.d]; rfl) (by simp [turnS, turnO, hs, oD])))
        · refine .ifF (m := .fr) (g1 := [some ((Tm.node s a b).d, .fr), some (.str x, .fr), some (.str s.s, .fr)]) (by simp [k1, x1]) (.skip ?_)
          by_cases x2 : x = Str.ofString "left"
          · subst x2
            have last : ∀ {g : Sg}, ∀ (r : S), (ev GL (callD GL T L n) (.and_ (.cons (.cmp .eq (.var 1) (.str "right")) (.cons (.cmp .eq (.ix (.ix (.var 0) (.int (1))) (.int (0))) (.var 2)) .nil))) g) = .ok (.bool false, .fr) g → turnS (Str.ofString "left") (.node s a b) = none → Runs GL (callD GL T L n) L (.seq (.ite (.and_ (.cons (.cmp .eq (.var 1) (.str "right")) (.cons (.cmp .eq (.ix (.ix (.var 0) (.int (1))) (.int (0))) (.var 2)) .nil))) r .skip) (.seq (.ret .non) .skip)) g fun z => toCR z = .ok (oD (turnS (Str.ofString "left") (.node s a b))) .fr := fun {g} r h e => by
              rw [e]
              exact .ifF h (.skip (.ret (d := .none) (m := .fr) (by simp; rfl) rfl))
            cases b with
            | leaf o i =>
              have e : kS o ≠ s.s := kS_sn
              exact .ifF (m := .fr) (g1 := [some ((Tm.node s a (.leaf o i)).d, .fr), some (.str (Str.ofString "left"), .fr), some (.str s.s, .fr)]) (by simp [Tm.d, eqOk_str (lay_kS o) ks, e]) (.skip (last _ (by simp) (by simp [turnS, turnO])))
            | node s' b c =>
              by_cases e : s' = s
              · subst e
                exact .ifT (m := .fr) (g1 := [some ((Tm.node s' a (.node s' b c)).d, .fr), some (.str (Str.ofString "left"), .fr), some (.str s'.s, .fr)]) (by simp [Tm.d, eqOk_str ks ks]) (.as (.ret (d := (Tm.node s' (.node s' a b) c).d) (m := .fr) (by simp [Tm.d]; rfl) (by simp [turnS, turnO, hs, oD])))
              · have e2 : s'.s ≠ s.s := fun z => e (Sn.inj z)
                exact .ifF (m := .fr) (g1 := [some ((Tm.node s a (.node s' b c)).d, .fr), some (.str (Str.ofString "left"), .fr), some (.str s.s, .fr)]) (by simp [Tm.d, eqOk_str (lay_sS s') ks, e2]) (.skip (last _ (by simp) (by simp [turnS, turnO, hs, e])))
          · refine .ifF (m := .fr) (g1 := [some ((Tm.node s a b).d, .fr), some (.str x, .fr), some (.str s.s, .fr)]) (by simp [k2, x2]) (.skip ?_)
            by_cases x3 : x = Str.ofString "right"
            · subst x3
              cases a with
              | leaf o i =>
                have e : kS o ≠ s.s := kS_sn
                exact .ifF (m := .fr) (g1 := [some ((Tm.node s (.leaf o i) b).d, .fr), some (.str (Str.ofString "right"), .fr), some (.str s.s, .fr)]) (by simp [Tm.d, eqOk_str (lay_kS o) ks, e]) (.skip (.ret (d := .none) (m := .fr) (by simp; rfl) (by simp [turnS, turnO, oD])))
              | node s' a a2 =>
                by_cases e : s' = s
                · subst e
                  exact .ifT (m := .fr) (g1 := [some ((Tm.node s' (.node s' a a2) b).d, .fr), some (.str (Str.ofString "right"), .fr), some (.str s'.s, .fr)]) (by simp [Tm.d, eqOk_str ks ks]) (.as (.ret (d := (Tm.node s' a (.node s' a2 b)).d) (m := .fr) (by simp [Tm.d]; rfl) (by simp [turnS, turnO, hs, oD])))
                · have e2 : s'.s ≠ s.s := fun z => e (Sn.inj z)
                  exact .ifF (m := .fr) (g1 := [some ((Tm.node s (.node s' a a2) b).d, .fr), some (.str (Str.ofString "right"), .fr), some (.str s.s, .fr)]) (by simp [Tm.d, eqOk_str (lay_sS s') ks, e2]) (.skip (.ret (d := .none) (m := .fr) (by simp; rfl) (by simp [turnS, turnO, hs, e, oD])))
            · exact .ifF (m := .fr) (g1 := [some ((Tm.node s a b).d, .fr), some (.str x, .fr), some (.str s.s, .fr)]) (by simp [k3, x3]) (.skip (.ret (d := .none) (m := .fr) (by simp; rfl) (by simp [turnS, x1, x2, x3, oD])))
end
end DL

set_option Elab.async false
set_option linter.all false
set_option maxRecDepth 100000
/-! PY: k08's own turned, all six words. -/
namespace DL
open PySem L2
def rotS : Sn → Sn
  | .sum => .mul
  | .mul => .pair
  | .pair => .sum
def turnX (x : Str) (t : Tm) : Option Tm :=
  if x = Str.ofString "leaf" then (match t with | .leaf o i => some (if o = false ∧ i = 3 then .leaf true 9 else .leaf false 3) | .node s a b => some (.node s a b))
  else match t with
    | .leaf o i => turnS x (.leaf o i)
    | .node s a b => if x = Str.ofString "sign" then some (.node (rotS s) a b) else if x = Str.ofString "pair" ∧ s = .pair then some (.node s b a) else turnS x (.node s a b)
theorem turnX_keeps {x : Str} {t u : Tm} (h : turnX x t = some u) : u.ls.length = t.ls.length ∧ (t.ok → u.ok) := by
  unfold turnX at h
  split at h
  · split at h
    · cases h
      split
      · exact ⟨rfl, fun _ => ⟨by omega, by simp⟩⟩
      · exact ⟨rfl, fun _ => ⟨by omega, by simp⟩⟩
    · cases h; exact ⟨rfl, id⟩
  · split at h
    · exact (turnS_keeps h).2
    · split at h
      · cases h; exact ⟨by simp [Tm.ls], id⟩
      · split at h
        · cases h; exact ⟨by simp [Tm.ls, Nat.add_comm], fun h => ⟨h.2, h.1⟩⟩
        · exact (turnS_keeps h).2
theorem moveF_keeps {f : Tm → Option Tm} (hf : ∀ t u, f t = some u → u.ls.length = t.ls.length ∧ (t.ok → u.ok)) : ∀ (p : List Int) (t u : Tm), moveF f t p = some u → u.ls.length = t.ls.length ∧ (t.ok → u.ok)
  | [], t, u, h => by rw [moveF_nil] at h; exact hf t u h
  | y :: p, .leaf _ _, u, h => by simp [moveF] at h
  | y :: p, .node s a b, u, h => by
    by_cases c : y = 0
    · simp only [moveF, c, if_true, Option.map_eq_some_iff] at h
      obtain ⟨a', ha, rfl⟩ := h
      obtain ⟨h1, h2⟩ := moveF_keeps hf p a a' ha
      exact ⟨by simp [Tm.ls, h1], fun ok => ⟨h2 ok.1, ok.2⟩⟩
    · by_cases c1 : y = 1
      · subst c1
        simp only [moveF, c, if_false, if_true, Option.map_eq_some_iff] at h
        obtain ⟨b', hb, rfl⟩ := h
        obtain ⟨h1, h2⟩ := moveF_keeps hf p b b' hb
        exact ⟨by simp [Tm.ls, h1], fun ok => ⟨ok.1, h2 ok.2⟩⟩
      · simp [moveF, c, c1] at h
section
variable {GL : Str → Option D} {T : Str → Option Fd} {L : Nat} {R : Nat → S}
theorem r_xturned (hT : T (Str.ofString "_law_turned") = some ⟨2, 3, b__law_turned, 0⟩) {x : Str} (kx : PyData.strOk x = true) (t : Tm) : Calls GL T L 1 (Str.ofString "_law_turned") [t.d, .str x] (.ok (oD (turnX x t)) .fr) :=
  .mk hT rfl fun n _ => by
    have k1 := eqOk_str kx (show PyData.strOk (Str.ofString "leaf") = true by decide +kernel)
    have k2 := eqOk_str kx (show PyData.strOk (Str.ofString "sign") = true by decide +kernel)
    have k3 := eqOk_str kx (show PyData.strOk (Str.ofString "pair") = true by simp)
    have tail := r_ttail (GL := GL) (T := T) (L := L) (n := n) kx t
    have kw := eqOk_str (wd_str t) (show PyData.strOk (Str.ofString "pair") = true by simp)
    show Runs GL (callD GL T L n) L b__law_turned _ fun z => toCR z = _
    unfold turnTail at tail
    unfold b__law_turned at tail ⊢
    dsimp only at tail
    simp only [startG_def]
    refine .set (p := (.str (wdT t), .fr)) (g1 := [some (t.d, .fr), some (.str x, .fr), none]) (by cases t <;> simp [Tm.d, wdT]) ?_
    by_cases x1 : x = Str.ofString "leaf"
    · subst x1
      refine .ifT (m := .fr) (g1 := [some (t.d, .fr), some (.str (Str.ofString "leaf"), .fr), some (.str (wdT t), .fr)]) (by simp [k1]) (.as ?_)
      cases t with
      | leaf o i =>
        have e1 : eqOk (Tm.leaf o i).d (.tuple [.str (Str.ofString "name"), .int 3]) = true := eqOk_plain (Tm.leaf o i).lay (by simp [PyData.canLay0, PyData.canLayAll0]) (by simp [PyData.depth, PyData.depthAll, Tm.d])
        have e2 : PyData.eqv (Tm.leaf o i).d (.tuple [.str (Str.ofString "name"), .int 3]) = decide (o = false ∧ i = 3) := by
          cases o
          · simp [Tm.d, kS, PyData.eqv, PyData.eqvAll]
            rw [Bool.eq_iff_iff]; simp
          · simp [Tm.d, kS, PyData.eqv, PyData.eqvAll]
        have mz : mulOk 0 2 = true := by decide
        by_cases h : o = false ∧ i = 3
        · refine .ret (d := (Tm.leaf true 9).d) (m := .fr) (g1 := [some ((Tm.leaf o i).d, .fr), some (.str (Str.ofString "leaf"), .fr), some (.str (wdT (.leaf o i)), .fr)]) ?_ (by simp [turnX, h, oD])
          rw [decide_eq_true h] at e2
          simp only [Tm.d] at e1 e2 ⊢
          simp [e1, e2, mz, atI, ixN]
          try simp [kS]
        · refine .ret (d := (Tm.leaf false 3).d) (m := .fr) (g1 := [some ((Tm.leaf o i).d, .fr), some (.str (Str.ofString "leaf"), .fr), some (.str (wdT (.leaf o i)), .fr)]) ?_ (by simp [turnX, h, oD])
          rw [decide_eq_false h] at e2
          simp only [Tm.d] at e1 e2 ⊢
          simp [e1, e2, mz, atI, ixN]
          try simp [kS]
      | node s a b =>
        have e1 : eqOk (Tm.node s a b).d (.tuple [.str (Str.ofString "name"), .int 3]) = true := by
          unfold eqOk
          rw [(Tm.node s a b).lay]
          simp [PyData.canLay0, PyData.canLayAll0, PyData.depth, PyData.depthAll, Nat.min_def]
          split <;> omega
        have e2 : PyData.eqv (Tm.node s a b).d (.tuple [.str (Str.ofString "name"), .int 3]) = false := by
          cases s <;> simp [Tm.d, Sn.s, PyData.eqv, PyData.eqvAll]
        have mz : mulOk 1 2 = true := by decide
        refine .ret (d := (Tm.node s a b).d) (m := .fr) (g1 := [some ((Tm.node s a b).d, .fr), some (.str (Str.ofString "leaf"), .fr), some (.str (wdT (.node s a b)), .fr)]) ?_ (by simp [turnX, oD])
        simp only [Tm.d] at e1 e2 ⊢
        simp [e1, e2, mz, atI, ixN]
    · refine .ifF (m := .fr) (g1 := [some (t.d, .fr), some (.str x, .fr), some (.str (wdT t), .fr)]) (by simp [k1, x1]) (.skip ?_)
      cases t with
      | leaf o i =>
        have e : turnX x (.leaf o i) = turnS x (.leaf o i) := by simp [turnX, x1]
        rw [e]
        refine .ifF (m := .fr) (g1 := [some ((Tm.leaf o i).d, .fr), some (.str x, .fr), some (.str (wdT (.leaf o i)), .fr)]) (by
          by_cases h : x = Str.ofString "sign"
          · subst h; simp [k2, Tm.d]
          · simp [k2, h, Tm.d]) (.skip ?_)
        refine .ifF (m := .fr) (g1 := [some ((Tm.leaf o i).d, .fr), some (.str x, .fr), some (.str (wdT (.leaf o i)), .fr)]) (by
          by_cases h : x = Str.ofString "pair"
          · subst h; cases o <;> simp [wdT, kS]
          · simp [k3, h]) (.skip ?_)
        exact tail
      | node s a b =>
        by_cases x2 : x = Str.ofString "sign"
        · subst x2
          refine .ifT (m := .fr) (g1 := [some ((Tm.node s a b).d, .fr), some (.str (Str.ofString "sign"), .fr), some (.str (wdT (.node s a b)), .fr)]) (by simp [k2, Tm.d]) (.as ?_)
          refine .ret (d := (Tm.node (rotS s) a b).d) (m := .fr) (g1 := [some ((Tm.node s a b).d, .fr), some (.str (Str.ofString "sign"), .fr), some (.str (wdT (.node s a b)), .fr)]) (by cases s <;> simp [Tm.d, wdT, rotS, Sn.s, hide1]) (by simp [turnX, oD, x1])
        · refine .ifF (m := .fr) (g1 := [some ((Tm.node s a b).d, .fr), some (.str x, .fr), some (.str (wdT (.node s a b)), .fr)]) (by simp [k2, x2]) (.skip ?_)
          by_cases x3 : x = Str.ofString "pair" ∧ s = .pair
          · obtain ⟨rfl, rfl⟩ := x3
            refine .ifT (m := .fr) (g1 := [some ((Tm.node .pair a b).d, .fr), some (.str (Str.ofString "pair"), .fr), some (.str (wdT (.node .pair a b)), .fr)]) (by simp [wdT, Sn.s]) (.as ?_)
            exact .ret (d := (Tm.node .pair b a).d) (m := .fr) (g1 := [some ((Tm.node .pair a b).d, .fr), some (.str (Str.ofString "pair"), .fr), some (.str (wdT (.node .pair a b)), .fr)]) (by simp [Tm.d, wdT, Sn.s]) (by simp [turnX, oD, x1, x2])
          · have e : turnX x (.node s a b) = turnS x (.node s a b) := by simp [turnX, x1, x2, x3]
            rw [e]
            refine .ifF (m := .fr) (g1 := [some ((Tm.node s a b).d, .fr), some (.str x, .fr), some (.str (wdT (.node s a b)), .fr)]) ?_ (.skip tail)
            by_cases h : x = Str.ofString "pair"
            · have hs : s ≠ .pair := fun z => x3 ⟨h, z⟩
              have : ¬ s.s = Str.ofString "pair" := fun z => hs (Sn.inj (s' := .pair) z)
              simp [k3, h, wdT, kw, eqOk_str (sn_str s) (show PyData.strOk (Str.ofString "pair") = true by simp), this]
            · simp [k3, h]
end
end DL

set_option Elab.async false
set_option linter.all false
set_option maxRecDepth 100000
/-! G13: runs of put, filled. -/
namespace DL
open PySem L2
theorem lcGo_all {f : D → Res (Option D)} (h : D → D) : ∀ (l : List D), (∀ a ∈ l, ∃ g, f a = .ok (some (h a)) g) → lcGo f l = some (l.map h)
  | [], _ => rfl
  | a :: l, hf => by
    obtain ⟨g, e⟩ := hf a (by simp)
    have ih := lcGo_all h l fun b hb => hf b (by simp [hb])
    rw [lcGo, e]
    simp [ih]
theorem lvDs_mem {x : D} : ∀ {xs : List D}, x ∈ xs → lvD x ≤ lvDs xs
  | [], h => by cases h
  | y :: ys, h => by
    simp only [lvDs]
    rcases List.mem_cons.mp h with rfl | h
    · omega
    · have := lvDs_mem h; omega
theorem lvDs_map_le {h : D → D} {m : Nat} : ∀ {xs : List D}, (∀ x ∈ xs, lvD (h x) ≤ m * lvD x) → lvDs (xs.map h) ≤ m * lvDs xs
  | [], _ => by simp [lvDs]
  | x :: xs, hx => by
    have := hx x List.mem_cons_self
    have := lvDs_map_le fun y hy => hx y (List.mem_cons_of_mem _ hy)
    simp [lvDs, Nat.mul_add]
    omega
theorem lvD_join {s : Sn} {xs : List D} : lvD (.tuple (.str s.s :: xs)) = lvDs xs := by cases s <;> simp [lvD, lvDs]
theorem row_len {s : Sn} (hs : s ≠ .pair) {ds : List D} (h : ∀ d ∈ ds, CF d) : (ds.flatMap (partsD s.s)).length ≤ lvDs ds := by
  have e := lv_flat s.s ds
  have := lvDs_len2 (ds.flatMap (partsD s.s)) fun x hx => (cf_small (row_cf hs h x hx).1).2.2
  omega
section
variable {GL : Str → Option D} {T : Str → Option Fd} {L : Nat} {R : Nat → S}
theorem r_putD (l5 : Lib5 T) (hT : T (Str.ofString "put") = some ⟨2, 3, b_put, 0⟩) {es : List (D × D)} {f : Int → D} {m k : Nat} (hm : 1 ≤ m) : ∀ (n : Nat) (d : D), CF d → d.depth ≤ n → m * lvD d ≤ 1000 → n + k ≤ 80 →
    (∀ i, (true, i) ∈ lsD d → getKey es (.int i) = some (f i) ∧ CF (f i) ∧ lvD (f i) ≤ m ∧ (f i).depth ≤ k + 1) →
    Calls GL T L (n + 3) (Str.ofString "put") [d, .dict es] (.ok (putD f d) .fr) ∧ CF (putD f d) ∧ lvD (putD f d) ≤ m * lvD d ∧ (putD f d).depth ≤ d.depth + k := by
  intro n
  induction n with
  | zero =>
    intro d cf hd
    cases cf <;> simp [PyData.depth] at hd
  | succ n ih =>
    intro d cf hd hlv hk hf
    have lo : ∀ c, 1 ≤ m * c ↔ 1 ≤ c := fun c => by
      constructor
      · intro h; cases c <;> simp at h ⊢
      · intro h; exact Nat.mul_le_mul hm h
    cases cf with
    | leaf o i ok =>
      rw [putD_leaf]
      cases o with
      | true =>
        obtain ⟨g1, g2, g3, g4⟩ := hf i (by rw [lsD_leaf]; simp)
        refine ⟨fun q hq => ?_, g2, ?_, ?_⟩
        · obtain ⟨q, rfl⟩ : ∃ m, q = m + 1 := ⟨q - 1, by omega⟩
          refine call_runs hT rfl ?_
          unfold b_put
          simp only [startG_def]
          exact .ifT (by simp [kS]; exact ⟨rfl, rfl⟩) (.as (.ret (d := f i) (m := .fr) (by simp [g1]; rfl) rfl))
        · simp [lvD, lvDs]; omega
        · simp [PyData.depth, PyData.depthAll]; omega
      | false =>
        refine ⟨fun q hq => ?_, .leaf false i ok, ?_, ?_⟩
        · obtain ⟨q, rfl⟩ : ∃ m, q = m + 1 := ⟨q - 1, by omega⟩
          refine call_runs hT rfl ?_
          unfold b_put
          simp only [startG_def]
          refine .ifF (by simp [kS]; exact ⟨rfl, rfl⟩) (.skip ?_)
          exact .ifT (by simp; exact ⟨rfl, rfl⟩) (.as (.ret (m := .fr) (by simp; exact ⟨rfl, rfl⟩) (by simp [kS])))
        · simp [lvD, lvDs]; omega
        · simp [PyData.depth, PyData.depthAll]
    | @pair a b ca cb =>
      have ha : max a.depth b.depth ≤ n := by simp [PyData.depth, PyData.depthAll] at hd; omega
      have hl : lvD (.tuple [.str (Str.ofString "pair"), a, b]) = lvD a + lvD b := by simp [lvD, lvDs]
      rw [hl, Nat.mul_add] at hlv
      obtain ⟨a1, a2, a3, a4⟩ := ih a ca (by omega) (by omega) (by omega) fun i hi => hf i (by rw [lsD_pair]; simp [hi])
      obtain ⟨b1, b2, b3, b4⟩ := ih b cb (by omega) (by omega) (by omega) fun i hi => hf i (by rw [lsD_pair]; simp [hi])
      rw [putD_pair]
      refine ⟨fun q hq => ?_, .pair a2 b2, ?_, ?_⟩
      · obtain ⟨q, rfl⟩ : ∃ m, q = m + 1 := ⟨q - 1, by omega⟩
        have ca := a1 q (by omega)
        have cb := b1 q (by omega)
        refine call_runs hT rfl ?_
        unfold b_put
        simp only [startG_def]
        refine .ifF (by simp; exact ⟨rfl, rfl⟩) (.skip (.ifF (by simp; exact ⟨rfl, rfl⟩) (.skip ?_)))
        exact .ifT (by simp; exact ⟨rfl, rfl⟩) (.as (.ret (d := .tuple [.str (Str.ofString "pair"), putD f a, putD f b]) (m := .fr) (by simp [ca, cb]; rfl) rfl))
      · rw [hl]; simp [lvD, lvDs, Nat.mul_add]; omega
      · simp [PyData.depth, PyData.depthAll]; omega
    | @join s xs hs h2 hc u hp =>
      rw [lvD_join] at hlv
      have hdep : ∀ x ∈ xs, x.depth ≤ n := fun x hx => by
        have h1 := depth_mem hx
        simp [PyData.depth, PyData.depthAll] at hd
        omega
      have each : ∀ x ∈ xs, Calls GL T L (n + 3) (Str.ofString "put") [x, .dict es] (.ok (putD f x) .fr) ∧ CF (putD f x) ∧ lvD (putD f x) ≤ m * lvD x ∧ (putD f x).depth ≤ x.depth + k := fun x hx => by
        refine ih x (hc x hx) (hdep x hx) ?_ (by omega) fun i hi => hf i (by rw [lsD_join h2]; exact List.mem_flatMap.mpr ⟨x, hx, hi⟩)
        exact Nat.le_trans (Nat.mul_le_mul_left m (lvDs_mem hx)) hlv
      have hcf : ∀ d ∈ xs.map (putD f), CF d := fun d hd => by
        obtain ⟨x, hx, rfl⟩ := List.mem_map.mp hd
        exact (each x hx).2.1
      have hne : xs.map (putD f) ≠ [] := by intro e; simp at e; rw [e] at h2; simp at h2
      have hlv2 : lvDs (xs.map (putD f)) ≤ m * lvDs xs := lvDs_map_le fun x hx => (each x hx).2.2.1
      have hmem : ∀ x ∈ xs, x.depth + 1 ≤ PyData.depth (.tuple (.str s.s :: xs)) := fun x hx => by
        have := depth_mem hx
        simp [PyData.depth, PyData.depthAll]
        omega
      have hdd : ∀ d ∈ xs.map (putD f), IsF d ∧ d.depth ≤ PyData.depth (.tuple (.str s.s :: xs)) - 1 + k := fun d hd => by
        obtain ⟨x, hx, rfl⟩ := List.mem_map.mp hd
        exact ⟨(each x hx).2.1.isF, by have := (each x hx).2.2.2; have := hmem x hx; omega⟩
      rw [putD_join f hs]
      obtain ⟨j1, j2⟩ := cf_joins hs hcf hne
      refine ⟨fun q hq => ?_, j1, by rw [j2, lvD_join]; exact hlv2, ?_⟩
      · obtain ⟨q, rfl⟩ : ∃ m, q = m + 1 := ⟨q - 1, by omega⟩
        have cj := r_joined (GL := GL) (L := L) l5 (Sn.join hs) (ds := xs.map (putD f)) (fun d hd' => ⟨(hdd d hd').1, by have := (hdd d hd').2; omega⟩) (Nat.le_trans (row_len hs hcf) (by omega)) q (by omega)
        have n1 := eqOk_str (lay_sS s) (show PyData.strOk (Str.ofString "open") = true by simp)
        have n2 := eqOk_str (lay_sS s) (show PyData.strOk (Str.ofString "name") = true by simp)
        have n3 := eqOk_str (lay_sS s) (show PyData.strOk (Str.ofString "pair") = true by simp)
        have m1 : ¬ s.s = Str.ofString "open" := fun e => (kS_sn (o := true) (s := s)) e.symm
        have m2 : ¬ s.s = Str.ofString "name" := fun e => (kS_sn (o := false) (s := s)) e.symm
        have m3 : ¬ s.s = Str.ofString "pair" := fun e => hs (Sn.inj (s' := .pair) e)
        refine call_runs hT rfl ?_
        unfold b_put
        simp only [startG_def]
        refine .ifF (m := .fr) (g1 := [some (.tuple (.str s.s :: xs), .fr), some (.dict es, .fr), none]) (by simp [n1, m1]) (.skip ?_)
        refine .ifF (m := .fr) (g1 := [some (.tuple (.str s.s :: xs), .fr), some (.dict es, .fr), none]) (by simp [n2, m2]) (.skip ?_)
        refine .ifF (m := .fr) (g1 := [some (.tuple (.str s.s :: xs), .fr), some (.dict es, .fr), none]) (by simp [n3, m3]) (.skip ?_)
        refine .ret (d := joinD s.s (xs.map (putD f))) (m := .fr) (g1 := [some (.tuple (.str s.s :: xs), .fr), some (.dict es, .fr), none]) ?_ rfl
        have hx1 : xs.length ≤ 16777216 := by
          have h1 := flat_pos (s := s.s) hcf
          have h3 := row_len hs hcf
          rw [List.length_map] at h1
          omega
        have lc := lcGo_all (f := fun d => (iff_ .nil (ev GL (callD GL T L q) .nil ([some (.tuple (.str s.s :: xs), .fr), some (.dict es, .fr), some (d, .fr)])) [some (.tuple (.str s.s :: xs), .fr), some (.dict es, .fr), some (d, .fr)]).bd fun c g => if c then (ev GL (callD GL T L q) (.call (Str.ofString "put") (.cons (.var 2) (.cons (.var 1) .nil))) g).bd fun p g => if p.2 = .on then .stuck else .ok (some p.1) g else .ok none g) (putD f) xs fun x hx => by
          have := (each x hx).1 q (by omega)
          simp [this]
        simp [cut_tail]
        simp at lc
        simp [lc, cj, hx1]
      · have := (join_form (Sn.join hs) hdd).2
        have h1 : 1 ≤ PyData.depth (.tuple (.str s.s :: xs)) := by simp [PyData.depth]
        omega
structure Lib13 (T : Str → Option Fd) (R : Nat → S) : Prop where
  opens : T (Str.ofString "opens") = some ⟨1, 2, b_opens, 0⟩
  put : T (Str.ofString "put") = some ⟨2, 3, b_put, 0⟩
  filled : T (Str.ofString "filled") = some ⟨2, 3, b_filled R, 0⟩
theorem mem_opens {t : Tm} {d : D} {j : Nat} (h : ((sortI (opN t.ls)).map PyData.int)[j]? = some d) : ∃ i, d = .int i ∧ (true, i) ∈ t.ls := by
  have hm := List.mem_of_getElem? h
  obtain ⟨i, hi, rfl⟩ := List.mem_map.mp hm
  exact ⟨i, rfl, mem_opN.mp (sortI_mem.mp hi)⟩
theorem r_filled (l1 : Lib1 GL T R) (l5 : Lib5 T) (l : Lib13 T R) (hL : 200 < L) {es : List (D × D)} {f : Int → D} {m k : Nat} (hm : 1 ≤ m) (t : Tm) (ok : t.ok) (h40 : t.ls.length ≤ 40) (hlv : m * t.ls.length ≤ 1000) (hk : t.ht + k ≤ 80)
    (hf : ∀ i, (true, i) ∈ t.ls → getKey es (.int i) = some (f i) ∧ hasKey es (.int i) = true ∧ CF (f i) ∧ lvD (f i) ≤ m ∧ (f i).depth ≤ k + 1) (n : Nat) (hn : t.ht + 6 ≤ n) :
    callD GL T L (n + 1) (Str.ofString "filled") [t.d, .dict es] = .ok (t.fill f) .fr := by
  have c1 := r_opens (L := L) l1 l.opens hL t ok h40 n (by omega)
  have c2 := r_flat (L := L) l1 l5 t (by omega) n (by omega)
  obtain ⟨cf, lv⟩ := t.form_cf ok
  have mem : ∀ i, (true, i) ∈ lsD t.form → (true, i) ∈ t.ls := fun i hi => (form_ls t ok).mem_iff.mp hi
  have c3 := (r_putD (GL := GL) (L := L) l5 l.put hm t.ht t.form cf (t.form_ok.2) (by rw [lv]; exact hlv) hk fun i hi => ⟨(hf i (mem i hi)).1, (hf i (mem i hi)).2.2⟩).1 n (by omega)
  rw [put_form_fill f t ok fun i hi => (hf i hi).2.2.1] at c3
  refine call_runs l.filled rfl ?_
  unfold b_filled
  simp only [startG_def]
  refine .for_ (ds := (sortI (opN t.ls)).map .int) (fun i g => ∃ z : Sl, g = [some (t.d, .fr), some (.dict es, .fr), z]) (by simp [c1]; exact ⟨rfl, rfl⟩) (by decide) rfl ⟨none, rfl⟩ ?_ ?_
  · rintro j x g hx ⟨z, rfl⟩
    obtain ⟨i, rfl, hi⟩ := mem_opens hx
    have hh := (hf i hi).2.1
    refine ⟨[some (t.d, .fr), some (.dict es, .fr), some (.int i, .fr)], ?_, _, rfl⟩
    simp [cmpD.inD, hh]
  · rintro g ⟨z, rfl⟩
    exact .ret (d := t.fill f) (m := .fr) (by simp [c2, c3]; rfl) rfl
theorem r_filled_no (l1 : Lib1 GL T .raise) (l : Lib13 T .raise) (hL : 200 < L) {es : List (D × D)} (t : Tm) (ok : t.ok) (h40 : t.ls.length ≤ 40) {i : Int} (hi : (true, i) ∈ t.ls) (hk : hasKey es (.int i) = false) (n : Nat) (hn : 4 ≤ n) :
    callD GL T L (n + 1) (Str.ofString "filled") [t.d, .dict es] = .exc 4 := by
  have c1 := r_opens (L := L) l1 l.opens hL t ok h40 n (by omega)
  refine call_runs l.filled rfl ?_
  unfold b_filled
  simp only [startG_def]
  refine .forX (ds := (sortI (opN t.ls)).map .int) (fun j g => (∃ z : Sl, g = [some (t.d, .fr), some (.dict es, .fr), z]) ∧ ∀ d ∈ ((sortI (opN t.ls)).map PyData.int).take j, hasKey es d = true) (by simp [c1]; exact ⟨rfl, rfl⟩) (by decide) rfl ⟨⟨none, rfl⟩, by simp⟩ ?_ ?_
  · rintro j x g hx ⟨⟨z, rfl⟩, hall⟩
    obtain ⟨i2, rfl, hi2⟩ := mem_opens hx
    have hlt : j < ((sortI (opN t.ls)).map PyData.int).length := (List.getElem?_eq_some_iff.mp hx).1
    have hxe := (List.getElem?_eq_some_iff.mp hx).2
    by_cases c : hasKey es (.int i2) = true
    · left
      refine ⟨[some (t.d, .fr), some (.dict es, .fr), some (.int i2, .fr)], ?_, ⟨_, rfl⟩, fun d hd => ?_⟩
      · simp [cmpD.inD, c]
      · rw [List.take_succ_eq_append_getElem hlt] at hd
        rcases List.mem_append.mp hd with hd | hd
        · exact hall d hd
        · simp at hd
          simp at hxe
          rw [hd, hxe]; exact c
    · have c : hasKey es (.int i2) = false := by simpa using c
      right
      exact ⟨4, [some (t.d, .fr), some (.dict es, .fr), some (.int i2, .fr)], by simp [cmpD.inD, c], rfl⟩
  · rintro g ⟨⟨z, rfl⟩, hall⟩
    rw [List.take_length] at hall
    have := hall (.int i) (List.mem_map.mpr ⟨i, sortI_mem.mpr (mem_opN.mpr hi), rfl⟩)
    rw [hk] at this
    cases this
end
end DL

set_option Elab.async false
set_option linter.all false
set_option maxRecDepth 100000
/-! PV: k08's own form. -/
namespace DL
open PySem L2
section
variable {GL : Str → Option D} {T : Str → Option Fd} {L : Nat}
theorem r_lform (hT : T (Str.ofString "_law_form") = some ⟨1, 5, b__law_form, 0⟩) : ∀ t : Tm, t.ok → t.ls.length ≤ 60 →
    Calls GL T L (t.ht + 1) (Str.ofString "_law_form") [t.d] (.ok t.form .fr)
  | .leaf o i, ok, hlv => by
    intro n hn
    obtain ⟨n, rfl⟩ : ∃ m, n = m + 1 := ⟨n - 1, by omega⟩
    refine call_runs hT rfl ?_
    unfold b__law_form
    simp only [startG_def]
    refine .ifT (m := .fr) (g1 := [some ((Tm.leaf o i).d, .fr), none, none, none, none]) (by simp [Tm.d]) (.as ?_)
    exact .ret (d := (Tm.leaf o i).form) (m := .fr) (g1 := [some ((Tm.leaf o i).d, .fr), none, none, none, none]) (by simp [Tm.d, Tm.form]) rfl
  | .node s a b, ok, hlv => by
    intro n hn
    obtain ⟨n, rfl⟩ : ∃ m, n = m + 1 := ⟨n - 1, by omega⟩
    have hl : (Tm.node s a b).ls.length = a.ls.length + b.ls.length := by simp [Tm.ls]
    rw [hl] at hlv
    simp only [Tm.ht] at hn
    have pa := a.ls_pos
    have pb := b.ls_pos
    have ca := r_lform hT a ok.1 (by omega) n (by omega)
    have cb := r_lform hT b ok.2 (by omega) n (by omega)
    obtain ⟨a1, a2⟩ := a.form_cf ok.1
    obtain ⟨b1, b2⟩ := b.form_cf ok.2
    have a3 : a.form.depth ≤ 90 := by have := a.form_ok.2; have := a.ht_ls; omega
    have b3 : b.form.depth ≤ 90 := by have := b.form_ok.2; have := b.ht_ls; omega
    refine call_runs hT rfl ?_
    unfold b__law_form
    simp only [startG_def]
    have ks := lay_sS s
    refine .ifF (m := .fr) (g1 := [some ((Tm.node s a b).d, .fr), none, none, none, none]) (by simp [Tm.d]) (.skip ?_)
    refine .set (p := (a.form, .fr)) (by simp [Tm.d, ca]; rfl) ?_
    refine .set (p := (b.form, .fr)) (by simp [Tm.d, cb]; rfl) ?_
    by_cases hs : s = .pair
    · subst hs
      exact .ifT (by simp [Sn.s]; exact ⟨rfl, rfl⟩) (.as (.ret (d := (Tm.node .pair a b).form) (m := .fr) (by simp; exact ⟨rfl, rfl⟩) rfl))
    · have n3 := eqOk_str ks (show PyData.strOk (Str.ofString "pair") = true by simp)
      have m3 : ¬ s.s = Str.ofString "pair" := fun e => hs (Sn.inj (s' := .pair) e)
      refine .ifF (m := .fr) (g1 := [some ((Tm.node s a b).d, .fr), some (a.form, .fr), some (b.form, .fr), none, none]) (by simp [n3, m3, Tm.d]) (.skip ?_)
      refine .set (p := (.list [], .ow)) (by simp; rfl) ?_
      have hboth : ∀ d ∈ [a.form, b.form], CF d := fun d hd => by simp at hd; rcases hd with rfl | rfl <;> assumption
      have hdep : ∀ d ∈ [a.form, b.form], d.depth ≤ 90 := fun d hd => by simp at hd; rcases hd with rfl | rfl <;> omega
      have hrl := row_len hs hboth
      have hl2 : lvDs [a.form, b.form] ≤ 1000 := by simp [lvDs]; omega
      refine .for_ (ds := [a.form, b.form]) (fun i g => ∃ z : Sl, g = [some ((Tm.node s a b).d, .fr), some (a.form, .fr), some (b.form, .fr), some (.list (([a.form, b.form].take i).flatMap (partsD s.s)), .ow), z]) (by simp; exact ⟨rfl, rfl⟩) (by decide) rfl ⟨none, rfl⟩ ?_ ?_
      · rintro i d g hi ⟨z, rfl⟩
        have hlt : i < [a.form, b.form].length := (List.getElem?_eq_some_iff.mp hi).1
        have hmem := List.mem_of_getElem? hi
        obtain ⟨x, xs, e, hx⟩ := (hboth d hmem).isF.word
        have et : ([a.form, b.form].take (i + 1)).flatMap (partsD s.s) = ([a.form, b.form].take i).flatMap (partsD s.s) ++ partsD s.s d := by
          rw [List.take_succ_eq_append_getElem hlt, List.flatMap_append]
          have : [a.form, b.form][i] = d := (List.getElem?_eq_some_iff.mp hi).2
          simp [this]
        have hle : (([a.form, b.form].take i).flatMap (partsD s.s)).length + (partsD s.s d).length ≤ 1000 := by
          have h1 : (([a.form, b.form].take (i + 1)).flatMap (partsD s.s)).length ≤ ([a.form, b.form].flatMap (partsD s.s)).length := by
            conv => rhs; rw [← List.take_append_drop (i + 1) [a.form, b.form]]
            rw [List.flatMap_append, List.length_append]
            omega
          rw [et, List.length_append] at h1
          omega
        refine ⟨[some ((Tm.node s a b).d, .fr), some (a.form, .fr), some (b.form, .fr), some (.list (([a.form, b.form].take (i + 1)).flatMap (partsD s.s)), .ow), some (d, .fr)], ?_, _, rfl⟩
        rw [et]
        generalize ([a.form, b.form].take i).flatMap (partsD s.s) = row at *
        subst e
        by_cases c : x = s.s
        · subst c
          rw [partsD_word, if_pos rfl] at hle ⊢
          have hz : row.length + xs.length ≤ 16777216 := by omega
          simp [Tm.d, eqOk_str hx hx, cut_tail, hz]
        · rw [partsD_word, if_neg c] at hle ⊢
          have hz : row.length < 16777216 := by simp at hle; omega
          simp [Tm.d, eqOk_str hx ks, c, hz]
      · rintro g ⟨z, rfl⟩
        rw [show [a.form, b.form].take [a.form, b.form].length = [a.form, b.form] from rfl]
        have hrow : ∀ x ∈ [a.form, b.form].flatMap (partsD s.s), IsF x ∧ x.depth ≤ 90 := fun x hx => by
          obtain ⟨d, h1, h2⟩ := List.mem_flatMap.mp hx
          exact parts_form (hboth d h1).isF (Sn.join hs) (hdep d h1) x h2
        have hsort := sortable_forms (ds := [a.form, b.form].flatMap (partsD s.s)) (fun d h => ⟨(hrow d h).1, by have := (hrow d h).2; omega⟩) (by omega)
        have ej : (Tm.node s a b).form = .tuple (.str s.s :: sortD ([a.form, b.form].flatMap (partsD s.s))) := by
          rw [node_form hs, (cf_join2 hs a1 b1).1]
          simp
        generalize [a.form, b.form].flatMap (partsD s.s) = row at *
        have hlen : (sortD row).length = row.length := (sortD_perm row).length_eq
        have hz : 1 + row.length ≤ 16777216 := by omega
        have hz' : row.length + 1 ≤ 16777216 := by omega
        have hz2 : row.length ≤ 16777215 := by omega
        rw [ej]
        refine .ret (d := .tuple (.str s.s :: sortD row)) (m := .fr) (g1 := [some ((Tm.node s a b).d, .fr), some (a.form, .fr), some (b.form, .fr), some (.list row, .ow), z]) ?_ rfl
        simp [Tm.d, sortedD, hsort, hlen, hz, hz', hz2]
end
end DL

set_option Elab.async false
set_option linter.all false
set_option maxRecDepth 100000
/-! P_k08: ways from one term to another. -/
namespace DL
open PySem L2
section
variable {GL : Str → Option D} {T : Str → Option Fd} {L : Nat} {R : Nat → S}
theorem r_tried (hP : T (Str.ofString "_law_places") = some ⟨1, 4, b__law_places, 0⟩) (hM : T (Str.ofString "_law_moved") = some ⟨3, 4, b__law_moved, 0⟩) (hTu : T (Str.ofString "_law_turned") = some ⟨2, 3, b__law_turned, 0⟩) (hT : T (Str.ofString "_law_tried") = some ⟨3, 5, b__law_tried, 0⟩) (hL : 200 < L)
    {x : Str} (kx : PyData.strOk x = true) (t : Tm) (h60 : t.ls.length ≤ 60) (cell : Int) (n : Nat) (hn : 70 ≤ n) :
    ∃ u : Tm, callD GL T L (n + 1) (Str.ofString "_law_tried") [t.d, .str x, .int cell] = .ok u.d .fr ∧ (t.ok → u.ok) ∧ u.ls.length = t.ls.length := by
  obtain ⟨ps, hp1, hpl, hps, c1⟩ := r_places (GL := GL) (L := L) hP t h60 hL (n - 1)
  rw [show n - 1 + 1 = n by omega] at c1
  obtain ⟨p, hpm, e8⟩ := at_mod plI ps hp1 cell
  have hpp := hps p hpm
  have c2 := r_wmoved (GL := GL) (L := L) hM (f := turnX x) (fun t => r_xturned (GL := GL) (L := L) hTu kx t) p t n (by omega)
  have hpos : 0 < ps.length := by omega
  have run : ∀ u : Tm, (∀ v, moveF (turnX x) t p = some v → v = u) → (moveF (turnX x) t p = none → t = u) → callD GL T L (n + 1) (Str.ofString "_law_tried") [t.d, .str x, .int cell] = .ok u.d .fr := fun u h1 h2 => by
    refine call_runs hT rfl ?_
    unfold b__law_tried
    simp only [startG_def]
    refine .set (p := (.list (ps.map plI), .ow)) (g1 := [some (t.d, .fr), some (.str x, .fr), some (.int cell, .fr), none, none]) (by simp [c1]) ?_
    refine .set (p := (oD (moveF (turnX x) t p), .fr)) (g1 := [some (t.d, .fr), some (.str x, .fr), some (.int cell, .fr), some (.list (ps.map plI), .ow), none]) (by simp [hpos, e8, c2]) ?_
    cases e : moveF (turnX x) t p with
    | none => exact .ifT (m := .fr) (by simp [oD]; rfl) (.as (.ret (d := t.d) (m := .fr) (by simp; rfl) (by rw [h2 e]; rfl)))
    | some v => exact .ifF (m := .fr) (by simp [oD, isNone_d]; rfl) (.skip (.ret (d := v.d) (m := .fr) (by simp [oD]; rfl) (by rw [h1 v e]; rfl)))
  cases e : moveF (turnX x) t p with
  | none => exact ⟨t, run t (fun v h => by rw [e] at h; cases h) (fun _ => rfl), id, rfl⟩
  | some v =>
    have := moveF_keeps (fun a b => turnX_keeps) p t v e
    exact ⟨v, run v (fun w h => by rw [e] at h; cases h; rfl) (fun h => by rw [e] at h; cases h), this.2, this.1⟩
theorem r_way (l1 : Lib1 GL T R) (hv : (T (Str.ofString "leaves")).isSome = true) (l : Lib11 T R) (l5 : Lib5 T) (lw : LibW T) (lk : LibK GL) (hi : T (Str.ofString "Walker.__init__") = some ⟨2, 2, .never, 2⟩) (hm : T (Str.ofString "moves") = some ⟨1, 2, b_moves, 0⟩) (hb : T (Str.ofString "back") = some ⟨1, 1, b_back R, 0⟩)
    (hT : T (Str.ofString "way") = some ⟨2, 3, b_way, 0⟩) (hL : 200 < L) (t u : Tm) (ok : t.ok) (uok : u.ok) (h40 : t.ls.length ≤ 20) (u40 : u.ls.length ≤ 20) (n : Nat) (hn : 140 ≤ n) :
    (t.form ≠ u.form ∧ callD GL T L (n + 1) (Str.ofString "way") [t.d, u.d] = .ok .none .fr) ∨ (t.form = u.form ∧ ∃ ms, callD GL T L (n + 1) (Str.ofString "way") [t.d, u.d] = .ok (.list (ms.map mvW)) .ow ∧ Way t ms u) := by
  have a1 := r_leaves (L := L) l1 hv hL t ok (by omega) n (by omega)
  have a2 := r_leaves (L := L) l1 hv hL u uok (by omega) n (by omega)
  have f1 := r_flat (L := L) l1 l5 t (by omega) n (by have := t.ht_ls; omega)
  have f2 := r_flat (L := L) l1 l5 u (by omega) n (by have := u.ht_ls; omega)
  have d1 : t.form.depth ≤ 90 := by have := t.form_ok.2; have := t.ht_ls; omega
  have q1 : eqOk t.form u.form = true := eqOk_plain t.form_ok.1.lay u.form_ok.1.lay (by omega)
  by_cases e : t.form = u.form
  · right
    refine ⟨e, ?_⟩
    have q2 : PyData.eqv t.form u.form = true := (eqv_plain _ _ t.form_ok.1.plain u.form_ok.1.plain).mpr e
    obtain ⟨v1, m1, b1, w1, g1, l1'⟩ := r_moves (GL := GL) (L := L) (R := R) l1 hv l l5 lw hi hm hL t ok (by omega) (n - 1) (by omega)
    obtain ⟨v2, m2, b2, w2, g2, l2'⟩ := r_moves (GL := GL) (L := L) (R := R) l1 hv l l5 lw hi hm hL u uok (by omega) (n - 1) (by omega)
    rw [show n - 1 + 1 = n by omega] at b1 b2
    rw [e] at g1
    have := Gr.uniq g1 g2
    subst this
    refine ⟨m1 ++ m2.reverse.map (fun m => (m.1.back, m.2)), ?_, w1.app w2.back⟩
    refine call_runs hT rfl ?_
    unfold b_way
    simp only [startG_def]
    refine .ex (p := (.int t.ls.length, .fr)) (g1 := [some (t.d, .fr), some (u.d, .fr), none]) (by simp [a1]) ?_
    refine .ex (p := (.int u.ls.length, .fr)) (g1 := [some (t.d, .fr), some (u.d, .fr), none]) (by simp [a2]) ?_
    refine .ifF (m := .fr) (g1 := [some (t.d, .fr), some (u.d, .fr), none]) (by simp [f1, f2, q1, q2]) (.skip ?_)
    have hlc : ev GL (callD GL T L n) (.lc (.call (Str.ofString "back") (.cons (.var 2) .nil)) 2 (.rev (.call (Str.ofString "moves") (.cons (.var 1) .nil))) .nil []) [some (t.d, .fr), some (u.d, .fr), none] = .ok (.list ((m2.reverse.map (fun m => (m.1.back, m.2))).map mvW), .ow) [some (t.d, .fr), some (u.d, .fr), none] := by
      rw [ev]
      have e1 : ev GL (callD GL T L n) (.rev (.call (Str.ofString "moves") (.cons (.var 1) .nil))) (freeze [] [some (t.d, .fr), some (u.d, .fr), none]) = .ok (.list (m2.reverse.map mvW), .fr) [some (t.d, .fr), some (u.d, .fr), none] := by simp [b2]
      rw [e1, bd_ok, if_neg (fun z => by cases z)]
      show (match lcGo _ (m2.reverse.map mvW) with | some out => _ | none => _) = _
      rw [lcGo_fm (k := mvW) (h := fun m => some (mvW (m.1.back, m.2))) m2.reverse (fun m _ => ⟨[some (t.d, .fr), some (u.d, .fr), some (mvW m, .fr)], by
        have cb := r_back (GL := GL) (T := T) (L := L) (R := R) hb lk m.1 m.2 (n - 1)
        rw [show n - 1 + 1 = n by omega] at cb
        have cb : callD GL T L n (Str.ofString "back") [mvW m] = .ok (mvW (m.1.back, m.2)) .fr := cb
        simp [hide1, cb]⟩)]
      have e2 : m2.reverse.filterMap (fun m => some (mvW (m.1.back, m.2))) = (m2.reverse.map (fun m => (m.1.back, m.2))).map mvW := by
        generalize m2.reverse = r
        induction r with
        | nil => rfl
        | cons c cs ih => simp
      rw [e2]
      show (if _ ≤ sizeLine then _ else _) = _
      rw [if_pos (by simp; omega)]
    refine .ret (d := .list ((m1 ++ m2.reverse.map (fun m => (m.1.back, m.2))).map mvW)) (m := .ow) (g1 := [some (t.d, .fr), some (u.d, .fr), none]) ?_ rfl
    have ea : ev GL (callD GL T L n) (.call (Str.ofString "moves") (.cons (.var 0) .nil)) [some (t.d, .fr), some (u.d, .fr), none] = .ok (.list (m1.map mvW), .ow) [some (t.d, .fr), some (u.d, .fr), none] := by simp [b1]
    show ev GL (callD GL T L n) (.bin .add (.call (Str.ofString "moves") (.cons (.var 0) .nil)) (.lc (.call (Str.ofString "back") (.cons (.var 2) .nil)) 2 (.rev (.call (Str.ofString "moves") (.cons (.var 1) .nil))) .nil [])) _ = _
    rw [ev, ea]
    show ((opn _ (ev GL (callD GL T L n) (.lc (.call (Str.ofString "back") (.cons (.var 2) .nil)) 2 (.rev (.call (Str.ofString "moves") (.cons (.var 1) .nil))) .nil []) [some (t.d, .fr), some (u.d, .fr), none]) [some (t.d, .fr), some (u.d, .fr), none]).bd _) = _
    rw [hlc]
    show ofO (if (m1.map mvW).length + ((m2.reverse.map (fun m => (m.1.back, m.2))).map mvW).length ≤ sizeLine then some (PyData.list (m1.map mvW ++ (m2.reverse.map (fun m => (m.1.back, m.2))).map mvW), Md.ow) else none) _ = _
    rw [if_pos (by simp; omega), List.map_append]
    rfl
  · left
    refine ⟨e, ?_⟩
    have q2 : PyData.eqv t.form u.form = false := by
      cases h : PyData.eqv t.form u.form with
      | false => rfl
      | true => exact absurd ((eqv_plain _ _ t.form_ok.1.plain u.form_ok.1.plain).mp h) e
    refine call_runs hT rfl ?_
    unfold b_way
    simp only [startG_def]
    refine .ex (p := (.int t.ls.length, .fr)) (g1 := [some (t.d, .fr), some (u.d, .fr), none]) (by simp [a1]) ?_
    refine .ex (p := (.int u.ls.length, .fr)) (g1 := [some (t.d, .fr), some (u.d, .fr), none]) (by simp [a2]) ?_
    exact .ifT (m := .fr) (g1 := [some (t.d, .fr), some (u.d, .fr), none]) (by simp [f1, f2, q1, q2]) (.as (.ret (d := .none) (m := .fr) (g1 := [some (t.d, .fr), some (u.d, .fr), none]) (by simp) rfl))
end
end DL

set_option Elab.async false
set_option linter.all false
set_option maxRecDepth 100000
/-! P2_k08: the other term; the law. -/
namespace DL
open PySem L2
theorem bits_sum2 {x d : Int} {k : Nat} (hd : 0 < d) (h : bits x ≤ 1048576) (hk : k ≤ 1000) : bits (x / d + 104729 * (k : Int) + 1) ≤ 1048578 := by
  have h1 := bits_ediv (k := d) hd h
  have h2 : bits (104729 * (k : Int)) ≤ 64 := PySem.intBits_le_64 (by omega) (by omega)
  have h3 := PySem.intBits_add_le h1 h2
  have h4 : bits (1 : Int) ≤ 64 := PySem.intBits_le_64 (by omega) (by omega)
  have h5 := PySem.intBits_add_le h3 h4
  exact Nat.le_trans h5 (by decide)
structure Lib08 (T : Str → Option Fd) : Prop where
  made : T (Str.ofString "_law_made") = some ⟨1, 4, b__law_made, 0⟩
  leaf : T (Str.ofString "_law_leaf") = some ⟨1, 2, b__law_leaf, 0⟩
  places : T (Str.ofString "_law_places") = some ⟨1, 4, b__law_places, 0⟩
  turned : T (Str.ofString "_law_turned") = some ⟨2, 3, b__law_turned, 0⟩
  lmoved : T (Str.ofString "_law_moved") = some ⟨3, 4, b__law_moved, 0⟩
  tried : T (Str.ofString "_law_tried") = some ⟨3, 5, b__law_tried, 0⟩
  lform : T (Str.ofString "_law_form") = some ⟨1, 5, b__law_form, 0⟩
  other : T (Str.ofString "_law_other") = some ⟨2, 6, b__law_other, 0⟩
  moves : T (Str.ofString "moves") = some ⟨1, 2, b_moves, 0⟩
  back : T (Str.ofString "back") = some ⟨1, 1, b_back .raise, 0⟩
  way : T (Str.ofString "way") = some ⟨2, 3, b_way, 0⟩
  init : T (Str.ofString "Walker.__init__") = some ⟨2, 2, .never, 2⟩
  law : T (Str.ofString "law") = some ⟨1, 7, b_law, 0⟩
section
variable {GL : Str → Option D} {T : Str → Option Fd} {L : Nat}
theorem r_other (l3 : Lib3 T) (l : Lib08 T) (hL : 200 < L) (t : Tm) (ok : t.ok) (h14 : t.ls.length ≤ 14) (n : Nat) (hn : 100 ≤ n) (ns : List Int) (hb : ∀ z ∈ ns, bits z ≤ 1048576) :
    ∃ u : Tm, callD GL T L (n + 1) (Str.ofString "_law_other") [t.d, .list (ns.map .int)] = .ok u.d .fr ∧ u.ok ∧ u.ls.length ≤ 14 := by
  have c0 : callD GL T L n (Str.ofString "_law_cell_at") [.list (ns.map .int), .int 1] = _ := r_cell_at (GL := GL) (L := L) l3.cell ns 1 n (by omega)
  have c2 : callD GL T L n (Str.ofString "_law_cell_at") [.list (ns.map .int), .int 2] = _ := r_cell_at (GL := GL) (L := L) l3.cell ns 2 n (by omega)
  have hcb := cellAt_bits hb 1
  generalize cellAt ns 1 = cell at *
  generalize cellAt ns 2 = more at *
  suffices h : Runs GL (callD GL T L n) L b__law_other (startG 6 [t.d, .list (ns.map .int)]) fun x => ∃ u : Tm, toCR x = .ok u.d .fr ∧ u.ok ∧ u.ls.length ≤ 14 by
    obtain ⟨u, h1, h2⟩ := h
    exact ⟨u, call_runs l.other rfl h1, h2⟩
  unfold b__law_other
  simp only [startG_def]
  refine .set (p := (.int cell, .fr)) (g1 := [some (t.d, .fr), some (.list (ns.map .int), .fr), none, none, none, none]) (by simp [c0]) ?_
  by_cases h5 : cell % 6 = 5
  · refine .ifT (m := .fr) (g1 := [some (t.d, .fr), some (.list (ns.map .int), .fr), some (.int cell, .fr), none, none, none]) (by simp [h5]) (.as ?_)
    have hmod := Int.emod_lt_of_pos (cell / 6) (show (0 : Int) < 5 by omega)
    have hnn := Int.emod_nonneg (cell / 6) (show (5 : Int) ≠ 0 by omega)
    have m5 : ∀ c : Int, mulOk 5 c = true := fun c => by unfold mulOk; rw [lowI_small (i := 5) (by omega) (by omega)]; rfl
    let cs : List Int := (List.range (cell / 6 % 5 - 0).toNat).map fun j => more / 3 + 5 * (0 + (j : Nat) : Int)
    have hcs : cs.length ≤ 14 := by simp [cs]; omega
    have hlc : ev GL (callD GL T L n) (.lc (.bin .add (.bin .fdiv (.call (Str.ofString "_law_cell_at") (.cons (.var 1) (.cons (.int (2)) .nil))) (.int (3))) (.bin .mul (.int (5)) (.var 3))) 3 (.range1 (.bin .mod (.bin .fdiv (.var 2) (.int (6))) (.int (5)))) .nil [1]) [some (t.d, .fr), some (.list (ns.map .int), .fr), some (.int cell, .fr), none, none, none] = .ok (.list (cs.map .int), .ow) [some (t.d, .fr), some (.list (ns.map .int), .fr), some (.int cell, .fr), none, none, none] := by
      rw [ev]
      have e1 : ev GL (callD GL T L n) (.range1 (.bin .mod (.bin .fdiv (.var 2) (.int (6))) (.int (5)))) (freeze [1] [some (t.d, .fr), some (.list (ns.map .int), .fr), some (.int cell, .fr), none, none, none]) = .ok (.list (rangeD 0 (cell / 6 % 5)), .fr) [some (t.d, .fr), some (.list (ns.map .int), .fr), some (.int cell, .fr), none, none, none] := by
        simp [rngOk_small (i := cell / 6 % 5) (by omega) (by omega)]
      rw [e1, bd_ok, if_neg (fun z => by cases z)]
      show (match lcGo _ ((List.range (cell / 6 % 5 - 0).toNat).map fun k => PyData.int (0 + (k : Nat))) with | some out => _ | none => _) = _
      rw [lcGo_fm (k := fun (j : Nat) => PyData.int (0 + (j : Nat))) (h := fun j => some (.int (more / 3 + 5 * (0 + (j : Nat) : Int)))) (List.range (cell / 6 % 5 - 0).toNat) (fun j _ => ⟨[some (t.d, .fr), some (.list (ns.map .int), .fr), some (.int cell, .fr), some (.int (0 + (j : Nat)), .fr), none, none], by simp [hide1, c2, m5]⟩)]
      have e2 : (List.range (cell / 6 % 5 - 0).toNat).filterMap (fun j => some (PyData.int (more / 3 + 5 * (0 + (j : Nat) : Int)))) = cs.map .int := by
        simp only [cs, List.map_map]
        generalize List.range (cell / 6 % 5 - 0).toNat = r
        induction r with
        | nil => rfl
        | cons c cs ih => rw [List.filterMap_cons, List.map_cons, ih]; rfl
      rw [e2]
      show (if _ ≤ sizeLine then _ else _) = _
      rw [if_pos (by rw [List.length_map]; exact Nat.le_trans hcs (by decide))]
    obtain ⟨u, uok, ul, c3⟩ := r_made (GL := GL) (L := L) l.made l.leaf cs (by omega) hL (n - 1) (by omega)
    rw [show n - 1 + 1 = n by omega] at c3
    refine .ret (d := u.d) (m := .fr) (g1 := [some (t.d, .fr), some (.list (ns.map .int), .fr), some (.int cell, .fr), none, none, none]) ?_ ⟨u, rfl, uok, by omega⟩
    show ev GL (callD GL T L n) (.call _ (.cons _ .nil)) _ = _
    rw [ev, evs_one hlc (by decide), bd_ok, c3]
    rfl
  · refine .ifF (m := .fr) (g1 := [some (t.d, .fr), some (.list (ns.map .int), .fr), some (.int cell, .fr), none, none, none]) (by simp [h5]) (.skip ?_)
    have hmod := Int.emod_lt_of_pos (cell / 6) (show (0 : Int) < 13 by omega)
    have hnn := Int.emod_nonneg (cell / 6) (show (13 : Int) ≠ 0 by omega)
    refine .for_ (ds := rangeD 0 (cell / 6 % 13)) (m := .fr) (d := .list (rangeD 0 (cell / 6 % 13))) (g1 := [some (t.d, .fr), some (.list (ns.map .int), .fr), some (.int cell, .fr), none, none, none])
      (fun i g => ∃ (u : Tm) (z3 z4 : Sl), g = [some (u.d, .fr), some (.list (ns.map .int), .fr), some (.int cell, .fr), z3, z4, none] ∧ u.ok ∧ u.ls.length ≤ 14)
      (by simp [rngOk_small (i := cell / 6 % 13) (by omega) (by omega)]) (by decide) rfl ⟨t, none, none, rfl, ok, h14⟩ ?_ ?_
    · rintro i d g hd ⟨u, z3, z4, rfl, uok, ul⟩
      have hi : i < (cell / 6 % 13).toNat ∧ d = .int (i : Int) := by
        have := range_item (n := (cell / 6 % 13).toNat) (i := i) (d := d) (by rw [show ((cell / 6 % 13).toNat : Int) = cell / 6 % 13 by omega]; exact hd)
        exact this
      obtain ⟨hlt, rfl⟩ := hi
      have hb0 := pow_ok (bits_sum2 (d := 78) (k := i) (by omega) hcb (by omega))
      have hm0 : mulOk 104729 (i : Int) = true := by unfold mulOk; rw [lowI_small (i := 104729) (by omega) (by omega)]; rfl
      suffices h : Runs GL (callD GL T L n) L _ _ fun y => ∃ g', y = .ok .next g' ∧ ∃ (u : Tm) (z3 z4 : Sl), g' = [some (u.d, .fr), some (.list (ns.map .int), .fr), some (.int cell, .fr), z3, z4, none] ∧ u.ok ∧ u.ls.length ≤ 14 from h
      refine .set (p := (.int ((cell / 78 + 104729 * (i : Int) + 1) ^ 3 % 2147483647), .fr)) (g1 := [some (u.d, .fr), some (.list (ns.map .int), .fr), some (.int cell, .fr), some (.int (i : Int), .fr), z4, none]) (by simp [hm0, hb0]) ?_
      generalize (cell / 78 + 104729 * (i : Int) + 1) ^ 3 % 2147483647 = mx
      obtain ⟨w, hw, ew⟩ := at_mod PyData.str [Str.ofString "swap", Str.ofString "left", Str.ofString "right"] (by decide) mx
      have kw : PyData.strOk w = true := by simp at hw; rcases hw with rfl | rfl | rfl <;> decide +kernel
      obtain ⟨v, c5, vok, vl⟩ := r_tried (GL := GL) (L := L) l.places l.lmoved l.turned l.tried hL kw u (by omega) (mx / 3) (n - 1) (by omega)
      rw [show n - 1 + 1 = n by omega] at c5
      have ew : atI [PyData.str (Str.ofString "swap"), .str (Str.ofString "left"), .str (Str.ofString "right")] (mx % 3) = some (.str w) := ew
      refine .set (p := (v.d, .fr)) (g1 := [some (u.d, .fr), some (.list (ns.map .int), .fr), some (.int cell, .fr), some (.int (i : Int), .fr), some (.int mx, .fr), none]) (by simp [ew, c5]) ?_
      exact .nil ⟨_, rfl, v, _, _, rfl, vok uok, by omega⟩
    · rintro g ⟨u, z3, z4, rfl, uok, ul⟩
      by_cases h2 : 2 < cell % 6
      · refine .ifT (m := .fr) (g1 := [some (u.d, .fr), some (.list (ns.map .int), .fr), some (.int cell, .fr), z3, z4, none]) (by simp [h2]) (.as ?_)
        refine .set (p := (.int more, .fr)) (g1 := [some (u.d, .fr), some (.list (ns.map .int), .fr), some (.int cell, .fr), z3, z4, none]) (by simp [c2]) (.as ?_)
        obtain ⟨w, hw, ew⟩ := at_mod PyData.str [Str.ofString "leaf", Str.ofString "sign", Str.ofString "pair"] (by decide) more
        have kw : PyData.strOk w = true := by simp at hw; rcases hw with rfl | rfl | rfl <;> decide +kernel
        obtain ⟨v, c5, vok, vl⟩ := r_tried (GL := GL) (L := L) l.places l.lmoved l.turned l.tried hL kw u (by omega) (more / 3) (n - 1) (by omega)
        rw [show n - 1 + 1 = n by omega] at c5
        have ew : atI [PyData.str (Str.ofString "leaf"), .str (Str.ofString "sign"), .str (Str.ofString "pair")] (more % 3) = some (.str w) := ew
        refine .set (p := (v.d, .fr)) (g1 := [some (u.d, .fr), some (.list (ns.map .int), .fr), some (.int cell, .fr), z3, z4, some (.int more, .fr)]) (by simp [ew, c5]) (.skip ?_)
        exact .ret (d := v.d) (m := .fr) (by simp; rfl) ⟨v, rfl, vok uok, by omega⟩
      · refine .ifF (m := .fr) (g1 := [some (u.d, .fr), some (.list (ns.map .int), .fr), some (.int cell, .fr), z3, z4, none]) (by simp [h2]) (.skip ?_)
        exact .ret (d := u.d) (m := .fr) (by simp; rfl) ⟨u, rfl, uok, ul⟩
theorem m8 (c : Int) : mulOk 8 c = true := by unfold mulOk; rw [lowI_small (i := 8) (by omega) (by omega)]; rfl
theorem lc8 {C : Orc} {cs : List Int} {z : Sl} (hc : cs.length ≤ 1000) : ev GL C (.lc (.bin .mul (.int (8)) (.var 6)) 6 (.var 1) .nil []) [z, some (.list (cs.map .int), .ow), none, none, none, none, none] = .ok (.list ((cs.map fun c => 8 * c).map .int), .ow) [z, some (.list (cs.map .int), .fr), none, none, none, none, none] := by
  rw [ev]
  have e1 : ev GL C (.var 1) (freeze [] [z, some (.list (cs.map .int), .ow), none, none, none, none, none]) = .ok (.list (cs.map .int), .fr) [z, some (.list (cs.map .int), .fr), none, none, none, none, none] := by simp
  rw [e1, bd_ok, if_neg (fun z => by cases z)]
  show (match lcGo _ (cs.map .int) with | some out => _ | none => _) = _
  rw [lcGo_fm (k := PyData.int) (h := fun c => some (.int (8 * c))) cs (fun c _ => ⟨_, by simp [m8]; rfl⟩)]
  have e2 : cs.filterMap (fun c => some (PyData.int (8 * c))) = (cs.map fun c => 8 * c).map .int := by
    induction cs with
    | nil => rfl
    | cons c cs ih => simp
  rw [e2]
  show (if _ ≤ sizeLine then _ else _) = _
  rw [if_pos (by simp; omega)]
theorem in3 (w : Wd) : cmpD.inD (.str w.s) (.list [.str (Str.ofString "swap"), .str (Str.ofString "left"), .str (Str.ofString "right")]) .fr = some true := by
  have h1 : SeqAt.shaped (.str w.s) = true := by simp [SeqAt.shaped, PyData.canLay0, PyData.depth, wd_ok]
  have h2 : SeqAt.shaped (.list [.str (Str.ofString "swap"), .str (Str.ofString "left"), .str (Str.ofString "right")]) = true := by simp [SeqAt.shaped, PyData.canLay0, PyData.canLayAll0, PyData.depth, PyData.depthAll]
  show (if (SeqAt.shaped (.str w.s) && SeqAt.shaped (.list [.str (Str.ofString "swap"), .str (Str.ofString "left"), .str (Str.ofString "right")])) = true then some ([PyData.str (Str.ofString "swap"), .str (Str.ofString "left"), .str (Str.ofString "right")].any fun z => PyData.eqv z (.str w.s)) else none) = _
  rw [h1, h2]
  cases w <;> simp [Wd.s]
theorem turnX_wd (w : Wd) (t : Tm) : turnX w.s t = turnS w.s t := by
  have n1 : ¬ w.s = Str.ofString "leaf" := by cases w <;> decide +kernel
  have n2 : ¬ w.s = Str.ofString "sign" := by cases w <;> decide +kernel
  have n3 : ¬ w.s = Str.ofString "pair" := by cases w <;> decide +kernel
  cases t <;> simp [turnX, n1, n2, n3]
theorem law_run (l1 : Lib1 GL T .raise) (hv : (T (Str.ofString "leaves")).isSome = true) (l3 : Lib3 T) (l5 : Lib5 T) (l11 : Lib11 T .raise) (lw : LibW T) (lk : LibK GL) (l : Lib08 T) (hL : 200 < L) (n : Nat) (hn : 150 ≤ n) (ns : List Int) (hb : ∀ z ∈ ns, bits z ≤ 1048576) : callD GL T L (n + 1) (Str.ofString "law") [.list (ns.map .int)] = .ok (.bool true) .fr := by
  have c0 : callD GL T L n (Str.ofString "_law_cell_at") [.list (ns.map .int), .int 0] = _ := r_cell_at (GL := GL) (L := L) l3.cell ns 0 n (by omega)
  obtain ⟨cs, hcs, c1⟩ := r_cells_by (GL := GL) (L := L) l3 ns hb 3 11 (by omega)
  have c1 : callD GL T L n (Str.ofString "_law_cells_by") [.list (ns.map .int), .int 3, .int 11] = _ := c1 n (by omega)
  have rest : ∀ (cs : List Int) (m : Md) (z6 : Sl), m ≠ .on → cs.length ≤ 11 → Runs GL (callD GL T L n) L (match b_law with | .seq _ (.seq _ r) => r | _ => .skip) [some (.list (ns.map .int), .fr), some (.list (cs.map .int), m), none, none, none, none, z6] fun x => toCR x = .ok (.bool true) .fr := by
    intro cs m z6 hm hcs
    obtain ⟨t, ok, h14, c2⟩ := r_made (GL := GL) (L := L) l.made l.leaf cs (by omega) hL (n - 1) (by omega)
    obtain ⟨o, c3, ook, h14'⟩ := r_other (GL := GL) (L := L) l3 l hL t ok (by omega) (n - 1) (by omega) ns hb
    have hway := r_way (GL := GL) (L := L) l1 hv l11 l5 lw lk l.init l.moves l.back l.way hL t o ok ook (by omega) (by omega) (n - 1) (by omega)
    rw [show n - 1 + 1 = n by omega] at c2 c3 hway
    have f1 := r_lform (GL := GL) (L := L) l.lform t ok (by omega) n (by have := t.ht_ls; omega)
    have f2 := r_lform (GL := GL) (L := L) l.lform o ook (by omega) n (by have := o.ht_ls; omega)
    unfold b_law
    show Runs GL (callD GL T L n) L _ _ _
    refine .set (p := (t.d, .fr)) (g1 := [some (.list (ns.map .int), .fr), some (.list (cs.map .int), .fr), none, none, none, none, z6]) (by cases m <;> simp [c2] at hm ⊢) ?_
    refine .set (p := (o.d, .fr)) (g1 := [some (.list (ns.map .int), .fr), some (.list (cs.map .int), .fr), some (t.d, .fr), none, none, none, z6]) (by simp [c3]) ?_
    rcases hway with ⟨hne, c4⟩ | ⟨heq, ms, c4, hw⟩
    · refine .set (p := (.none, .fr)) (g1 := [some (.list (ns.map .int), .fr), some (.list (cs.map .int), .fr), some (t.d, .fr), some (o.d, .fr), none, none, z6]) (by simp [c4]) ?_
      have d1 : t.form.depth ≤ 90 := by have := t.form_ok.2; have := t.ht_ls; omega
      have q1 : eqOk t.form o.form = true := eqOk_plain t.form_ok.1.lay o.form_ok.1.lay (by omega)
      have q2 : PyData.eqv t.form o.form = false := by
        cases h : PyData.eqv t.form o.form with
        | false => rfl
        | true => exact absurd ((eqv_plain _ _ t.form_ok.1.plain o.form_ok.1.plain).mp h) hne
      refine .ifT (m := .fr) (g1 := [some (.list (ns.map .int), .fr), some (.list (cs.map .int), .fr), some (t.d, .fr), some (o.d, .fr), some (.none, .fr), none, z6]) (by simp) (.as ?_)
      exact .ret (d := .bool true) (m := .fr) (g1 := [some (.list (ns.map .int), .fr), some (.list (cs.map .int), .fr), some (t.d, .fr), some (o.d, .fr), some (.none, .fr), none, z6]) (by simp [f1, f2, q1, q2]) rfl
    · refine .set (p := (.list (ms.map mvW), .ow)) (g1 := [some (.list (ns.map .int), .fr), some (.list (cs.map .int), .fr), some (t.d, .fr), some (o.d, .fr), none, none, z6]) (by simp [c4]) ?_
      refine .ifF (m := .fr) (g1 := [some (.list (ns.map .int), .fr), some (.list (cs.map .int), .fr), some (t.d, .fr), some (o.d, .fr), some (.list (ms.map mvW), .ow), none, z6]) (by simp) (.skip ?_)
      refine .ifF (m := .fr) (g1 := [some (.list (ns.map .int), .fr), some (.list (cs.map .int), .fr), some (t.d, .fr), some (o.d, .fr), some (.list (ms.map mvW), .ow), none, z6]) (by simp [isiD]) (.skip ?_)
      refine .for_ (ds := ms.map mvW) (m := .fr) (d := .list (ms.map mvW)) (g1 := [some (.list (ns.map .int), .fr), some (.list (cs.map .int), .fr), some (t.d, .fr), some (o.d, .fr), some (.list (ms.map mvW), .fr), none, z6])
        (fun j g => ∃ u z5, g = [some (.list (ns.map .int), .fr), some (.list (cs.map .int), .fr), some (u.d, .fr), some (o.d, .fr), some (.list (ms.map mvW), .fr), z5, z6] ∧ Way u (ms.drop j) o ∧ u.ls.length ≤ 40) (by simp) (by decide) rfl ⟨t, none, rfl, by simpa using hw, by omega⟩ ?_ ?_
      · rintro j d g hd ⟨u, z5, rfl, hwj, hul⟩
        have hlt : j < ms.length := by simpa using (List.getElem?_eq_some_iff.mp hd).1
        rw [List.getElem?_map, List.getElem?_eq_getElem hlt] at hd
        cases hd
        rw [List.drop_eq_getElem_cons hlt] at hwj
        generalize ms[j] = mj at *
        generalize hdr : ms.drop (j + 1) = dr at *
        cases hwj with
        | @cons _ u' _ w p _ hmv hw2 =>
          have hp : p.length ≤ 40 := by
            rw [moveR_eq] at hmv
            cases e : u.atZ p with
            | none => rw [e] at hmv; cases hmv
            | some q => have := (atZ_len p u q e).1; omega
          have c5 := r_wmoved (GL := GL) (L := L) l.lmoved (x := w.s) (f := turnX w.s) (fun t => r_xturned (GL := GL) (L := L) l.turned (wd_ok w) t) p u n (by omega)
          rw [show turnX w.s = turnS w.s from funext (turnX_wd w), moveF_R, hmv] at c5
          have k2 := moveR_keeps hmv
          suffices h : Runs GL (callD GL T L n) L _ _ fun y => ∃ g', y = .ok .next g' ∧ ∃ u z5, g' = [some (.list (ns.map .int), .fr), some (.list (cs.map .int), .fr), some (u.d, .fr), some (o.d, .fr), some (.list (ms.map mvW), .fr), z5, z6] ∧ Way u dr o ∧ u.ls.length ≤ 40 from h
          refine .ifF (m := .fr) (g1 := [some (.list (ns.map .int), .fr), some (.list (cs.map .int), .fr), some (u.d, .fr), some (o.d, .fr), some (.list (ms.map mvW), .fr), some (mvW (w, p), .fr), z6]) (by simp [mvW, mvD, isiD, in3]) (.skip ?_)
          refine .ifF (m := .fr) (g1 := [some (.list (ns.map .int), .fr), some (.list (cs.map .int), .fr), some (u.d, .fr), some (o.d, .fr), some (.list (ms.map mvW), .fr), some (mvW (w, p), .fr), z6]) (by simp [mvW, mvD, isiD, plI]) (.skip ?_)
          refine .set (p := (u'.d, .fr)) (g1 := [some (.list (ns.map .int), .fr), some (.list (cs.map .int), .fr), some (u.d, .fr), some (o.d, .fr), some (.list (ms.map mvW), .fr), some (mvW (w, p), .fr), z6]) (by simp [mvW, mvD, c5, oD]) ?_
          refine .ifF (m := .fr) (g1 := [some (.list (ns.map .int), .fr), some (.list (cs.map .int), .fr), some (u'.d, .fr), some (o.d, .fr), some (.list (ms.map mvW), .fr), some (mvW (w, p), .fr), z6]) (by simp [isNone_d]) (.skip (.nil ⟨_, rfl, u', _, rfl, hw2, by omega⟩))
      · rintro g ⟨u, z5, rfl, hwj, hul⟩
        rw [show ms.drop (ms.map mvW).length = [] by simp] at hwj
        cases hwj with
        | nil _ =>
          obtain ⟨s1, s2, s3⟩ := o.d_small
          have q1 : eqOk o.d o.d = true := eqOk_plain o.lay o.lay (by omega)
          have q2 : PyData.eqv o.d o.d = true := (eqv_plain _ _ s1 s1).mpr rfl
          exact .ret (d := .bool true) (m := .fr) (g1 := [some (.list (ns.map .int), .fr), some (.list (cs.map .int), .fr), some (o.d, .fr), some (o.d, .fr), some (.list (ms.map mvW), .fr), z5, z6]) (by simp [q1, q2]) rfl
  refine call_runs l.law rfl ?_
  unfold b_law at rest ⊢
  simp only [startG_def]
  refine .set (p := (.list (cs.map .int), .ow)) (g1 := [some (.list (ns.map .int), .fr), none, none, none, none, none, none]) (by simp [c1]) ?_
  by_cases h : cellAt ns 0 / 4 % 5 = 1
  · refine .ifT (m := .fr) (g1 := [some (.list (ns.map .int), .fr), some (.list (cs.map .int), .ow), none, none, none, none, none]) (by simp [c0, h]) (.as ?_)
    refine .set (p := (.list ((cs.map fun c => 8 * c).map .int), .ow)) (g1 := [some (.list (ns.map .int), .fr), some (.list (cs.map .int), .fr), none, none, none, none, none]) (lc8 (by omega)) (.skip ?_)
    exact rest (cs.map fun c => 8 * c) .ow none (by decide) (by simpa using hcs)
  · refine .ifF (m := .fr) (g1 := [some (.list (ns.map .int), .fr), some (.list (cs.map .int), .ow), none, none, none, none, none]) (by simp [c0, h]) (.skip ?_)
    exact rest cs .ow none (by decide) hcs
end
theorem law_k08 (ns : List Int) (hb : ∀ z ∈ ns, Builtin.Int.intBits z ≤ 1048576) : callD GLs (tabT tab) 3000 200 (Str.ofString "law") [.list (ns.map .int)] = .ok (.bool true) .fr :=
  law_run ⟨rfl, rfl, rfl, rfl, fun _ => rfl, rfl, rfl, rfl⟩ rfl ⟨rfl, rfl⟩ ⟨rfl, rfl, rfl⟩ ⟨rfl, rfl, rfl, rfl⟩ ⟨rfl, rfl, rfl, rfl, rfl, rfl⟩ ⟨rfl, fun w => by cases w <;> rfl, fun w => by cases w <;> rfl⟩ ⟨rfl, rfl, rfl, rfl, rfl, rfl, rfl, rfl, rfl, rfl, rfl, rfl, rfl⟩ (by omega) 199 (by omega) ns hb
end DL

set_option Elab.async false
set_option linter.all false
set_option maxRecDepth 100000
open PySem PySem.W PyProof.Rows
set_option maxHeartbeats 0 in
theorem PySem.Challenge.cw_anyorder_k08_whole_ways_holds : PySem.Challenge.rw_anyorder_k08_whole_ways.Holds := by
  w_on; o_law; k_head; (case hw => w_witness2)
  k_fill
  refine DL.walkD (l := PySem.Challenge.rw_anyorder_k08_whole_ways) (tab := DL.tab) (GL := DL.GLs) (CN := DL.CNS) (e := DL.e_law) (k := 200) (L := 3000) rfl rfl ⟨rfl, by decide, by decide⟩ (fun w h Y => PySem.W.kIn_of Y) rfl DL.tab_ok rfl (fun w => by kernel_rfl) ?F (fun ns h63 hb => DL.law_k08 ns hb)
  case F =>
    intro w mg fa h KX G hmg
    refine' DL.mods_mk (w := w) KX G hmg ?a0 ?l0 ?c0 ?k0 ?a1 ?l1 ?c1 ?k1 ?a2 ?l2 ?c2 ?k2 ?a3 ?l3 ?c3 ?k3 ?a4 ?l4 ?c4 ?k4 ?a5 ?l5 ?c5 ?k5 ?a6 ?l6 ?c6 ?k6 ?a7 ?l7 ?c7 ?k7 ?a8 ?l8 ?c8 ?k8 ?a9 ?l9 ?c9 ?k9 ?a10 ?l10 ?c10 ?k10 ?a11 ?l11 ?c11 ?k11 ?a12 ?l12 ?c12 ?k12 ?a13 ?l13 ?c13 ?k13 ?a14 ?l14 ?c14 ?k14 ?a15 ?l15 ?c15 ?k15 ?a16 ?l16 ?c16 ?k16 ?a17 ?l17 ?c17 ?k17 ?a18 ?l18 ?c18 ?k18 ?a19 ?l19 ?c19 ?k19 ?a20 ?l20 ?c20 ?k20 ?a21 ?l21 ?c21 ?k21 ?a22 ?l22 ?c22 ?k22 ?a23 ?l23 ?c23 ?k23 ?a24 ?l24 ?c24 ?k24 ?a25 ?l25 ?c25 ?k25 ?w_a ?w_pg ?w_hd ?w_po ?w_sa ?w_mk ?w_kc ?w_n1 ?w_n2 ?a26 ?i26 ?l26 ?c26 ?k26 ?a27 ?i27 ?l27 ?c27 ?k27 ?a28 ?i28 ?l28 ?c28 ?k28 ?a29 ?i29 ?l29 ?c29 ?k29 ?a30 ?i30 ?l30 ?c30 ?k30 ?a31 ?i31 ?l31 ?c31 ?k31 ?a32 ?i32 ?l32 ?c32 ?k32 ?z_ValueError ?z_bool ?z_dict ?z_int ?z_isinstance ?z_len ?z_list ?z_max ?z_min ?z_range ?z_reversed ?z_set ?z_sorted ?z_str ?z_tuple ?z_zip ?g_LEAVES ?g_GREATEST ?g_OPENS ?d0_BACK ?d1_BACK ?d2_BACK ?d3_BACK ?d4_BACK_0 ?d4_BACK_1 ?d4_BACK_2 ?x_hn ?x_ht ?x0_0 ?x1_0 ?x2_0 ?x3_0 ?x4_0 ?x5_0 ?x6_0 ?x7_0 ?x8_0 ?x9_0 ?xk_0 ?x0_1 ?x1_1 ?x2_1 ?x3_1 ?x4_1 ?x5_1 ?x6_1 ?x7_1 ?x8_1 ?x9_1 ?xk_1 ?x0_2 ?x1_2 ?x2_2 ?x3_2 ?x4_2 ?x5_2 ?x6_2 ?x7_2 ?x8_2 ?x9_2 ?xk_2 ?x0_3 ?x1_3 ?x2_3 ?x3_3 ?x4_3 ?x5_3 ?x6_3 ?x7_3 ?x8_3 ?x9_3 ?xk_3 ?y_0_0 ?y_0_1 ?y_0_2 ?y_0_3 ?y_1_0 ?y_1_1 ?y_1_2 ?y_1_3 ?y_2_0 ?y_2_1 ?y_2_2 ?y_2_3 ?y_3_0 ?y_3_1 ?y_3_2 ?y_3_3
    (case a0 => k_is); (case l0 => k_is); (case c0 => k_is); (case k0 => k_is); (case a1 => k_is); (case l1 => k_is)
    (case c1 => k_is); (case k1 => k_is); (case a2 => k_is); (case l2 => k_is); (case c2 => k_is); (case k2 => k_is)
    (case a3 => k_is); (case l3 => k_is); (case c3 => k_is); (case k3 => k_is); (case a4 => k_is); (case l4 => k_is)
    (case c4 => k_is); (case k4 => k_is); (case a5 => k_is); (case l5 => k_is); (case c5 => k_is); (case k5 => k_is)
    (case a6 => k_is); (case l6 => k_is); (case c6 => k_is); (case k6 => k_is); (case a7 => k_is); (case l7 => k_is)
    (case c7 => k_is); (case k7 => k_is); (case a8 => k_is); (case l8 => k_is); (case c8 => k_is); (case k8 => k_is)
    (case a9 => k_is); (case l9 => k_is); (case c9 => k_is); (case k9 => k_is); (case a10 => k_is); (case l10 => k_is)
    (case c10 => k_is); (case k10 => k_is); (case a11 => k_is); (case l11 => k_is); (case c11 => k_is); (case k11 => k_is)
    (case a12 => k_is); (case l12 => k_is); (case c12 => k_is); (case k12 => k_is); (case a13 => k_is); (case l13 => k_is)
    (case c13 => k_is); (case k13 => k_is); (case a14 => k_is); (case l14 => k_is); (case c14 => k_is); (case k14 => k_is)
    (case a15 => k_is); (case l15 => k_is); (case c15 => k_is); (case k15 => k_is); (case a16 => k_is); (case l16 => k_is)
    (case c16 => k_is); (case k16 => k_is); (case a17 => k_is); (case l17 => k_is); (case c17 => k_is); (case k17 => k_is)
    (case a18 => k_is); (case l18 => k_is); (case c18 => k_is); (case k18 => k_is); (case a19 => k_is); (case l19 => k_is)
    (case c19 => k_is); (case k19 => k_is); (case a20 => k_is); (case l20 => k_is); (case c20 => k_is); (case k20 => k_is)
    (case a21 => k_is); (case l21 => k_is); (case c21 => k_is); (case k21 => k_is); (case a22 => k_is); (case l22 => k_is)
    (case c22 => k_is); (case k22 => k_is); (case a23 => k_is); (case l23 => k_is); (case c23 => k_is); (case k23 => k_is)
    (case a24 => k_is); (case l24 => k_is); (case c24 => k_is); (case k24 => k_is); (case a25 => k_is); (case l25 => k_is)
    (case c25 => k_is); (case k25 => k_is); (case w_a => k_is); (case w_pg => k_is); (case w_hd => k_is); (case w_po => k_is)
    (case w_sa => k_is); (case w_mk => k_is); (case w_kc => k_is); (case w_n1 => k_is); (case w_n2 => k_is); (case a26 => k_is)
    (case i26 => k_is); (case l26 => k_is); (case c26 => k_is); (case k26 => k_is); (case a27 => k_is); (case i27 => k_is)
    (case l27 => k_is); (case c27 => k_is); (case k27 => k_is); (case a28 => k_is); (case i28 => k_is); (case l28 => k_is)
    (case c28 => k_is); (case k28 => k_is); (case a29 => k_is); (case i29 => k_is); (case l29 => k_is); (case c29 => k_is)
    (case k29 => k_is); (case a30 => k_is); (case i30 => k_is); (case l30 => k_is); (case c30 => k_is); (case k30 => k_is)
    (case a31 => k_is); (case i31 => k_is); (case l31 => k_is); (case c31 => k_is); (case k31 => k_is); (case a32 => k_is)
    (case i32 => k_is); (case l32 => k_is); (case c32 => k_is); (case k32 => k_is); (case z_ValueError => k_is); (case z_bool => k_is)
    (case z_dict => k_is); (case z_int => k_is); (case z_isinstance => k_is); (case z_len => k_is); (case z_list => k_is); (case z_max => k_is)
    (case z_min => k_is); (case z_range => k_is); (case z_reversed => k_is); (case z_set => k_is); (case z_sorted => k_is); (case z_str => k_is)
    (case z_tuple => k_is); (case z_zip => k_is); (case g_LEAVES => k_is); (case g_GREATEST => k_is); (case g_OPENS => k_is); (case d0_BACK => k_is)
    (case d1_BACK => k_is); (case d2_BACK => exact ⟨⟨_, _, rfl, rfl⟩, ⟨_, _, rfl, rfl⟩, ⟨_, _, rfl, rfl⟩, trivial⟩); (case d3_BACK => decide); (case d4_BACK_0 => k_is); (case d4_BACK_1 => k_is); (case d4_BACK_2 => k_is)
    (case x_hn => k_is); (case x_ht => k_is); (case x0_0 => k_is); (case x1_0 => first | k_exc | kernel_rfl); (case x2_0 => k_is); (case x3_0 => k_is)
    (case x4_0 => k_is); (case x5_0 => k_is); (case x6_0 => k_is); (case x7_0 => k_is); (case x8_0 => k_is); (case x9_0 => k_is)
    (case xk_0 => k_is); (case x0_1 => k_is); (case x1_1 => first | k_exc | kernel_rfl); (case x2_1 => k_is); (case x3_1 => k_is); (case x4_1 => k_is)
    (case x5_1 => k_is); (case x6_1 => k_is); (case x7_1 => k_is); (case x8_1 => k_is); (case x9_1 => k_is); (case xk_1 => k_is)
    (case x0_2 => k_is); (case x1_2 => first | k_exc | kernel_rfl); (case x2_2 => k_is); (case x3_2 => k_is); (case x4_2 => k_is); (case x5_2 => k_is)
    (case x6_2 => k_is); (case x7_2 => k_is); (case x8_2 => k_is); (case x9_2 => k_is); (case xk_2 => k_is); (case x0_3 => k_is)
    (case x1_3 => first | k_exc | kernel_rfl); (case x2_3 => k_is); (case x3_3 => k_is); (case x4_3 => k_is); (case x5_3 => k_is); (case x6_3 => k_is)
    (case x7_3 => k_is); (case x8_3 => k_is); (case x9_3 => k_is); (case xk_3 => k_is); (case y_0_0 => k_is); (case y_0_1 => k_is)
    (case y_0_2 => k_is); (case y_0_3 => k_is); (case y_1_0 => k_is); (case y_1_1 => k_is); (case y_1_2 => k_is); (case y_1_3 => k_is)
    (case y_2_0 => k_is); (case y_2_1 => k_is); (case y_2_2 => k_is); (case y_2_3 => k_is); (case y_3_0 => k_is); (case y_3_1 => k_is)
    (case y_3_2 => k_is); (case y_3_3 => k_is)
#print axioms PySem.Challenge.cw_anyorder_k08_whole_ways_holds

