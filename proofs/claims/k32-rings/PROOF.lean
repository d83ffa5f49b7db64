import PyProof.Rows.All
import Wide.All
import OpenK.AllK
import Wide.FinOn
import HandS.ForMost
import HandS.Deep
import HandS.TupAny
import HandS.IsInst
import HandS.RaiseMore
import PyProof.ReprRoads
import HandS.TupLe
import HandS.Style
import HandS.Flow
import HandS.Rev
import HandS.Zip
import HandS.DictComp
import HandS.RevTup
import HandS.Codes
import HandS.Ends
import PySem.Challenge.RW_neverdrivendark_k32_rings_judged
set_option Elab.async false
set_option linter.all false
set_option maxRecDepth 100000
/-! DenA: data, results, the small language and what it means; no heap, no machine. -/
namespace Den
open PySem L2

/-- data -/
inductive D where
  | non | bl (b : Bool) | int (i : Int) | str (x : Str)
  | lst (xs : List D) | tup (xs : List D) | dct (kvs : List (D × D)) | obj (c : Str) (fs : List (Str × D))
  /-- the script, a list or tuple of the module's: read alone -/
  | lstC (xs : List D) | tupC (xs : List D)
  deriving Inhabited

/-- what comes of a step -/
inductive Res (α : Type) where
  | ok (a : α) | exc (c : Str) (fs : List (Str × D)) | bad
def Res.bind {α β : Type} (r : Res α) (f : α → Res β) : Res β := match r with
  | .ok a => f a
  | .exc c fs => .exc c fs
  | .bad => .bad
@[simp] theorem Res.bind_ok {α β : Type} (a : α) (f : α → Res β) : (Res.ok a).bind f = f a := rfl
@[simp] theorem Res.bind_exc {α β : Type} (c : Str) (fs : List (Str × D)) (f : α → Res β) : (Res.exc c fs : Res α).bind f = .exc c fs := rfl
@[simp] theorem Res.bind_bad {α β : Type} (f : α → Res β) : (Res.bad : Res α).bind f = .bad := rfl
theorem Res.bind_eq_ok {α β : Type} {r : Res α} {f : α → Res β} {b : β} (h : r.bind f = .ok b) : ∃ a, r = .ok a ∧ f a = .ok b := by
  cases r with
  | ok a => exact ⟨a, rfl, h⟩
  | exc c fs => cases h
  | bad => cases h

mutual
def toPy : D → PyData
  | .non => .none | .bl b => .bool b | .int i => .int i | .str x => .str x
  | .lst xs => .list (toPys xs) | .tup xs => .tuple (toPys xs)
  | .dct _ => .dict [] | .obj _ _ => .dict []
  | .lstC xs => .list (toPys xs) | .tupC xs => .tuple (toPys xs)
def toPys : List D → List PyData
  | [] => []
  | x :: xs => toPy x :: toPys xs
end
theorem toPys_map : ∀ xs : List D, toPys xs = xs.map toPy
  | [] => rfl
  | x :: xs => by simp [toPys, toPys_map xs]
/-- None, bools, ints, texts, lists and tuples of these -/
def plain (d : D) : Bool := SeqAt.shaped (toPy d)
def eqD (a b : D) : Bool := PyData.eqv (toPy a) (toPy b)
def shows (d : D) : Bool := plain d && (toPy d).showable && decide ((toPy d).shown.length ≤ sizeLine)
/-- no list or dict, and nothing in it -/
def flat : D → Bool
  | .non | .bl _ | .int _ | .str _ => true
  | _ => false
/-- truth -/
def truth : D → Res Bool
  | .non => .ok false
  | .bl b => .ok b
  | .int i => .ok (i != 0)
  | .str x => if x.length ≤ sizeLine then .ok (x.length != 0) else .bad
  | .lst xs => .ok (!xs.isEmpty)
  | .tup xs => .ok (!xs.isEmpty)
  | .dct _ => .bad
  | .obj _ _ => .bad
  | .lstC xs => .ok (!xs.isEmpty)
  | .tupC xs => .ok (!xs.isEmpty)
/-- keys -/
def kOne : D → Option L2.Key
  | .int i => some (.inl i)
  | .str x => some (.inr x)
  | _ => none
def kMany : List D → Option (List L2.Key)
  | [] => some []
  | d :: ds => match kOne d, kMany ds with
    | some k, some ks => some (k :: ks)
    | _, _ => none

/-- a tuple of ints and texts, as a key -/
def keyT : D → Option (List L2.Key)
  | .tup xs => kMany xs
  | _ => none
/-- an item by an index of any sign -/
def atD {α : Type} (xs : List α) (i : Int) : Option α := L2.atI xs i
def cutD {α : Type} (xs : List α) (lo hi : Option Int) : List α := (xs.drop (HT.sIx xs.length 0 lo)).take (HT.sIx xs.length xs.length hi - HT.sIx xs.length 0 lo)
def ints? : List D → Option (List Int)
  | [] => some []
  | .int i :: r => (ints? r).map (i :: ·)
  | _ :: _ => none
def strs? : List D → Option (List Str)
  | [] => some []
  | .str i :: r => (strs? r).map (i :: ·)
  | _ :: _ => none
def bls? : List D → Option (List Bool)
  | [] => some []
  | .bl i :: r => (bls? r).map (i :: ·)
  | _ :: _ => none
/-- the greatest, the least -/
def maxI : Int → List Int → Int := List.foldl (fun m x => if m < x then x else m)
def minI : Int → List Int → Int := List.foldl (fun m x => if x < m then x else m)

/-! ### operations on data -/
inductive O where
  | add | sub | mul | fdiv | mod | pow | shl | shr | band | neg
  | lt | le | gt | ge | eq | ne | isIn | notIn | isNon | notNon | isBl | notBl
  | idx | sl00 | sl10 | sl01 | sl11
  | mkTup | mkLst | mkDctT
  | len | abs | toInt | repr | toTup | toLst | max1 | min1 | max2 | min2 | sum | any | all
  | isTup | isLst | isStr | isBool
  | index | toLstRev
  deriving DecidableEq
/-- operands may be lists that still grow -/
def O.borrows : O → Bool
  | .mkTup | .mkLst => false
  | _ => true
/-- the result, where it is a list, is a new one -/
def O.fresh : O → Bool
  | .mkLst | .toLst | .mkDctT | .toLstRev => true
  | _ => false
def intOk (i : Int) : Bool := decide (i.natAbs < 18446744073709551616)
def pOk (i j : Int) : Bool := decide (0 ≤ j) && decide (j.natAbs ≤ 1000000) && decide (i.natAbs < 18446744073709551616)

def sAdd : D → D → Res D
  | .int i, .int j => .ok (.int (i + j))
  | .str x, .str y => if x.length + y.length ≤ sizeLine then .ok (.str (x ++ y)) else .bad
  | .tup x, .tup y => if x.length + y.length ≤ sizeLine then .ok (.tup (x ++ y)) else .bad
  | .lst x, .lst y => if x.length + y.length ≤ sizeLine then .ok (.lst (x ++ y)) else .bad
  | _, _ => .bad
/-- of two ints -/
def sInt (f : Int → Int → Res D) : D → D → Res D
  | .int i, .int j => f i j
  | _, _ => .bad
def fMul (i j : Int) : Res D := if intOk i || intOk j then .ok (.int (i * j)) else .bad
def fDiv (i j : Int) : Res D := if 0 < j ∧ j.natAbs < 1073741824 then .ok (.int (i / j)) else .bad
def fMod (i j : Int) : Res D := if 0 < j then .ok (.int (i % j)) else .bad
def fPow (i j : Int) : Res D := if pOk i j then .ok (.int (i ^ j.toNat)) else .bad
def fShl (i j : Int) : Res D := if pOk i j then .ok (.int (i * 2 ^ j.toNat)) else .bad
def fShr (i j : Int) : Res D := if 0 ≤ j then .ok (.int (i / 2 ^ j.toNat)) else .bad
def sRep : D → D → Res D
  | .lst xs, .int k => if k.natAbs < 9223372036854775808 ∧ xs.length * k.toNat ≤ sizeLine then .ok (.lst (List.replicate k.toNat xs).flatten) else .bad
  | a, b => sInt fMul a b
def sEq (neg : Bool) (a b : D) : Res D := if plain a && plain b then .ok (.bl (if neg then !eqD a b else eqD a b)) else .bad
def sIn (neg : Bool) : D → D → Res D
  | a, .lst xs => if plain a && plain (.lst xs) then .ok (.bl (if neg then !(xs.any fun z => eqD z a) else xs.any fun z => eqD z a)) else .bad
  | a, .dct kvs => match keyT a with
    | some _ => .ok (.bl (if neg then !(kvs.any fun p => decide (keyT p.1 = keyT a)) else kvs.any fun p => decide (keyT p.1 = keyT a)))
    | none => .bad
  | _, _ => .bad
def isNonD : D → Bool
  | .non => true
  | _ => false
def sIsBl (neg : Bool) : D → D → Res D
  | .bl a, .bl b => .ok (.bl (if neg then !decide (a = b) else decide (a = b)))
  | _, _ => .bad
def oR (o : Option D) : Res D := match o with
  | some d => .ok d
  | none => .bad
def sIdx : D → D → Res D
  | .lst xs, .int i => oR (atD xs i)
  | .tup xs, .int i => oR (atD xs i)
  | .lstC xs, .int i => oR (atD xs i)
  | .tupC xs, .int i => oR (atD xs i)
  | .str x, .int i => if x.length ≤ sizeLine then oR ((atD x.cps.toList i).map fun c => .str ⟨#[c]⟩) else .bad
  | _, _ => .bad
def sCut (lo hi : Option Int) : D → Res D
  | .lst xs => .ok (.lst (cutD xs lo hi))
  | .tup xs => .ok (.tup (cutD xs lo hi))
  | _ => .bad
def sLen : D → Res D
  | .lst xs => .ok (.int xs.length)
  | .tup xs => .ok (.int xs.length)
  | .lstC xs => .ok (.int xs.length)
  | .tupC xs => .ok (.int xs.length)
  | .str x => if x.length ≤ sizeLine then .ok (.int x.length) else .bad
  | _ => .bad
def sAbs : D → Res D
  | .int i => .ok (.int (if i < 0 then -i else i))
  | _ => .bad
def sNeg : D → Res D
  | .int i => .ok (.int (-i))
  | _ => .bad
def sToInt : D → Res D
  | .int i => .ok (.int i)
  | .bl b => .ok (.int (if b then 1 else 0))
  | _ => .bad
def sRepr (a : D) : Res D := if shows a then .ok (.str (toPy a).shown) else .bad
def sToTup : D → Res D
  | .lst xs => .ok (.tup xs)
  | .tup xs => .ok (.tup xs)
  | _ => .bad
def sToLst : D → Res D
  | .lst xs => .ok (.lst xs)
  | .tup xs => .ok (.lst xs)
  | .lstC xs => .ok (.lst xs)
  | .tupC xs => .ok (.lst xs)
  | _ => .bad
def sLrev : D → Res D
  | .lst xs => .ok (.lst xs.reverse)
  | _ => .bad
def sOverI (f : List Int → Res D) : D → Res D
  | .lst xs => match ints? xs with
    | some ns => f ns
    | none => .bad
  | _ => .bad
def fMax : List Int → Res D
  | [] => .bad
  | n :: ns => .ok (.int (maxI n ns))
def fMin : List Int → Res D
  | [] => .bad
  | n :: ns => .ok (.int (minI n ns))
def sOverB (f : List Bool → Bool) : D → Res D
  | .lst xs => match bls? xs with
    | some ns => .ok (.bl (f ns))
    | none => .bad
  | _ => .bad
def isTupD : D → Bool
  | .tup _ | .tupC _ => true
  | _ => false
def isLstD : D → Bool
  | .lst _ | .lstC _ => true
  | _ => false
def isStrD : D → Bool
  | .str _ => true
  | _ => false
def isBlD : D → Bool
  | .bl _ => true
  | _ => false
/-- the first place of an equal one -/
def findD (a : D) : List D → Nat → Option Nat
  | [], _ => none
  | x :: xs, n => if eqD x a then some n else findD a xs (n + 1)
def sIndex : D → D → Res D
  | .lst xs, a => if plain a && plain (.lst xs) then oR ((findD a xs 0).map fun j => .int (j : Nat)) else .bad
  | _, _ => .bad
def O.sem : O → List D → Res D
  | .add, [a, b] => sAdd a b
  | .sub, [a, b] => sInt (fun i j => .ok (.int (i - j))) a b
  | .mul, [a, b] => sRep a b
  | .fdiv, [a, b] => sInt fDiv a b
  | .mod, [a, b] => sInt fMod a b
  | .pow, [a, b] => sInt fPow a b
  | .shl, [a, b] => sInt fShl a b
  | .shr, [a, b] => sInt fShr a b
  | .band, [a, b] => sInt (fun i j => .ok (.int (Builtin.bitAnd i j))) a b
  | .neg, [a] => sNeg a
  | .lt, [a, b] => sInt (fun i j => .ok (.bl (decide (i < j)))) a b
  | .le, [a, b] => sInt (fun i j => .ok (.bl (decide (i ≤ j)))) a b
  | .gt, [a, b] => sInt (fun i j => .ok (.bl (decide (j < i)))) a b
  | .ge, [a, b] => sInt (fun i j => .ok (.bl (decide (j ≤ i)))) a b
  | .eq, [a, b] => sEq false a b
  | .ne, [a, b] => sEq true a b
  | .isIn, [a, b] => sIn false a b
  | .notIn, [a, b] => sIn true a b
  | .isNon, [a] => .ok (.bl (isNonD a))
  | .notNon, [a] => .ok (.bl (!isNonD a))
  | .isBl, [a, b] => sIsBl false a b
  | .notBl, [a, b] => sIsBl true a b
  | .idx, [a, b] => sIdx a b
  | .sl00, [a] => sCut none none a
  | .sl10, [a, .int i] => sCut (some i) none a
  | .sl01, [a, .int i] => sCut none (some i) a
  | .sl11, [a, .int i, .int j] => sCut (some i) (some j) a
  | .mkTup, ds => if ds.length ≤ sizeLine then .ok (.tup ds) else .bad
  | .mkLst, ds => if ds.length ≤ sizeLine then .ok (.lst ds) else .bad
  | .mkDctT, [] => .ok (.dct [])
  | .len, [a] => sLen a
  | .abs, [a] => sAbs a
  | .toInt, [a] => sToInt a
  | .repr, [a] => sRepr a
  | .toTup, [a] => sToTup a
  | .toLst, [a] => sToLst a
  | .max1, [a] => sOverI fMax a
  | .min1, [a] => sOverI fMin a
  | .sum, [a] => sOverI (fun ns => .ok (.int ns.sum)) a
  | .max2, [a, b] => sInt (fun i j => .ok (.int (if j > i then j else i))) a b
  | .min2, [a, b] => sInt (fun i j => .ok (.int (if j < i then j else i))) a b
  | .any, [a] => sOverB (fun ns => ns.any id) a
  | .all, [a] => sOverB (fun ns => ns.all id) a
  | .isTup, [a] => .ok (.bl (isTupD a))
  | .isLst, [a] => .ok (.bl (isLstD a))
  | .isStr, [a] => .ok (.bl (isStrD a))
  | .isBool, [a] => .ok (.bl (isBlD a))
  | .index, [a, b] => sIndex a b
  | .toLstRev, [a] => sLrev a
  | _, _ => .bad

/-! ### the language -/
inductive Tg where
  | nm (i : Nat) | tp (ts : List Tg)
inductive IK where
  | plain | range1 | range2 | enum | zip2 | rev
  deriving DecidableEq
mutual
inductive E where
  | var (i : Nat) | con (d : D) | op (o : O) (es : Es) | andE (a b : E) | orE (a b : E) | notE (a : E) | ite (c : C) (a b : E)
  | chain (o1 o2 : O) (a b c : E) | call (f : Nat) (es : Es) | callB (f : Nat) (es : Es)
  | lc (own : List Nat) (tg : Tg) (k : IK) (src : Es) (c : C) (elt : E)
  | dcT (own : List Nat) (tg : Tg) (k : IK) (src : Es) (key val : E)
inductive Es where
  | nil | cons (a : E) (as : Es)
/-- tests: an expression's truth, a slot's truth -/
inductive C where
  | tt | tr (e : E) | bv (i : Nat) | and (a b : C) | or (a b : C) | not (a : C)
end
inductive M where
  | append | setI | remove
  deriving DecidableEq
mutual
inductive S where
  | asg (tg : Tg) (e : E) | own (i : Nat) (e : E) | aug (i : Nat) (o : O) (e : E) | ex (e : E) | ret (e : E) | retN
  | ite (c : C) (a b : Ss) | for_ (tg : Tg) (k : IK) (src : Es) (body : Ss) | while_ (c : C) (body : Ss) | brk | cnt
  | mut (m : M) (i : Nat) (es : Es)
inductive Ss where
  | nil | cons (s : S) (ss : Ss) | fz (is : List Nat) (ss : Ss)
end

/-! ### what it means -/
inductive Slot where
  | un | val (d : D) | own (d : D)
abbrev En := List Slot
structure Cn where
  fn : Nat → Option (List D → Res D)
  fuel : Nat
def rd (b : Bool) (ρ : En) (i : Nat) : Res D := match ρ[i]? with
  | some (.val d) => .ok d
  | some (.own d) => if b then .ok d else .bad
  | _ => .bad
def E.isVar : E → Option Nat
  | .var i => some i
  | _ => none
def fresh : E → Bool
  | .op o _ => o.fresh
  | .lc .. => true
  | .dcT .. => true
  | _ => false
/-- the slots forgotten -/
def wipeE (ρ : En) : List Nat → En
  | [] => ρ
  | v :: vs => (wipeE ρ vs).set v .un
def fzOne (ρ : En) (i : Nat) : En := match ρ[i]? with
  | some (.own d) => ρ.set i (.val d)
  | _ => ρ
def fz (ρ : En) : List Nat → En
  | [] => ρ
  | i :: is => fz (fzOne ρ i) is
mutual
def bindT : Tg → D → En → Res En
  | .nm i, d, ρ => .ok (ρ.set i (.val d))
  | .tp ts, .tup ds, ρ => bindTs ts ds ρ
  | .tp _, _, _ => .bad
def bindTs : List Tg → List D → En → Res En
  | [], [], ρ => .ok ρ
  | t :: ts, d :: ds, ρ => (bindT t d ρ).bind (bindTs ts ds)
  | _, _, _ => .bad
end
def rngOk (i : Int) : Bool := decide (i.natAbs < 4611686018427387904)
def items : IK → List D → Res (List D)
  | .plain, [.lst xs] => .ok xs
  | .plain, [.tup xs] => .ok xs
  | .plain, [.lstC xs] => .ok xs
  | .plain, [.tupC xs] => .ok xs
  | .range1, [.int n] => if rngOk n then .ok ((List.range n.toNat).map fun k => .int (k : Nat)) else .bad
  | .range2, [.int a, .int b] => if rngOk a && rngOk b then .ok ((List.range (b - a).toNat).map fun k => .int (a + (k : Nat))) else .bad
  | .rev, [.lst xs] => .ok xs.reverse
  | .rev, [.tup xs] => .ok xs.reverse
  | .enum, [.lst xs] => .ok (xs.zipIdx.map fun p => .tup [.int (p.2 : Nat), p.1])
  | .zip2, [.lst xs, .lst ys] => .ok ((xs.zip ys).map fun p => .tup [p.1, p.2])
  | .zip2, [.tup xs, .tup ys] => .ok ((xs.zip ys).map fun p => .tup [p.1, p.2])
  | _, _ => .bad
def bl? : D → Res Bool
  | .bl b => .ok b
  | _ => .bad
def putT (kvs : List (D × D)) (k v : D) : List (D × D) :=
  if kvs.any (fun p => decide (keyT p.1 = keyT k)) then kvs.map (fun p => if keyT p.1 = keyT k then (p.1, v) else p) else kvs ++ [(k, v)]
/-- a comprehension: each item gives one or none -/
def mapD (f : D → Res (Option D)) : List D → Res (List D)
  | [] => .ok []
  | x :: xs => (f x).bind fun o => (mapD f xs).bind fun ys => .ok (match o with | some y => y :: ys | none => ys)
def dcD (f : D → Res (D × D)) : List D → List (D × D) → Res (List (D × D))
  | [], kvs => .ok kvs
  | x :: xs, kvs => (f x).bind fun p => if kvs.length < sizeLine ∧ (keyT p.1).isSome = true then dcD f xs (putT kvs p.1 p.2) else .bad
section
variable (Γ : Cn)
mutual
def evE : E → En → Res D
  | .var i, ρ => rd false ρ i
  | .con d, _ => .ok d
  | .op o es, ρ => (evEs o.borrows es ρ).bind o.sem
  | .andE a b, ρ => (evE a ρ).bind fun x => (bl? x).bind fun k => if k then evE b ρ else .ok (.bl false)
  | .orE a b, ρ => (evE a ρ).bind fun x => (bl? x).bind fun k => if k then .ok (.bl true) else evE b ρ
  | .notE a, ρ => (evE a ρ).bind fun x => (truth x).bind fun k => .ok (.bl (!k))
  | .ite c a b, ρ => (evC c ρ).bind fun k => if k then evE a ρ else evE b ρ
  | .chain o1 o2 a b c, ρ => (evE a ρ).bind fun x => (evE b ρ).bind fun y => (o1.sem [x, y]).bind fun r => (bl? r).bind fun k => if k then (evE c ρ).bind fun z => o2.sem [y, z] else .ok (.bl false)
  | .call f es, ρ => (evEs false es ρ).bind fun ds => match Γ.fn f with | some g => g ds | none => .bad
  | .callB f es, ρ => (evEs true es ρ).bind fun ds => match Γ.fn f with | some g => (g ds).bind fun d => if flat d then .ok d else .bad | none => .bad
  | .lc own tg k src c elt, ρ => (evEs true src ρ).bind fun ds => (items k ds).bind fun xs =>
      (mapD (fun x => (bindT tg x (wipeE ρ own)).bind fun ρ1 => (evC c ρ1).bind fun k => if k then (evE elt ρ1).bind fun y => .ok (some y) else .ok none) xs).bind fun out =>
        if out.length ≤ sizeLine then .ok (.lst out) else .bad
  | .dcT own tg k src key val, ρ => (evEs true src ρ).bind fun ds => (items k ds).bind fun xs =>
      (dcD (fun x => (bindT tg x (wipeE ρ own)).bind fun ρ1 => (evE key ρ1).bind fun y => (evE val ρ1).bind fun z => .ok (y, z)) xs []).bind fun out => .ok (.dct out)
def evEs : Bool → Es → En → Res (List D)
  | _, .nil, _ => .ok []
  | b, .cons a as, ρ => (match b, a.isVar with | true, some i => rd true ρ i | _, _ => evE a ρ).bind fun d => (evEs b as ρ).bind fun ds => .ok (d :: ds)
/-- a test -/
def evC : C → En → Res Bool
  | .tt, _ => .ok true
  | .tr e, ρ => (evE e ρ).bind truth
  | .bv i, ρ => (rd true ρ i).bind truth
  | .and a b, ρ => (evC a ρ).bind fun k => if k then evC b ρ else .ok false
  | .or a b, ρ => (evC a ρ).bind fun k => if k then .ok true else evC b ρ
  | .not a, ρ => (evC a ρ).bind fun k => .ok (!k)
end
end

/-! ### statements -/
inductive Out where
  | nx (ρ : En) | rt (d : D) (ρ : En) | bk (ρ : En) | ct (ρ : En)
def mApp : D → List D → Res D
  | .lst xs, [d] => if xs.length < sizeLine then .ok (.lst (xs ++ [d])) else .bad
  | _, _ => .bad
/-- the value, then the place or the key -/
def mSet : D → List D → Res D
  | .lst xs, [d, .int i] => match L2.ixN xs.length i with
    | some j => .ok (.lst (xs.set j d))
    | none => .bad
  | .dct kvs, [d, k] => if kvs.length < sizeLine ∧ (keyT k).isSome = true then .ok (.dct (putT kvs k d)) else .bad
  | _, _ => .bad
def mRem : D → List D → Res D
  | .lst xs, [d] => if plain d && plain (.lst xs) then (match findD d xs 0 with
    | some j => .ok (.lst (xs.eraseIdx j))
    | none => .bad) else .bad
  | _, _ => .bad
def M.sem : M → D → List D → Res D
  | .append => mApp
  | .setI => mSet
  | .remove => mRem
/-- x op= y: ints and texts -/
def augD (o : O) : D → D → Res D
  | .int i, .int j => o.sem [.int i, .int j]
  | .str x, .str y => o.sem [.str x, .str y]
  | _, _ => .bad
/-- for: each item bound, the body run -/
def forD (bnd : D → En → Res En) (body : En → Res Out) : List D → En → Res Out
  | [], ρ => .ok (.nx ρ)
  | d :: ds, ρ => (bnd d ρ).bind fun ρ1 => (body ρ1).bind fun o => match o with
    | .nx ρ2 => forD bnd body ds ρ2
    | .ct ρ2 => forD bnd body ds ρ2
    | .bk ρ2 => .ok (.nx ρ2)
    | .rt d ρ2 => .ok (.rt d ρ2)
def whileD (c : En → Res Bool) (body : En → Res Out) : Nat → En → Res Out
  | 0, _ => .bad
  | n + 1, ρ => (c ρ).bind fun k => if k then (body ρ).bind fun o => match o with
    | .nx ρ2 => whileD c body n ρ2
    | .ct ρ2 => whileD c body n ρ2
    | .bk ρ2 => .ok (.nx ρ2)
    | .rt d ρ2 => .ok (.rt d ρ2)
    else .ok (.nx ρ)
section
variable (Γ : Cn)
mutual
def evS : S → En → Res Out
  | .asg tg e, ρ => (evE Γ e ρ).bind fun d => (bindT tg d ρ).bind fun ρ1 => .ok (.nx ρ1)
  | .own i e, ρ => (evE Γ e ρ).bind fun d => .ok (.nx (ρ.set i (.own d)))
  | .aug i o e, ρ => (rd false ρ i).bind fun x => (evE Γ e ρ).bind fun y => (augD o x y).bind fun z => .ok (.nx (ρ.set i (.val z)))
  | .ex e, ρ => (evE Γ e ρ).bind fun _ => .ok (.nx ρ)
  | .ret e, ρ => (evE Γ e ρ).bind fun d => .ok (.rt d ρ)
  | .retN, ρ => .ok (.rt .non ρ)
  | .ite c a b, ρ => (evC Γ c ρ).bind fun k => if k then evSs a ρ else evSs b ρ
  | .for_ tg k src body, ρ => (evEs Γ false src ρ).bind fun ds => (items k ds).bind fun xs => forD (bindT tg) (evSs body) xs ρ
  | .while_ c body, ρ => whileD (evC Γ c) (evSs body) Γ.fuel ρ
  | .brk, ρ => .ok (.bk ρ)
  | .cnt, ρ => .ok (.ct ρ)
  | .mut m i es, ρ => match ρ[i]? with
    | some (.own x) => (evEs Γ false es ρ).bind fun ds => (m.sem x ds).bind fun y => .ok (.nx (ρ.set i (.own y)))
    | _ => .bad
def evSs : Ss → En → Res Out
  | .nil, ρ => .ok (.nx ρ)
  | .cons s ss, ρ => (evS s ρ).bind fun o => match o with
    | .nx ρ1 => evSs ss ρ1
    | o => .ok o
  | .fz is ss, ρ => evSs ss (fz ρ is)
end
end
/-- a def: its body run on its arguments -/
def run (Γ : Cn) (body : Ss) (np n : Nat) (ds : List D) : Res D :=
  if ds.length = np then (evSs Γ body (ds.map .val ++ List.replicate (n - np) .un)).bind fun o => match o with
    | .nx _ => .ok .non
    | .rt d _ => .ok d
    | _ => .bad
  else .bad
end Den

/-! DenB: how data lie in the abstract heap; what is kept; the slots. -/
namespace Den
open PySem PySem.Spec PyProof.Rows L2

mutual
/-- v is d over the still part G of the heap -/
inductive Rep (K : PySem.W.Frag) (G : Hp) : V → D → Prop
  | non : Rep K G .non .non
  | bl (b : Bool) : Rep K G (.bl b) (.bl b)
  | int (i : Int) : Rep K G (.int i) (.int i)
  | str (x : Str) : Rep K G (.str x) (.str x)
  | lst {a : Addr} {vs : List V} {ds : List D} : G a = some (.lst vs) → Reps K G vs ds → Rep K G (.ref a) (.lst ds)
  | tup {a : Addr} {vs : List V} {ds : List D} : G a = some (.tup vs) → Reps K G vs ds → Rep K G (.ref a) (.tup ds)
  | lstC {a : Addr} {vs : List V} {ds : List D} : SqL K G a vs → Reps K G vs ds → Rep K G (.ref a) (.lstC ds)
  | tupC {a : Addr} {vs : List V} {ds : List D} : SqT K G a vs → Reps K G vs ds → Rep K G (.ref a) (.tupC ds)
  | dctT {a : Addr} {kvs : List (List L2.Key × V)} {ks : List (D × D)} : G a = some (.dT kvs) → RepKs K G kvs ks → Rep K G (.ref a) (.dct ks)
inductive Reps (K : PySem.W.Frag) (G : Hp) : List V → List D → Prop
  | nil : Reps K G [] []
  | cons {v : V} {vs : List V} {d : D} {ds : List D} : Rep K G v d → Reps K G vs ds → Reps K G (v :: vs) (d :: ds)
inductive RepKs (K : PySem.W.Frag) (G : Hp) : List (List L2.Key × V) → List (D × D) → Prop
  | nil : RepKs K G [] []
  | cons {k : List L2.Key} {v : V} {r : List (List L2.Key × V)} {kd d : D} {rd : List (D × D)} : keyT kd = some k → Rep K G v d → RepKs K G r rd → RepKs K G ((k, v) :: r) ((kd, d) :: rd)
end

theorem same_sqt {K : PySem.W.Frag} {G G' : Hp} {a : Addr} {xs : List V} (e : Same G G') (h : SqT K G a xs) : SqT K G' a xs := by
  rcases h with (h | ⟨o, h⟩) | h
  · exact .inl (.inl (e _ _ h))
  · exact .inl (.inr ⟨o, e _ _ h⟩)
  · exact .inr h

section
variable {K : PySem.W.Frag} {G G' H H' : Hp}
mutual
theorem Rep.mono (e : Same G G') : ∀ {v : V} {d : D}, Rep K G v d → Rep K G' v d
  | _, _, .non => .non
  | _, _, .bl b => .bl b
  | _, _, .int i => .int i
  | _, _, .str x => .str x
  | _, _, .lst h r => .lst (e _ _ h) (Reps.mono e r)
  | _, _, .tup h r => .tup (e _ _ h) (Reps.mono e r)
  | _, _, .lstC h r => .lstC (e.seq h) (Reps.mono e r)
  | _, _, .tupC h r => .tupC (same_sqt e h) (Reps.mono e r)
  | _, _, .dctT h r => .dctT (e _ _ h) (RepKs.mono e r)
theorem Reps.mono (e : Same G G') : ∀ {vs : List V} {ds : List D}, Reps K G vs ds → Reps K G' vs ds
  | _, _, .nil => .nil
  | _, _, .cons h r => .cons (Rep.mono e h) (Reps.mono e r)
theorem RepKs.mono (e : Same G G') : ∀ {vs : List (List L2.Key × V)} {ds : List (D × D)}, RepKs K G vs ds → RepKs K G' vs ds
  | _, _, .nil => .nil
  | _, _, .cons k h r => .cons k (Rep.mono e h) (RepKs.mono e r)
end
theorem Rep.flat {v : V} {d : D} (f : flat d = true) (h : Rep K G v d) : Rep K G' v d := by
  cases h with
  | non => exact .non
  | bl b => exact .bl b
  | int i => exact .int i
  | str x => exact .str x
  | lst _ _ => cases f
  | tup _ _ => cases f
  | lstC _ _ => cases f
  | tupC _ _ => cases f
  | dctT _ _ => cases f
theorem Reps.length : ∀ {vs : List V} {ds : List D}, Reps K G vs ds → vs.length = ds.length
  | _, _, .nil => rfl
  | _, _, .cons _ r => by rw [List.length_cons, List.length_cons, r.length]
theorem Reps.get : ∀ {vs : List V} {ds : List D} {i : Nat} {d : D}, Reps K G vs ds → ds[i]? = some d → ∃ v, vs[i]? = some v ∧ Rep K G v d
  | _, _, _, _, .nil, e => by simp at e
  | _, _, 0, _, .cons h _, e => by simp at e; subst e; exact ⟨_, rfl, h⟩
  | _, _, i + 1, d, .cons _ r, e => by
    obtain ⟨v, e1, e2⟩ := Reps.get (i := i) (d := d) r (by simpa using e)
    exact ⟨v, by simpa using e1, e2⟩
theorem Reps.getV : ∀ {vs : List V} {ds : List D} {i : Nat} {v : V}, Reps K G vs ds → vs[i]? = some v → ∃ d, ds[i]? = some d ∧ Rep K G v d
  | _, _, _, _, .nil, e => by simp at e
  | _, _, 0, _, .cons h _, e => by simp at e; subst e; exact ⟨_, rfl, h⟩
  | _, _, i + 1, v, .cons _ r, e => by
    obtain ⟨d, e1, e2⟩ := Reps.getV (i := i) (v := v) r (by simpa using e)
    exact ⟨d, by simpa using e1, e2⟩
theorem Reps.append : ∀ {vs ws : List V} {ds es : List D}, Reps K G vs ds → Reps K G ws es → Reps K G (vs ++ ws) (ds ++ es)
  | _, _, _, _, .nil, s => s
  | _, _, _, _, .cons h r, s => .cons h (r.append s)
theorem Reps.take : ∀ {vs : List V} {ds : List D} (n : Nat), Reps K G vs ds → Reps K G (vs.take n) (ds.take n)
  | _, _, 0, _ => .nil
  | _, _, _ + 1, .nil => .nil
  | _, _, n + 1, .cons h r => .cons h (r.take n)
theorem Reps.drop : ∀ {vs : List V} {ds : List D} (n : Nat), Reps K G vs ds → Reps K G (vs.drop n) (ds.drop n)
  | _, _, 0, r => r
  | _, _, _ + 1, .nil => .nil
  | _, _, n + 1, .cons _ r => r.drop n
theorem Reps.set {x : V} {d : D} (r : Rep K G x d) : ∀ {vs : List V} {ds : List D} (i : Nat), Reps K G vs ds → Reps K G (vs.set i x) (ds.set i d)
  | _, _, _, .nil => .nil
  | _, _, 0, .cons _ t => .cons r t
  | _, _, i + 1, .cons q t => .cons q (t.set r i)
theorem Reps.erase : ∀ {vs : List V} {ds : List D} (i : Nat), Reps K G vs ds → Reps K G (vs.eraseIdx i) (ds.eraseIdx i)
  | _, _, _, .nil => .nil
  | _, _, 0, .cons _ t => t
  | _, _, i + 1, .cons q t => .cons q (t.erase i)
theorem Reps.reverse {vs : List V} {ds : List D} (r : Reps K G vs ds) : Reps K G vs.reverse ds.reverse := by
  induction r using Reps.rec (motive_1 := fun _ _ _ => True) (motive_3 := fun _ _ _ => True) with
  | nil => exact .nil
  | cons h _ _ ih => rw [List.reverse_cons, List.reverse_cons]; exact ih.append (.cons h .nil)
  | _ => intros; trivial
theorem Reps.cut {vs : List V} {ds : List D} (r : Reps K G vs ds) (lo hi : Option Int) : Reps K G (cutV vs lo hi) (cutD ds lo hi) := by
  unfold cutV cutD
  rw [r.length]
  exact (r.drop _).take _
theorem Reps.atI {vs : List V} {ds : List D} {i : Int} {d : D} (r : Reps K G vs ds) (h : atD ds i = some d) : ∃ v, L2.atI vs i = some v ∧ Rep K G v d := by
  unfold atD L2.atI at h
  unfold L2.atI
  rw [r.length]
  cases q : ixN ds.length i with
  | none => rw [q] at h; cases h
  | some j =>
    rw [q] at h
    exact r.get h
theorem Reps.ints : ∀ {vs : List V} {ds : List D} {ns : List Int}, Reps K G vs ds → ints? ds = some ns → vs = ns.map V.int ∧ ds = ns.map D.int
  | _, _, _, .nil, e => by cases e; exact ⟨rfl, rfl⟩
  | _, _, ns, .cons (d := d) h r, e => by
    cases d with
    | int i =>
      cases h
      unfold ints? at e
      cases q : ints? _ with
      | none => rw [q] at e; cases e
      | some ms =>
        rw [q] at e
        cases e
        obtain ⟨e1, e2⟩ := r.ints q
        rw [e1, e2]
        exact ⟨rfl, rfl⟩
    | _ => cases e
theorem Reps.bls : ∀ {vs : List V} {ds : List D} {ns : List Bool}, Reps K G vs ds → bls? ds = some ns → vs = ns.map V.bl ∧ ds = ns.map D.bl
  | _, _, _, .nil, e => by cases e; exact ⟨rfl, rfl⟩
  | _, _, ns, .cons (d := d) h r, e => by
    cases d with
    | bl i =>
      cases h
      unfold bls? at e
      cases q : bls? _ with
      | none => rw [q] at e; cases e
      | some ms =>
        rw [q] at e
        cases e
        obtain ⟨e1, e2⟩ := r.bls q
        rw [e1, e2]
        exact ⟨rfl, rfl⟩
    | _ => cases e
mutual
theorem Rep.dp : ∀ {v : V} {d : D}, Rep K G v d → (toPy d).canLay0 = true → Dp K G v (toPy d)
  | _, _, .non, _ => .non
  | _, _, .bl b, _ => .bl b
  | _, _, .int i, _ => .int i
  | _, _, .str x, _ => .str x
  | _, _, .lst h r, l => .lst (.of h) (Reps.dp r (by simpa [toPy, PyData.canLay0] using l))
  | _, _, .tup h r, l => .tup (.of h) (Reps.dp r (by simpa [toPy, PyData.canLay0] using l))
  | _, _, .lstC h r, l => .lst h (Reps.dp r (by simpa [toPy, PyData.canLay0] using l))
  | _, _, .tupC h r, l => .tup h (Reps.dp r (by simpa [toPy, PyData.canLay0] using l))
  | _, _, .dctT h r, l => by simp [toPy, PyData.canLay0] at l
theorem Reps.dp : ∀ {vs : List V} {ds : List D}, Reps K G vs ds → PyData.canLayAll0 (toPys ds) = true → DpAll K G vs (toPys ds)
  | _, _, .nil, _ => .nil
  | _, _, .cons h r, l => by
    simp only [toPys, PyData.canLayAll0, Bool.and_eq_true] at l
    exact .cons (Rep.dp h l.1) (Reps.dp r l.2)
end
theorem Rep.dpP {v : V} {d : D} (r : Rep K G v d) (h : plain d = true) : Dp K G v (toPy d) := r.dp (SeqAt.canLay_of_shaped h)

/-! ### what is kept -/
structure Ext (G H G' H' : Hp) : Prop where
  gg : Same G G'
  hh : Same H H'
  gh : Same G' H'
  nw : ∀ b o, G' b = some o → G b = none → H b = none ∨ ∃ vs, H b = some (.tup vs)
theorem Ext.refl (s : Same G H) : Ext G H G H := ⟨.refl _, .refl _, s, fun _ _ e n => by rw [e] at n; cases n⟩
theorem Ext.trans {G1 H1 G2 H2 : Hp} (a : Ext G H G1 H1) (b : Ext G1 H1 G2 H2) : Ext G H G2 H2 := by
  refine ⟨a.gg.trans b.gg, a.hh.trans b.hh, b.gh, fun c o e n => ?_⟩
  cases q : G1 c with
  | some u => exact a.nw c u q n
  | none =>
    rcases b.nw c o e q with z | ⟨vs, z⟩
    · exact .inl (a.hh.free z)
    · cases y : H c with
      | none => exact .inl rfl
      | some u =>
        have := a.hh _ _ y
        rw [z] at this
        cases this
        exact .inr ⟨vs, rfl⟩
/-- a new thing that stands still -/
theorem Ext.new {p : Addr} {o : HO} (s : Same G H) (n : H p = none) : Ext G H (upd G p o) (upd H p o) := by
  have nG : G p = none := s.free n
  refine ⟨fun b u e => ?_, fun b u e => ?_, fun b u e => ?_, fun b u e z => ?_⟩
  · rw [upd_ne (ne_of_none e nG)]; exact e
  · rw [upd_ne (ne_of_none e n)]; exact e
  · by_cases q : b = p
    · subst q; rw [upd_same] at e ⊢; exact e
    · rw [upd_ne q] at e ⊢; exact s _ _ e
  · by_cases q : b = p
    · subst q; exact .inl n
    · rw [upd_ne q, z] at e; cases e
/-- a new thing that may change -/
theorem Ext.newO {p : Addr} {o : HO} (s : Same G H) (n : H p = none) : Ext G H G (upd H p o) := by
  refine ⟨.refl _, fun b u e => ?_, fun b u e => ?_, fun b u e z => ?_⟩
  · rw [upd_ne (ne_of_none e n)]; exact e
  · rw [upd_ne (ne_of_none (s _ _ e) n)]; exact s _ _ e
  · rw [e] at z; cases z
/-- the object at a, that the program may change, is d -/
def Owned (K : PySem.W.Frag) (G H : Hp) (a : Addr) (d : D) : Prop :=
  (∃ vs ds, d = .lst ds ∧ H a = some (.lst vs) ∧ Reps K G vs ds) ∨ ∃ kvs ks, d = .dct ks ∧ H a = some (.dT kvs) ∧ RepKs K G kvs ks
theorem Owned.ext {G1 H1 : Hp} {a : Addr} {d : D} (o : Owned K G H a d) (e : Same G G1) (h : Same H H1) : Owned K G1 H1 a d := by
  rcases o with ⟨vs, ds, e1, e2, r⟩ | ⟨kvs, ks, e1, e2, r⟩
  · exact .inl ⟨vs, ds, e1, h _ _ e2, r.mono e⟩
  · exact .inr ⟨kvs, ks, e1, h _ _ e2, r.mono e⟩
theorem Owned.some {a : Addr} {d : D} (o : Owned K G H a d) : ∃ u, H a = Option.some u ∧ (∀ vs, u ≠ .tup vs) := by
  rcases o with ⟨vs, ds, e1, e2, r⟩ | ⟨kvs, ks, e1, e2, r⟩
  · exact ⟨_, e2, fun _ z => nomatch z⟩
  · exact ⟨_, e2, fun _ z => nomatch z⟩
/-- it is made to stand still -/
theorem Owned.still {a : Addr} {d : D} (o : Owned K G H a d) (n : G a = none) : ∃ u, H a = Option.some u ∧ Same G (upd G a u) ∧ Rep K (upd G a u) (.ref a) d := by
  have sm : ∀ u, Same G (upd G a u) := fun u b w e => by rw [upd_ne (ne_of_none e n)]; exact e
  rcases o with ⟨vs, ds, e1, e2, r⟩ | ⟨kvs, ks, e1, e2, r⟩
  · subst e1
    exact ⟨_, e2, sm _, .lst upd_same (r.mono (sm _))⟩
  · subst e1
    exact ⟨_, e2, sm _, .dctT upd_same (r.mono (sm _))⟩
theorem same_updG {a : Addr} {u : HO} (s : Same G H) (h : H a = some u) : Same (upd G a u) H := fun b w e => by
  by_cases q : b = a
  · subst q; rw [upd_same] at e; cases e; exact h
  · rw [upd_ne q] at e; exact s _ _ e

/-- a borrowed thing: still, or the program's own -/
def RepB (K : PySem.W.Frag) (G H : Hp) (v : V) (d : D) : Prop := Rep K G v d ∨ ∃ a, v = .ref a ∧ Owned K G H a d
theorem RepB.ext {G1 H1 : Hp} {v : V} {d : D} (r : RepB K G H v d) (e : Ext G H G1 H1) : RepB K G1 H1 v d := by
  rcases r with r | ⟨a, h1, o⟩
  · exact .inl (r.mono e.gg)
  · exact .inr ⟨a, h1, o.ext e.gg e.hh⟩
theorem RepB.all {v : V} {d : D} (r : RepB K G H v d) (s : Same G H) : Rep K H v d := by
  rcases r with r | ⟨a, rfl, ⟨vs, ds, rfl, e2, r⟩ | ⟨kvs, ks, rfl, e2, r⟩⟩
  · exact r.mono s
  · exact .lst e2 (r.mono s)
  · exact .dctT e2 (r.mono s)
inductive RepBs (K : PySem.W.Frag) (G H : Hp) : List V → List D → Prop
  | nil : RepBs K G H [] []
  | cons {v : V} {vs : List V} {d : D} {ds : List D} : RepB K G H v d → RepBs K G H vs ds → RepBs K G H (v :: vs) (d :: ds)
theorem RepBs.all {vs : List V} {ds : List D} (r : RepBs K G H vs ds) (s : Same G H) : Reps K H vs ds := by
  induction r with
  | nil => exact .nil
  | cons h _ ih => exact .cons (h.all s) ih
theorem RepBs.of {vs : List V} {ds : List D} (r : Reps K G vs ds) : RepBs K G H vs ds := by
  induction r using Reps.rec (motive_1 := fun _ _ _ => True) (motive_3 := fun _ _ _ => True) with
  | nil => exact .nil
  | cons h _ _ ih => exact .cons (.inl h) ih
  | _ => intros; trivial
/-- a list, borrowed: the object and its items -/
theorem RepB.lst {v : V} {ds : List D} (r : RepB K G H v (.lst ds)) (s : Same G H) : ∃ a vs, v = .ref a ∧ H a = some (.lst vs) ∧ Reps K G vs ds := by
  rcases r with r | ⟨a, rfl, ⟨vs, ds', e, e2, r⟩ | ⟨kvs, ks, e, e2, r⟩⟩
  · cases r with
    | lst h r => exact ⟨_, _, rfl, s _ _ h, r⟩
  · cases e
    exact ⟨_, _, rfl, e2, r⟩
  · cases e
theorem RepB.tup {v : V} {ds : List D} (r : RepB K G H v (.tup ds)) : ∃ a vs, v = .ref a ∧ G a = some (.tup vs) ∧ Reps K G vs ds := by
  rcases r with r | ⟨a, rfl, ⟨vs, ds', e, e2, r⟩ | ⟨kvs, ks, e, e2, r⟩⟩
  · cases r with
    | tup h r => exact ⟨_, _, rfl, h, r⟩
  · cases e
  · cases e
theorem RepB.lstC {v : V} {ds : List D} (r : RepB K G H v (.lstC ds)) : ∃ a vs, v = .ref a ∧ SqL K G a vs ∧ Reps K G vs ds := by
  rcases r with r | ⟨a, rfl, ⟨vs, ds', e, e2, r⟩ | ⟨kvs, ks, e, e2, r⟩⟩
  · cases r with
    | lstC h r => exact ⟨_, _, rfl, h, r⟩
  · cases e
  · cases e
theorem RepB.tupC {v : V} {ds : List D} (r : RepB K G H v (.tupC ds)) : ∃ a vs, v = .ref a ∧ SqT K G a vs ∧ Reps K G vs ds := by
  rcases r with r | ⟨a, rfl, ⟨vs, ds', e, e2, r⟩ | ⟨kvs, ks, e, e2, r⟩⟩
  · cases r with
    | tupC h r => exact ⟨_, _, rfl, h, r⟩
  · cases e
  · cases e
theorem RepB.dct {v : V} {ks : List (D × D)} (r : RepB K G H v (.dct ks)) (s : Same G H) : ∃ a kvs, v = .ref a ∧ H a = some (.dT kvs) ∧ RepKs K G kvs ks := by
  rcases r with r | ⟨a, rfl, ⟨vs, ds', e, e2, r⟩ | ⟨kvs, ks', e, e2, r⟩⟩
  · cases r with
    | dctT h r => exact ⟨_, _, rfl, s _ _ h, r⟩
  · cases e
  · cases e
    exact ⟨_, _, rfl, e2, r⟩
theorem RepB.int {v : V} {i : Int} (r : RepB K G H v (.int i)) : v = .int i := by
  rcases r with r | ⟨a, rfl, ⟨vs, ds', e, e2, r⟩ | ⟨kvs, ks, e, e2, r⟩⟩
  · cases r; rfl
  · cases e
  · cases e
theorem RepB.bl {v : V} {i : Bool} (r : RepB K G H v (.bl i)) : v = .bl i := by
  rcases r with r | ⟨a, rfl, ⟨vs, ds', e, e2, r⟩ | ⟨kvs, ks, e, e2, r⟩⟩
  · cases r; rfl
  · cases e
  · cases e
theorem RepB.str {v : V} {i : Str} (r : RepB K G H v (.str i)) : v = .str i := by
  rcases r with r | ⟨a, rfl, ⟨vs, ds', e, e2, r⟩ | ⟨kvs, ks, e, e2, r⟩⟩
  · cases r; rfl
  · cases e
  · cases e

/-! ### the ends that a reading asks -/
def KV (K : PySem.W.Frag) (G H : Hp) (d : D) (Q : VK) : Prop := ∀ v G' H', Ext G H G' H' → Rep K G' v d → Q v H'
def KB (K : PySem.W.Frag) (G H : Hp) (d : D) (Q : VK) : Prop := ∀ v G' H', Ext G H G' H' → RepB K G' H' v d → Q v H'
def KF (K : PySem.W.Frag) (G H : Hp) (d : D) (Q : VK) : Prop := ∀ a G' H', Ext G H G' H' → H a = none → G' a = none → Owned K G' H' a d → Q (.ref a) H'
theorem KV.ext {G1 H1 : Hp} {d : D} {Q : VK} (k : KV K G H d Q) (e : Ext G H G1 H1) : KV K G1 H1 d Q := fun v G' H' x r => k v G' H' (e.trans x) r
theorem KB.ext {G1 H1 : Hp} {d : D} {Q : VK} (k : KB K G H d Q) (e : Ext G H G1 H1) : KB K G1 H1 d Q := fun v G' H' x r => k v G' H' (e.trans x) r
theorem KF.ext {G1 H1 : Hp} {d : D} {Q : VK} (k : KF K G H d Q) (e : Ext G H G1 H1) : KF K G1 H1 d Q := fun a G' H' x n n' o => k a G' H' (e.trans x) (e.hh.free n) n' o
theorem KV.b {d : D} {Q : VK} (k : KB K G H d Q) : KV K G H d Q := fun v G' H' x r => k v G' H' x (.inl r)
theorem KV.here {d : D} {Q : VK} {v : V} (k : KV K G H d Q) (s : Same G H) (r : Rep K G v d) : Q v H := k v G H (.refl s) r
/-- what is new may stand still from here on -/
theorem KV.f {d : D} {Q : VK} (k : KV K G H d Q) : KF K G H d Q := fun a G' H' x n n' o => by
  obtain ⟨u, hu, s1, r⟩ := o.still n'
  refine k (.ref a) (upd G' a u) H' ⟨x.gg.trans s1, x.hh, same_updG x.gh hu, fun b w e z => ?_⟩ r
  by_cases q : b = a
  · subst q; exact .inl n
  · rw [upd_ne q] at e; exact x.nw b w e z
theorem KV.newT {ds : List D} {vs : List V} {Q : VK} (k : KV K G H (.tup ds) Q) (s : Same G H) (r : Reps K G vs ds) {p : Addr} (n : H p = none) : Q (.ref p) (upd H p (.tup vs)) :=
  k _ (upd G p (.tup vs)) _ (.new s n) (.tup upd_same (r.mono (Ext.new s n).gg))
theorem KF.newL {ds : List D} {vs : List V} {Q : VK} (k : KF K G H (.lst ds) Q) (s : Same G H) (r : Reps K G vs ds) {p : Addr} (n : H p = none) : Q (.ref p) (upd H p (.lst vs)) :=
  k p G _ (.newO s n) n (s.free n) (.inl ⟨vs, ds, rfl, upd_same, r⟩)

/-! ### the slots -/
def SlotOk (K : PySem.W.Frag) (G H : Hp) (σ : L2.St) (i : Nat) : Slot → Prop
  | .un => True
  | .val d => ∃ v, σ[i]? = some (some v) ∧ Rep K G v d
  | .own d => ∃ a, σ[i]? = some (some (.ref a)) ∧ G a = none ∧ Owned K G H a d
structure ER (K : PySem.W.Frag) (G H : Hp) (σ : L2.St) (ρ : En) : Prop where
  len : σ.length = ρ.length
  sub : Same G H
  slot : ∀ i s, ρ[i]? = some s → SlotOk K G H σ i s
  inj : ∀ (i j : Nat) (di dj : D) (a : Addr), ρ[i]? = some (.own di) → ρ[j]? = some (.own dj) → σ[i]? = some (some (.ref a)) → σ[j]? = some (some (.ref a)) → i = j
theorem Ext.ownFree {G1 H1 : Hp} {a : Addr} {d : D} (e : Ext G H G1 H1) (n : G a = none) (o : Owned K G H a d) : G1 a = none := by
  cases q : G1 a with
  | none => rfl
  | some u =>
    obtain ⟨w, hw, hn⟩ := o.some
    rcases e.nw a u q n with z | ⟨vs, z⟩
    · rw [hw] at z; cases z
    · rw [hw] at z; cases z; exact absurd rfl (hn vs)
theorem ER.ext {G1 H1 : Hp} {σ : L2.St} {ρ : En} (r : ER K G H σ ρ) (e : Ext G H G1 H1) : ER K G1 H1 σ ρ := by
  refine ⟨r.len, e.gh, fun i s h => ?_, r.inj⟩
  have q := r.slot i s h
  cases s with
  | un => trivial
  | val d => obtain ⟨v, h1, h2⟩ := q; exact ⟨v, h1, h2.mono e.gg⟩
  | own d => obtain ⟨a, h1, h2, h3⟩ := q; exact ⟨a, h1, e.ownFree h2 h3, h3.ext e.gg e.hh⟩
theorem ER.setVal {σ : L2.St} {ρ : En} {i : Nat} {v : V} {d : D} (r : ER K G H σ ρ) (h : Rep K G v d) : ER K G H (σ.set i (some v)) (ρ.set i (.val d)) := by
  refine ⟨by rw [List.length_set, List.length_set]; exact r.len, r.sub, fun j s e => ?_, fun j k dj dk a e1 e2 e3 e4 => ?_⟩
  · by_cases q : i = j
    · subst q
      have hl : i < ρ.length := by
        have := (List.getElem?_eq_some_iff.mp e).1
        rwa [List.length_set] at this
      rw [List.getElem?_set_self hl] at e
      cases e
      exact ⟨v, List.getElem?_set_self (by rw [r.len]; exact hl), h⟩
    · rw [List.getElem?_set_ne q] at e
      have z := r.slot j s e
      cases s with
      | un => trivial
      | val d => obtain ⟨v', h1, h2⟩ := z; exact ⟨v', by rw [List.getElem?_set_ne q]; exact h1, h2⟩
      | own d => obtain ⟨a, h1, h2⟩ := z; exact ⟨a, by rw [List.getElem?_set_ne q]; exact h1, h2⟩
  · have nq : ∀ m dm, (ρ.set i (.val d))[m]? = some (.own dm) → i ≠ m := fun m dm e z => by
      subst z
      have hl : i < ρ.length := by
        have := (List.getElem?_eq_some_iff.mp e).1
        rwa [List.length_set] at this
      rw [List.getElem?_set_self hl] at e
      cases e
    have n1 := nq _ _ e1
    have n2 := nq _ _ e2
    rw [List.getElem?_set_ne n1] at e1 e3
    rw [List.getElem?_set_ne n2] at e2 e4
    exact r.inj j k dj dk a e1 e2 e3 e4
/-- a slot forgotten -/
theorem ER.setUn {σ : L2.St} {ρ : En} {i : Nat} (r : ER K G H σ ρ) (w : Option V) : ER K G H (σ.set i w) (ρ.set i .un) := by
  refine ⟨by rw [List.length_set, List.length_set]; exact r.len, r.sub, fun j s e => ?_, fun j k dj dk a e1 e2 e3 e4 => ?_⟩
  · by_cases q : i = j
    · subst q
      have hl : i < ρ.length := by
        have := (List.getElem?_eq_some_iff.mp e).1
        rwa [List.length_set] at this
      rw [List.getElem?_set_self hl] at e
      cases e
      trivial
    · rw [List.getElem?_set_ne q] at e
      have z := r.slot j s e
      cases s with
      | un => trivial
      | val d => obtain ⟨v', h1, h2⟩ := z; exact ⟨v', by rw [List.getElem?_set_ne q]; exact h1, h2⟩
      | own d => obtain ⟨a, h1, h2⟩ := z; exact ⟨a, by rw [List.getElem?_set_ne q]; exact h1, h2⟩
  · have nq : ∀ m dm, (ρ.set i Slot.un)[m]? = some (.own dm) → i ≠ m := fun m dm e z => by
      subst z
      have hl : i < ρ.length := by
        have := (List.getElem?_eq_some_iff.mp e).1
        rwa [List.length_set] at this
      rw [List.getElem?_set_self hl] at e
      cases e
    have n1 := nq _ _ e1
    have n2 := nq _ _ e2
    rw [List.getElem?_set_ne n1] at e1 e3
    rw [List.getElem?_set_ne n2] at e2 e4
    exact r.inj j k dj dk a e1 e2 e3 e4
theorem ER.wipe {σ : L2.St} {ρ : En} (r : ER K G H σ ρ) : ∀ vs : List Nat, ER K G H (L2.wipe σ vs) (wipeE ρ vs)
  | [] => r
  | v :: vs => by unfold L2.wipe wipeE; exact (r.wipe vs).setUn none
/-- a new list of the program's own in a slot -/
theorem ER.setOwn {σ : L2.St} {ρ : En} {i : Nat} {a : Addr} {d : D} (r : ER K G H σ ρ) (n : G a = none) (o : Owned K G H a d) (h : ∀ j dj, j ≠ i → ρ[j]? = some (.own dj) → σ[j]? ≠ some (some (.ref a))) :
    ER K G H (σ.set i (some (.ref a))) (ρ.set i (.own d)) := by
  refine ⟨by rw [List.length_set, List.length_set]; exact r.len, r.sub, fun j s e => ?_, fun j k dj dk b e1 e2 e3 e4 => ?_⟩
  · by_cases q : i = j
    · subst q
      have hl : i < ρ.length := by
        have := (List.getElem?_eq_some_iff.mp e).1
        rwa [List.length_set] at this
      rw [List.getElem?_set_self hl] at e
      cases e
      exact ⟨a, List.getElem?_set_self (by rw [r.len]; exact hl), n, o⟩
    · rw [List.getElem?_set_ne q] at e
      have z := r.slot j s e
      cases s with
      | un => trivial
      | val d => obtain ⟨v', h1, h2⟩ := z; exact ⟨v', by rw [List.getElem?_set_ne q]; exact h1, h2⟩
      | own d => obtain ⟨a, h1, h2⟩ := z; exact ⟨a, by rw [List.getElem?_set_ne q]; exact h1, h2⟩
  · have key : ∀ m dm, m ≠ i → (ρ.set i (.own d))[m]? = some (.own dm) → (σ.set i (some (.ref a)))[m]? = some (some (.ref b)) → ρ[m]? = some (.own dm) ∧ σ[m]? = some (some (.ref b)) := fun m dm q e e' => by
      rw [List.getElem?_set_ne (Ne.symm q)] at e e'
      exact ⟨e, e'⟩
    have own_i : (σ.set i (some (.ref a)))[i]? = some (some (.ref b)) → b = a := fun e => by
      have hl : i < σ.length := by
        have := (List.getElem?_eq_some_iff.mp e).1
        rwa [List.length_set] at this
      rw [List.getElem?_set_self hl] at e
      cases e; rfl
    by_cases qj : j = i
    · by_cases qk : k = i
      · rw [qj, qk]
      · obtain ⟨h1, h2⟩ := key k dk qk e2 e4
        rw [qj] at e3
        rw [own_i e3] at h2
        exact absurd h2 (h k dk qk h1)
    · obtain ⟨h1, h2⟩ := key j dj qj e1 e3
      by_cases qk : k = i
      · rw [qk] at e4
        rw [own_i e4] at h2
        exact absurd h2 (h j dj qj h1)
      · obtain ⟨h3, h4⟩ := key k dk qk e2 e4
        exact r.inj j k dj dk b h1 h3 h2 h4
end
end Den

/-! DenC: each operation on data against the hand layer's rule. -/
namespace Den
open PySem PySem.Spec PyProof.Rows L2

def Good {α : Type} (r : Res α) (P : α → Prop) : Prop := match r with
  | .ok a => P a
  | _ => False
theorem Good.bind {α β : Type} {r : Res α} {f : α → Res β} {P : β → Prop} (h : Good (r.bind f) P) : Good r fun a => Good (f a) P := by
  cases r with
  | ok a => exact h
  | exc c fs => exact h
  | bad => exact h
theorem Good.mono {α : Type} {r : Res α} {P P' : α → Prop} (h : Good r P) (f : ∀ a, P a → P' a) : Good r P' := by
  cases r with
  | ok a => exact f _ h
  | exc c fs => exact h
  | bad => exact h
theorem Good.eq {α : Type} {r : Res α} {P : α → Prop} (h : Good r P) : ∃ a, r = .ok a ∧ P a := by
  cases r with
  | ok a => exact ⟨a, rfl, h⟩
  | exc c fs => exact h.elim
  | bad => exact h.elim
theorem Good.ite {α : Type} {c : Prop} [Decidable c] {a : α} {P : α → Prop} (h : Good (if c then .ok a else .bad) P) : c ∧ P a := by
  by_cases q : c
  · rw [if_pos q] at h; exact ⟨q, h⟩
  · rw [if_neg q] at h; exact h.elim

section
variable {K : PySem.W.Frag} {G H : Hp} {x y : V} {a b : D} {Q : VK}
abbrev GV (K : PySem.W.Frag) (G H : Hp) (Q : VK) (r : Res D) : Prop := Good r fun d => KV K G H d Q

/-! ### + -/
def rAddD (K : PySem.W.Frag) : R2 := fun x y H Q => (rI0 fun i j => .int (i + j)) x y H Q ∨ (∃ i j, x = .str i ∧ y = .str j ∧ i.length + j.length ≤ sizeLine ∧ Q (.str (i ++ j)) H) ∨ rCatA K x y H Q ∨ rCat x y H Q
theorem op_addD {X : Cx} : OpR X (binaryOp .Add) (rAddD X.K) := op_add.or (op_add_str.or (op_catA.or op_cat))
theorem s_add (s : Same G H) (hx : RepB K G H x a) (hy : RepB K G H y b) (h : GV K G H Q (sAdd a b)) : rAddD K x y H Q := by
  unfold sAdd at h
  split at h
  · cases hx.int; cases hy.int
    exact .inl ⟨_, _, rfl, rfl, KV.here h s (.int _)⟩
  · cases hx.str; cases hy.str
    obtain ⟨z, k⟩ := Good.ite h
    exact .inr (.inl ⟨_, _, rfl, rfl, z, KV.here k s (.str _)⟩)
  · obtain ⟨p, vs, rfl, e1, r1⟩ := hx.tup
    obtain ⟨q, ws, rfl, e2, r2⟩ := hy.tup
    obtain ⟨z, k⟩ := Good.ite h
    refine .inr (.inr (.inl ⟨p, q, vs, ws, rfl, rfl, .of (s _ _ e1), .of (s _ _ e2), by rw [r1.length, r2.length]; exact z, fun e => ?_, fun _ e => ?_, fun _ _ c n => k.newT s (r1.append r2) n⟩))
    · subst e
      cases r1
      exact KV.here k s (.tup e2 r2)
    · subst e
      cases r2
      rw [List.append_nil] at k
      exact KV.here k s (.tup e1 r1)
  · obtain ⟨p, vs, rfl, e1, r1⟩ := hx.lst s
    obtain ⟨q, ws, rfl, e2, r2⟩ := hy.lst s
    obtain ⟨z, k⟩ := Good.ite h
    exact .inr (.inr (.inr ⟨p, q, vs, ws, rfl, rfl, e1, e2, by rw [r1.length, r2.length]; exact z, fun c n => k.f.newL s (r1.append r2) n⟩))
  · exact h.elim
/-! ### ints -/
theorem s_int {f : Int → Int → Res D} {r : R2} (hx : RepB K G H x a) (hy : RepB K G H y b) (h : GV K G H Q (sInt f a b)) (hr : ∀ i j, GV K G H Q (f i j) → r (.int i) (.int j) H Q) : r x y H Q := by
  unfold sInt at h
  split at h
  · cases hx.int; cases hy.int
    exact hr _ _ h
  · exact h.elim
theorem s_sub (s : Same G H) (hx : RepB K G H x a) (hy : RepB K G H y b) (h : GV K G H Q (O.sem .sub [a, b])) : (rI0 fun i j => .int (i - j)) x y H Q :=
  s_int hx hy h fun i j k => ⟨i, j, rfl, rfl, KV.here k s (.int _)⟩
theorem cmul_of {i j : Int} (h : (intOk i || intOk j) = true) : CMul i j := by
  unfold intOk at h
  simp only [Bool.or_eq_true, decide_eq_true_eq] at h
  have e : (2 : Int) ^ 64 = 18446744073709551616 := by decide
  unfold CMul
  rw [e]
  omega
theorem cpow_of {i j : Int} (h : pOk i j = true) : CPow i j := by
  unfold pOk at h
  simp only [Bool.and_eq_true, decide_eq_true_eq] at h
  have e : (2 : Nat) ^ 64 = 18446744073709551616 := by decide
  exact ⟨h.1.1, by omega, by rw [e]; exact h.2⟩
def rMulD : R2 := fun x y H Q => (rI CMul fun i j => .int (i * j)) x y H Q ∨ rRep x y H Q
theorem op_mulD {X : Cx} : OpR X (binaryOp .Mult) rMulD := op_mul.or op_rep
theorem rep_flat {vs : List V} {ds : List D} (r : Reps K G vs ds) : ∀ n : Nat, Reps K G (List.replicate n vs).flatten (List.replicate n ds).flatten
  | 0 => .nil
  | n + 1 => by
    rw [List.replicate_succ, List.replicate_succ, List.flatten_cons, List.flatten_cons]
    exact r.append (rep_flat r n)
theorem s_mul (s : Same G H) (hx : RepB K G H x a) (hy : RepB K G H y b) (h : GV K G H Q (O.sem .mul [a, b])) : rMulD x y H Q := by
  have h : GV K G H Q (sRep a b) := h
  unfold sRep at h
  split at h
  · obtain ⟨p, vs, rfl, e1, r1⟩ := hx.lst s
    cases hy.int
    obtain ⟨⟨z1, z3⟩, k⟩ := Good.ite h
    have e : (2 : Int) ^ 63 = 9223372036854775808 := by decide
    exact .inr ⟨p, _, vs, rfl, rfl, e1, by rw [e]; omega, by rw [e]; omega, by rw [r1.length]; exact z3, fun c n => k.f.newL s (rep_flat r1 _) n⟩
  · refine .inl (s_int hx hy h fun i j k => ?_)
    obtain ⟨z, k⟩ := Good.ite k
    exact ⟨i, j, rfl, rfl, cmul_of z, KV.here k s (.int _)⟩
theorem s_fdiv (s : Same G H) (hx : RepB K G H x a) (hy : RepB K G H y b) (h : GV K G H Q (O.sem .fdiv [a, b])) : (rI CDiv fun i j => .int (i / j)) x y H Q :=
  s_int hx hy h fun i j k => by
    obtain ⟨z, k⟩ := Good.ite k
    exact ⟨i, j, rfl, rfl, ⟨z.1, by omega⟩, KV.here k s (.int _)⟩
theorem s_mod (s : Same G H) (hx : RepB K G H x a) (hy : RepB K G H y b) (h : GV K G H Q (O.sem .mod [a, b])) : (rI (fun _ j => 0 < j) fun i j => .int (i % j)) x y H Q :=
  s_int hx hy h fun i j k => by
    obtain ⟨z, k⟩ := Good.ite k
    exact ⟨i, j, rfl, rfl, z, KV.here k s (.int _)⟩
theorem s_pow (s : Same G H) (hx : RepB K G H x a) (hy : RepB K G H y b) (h : GV K G H Q (O.sem .pow [a, b])) : (rI CPow fun i j => .int (i ^ j.toNat)) x y H Q :=
  s_int hx hy h fun i j k => by
    obtain ⟨z, k⟩ := Good.ite k
    exact ⟨i, j, rfl, rfl, cpow_of z, KV.here k s (.int _)⟩
theorem s_shl (s : Same G H) (hx : RepB K G H x a) (hy : RepB K G H y b) (h : GV K G H Q (O.sem .shl [a, b])) : (rI CPow fun i j => .int (i * 2 ^ j.toNat)) x y H Q :=
  s_int hx hy h fun i j k => by
    obtain ⟨z, k⟩ := Good.ite k
    exact ⟨i, j, rfl, rfl, cpow_of z, KV.here k s (.int _)⟩
theorem s_shr (s : Same G H) (hx : RepB K G H x a) (hy : RepB K G H y b) (h : GV K G H Q (O.sem .shr [a, b])) : (rI (fun _ j => 0 ≤ j) fun i j => .int (i / 2 ^ j.toNat)) x y H Q :=
  s_int hx hy h fun i j k => by
    obtain ⟨z, k⟩ := Good.ite k
    exact ⟨i, j, rfl, rfl, z, KV.here k s (.int _)⟩
theorem s_band (s : Same G H) (hx : RepB K G H x a) (hy : RepB K G H y b) (h : GV K G H Q (O.sem .band [a, b])) : (rI0 fun i j => .int (Builtin.bitAnd i j)) x y H Q :=
  s_int hx hy h fun i j k => ⟨i, j, rfl, rfl, KV.here k s (.int _)⟩
theorem s_lt (s : Same G H) (hx : RepB K G H x a) (hy : RepB K G H y b) (h : GV K G H Q (O.sem .lt [a, b])) : (rI0 fun i j => .bl (decide (i < j))) x y H Q :=
  s_int hx hy h fun i j k => ⟨i, j, rfl, rfl, KV.here k s (.bl _)⟩
theorem s_le (s : Same G H) (hx : RepB K G H x a) (hy : RepB K G H y b) (h : GV K G H Q (O.sem .le [a, b])) : (rI0 fun i j => .bl (decide (i ≤ j))) x y H Q :=
  s_int hx hy h fun i j k => ⟨i, j, rfl, rfl, KV.here k s (.bl _)⟩
theorem s_gt (s : Same G H) (hx : RepB K G H x a) (hy : RepB K G H y b) (h : GV K G H Q (O.sem .gt [a, b])) : (rI0 fun i j => .bl (decide (j < i))) x y H Q :=
  s_int hx hy h fun i j k => ⟨i, j, rfl, rfl, KV.here k s (.bl _)⟩
theorem s_ge (s : Same G H) (hx : RepB K G H x a) (hy : RepB K G H y b) (h : GV K G H Q (O.sem .ge [a, b])) : (rI0 fun i j => .bl (decide (j ≤ i))) x y H Q :=
  s_int hx hy h fun i j k => ⟨i, j, rfl, rfl, KV.here k s (.bl _)⟩
/-! ### ==, in, is -/
def rEqE (K : PySem.W.Frag) (neg : Bool) : R2 := fun x y H Q => ∃ d e, Dp K H x d ∧ Dp K H y e ∧ SeqAt.shaped d = true ∧ SeqAt.shaped e = true ∧ Q (.bl (if neg then !PyData.eqv d e else PyData.eqv d e)) H
theorem s_eq {neg : Bool} (s : Same G H) (hx : RepB K G H x a) (hy : RepB K G H y b) (h : GV K G H Q (sEq neg a b)) : rEqE K neg x y H Q := by
  obtain ⟨z, k⟩ := Good.ite h
  obtain ⟨z1, z2⟩ := Bool.and_eq_true_iff.mp z
  exact ⟨toPy a, toPy b, (hx.all s).dpP z1, (hy.all s).dpP z2, z1, z2, KV.here k s (.bl _)⟩
theorem any_py (a : D) : ∀ xs : List D, ((toPys xs).any fun z => PyData.eqv z (toPy a)) = xs.any fun z => eqD z a
  | [] => rfl
  | x :: xs => by
    simp only [toPys, List.any_cons, any_py a xs]
    rfl
theorem key_kV : ∀ {vs : List V} {ds : List D} {k : List L2.Key}, Reps K G vs ds → kMany ds = some k → vs = k.map kV
  | _, _, _, .nil, e => by cases e; rfl
  | _, _, k, .cons (d := d) h r, e => by
    unfold kMany at e
    cases q1 : kOne d with
    | none => rw [q1] at e; cases e
    | some k1 =>
      rw [q1] at e
      cases q2 : kMany _ with
      | none => rw [q2] at e; cases e
      | some ks =>
        rw [q2] at e
        cases e
        rw [List.map_cons, key_kV r q2]
        cases d with
        | int i => cases q1; cases h; rfl
        | str i => cases q1; cases h; rfl
        | _ => cases q1
theorem key_at {v : V} {k : List L2.Key} (hx : RepB K G H v a) (h : keyT a = some k) : ∃ b, v = .ref b ∧ G b = some (.tup (k.map kV)) := by
  cases a with
  | tup xs =>
    obtain ⟨p, vs, rfl, e1, r1⟩ := hx.tup
    rw [key_kV r1 h] at e1
    exact ⟨p, rfl, e1⟩
  | _ => cases h
theorem keys_val : ∀ {kvs : List (List L2.Key × V)} {ks : List (D × D)} (k : List L2.Key), RepKs K G kvs ks → (valV kvs k).isSome = ks.any fun p => decide (keyT p.1 = some k)
  | _, _, _, .nil => rfl
  | _, _, k, .cons (k := k') e h r => by
    have ih := keys_val k r
    rw [List.any_cons, ← ih]
    by_cases q : k' = k
    · rw [valV_pos q, e, q]
      simp
    · rw [valV_neg q, e]
      simp [q]
def rInDD (K : PySem.W.Frag) (neg : Bool) : R2 := fun x y H Q => (∃ d ds, Dp K H x d ∧ Dp K H y (.list ds) ∧ SeqAt.shaped d = true ∧ SeqAt.shaped (.list ds) = true ∧ Q (.bl (if neg then !(ds.any fun z => PyData.eqv z d) else ds.any fun z => PyData.eqv z d)) H) ∨
  ∃ a o, y = .ref a ∧ DGet H a x o ∧ Q (.bl (if neg then !o.isSome else o.isSome)) H
theorem s_in {neg : Bool} (s : Same G H) (hx : RepB K G H x a) (hy : RepB K G H y b) (h : GV K G H Q (sIn neg a b)) : rInDD K neg x y H Q := by
  unfold sIn at h
  split at h
  · obtain ⟨z, k⟩ := Good.ite h
    obtain ⟨z1, z2⟩ := Bool.and_eq_true_iff.mp z
    refine .inl ⟨toPy a, toPys _, (hx.all s).dpP z1, ?_, z1, z2, ?_⟩
    · have := (hy.all s).dpP z2
      simpa only [toPy] using this
    · rw [any_py]
      exact KV.here k s (.bl _)
  · rename_i kvs
    cases q : keyT a with
    | none => rw [q] at h; exact h.elim
    | some k =>
      rw [q] at h
      obtain ⟨p, rfl, e1⟩ := key_at hx q
      obtain ⟨c, ws, rfl, e2, r2⟩ := hy.dct s
      refine .inr ⟨c, _, rfl, .t e2 (s _ _ e1), ?_⟩
      rw [keys_val k r2]
      exact KV.here h s (.bl _)
  · exact h.elim
theorem isNon_iff {v : V} {d : D} (r : Rep K G v d) : decide (v = .non) = isNonD d := by
  cases r <;> simp [isNonD]
theorem s_isNon (s : Same G H) (hx : RepB K G H x a) (h : GV K G H Q (.ok (.bl (isNonD a)))) : Q (.bl (decide (x = .non))) H := by
  rw [isNon_iff (hx.all s)]
  exact KV.here h s (.bl _)
theorem s_notNon (s : Same G H) (hx : RepB K G H x a) (h : GV K G H Q (.ok (.bl (!isNonD a)))) : Q (.bl (!decide (x = .non))) H := by
  rw [isNon_iff (hx.all s)]
  exact KV.here h s (.bl _)
def rIsBD (neg : Bool) : R2 := fun x y H Q => ∃ a b, x = .bl a ∧ y = .bl b ∧ Q (.bl (if neg then !decide (a = b) else decide (a = b))) H
theorem s_isBl {neg : Bool} (s : Same G H) (hx : RepB K G H x a) (hy : RepB K G H y b) (h : GV K G H Q (sIsBl neg a b)) : rIsBD neg x y H Q := by
  unfold sIsBl at h
  split at h
  · cases hx.bl; cases hy.bl
    exact ⟨_, _, rfl, rfl, KV.here h s (.bl _)⟩
  · exact h.elim
/-! ### items, slices -/
theorem s_idx (s : Same G H) (hx : RepB K G H x a) (hy : RepB K G H y b) (h : GV K G H Q (sIdx a b)) : rIx K x y H Q := by
  have get : ∀ {ds : List D} {vs : List V} {i : Int}, Reps K G vs ds → GV K G H Q (oR (atD ds i)) → ∃ v, L2.atI vs i = some v ∧ Q v H := fun {ds vs i} r h => by
    cases q : atD ds i with
    | none => rw [q] at h; exact h.elim
    | some d =>
      rw [q] at h
      obtain ⟨v, e, rv⟩ := r.atI q
      exact ⟨v, e, KV.here h s rv⟩
  unfold sIdx at h
  split at h
  · obtain ⟨p, vs, rfl, e1, r1⟩ := hx.lst s
    cases hy.int
    obtain ⟨v, e, q⟩ := get r1 h
    exact .inl ⟨p, vs, _, v, rfl, rfl, .of e1, e, q⟩
  · obtain ⟨p, vs, rfl, e1, r1⟩ := hx.tup
    cases hy.int
    obtain ⟨v, e, q⟩ := get r1 h
    exact .inr (.inl ⟨p, vs, _, v, rfl, rfl, .of (s _ _ e1), e, q⟩)
  · obtain ⟨p, vs, rfl, e1, r1⟩ := hx.lstC
    cases hy.int
    obtain ⟨v, e, q⟩ := get r1 h
    exact .inl ⟨p, vs, _, v, rfl, rfl, s.seq e1, e, q⟩
  · obtain ⟨p, vs, rfl, e1, r1⟩ := hx.tupC
    cases hy.int
    obtain ⟨v, e, q⟩ := get r1 h
    exact .inr (.inl ⟨p, vs, _, v, rfl, rfl, same_sqt s e1, e, q⟩)
  · rename_i z i
    cases hx.str; cases hy.int
    by_cases hz : z.length ≤ sizeLine
    · rw [if_pos hz] at h
      cases q : atD z.cps.toList i with
      | none => rw [q] at h; exact h.elim
      | some c =>
        rw [q] at h
        exact .inr (.inr ⟨z, i, c, rfl, rfl, hz, q, KV.here h s (.str _)⟩)
    · rw [if_neg hz] at h; exact h.elim
  · exact h.elim
def rSlD (K : PySem.W.Frag) : V → Option Int → Option Int → Hp → VK → Prop := fun x lo hi H Q => rSlL K x lo hi H Q ∨ rSlA K x lo hi H Q
theorem sl_D {X : Cx} : SlR X (rSlD X.K) := sl_list.or sl_tupA
theorem cut_whole {ds : List D} {lo hi : Option Int} (h1 : HT.sIx ds.length 0 lo = 0) (h2 : HT.sIx ds.length ds.length hi = ds.length) : cutD ds lo hi = ds := by
  unfold cutD
  rw [h1, h2]
  simp
theorem s_cut {lo hi : Option Int} (s : Same G H) (hx : RepB K G H x a) (h : GV K G H Q (sCut lo hi a)) : rSlD K x lo hi H Q := by
  unfold sCut at h
  split at h
  · obtain ⟨p, vs, rfl, e1, r1⟩ := hx.lst s
    exact .inl ⟨p, vs, rfl, .of e1, fun c n => (KV.f h).newL s (r1.cut lo hi) n⟩
  · obtain ⟨p, vs, rfl, e1, r1⟩ := hx.tup
    refine .inr ⟨p, vs, rfl, .of (s _ _ e1), fun z => ?_, fun _ c n => KV.newT h s (r1.cut lo hi) n⟩
    have e := cut_whole (ds := _) (lo := lo) (hi := hi) (by rw [← r1.length]; exact z.1) (by rw [← r1.length]; exact z.2)
    rw [e] at h
    exact KV.here h s (.tup e1 r1)
  · exact h.elim
/-! ### calls of built-ins -/
theorem s_len (s : Same G H) (hx : RepB K G H x a) (h : GV K G H Q (sLen a)) : ∃ y n, [x] = [y] ∧ LenV K y H n ∧ Q (.int n) H := by
  unfold sLen at h
  split at h
  · obtain ⟨p, vs, rfl, e1, r1⟩ := hx.lst s
    exact ⟨_, _, rfl, .inl ⟨vs, .of e1, r1.length.symm⟩, KV.here h s (.int _)⟩
  · obtain ⟨p, vs, rfl, e1, r1⟩ := hx.tup
    exact ⟨_, _, rfl, .inr ⟨vs, .of (s _ _ e1), r1.length.symm⟩, KV.here h s (.int _)⟩
  · obtain ⟨p, vs, rfl, e1, r1⟩ := hx.lstC
    exact ⟨_, _, rfl, .inl ⟨vs, s.seq e1, r1.length.symm⟩, KV.here h s (.int _)⟩
  · obtain ⟨p, vs, rfl, e1, r1⟩ := hx.tupC
    exact ⟨_, _, rfl, .inr ⟨vs, same_sqt s e1, r1.length.symm⟩, KV.here h s (.int _)⟩
  · cases hx.str
    obtain ⟨z, k⟩ := Good.ite h
    exact ⟨_, _, rfl, ⟨z, rfl⟩, KV.here k s (.int _)⟩
  · exact h.elim
theorem s_abs (s : Same G H) (hx : RepB K G H x a) (h : GV K G H Q (sAbs a)) : ∃ i, [x] = [V.int i] ∧ Q (.int (if i < 0 then -i else i)) H := by
  unfold sAbs at h
  split at h
  · cases hx.int
    exact ⟨_, rfl, KV.here h s (.int _)⟩
  · exact h.elim
theorem s_neg (s : Same G H) (hx : RepB K G H x a) (h : GV K G H Q (sNeg a)) : rU (fun i => .int (-i)) x H Q := by
  unfold sNeg at h
  split at h
  · cases hx.int
    exact ⟨_, rfl, KV.here h s (.int _)⟩
  · exact h.elim
theorem s_toInt (s : Same G H) (hx : RepB K G H x a) (h : GV K G H Q (sToInt a)) : (∃ i, [x] = [V.int i] ∧ Q (.int i) H) ∨ ∃ k, [x] = [V.bl k] ∧ Q (.int (if k then 1 else 0)) H := by
  unfold sToInt at h
  split at h
  · cases hx.int
    exact .inl ⟨_, rfl, KV.here h s (.int _)⟩
  · cases hx.bl
    exact .inr ⟨_, rfl, KV.here h s (.int _)⟩
  · exact h.elim
theorem s_toTup (s : Same G H) (hx : RepB K G H x a) (h : GV K G H Q (sToTup a)) : ∃ p ys, [x] = [V.ref p] ∧ ((SqL K H p ys ∧ ∀ l, H l = none → Q (.ref l) (upd H l (.tup ys))) ∨ (SqT K H p ys ∧ Q (.ref p) H)) := by
  unfold sToTup at h
  split at h
  · obtain ⟨p, vs, rfl, e1, r1⟩ := hx.lst s
    exact ⟨p, vs, rfl, .inl ⟨.of e1, fun l n => KV.newT h s r1 n⟩⟩
  · obtain ⟨p, vs, rfl, e1, r1⟩ := hx.tup
    exact ⟨p, vs, rfl, .inr ⟨.of (s _ _ e1), KV.here h s (.tup e1 r1)⟩⟩
  · exact h.elim
theorem s_toLst (s : Same G H) (hx : RepB K G H x a) (h : Good (sToLst a) fun d => KF K G H d Q) : ∃ p ys, [x] = [V.ref p] ∧ (SqL K H p ys ∨ SqT K H p ys) ∧ ∀ l, H l = none → Q (.ref l) (upd H l (.lst ys)) := by
  unfold sToLst at h
  split at h
  · obtain ⟨p, vs, rfl, e1, r1⟩ := hx.lst s
    exact ⟨p, vs, rfl, .inl (.of e1), fun l n => KF.newL h s r1 n⟩
  · obtain ⟨p, vs, rfl, e1, r1⟩ := hx.tup
    exact ⟨p, vs, rfl, .inr (.of (s _ _ e1)), fun l n => KF.newL h s r1 n⟩
  · obtain ⟨p, vs, rfl, e1, r1⟩ := hx.lstC
    exact ⟨p, vs, rfl, .inl (s.seq e1), fun l n => KF.newL h s r1 n⟩
  · obtain ⟨p, vs, rfl, e1, r1⟩ := hx.tupC
    exact ⟨p, vs, rfl, .inr (same_sqt s e1), fun l n => KF.newL h s r1 n⟩
  · exact h.elim
theorem s_overI {f : List Int → Res D} (s : Same G H) (hx : RepB K G H x a) (h : GV K G H Q (sOverI f a)) : ∃ (p : Addr) (ns : List Int), x = .ref p ∧ SqL K H p (ns.map V.int) ∧ GV K G H Q (f ns) := by
  unfold sOverI at h
  split at h
  · obtain ⟨p, vs, rfl, e1, r1⟩ := hx.lst s
    split at h
    · rename_i ns q
      obtain ⟨z, _⟩ := r1.ints q
      rw [z] at e1
      exact ⟨p, ns, rfl, .of e1, h⟩
    · exact h.elim
  · exact h.elim
theorem s_overB {f : List Bool → Bool} (s : Same G H) (hx : RepB K G H x a) (h : GV K G H Q (sOverB f a)) : ∃ (p : Addr) (ns : List Bool), [x] = [V.ref p] ∧ SqL K H p (ns.map V.bl) ∧ Q (.bl (f ns)) H := by
  unfold sOverB at h
  split at h
  · obtain ⟨p, vs, rfl, e1, r1⟩ := hx.lst s
    split at h
    · rename_i ns q
      obtain ⟨z, _⟩ := r1.bls q
      rw [z] at e1
      exact ⟨p, ns, rfl, .of e1, KV.here h s (.bl _)⟩
    · exact h.elim
  · exact h.elim
theorem s_sum (s : Same G H) (hx : RepB K G H x a) (h : GV K G H Q (O.sem .sum [a])) : rSum K [x] H Q := by
  obtain ⟨p, ns, rfl, e, k⟩ := s_overI s hx h
  exact ⟨p, ns, rfl, e, KV.here k s (.int _)⟩
theorem maxI_spec : ∀ (ns : List Int) (n : Int), maxI n ns ∈ n :: ns ∧ ∀ y ∈ n :: ns, y ≤ maxI n ns
  | [], n => ⟨List.mem_singleton.mpr rfl, fun y h => by rw [List.mem_singleton.mp h]; exact Int.le_refl _⟩
  | m :: ms, n => by
    obtain ⟨h1, h2⟩ := maxI_spec ms (if n < m then m else n)
    have e : maxI n (m :: ms) = maxI (if n < m then m else n) ms := rfl
    rw [e]
    refine ⟨?_, fun y hy => ?_⟩
    · rcases List.mem_cons.mp h1 with z | z
      · rw [z]
        split
        · exact List.mem_cons_of_mem _ (List.mem_cons_self ..)
        · exact List.mem_cons_self ..
      · exact List.mem_cons_of_mem _ (List.mem_cons_of_mem _ z)
    · have h3 := h2 _ (List.mem_cons_self ..)
      rcases List.mem_cons.mp hy with z | z
      · rw [z]; refine Int.le_trans ?_ h3; split <;> omega
      · rcases List.mem_cons.mp z with z | z
        · rw [z]; refine Int.le_trans ?_ h3; split <;> omega
        · exact h2 _ (List.mem_cons_of_mem _ z)
theorem minI_spec : ∀ (ns : List Int) (n : Int), minI n ns ∈ n :: ns ∧ ∀ y ∈ n :: ns, minI n ns ≤ y
  | [], n => ⟨List.mem_singleton.mpr rfl, fun y h => by rw [List.mem_singleton.mp h]; exact Int.le_refl _⟩
  | m :: ms, n => by
    obtain ⟨h1, h2⟩ := minI_spec ms (if m < n then m else n)
    have e : minI n (m :: ms) = minI (if m < n then m else n) ms := rfl
    rw [e]
    refine ⟨?_, fun y hy => ?_⟩
    · rcases List.mem_cons.mp h1 with z | z
      · rw [z]
        split
        · exact List.mem_cons_of_mem _ (List.mem_cons_self ..)
        · exact List.mem_cons_self ..
      · exact List.mem_cons_of_mem _ (List.mem_cons_of_mem _ z)
    · have h3 := h2 _ (List.mem_cons_self ..)
      rcases List.mem_cons.mp hy with z | z
      · rw [z]; refine Int.le_trans h3 ?_; split <;> omega
      · rcases List.mem_cons.mp z with z | z
        · rw [z]; refine Int.le_trans h3 ?_; split <;> omega
        · exact h2 _ (List.mem_cons_of_mem _ z)
theorem s_max (s : Same G H) (hx : RepB K G H x a) (h : GV K G H Q (O.sem .max1 [a])) : rMax K [x] H Q := by
  obtain ⟨p, ns, rfl, e, k⟩ := s_overI s hx h
  cases ns with
  | nil => exact k.elim
  | cons n ns =>
    refine ⟨p, _, rfl, e, Nat.succ_pos _, fun m h1 h2 => ?_⟩
    obtain ⟨g1, g2⟩ := maxI_spec ns n
    rw [Int.le_antisymm (g2 m h1) (h2 _ g1)]
    exact KV.here k s (.int _)
theorem s_min (s : Same G H) (hx : RepB K G H x a) (h : GV K G H Q (O.sem .min1 [a])) : rMin K [x] H Q := by
  obtain ⟨p, ns, rfl, e, k⟩ := s_overI s hx h
  cases ns with
  | nil => exact k.elim
  | cons n ns =>
    refine ⟨p, _, rfl, e, Nat.succ_pos _, fun m h1 h2 => ?_⟩
    obtain ⟨g1, g2⟩ := minI_spec ns n
    rw [Int.le_antisymm (h2 _ g1) (g2 m h1)]
    exact KV.here k s (.int _)
theorem s_max2 (s : Same G H) (hx : RepB K G H x a) (hy : RepB K G H y b) (h : GV K G H Q (O.sem .max2 [a, b])) : ∃ i j, [x, y] = [V.int i, V.int j] ∧ Q (.int (if j > i then j else i)) H :=
  s_int (r := fun x y H Q => ∃ i j, [x, y] = [V.int i, V.int j] ∧ Q (.int (if j > i then j else i)) H) hx hy h fun i j k => ⟨i, j, rfl, KV.here k s (.int _)⟩
theorem s_min2 (s : Same G H) (hx : RepB K G H x a) (hy : RepB K G H y b) (h : GV K G H Q (O.sem .min2 [a, b])) : ∃ i j, [x, y] = [V.int i, V.int j] ∧ Q (.int (if j < i then j else i)) H :=
  s_int (r := fun x y H Q => ∃ i j, [x, y] = [V.int i, V.int j] ∧ Q (.int (if j < i then j else i)) H) hx hy h fun i j k => ⟨i, j, rfl, KV.here k s (.int _)⟩
end
end Den

/-! DenD: expressions against their texts: the look, and what it shows. -/
namespace Den
open PySem PySem.Spec PyProof.Rows L2

/-! ### more built-ins -/
section
variable {X : Cx} {K : PySem.W.Frag} {G H : Hp} {x y : V} {a b : D} {Q : VK}
theorem call_reprD (gd : X.A.guards = some []) (hu : X.A.units + 66 < cLine) : CallR X (.builtin "repr") (fun xs H Q => ∃ x d, xs = [x] ∧ Dp X.K H x d ∧ d.depth ≤ 64 ∧ d.showable = true ∧ d.hasDict = false ∧ d.shown.length ≤ sizeLine ∧ Q (.str d.shown) H) := by
  intro pins s σ H xs us Q I r h
  obtain ⟨x, d, rfl, hd, dp, sh, nd, hz, q⟩ := h
  obtain ⟨u, rfl, rx⟩ := vals1 r
  obtain ⟨as, rds⟩ := Dp.reads I d x u hd rx
  cases hd with
  | non => cases rx; rw [PyData.shown_none] at q; exact PySem.P.repr_of_none ⟨.str _, H, I.tok _, ⟨_, rfl⟩, q⟩
  | bl b =>
    cases rx
    rw [PyData.shown_bool] at q
    refine PySem.P.repr_of_bool ⟨.str _, H, I.tok _, ⟨_, rfl⟩, ?_⟩
    cases b <;> exact q
  | int i => obtain ⟨t, rfl⟩ := rx; rw [PyData.shown_int] at q; exact PySem.P.repr_of_int (by simpa [PyData.showable] using sh) ⟨.str _, H, I.tok _, ⟨_, rfl⟩, q⟩
  | str z =>
    obtain ⟨t, rfl⟩ := rx
    rw [PyData.shown_str] at q hz
    exact PySem.P.repr_of_str ⟨.str _, H, I.tok _, ⟨_, rfl⟩, q⟩ hz
  | lst _ _ =>
    cases rx
    refine PySem.repr_of_reads' rds sh (fun z => by rw [nd] at z; cases z) gd (by omega) (fun _ _ e => e) (fun h' u tk hk => ?_) hz
    exact ⟨.str _, H, I.kept (t' := tk) hk, ⟨_, rfl⟩, q⟩
  | tup _ _ =>
    cases rx
    refine PySem.repr_of_reads' rds sh (fun z => by rw [nd] at z; cases z) gd (by omega) (fun _ _ e => e) (fun h' u tk hk => ?_) hz
    exact ⟨.str _, H, I.kept (t' := tk) hk, ⟨_, rfl⟩, q⟩
mutual
theorem noDict : ∀ d : PyData, d.canLay0 = true → d.hasDict = false
  | .none, _ => by simp [PyData.hasDict]
  | .bool _, _ => by simp [PyData.hasDict]
  | .int _, _ => by simp [PyData.hasDict]
  | .str _, _ => by simp [PyData.hasDict]
  | .list xs, h => by simp only [PyData.hasDict]; exact noDicts xs (by simpa [PyData.canLay0] using h)
  | .tuple xs, h => by simp only [PyData.hasDict]; exact noDicts xs (by simpa [PyData.canLay0] using h)
  | .dict _, h => by simp [PyData.canLay0] at h
theorem noDicts : ∀ ds : List PyData, PyData.canLayAll0 ds = true → PyData.hasDictAll ds = false
  | [], _ => by simp [PyData.hasDictAll]
  | d :: ds, h => by
    simp only [PyData.canLayAll0, Bool.and_eq_true] at h
    simp only [PyData.hasDictAll, noDict d h.1, noDicts ds h.2, Bool.or_self]
end
theorem s_repr (s : Same G H) (hx : RepB K G H x a) (h : GV K G H Q (sRepr a)) : ∃ y d, [x] = [y] ∧ Dp K H y d ∧ d.depth ≤ 64 ∧ d.showable = true ∧ d.hasDict = false ∧ d.shown.length ≤ sizeLine ∧ Q (.str d.shown) H := by
  obtain ⟨z, k⟩ := Good.ite h
  unfold shows at z
  simp only [Bool.and_eq_true, decide_eq_true_eq] at z
  exact ⟨x, toPy a, rfl, (hx.all s).dpP z.1.1, SeqAt.depth_of_shaped z.1.1, z.1.2, noDict _ (SeqAt.canLay_of_shaped z.1.1), z.2, KV.here k s (.str _)⟩
/-- the type of a value -/
def tyN : D → Option String
  | .non => some "NoneType" | .bl _ => some "bool" | .int _ => some "int" | .str _ => some "str"
  | .lst _ => some "list" | .lstC _ => some "list" | .tup _ => some "tuple" | .tupC _ => some "tuple" | .dct _ => some "dict" | .obj _ _ => none
theorem ty_of {v : V} {d : D} (r : Rep K H v d) : ∃ n, tyN d = some n ∧ TyX K H v (.type n) := by
  cases r with
  | non => exact ⟨_, rfl, .base .non⟩
  | bl b => exact ⟨_, rfl, .base (.bl b)⟩
  | int i => exact ⟨_, rfl, .base (.int i)⟩
  | str z => exact ⟨_, rfl, .base (.str z)⟩
  | lst h _ => exact ⟨_, rfl, .base (.lst h)⟩
  | tup h _ => exact ⟨_, rfl, .base (.tup h)⟩
  | dctT h _ => exact ⟨_, rfl, .base (.dT h)⟩
  | lstC h _ =>
    rcases h with (h | ⟨o, h⟩) | ⟨o, _, _, e, c, _⟩
    · exact ⟨_, rfl, .base (.lst h)⟩
    · exact ⟨_, rfl, .base (.frz h)⟩
    · exact ⟨_, rfl, .kList e c⟩
  | tupC h _ =>
    rcases h with (h | ⟨o, h⟩) | ⟨o, _, _, e, c, _⟩
    · exact ⟨_, rfl, .base (.tup h)⟩
    · exact ⟨_, rfl, .fTuple h⟩
    · exact ⟨_, rfl, .kTuple e c⟩
def isiB (t : String) : D → Bool := fun d => match tyN d with
  | some n => (kitB n t).getD false
  | none => false
theorem s_isi {t : String} (ht : t = "tuple" ∨ t = "list" ∨ t = "str" ∨ t = "bool") {k : Bool} (s : Same G H) (hx : RepB K G H x a) (e : tyN a ≠ none → (kitB ((tyN a).getD "") t) = some k) (h : GV K G H Q (.ok (.bl k))) : rIsi K [x, .ty t] H Q := by
  obtain ⟨n, e1, ty⟩ := ty_of (hx.all s)
  refine ⟨x, .ty t, .type n, .type t, k, rfl, .ty t, ty, kit_ty ?_, KV.here h s (.bl _)⟩
  have := e (by rw [e1]; simp)
  rw [e1] at this
  exact this
theorem isi_tup (a : D) : tyN a ≠ none → kitB ((tyN a).getD "") "tuple" = some (isTupD a) := by
  cases a <;> intro h <;> simp only [tyN, Option.getD, isTupD, isLstD, isStrD, isBlD] <;> first | decide +kernel | exact absurd rfl h
theorem isi_lst (a : D) : tyN a ≠ none → kitB ((tyN a).getD "") "list" = some (isLstD a) := by
  cases a <;> intro h <;> simp only [tyN, Option.getD, isTupD, isLstD, isStrD, isBlD] <;> first | decide +kernel | exact absurd rfl h
theorem isi_str (a : D) : tyN a ≠ none → kitB ((tyN a).getD "") "str" = some (isStrD a) := by
  cases a <;> intro h <;> simp only [tyN, Option.getD, isTupD, isLstD, isStrD, isBlD] <;> first | decide +kernel | exact absurd rfl h
theorem isi_bl (a : D) : tyN a ≠ none → kitB ((tyN a).getD "") "bool" = some (isBlD a) := by
  cases a <;> intro h <;> simp only [tyN, Option.getD, isTupD, isLstD, isStrD, isBlD] <;> first | decide +kernel | exact absurd rfl h
/-- the first place -/
theorem find_some {a : D} : ∀ {xs : List D} {n j : Nat}, findD a xs n = some j → ∃ i z, j = n + i ∧ xs[i]? = some z ∧ eqD z a = true ∧ ∀ m z', m < i → xs[m]? = some z' → eqD z' a = false
  | [], n, j, h => by cases h
  | x :: xs, n, j, h => by
    unfold findD at h
    by_cases q : eqD x a = true
    · rw [if_pos q] at h
      cases h
      exact ⟨0, x, rfl, rfl, q, fun m z' hm => absurd hm (Nat.not_lt_zero _)⟩
    · rw [if_neg q] at h
      obtain ⟨i, z, e1, e2, e3, e4⟩ := find_some h
      refine ⟨i + 1, z, by omega, by simpa using e2, e3, fun m z' hm hz => ?_⟩
      cases m with
      | zero =>
        have : x = z' := by simpa using hz
        rw [← this]
        simpa using q
      | succ m => exact e4 m z' (by omega) (by simpa using hz)
theorem toPys_get {ds : List D} {i : Nat} : (toPys ds)[i]? = (ds[i]?).map toPy := by rw [toPys_map, List.getElem?_map]
theorem s_index (s : Same G H) (hx : RepB K G H x a) (hy : RepB K G H y b) (h : GV K G H Q (sIndex a b)) : rIndexD K x [y] H Q := by
  unfold sIndex at h
  split at h
  · rename_i xs
    obtain ⟨p, vs, rfl, e1, r1⟩ := hx.lst s
    by_cases z : (plain b && plain (.lst xs)) = true
    · rw [if_pos z] at h
      obtain ⟨z1, z2⟩ := Bool.and_eq_true_iff.mp z
      cases q : findD b xs 0 with
      | none => rw [q] at h; exact h.elim
      | some j =>
        rw [q] at h
        obtain ⟨i, w, e2, e3, e4, e5⟩ := find_some q
        have ej : j = i := by omega
        subst ej
        have hL : Dp K H (.ref p) (.list (toPys xs)) := by
          have := (hx.all s).dpP z2
          simpa only [toPy] using this
        refine ⟨p, y, toPy b, toPys xs, j, toPy w, rfl, rfl, hL, (hy.all s).dpP z1, ?_, z1, by rw [toPys_get, e3]; rfl, e4, fun m z' hm hz => ?_, KV.here h s (.int _)⟩
        · have := z2
          unfold plain at this
          simpa only [toPy] using this
        · rw [toPys_get] at hz
          cases u : xs[m]? with
          | none => rw [u] at hz; cases hz
          | some w' =>
            rw [u] at hz
            cases hz
            exact e5 m w' hm u
    · rw [if_neg z] at h; exact h.elim
  · exact h.elim
end
end Den

/-! DenE: the context, calls, the judgements of expressions. -/
namespace Den
open PySem PySem.Spec PyProof.Rows L2

/-! ### a def's promise, at a caller where no guard stands -/
structure FnG (P : Program) (w : World) (K : PySem.W.Frag) (mg : Str → Option Value) (base : Heap) (CX : CXT) (k : Nat) (fa : Addr) (fd : FuncData) (ps : List Str) (sp : Sp) : Prop where
  many : ∀ vs H Q E, sp vs H Q E → vs.length = ps.length
  goes : ∀ (A : Around) (fr : List Env) (s : Shared) (H : Hp) (ar : Args) (us : List Value) (vs : List V) (Q : VK) (E : XK), Room k A → A.guards = some [] → Env0 P w K mg base A fr s H → BindsTo s fd ar (ps.zip us) → Vals vs us → sp vs H Q E →
    codeAny (model P w) A (.call (.ref fa) ar) (CR CX fr P w H s Q E) s
theorem FnG.later {P : Program} {w : World} {K : PySem.W.Frag} {mg : Str → Option Value} {base : Heap} {CX : CXT} {j k : Nat} {fa : Addr} {fd : FuncData} {ps : List Str} {sp : Sp} (F : FnG P w K mg base CX j fa fd ps sp) (h : j ≤ k) : FnG P w K mg base CX k fa fd ps sp :=
  ⟨F.many, fun A fr s H ar us vs Q E hr => F.goes A fr s H ar us vs Q E (hr.mono h)⟩
/-- what a def of data promises -/
def spD (K : PySem.W.Frag) (g : List D → Res D) : Sp := fun vs H Q _ => ∃ G ds, Same G H ∧ Reps K G vs ds ∧ GV K G H Q (g ds)
structure FnAt (CX : CXT) (X : Cx) (x : Str) (g : List D → Res D) : Prop where
  ex : ∃ (k : Nat) (fa : Addr) (fd : FuncData) (ps : List Str), FnG X.prog X.w X.K X.mg X.base CX k fa fd ps (spD X.K g) ∧ Room k X.A ∧ X.mg x = some (.ref fa) ∧ PySem.W.keepIn X.K (.ref fa) = true ∧ Binds X.K fd ps []

/-! ### the look at names -/
def visB (sc : Scope) (x : Str) : Bool := match sc.names.lookup x with
  | some .local | some .cell | some .free => true
  | _ => false
def glB (sc : Scope) (x : Str) : Bool := match sc.names.lookup x with
  | some .globalImplicit => true
  | _ => false
def stoB (sc : Scope) (x : Str) : Bool := match sc.names.lookup x with
  | some .local | some .cell => true
  | _ => false
structure Sco where
  N : List Str
  sc : Scope
  sto : Str → Bool
def bltN : List Str := ["len", "abs", "int", "repr", "tuple", "list", "max", "min", "sum", "any", "all", "isinstance", "range", "str", "bool", "reversed", "enumerate", "zip"]
structure XH (CX : CXT) (X : Cx) (S : Sco) (fns : List Str) (Γ : Cn) : Prop where
  hN : X.N = S.N
  nd : S.N.Nodup
  hsc : X.env.scope = S.sc
  calm : X.calm = true
  rm : Room 0 X.A
  gd : X.A.guards = some []
  po : PassesOwn (model X.prog X.w) X.A X.env X.xe
  ps : ∀ Y : Cx, Y.prog = X.prog → Y.w = X.w → Passes CX Y E0
  st : ∀ x, S.sto x = true → Loc X.env.scope x ∧ (X.fn x = true ∨ X.env.scope.names.lookup x = some .local)
  blt : ∀ x ∈ bltN, X.mg x = none
  fn : ∀ f g x, Γ.fn f = some g → fns[f]? = some x → FnAt CX X x g
section
variable {CX : CXT} {X : Cx} {S : Sco} {fns : List Str} {Γ : Cn}
theorem XH.vis (h : XH CX X S fns Γ) {x : Str} (v : visB S.sc x = true) : Vis X.env.scope x := by
  rw [h.hsc]
  unfold visB at v
  unfold Vis
  split at v <;> first | exact .inl (by assumption) | exact .inr (.inl (by assumption)) | exact .inr (.inr (by assumption)) | cases v
theorem XH.gl (h : XH CX X S fns Γ) {x : Str} (v : glB S.sc x = true) : Gl X x := by
  show X.env.scope.names.lookup x = some .globalImplicit
  rw [h.hsc]
  unfold glB at v
  split at v <;> first | assumption | cases v
theorem XH.hu (h : XH CX X S fns Γ) : X.A.units + 66 < cLine := by have := h.rm.un; omega

/-! ### calls -/
theorem run_fnG {k : Nat} {fa : Addr} {fd : FuncData} {ps : List Str} {sp : Sp} {E : XK} {pins : List (Addr × Obj)} {σ : L2.St} {H : Hp} {s : Shared} {Q : VK} {us : List Value} {vs : List V} (F : FnG X.prog X.w X.K X.mg X.base CX k fa fd ps sp) (rm : Room k X.A) (gd : X.A.guards = some [])
    (hb : Binds X.K fd ps []) (hx : Passes CX X E) (I : Inv X pins σ H s) (rv : Vals vs us) (h : sp vs H Q E) : wpAny (model X.prog X.w) X.A (call (.ref fa) us) (EP X pins σ Q) X.xe s := by
  have many : us.length = ps.length := by rw [← rv.length]; exact F.many _ _ _ _ h
  have bnd : BindsTo s fd ⟨us, []⟩ (ps.zip us) := by
    have z := hb s us I.kIn (by rw [List.append_nil]; exact many)
    rwa [List.append_nil] at z
  refine wpAny_call (codeAny_mono (F.goes X.A X.stack s H ⟨us, []⟩ us vs Q E rm gd I.env0 bnd rv h) fun r s' q => ?_)
  match r, q with
  | .error e, q => exact hx pins σ H s e s' I q
  | .ok (.ret u), q => exact I.after q
  | .ok .next, q => exact False.elim q
  | .ok .brk, q => exact False.elim q
  | .ok .cont, q => exact False.elim q
def nst : Expr → Bool
  | .Starred _ _ => false
  | _ => true
theorem star_cons {e : Expr} {es : List Expr} {env : Env} (h : nst e = true) : starEach (e :: es) env = (false, eval e env) :: starEach es env := by
  cases e <;> first | rfl | cases h
theorem star_any {env : Env} {pos : Pos} : ∀ {es : List Expr}, es.all nst = true → (backTo pos (starEach es env)).any (·.1) = false
  | [], _ => rfl
  | e :: es, h => by
    rw [List.all_cons, Bool.and_eq_true] at h
    rw [star_cons h.1]
    show (false || (backTo pos (starEach es env)).any (·.1)) = false
    rw [star_any h.2]
    rfl
def tCallG (sp : Sp) (t : TA) : TE := fun σ H Q => t σ H fun vs H1 => sp vs H1 Q E0
theorem pe_callG {k : Nat} {fa : Addr} {fd : FuncData} {ps : List Str} {sp : Sp} {x : Str} {p pos : Pos} {e : Expr} {es : List Expr} {t : TA} (F : FnG X.prog X.w X.K X.mg X.base CX k fa fd ps sp) (rm : Room k X.A) (gd : X.A.guards = some []) (hg : Gl X x) (hm : X.mg x = some (.ref fa))
    (kp : PySem.W.keepIn X.K (.ref fa) = true) (hb : Binds X.K fd ps []) (hx : Passes CX X E0) (ha : PA X (e :: es) t) (hst : (e :: es).all nst = true) (hd : (x == ("__debug__" : Str)) = false) : PE X (.Call (.Name x p) (e :: es) [] pos) (tCallG sp t) := by
  refine ⟨fun pins s σ H Q I h => wpAny_Call_Name_kw (ld_glob I hg hm ?_ hd)⟩
  rw [List.all_cons, Bool.and_eq_true] at hst
  exact PySem.W.callWith_K (h₀ := X.base) I.ok.mod.kin kp (thn (ha.run pos pins s σ H _ I h) fun us s1 ⟨vs, H1, I1, rv, q⟩ => ⟨I1.kIn, run_fnG F rm gd hb hx I1 rv q⟩) (star_cons hst.1) (star_any hst.2)
theorem pe_callG0 {k : Nat} {fa : Addr} {fd : FuncData} {ps : List Str} {sp : Sp} {x : Str} {p pos : Pos} (F : FnG X.prog X.w X.K X.mg X.base CX k fa fd ps sp) (rm : Room k X.A) (gd : X.A.guards = some []) (hg : Gl X x) (hm : X.mg x = some (.ref fa))
    (kp : PySem.W.keepIn X.K (.ref fa) = true) (hb : Binds X.K fd ps []) (hx : Passes CX X E0) (hd : (x == ("__debug__" : Str)) = false) : PE X (.Call (.Name x p) [] [] pos) (tCallG sp tNil) :=
  ⟨fun pins s σ H Q I h => wpAny_Call_Name_kw (ld_glob I hg hm (PySem.W.callWith_K0 I.kIn kp (run_fnG (us := []) F rm gd hb hx I .nil h)) hd)⟩

/-! ### the judgements -/
def evB (Γ : Cn) (a : E) (ρ : En) : Res D := match a.isVar with
  | some i => rd true ρ i
  | none => evE Γ a ρ
/-- a value -/
def VE (X : Cx) (Γ : Cn) (a : E) (e : Expr) : Prop := ∃ t, PE X e t ∧ ∀ σ ρ G H Q, ER X.K G H σ ρ → Good (evE Γ a ρ) (fun d => KV X.K G H d Q) → t σ H Q
/-- a borrowed one -/
def VB (X : Cx) (Γ : Cn) (a : E) (e : Expr) : Prop := ∃ t, PE X e t ∧ ∀ σ ρ G H Q, ER X.K G H σ ρ → Good (evB Γ a ρ) (fun d => KB X.K G H d Q) → t σ H Q
/-- a new one -/
def VF (X : Cx) (Γ : Cn) (a : E) (e : Expr) : Prop := ∃ t, PE X e t ∧ ∀ σ ρ G H Q, ER X.K G H σ ρ → Good (evE Γ a ρ) (fun d => KF X.K G H d Q) → t σ H Q
/-- a test -/
def VC (X : Cx) (Γ : Cn) (c : C) (e : Expr) : Prop := ∃ t, PT X e t ∧ ∀ σ ρ G H (Q : Bool → Hp → Prop), ER X.K G H σ ρ → Good (evC Γ c ρ) (fun k => ∀ G' H', Ext G H G' H' → Q k H') → t σ H Q
def VW (X : Cx) (Γ : Cn) (c : C) (e : Expr) : Prop := ∃ t, PW X e t ∧ ∀ σ ρ G H (Q : Bool → Hp → Prop), ER X.K G H σ ρ → Good (evC Γ c ρ) (fun k => ∀ G' H', Ext G H G' H' → Q k H') → t σ H Q
inductive VL (X : Cx) (Γ : Cn) : Bool → Es → List Expr → Prop
  | nil {b : Bool} : VL X Γ b .nil []
  | consB {a : E} {as : Es} {e : Expr} {es : List Expr} : VB X Γ a e → VL X Γ true as es → VL X Γ true (.cons a as) (e :: es)
  | consV {a : E} {as : Es} {e : Expr} {es : List Expr} : VE X Γ a e → VL X Γ false as es → VL X Γ false (.cons a as) (e :: es)
theorem VF.v {a : E} {e : Expr} (h : VF X Γ a e) : VE X Γ a e := by
  obtain ⟨t, p, q⟩ := h
  exact ⟨t, p, fun σ ρ G H Q r g => q σ ρ G H Q r (g.mono fun d k => k.f)⟩
theorem evB_of {a : E} {ρ : En} (h : a.isVar = none) : evB Γ a ρ = evE Γ a ρ := by
  unfold evB
  rw [h]
theorem VE.b {a : E} {e : Expr} (h : VE X Γ a e) (n : a.isVar = none) : VB X Γ a e := by
  obtain ⟨t, p, q⟩ := h
  refine ⟨t, p, fun σ ρ G H Q r g => q σ ρ G H Q r ?_⟩
  rw [evB_of n] at g
  exact g.mono fun d k => KV.b k
theorem evEs_B {a : E} {as : Es} {ρ : En} : evEs Γ true (.cons a as) ρ = (evB Γ a ρ).bind fun d => (evEs Γ true as ρ).bind fun ds => .ok (d :: ds) := by
  unfold evB
  cases h : a.isVar <;> simp [evEs, h]
theorem evEs_V {a : E} {as : Es} {ρ : En} : evEs Γ false (.cons a as) ρ = (evE Γ a ρ).bind fun d => (evEs Γ false as ρ).bind fun ds => .ok (d :: ds) := by
  simp [evEs]
/-- a name -/
theorem v_var (h : XH CX X S fns Γ) {i : Nat} {x : Str} {p : Pos} (hi : S.N[i]? = some x) (v : visB S.sc x = true) (d1 : (x == ("__debug__" : Str)) = false) (d2 : (x == ("__classdict__" : Str)) = false) : VE X Γ (.var i) (.Name x p) ∧ VB X Γ (.var i) (.Name x p) := by
  have P : PE X (.Name x p) (tVar i) := pe_var (by rw [h.hN]; exact hi) (h.vis v) d1 d2
  refine ⟨⟨_, P, fun σ ρ G H Q r g => ?_⟩, ⟨_, P, fun σ ρ G H Q r g => ?_⟩⟩
  · have g : Good (rd false ρ i) fun d => KV X.K G H d Q := g
    unfold rd at g
    split at g
    · rename_i d q
      obtain ⟨v, e, rv⟩ := r.slot i _ q
      exact ⟨v, e, KV.here g r.sub rv⟩
    · exact g.elim
    · exact g.elim
  · have g : Good (rd true ρ i) fun d => KB X.K G H d Q := g
    unfold rd at g
    split at g
    · rename_i d q
      obtain ⟨v, e, rv⟩ := r.slot i _ q
      exact ⟨v, e, g v G H (.refl r.sub) (.inl rv)⟩
    · rename_i d q
      obtain ⟨a, e, n, o⟩ := r.slot i _ q
      exact ⟨_, e, g _ G H (.refl r.sub) (.inr ⟨a, rfl, o⟩)⟩
    · exact g.elim

/-! ### operations -/
theorem one_of {b : Bool} {es : Es} {e : Expr} (h : VL X Γ b es [e]) : ∃ a, es = .cons a .nil := by
  cases h with
  | consB _ r => cases r; exact ⟨_, rfl⟩
  | consV _ r => cases r; exact ⟨_, rfl⟩
/-- one operand, borrowed -/
theorem v_op1 {o : O} {es : Es} {e w : Expr} {r : V → Hp → VK → Prop} (hb : o.borrows = true) (L : VL X Γ true es [e]) (pe : ∀ t, PE X e t → PE X w (tUn r t))
    (sm : ∀ x a G H Q, Same G H → RepB X.K G H x a → GV X.K G H Q (o.sem [a]) → r x H Q) : VE X Γ (.op o es) w := by
  cases L with
  | consB A R =>
    cases R
    obtain ⟨t, p, q⟩ := A
    refine ⟨_, pe t p, fun σ ρ G H Q rr g => q σ ρ G H _ rr ?_⟩
    rw [evE, hb, evEs_B] at g
    exact g.bind.bind.mono fun d g1 v G1 H1 x1 r1 => sm v d G1 H1 Q x1.gh r1 (Good.mono (P := fun d => KV X.K G H d Q) g1 fun d k => k.ext x1)
theorem v_op1F {o : O} {es : Es} {e w : Expr} {r : V → Hp → VK → Prop} (hb : o.borrows = true) (L : VL X Γ true es [e]) (pe : ∀ t, PE X e t → PE X w (tUn r t))
    (sm : ∀ x a G H Q, Same G H → RepB X.K G H x a → Good (o.sem [a]) (fun d => KF X.K G H d Q) → r x H Q) : VF X Γ (.op o es) w := by
  cases L with
  | consB A R =>
    cases R
    obtain ⟨t, p, q⟩ := A
    refine ⟨_, pe t p, fun σ ρ G H Q rr g => q σ ρ G H _ rr ?_⟩
    rw [evE, hb, evEs_B] at g
    exact g.bind.bind.mono fun d g1 v G1 H1 x1 r1 => sm v d G1 H1 Q x1.gh r1 (Good.mono (P := fun d => KF X.K G H d Q) g1 fun d k => k.ext x1)
/-- two operands, borrowed -/
theorem v_op2 {o : O} {es : Es} {e1 e2 w : Expr} {r : R2} (hb : o.borrows = true) (L : VL X Γ true es [e1, e2]) (pe : ∀ t1 t2, PE X e1 t1 → PE X e2 t2 → PE X w (tOp r t1 t2))
    (sm : ∀ x y a b G H Q, Same G H → RepB X.K G H x a → RepB X.K G H y b → GV X.K G H Q (o.sem [a, b]) → r x y H Q) : VE X Γ (.op o es) w := by
  cases L with
  | consB A R =>
    cases R with
    | consB B R =>
      cases R
      obtain ⟨t1, p1, q1⟩ := A
      obtain ⟨t2, p2, q2⟩ := B
      refine ⟨_, pe t1 t2 p1 p2, fun σ ρ G H Q rr g => q1 σ ρ G H _ rr ?_⟩
      rw [evE, hb, evEs_B] at g
      refine g.bind.bind.mono fun d g1 v G1 H1 x1 r1 => q2 σ ρ G1 H1 _ (rr.ext x1) ?_
      have g1 := Good.bind g1
      rw [evEs_B] at g1
      refine g1.bind.mono fun d2 g2 v2 G2 H2 x2 r2 => sm v v2 d d2 G2 H2 Q x2.gh (r1.ext x2) r2 (Good.mono (P := fun d => KV X.K G H d Q) g2 fun d k => k.ext (x1.trans x2))
end
end Den

/-! DenF: argument lists, displays, calls, each operation's text. -/
namespace Den
open PySem PySem.Spec PyProof.Rows L2
section
variable {CX : CXT} {X : Cx} {S : Sco} {fns : List Str} {Γ : Cn}

theorem al_B : ∀ {es : Es} {xs : List Expr}, VL X Γ true es xs → xs.all nst = true → ∃ t, PA X xs t ∧ ∀ σ ρ G H (Q : List V → Hp → Prop), ER X.K G H σ ρ → Good (evEs Γ true es ρ) (fun ds => ∀ vs G' H', Ext G H G' H' → RepBs X.K G' H' vs ds → Q vs H') → t σ H Q
  | _, _, .nil, _ => ⟨_, pa_nil, fun σ ρ G H Q r g => by
    have g : Good (Res.ok []) (fun ds => ∀ vs G' H', Ext G H G' H' → RepBs X.K G' H' vs ds → Q vs H') := by simpa [evEs] using g
    exact g [] G H (.refl r.sub) .nil⟩
  | _, _, .consB A R, h => by
    rw [List.all_cons, Bool.and_eq_true] at h
    obtain ⟨t1, p1, q1⟩ := A
    obtain ⟨t2, p2, q2⟩ := al_B R h.2
    refine ⟨_, pa_cons p1 p2 (star_cons h.1), fun σ ρ G H Q rr g => q1 σ ρ G H _ rr ?_⟩
    rw [evEs_B] at g
    refine g.bind.mono fun d g1 v G1 H1 x1 r1 => q2 σ ρ G1 H1 _ (rr.ext x1) ?_
    exact (Good.bind g1).mono fun ds g2 vs G2 H2 x2 r2 => (show ∀ vs G' H', Ext G H G' H' → RepBs X.K G' H' vs (d :: ds) → Q vs H' from g2) (v :: vs) G2 H2 (x1.trans x2) (.cons (r1.ext x2) r2)
theorem al_V : ∀ {es : Es} {xs : List Expr}, VL X Γ false es xs → xs.all nst = true → ∃ t, PA X xs t ∧ ∀ σ ρ G H (Q : List V → Hp → Prop), ER X.K G H σ ρ → Good (evEs Γ false es ρ) (fun ds => ∀ vs G' H', Ext G H G' H' → Reps X.K G' vs ds → Q vs H') → t σ H Q
  | _, _, .nil, _ => ⟨_, pa_nil, fun σ ρ G H Q r g => by
    have g : Good (Res.ok []) (fun ds => ∀ vs G' H', Ext G H G' H' → Reps X.K G' vs ds → Q vs H') := by simpa [evEs] using g
    exact g [] G H (.refl r.sub) .nil⟩
  | _, _, .consV A R, h => by
    rw [List.all_cons, Bool.and_eq_true] at h
    obtain ⟨t1, p1, q1⟩ := A
    obtain ⟨t2, p2, q2⟩ := al_V R h.2
    refine ⟨_, pa_cons p1 p2 (star_cons h.1), fun σ ρ G H Q rr g => q1 σ ρ G H _ rr ?_⟩
    rw [evEs_V] at g
    refine g.bind.mono fun d g1 v G1 H1 x1 r1 => q2 σ ρ G1 H1 _ (rr.ext x1) ?_
    exact (Good.bind g1).mono fun ds g2 vs G2 H2 x2 r2 => (show ∀ vs G' H', Ext G H G' H' → Reps X.K G' vs (d :: ds) → Q vs H' from g2) (v :: vs) G2 H2 (x1.trans x2) (.cons (r1.mono x2.gg) r2)

/-! ### displays -/
theorem v_tup {es : Es} {xs : List Expr} {k : Nat} {pos : Pos} (L : VL X Γ false es xs) (h : xs.all nst = true) : VE X Γ (.op .mkTup es) (.Tuple xs k pos) := by
  obtain ⟨t, p, q⟩ := al_V L h
  refine ⟨_, pe_tup p, fun σ ρ G H Q rr g => q σ ρ G H _ rr ?_⟩
  rw [evE] at g
  refine g.bind.mono fun ds g1 vs G1 H1 x1 r1 => ?_
  obtain ⟨z, k⟩ := Good.ite g1
  exact ⟨by rw [r1.length]; exact z, fun c n => KV.newT (k.ext x1) x1.gh r1 n⟩
theorem v_lst {es : Es} {xs : List Expr} {pos : Pos} (L : VL X Γ false es xs) (h : xs.all nst = true) : VF X Γ (.op .mkLst es) (.List xs pos) := by
  obtain ⟨t, p, q⟩ := al_V L h
  refine ⟨_, pe_lst p, fun σ ρ G H Q rr g => q σ ρ G H _ rr ?_⟩
  rw [evE] at g
  refine g.bind.mono fun ds g1 vs G1 H1 x1 r1 => ?_
  obtain ⟨z, k⟩ := Good.ite g1
  exact ⟨by rw [r1.length]; exact z, fun c n => KF.newL (k.ext x1) x1.gh r1 n⟩

/-! ### own calls -/
theorem call_pe (h : XH CX X S fns Γ) {f : Nat} {g : List D → Res D} {x : Str} {p pos : Pos} {xs : List Expr} {t : TA} (hf : Γ.fn f = some g) (hx : fns[f]? = some x) (hg : glB S.sc x = true) (hd : (x == ("__debug__" : Str)) = false) (ha : PA X xs t) (hn : xs = [] → t = tNil) (hst : xs.all nst = true) :
    PE X (.Call (.Name x p) xs [] pos) (tCallG (spD X.K g) t) := by
  obtain ⟨k, fa, fd, ps, F, rm, mg, kp, bd⟩ := (h.fn f g x hf hx).ex
  cases xs with
  | nil => rw [hn rfl]; exact pe_callG0 F rm h.gd (h.gl hg) mg kp bd (h.ps X rfl rfl) hd
  | cons e r => exact pe_callG F rm h.gd (h.gl hg) mg kp bd (h.ps X rfl rfl) ha hst hd
theorem nil_t {es : Es} {xs : List Expr} {b : Bool} (L : VL X Γ b es xs) (z : xs = []) : es = .nil := by
  cases L with
  | nil => rfl
  | consB _ _ => cases z
  | consV _ _ => cases z
theorem v_call (h : XH CX X S fns Γ) {f : Nat} {x : Str} {p pos : Pos} {es : Es} {xs : List Expr} (hx : fns[f]? = some x) (hg : glB S.sc x = true) (hd : (x == ("__debug__" : Str)) = false) (L : VL X Γ false es xs) (hst : xs.all nst = true) : VE X Γ (.call f es) (.Call (.Name x p) xs [] pos) := by
  cases hf : Γ.fn f with
  | none =>
    refine ⟨_, ⟨fun _ _ _ _ _ _ h => (show False from h).elim⟩, fun σ ρ G H Q rr g => ?_⟩
    rw [evE, hf] at g
    obtain ⟨ds, _, z⟩ := g.bind.eq
    exact z
  | some g =>
    have core : ∃ t, PA X xs t ∧ (xs = [] → t = tNil) ∧ ∀ σ ρ G H (Q : List V → Hp → Prop), ER X.K G H σ ρ → Good (evEs Γ false es ρ) (fun ds => ∀ vs G' H', Ext G H G' H' → Reps X.K G' vs ds → Q vs H') → t σ H Q := by
      cases xs with
      | nil =>
        refine ⟨_, pa_nil, fun _ => rfl, fun σ ρ G H Q r g => ?_⟩
        rw [nil_t L rfl] at g
        have g : Good (Res.ok []) (fun ds => ∀ vs G' H', Ext G H G' H' → Reps X.K G' vs ds → Q vs H') := by simpa [evEs] using g
        exact g [] G H (.refl r.sub) .nil
      | cons e r =>
        obtain ⟨t, p, q⟩ := al_V L hst
        exact ⟨t, p, (fun z => nomatch z), q⟩
    obtain ⟨t, p, n, q⟩ := core
    refine ⟨_, call_pe h hf hx hg hd p n hst, fun σ ρ G H Q rr gg => q σ ρ G H _ rr ?_⟩
    rw [evE, hf] at gg
    exact gg.bind.mono fun ds g1 vs G1 H1 x1 r1 => ⟨G1, ds, x1.gh, r1, Good.mono (P := fun d => KV X.K G H d Q) g1 fun d k => k.ext x1⟩
theorem v_callB (h : XH CX X S fns Γ) {f : Nat} {x : Str} {p pos : Pos} {es : Es} {xs : List Expr} (hx : fns[f]? = some x) (hg : glB S.sc x = true) (hd : (x == ("__debug__" : Str)) = false) (L : VL X Γ true es xs) (hst : xs.all nst = true) : VE X Γ (.callB f es) (.Call (.Name x p) xs [] pos) := by
  cases hf : Γ.fn f with
  | none =>
    refine ⟨_, ⟨fun _ _ _ _ _ _ h => (show False from h).elim⟩, fun σ ρ G H Q rr g => ?_⟩
    rw [evE, hf] at g
    obtain ⟨ds, _, z⟩ := g.bind.eq
    exact z
  | some g =>
    have core : ∃ t, PA X xs t ∧ (xs = [] → t = tNil) ∧ ∀ σ ρ G H (Q : List V → Hp → Prop), ER X.K G H σ ρ → Good (evEs Γ true es ρ) (fun ds => ∀ vs G' H', Ext G H G' H' → RepBs X.K G' H' vs ds → Q vs H') → t σ H Q := by
      cases xs with
      | nil =>
        refine ⟨_, pa_nil, fun _ => rfl, fun σ ρ G H Q r g => ?_⟩
        rw [nil_t L rfl] at g
        have g : Good (Res.ok []) (fun ds => ∀ vs G' H', Ext G H G' H' → RepBs X.K G' H' vs ds → Q vs H') := by simpa [evEs] using g
        exact g [] G H (.refl r.sub) .nil
      | cons e r =>
        obtain ⟨t, p, q⟩ := al_B L hst
        exact ⟨t, p, (fun z => nomatch z), q⟩
    obtain ⟨t, p, n, q⟩ := core
    refine ⟨_, call_pe h hf hx hg hd p n hst, fun σ ρ G H Q rr gg => q σ ρ G H _ rr ?_⟩
    rw [evE, hf] at gg
    refine gg.bind.mono fun ds g1 vs G1 H1 x1 r1 => ⟨H1, ds, .refl _, r1.all x1.gh, ?_⟩
    have g1 := Good.bind g1
    refine g1.mono fun d g2 v G2 H2 x2 rv => ?_
    obtain ⟨fl, k⟩ := Good.ite g2
    exact k v G1 H2 (x1.trans ⟨.refl _, x2.hh, fun b o e => x2.hh _ _ (x1.gh _ _ e), fun b o e n => by rw [e] at n; cases n⟩) (rv.flat fl)

/-! ### the tables of operations -/
def binO : Operator → Option O
  | .Add => some .add | .Sub => some .sub | .Mult => some .mul | .FloorDiv => some .fdiv | .Mod => some .mod | .Pow => some .pow
  | .LShift => some .shl | .RShift => some .shr | .BitAnd => some .band | _ => none
theorem v_bin {op : Operator} {o : O} {es : Es} {a b : Expr} {pos : Pos} (e : binO op = some o) (L : VL X Γ true es [a, b]) : VE X Γ (.op o es) (.BinOp a op b pos) := by
  cases op <;> cases e
  · exact v_op2 rfl L (fun _ _ p q => pe_op op_addD p q) fun _ _ _ _ _ _ _ s h1 h2 g => s_add s h1 h2 g
  · exact v_op2 rfl L (fun _ _ p q => pe_op op_sub p q) fun _ _ _ _ _ _ _ s h1 h2 g => s_sub s h1 h2 g
  · exact v_op2 rfl L (fun _ _ p q => pe_op op_mulD p q) fun _ _ _ _ _ _ _ s h1 h2 g => s_mul s h1 h2 g
  · exact v_op2 rfl L (fun _ _ p q => pe_op op_mod p q) fun _ _ _ _ _ _ _ s h1 h2 g => s_mod s h1 h2 g
  · exact v_op2 rfl L (fun _ _ p q => pe_op op_pow p q) fun _ _ _ _ _ _ _ s h1 h2 g => s_pow s h1 h2 g
  · exact v_op2 rfl L (fun _ _ p q => pe_op op_shl p q) fun _ _ _ _ _ _ _ s h1 h2 g => s_shl s h1 h2 g
  · exact v_op2 rfl L (fun _ _ p q => pe_op op_shr p q) fun _ _ _ _ _ _ _ s h1 h2 g => s_shr s h1 h2 g
  · exact v_op2 rfl L (fun _ _ p q => pe_op op_and p q) fun _ _ _ _ _ _ _ s h1 h2 g => s_band s h1 h2 g
  · exact v_op2 rfl L (fun _ _ p q => pe_op op_fdiv p q) fun _ _ _ _ _ _ _ s h1 h2 g => s_fdiv s h1 h2 g
def cmpO : CmpOp → Option O
  | .Lt => some .lt | .LtE => some .le | .Gt => some .gt | .GtE => some .ge | .Eq => some .eq | .NotEq => some .ne | .In => some .isIn | .NotIn => some .notIn | _ => none
theorem op_eqE (hu : X.A.units + 64 < cLine) : OpR X (compareOp .Eq) (rEqE X.K false) := op_eqD hu
theorem op_neE (hu : X.A.units + 64 < cLine) : OpR X (compareOp .NotEq) (rEqE X.K true) := op_neD hu
theorem op_dIn (hu : X.A.units + 1 < cLine) : OpR X (compareOp .In) (fun x y H Q => ∃ a o, y = .ref a ∧ DGet H a x o ∧ Q (.bl (o.isSome)) H) := by
  intro pins s σ H x y v u Q I rx ry h
  obtain ⟨a, o, rfl, g, q⟩ := h
  cases ry
  exact d_in hu I g rx fun s' I' => ⟨.bl _, H, I', rfl, q⟩
theorem op_dNotIn (hu : X.A.units + 1 < cLine) : OpR X (compareOp .NotIn) (fun x y H Q => ∃ a o, y = .ref a ∧ DGet H a x o ∧ Q (.bl (!o.isSome)) H) := by
  intro pins s σ H x y v u Q I rx ry h
  obtain ⟨a, o, rfl, g, q⟩ := h
  cases ry
  exact d_notIn hu I g rx fun s' I' => ⟨.bl _, H, I', rfl, q⟩
theorem op_inE (hu : X.A.units + 66 < cLine) : OpR X (compareOp .In) (rInDD X.K false) := (op_inD (by omega)).or (op_dIn (by omega))
theorem op_notInE (hu : X.A.units + 66 < cLine) : OpR X (compareOp .NotIn) (rInDD X.K true) := (op_notInD (by omega)).or (op_dNotIn (by omega))
/-- the rule of a comparison -/
theorem cmp_rule (hu : X.A.units + 66 < cLine) {op : CmpOp} {o : O} (e : cmpO op = some o) : o.borrows = true ∧ ∃ r, OpR X (compareOp op) r ∧ (∀ x y a b G H Q, Same G H → RepB X.K G H x a → RepB X.K G H y b → GV X.K G H Q (o.sem [a, b]) → r x y H Q) ∧
    ∀ a b d, o.sem [a, b] = .ok d → ∃ k, d = .bl k := by
  have int : ∀ {f : Int → Int → Bool} {a b d : D}, sInt (fun i j => .ok (.bl (f i j))) a b = .ok d → ∃ k, d = .bl k := fun {f a b d} h => by
    unfold sInt at h
    split at h
    · cases h; exact ⟨_, rfl⟩
    · cases h
  have eqq : ∀ {n : Bool} {a b d : D}, sEq n a b = .ok d → ∃ k, d = .bl k := fun {n a b d} h => by
    unfold sEq at h
    split at h
    · cases h; exact ⟨_, rfl⟩
    · cases h
  have inn : ∀ {n : Bool} {a b d : D}, sIn n a b = .ok d → ∃ k, d = .bl k := fun {n a b d} h => by
    unfold sIn at h
    split at h
    · split at h
      · cases h; exact ⟨_, rfl⟩
      · cases h
    · split at h
      · cases h; exact ⟨_, rfl⟩
      · cases h
    · cases h
  cases op <;> cases e
  · exact ⟨rfl, _, op_eqE (by omega), fun _ _ _ _ _ _ _ s h1 h2 g => s_eq s h1 h2 g, fun a b d h => eqq h⟩
  · exact ⟨rfl, _, op_neE (by omega), fun _ _ _ _ _ _ _ s h1 h2 g => s_eq s h1 h2 g, fun a b d h => eqq h⟩
  · exact ⟨rfl, _, op_lt, fun _ _ _ _ _ _ _ s h1 h2 g => s_lt s h1 h2 g, fun a b d h => int h⟩
  · exact ⟨rfl, _, op_le, fun _ _ _ _ _ _ _ s h1 h2 g => s_le s h1 h2 g, fun a b d h => int h⟩
  · exact ⟨rfl, _, op_gt, fun _ _ _ _ _ _ _ s h1 h2 g => s_gt s h1 h2 g, fun a b d h => int h⟩
  · exact ⟨rfl, _, op_ge, fun _ _ _ _ _ _ _ s h1 h2 g => s_ge s h1 h2 g, fun a b d h => int h⟩
  · exact ⟨rfl, _, op_inE hu, fun _ _ _ _ _ _ _ s h1 h2 g => s_in s h1 h2 g, fun a b d h => inn h⟩
  · exact ⟨rfl, _, op_notInE hu, fun _ _ _ _ _ _ _ s h1 h2 g => s_in s h1 h2 g, fun a b d h => inn h⟩
def noSet : Expr → Bool
  | .Set _ _ _ => false
  | _ => true
theorem mark_of {op : CmpOp} {b : Expr} (h : noSet b = true) : behindInMarks op b = false := by
  cases b <;> first | rfl | cases h
/-- a comparison, as a value and as a test -/
theorem v_cmp (h : XH CX X S fns Γ) {op : CmpOp} {o : O} {es : Es} {a b : Expr} {pos : Pos} (e : cmpO op = some o) (n : noSet b = true) (L : VL X Γ true es [a, b]) :
    VE X Γ (.op o es) (.Compare a [op] [b] pos) ∧ VC X Γ (.tr (.op o es)) (.Compare a [op] [b] pos) := by
  obtain ⟨hb, r, ho, sm, bl⟩ := cmp_rule h.hu e
  refine ⟨v_op2 hb L (fun _ _ p q => pe_cmpR ho p q (mark_of n)) sm, ?_⟩
  cases L with
  | consB A R =>
    cases R with
    | consB B R =>
      cases R
      obtain ⟨t1, p1, q1⟩ := A
      obtain ⟨t2, p2, q2⟩ := B
      refine ⟨_, pt_cmpR ho p1 p2 (mark_of n), fun σ ρ G H Q rr g => q1 σ ρ G H _ rr ?_⟩
      rw [evC, evE, hb, evEs_B] at g
      refine g.bind.bind.bind.mono fun d g1 v G1 H1 x1 r1 => q2 σ ρ G1 H1 _ (rr.ext x1) ?_
      have g1 := Good.bind g1
      rw [evEs_B] at g1
      refine g1.bind.mono fun d2 g2 v2 G2 H2 x2 r2 => sm v v2 d d2 G2 H2 _ x2.gh (r1.ext x2) r2 ?_
      obtain ⟨w, ew, k⟩ := Good.eq (show Good (o.sem [d, d2]) _ from g2)
      obtain ⟨k', rfl⟩ := bl _ _ _ ew
      rw [ew]
      intro z G3 H3 x3 r3
      cases r3
      exact ⟨k', rfl, (show ∀ G' H', Ext G H G' H' → Q k' H' from k) G3 H3 ((x1.trans x2).trans x3)⟩
end
end Den

/-! DenG: items, slices, built-ins, tests, and what a loop walks. -/
namespace Den
open PySem PySem.Spec PyProof.Rows L2
section
variable {CX : CXT} {X : Cx} {S : Sco} {fns : List Str} {Γ : Cn}

def ixPlain : Expr → Bool
  | .Slice _ _ _ _ => false
  | _ => true
theorem plainIx_of {b : Expr} (h : ixPlain b = true) : PlainIx b := by
  intro o i
  cases b <;> first | rfl | cases h
theorem v_idx {es : Es} {a b : Expr} {pos : Pos} (n : ixPlain b = true) (L : VL X Γ true es [a, b]) : VE X Γ (.op .idx es) (.Subscript a b pos) :=
  v_op2 rfl L (fun _ _ p q => pe_ix ix_seq p q (plainIx_of n)) fun _ _ _ _ _ _ _ s h1 h2 g => s_idx s h1 h2 g
theorem v_sl00 {es : Es} {a : Expr} {p2 pos : Pos} (L : VL X Γ true es [a]) : VE X Γ (.op .sl00 es) (.Subscript a (.Slice none none none p2) pos) :=
  v_op1 (r := fun x H Q => rSlD X.K x none none H Q) rfl L (fun _ p => pe_slice sl_D p po_none po_none) fun _ _ _ _ _ s h1 g => s_cut s h1 g
theorem v_sl10 {es : Es} {a l : Expr} {p2 pos : Pos} (L : VL X Γ true es [a, l]) : VE X Γ (.op .sl10 es) (.Subscript a (.Slice (some l) none none p2) pos) :=
  v_op2 (r := fun x y H Q => ∃ i, y = .int i ∧ rSlD X.K x (some i) none H Q) rfl L (fun _ _ p q => pe_slice sl_D p (po_some q) po_none) fun x y a b G H Q s h1 h2 g => by
    cases b with
    | int i => exact ⟨i, h2.int, s_cut s h1 g⟩
    | _ => exact (show False from g).elim
theorem v_sl01 {es : Es} {a l : Expr} {p2 pos : Pos} (L : VL X Γ true es [a, l]) : VE X Γ (.op .sl01 es) (.Subscript a (.Slice none (some l) none p2) pos) :=
  v_op2 (r := fun x y H Q => ∃ i, y = .int i ∧ rSlD X.K x none (some i) H Q) rfl L (fun _ _ p q => pe_slice sl_D p po_none (po_some q)) fun x y a b G H Q s h1 h2 g => by
    cases b with
    | int i => exact ⟨i, h2.int, s_cut s h1 g⟩
    | _ => exact (show False from g).elim
theorem v_sl11 {es : Es} {a l u : Expr} {p2 pos : Pos} (L : VL X Γ true es [a, l, u]) : VE X Γ (.op .sl11 es) (.Subscript a (.Slice (some l) (some u) none p2) pos) := by
  cases L with
  | consB A R =>
    cases R with
    | consB B R =>
      cases R with
      | consB C R =>
        cases R
        obtain ⟨t1, p1, q1⟩ := A
        obtain ⟨t2, p2, q2⟩ := B
        obtain ⟨t3, p3, q3⟩ := C
        refine ⟨_, pe_slice sl_D p1 (po_some p2) (po_some p3), fun σ ρ G H Q rr g => q1 σ ρ G H _ rr ?_⟩
        rw [evE] at g
        have g : Good (evEs Γ true _ ρ) fun ds => Good (O.sem .sl11 ds) fun d => KV X.K G H d Q := g.bind
        rw [evEs_B] at g
        refine g.bind.mono fun d g1 v G1 H1 x1 r1 => q2 σ ρ G1 H1 _ (rr.ext x1) ?_
        have g1 := Good.bind g1
        rw [evEs_B] at g1
        refine g1.bind.mono fun d2 g2 v2 G2 H2 x2 r2 => ?_
        have g2 := Good.bind g2
        rw [evEs_B] at g2
        have core : ∀ i, v2 = .int i → d2 = .int i → t3 σ H2 fun z H3 => ∃ j, z = .int j ∧ rSlD X.K v (some i) (some j) H3 Q := fun i e1 e2 => by
          refine q3 σ ρ G2 H2 _ ((rr.ext x1).ext x2) ?_
          refine g2.bind.mono fun d3 g3 v3 G3 H3 x3 r3 => ?_
          subst e2
          cases d3 with
          | int j => exact ⟨j, r3.int, s_cut x3.gh ((r1.ext x2).ext x3) (Good.mono (P := fun d => KV X.K G H d Q) (show Good (sCut (some i) (some j) d) _ from g3) fun d k => k.ext ((x1.trans x2).trans x3))⟩
          | _ => exact (show False from g3).elim
        cases d2 with
        | int i => exact ⟨i, r2.int, core i r2.int rfl⟩
        | _ =>
          obtain ⟨d3, _, g3⟩ := g2.bind.eq
          exact (show False from g3).elim
/-! ### built-ins of one argument -/
theorem blt_of (h : XH CX X S fns Γ) {x : Str} (m : x ∈ bltN) : X.mg x = none := h.blt x m
theorem c1 (h : XH CX X S fns Γ) {x : Str} {id : String} {r : List V → Hp → VK → Prop} {o : O} {es : Es} {e : Expr} {p pos : Pos} (hb : o.borrows = true) (hg : glB S.sc x = true) (m : x ∈ bltN) (ns : nst e = true) (L : VL X Γ true es [e])
    (cr : CallR X (.builtin id) r) (bt : bootBuiltins x = some (.builtin id)) (n1 : x ≠ "__name__") (n2 : (x == ("__debug__" : Str)) = false)
    (sm : ∀ x a G H Q, Same G H → RepB X.K G H x a → GV X.K G H Q (o.sem [a]) → r [x] H Q) : VE X Γ (.op o es) (.Call (.Name x p) [e] [] pos) :=
  v_op1 (r := fun x H Q => r [x] H Q) hb L (fun _ q => pe_callB cr (h.gl hg) (h.blt x m) bt (pa_cons q pa_nil (star_cons ns)) n1 n2 (star_cons ns) rfl) sm
theorem c1T (h : XH CX X S fns Γ) {x : Str} {id : String} {r : List V → Hp → VK → Prop} {o : O} {es : Es} {e : Expr} {p pos : Pos} (hb : o.borrows = true) (hg : glB S.sc x = true) (m : x ∈ bltN) (ns : nst e = true) (L : VL X Γ true es [e])
    (cr : CallR X (.type id) r) (bt : bootBuiltins x = some (.type id)) (n1 : x ≠ "__name__") (n2 : (x == ("__debug__" : Str)) = false)
    (sm : ∀ x a G H Q, Same G H → RepB X.K G H x a → GV X.K G H Q (o.sem [a]) → r [x] H Q) : VE X Γ (.op o es) (.Call (.Name x p) [e] [] pos) :=
  v_op1 (r := fun x H Q => r [x] H Q) hb L (fun _ q => pe_callTy cr (h.gl hg) (h.blt x m) bt (pa_cons q pa_nil (star_cons ns)) n1 n2 (star_cons ns) rfl) sm
def call1O (x : Str) : Option O :=
  if x = "len" then some .len else if x = "abs" then some .abs else if x = "int" then some .toInt else if x = "repr" then some .repr else if x = "tuple" then some .toTup else if x = "list" then some .toLst
  else if x = "max" then some .max1 else if x = "min" then some .min1 else if x = "sum" then some .sum else if x = "any" then some .any else if x = "all" then some .all else none
set_option maxHeartbeats 4000000 in
theorem v_call1 (h : XH CX X S fns Γ) {x : Str} {o : O} {es : Es} {e : Expr} {p pos : Pos} (q : call1O x = some o) (hg : glB S.sc x = true) (ns : nst e = true) (L : VL X Γ true es [e]) :
    VE X Γ (.op o es) (.Call (.Name x p) [e] [] pos) ∧ (o.fresh = true → VF X Γ (.op o es) (.Call (.Name x p) [e] [] pos)) := by
  unfold call1O at q
  split at q
  · subst_vars; cases q
    exact ⟨c1 h rfl hg (by decide) ns L call_len (by decide +kernel) (by decide) (by decide) fun _ _ _ _ _ s h1 g => s_len s h1 g, fun z => nomatch z⟩
  split at q
  · subst_vars; cases q
    exact ⟨c1 h rfl hg (by decide) ns L call_abs (by decide +kernel) (by decide) (by decide) fun _ _ _ _ _ s h1 g => s_abs s h1 g, fun z => nomatch z⟩
  split at q
  · subst_vars; cases q
    exact ⟨c1T h rfl hg (by decide) ns L call_int1 (by decide +kernel) (by decide) (by decide) fun _ _ _ _ _ s h1 g => s_toInt s h1 g, fun z => nomatch z⟩
  split at q
  · subst_vars; cases q
    exact ⟨c1 h rfl hg (by decide) ns L (call_reprD h.gd h.hu) (by decide +kernel) (by decide) (by decide) fun _ _ _ _ _ s h1 g => s_repr s h1 g, fun z => nomatch z⟩
  split at q
  · subst_vars; cases q
    exact ⟨c1T h rfl hg (by decide) ns L call_tuple_of (by decide +kernel) (by decide) (by decide) fun _ _ _ _ _ s h1 g => s_toTup s h1 g, fun z => nomatch z⟩
  split at q
  · subst_vars; cases q
    have F : VF X Γ (.op .toLst es) (.Call (.Name "list" p) [e] [] pos) :=
      v_op1F (r := fun x H Q => ∃ p ys, [x] = [V.ref p] ∧ (SqL X.K H p ys ∨ SqT X.K H p ys) ∧ ∀ l, H l = none → Q (.ref l) (upd H l (.lst ys))) rfl L (fun _ q => pe_callTy call_list_of (h.gl hg) (h.blt _ (by decide)) (by decide +kernel) (pa_cons q pa_nil (star_cons ns)) (by decide) (by decide) (star_cons ns) rfl) fun _ _ _ _ _ s h1 g => s_toLst s h1 g
    exact ⟨F.v, fun _ => F⟩
  split at q
  · subst_vars; cases q
    exact ⟨c1 h rfl hg (by decide) ns L (cr_max h.calm) (by decide +kernel) (by decide) (by decide) fun _ _ _ _ _ s h1 g => s_max s h1 g, fun z => nomatch z⟩
  split at q
  · subst_vars; cases q
    exact ⟨c1 h rfl hg (by decide) ns L (cr_min h.calm) (by decide +kernel) (by decide) (by decide) fun _ _ _ _ _ s h1 g => s_min s h1 g, fun z => nomatch z⟩
  split at q
  · subst_vars; cases q
    exact ⟨c1 h rfl hg (by decide) ns L (cr_sum h.calm) (by decide +kernel) (by decide) (by decide) fun _ _ _ _ _ s h1 g => s_sum s h1 g, fun z => nomatch z⟩
  split at q
  · subst_vars; cases q
    exact ⟨c1 h rfl hg (by decide) ns L (cr_any h.calm) (by decide +kernel) (by decide) (by decide) fun _ _ _ _ _ s h1 g => s_overB s h1 g, fun z => nomatch z⟩
  split at q
  · subst_vars; cases q
    exact ⟨c1 h rfl hg (by decide) ns L (cr_all h.calm) (by decide +kernel) (by decide) (by decide) fun _ _ _ _ _ s h1 g => s_overB s h1 g, fun z => nomatch z⟩
  cases q
def call2O (x : Str) : Option O := if x = "max" then some .max2 else if x = "min" then some .min2 else none
set_option maxHeartbeats 4000000 in
theorem v_call2 (h : XH CX X S fns Γ) {x : Str} {o : O} {es : Es} {e e2 : Expr} {p pos : Pos} (q : call2O x = some o) (hg : glB S.sc x = true) (ns : nst e = true) (ns2 : nst e2 = true) (L : VL X Γ true es [e, e2]) : VE X Γ (.op o es) (.Call (.Name x p) [e, e2] [] pos) := by
  have pl : (backTo pos (starEach [e2] X.env)).any (·.1) = false := star_any (by simp [ns2])
  unfold call2O at q
  split at q
  · subst_vars; cases q
    exact v_op2 (r := fun x y H Q => ∃ i j, [x, y] = [V.int i, V.int j] ∧ Q (.int (if j > i then j else i)) H) rfl L (fun _ _ q r => pe_callB (call_max2 h.calm) (h.gl hg) (h.blt _ (by decide)) (by decide +kernel) (pa_cons q (pa_cons r pa_nil (star_cons ns2)) (star_cons ns)) (by decide) (by decide) (star_cons ns) pl) fun _ _ _ _ _ _ _ s h1 h2 g => s_max2 s h1 h2 g
  split at q
  · subst_vars; cases q
    exact v_op2 (r := fun x y H Q => ∃ i j, [x, y] = [V.int i, V.int j] ∧ Q (.int (if j < i then j else i)) H) rfl L (fun _ _ q r => pe_callB (call_min2 h.calm) (h.gl hg) (h.blt _ (by decide)) (by decide +kernel) (pa_cons q (pa_cons r pa_nil (star_cons ns2)) (star_cons ns)) (by decide) (by decide) (star_cons ns) pl) fun _ _ _ _ _ _ _ s h1 h2 g => s_min2 s h1 h2 g
  cases q
def isiO (t : Str) : Option O := if t = "tuple" then some .isTup else if t = "list" then some .isLst else if t = "str" then some .isStr else if t = "bool" then some .isBool else none
set_option maxHeartbeats 4000000 in
theorem v_isi (h : XH CX X S fns Γ) {t : Str} {o : O} {es : Es} {e : Expr} {p p2 pos : Pos} (q : isiO t = some o) (hg : glB S.sc "isinstance" = true) (hg2 : glB S.sc t = true) (ns : nst e = true) (L : VL X Γ true es [e]) : VE X Γ (.op o es) (.Call (.Name "isinstance" p) [e, .Name t p2] [] pos) := by
  have pe : ∀ {T : String} (bt : bootBuiltins t = some (.type T)) (m : t ∈ bltN) (n1 : t ≠ "__name__") (n2 : (t == ("__debug__" : Str)) = false) (tt : TE), PE X e tt → PE X (.Call (.Name "isinstance" p) [e, .Name t p2] [] pos) (tUn (fun x H Q => rIsi X.K [x, .ty T] H Q) tt) := fun {T} bt m n1 n2 tt q =>
    pe_callB call_isi (h.gl hg) (h.blt _ (by decide)) (by decide +kernel) (pa_cons q (pa_cons (pe_bltn (v := .ty T) (h.gl hg2) (h.blt _ m) bt rfl n1 n2) pa_nil rfl) (star_cons ns)) (by decide) (by decide) (star_cons ns) rfl
  unfold isiO at q
  split at q
  · subst_vars; cases q
    exact v_op1 rfl L (pe (T := "tuple") (by decide +kernel) (by decide) (by decide) (by decide)) fun _ a _ _ _ s h1 g => s_isi (.inl rfl) s h1 (isi_tup a) g
  split at q
  · subst_vars; cases q
    exact v_op1 rfl L (pe (T := "list") (by decide +kernel) (by decide) (by decide) (by decide)) fun _ a _ _ _ s h1 g => s_isi (.inr (.inl rfl)) s h1 (isi_lst a) g
  split at q
  · subst_vars; cases q
    exact v_op1 rfl L (pe (T := "str") (by decide +kernel) (by decide) (by decide) (by decide)) fun _ a _ _ _ s h1 g => s_isi (.inr (.inr (.inl rfl))) s h1 (isi_str a) g
  split at q
  · subst_vars; cases q
    exact v_op1 rfl L (pe (T := "bool") (by decide +kernel) (by decide) (by decide) (by decide)) fun _ a _ _ _ s h1 g => s_isi (.inr (.inr (.inr rfl))) s h1 (isi_bl a) g
  cases q
theorem v_neg {es : Es} {e : Expr} {pos : Pos} (L : VL X Γ true es [e]) : VE X Γ (.op .neg es) (.UnaryOp .USub e pos) :=
  v_op1 rfl L (fun _ p => pe_un un_neg p) fun _ _ _ _ _ s h1 g => s_neg s h1 g
/-! ### is -/
theorem v_isNon {es : Es} {e : Expr} {j : Nat} {p2 pos : Pos} (L : VL X Γ true es [e]) : VE X Γ (.op .isNon es) (.Compare e [.Is] [.Constant .none j p2] pos) :=
  v_op1 (r := fun x H Q => Q (.bl (decide (x = .non))) H) rfl L (fun _ p => pe_cmp (pc_isN p)) fun _ _ _ _ _ s h1 g => s_isNon s h1 g
theorem v_notNon {es : Es} {e : Expr} {j : Nat} {p2 pos : Pos} (L : VL X Γ true es [e]) : VE X Γ (.op .notNon es) (.Compare e [.IsNot] [.Constant .none j p2] pos) :=
  v_op1 (r := fun x H Q => Q (.bl (!decide (x = .non))) H) rfl L (fun _ p => pe_cmp (pc_notN p)) fun _ _ _ _ _ s h1 g => s_notNon s h1 g
theorem t_non {o : O} {f : D → Bool} {es : Es} {e w : Expr} {r : V → Bool} (hb : o.borrows = true) (sem : ∀ a, o.sem [a] = .ok (.bl (f a))) (L : VL X Γ true es [e]) (pt : ∀ t, PE X e t → PT X w (tB (tUn (fun x H Q => Q (.bl (r x)) H) t)))
    (same : ∀ x a G H, Same G H → RepB X.K G H x a → r x = f a) : VC X Γ (.tr (.op o es)) w := by
  cases L with
  | consB A R =>
    cases R
    obtain ⟨t, p, q⟩ := A
    refine ⟨_, pt t p, fun σ ρ G H Q rr g => q σ ρ G H _ rr ?_⟩
    rw [evC, evE, hb, evEs_B] at g
    refine g.bind.bind.bind.mono fun d g1 v G1 H1 x1 r1 => ?_
    have g1 : Good (O.sem o [d]) fun a => Good (truth a) fun k => ∀ (G' H' : Hp), Ext G H G' H' → Q k H' := g1
    rw [sem] at g1
    exact ⟨_, rfl, by rw [same v d G1 H1 x1.gh r1]; exact (show ∀ G' H', Ext G H G' H' → Q (f d) H' from g1) G1 H1 x1⟩
theorem t_isNon {es : Es} {e : Expr} {j : Nat} {p2 pos : Pos} (L : VL X Γ true es [e]) : VC X Γ (.tr (.op .isNon es)) (.Compare e [.Is] [.Constant .none j p2] pos) :=
  t_non (f := isNonD) (r := fun x => decide (x = .non)) rfl (fun _ => rfl) L (fun _ p => pt_cmp (pc_isN p)) fun x a G H s h1 => isNon_iff (h1.all s)
theorem t_notNon {es : Es} {e : Expr} {j : Nat} {p2 pos : Pos} (L : VL X Γ true es [e]) : VC X Γ (.tr (.op .notNon es)) (.Compare e [.IsNot] [.Constant .none j p2] pos) :=
  t_non (f := fun a => !isNonD a) (r := fun x => !decide (x = .non)) rfl (fun _ => rfl) L (fun _ p => pt_cmp (pc_notN p)) fun x a G H s h1 => by rw [isNon_iff (h1.all s)]
end
end Den

/-! DenH: tests, targets, what a loop walks, comprehensions. -/
namespace Den
open PySem PySem.Spec PyProof.Rows L2
section
variable {CX : CXT} {X : Cx} {S : Sco} {fns : List Str} {Γ : Cn}

/-! ### and, or, not, if, chains -/
theorem v_andE {a b : E} {e1 e2 : Expr} {r : List Expr} {pos : Pos} (A : VE X Γ a e1) (B : VE X Γ b (.BoolOp .And (e2 :: r) pos)) : VE X Γ (.andE a b) (.BoolOp .And (e1 :: e2 :: r) pos) := by
  obtain ⟨t1, p1, q1⟩ := A
  obtain ⟨t2, p2, q2⟩ := B
  refine ⟨_, pe_and p1 p2, fun σ ρ G H Q rr g => q1 σ ρ G H _ rr ?_⟩
  rw [evE] at g
  refine g.bind.mono fun d g1 v G1 H1 x1 r1 => ?_
  cases d with
  | bl k =>
    cases r1
    refine ⟨k, rfl, ?_⟩
    cases k with
    | true => exact q2 σ ρ G1 H1 Q (rr.ext x1) (Good.mono (P := fun d => KV X.K G H d Q) g1 fun d k => k.ext x1)
    | false => exact (show KV X.K G H (.bl false) Q from g1) _ G1 H1 x1 (.bl false)
  | _ => exact (show False from g1).elim
theorem v_orE {a b : E} {e1 e2 : Expr} {r : List Expr} {pos : Pos} (A : VE X Γ a e1) (B : VE X Γ b (.BoolOp .Or (e2 :: r) pos)) : VE X Γ (.orE a b) (.BoolOp .Or (e1 :: e2 :: r) pos) := by
  obtain ⟨t1, p1, q1⟩ := A
  obtain ⟨t2, p2, q2⟩ := B
  refine ⟨_, pe_or p1 p2, fun σ ρ G H Q rr g => q1 σ ρ G H _ rr ?_⟩
  rw [evE] at g
  refine g.bind.mono fun d g1 v G1 H1 x1 r1 => ?_
  cases d with
  | bl k =>
    cases r1
    refine ⟨k, rfl, ?_⟩
    cases k with
    | false => exact q2 σ ρ G1 H1 Q (rr.ext x1) (Good.mono (P := fun d => KV X.K G H d Q) g1 fun d k => k.ext x1)
    | true => exact (show KV X.K G H (.bl true) Q from g1) _ G1 H1 x1 (.bl true)
  | _ => exact (show False from g1).elim
theorem v_one {a : E} {e : Expr} {op : BoolOp} {pos : Pos} (A : VE X Γ a e) : VE X Γ a (.BoolOp op [e] pos) := by
  obtain ⟨t, p, q⟩ := A
  exact ⟨t, pe_one p, q⟩
theorem tru_rep {K : PySem.W.Frag} {G H : Hp} {v : V} {d : D} {k : Bool} (s : Same G H) (r : RepB K G H v d) (h : truth d = .ok k) : TruV K v H k := by
  cases d with
  | non =>
    have z := r.all s
    cases z
    cases h
    rfl
  | bl b => cases r.bl; cases h; rfl
  | int i => cases r.int; cases h; rfl
  | str y =>
    cases r.str
    have h : (if y.length ≤ sizeLine then Res.ok (y.length != 0) else .bad) = .ok k := h
    by_cases q : y.length ≤ sizeLine
    · rw [if_pos q] at h
      cases h
      refine ⟨q, ?_⟩
      show (y.length != 0) = ((y.length : Int) != 0)
      cases e : y.length with
      | zero => rfl
      | succ n =>
        have h1 : ((n + 1 : Nat) != 0) = true := by simp
        have h2 : (((n + 1 : Nat) : Int) != 0) = true := by simp; omega
        rw [h1, h2]
    · rw [if_neg q] at h; cases h
  | lst ds =>
    obtain ⟨p, vs, rfl, e, rr⟩ := r.lst s
    cases h
    refine .inl ⟨vs, .of e, ?_⟩
    cases rr <;> rfl
  | tup ds =>
    obtain ⟨p, vs, rfl, e, rr⟩ := r.tup
    cases h
    refine .inr (.inl ⟨vs, .of (s _ _ e), ?_⟩)
    cases rr <;> rfl
  | lstC ds =>
    obtain ⟨p, vs, rfl, e, rr⟩ := r.lstC
    cases h
    refine .inl ⟨vs, s.seq e, ?_⟩
    cases rr <;> rfl
  | tupC ds =>
    obtain ⟨p, vs, rfl, e, rr⟩ := r.tupC
    cases h
    refine .inr (.inl ⟨vs, same_sqt s e, ?_⟩)
    cases rr <;> rfl
  | dct ks => cases h
  | obj c fs => cases h
theorem v_notE {a : E} {e : Expr} {pos : Pos} (A : VE X Γ a e) : VE X Γ (.notE a) (.UnaryOp .Not e pos) := by
  obtain ⟨t, p, q⟩ := A
  refine ⟨_, pe_notT p, fun σ ρ G H Q rr g => q σ ρ G H _ rr ?_⟩
  rw [evE] at g
  refine g.bind.mono fun d g1 v G1 H1 x1 r1 => ?_
  obtain ⟨k, ek, g2⟩ := (Good.bind g1).eq
  exact ⟨k, tru_rep x1.gh (.inl r1) ek, (show KV X.K G H (.bl (!k)) Q from g2) _ G1 H1 x1 (.bl _)⟩
/-- a test by an expression's truth -/
def truB : Expr → Bool
  | .Name _ _ | .Call _ _ _ _ | .Subscript _ _ _ | .Attribute _ _ _ | .Constant _ _ _ | .BinOp _ _ _ _ | .Tuple _ _ _ | .List _ _ => true
  | _ => false
theorem isT_of {e : Expr} {env : Env} (h : truB e = true) : ∀ whole, isTrue e env whole = (do let v ← whole; standAt e.pos; holding [v] (truthy v)) := by
  intro w
  cases e <;> first | rfl | cases h
theorem t_tr {a : E} {e : Expr} (A : VE X Γ a e) (n : truB e = true) : VC X Γ (.tr a) e := by
  obtain ⟨t, p, q⟩ := A
  refine ⟨_, pt_truth p (isT_of n), fun σ ρ G H Q rr g => q σ ρ G H _ rr ?_⟩
  rw [evC] at g
  refine g.bind.mono fun d g1 v G1 H1 x1 r1 => ?_
  obtain ⟨k, ek, g2⟩ := Good.eq g1
  exact ⟨k, tru_rep x1.gh (.inl r1) ek, g2 G1 H1 x1⟩
theorem t_bv {i : Nat} {e : Expr} (A : VB X Γ (.var i) e) (n : truB e = true) : VC X Γ (.bv i) e := by
  obtain ⟨t, p, q⟩ := A
  refine ⟨_, pt_truth p (isT_of n), fun σ ρ G H Q rr g => q σ ρ G H _ rr ?_⟩
  rw [evC] at g
  refine (show Good (evB Γ (.var i) ρ) _ from g.bind).mono fun d g1 v G1 H1 x1 r1 => ?_
  obtain ⟨k, ek, g2⟩ := Good.eq g1
  exact ⟨k, tru_rep x1.gh r1 ek, g2 G1 H1 x1⟩
theorem t_not {c : C} {e : Expr} {pos : Pos} (A : VC X Γ c e) : VC X Γ (.not c) (.UnaryOp .Not e pos) := by
  obtain ⟨t, p, q⟩ := A
  refine ⟨_, pt_not p, fun σ ρ G H Q rr g => q σ ρ G H _ rr ?_⟩
  rw [evC] at g
  exact g.bind.mono fun k g1 => g1
theorem w_and1 {c : C} {e : Expr} {pos : Pos} (A : VC X Γ c e) : VW X Γ c (.BoolOp .And [e] pos) := by
  obtain ⟨t, p, q⟩ := A
  exact ⟨_, pw_and1 p, q⟩
theorem w_or1 {c : C} {e : Expr} {pos : Pos} (A : VC X Γ c e) : VW X Γ c (.BoolOp .Or [e] pos) := by
  obtain ⟨t, p, q⟩ := A
  exact ⟨_, pw_or1 p, q⟩
theorem VW.c {c : C} {e : Expr} (A : VW X Γ c e) : VC X Γ c e := by
  obtain ⟨t, p, q⟩ := A
  exact ⟨_, p.pt, q⟩
theorem w_and {a b : C} {e1 e2 : Expr} {r : List Expr} {pos : Pos} (A : VC X Γ a e1) (B : VW X Γ b (.BoolOp .And (e2 :: r) pos)) : VW X Γ (.and a b) (.BoolOp .And (e1 :: e2 :: r) pos) := by
  obtain ⟨t1, p1, q1⟩ := A
  obtain ⟨t2, p2, q2⟩ := B
  refine ⟨_, pw_and p1 p2, fun σ ρ G H Q rr g => q1 σ ρ G H _ rr ?_⟩
  rw [evC] at g
  refine g.bind.mono fun k g1 G1 H1 x1 => ?_
  cases k with
  | true => exact q2 σ ρ G1 H1 Q (rr.ext x1) (Good.mono (P := fun k => ∀ G' H', Ext G H G' H' → Q k H') g1 fun k z G2 H2 x2 => z G2 H2 (x1.trans x2))
  | false => exact (show ∀ G' H', Ext G H G' H' → Q false H' from g1) G1 H1 x1
theorem w_or {a b : C} {e1 e2 : Expr} {r : List Expr} {pos : Pos} (A : VC X Γ a e1) (B : VW X Γ b (.BoolOp .Or (e2 :: r) pos)) : VW X Γ (.or a b) (.BoolOp .Or (e1 :: e2 :: r) pos) := by
  obtain ⟨t1, p1, q1⟩ := A
  obtain ⟨t2, p2, q2⟩ := B
  refine ⟨_, pw_or p1 p2, fun σ ρ G H Q rr g => q1 σ ρ G H _ rr ?_⟩
  rw [evC] at g
  refine g.bind.mono fun k g1 G1 H1 x1 => ?_
  cases k with
  | false => exact q2 σ ρ G1 H1 Q (rr.ext x1) (Good.mono (P := fun k => ∀ G' H', Ext G H G' H' → Q k H') g1 fun k z G2 H2 x2 => z G2 H2 (x1.trans x2))
  | true => exact (show ∀ G' H', Ext G H G' H' → Q true H' from g1) G1 H1 x1
theorem v_ite {c : C} {a b : E} {e e1 e2 : Expr} {pos : Pos} (A : VC X Γ c e) (B : VE X Γ a e1) (B2 : VE X Γ b e2) : VE X Γ (.ite c a b) (.IfExp e e1 e2 pos) := by
  obtain ⟨t, p, q⟩ := A
  obtain ⟨t1, p1, q1⟩ := B
  obtain ⟨t2, p2, q2⟩ := B2
  refine ⟨_, pe_ifExp p p1 p2, fun σ ρ G H Q rr g => q σ ρ G H _ rr ?_⟩
  rw [evE] at g
  refine g.bind.mono fun k g1 G1 H1 x1 => ?_
  cases k with
  | true => exact q1 σ ρ G1 H1 Q (rr.ext x1) (Good.mono (P := fun d => KV X.K G H d Q) g1 fun d k => k.ext x1)
  | false => exact q2 σ ρ G1 H1 Q (rr.ext x1) (Good.mono (P := fun d => KV X.K G H d Q) g1 fun d k => k.ext x1)
theorem lastM {o1 o2 : CmpOp} {b c : Expr} (h : noSet c = true) : lastMarks [o1, o2] [b, c] = false := by
  show behindInMarks o2 c = false
  exact mark_of h
/-- a op b op c -/
theorem v_chain (h : XH CX X S fns Γ) {o1 o2 : O} {p1 p2 : CmpOp} {a b c : E} {ea eb ec : Expr} {pos : Pos} (e1 : cmpO p1 = some o1) (e2 : cmpO p2 = some o2) (n : noSet ec = true) (A : VE X Γ a ea) (B : VE X Γ b eb) (C' : VE X Γ c ec) :
    VE X Γ (.chain o1 o2 a b c) (.Compare ea [p1, p2] [eb, ec] pos) ∧ VC X Γ (.tr (.chain o1 o2 a b c)) (.Compare ea [p1, p2] [eb, ec] pos) := by
  obtain ⟨_, r1, ho1, sm1, bl1⟩ := cmp_rule h.hu e1
  obtain ⟨_, r2, ho2, sm2, bl2⟩ := cmp_rule h.hu e2
  obtain ⟨t1, q1, f1⟩ := A
  obtain ⟨t2, q2, f2⟩ := B
  obtain ⟨t3, q3, f3⟩ := C'
  -- the reading, by what is wanted of the bool at the end
  have core : ∀ (σ : L2.St) (ρ : En) (G H : Hp) (Q : VK), ER X.K G H σ ρ → Good (evE Γ (.chain o1 o2 a b c) ρ) (fun d => ∀ k, d = .bl k → ∀ G' H', Ext G H G' H' → Q (.bl k) H') → tChain r1 r2 t1 t2 t3 σ H Q := by
    intro σ ρ G H Q rr g
    refine f1 σ ρ G H _ rr ?_
    rw [evE] at g
    refine g.bind.mono fun d1 g1 v1 G1 H1 x1 rv1 => f2 σ ρ G1 H1 _ (rr.ext x1) ?_
    refine (Good.bind g1).mono fun d2 g2 v2 G2 H2 x2 rv2 => sm1 v1 v2 d1 d2 G2 H2 _ x2.gh (.inl (rv1.mono x2.gg)) (.inl rv2) ?_
    obtain ⟨w, ew, g3⟩ := (Good.bind g2).eq
    obtain ⟨k, rfl⟩ := bl1 _ _ _ ew
    rw [ew]
    intro z G3 H3 x3 rz
    cases rz
    refine ⟨k, rfl, ?_⟩
    cases k with
    | false => exact (show ∀ k, D.bl false = .bl k → ∀ G' H', Ext G H G' H' → Q (.bl k) H' from g3) false rfl G3 H3 ((x1.trans x2).trans x3)
    | true =>
      refine f3 σ ρ G3 H3 _ ((rr.ext x1).ext x2 |>.ext x3) ?_
      have g3 : Good ((evE Γ c ρ).bind fun z => o2.sem [d2, z]) (fun d => ∀ k, d = .bl k → ∀ G' H', Ext G H G' H' → Q (.bl k) H') := g3
      refine g3.bind.mono fun d3 g4 v3 G4 H4 x4 rv3 => sm2 v2 v3 d2 d3 G4 H4 _ x4.gh (.inl (rv2.mono (x3.gg.trans x4.gg))) (.inl rv3) ?_
      obtain ⟨w, ew, g5⟩ := Good.eq g4
      obtain ⟨k, rfl⟩ := bl2 _ _ _ ew
      rw [ew]
      intro z G5 H5 x5 rz
      cases rz
      exact g5 k rfl G5 H5 (((x1.trans x2).trans x3).trans (x4.trans x5))
  refine ⟨⟨_, pe_chain ho1 ho2 q1 q2 q3 (lastM n), fun σ ρ G H Q rr g => core σ ρ G H Q rr (g.mono fun d k b eb G' H' x => ?_)⟩, ⟨_, pt_chain ho1 ho2 q1 q2 q3 (lastM n), fun σ ρ G H Q rr g => core σ ρ G H _ rr ?_⟩⟩
  · subst eb
    exact k _ G' H' x (.bl b)
  · rw [evC] at g
    refine g.bind.mono fun d g1 b eb G' H' x => ?_
    subst eb
    exact ⟨b, rfl, (show ∀ G' H', Ext G H G' H' → Q b H' from g1) G' H' x⟩

/-! ### targets -/
mutual
def tgIn (vs : List Nat) : Tg → Bool
  | .nm i => vs.contains i
  | .tp ts => tgIns vs ts
def tgIns (vs : List Nat) : List Tg → Bool
  | [] => true
  | t :: ts => tgIn vs t && tgIns vs ts
end
mutual
def chT (S : Sco) : Tg → Expr → Bool
  | .nm i, .Name x _ => decide (S.N[i]? = some x) && S.sto x
  | .tp ts, .Tuple es _ _ => chTs S ts es
  | _, _ => false
def chTs (S : Sco) : List Tg → List Expr → Bool
  | [], [] => true
  | t :: ts, e :: es => nst e && chT S t e && chTs S ts es
  | _, _ => false
end
theorem wipe_set (σ : L2.St) (i : Nat) (w : Option V) : ∀ vs : List Nat, L2.wipe (σ.set i w) vs = if i ∈ vs then L2.wipe σ vs else (L2.wipe σ vs).set i w
  | [] => by simp [L2.wipe]
  | v :: vs => by
    have ih := wipe_set σ i w vs
    unfold L2.wipe
    rw [ih]
    by_cases h : i = v
    · subst h
      simp only [List.mem_cons, true_or, if_true]
      split
      · rfl
      · rw [List.set_set]
    · by_cases h2 : i ∈ vs
      · simp [h2]
      · simp only [h2, if_false, List.mem_cons, h, or_self]
        rw [List.set_comm _ _ h]
theorem asg_cons {e : Expr} {es : List Expr} {env : Env} (h : nst e = true) : assignEach (e :: es) env = (false, assign e env) :: assignEach es env := by
  cases e <;> first | rfl | cases h
theorem chTs_nst {S : Sco} : ∀ {ts : List Tg} {es : List Expr}, chTs S ts es = true → es.all nst = true ∧ ts.length = es.length
  | [], [], _ => ⟨rfl, rfl⟩
  | [], _ :: _, h => by cases h
  | _ :: _, [], h => by simp [chTs] at h
  | t :: ts, e :: es, h => by
    simp only [chTs, Bool.and_eq_true] at h
    obtain ⟨h1, h2⟩ := chTs_nst h.2
    exact ⟨by rw [List.all_cons, h.1.1, h1]; rfl, by rw [List.length_cons, List.length_cons, h2]⟩
theorem asg_len {env : Env} : ∀ {es : List Expr}, es.all nst = true → (assignEach es env).length = es.length ∧ (assignEach es env).findIdx? (·.1) = none
  | [], _ => ⟨rfl, rfl⟩
  | e :: es, h => by
    rw [List.all_cons, Bool.and_eq_true] at h
    obtain ⟨h1, h2⟩ := asg_len (env := env) h.2
    rw [asg_cons h.1]
    refine ⟨by rw [List.length_cons, List.length_cons, h1], ?_⟩
    rw [List.findIdx?_cons]
    simp [h2]
/-- what is owned behind a binding was so ahead of it -/
def OwnSub (σ : L2.St) (ρ : En) (σ' : L2.St) (ρ' : En) : Prop := ∀ (j : Nat) (dj : D) (a : Addr), ρ'[j]? = some (.own dj) → σ'[j]? = some (some (.ref a)) → ρ[j]? = some (.own dj) ∧ σ[j]? = some (some (.ref a))
theorem OwnSub.refl {σ : L2.St} {ρ : En} : OwnSub σ ρ σ ρ := fun _ _ _ a b => ⟨a, b⟩
theorem OwnSub.trans {σ σ1 σ2 : L2.St} {ρ ρ1 ρ2 : En} (a : OwnSub σ ρ σ1 ρ1) (b : OwnSub σ1 ρ1 σ2 ρ2) : OwnSub σ ρ σ2 ρ2 := fun j dj c e1 e2 => let ⟨z1, z2⟩ := b j dj c e1 e2; a j dj c z1 z2
theorem set_own {ρ : En} {i j : Nat} {s : Slot} {d : D} (h : ∀ d, s ≠ .own d) (e : (ρ.set i s)[j]? = some (.own d)) : i ≠ j ∧ ρ[j]? = some (.own d) := by
  have n : i ≠ j := fun z => by
    subst z
    have hl : i < ρ.length := by
      have := (List.getElem?_eq_some_iff.mp e).1
      rwa [List.length_set] at this
    rw [List.getElem?_set_self hl] at e
    cases e
    exact h _ rfl
  rw [List.getElem?_set_ne n] at e
  exact ⟨n, e⟩
theorem OwnSub.val {σ : L2.St} {ρ : En} {i : Nat} {w : Option V} {d : D} : OwnSub σ ρ (σ.set i w) (ρ.set i (.val d)) := fun j dj a e1 e2 => by
  obtain ⟨n, e1⟩ := set_own (s := .val _) (fun _ z => by cases z) e1
  rw [List.getElem?_set_ne n] at e2
  exact ⟨e1, e2⟩
def PGok (X : Cx) (tg : Tg) (e : Expr) : Prop := ∃ g, PG X e g ∧ ∀ σ ρ G H v d (Q : L2.St → Hp → Prop), ER X.K G H σ ρ → Rep X.K G v d →
  Good (bindT tg d ρ) (fun ρ' => ∀ σ', ER X.K G H σ' ρ' → OwnSub σ ρ σ' ρ' → (∀ vs, tgIn vs tg = true → L2.wipe σ' vs = L2.wipe σ vs) → Q σ' H) → g v σ H Q
def PGsok (X : Cx) (ts : List Tg) (es : List Expr) : Prop := ∃ g, PGs X es g ∧ ∀ σ ρ G H vs ds (Q : L2.St → Hp → Prop), ER X.K G H σ ρ → Reps X.K G vs ds →
  Good (bindTs ts ds ρ) (fun ρ' => ∀ σ', ER X.K G H σ' ρ' → OwnSub σ ρ σ' ρ' → (∀ ws, tgIns ws ts = true → L2.wipe σ' ws = L2.wipe σ ws) → Q σ' H) → g vs σ H Q
mutual
theorem pg_ok (h : XH CX X S fns Γ) : ∀ (tg : Tg) (e : Expr), chT S tg e = true → PGok X tg e
  | .nm i, e, c => by
    cases e with
    | Name x p =>
      simp only [chT, Bool.and_eq_true, decide_eq_true_eq] at c
      obtain ⟨l, f⟩ := h.st x c.2
      refine ⟨_, pg_name (by rw [h.hN]; exact h.nd) (by rw [h.hN]; exact c.1) l f, fun σ ρ G H v d Q r rv g => ?_⟩
      simp only [bindT] at g
      refine g _ (r.setVal rv) .val fun vs z => ?_
      have z : i ∈ vs := by simpa [tgIn] using z
      rw [wipe_set, if_pos z]
    | _ => simp [chT] at c
  | .tp ts, e, c => by
    cases e with
    | Tuple es k p =>
      have c : chTs S ts es = true := by simpa [chT] using c
      obtain ⟨n1, n2⟩ := chTs_nst c
      obtain ⟨a1, a2⟩ := asg_len (env := X.env) n1
      obtain ⟨g, pg, f⟩ := pgs_ok h ts es c
      refine ⟨_, pg_tup h.calm pg a1 a2, fun σ ρ G H v d Q r rv gg => ?_⟩
      cases d with
      | tup ds =>
        cases rv with
        | tup e rs =>
          simp only [bindT] at gg
          refine ⟨_, _, rfl, .of (r.sub _ _ e), ?_, f σ ρ G H _ _ Q r rs (gg.mono fun ρ' k σ' r' os w => k σ' r' os fun vs z => w vs (by simpa [tgIn] using z))⟩
          rw [rs.length, ← n2]
          obtain ⟨ρ', e1, _⟩ := gg.eq
          exact len_bind e1
      | _ => exact (show False by simpa [bindT, Good] using gg).elim
    | _ => simp [chT] at c
theorem pgs_ok (h : XH CX X S fns Γ) : ∀ (ts : List Tg) (es : List Expr), chTs S ts es = true → PGsok X ts es
  | [], [], _ => ⟨_, pgs_nil, fun σ ρ G H vs ds Q r rs g => by
    cases ds with
    | nil =>
      cases rs
      simp only [bindTs] at g
      exact ⟨rfl, g σ r .refl fun _ _ => rfl⟩
    | cons d ds => exact (show False by simpa [bindTs, Good] using g).elim⟩
  | [], _ :: _, c => by simp [chTs] at c
  | _ :: _, [], c => by simp [chTs] at c
  | t :: ts, e :: es, c => by
    simp only [chTs, Bool.and_eq_true] at c
    obtain ⟨g1, p1, f1⟩ := pg_ok h t e c.1.2
    obtain ⟨g2, p2, f2⟩ := pgs_ok h ts es c.2
    refine ⟨_, pgs_cons p1 p2 (by rw [asg_cons c.1.1]; rfl), fun σ ρ G H vs ds Q r rs g => ?_⟩
    cases ds with
    | nil => exact (show False by simpa [bindTs, Good] using g).elim
    | cons d ds =>
      cases rs with
      | cons rv rs =>
        simp only [bindTs] at g
        refine ⟨_, _, rfl, f1 σ ρ G H _ _ _ r rv (g.bind.mono fun ρ1 g1 σ1 r1 o1 w1 => f2 σ1 ρ1 G H _ _ Q r1 rs (Good.mono g1 fun ρ2 k σ2 r2 o2 w2 => k σ2 r2 (o1.trans o2) fun vs z => ?_))⟩
        have z : tgIn vs t = true ∧ tgIns vs ts = true := by simpa [tgIns] using z
        rw [w2 vs z.2, w1 vs z.1]
theorem len_bind : ∀ {ts : List Tg} {ds : List D} {ρ ρ' : En}, bindTs ts ds ρ = .ok ρ' → ds.length = ts.length
  | [], [], _, _, _ => rfl
  | [], _ :: _, _, _, e => by simp [bindTs] at e
  | _ :: _, [], _, _, e => by simp [bindTs] at e
  | t :: ts, d :: ds, ρ, ρ', e => by
    simp only [bindTs] at e
    obtain ⟨ρ1, _, e2⟩ := Res.bind_eq_ok e
    rw [List.length_cons, List.length_cons, len_bind e2]
end
end
end Den

/-! DenI: readings of one form; what a loop walks; list comprehensions. -/
namespace Den
open PySem PySem.Spec PyProof.Rows L2

/-! ### readings of one form -/
def tE (K : PySem.W.Frag) (Γ : Cn) (a : E) : TE := fun σ H Q => ∃ G ρ, ER K G H σ ρ ∧ Good (evE Γ a ρ) fun d => KV K G H d Q
def tF (K : PySem.W.Frag) (Γ : Cn) (a : E) : TE := fun σ H Q => ∃ G ρ, ER K G H σ ρ ∧ Good (evE Γ a ρ) fun d => KF K G H d Q
def tC' (K : PySem.W.Frag) (Γ : Cn) (c : C) : TT := fun σ H Q => ∃ G ρ, ER K G H σ ρ ∧ Good (evC Γ c ρ) fun k => ∀ G' H', Ext G H G' H' → Q k H'
def gE (K : PySem.W.Frag) (tg : Tg) : TG := fun v σ H Q => ∃ G ρ d, ER K G H σ ρ ∧ Rep K G v d ∧ Good (bindT tg d ρ) fun ρ' => ∀ σ', ER K G H σ' ρ' → OwnSub σ ρ σ' ρ' → (∀ vs, tgIn vs tg = true → L2.wipe σ' vs = L2.wipe σ vs) → Q σ' H
section
variable {CX : CXT} {X : Cx} {S : Sco} {fns : List Str} {Γ : Cn}
theorem VE.pe {a : E} {e : Expr} (h : VE X Γ a e) : PE X e (tE X.K Γ a) := by
  obtain ⟨t, p, q⟩ := h
  exact ⟨fun pins s σ H Q I ⟨G, ρ, r, g⟩ => p.run pins s σ H Q I (q σ ρ G H Q r g)⟩
theorem VF.pe {a : E} {e : Expr} (h : VF X Γ a e) : PE X e (tF X.K Γ a) := by
  obtain ⟨t, p, q⟩ := h
  exact ⟨fun pins s σ H Q I ⟨G, ρ, r, g⟩ => p.run pins s σ H Q I (q σ ρ G H Q r g)⟩
theorem VC.pt {c : C} {e : Expr} (h : VC X Γ c e) : PT X e (tC' X.K Γ c) := by
  obtain ⟨t, p, q⟩ := h
  exact ⟨fun pins s σ H Q I ⟨G, ρ, r, g⟩ => p.run pins s σ H Q I (q σ ρ G H Q r g)⟩
theorem VC.pts {c : C} {e : Expr} (h : VC X Γ c e) : PTs X [e] (tC' X.K Γ c) := pts_one h.pt
theorem pts_tt : PTs X [] (tC' X.K Γ .tt) :=
  ⟨fun pins s σ H Q I ⟨G, ρ, r, g⟩ => pts_nil.run pins s σ H Q I ((show ∀ G' H', Ext G H G' H' → Q true H' by simpa [evC, Good] using g) G H (.refl r.sub))⟩
theorem PGok.pg {tg : Tg} {e : Expr} (h : PGok X tg e) : PG X e (gE X.K tg) := by
  obtain ⟨t, p, q⟩ := h
  exact ⟨fun pins s σ H v u Q I rv ⟨G, ρ, d, r, rd, g⟩ => p.run pins s σ H v u Q I rv (q σ ρ G H v d Q r rd g)⟩

/-! ### what a loop walks -/
/-- J gives ds in order, while what is in B stands -/
def JOk (K : PySem.W.Frag) (J : It) (B G : Hp) (ds : List D) : Prop := ∀ i H', Same B H' →
  (∀ d, ds[i]? = some d → J.go i H' ∧ ∀ x H'', J.yld i H' x H'' → ∀ G', Same G G' → Same G' H' → ∃ G'', Ext G' H' G'' H'' ∧ Rep K G'' x d) ∧ (ds.length ≤ i → J.stop i H')
theorem j_list {K : PySem.W.Frag} {B G : Hp} {a : Addr} {vs : List V} {ds : List D} (h : SqL K B a vs) (r : Reps K G vs ds) : JOk K (Itl K a) B G ds := fun i H' s => by
  refine ⟨fun d e => ?_, fun e => ⟨vs, s.seq h, by rw [r.length]; exact e⟩⟩
  obtain ⟨v, e1, rv⟩ := r.get e
  refine ⟨⟨vs, v, s.seq h, e1⟩, fun x H'' y G' s1 s2 => ?_⟩
  obtain ⟨rfl, f⟩ := y
  have := f vs (s.seq h)
  rw [e1] at this
  cases this
  exact ⟨G', .refl s2, rv.mono s1⟩
theorem j_tup {K : PySem.W.Frag} {B G : Hp} {a : Addr} {vs : List V} {ds : List D} (h : SqT K B a vs) (r : Reps K G vs ds) : JOk K (Itt K a) B G ds := fun i H' s => by
  refine ⟨fun d e => ?_, fun e => ⟨vs, same_sqt s h, by rw [r.length]; exact e⟩⟩
  obtain ⟨v, e1, rv⟩ := r.get e
  refine ⟨⟨vs, v, same_sqt s h, e1⟩, fun x H'' y G' s1 s2 => ?_⟩
  obtain ⟨rfl, f⟩ := y
  have := f vs (same_sqt s h)
  rw [e1] at this
  cases this
  exact ⟨G', .refl s2, rv.mono s1⟩
theorem j_range {K : PySem.W.Frag} {B G : Hp} {lo : Int} {n : Nat} : JOk K (Itr lo n) B G ((List.range n).map fun k => .int (lo + (k : Nat))) := fun i H' s => by
  refine ⟨fun d e => ?_, fun e => by rw [List.length_map, List.length_range] at e; exact e⟩
  rw [List.getElem?_map] at e
  have hi : i < n := by
    cases q : (List.range n)[i]? with
    | none => rw [q] at e; cases e
    | some j => simpa using (List.getElem?_eq_some_iff.mp q).1
  rw [List.getElem?_range hi] at e
  cases e
  refine ⟨hi, fun x H'' y G' s1 s2 => ?_⟩
  obtain ⟨rfl, rfl⟩ := y
  exact ⟨G', .refl s2, .int _⟩
theorem j_revL {K : PySem.W.Frag} {B G : Hp} {a : Addr} {vs : List V} {ds : List D} (h : SqL K B a vs) (r : Reps K G vs ds) : JOk K (Itv K a vs.length) B G ds.reverse := fun i H' s => by
  have hl := r.length
  refine ⟨fun d e => ?_, fun e => by rw [List.length_reverse] at e; show vs.length ≤ i; omega⟩
  have hi : i < ds.length := by
    have := (List.getElem?_eq_some_iff.mp e).1
    simpa using this
  rw [List.getElem?_reverse hi] at e
  obtain ⟨v, e1, rv⟩ := r.get e
  rw [← hl] at e1
  refine ⟨⟨by omega, vs, v, s.seq h, e1⟩, fun x H'' y G' s1 s2 => ?_⟩
  obtain ⟨rfl, f⟩ := y
  have := f vs (s.seq h)
  rw [e1] at this
  cases this
  exact ⟨G', .refl s2, rv.mono s1⟩
theorem j_revT {K : PySem.W.Frag} {B G : Hp} {a : Addr} {vs : List V} {ds : List D} (h : SqT K B a vs) (r : Reps K G vs ds) : JOk K (RT.ItvT K a vs.length) B G ds.reverse := fun i H' s => by
  have hl := r.length
  refine ⟨fun d e => ?_, fun e => by rw [List.length_reverse] at e; show vs.length ≤ i; omega⟩
  have hi : i < ds.length := by
    have := (List.getElem?_eq_some_iff.mp e).1
    simpa using this
  rw [List.getElem?_reverse hi] at e
  obtain ⟨v, e1, rv⟩ := r.get e
  rw [← hl] at e1
  refine ⟨⟨by omega, vs, v, same_sqt s h, e1⟩, fun x H'' y G' s1 s2 => ?_⟩
  obtain ⟨rfl, f⟩ := y
  have := f vs (same_sqt s h)
  rw [e1] at this
  cases this
  exact ⟨G', .refl s2, rv.mono s1⟩
/-- a new pair -/
theorem new_pair {K : PySem.W.Frag} {G' H' : Hp} {T : Addr} {x y : V} {a b : D} (s : Same G' H') (n : H' T = none) (rx : Rep K G' x a) (ry : Rep K G' y b) : ∃ G'', Ext G' H' G'' (upd H' T (.tup [x, y])) ∧ Rep K G'' (.ref T) (.tup [a, b]) :=
  ⟨_, .new s n, .tup upd_same (.cons (rx.mono (Ext.new s n).gg) (.cons (ry.mono (Ext.new s n).gg) .nil))⟩
theorem j_enum {K : PySem.W.Frag} {B G : Hp} {a : Addr} {vs : List V} {ds : List D} (h : SqL K B a vs) (r : Reps K G vs ds) : JOk K (Ite K a) B G (ds.zipIdx.map fun p => .tup [.int (p.2 : Nat), p.1]) := fun i H' s => by
  refine ⟨fun d e => ?_, fun e => ⟨vs, s.seq h, by rw [r.length]; simpa using e⟩⟩
  rw [List.getElem?_map, List.getElem?_zipIdx] at e
  cases q : ds[i]? with
  | none => rw [q] at e; cases e
  | some d0 =>
    rw [q] at e
    cases e
    obtain ⟨v, e1, rv⟩ := r.get q
    refine ⟨⟨vs, v, s.seq h, e1⟩, fun x H'' y G' s1 s2 => ?_⟩
    obtain ⟨T, z, rfl, nT, rfl, f⟩ := y
    have := f vs (s.seq h)
    rw [e1] at this
    cases this
    have e0 : ((0 + i : Nat) : Int) = (i : Int) := by omega
    show ∃ G'', _ ∧ Rep K G'' _ (.tup [.int ((0 + i : Nat) : Int), d0])
    rw [e0]
    exact new_pair s2 nT (.int _) (rv.mono s1)
theorem j_zipL {K : PySem.W.Frag} {B G : Hp} {a b : Addr} {vs ws : List V} {ds es : List D} (h : SqL K B a vs) (h2 : SqL K B b ws) (r : Reps K G vs ds) (r2 : Reps K G ws es) : JOk K (Itz K a b) B G ((ds.zip es).map fun p => .tup [p.1, p.2]) := fun i H' s => by
  refine ⟨fun d e => ?_, fun e => ⟨vs, ws, s.seq h, s.seq h2, by rw [r.length, r2.length]; simp at e; omega⟩⟩
  rw [List.getElem?_map] at e
  cases q : (ds.zip es)[i]? with
  | none => rw [q] at e; cases e
  | some z =>
    rw [q] at e
    cases e
    obtain ⟨q1, q2⟩ := List.getElem?_zip_eq_some.mp q
    obtain ⟨v, e1, rv⟩ := r.get q1
    obtain ⟨u, e2, ru⟩ := r2.get q2
    refine ⟨⟨vs, ws, v, u, s.seq h, s.seq h2, e1, e2⟩, fun x H'' y G' s1 s2 => ?_⟩
    obtain ⟨T, z1, z2, rfl, nT, rfl, f1, f2⟩ := y
    have w1 := f1 vs (s.seq h)
    have w2 := f2 ws (s.seq h2)
    rw [e1] at w1
    rw [e2] at w2
    cases w1
    cases w2
    exact new_pair s2 nT (rv.mono s1) (ru.mono s1)
theorem j_zipT {K : PySem.W.Frag} {B G : Hp} {a b : Addr} {vs ws : List V} {ds es : List D} (h : SqT K B a vs) (h2 : SqT K B b ws) (r : Reps K G vs ds) (r2 : Reps K G ws es) : JOk K (RZ.ItzT K a b) B G ((ds.zip es).map fun p => .tup [p.1, p.2]) := fun i H' s => by
  refine ⟨fun d e => ?_, fun e => ⟨vs, ws, same_sqt s h, same_sqt s h2, by rw [r.length, r2.length]; simp at e; omega⟩⟩
  rw [List.getElem?_map] at e
  cases q : (ds.zip es)[i]? with
  | none => rw [q] at e; cases e
  | some z =>
    rw [q] at e
    cases e
    obtain ⟨q1, q2⟩ := List.getElem?_zip_eq_some.mp q
    obtain ⟨v, e1, rv⟩ := r.get q1
    obtain ⟨u, e2, ru⟩ := r2.get q2
    refine ⟨⟨vs, ws, v, u, same_sqt s h, same_sqt s h2, e1, e2⟩, fun x H'' y G' s1 s2 => ?_⟩
    obtain ⟨T, z1, z2, rfl, nT, rfl, f1, f2⟩ := y
    have w1 := f1 vs (same_sqt s h)
    have w2 := f2 ws (same_sqt s h2)
    rw [e1] at w1
    rw [e2] at w2
    cases w1
    cases w2
    exact new_pair s2 nT (rv.mono s1) (ru.mono s1)

/-- a loop's source: b: borrowed (a comprehension's) -/
def VI (X : Cx) (Γ : Cn) (b : Bool) (k : IK) (src : Es) (tg iter : Expr) : Prop := ∃ wi, PI X tg iter wi ∧ ∀ σ ρ G H (R : It → Hp → Prop), ER X.K G H σ ρ →
  Good (evEs Γ b src ρ) (fun ds => Good (items k ds) fun xs => ∀ J G' H', Ext G H G' H' → JOk X.K J (if b then H' else G') G' xs → R J H') → wi σ H R
/-- an operand at b -/
def RX (b : Bool) (K : PySem.W.Frag) (G H : Hp) (v : V) (d : D) : Prop := if b then RepB K G H v d else Rep K G v d
theorem RX.b {b : Bool} {K : PySem.W.Frag} {G H : Hp} {v : V} {d : D} (r : RX b K G H v d) : RepB K G H v d := by
  cases b with
  | true => exact r
  | false => exact .inl r
theorem RX.ext {b : Bool} {K : PySem.W.Frag} {G H G1 H1 : Hp} {v : V} {d : D} (r : RX b K G H v d) (e : Ext G H G1 H1) : RX b K G1 H1 v d := by
  cases b with
  | true => exact RepB.ext r e
  | false => exact Rep.mono e.gg r
theorem src1 {b : Bool} {es : Es} {e : Expr} (L : VL X Γ b es [e]) : ∃ t, PE X e t ∧ ∀ σ ρ G H (Q : VK), ER X.K G H σ ρ → Good (evEs Γ b es ρ) (fun ds => ∀ d v G' H', ds = [d] → Ext G H G' H' → RX b X.K G' H' v d → Q v H') → t σ H Q := by
  cases L with
  | consB A R =>
    cases R
    obtain ⟨t, p, q⟩ := A
    refine ⟨t, p, fun σ ρ G H Q rr g => q σ ρ G H Q rr ?_⟩
    rw [evEs_B] at g
    exact g.bind.mono fun d g1 v G1 H1 x1 r1 => (show ∀ d' v G' H', [d] = [d'] → Ext G H G' H' → RX true X.K G' H' v d' → Q v H' from g1) d v G1 H1 rfl x1 r1
  | consV A R =>
    cases R
    obtain ⟨t, p, q⟩ := A
    refine ⟨t, p, fun σ ρ G H Q rr g => q σ ρ G H Q rr ?_⟩
    rw [evEs_V] at g
    exact g.bind.mono fun d g1 v G1 H1 x1 r1 => (show ∀ d' v G' H', [d] = [d'] → Ext G H G' H' → RX false X.K G' H' v d' → Q v H' from g1) d v G1 H1 rfl x1 r1
theorem src2 {b : Bool} {es : Es} {e e2 : Expr} (L : VL X Γ b es [e, e2]) : ∃ t t2, PE X e t ∧ PE X e2 t2 ∧ ∀ σ ρ G H (Q : V → V → Hp → Prop), ER X.K G H σ ρ → Good (evEs Γ b es ρ) (fun ds => ∀ d d2 v v2 G' H', ds = [d, d2] → Ext G H G' H' → RX b X.K G' H' v d → RX b X.K G' H' v2 d2 → Q v v2 H') →
    t σ H fun v H1 => t2 σ H1 fun v2 H2 => Q v v2 H2 := by
  cases L with
  | consB A R =>
    obtain ⟨t2, p2, q2⟩ := src1 R
    obtain ⟨t, p, q⟩ := A
    refine ⟨t, t2, p, p2, fun σ ρ G H Q rr g => q σ ρ G H _ rr ?_⟩
    rw [evEs_B] at g
    refine g.bind.mono fun d g1 v G1 H1 x1 r1 => q2 σ ρ G1 H1 _ (rr.ext x1) ((Good.bind g1).mono fun ds g2 d2 v2 G2 H2 e2 x2 r2 => ?_)
    exact (show ∀ d' d2' v v2 G' H', d :: ds = [d', d2'] → Ext G H G' H' → RX true X.K G' H' v d' → RX true X.K G' H' v2 d2' → Q v v2 H' from g2) d d2 v v2 G2 H2 (by rw [e2]) (x1.trans x2) (RepB.ext r1 x2) r2
  | consV A R =>
    obtain ⟨t2, p2, q2⟩ := src1 R
    obtain ⟨t, p, q⟩ := A
    refine ⟨t, t2, p, p2, fun σ ρ G H Q rr g => q σ ρ G H _ rr ?_⟩
    rw [evEs_V] at g
    refine g.bind.mono fun d g1 v G1 H1 x1 r1 => q2 σ ρ G1 H1 _ (rr.ext x1) ((Good.bind g1).mono fun ds g2 d2 v2 G2 H2 e2 x2 r2 => ?_)
    exact (show ∀ d' d2' v v2 G' H', d :: ds = [d', d2'] → Ext G H G' H' → RX false X.K G' H' v d' → RX false X.K G' H' v2 d2' → Q v v2 H' from g2) d d2 v v2 G2 H2 (by rw [e2]) (x1.trans x2) (Rep.mono x2.gg r1) r2
/-- a list or a tuple, as it stands at the base of a walk -/
theorem base_lst {b : Bool} {K : PySem.W.Frag} {G H : Hp} {v : V} {ds : List D} (s : Same G H) (r : RX b K G H v (.lst ds)) : ∃ a vs, v = .ref a ∧ SqL K (if b then H else G) a vs ∧ SqL K H a vs ∧ Reps K G vs ds := by
  cases b with
  | true => obtain ⟨a, vs, e, h, rr⟩ := RepB.lst r s; exact ⟨a, vs, e, .of h, .of h, rr⟩
  | false =>
    have r : Rep K G v (.lst ds) := r
    cases r with
    | lst h rr => exact ⟨_, _, rfl, .of h, .of (s _ _ h), rr⟩
theorem base_tup {b : Bool} {K : PySem.W.Frag} {G H : Hp} {v : V} {ds : List D} (s : Same G H) (r : RX b K G H v (.tup ds)) : ∃ a vs, v = .ref a ∧ SqT K (if b then H else G) a vs ∧ SqT K H a vs ∧ Reps K G vs ds := by
  obtain ⟨a, vs, e, h, rr⟩ := r.b.tup
  refine ⟨a, vs, e, ?_, .of (s _ _ h), rr⟩
  cases b with
  | true => exact .of (s _ _ h)
  | false => exact .of h
theorem base_lstC {b : Bool} {K : PySem.W.Frag} {G H : Hp} {v : V} {ds : List D} (s : Same G H) (r : RX b K G H v (.lstC ds)) : ∃ a vs, v = .ref a ∧ SqL K (if b then H else G) a vs ∧ SqL K H a vs ∧ Reps K G vs ds := by
  obtain ⟨a, vs, e, h, rr⟩ := r.b.lstC
  refine ⟨a, vs, e, ?_, s.seq h, rr⟩
  cases b with
  | true => exact s.seq h
  | false => exact h
theorem base_tupC {b : Bool} {K : PySem.W.Frag} {G H : Hp} {v : V} {ds : List D} (s : Same G H) (r : RX b K G H v (.tupC ds)) : ∃ a vs, v = .ref a ∧ SqT K (if b then H else G) a vs ∧ SqT K H a vs ∧ Reps K G vs ds := by
  obtain ⟨a, vs, e, h, rr⟩ := r.b.tupC
  refine ⟨a, vs, e, ?_, same_sqt s h, rr⟩
  cases b with
  | true => exact same_sqt s h
  | false => exact h
def iSeq (K : PySem.W.Frag) (tl : TE) : TI := fun σ H R => tl σ H fun x H1 => ∃ a, x = .ref a ∧ ((∃ xs, SqL K H1 a xs ∧ R (Itl K a) H1) ∨ ∃ xs, SqT K H1 a xs ∧ R (Itt K a) H1)
/-- a list or a tuple is walked -/
theorem pi_seq {tg l : Expr} {tl : TE} (hl : PE X l tl) : PI X tg l (iSeq X.K tl) := by
  refine ⟨fun pins s σ H R I h => thn (hl.run pins s σ H _ I h) fun v s1 ⟨x, H1, I1, rx, q⟩ => ?_⟩
  obtain ⟨a, rfl, q⟩ := q
  cases rx
  have fresh : ∀ b ∈ [s1.heap.objs.size], FpOk X pins H1 b := fun b hb => by
    cases List.mem_singleton.mp hb
    exact I1.fpOk (Nat.le_refl _) (I1.hok.fresh (Nat.le_refl _))
  have more : ∀ (b : Addr) (u o : Obj), s1.heap.get? b = some u → (s1.heap.push o).get? b = some u := fun b u o e => Heap.get?_push_of_some _ e
  rcases q with ⟨xs, hx, q⟩ | ⟨xs, hx, q⟩
  · obtain ⟨us, _, pl, _⟩ := I1.list hx
    exact wpAny_pyIter_list pl.isList ⟨_, [s1.heap.objs.size], _, _, H1, rfl, I1.kept (t' := s1.toks) (fun b u e => more b u _ e), turn_list a _, ⟨_, Heap.get?_push_size _ rfl, rfl, rfl⟩, fresh, q⟩
  · obtain ⟨us, _, pt, _⟩ := I1.tuple hx
    exact wpAny_pyIter_tuple (show s1.heap.IsTuple a us.toArray from pt) ⟨_, [s1.heap.objs.size], _, _, H1, rfl, I1.kept (t' := s1.toks) (fun b u e => more b u _ e), turn_tuple a _, ⟨_, Heap.get?_push_size _ rfl, rfl, rfl⟩, fresh, q⟩
theorem i_plain {b : Bool} {es : Es} {tg e : Expr} (L : VL X Γ b es [e]) : VI X Γ b .plain es tg e := by
  obtain ⟨t, p, q⟩ := src1 L
  refine ⟨_, pi_seq p, fun σ ρ G H R rr g => q σ ρ G H _ rr (g.mono fun ds g1 d v G1 H1 ed x1 r1 => ?_)⟩
  subst ed
  cases d with
  | lst xs =>
    obtain ⟨a, vs, rfl, h1, h2, rs⟩ := base_lst x1.gh r1
    exact ⟨a, rfl, .inl ⟨vs, h2, (show ∀ J G' H', Ext G H G' H' → JOk X.K J (if b then H' else G') G' xs → R J H' from g1) _ G1 H1 x1 (j_list h1 rs)⟩⟩
  | tup xs =>
    obtain ⟨a, vs, rfl, h1, h2, rs⟩ := base_tup x1.gh r1
    exact ⟨a, rfl, .inr ⟨vs, h2, (show ∀ J G' H', Ext G H G' H' → JOk X.K J (if b then H' else G') G' xs → R J H' from g1) _ G1 H1 x1 (j_tup h1 rs)⟩⟩
  | lstC xs =>
    obtain ⟨a, vs, rfl, h1, h2, rs⟩ := base_lstC x1.gh r1
    exact ⟨a, rfl, .inl ⟨vs, h2, (show ∀ J G' H', Ext G H G' H' → JOk X.K J (if b then H' else G') G' xs → R J H' from g1) _ G1 H1 x1 (j_list h1 rs)⟩⟩
  | tupC xs =>
    obtain ⟨a, vs, rfl, h1, h2, rs⟩ := base_tupC x1.gh r1
    exact ⟨a, rfl, .inr ⟨vs, h2, (show ∀ J G' H', Ext G H G' H' → JOk X.K J (if b then H' else G') G' xs → R J H' from g1) _ G1 H1 x1 (j_tup h1 rs)⟩⟩
  | _ => exact (show False from g1).elim
theorem rng_of {i : Int} (h : rngOk i = true) : -(2 ^ 62) ≤ i ∧ i < 2 ^ 62 := by
  unfold rngOk at h
  have h := of_decide_eq_true h
  have e : (2 : Int) ^ 62 = 4611686018427387904 := by decide
  rw [e]
  omega
theorem i_range1 (h : XH CX X S fns Γ) {b : Bool} {es : Es} {tg e : Expr} {p pos : Pos} (hg : glB S.sc "range" = true) (ns : nst e = true) (L : VL X Γ b es [e]) : VI X Γ b .range1 es tg (.Call (.Name "range" p) [e] [] pos) := by
  obtain ⟨t, pe, q⟩ := src1 L
  refine ⟨_, pi_range1 (h.gl hg) (h.blt _ (by decide)) (pa_cons pe pa_nil (star_cons ns)) (star_cons ns), fun σ ρ G H R rr g => q σ ρ G H _ rr (g.mono fun ds g1 d v G1 H1 ed x1 r1 => ?_)⟩
  subst ed
  cases d with
  | int n =>
    cases r1.b.int
    obtain ⟨z, k⟩ := Good.ite g1
    obtain ⟨z1, z2⟩ := rng_of z
    have j := j_range (K := X.K) (B := if b then H1 else G1) (G := G1) (lo := 0) (n := n.toNat)
    simp only [Int.zero_add] at j
    exact ⟨n, rfl, z1, z2, k _ G1 H1 x1 j⟩
  | _ => exact (show False from g1).elim
theorem i_range2 (h : XH CX X S fns Γ) {b : Bool} {es : Es} {tg e e2 : Expr} {p pos : Pos} (hg : glB S.sc "range" = true) (ns : nst e = true) (ns2 : nst e2 = true) (L : VL X Γ b es [e, e2]) : VI X Γ b .range2 es tg (.Call (.Name "range" p) [e, e2] [] pos) := by
  obtain ⟨t, t2, pe, pe2, q⟩ := src2 L
  refine ⟨_, pi_range2 (h.gl hg) (h.blt _ (by decide)) (pa_cons pe (pa_cons pe2 pa_nil (star_cons ns2)) (star_cons ns)) (by rw [star_cons ns, star_cons ns2]; rfl) (star_cons ns2), fun σ ρ G H R rr g =>
    q σ ρ G H (fun v v2 H2 => ∃ i j : Int, [v, v2] = [V.int i, V.int j] ∧ (-(2 ^ 62) ≤ i ∧ i < 2 ^ 62 ∧ -(2 ^ 62) ≤ j ∧ j < 2 ^ 62) ∧ R (Itr i (j - i).toNat) H2) rr (g.mono fun ds g1 d d2 v v2 G1 H1 ed x1 r1 r2 => ?_)⟩
  subst ed
  cases d with
  | int n =>
    cases d2 with
    | int m =>
      cases r1.b.int
      cases r2.b.int
      obtain ⟨z, k⟩ := Good.ite g1
      obtain ⟨z1, z2⟩ := Bool.and_eq_true_iff.mp z
      obtain ⟨z3, z4⟩ := rng_of z1
      obtain ⟨z5, z6⟩ := rng_of z2
      exact ⟨n, m, rfl, ⟨z3, z4, z5, z6⟩, k _ G1 H1 x1 j_range⟩
    | _ => exact (show False from g1).elim
  | _ => exact (show False from g1).elim
theorem i_rev (h : XH CX X S fns Γ) {b : Bool} {es : Es} {tg e : Expr} {p pos : Pos} (hg : glB S.sc "reversed" = true) (ns : nst e = true) (L : VL X Γ b es [e]) : VI X Γ b .rev es tg (.Call (.Name "reversed" p) [e] [] pos) := by
  obtain ⟨t, pe, q⟩ := src1 L
  refine ⟨_, RT.pi_revA (h.gl hg) (h.blt _ (by decide)) pe (star_cons ns), fun σ ρ G H R rr g => q σ ρ G H _ rr (g.mono fun ds g1 d v G1 H1 ed x1 r1 => ?_)⟩
  subst ed
  cases d with
  | lst xs =>
    obtain ⟨a, vs, rfl, h1, h2, rs⟩ := base_lst x1.gh r1
    exact ⟨a, vs, rfl, .inl ⟨h2, (show ∀ J G' H', Ext G H G' H' → JOk X.K J (if b then H' else G') G' xs.reverse → R J H' from g1) _ G1 H1 x1 (j_revL h1 rs)⟩⟩
  | tup xs =>
    obtain ⟨a, vs, rfl, h1, h2, rs⟩ := base_tup x1.gh r1
    exact ⟨a, vs, rfl, .inr ⟨h2, (show ∀ J G' H', Ext G H G' H' → JOk X.K J (if b then H' else G') G' xs.reverse → R J H' from g1) _ G1 H1 x1 (j_revT h1 rs)⟩⟩
  | _ => exact (show False from g1).elim
theorem i_enum (h : XH CX X S fns Γ) {b : Bool} {es : Es} {e : Expr} {elts : List Expr} {kk : Nat} {tp p pos : Pos} (hg : glB S.sc "enumerate" = true) (ns : nst e = true) (L : VL X Γ b es [e]) : VI X Γ b .enum es (.Tuple elts kk tp) (.Call (.Name "enumerate" p) [e] [] pos) := by
  obtain ⟨t, pe, q⟩ := src1 L
  refine ⟨_, pi_enum (h.gl hg) (h.blt _ (by decide)) (pa_cons pe pa_nil (star_cons ns)) (star_cons ns), fun σ ρ G H R rr g => q σ ρ G H _ rr (g.mono fun ds g1 d v G1 H1 ed x1 r1 => ?_)⟩
  subst ed
  cases d with
  | lst xs =>
    obtain ⟨a, vs, rfl, h1, h2, rs⟩ := base_lst x1.gh r1
    exact ⟨a, vs, rfl, h2, (show ∀ J G' H', Ext G H G' H' → JOk X.K J (if b then H' else G') G' (xs.zipIdx.map fun p => .tup [.int (p.2 : Nat), p.1]) → R J H' from g1) _ G1 H1 x1 (j_enum h1 rs)⟩
  | _ => exact (show False from g1).elim
theorem i_zip (h : XH CX X S fns Γ) {b : Bool} {es : Es} {e e2 : Expr} {elts : List Expr} {kk : Nat} {tp p pos : Pos} (hg : glB S.sc "zip" = true) (ns : nst e = true) (ns2 : nst e2 = true) (L : VL X Γ b es [e, e2]) : VI X Γ b .zip2 es (.Tuple elts kk tp) (.Call (.Name "zip" p) [e, e2] [] pos) := by
  obtain ⟨t, t2, pe, pe2, q⟩ := src2 L
  refine ⟨_, RZ.pi_zipA (h.gl hg) (h.blt _ (by decide)) (pa_cons pe (pa_cons pe2 pa_nil (star_cons ns2)) (star_cons ns)) (star_cons ns) (star_any (by simp [ns2])), fun σ ρ G H R rr g =>
    q σ ρ G H (fun v v2 H2 => ∃ a b xs ys, [v, v2] = [V.ref a, V.ref b] ∧ ((SqL X.K H2 a xs ∧ SqL X.K H2 b ys ∧ R (Itz X.K a b) H2) ∨ (SqT X.K H2 a xs ∧ SqT X.K H2 b ys ∧ R (RZ.ItzT X.K a b) H2))) rr (g.mono fun ds g1 d d2 v v2 G1 H1 ed x1 r1 r2 => ?_)⟩
  subst ed
  cases d with
  | lst xs =>
    cases d2 with
    | lst ys =>
      obtain ⟨a, vs, rfl, h1, h2, rs⟩ := base_lst x1.gh r1
      obtain ⟨a2, vs2, rfl, h3, h4, rs2⟩ := base_lst x1.gh r2
      exact ⟨a, a2, vs, vs2, rfl, .inl ⟨h2, h4, (show ∀ J G' H', Ext G H G' H' → JOk X.K J (if b then H' else G') G' ((xs.zip ys).map fun p => .tup [p.1, p.2]) → R J H' from g1) _ G1 H1 x1 (j_zipL h1 h3 rs rs2)⟩⟩
    | _ => exact (show False from g1).elim
  | tup xs =>
    cases d2 with
    | tup ys =>
      obtain ⟨a, vs, rfl, h1, h2, rs⟩ := base_tup x1.gh r1
      obtain ⟨a2, vs2, rfl, h3, h4, rs2⟩ := base_tup x1.gh r2
      exact ⟨a, a2, vs, vs2, rfl, .inr ⟨h2, h4, (show ∀ J G' H', Ext G H G' H' → JOk X.K J (if b then H' else G') G' ((xs.zip ys).map fun p => .tup [p.1, p.2]) → R J H' from g1) _ G1 H1 x1 (j_zipT h1 h3 rs rs2)⟩⟩
    | _ => exact (show False from g1).elim
  | _ => exact (show False from g1).elim
end
end Den

/-! DenJ: list comprehensions. -/
namespace Den
open PySem PySem.Spec PyProof.Rows L2
section
variable {CX : CXT} {X : Cx} {S : Sco} {fns : List Str} {Γ : Cn}
/-- a comprehension's block -/
def Sco.blk (S : Sco) (scope : Scope) : Sco := ⟨S.N, relS scope S.sc, stoB scope⟩
theorem FnAt.blk {x : Str} {g : List D → Res D} (h : FnAt CX X x g) (s : Shared) (H : Hp) (scope : Scope) (ce : Env) (fp : List Addr) : FnAt CX (X.blk s H scope ce fp) x g := ⟨h.ex⟩
theorem blk_ok (h : XH CX X S fns Γ) (scope : Scope) (s : Shared) (H : Hp) (C : Addr) (cl : List (Str × Addr)) (fp : List Addr) : XH CX (X.blk s H scope (compEnvC scope cl C X.env) fp) (S.blk scope) fns Γ where
  hN := h.hN
  nd := h.nd
  hsc := by
    show (compEnvC scope cl C X.env).scope = relS scope S.sc
    rw [← h.hsc]
    rfl
  calm := h.calm
  rm := h.rm
  gd := h.gd
  po := PassesOwn.never
  ps := h.ps
  st := fun x e => by
    have e : stoB scope x = true := e
    have k1 : ∀ {k : NameKind}, k ≠ .free → scope.names.lookup x = some k → (compEnvC scope cl C X.env).scope.names.lookup x = some k := fun hk z => lookup_relS_keep (sc := X.env.scope) hk z
    unfold stoB at e
    split at e
    · rename_i z
      exact ⟨.inl (k1 (by decide) z), .inr (k1 (by decide) z)⟩
    · rename_i z
      refine ⟨.inr (k1 (by decide) z), .inl ?_⟩
      show (scope.names.lookup x == some .cell) = true
      rw [z]
      rfl
    · cases e
  blt := h.blt
  fn := fun f g x e1 e2 => ⟨(h.fn f g x e1 e2).ex⟩
theorem wipe_wipe (σ : L2.St) : ∀ vs : List Nat, L2.wipe (L2.wipe σ vs) vs = L2.wipe σ vs := by
  intro vs
  apply List.ext_getElem?
  intro i
  have out : ∀ (τ : L2.St) (ws : List Nat), i ∉ ws → (L2.wipe τ ws)[i]? = τ[i]? := fun τ ws hi => by
    induction ws with
    | nil => rfl
    | cons v vs ih =>
      unfold L2.wipe
      rw [List.getElem?_set_ne (fun e => hi (by simp [e]))]
      exact ih fun z => hi (List.mem_cons_of_mem _ z)
  have inn : ∀ (τ : L2.St) (ws : List Nat), i ∈ ws → (L2.wipe τ ws)[i]? = if i < τ.length then some none else none := fun τ ws hi => by
    induction ws with
    | nil => simp at hi
    | cons v vs ih =>
      unfold L2.wipe
      by_cases e : v = i
      · subst e
        by_cases l : v < τ.length
        · rw [if_pos l, List.getElem?_set_self (by rw [wipe_length]; exact l)]
        · rw [if_neg l, List.getElem?_eq_none (by rw [List.length_set, wipe_length]; omega)]
      · rw [List.getElem?_set_ne e]
        rcases List.mem_cons.mp hi with z | z
        · exact absurd z.symm e
        · exact ih z
  by_cases hi : i ∈ vs
  · rw [inn _ _ hi, inn _ _ hi, wipe_length]
  · rw [out _ _ hi]
theorem Good.ite2 {α : Type} {c : Bool} {a b : Res α} {P : α → Prop} (h : Good (if c = true then a else b) P) : if c = true then Good a P else Good b P := by
  cases c <;> exact h
/-- a list comprehension -/
theorem v_lcT (h : XH CX X S fns Γ) {own : List (Str × Nat)} {tg : Tg} {k : IK} {src : Es} {c : C} {elt : E} {e' t' i' : Expr} {ifs : List Expr} {scope : Scope} {pos : Pos}
    (I : VI X Γ true k src t' i') (ok : blkC S.N S.sc scope own = true) (ti : tgIn (own.map (·.2)) tg = true) (fo : ∀ x, foldedSetIterable i' X.env x = pure x)
    (ht : ∀ (Y : Cx), XH CX Y (S.blk scope) fns Γ → PGok Y tg t') (hc : ∀ (Y : Cx), XH CX Y (S.blk scope) fns Γ → PTs Y ifs (tC' Y.K Γ c)) (he : ∀ (Y : Cx), XH CX Y (S.blk scope) fns Γ → VE Y Γ elt e') :
    ∃ t, (PE X (.ListComp e' [⟨t', i', ifs, 0⟩] scope pos) t ∧ ∀ (j : Nat) (y : Str) (py spos : Pos), S.N[j]? = some y → S.sc.names.lookup y = some .local → swapsWith (.ListComp e' [⟨t', i', ifs, 0⟩] scope pos) (some (.Name y py)) spos.line X.env = pure true →
      PS X (.Assign [.Name y py] (.ListComp e' [⟨t', i', ifs, 0⟩] scope pos) spos) (tAsg t (gName j))) ∧ ∀ σ ρ G H Q, ER X.K G H σ ρ → Good (evE Γ (.lc (own.map (·.2)) tg k src c elt) ρ) (fun d => KF X.K G H d Q) → t σ H Q := by
  obtain ⟨wi, pi, qi⟩ := I
  have bo : BlkOk X.N X.env.scope scope own := by rw [h.hN, h.hsc]; exact blkOk_by ok
  have nd : X.N.Nodup := by rw [h.hN]; exact h.nd
  refine ⟨_, ⟨pe_lc (g := gE X.K tg) (tt := tC' X.K Γ c) (te := tE X.K Γ elt) h.calm nd pi bo (fun s H C cl fp => (ht _ (blk_ok h scope s H C cl fp)).pg) (fun s H C cl fp => hc _ (blk_ok h scope s H C cl fp)) (fun s H C cl fp => (he _ (blk_ok h scope s H C cl fp)).pe) fo,
    fun j y py spos e1 e2 e3 => ps_setLc (g := gE X.K tg) (tt := tC' X.K Γ c) (te := tE X.K Γ elt) h.calm nd (by rw [h.hN]; exact e1) (by rw [h.hsc]; exact e2) e3 pi bo (fun s H C cl fp => (ht _ (blk_ok h scope s H C cl fp)).pg) (fun s H C cl fp => hc _ (blk_ok h scope s H C cl fp)) (fun s H C cl fp => (he _ (blk_ok h scope s H C cl fp)).pe) fo⟩, fun σ ρ G H Q rr g => ?_⟩
  rw [evE] at g
  refine qi σ ρ G H _ rr (g.bind.mono fun ds g1 => (Good.bind g1).mono fun xs g2 J G1 H1 x1 j Dd nD => ?_)
  have g2 := Good.bind g2
  generalize hf : (fun x => (bindT tg x (wipeE ρ (own.map (·.2)))).bind fun ρ1 => (evC Γ c ρ1).bind fun k => if k = true then (evE Γ elt ρ1).bind fun y => Res.ok (some y) else Res.ok none) = f at g2
  -- the invariant
  refine ⟨fun i m Hc => m = xs.length - i ∧ i ≤ xs.length ∧ ∃ G2 acc outs, Ext G1 H1 G2 Hc ∧ G2 Dd = none ∧ Hc Dd = some (.lst acc) ∧ Reps X.K G2 acc outs ∧
      Good (mapD f (xs.drop i)) fun ys => (outs ++ ys).length ≤ sizeLine ∧ KF X.K G H (.lst (outs ++ ys)) Q, ⟨_, rfl, Nat.zero_le _, G1, [], [], .newO x1.gh nD, x1.gh.free nD, upd_same, .nil, ?_⟩, ?_⟩
  · rw [List.drop_zero]
    exact g2.mono fun ys z => (Good.ite (P := fun d => KF X.K G H d Q) z : _ ∧ _)
  · rintro i m Hc ⟨rfl, hi, G2, acc, outs, x2, nG, hD, ra, gm⟩
    have jj := j i Hc x2.hh
    by_cases hlt : i < xs.length
    · have ex : xs[i]? = some xs[i] := List.getElem?_eq_getElem hlt
      obtain ⟨go, yl⟩ := jj.1 _ ex
      refine .inr ⟨go, fun H' => ∃ G2 acc outs, Ext G1 H1 G2 H' ∧ G2 Dd = none ∧ H' Dd = some (.lst acc) ∧ Reps X.K G2 acc outs ∧ Good (mapD f (xs.drop (i + 1))) fun ys => (outs ++ ys).length ≤ sizeLine ∧ KF X.K G H (.lst (outs ++ ys)) Q,
        fun H' w => ⟨xs.length - (i + 1), by omega, rfl, hlt, w⟩, fun x H' y => ?_⟩
      obtain ⟨G3, x3, rx⟩ := yl x H' y G2 x2.gg x2.gh
      have ec : xs.drop i = xs[i] :: xs.drop (i + 1) := List.drop_eq_getElem_cons hlt
      rw [ec] at gm
      have gm : Good ((f xs[i]).bind fun o => (mapD f (xs.drop (i + 1))).bind fun ys => .ok (match o with | some y => y :: ys | none => ys)) _ := gm
      have gf := gm.bind
      have e_f : f xs[i] = (bindT tg xs[i] (wipeE ρ (own.map (·.2)))).bind fun ρ1 => (evC Γ c ρ1).bind fun k => if k = true then (evE Γ elt ρ1).bind fun y => Res.ok (some y) else Res.ok none := by rw [← hf]
      rw [e_f] at gf
      -- what stays of the list that is made
      have nD3 : G3 Dd = none := by
        cases q : G3 Dd with
        | none => rfl
        | some u =>
          rcases x3.nw Dd u q nG with z | ⟨vs, z⟩
          · rw [hD] at z; cases z
          · rw [hD] at z; cases z
      have keepD : ∀ {Ga Ha Gb Hb : Hp}, Ext Ga Ha Gb Hb → Ha Dd = some (.lst acc) → Ga Dd = none → Hb Dd = some (.lst acc) ∧ Gb Dd = none := fun {Ga Ha Gb Hb} x a1 a2 => by
        refine ⟨x.hh _ _ a1, ?_⟩
        cases q : Gb Dd with
        | none => rfl
        | some u =>
          rcases x.nw Dd u q a2 with z | ⟨vs, z⟩
          · rw [a1] at z; cases z
          · rw [a1] at z; cases z
      have er : ER X.K G3 H' (L2.wipe σ (own.map (·.2))) (wipeE ρ (own.map (·.2))) := (((rr.ext x1).ext x2).ext x3).wipe _
      have hD3 : H' Dd = some (.lst acc) := x3.hh _ _ hD
      refine ⟨G3, _, _, er, rx, gf.bind.mono fun ρ1 gb σ2 er2 _ ws => ⟨by rw [ws _ ti]; exact wipe_wipe _ _, G3, ρ1, er2, (Good.bind gb).mono fun k gk G4 H4 x4 => ?_⟩⟩
      obtain ⟨hD4, nD4⟩ := keepD x4 hD3 nD3
      cases k with
      | false =>
        rw [if_neg (by decide)]
        have gk : Good ((mapD f (xs.drop (i + 1))).bind fun ys => .ok ys) (fun ys => (outs ++ ys).length ≤ sizeLine ∧ KF X.K G H (.lst (outs ++ ys)) Q) := gk
        refine ⟨G4, acc, outs, x2.trans (x3.trans x4), nD4, hD4, ra.mono (x3.gg.trans x4.gg), ?_⟩
        exact gk.bind.mono fun ys z => z
      | true =>
        rw [if_pos rfl]
        have gk : Good ((evE Γ elt ρ1).bind fun y => Res.ok (some y)) (fun o => Good ((mapD f (xs.drop (i + 1))).bind fun ys => .ok (match o with | some y => y :: ys | none => ys)) (fun ys => (outs ++ ys).length ≤ sizeLine ∧ KF X.K G H (.lst (outs ++ ys)) Q)) := gk
        refine ⟨G4, ρ1, er2.ext x4, gk.bind.mono fun y gy yv G5 H5 x5 ry => ?_⟩
        obtain ⟨hD5, nD5⟩ := keepD x5 hD4 nD4
        have gy : Good ((mapD f (xs.drop (i + 1))).bind fun ys => .ok (y :: ys)) (fun ys => (outs ++ ys).length ≤ sizeLine ∧ KF X.K G H (.lst (outs ++ ys)) Q) := gy
        have gy2 : Good (mapD f (xs.drop (i + 1))) fun ys => (outs ++ y :: ys).length ≤ sizeLine ∧ KF X.K G H (.lst (outs ++ y :: ys)) Q := gy.bind.mono fun ys z => z
        have xx : Ext G1 H1 G5 H5 := x2.trans (x3.trans (x4.trans x5))
        have rr5 : Reps X.K G5 acc outs := ra.mono (x3.gg.trans (x4.gg.trans x5.gg))
        have neD : ∀ b o, H1 b = some o → b ≠ Dd := fun b o e z => by rw [z, nD] at e; cases e
        have neG : ∀ b o, G5 b = some o → b ≠ Dd := fun b o e z => by rw [z, nD5] at e; cases e
        refine ⟨acc, hD5, ?_, G5, acc ++ [yv], outs ++ [y], ⟨xx.gg, fun b o e => by rw [upd_ne (neD b o e)]; exact xx.hh b o e, fun b o e => by rw [upd_ne (neG b o e)]; exact xx.gh b o e, xx.nw⟩, nD5, upd_same, rr5.append (.cons ry .nil), ?_⟩
        · obtain ⟨ys, _, z, _⟩ := gy2.eq
          rw [List.length_append, List.length_cons] at z
          rw [rr5.length]
          omega
        · refine gy2.mono fun ys z => ?_
          rw [List.append_assoc]
          exact z
    · have e : i = xs.length := by omega
      subst e
      refine .inl ⟨jj.2 (Nat.le_refl _), ?_⟩
      rw [List.drop_length] at gm
      have gm : Good (Res.ok ([] : List D)) (fun ys => (outs ++ ys).length ≤ sizeLine ∧ KF X.K G H (.lst (outs ++ ys)) Q) := gm
      obtain ⟨z, kf⟩ := gm
      rw [List.append_nil] at kf
      exact kf Dd G2 Hc (x1.trans x2) (x1.hh.free nD) nG (.inl ⟨acc, outs, rfl, hD, ra⟩)
theorem v_lc (h : XH CX X S fns Γ) {own : List (Str × Nat)} {tg : Tg} {k : IK} {src : Es} {c : C} {elt : E} {e' t' i' : Expr} {ifs : List Expr} {scope : Scope} {pos : Pos}
    (I : VI X Γ true k src t' i') (ok : blkC S.N S.sc scope own = true) (ti : tgIn (own.map (·.2)) tg = true) (fo : ∀ x, foldedSetIterable i' X.env x = pure x)
    (ht : ∀ (Y : Cx), XH CX Y (S.blk scope) fns Γ → PGok Y tg t') (hc : ∀ (Y : Cx), XH CX Y (S.blk scope) fns Γ → PTs Y ifs (tC' Y.K Γ c)) (he : ∀ (Y : Cx), XH CX Y (S.blk scope) fns Γ → VE Y Γ elt e') :
    VF X Γ (.lc (own.map (·.2)) tg k src c elt) (.ListComp e' [⟨t', i', ifs, 0⟩] scope pos) := by
  obtain ⟨t, ⟨p, _⟩, q⟩ := v_lcT (pos := pos) h I ok ti fo ht hc he
  exact ⟨t, p, q⟩
end
end Den

/-! DenR: dict comprehensions whose keys may be tuples. -/
namespace Den
open PySem PySem.Spec PyProof.Rows L2
abbrev Ds := List Nat
/-- {k: v for target in iter if ..}: the dict grows by DPut, from the empty one ob -/
def tDic (ob : HO) (wi : TI) (g : TG) (tt : TT) (tk tv : TE) (vs : Ds) : TE := fun σ H Q => wi σ H fun J Hj => ∀ D, Hj D = none →
  ∃ W : Nat → Nat → Hp → Prop, (∃ m, W 0 m (upd Hj D ob)) ∧ ∀ i m Hc, W i m Hc → (J.stop i Hc ∧ Q (.ref D) Hc) ∨
    (J.go i Hc ∧ ∃ Nx : Hp → Prop, (∀ H', Nx H' → ∃ m', m' < m ∧ W (i + 1) m' H') ∧
      ∀ x H', J.yld i Hc x H' → g x (L2.wipe σ vs) H' fun τ Hg => L2.wipe τ vs = L2.wipe σ vs ∧ tt τ Hg fun b Ht =>
        if b = true then tk τ Ht fun y Hk => tv τ Hk fun z Hv => ∃ He, DPut Hv D y z He ∧ Nx He else Nx Ht)
/-- the key set by a comprehension -/
theorem dic_put {X : Cx} {pins : List (Addr × Obj)} {σ : L2.St} {H He : Hp} {s : Shared} {E : Value → Shared → Prop} {D : Addr} {y v : V} {u r : Value} {Q : Unit → Shared → Prop} (hu : X.A.units + 1 < cLine) (I : Inv X pins σ H s) (g : DPut H D y v He)
    (ry : RelV y u) (rv : RelV v r) (fin : ∀ s', Inv X pins σ He s' → Q () s') : wpAny (model X.prog X.w) X.A (dictSet D u r) Q E s := by
  rcases g with ⟨kvs, k, e, rfl, l, rfl⟩ | ⟨kvs, k, b, e, rfl, eb, l, rfl⟩
  · exact d_dictSet I e l ry rv fin
  · cases (show u = Value.ref b from ry)
    obtain ⟨z, hd, xs, rel, dd⟩ := dt_of I.hok e
    have many : (putK kvs k v).length ≤ sizeLine := by have := length_putK kvs k v; omega
    refine wpAny_dictSet_heap (hsz := by rw [← Paired.length rel]; exact z) (by show X.A.units < cLine; omega) (key_of I.hok eb) dd fun h' dd' hs => fin _ ?_
    obtain ⟨q, es, ep, hq, p2, p3, p4, _, p5⟩ := dd'
    refine d_write I (by rw [e]; exact True.intro) hs ⟨q, hq⟩ ⟨many, hd, _, (rel.put k eb rv).keeps fun c ys ec => ?_, q, es, ep, hq, p2, p3, p4, p5⟩
    rw [upd_ne (ne_of ec e (fun z => nomatch z))]
    exact ec
/-- an empty dict may be read so -/
def Empty0 (ob : HO) : Prop := ∀ (P : Program) (w : World) (H : Hp) (h : Heap), sysModules < h.objs.size → ObjOk P w H (h.push { cls := .type "dict", data := .dict #[] }) h.objs.size ob
section
variable {X : Cx}
theorem dic_all {ob : HO} (mt : Empty0 ob) (hu : X.A.units + 1 < cLine) {pins : List (Addr × Obj)} {s0 : Shared} {σ : L2.St} {H0 : Hp} {Q : VK} {kx vx tg iter : Expr} {ifs : List Expr} {scope : Scope} {own : List (Str × Nat)} {pos pos' : Pos} {wi : TI} {g : TG} {tt : TT} {tk tv : TE}
    {use : Option (Value → Sem Unit)} {Qf : Value → Shared → Prop} (hc : X.calm = true) (nd : X.N.Nodup) (I0 : Inv X pins σ H0 s0) (src : PI X tg iter wi) (ok : BlkOk X.N X.env.scope scope own)
    (pt : ∀ (s : Shared) (H : Hp) (C : Addr) (cl : List (Str × Addr)) (fp : List Addr), PG (X.blk s H scope (compEnvC scope cl C X.env) fp) tg g)
    (pc : ∀ (s : Shared) (H : Hp) (C : Addr) (cl : List (Str × Addr)) (fp : List Addr), PTs (X.blk s H scope (compEnvC scope cl C X.env) fp) ifs tt)
    (pk : ∀ (s : Shared) (H : Hp) (C : Addr) (cl : List (Str × Addr)) (fp : List Addr), PE (X.blk s H scope (compEnvC scope cl C X.env) fp) kx tk)
    (pv : ∀ (s : Shared) (H : Hp) (C : Addr) (cl : List (Str × Addr)) (fp : List Addr), PE (X.blk s H scope (compEnvC scope cl C X.env) fp) vx tv) (fo : ∀ x, foldedSetIterable iter X.env x = pure x)
    (h : tDic ob wi g tt tk tv (own.map (·.2)) σ H0 Q)
    (fin : ∀ D C s' m H', Inv X pins σ H' s' → Q (.ref D) H' → s'.heap.Ns C m → FpOk X pins H' C → compPost (model X.prog X.w) X.A X.xe use Qf (.ref D) C (.ok .next) s') :
    wpAny (model X.prog X.w) X.A (comprehension (.DictComp kx vx [⟨tg, iter, ifs, 0⟩] scope pos) scope X.env pos' newDict false (eval iter X.env) use) Qf X.xe s0 := by
  refine wpAny_comprehension_free (use := use) rfl fo (closure_ok fun y hy e => (ok.free y hy e).elim (fun k => I0.ok.has _ (.inl k)) fun k => I0.ok.has _ (.inr k)) ok.kind (fun y hy e => by rw [ok.uniq y hy, e])
    (thn (src.run pins s0 σ H0 _ I0 h) fun xv s1 hx => thn hx fun itv s2 it2 => ?_)
  obtain ⟨it, fp, tn, J, Hj, rfl, Ij, T, at0, off, body⟩ := it2
  refine wpAny_newObj_type (newEnv_comp ?_)
  generalize hD : s2.heap.objs.size = D
  obtain ⟨W, ⟨m0, w0⟩, turn⟩ := body D (Ij.hok.fresh (Nat.le_of_eq hD))
  generalize q3 : ({ s2 with heap := s2.heap.push { cls := .type "dict", data := .dict #[] } } : Shared) = s3
  have I3 : Inv X pins σ (upd Hj D ob) s3 := by
    subst q3 hD
    exact Ij.laid (t' := s2.toks) (fun b o e => Heap.get?_push_of_some _ e) (Nat.le_refl _) (mt _ _ _ _ Ij.big)
  have hp3 : s3.heap = s2.heap.push { cls := .type "dict", data := .dict #[] } := by rw [← q3]
  have low : ∀ b ∈ fp, b < s2.heap.objs.size := fun b hb => let ⟨o, e, _⟩ := T.obj _ _ at0 b hb; Heap.lt_size e
  have fp3 : ∀ b ∈ fp, FpOk X pins (upd Hj D ob) b ∧ b < s3.heap.objs.size := fun b hb => by
    have lt := low b hb
    refine ⟨⟨?_, (off b hb).2⟩, by rw [hp3, Heap.size_push]; exact Nat.lt_succ_of_lt lt⟩
    rw [upd_ne (by rw [← hD]; exact Nat.ne_of_lt lt)]
    exact (off b hb).1
  have at3 : tn 0 s3.heap := T.keep _ _ _ at0 fun b _ o e => by rw [hp3]; exact Heap.get?_push_of_some _ e
  have I4 := block_start I3 ok nd fp3
  have rt := pt s3 (upd Hj D ob) s3.heap.objs.size (cellsFrom (s3.heap.objs.size + 1) scope.names (cloFrom X.env.cells scope.names [])) fp
  have rc := pc s3 (upd Hj D ob) s3.heap.objs.size (cellsFrom (s3.heap.objs.size + 1) scope.names (cloFrom X.env.cells scope.names [])) fp
  have rk := pk s3 (upd Hj D ob) s3.heap.objs.size (cellsFrom (s3.heap.objs.size + 1) scope.names (cloFrom X.env.cells scope.names [])) fp
  have rv := pv s3 (upd Hj D ob) s3.heap.objs.size (cellsFrom (s3.heap.objs.size + 1) scope.names (cloFrom X.env.cells scope.names [])) fp
  show codeAny _ _ (.compStart (.DictComp kx vx [⟨tg, iter, ifs, 0⟩] scope pos) 0 (.ref it) (.ref D) (compEnvC scope (cellsFrom (s3.heap.objs.size + 1) scope.names (cloFrom X.env.cells scope.names [])) s3.heap.objs.size X.env)) (compPost (model X.prog X.w) X.A X.xe use Qf (.ref D) s3.heap.objs.size) { s3 with heap := pushCells (s3.heap.push { cls := .type "dict", data := .dict #[] }) scope.names }
  have none0 : ∀ b ∈ fp, (upd Hj D ob) b = none := fun b hb => (fp3 b hb).1.1
  generalize qe : compEnvC scope (cellsFrom (s3.heap.objs.size + 1) scope.names (cloFrom X.env.cells scope.names [])) s3.heap.objs.size X.env = ce at I4 rt rc rk rv ⊢
  have locE : ce.locals = s3.heap.objs.size := by subst qe; rfl
  generalize qH : upd Hj D ob = Hn at I3 I4 rt rc rk rv w0 none0 fp3
  generalize q4 : ({ s3 with heap := pushCells (s3.heap.push { cls := .type "dict", data := .dict #[] }) scope.names } : Shared) = s4 at I4 ⊢
  have at4 : tn 0 s4.heap := T.keep _ _ _ at3 fun b _ o e => by rw [← q4]; exact pushCells_keeps _ _ _ _ (Heap.get?_push_of_some _ e)
  have stand : ∀ {τ : L2.St} {H' : Hp} {s' : Shared}, Inv (X.blk s3 Hn scope ce fp) [] τ H' s' → (∀ b ∈ fp, H' b = none) → ∀ b ∈ fp, FpOk (X.blk s3 Hn scope ce fp) [] H' b := fun {τ H' s'} I' hn b hb =>
    ⟨hn b hb, (I'.ok.exf b hb).1, I'.ok.exfs b hb, .inl hb, fun x c e => (I'.ok.exf b hb).2 x c e, fun p hp => absurd (show p ∈ ([] : List (Addr × Obj)) ++ [] from hp) (by simp)⟩
  have all : codeAny (model X.prog X.w) X.A (.compLoop (.DictComp kx vx [⟨tg, iter, ifs, 0⟩] scope pos) 0 (.ref it) (.ref D) ce) (compPost (model X.prog X.w) X.A X.xe use Qf (.ref D) s3.heap.objs.size) s4 := by
    refine compLoop_anyD (fun n s' => ∃ i Hc, Inv (X.blk s3 Hn scope ce fp) [] (L2.wipe σ (own.map (·.2))) Hc s' ∧ tn i s'.heap ∧ (∀ b ∈ fp, Hc b = none) ∧ W i n Hc) ?_ m0 ⟨0, Hn, I4, at4, none0, w0⟩
    rintro n s5 ⟨i, Hc, I5, at5, none5, w5⟩
    rcases turn i n Hc w5 with ⟨stop, qq⟩ | ⟨go, Nx, back, step⟩
    · refine thnF (T.done (X.blk s3 Hn scope ce fp) rfl rfl rfl hc i [] s5 _ Hc (fun _ _ => False) I5 (stand I5 none5) at5 stop) fun r s6 ⟨hr, I6⟩ => ?_
      subst hr
      have I7 : Inv X pins σ Hc s6 := I3.call' (ch := fp) I6.os I6.base I6.hok I6.bare fun b hb => ⟨(fp3 b hb).1.2.2.2.1, (fp3 b hb).1.2.1, (fp3 b hb).1.2.2.2.2.1, (fp3 b hb).1.2.2.2.2.2⟩
      have freeC : Hc s3.heap.objs.size = none := by rw [← locE]; exact I6.free
      obtain ⟨m, hn, _⟩ := I6.loc
      exact fin D s3.heap.objs.size s6 m Hc I7 qq (by rw [← locE]; exact hn) (I3.fpOk (Nat.le_refl _) freeC)
    · refine thnF (T.item (X.blk s3 Hn scope ce fp) rfl rfl rfl hc i [] s5 _ Hc (fun _ _ => False) I5 (stand I5 none5) at5 go) fun r s6 ⟨u, hr, next⟩ => ?_
      subst hr
      refine thnF next fun _ s7 ⟨x, Hx, I7, r7, y7, at7, none7⟩ => ?_
      refine thnF (rt.run _ s7 _ Hx x u _ (I7.pinned (stand I7 none7) (T.obj _ _ at7)) r7 (step x Hx y7)) fun _ s8 ⟨τ, Hg, I8, same8, q8⟩ => ?_
      refine thnF (rc.run _ s8 τ Hg _ I8 q8) fun b s9 ⟨Ht, I9, q9⟩ => ?_
      have again : ∀ {s' : Shared} {H' : Hp}, Inv (X.blk s3 Hn scope ce fp) ([] ++ pinsAt fp s7.heap) τ H' s' → Nx H' → ∃ m, m < n ∧ ∃ i Hc, Inv (X.blk s3 Hn scope ce fp) [] (L2.wipe σ (own.map (·.2))) Hc s' ∧ tn i s'.heap ∧ (∀ b ∈ fp, Hc b = none) ∧ W i m Hc := fun {s' H'} I' nx => by
        obtain ⟨m', lt, w'⟩ := back H' nx
        have kept : ∀ b ∈ fp, ∀ o, s7.heap.get? b = some o → s'.heap.get? b = some o ∧ H' b = none := fun b hb o e =>
          let z := I'.pin (b, o) (List.mem_append_right _ (List.mem_append_right _ (mem_pinsAt hb e)))
          ⟨z.1, z.2.1⟩
        refine ⟨m', lt, i + 1, H', (I'.unpinned (pins := [])).weak (by rw [← same8, wipe_length]) (fun j v e => ?_), T.keep _ _ _ at7 fun b hb o e => (kept b hb o e).1, fun b hb => ?_, w'⟩
        · rw [← same8] at e
          exact (wipe_some e).1
        · obtain ⟨o, e, _⟩ := T.obj _ _ at7 b hb
          exact (kept b hb o e).2
      cases b with
      | false =>
        rw [if_neg (by decide)] at q9 ⊢
        exact again I9 q9
      | true =>
        rw [if_pos rfl] at q9 ⊢
        refine thnF (rk.run _ s9 τ Ht _ I9 q9) fun z s10 ⟨yk, Hk, I10, r10, q10⟩ => ?_
        refine thnF (rv.run _ s10 τ Hk _ I10 q10) fun z2 s11 ⟨yv, Hv, I11, r11, He, put, nx⟩ => ?_
        exact dic_put (X := X.blk s3 Hn scope ce fp) hu I11 put r10 r11 fun s12 I12 => again I12 nx
  exact codeAny_compStart_dict all (T.self X.A 0 _ _ _ at4 all)
section
variable {ob : HO} (mt : Empty0 ob) (hu : X.A.units + 1 < cLine) {kx vx tg iter : Expr} {ifs : List Expr} {scope : Scope} {own : List (Str × Nat)} {pos spos : Pos} {wi : TI} {g : TG} {tt : TT} {tk tv : TE} (hc : X.calm = true) (nd : X.N.Nodup) (src : PI X tg iter wi) (ok : BlkOk X.N X.env.scope scope own)
    (pt : ∀ (s : Shared) (H : Hp) (C : Addr) (cl : List (Str × Addr)) (fp : List Addr), PG (X.blk s H scope (compEnvC scope cl C X.env) fp) tg g)
    (pc : ∀ (s : Shared) (H : Hp) (C : Addr) (cl : List (Str × Addr)) (fp : List Addr), PTs (X.blk s H scope (compEnvC scope cl C X.env) fp) ifs tt)
    (pk : ∀ (s : Shared) (H : Hp) (C : Addr) (cl : List (Str × Addr)) (fp : List Addr), PE (X.blk s H scope (compEnvC scope cl C X.env) fp) kx tk)
    (pv : ∀ (s : Shared) (H : Hp) (C : Addr) (cl : List (Str × Addr)) (fp : List Addr), PE (X.blk s H scope (compEnvC scope cl C X.env) fp) vx tv) (fo : ∀ x, foldedSetIterable iter X.env x = pure x)
include mt hu hc nd src ok pt pc pk pv fo
theorem pe_dic : PE X (.DictComp kx vx [⟨tg, iter, ifs, 0⟩] scope pos) (tDic ob wi g tt tk tv (own.map (·.2))) := by
  refine ⟨fun pins s σ H Q I h => ?_⟩
  rw [arm_eval_DictComp]
  refine dic_all mt hu hc nd I src ok pt pc pk pv fo h fun D C s' m H' I' q hn f => ⟨m, hn, fun h'' sb => ?_⟩
  exact ⟨.ref D, H', I'.turned (t' := s'.toks) (fun b o hb e => (sb.2 b hb).trans e) f.1 f.2.1 f.2.2.2.1 f.2.2.2.2.1 f.2.2.2.2.2, rfl, q⟩
theorem ps_dic {i : Nat} {y : Str} {py : Pos} (hy : X.N[i]? = some y) (hl : X.env.scope.names.lookup y = some .local) (sw : swapsWith (.DictComp kx vx [⟨tg, iter, ifs, 0⟩] scope pos) (some (.Name y py)) spos.line X.env = pure true) :
    PS X (.Assign [.Name y py] (.DictComp kx vx [⟨tg, iter, ifs, 0⟩] scope pos) spos) (tAsg (tDic ob wi g tt tk tv (own.map (·.2))) (gName i)) := by
  refine ⟨fun pins s σ H D I h => ?_⟩
  rw [exec_Assign_Name_used _ _ _ _ sw]
  refine wpAny_bind (wpAny_standAt (wpAny_bind ?_))
  show wpAny _ X.A (do let _ ← comprehension (.DictComp kx vx [⟨tg, iter, ifs, 0⟩] scope pos) scope X.env (firstIterPos [⟨tg, iter, ifs, 0⟩] pos) newDict false (eval iter X.env) (some (assign (.Name y py) X.env))) _ _ s
  have h : tDic ob wi g tt tk tv (own.map (·.2)) σ H (fun x H1 => gName i x σ H1 D.nx) := h
  refine wpAny_bind (thn (dic_all (Qf := fun _ s' => SP X pins D .next s') mt hu hc nd I src ok pt pc pk pv fo h fun L C s' m H' I' q hn f => ?_) fun _ s' hq => wpAny_pure (wpAny_pure hq))
  show wpAny _ _ (assign (.Name y py) X.env (.ref L)) _ _ _
  refine wpAny_assign_Name (store_ok2 (v := V.ref L) I' nd hy (.inl hl) rfl (fun s2 I2 ⟨a, sb, ha⟩ => ?_) (.inr hl))
  have off : C ≠ a := ha.elim (fun z => by rw [z]; exact f.2.1) fun z e => f.2.2.2.2.1 y a z e.symm
  refine ⟨m, hn.sameBut sb off, fun h3 sb3 => ?_⟩
  exact ⟨_, H', I2.turned (t' := s2.toks) (fun b o hb e => (sb3.2 b hb).trans e) f.1 f.2.1 f.2.2.2.1 f.2.2.2.2.1 f.2.2.2.2.2, q⟩
end
theorem sw_dic {kx vx : Expr} {gs : List Comprehension} {scope : Scope} {pos py : Pos} {y : Str} {l : Nat} {env : Env} (hk : env.scope.kind = .function) (hy : env.scope.names.lookup y = some .local) (hl : (py.line == pos.line) = true)
    (ha : (scope.names.any fun (n, k) => n == y && (k == .local || k == .cell)) = false) : swapsWith (.DictComp kx vx gs scope pos) (some (.Name y py)) l env = pure true := by
  have ky : env.kindOf y = some .local := hy
  have hb : env.blockKind = .function := by unfold Env.blockKind; rw [hk]; rfl
  unfold swapsWith
  simp only [hb, ky, ha, Expr.pos, hl]
  rfl
theorem sw_dicC {kx vx : Expr} {gs : List Comprehension} {scope : Scope} {pos py : Pos} {y : Str} {l : Nat} {env : Env} (hy : env.scope.names.lookup y = some .cell) : swapsWith (.DictComp kx vx gs scope pos) (some (.Name y py)) l env = pure false := by
  have ky : env.kindOf y = some .cell := hy
  unfold swapsWith
  simp only [ky]
  have e : (some NameKind.cell == some NameKind.local) = false := rfl
  rw [e, Bool.and_false]
  rfl
end
end Den

/-! DenS: a dict comprehension of data; list(reversed(x)). -/
namespace Den
open PySem PySem.Spec PyProof.Rows L2
theorem RepKs.length {K : PySem.W.Frag} {G : Hp} : ∀ {vs : List (List L2.Key × V)} {ds : List (D × D)}, RepKs K G vs ds → vs.length = ds.length
  | _, _, .nil => rfl
  | _, _, .cons _ _ r => by rw [List.length_cons, List.length_cons, r.length]
theorem RepKs.put {K : PySem.W.Frag} {G : Hp} {k : D} {ks : List L2.Key} {v : V} {d : D} (e : keyT k = some ks) (rv : Rep K G v d) : ∀ {vs : List (List L2.Key × V)} {ds : List (D × D)}, RepKs K G vs ds → RepKs K G (putK vs ks v) (putT ds k d) := by
  have anyE : ∀ {vs : List (List L2.Key × V)} {ds : List (D × D)}, RepKs K G vs ds → (vs.any fun kv => decide (kv.1 = ks)) = ds.any fun p => decide (keyT p.1 = keyT k) := by
    intro vs ds r
    rw [e, valV_any, keys_val ks r]
  have mapE : ∀ {vs : List (List L2.Key × V)} {ds : List (D × D)}, RepKs K G vs ds → RepKs K G (vs.map fun kv => if kv.1 = ks then (kv.1, v) else kv) (ds.map fun p => if keyT p.1 = keyT k then (p.1, d) else p) := by
    intro vs ds r
    induction vs generalizing ds with
    | nil => cases r; exact .nil
    | cons p vs ih =>
      cases r with
      | cons e1 r1 r2 =>
        rename_i k1 v1 kd1 d1 rd1
        rw [List.map_cons, List.map_cons]
        have ih := ih r2
        by_cases q : k1 = ks
        · have q2 : keyT kd1 = keyT k := by rw [e1, e, q]
          have h1 : (if (k1, v1).1 = ks then ((k1, v1).1, v) else (k1, v1)) = (k1, v) := if_pos q
          have h2 : (if keyT (kd1, d1).1 = keyT k then ((kd1, d1).1, d) else (kd1, d1)) = (kd1, d) := if_pos q2
          rw [h1, h2]
          exact .cons e1 rv ih
        · have q2 : ¬ keyT kd1 = keyT k := fun z => q (by rw [e1, e] at z; exact Option.some.inj z)
          have h1 : (if (k1, v1).1 = ks then ((k1, v1).1, v) else (k1, v1)) = (k1, v1) := if_neg q
          have h2 : (if keyT (kd1, d1).1 = keyT k then ((kd1, d1).1, d) else (kd1, d1)) = (kd1, d1) := if_neg q2
          rw [h1, h2]
          exact .cons e1 r1 ih
  have app : ∀ {vs ws : List (List L2.Key × V)} {ds es : List (D × D)}, RepKs K G vs ds → RepKs K G ws es → RepKs K G (vs ++ ws) (ds ++ es) := by
    intro vs ws ds es r r'
    induction vs generalizing ds with
    | nil => cases r; exact r'
    | cons p vs ih =>
      cases r with
      | cons e1 r1 r2 => exact .cons e1 r1 (ih r2)
  intro vs ds r
  unfold putK putT
  rw [anyE r]
  split
  · exact mapE r
  · exact app r (.cons e rv .nil)

section
variable {CX : CXT} {X : Cx} {S : Sco} {fns : List Str} {Γ : Cn}
theorem Good.iteB {α : Type} {c : Prop} [Decidable c] {r : Res α} {P : α → Prop} (h : Good (if c then r else .bad) P) : c ∧ Good r P := by
  split at h
  · exact ⟨by assumption, h⟩
  · exact h.elim
theorem empty_dT : Empty0 (.dT []) := fun P w H h big => dt_empty h big
theorem v_dicT (h : XH CX X S fns Γ) {own : List (Str × Nat)} {tg : Tg} {k : IK} {src : Es} {key val : E} {kx vx t' i' : Expr} {scope : Scope} {pos : Pos}
    (I : VI X Γ true k src t' i') (ok : blkC S.N S.sc scope own = true) (ti : tgIn (own.map (·.2)) tg = true) (fo : ∀ x, foldedSetIterable i' X.env x = pure x)
    (ht : ∀ (Y : Cx), XH CX Y (S.blk scope) fns Γ → PGok Y tg t') (hk : ∀ (Y : Cx), XH CX Y (S.blk scope) fns Γ → VE Y Γ key kx) (hv : ∀ (Y : Cx), XH CX Y (S.blk scope) fns Γ → VE Y Γ val vx) :
    ∃ t, (PE X (.DictComp kx vx [⟨t', i', [], 0⟩] scope pos) t ∧ ∀ (j : Nat) (y : Str) (py spos : Pos), S.N[j]? = some y → S.sc.names.lookup y = some .local → swapsWith (.DictComp kx vx [⟨t', i', [], 0⟩] scope pos) (some (.Name y py)) spos.line X.env = pure true →
      PS X (.Assign [.Name y py] (.DictComp kx vx [⟨t', i', [], 0⟩] scope pos) spos) (tAsg t (gName j))) ∧ ∀ σ ρ G H Q, ER X.K G H σ ρ → Good (evE Γ (.dcT (own.map (·.2)) tg k src key val) ρ) (fun d => KF X.K G H d Q) → t σ H Q := by
  obtain ⟨wi, pi, qi⟩ := I
  have bo : BlkOk X.N X.env.scope scope own := by rw [h.hN, h.hsc]; exact blkOk_by ok
  have nd : X.N.Nodup := by rw [h.hN]; exact h.nd
  have hu : X.A.units + 1 < cLine := by have := h.hu; omega
  refine ⟨_, ⟨pe_dic (g := gE X.K tg) (tt := tC' X.K Γ .tt) (tk := tE X.K Γ key) (tv := tE X.K Γ val) empty_dT hu h.calm nd pi bo (fun s H C cl fp => (ht _ (blk_ok h scope s H C cl fp)).pg) (fun s H C cl fp => pts_tt) (fun s H C cl fp => (hk _ (blk_ok h scope s H C cl fp)).pe) (fun s H C cl fp => (hv _ (blk_ok h scope s H C cl fp)).pe) fo,
    fun j y py spos e1 e2 e3 => ps_dic (g := gE X.K tg) (tt := tC' X.K Γ .tt) (tk := tE X.K Γ key) (tv := tE X.K Γ val) empty_dT hu h.calm nd pi bo (fun s H C cl fp => (ht _ (blk_ok h scope s H C cl fp)).pg) (fun s H C cl fp => pts_tt) (fun s H C cl fp => (hk _ (blk_ok h scope s H C cl fp)).pe) (fun s H C cl fp => (hv _ (blk_ok h scope s H C cl fp)).pe) fo
      (by rw [h.hN]; exact e1) (by rw [h.hsc]; exact e2) e3⟩, fun σ ρ G H Q rr g => ?_⟩
  rw [evE] at g
  refine qi σ ρ G H _ rr (g.bind.mono fun ds g1 => (Good.bind g1).mono fun xs g2 J G1 H1 x1 j Dd nD => ?_)
  have g2 := Good.bind g2
  generalize hf : (fun x => (bindT tg x (wipeE ρ (own.map (·.2)))).bind fun ρ1 => (evE Γ key ρ1).bind fun y => (evE Γ val ρ1).bind fun z => Res.ok (y, z)) = f at g2
  refine ⟨fun i m Hc => m = xs.length - i ∧ i ≤ xs.length ∧ ∃ G2 acc outs, Ext G1 H1 G2 Hc ∧ G2 Dd = none ∧ Hc Dd = some (.dT acc) ∧ RepKs X.K G2 acc outs ∧
      Good (dcD f (xs.drop i) outs) fun ys => KF X.K G H (.dct ys) Q, ⟨_, rfl, Nat.zero_le _, G1, [], [], .newO x1.gh nD, x1.gh.free nD, upd_same, .nil, ?_⟩, ?_⟩
  · rw [List.drop_zero]
    exact g2
  · rintro i m Hc ⟨rfl, hi, G2, acc, outs, x2, nG, hD, ra, gm⟩
    have jj := j i Hc x2.hh
    by_cases hlt : i < xs.length
    · have ex : xs[i]? = some xs[i] := List.getElem?_eq_getElem hlt
      obtain ⟨go, yl⟩ := jj.1 _ ex
      refine .inr ⟨go, fun H' => ∃ G2 acc outs, Ext G1 H1 G2 H' ∧ G2 Dd = none ∧ H' Dd = some (.dT acc) ∧ RepKs X.K G2 acc outs ∧ Good (dcD f (xs.drop (i + 1)) outs) fun ys => KF X.K G H (.dct ys) Q,
        fun H' w => ⟨xs.length - (i + 1), by omega, rfl, hlt, w⟩, fun x H' y => ?_⟩
      obtain ⟨G3, x3, rx⟩ := yl x H' y G2 x2.gg x2.gh
      have ec : xs.drop i = xs[i] :: xs.drop (i + 1) := List.drop_eq_getElem_cons hlt
      rw [ec] at gm
      have gm : Good ((f xs[i]).bind fun p => if outs.length < sizeLine ∧ (keyT p.1).isSome = true then dcD f (xs.drop (i + 1)) (putT outs p.1 p.2) else .bad) _ := gm
      have gf := gm.bind
      have e_f : f xs[i] = (bindT tg xs[i] (wipeE ρ (own.map (·.2)))).bind fun ρ1 => (evE Γ key ρ1).bind fun y => (evE Γ val ρ1).bind fun z => Res.ok (y, z) := by rw [← hf]
      rw [e_f] at gf
      have off : ∀ {Ga Ha Gb Hb : Hp}, Ext Ga Ha Gb Hb → Ha Dd = some (.dT acc) → Ga Dd = none → Hb Dd = some (.dT acc) ∧ Gb Dd = none := fun {Ga Ha Gb Hb} x a1 a2 => by
        refine ⟨x.hh _ _ a1, ?_⟩
        cases q : Gb Dd with
        | none => rfl
        | some u =>
          rcases x.nw Dd u q a2 with z | ⟨vs, z⟩
          · rw [a1] at z; cases z
          · rw [a1] at z; cases z
      have er : ER X.K G3 H' (L2.wipe σ (own.map (·.2))) (wipeE ρ (own.map (·.2))) := (((rr.ext x1).ext x2).ext x3).wipe _
      obtain ⟨hD3, nD3⟩ := off x3 hD nG
      refine ⟨G3, _, _, er, rx, gf.bind.mono fun ρ1 gb τ er2 _ ws => ⟨by rw [ws _ ti]; exact wipe_wipe _ _, G3, ρ1, er2, ?_⟩⟩
      have one : Good (evC Γ .tt ρ1) (fun k => ∀ G' H'', Ext G3 H' G' H'' → k = true ∧ Ext G3 H' G' H'') := by
        rw [evC]
        exact fun G' H'' x => ⟨rfl, x⟩
      refine one.mono fun k hk' G4 H4 x4 => ?_
      obtain ⟨rfl, _⟩ := hk' G4 H4 x4
      rw [if_pos rfl]
      refine ⟨G4, ρ1, er2.ext x4, (Good.bind gb).mono fun y gy yv G5 H5 x5 ry => ⟨G5, ρ1, (er2.ext x4).ext x5, (Good.bind gy).mono fun z gz zv G6 H6 x6 rz => ?_⟩⟩
      have gz : Good (if outs.length < sizeLine ∧ (keyT y).isSome = true then dcD f (xs.drop (i + 1)) (putT outs y z) else .bad) _ := gz
      obtain ⟨⟨few, isK⟩, gz⟩ := Good.iteB gz
      obtain ⟨ks, ek⟩ := Option.isSome_iff_exists.mp isK
      have x36 : Ext G3 H' G6 H6 := x4.trans (x5.trans x6)
      obtain ⟨hD6, nD6⟩ := off x36 hD3 nD3
      have xx : Ext G1 H1 G6 H6 := x2.trans (x3.trans x36)
      have ra6 : RepKs X.K G6 acc outs := ra.mono (x3.gg.trans x36.gg)
      obtain ⟨b, rfl, hb⟩ := key_at (G := G6) (H := H6) (.inl (ry.mono x6.gg)) ek
      have neD : ∀ b o, H1 b = some o → b ≠ Dd := fun b o e z => by rw [z, nD] at e; cases e
      have neG : ∀ b o, G6 b = some o → b ≠ Dd := fun b o e z => by rw [z, nD6] at e; cases e
      refine ⟨_, .t hD6 (xx.gh _ _ hb) (by rw [ra6.length]; exact few), G6, putK acc ks zv, putT outs y z, ⟨xx.gg, fun b o e => by rw [upd_ne (neD b o e)]; exact xx.hh b o e, fun b o e => by rw [upd_ne (neG b o e)]; exact xx.gh b o e, xx.nw⟩, nD6, upd_same, RepKs.put ek rz ra6, gz⟩
    · have e : i = xs.length := by omega
      subst e
      refine .inl ⟨jj.2 (Nat.le_refl _), ?_⟩
      rw [List.drop_length] at gm
      have kf : KF X.K G H (.dct outs) Q := gm
      exact kf Dd G2 Hc (x1.trans x2) (x1.hh.free nD) nG (.inr ⟨acc, outs, rfl, hD, ra⟩)
end
end Den

set_option maxHeartbeats 1000000
/-! DenT: list(reversed(x)) of a list; xs.remove(x) by deep equality; xs.index(x). -/
namespace Den
open PySem PySem.Spec PyProof.Rows L2 RT
section
variable {prog : Program} {w : World} {A : Around} {E : Value → Shared → Prop} {s : Shared} {R : Result → Shared → Prop}
theorem extend_rev {it l S : Addr} {items : Array Value} {res : Value} {c : Nat} (hh : A.handled = none) (hit : s.heap.IsRevIter it l ((items.size : Int) - 1)) (hl : s.heap.IsList l items) (ne : l ≠ it) (hn : items.size ≤ sizeLine) (nSi : S ≠ it) (nSl : S ≠ l)
    (hS : s.heap.get? S = some { cls := .type "list", data := .seq #[] c })
    (fin : ∀ (h' : Heap) (tk : Nat) (acc : Array Value) (c' : Nat), (∀ b o, b ≠ it → b ≠ S → s.heap.get? b = some o → h'.get? b = some o) → h'.get? S = some { cls := .type "list", data := .seq acc c' } → ItemsOf (fun i v => items[items.size - 1 - i]? = some v) acc items.size → R (.ok (.ret res)) { s with heap := h', toks := tk }) :
    wpAny (model prog w) A.in1 (Builtin.List.listExtendWith (.ref S) (.ref it) res)
      (fun fin s' => match fin with | .done f => R (.ok f) s' | .again c' => c'.quiet = true ∧ codeAny (model prog w) A c' R s') (fun e s' => R (.error e) s') s := by
  have W := (Walks.listRev (prog := prog) (w := w) (A := A.in1) hh it l ne items).toS
  have out : S ∉ [it, l] := by simp only [List.mem_cons, List.not_mem_nil, or_false, not_or]; exact ⟨nSi, nSl⟩
  have ty : s.TypeIs (.ref it) "list_reverseiterator" := Heap.IsRevIter.typeIs (s := s) hit
  have other : Builtin.List.listSameRef (.ref S) (.ref it) = false := by simp [Builtin.List.listSameRef, nSi]
  unfold Builtin.List.listExtendWith
  refine wpAny_bind (wpAny_typeOf ty ?_)
  rw [if_neg (by rw [other]; decide)]
  refine wpAny_bind (wpAny_pyIter_revIter (s := s) hit ?_)
  refine wpAny_bind (wpAny_holding ?_)
  unfold Builtin.List.listLengthHint
  refine wpAny_bind (wpAny_specialOf ty nolen_lri ?_)
  show wpAny _ A.in1 (specialOf (Value.ref it) (Str.ofString "__length_hint__") >>= _) _ _ _
  refine wpAny_bind (wpAny_specialOf ty hint_lri ?_)
  generalize qid : ("list_reverseiterator.__length_hint__" : String) = idh
  wp_delta
  rw [show splitId idh = some ("list_reverseiterator", "__length_hint__") from by subst qid; decide +kernel]
  subst qid
  refine wpAny_bind (wpAny_isInstance (b := true) ty (by rw [isSubtype_type]; kernel_rfl) ?_)
  refine wpAny_pure ?_
  rw [if_neg (by decide)]
  have at0 : ((items.size : Nat) : Int) - 1 - ((0 : Nat) : Int) = (items.size : Int) - 1 := by omega
  refine wpAny_pure ⟨plainId_quiet F.plain_extend_loop _, codeAny_extend_loopS W hn _ out _ items.size 0 _ _ _ rfl (Nat.zero_le _) ⟨Nat.zero_le _, by rw [at0]; exact hit, hl⟩ hS (ItemsOf.nil _) fun s' acc' c' hm hS' hacc => ?_⟩
  rw [Moved.eq_with hm]
  refine fin s'.heap s'.toks acc' c' (fun b o n1 n2 e => hm.heap b o (fun hmem => ?_) e) hS' hacc
  rcases List.mem_cons.mp hmem with e' | hmem
  · exact n2 e'
  · exact n1 (List.mem_singleton.mp hmem)
theorem call_lrev {it l : Addr} {items : Array Value} {Q : Value → Shared → Prop} (hh : A.handled = none) (hit : s.heap.IsRevIter it l ((items.size : Int) - 1)) (hl : s.heap.IsList l items) (ne : l ≠ it) (hn : items.size ≤ sizeLine)
    (fin : ∀ (h' : Heap) (tk : Nat) (acc : Array Value) (c' : Nat), (∀ b o, b ≠ it → s.heap.get? b = some o → h'.get? b = some o) → h'.get? s.heap.objs.size = some { cls := .type "list", data := .seq acc c' } → ItemsOf (fun i v => items[items.size - 1 - i]? = some v) acc items.size →
      Q (.ref s.heap.objs.size) { s with heap := h', toks := tk }) :
    wpAny (model prog w) A (call (.type "list") [.ref it]) Q E s := by
  obtain ⟨oi, hoi, _⟩ := id hit
  obtain ⟨ol, hol, _⟩ := id hl
  have n1 : s.heap.objs.size ≠ it := Nat.ne_of_gt (Heap.lt_size hoi)
  have n2 : s.heap.objs.size ≠ l := Nat.ne_of_gt (Heap.lt_size hol)
  refine callType_codes (Q₁ := fun obj s₁ => obj = .ref s.heap.objs.size ∧ s₁ = { s with heap := s.heap.push { cls := .type "list", data := .seq #[] } }) F.called_list (F.typeCall_list_1 _) F.entry_list_init
    (code_list_new _ ⟨rfl, rfl⟩) fun obj s₁ h₁ => ?_
  obtain ⟨rfl, rfl⟩ := h₁
  have hS : (s.heap.push { cls := .type "list", data := .seq #[] }).get? s.heap.objs.size = some { cls := .type "list", data := .seq #[] } := Heap.get?_push_size _ rfl
  refine ⟨⟨_, hS, rfl⟩, F.args_list_init_2 _ _, ?_⟩
  show wpAny _ A.in1.in1 (do let old ← Builtin.List.listItems (.ref s.heap.objs.size); Builtin.List.listUpdate (.ref s.heap.objs.size) (fun _ => #[]); letGo old.toList.reverse; Builtin.List.listExtendWith (.ref s.heap.objs.size) (.ref it) .none) _ _ _
  refine wpAny_bind ?_
  unfold Builtin.List.listItems
  refine wpAny_bind (wpAny_seqItems hS rfl (wpAny_pure ?_))
  show wpAny _ A.in1.in1 (updateSeq s.heap.objs.size (fun _ => #[]) >>= fun _ => letGo (#[] : Array Value).toList.reverse >>= fun _ => Builtin.List.listExtendWith (.ref s.heap.objs.size) (.ref it) .none) _ _ _
  refine wpAny_bind (wpAny_updateSeq hS rfl ?_)
  have hS2 := Heap.get?_update_self (Obj.mapSeq (fun _ => (#[] : Array Value))) hS rfl
  have oth : ∀ b o, b ≠ s.heap.objs.size → s.heap.get? b = some o → ((s.heap.push { cls := .type "list", data := .seq #[] }).update s.heap.objs.size (Obj.mapSeq (fun _ => (#[] : Array Value)))).get? b = some o :=
    fun b o hb e => (Heap.get?_update_other _ _ (Ne.symm hb)).trans (Heap.get?_push_of_some _ e)
  refine wpAny_bind (wpAny_letGo ?_)
  refine extend_rev (A := A.in1) hh (hit.at fun o e => oth _ o (Ne.symm n1) e) ⟨ol, oth _ _ (Ne.symm n2) hol, ‹_›⟩ ne hn n1 n2 hS2 fun h' tk acc c' keep new its => ?_
  exact ⟨rfl, fin h' tk acc c' (fun b o hb e => keep b o hb (Nat.ne_of_lt (Heap.lt_size e)) (oth b o (Nat.ne_of_lt (Heap.lt_size e)) e)) new its⟩
end
/-! ### list.remove, items that lie deep -/
theorem rem_walk (l : Addr) (items : Array Value) (n : Nat) (x : Value) (e : Value → Bool) (j : Nat) (hj : j < items.size) (hit : e items[j] = true) (few : items.size ≤ sizeLine) :
    ∀ (k i : Nat), j - i = k → i ≤ j → (∀ m (hm : m < items.size), i ≤ m → m < j → e items[m] = false) → Meets (Builtin.«list.remove.loop» ⟨[.ref l, x, rawInt i], []⟩)
      (fun A R s => s.heap.get? l = some { cls := .type "list", dict := none, data := .seq items n, slots := #[] } ∧ (∀ y, y ∈ items → SeqAt.EqAt A.in1 s y x (e y)) ∧ R (.ok (.ret .none)) { s with heap := s.heap.update l (Obj.mapSeq fun xs => xs.eraseIdxIfInBounds j) })
  | 0, i, hk, le, no => by
    intro prog w A R s h
    obtain ⟨hp, g, d, tk, os⟩ := s
    obtain ⟨hl, he, h⟩ := h
    obtain rfl : i = j := by omega
    wp_walk using wpAny_loadPart' hl
    have there : items[((i : Nat) : Int).toNat]? = some items[i] := by simp [hj]
    rw [there]
    refine wpAny_bind (he _ (Array.getElem_mem hj) prog w _ _ ?_)
    rw [hit]
    have fits : (items.eraseIdxIfInBounds i).size ≤ sizeLine + 1 := Nat.le_trans (MeetsSeq.size_erased items _) (Nat.le_succ_of_le few)
    wp_walk using (wpAny_updateSeq hl rfl (hz := few) (_hz' := fits)), wpAny_loadPart' hl
    simpa using h
  | k + 1, i, hk, le, no => by
    intro prog w A R s h
    obtain ⟨hp, g, d, tk, os⟩ := s
    obtain ⟨hl, he, h⟩ := h
    have lt : i < items.size := by omega
    wp_walk using wpAny_loadPart' hl
    have there : items[((i : Nat) : Int).toNat]? = some items[i] := by simp [lt]
    have up : ((i : Int) + 1) = ((i + 1 : Nat) : Int) := by push_cast; rfl
    rw [there]
    refine wpAny_bind (he _ (Array.getElem_mem lt) prog w _ _ ?_)
    rw [no i lt (Nat.le_refl _) (by omega)]
    wp_walk
    rw [up]
    exact ⟨plainId_quiet MeetsSeq.plain_remove_loop _, codeAny_builtin MeetsSeq.entry_remove_loop (by
      rw [Around.under_plainId MeetsSeq.plain_remove_loop _]
      exact rem_walk l items n x e j hj hit few k (i + 1) (by omega) (by omega) (fun m hm h1 h2 => no m hm (by omega) h2) prog w A R _ ⟨hl, he, h⟩)⟩
theorem rem_at (l : Addr) (items : Array Value) (n : Nat) (x : Value) (e : Value → Bool) (j : Nat) (hj : j < items.size) (hit : e items[j] = true) (no : ∀ m (hm : m < items.size), m < j → e items[m] = false) (few : items.size ≤ sizeLine) :
    Meets (Builtin.«list.remove» ⟨[.ref l, x], []⟩)
      (fun A R s => s.heap.get? l = some { cls := .type "list", dict := none, data := .seq items n, slots := #[] } ∧ (∀ y, y ∈ items → SeqAt.EqAt A.in1 s y x (e y)) ∧ R (.ok (.ret .none)) { s with heap := s.heap.update l (Obj.mapSeq fun xs => xs.eraseIdxIfInBounds j) }) := by
  intro prog w A R s h
  obtain ⟨hp, g, d, tk, os⟩ := s
  obtain ⟨hl, he, h⟩ := h
  wp_walk using wpAny_loadPart' hl
  exact ⟨plainId_quiet MeetsSeq.plain_remove_loop _, codeAny_builtin MeetsSeq.entry_remove_loop (by
    rw [Around.under_plainId MeetsSeq.plain_remove_loop _]
    exact rem_walk l items n x e j hj hit few _ 0 rfl (Nat.zero_le _) (fun m hm _ h2 => no m hm h2) prog w A R _ ⟨hl, he, h⟩)⟩
section
variable {X : Cx}
/-- list(reversed(x)), x a list -/
theorem pe_lrev {e : Expr} {te : TE} {p p2 pos pos2 : Pos} (hc : X.calm = true) (hg : Gl X "list") (hm : X.mg "list" = none) (hg2 : Gl X "reversed") (hm2 : X.mg "reversed" = none) (he : PE X e te)
    (hs : starEach [e] X.env = (false, eval e X.env) :: starEach [] X.env) :
    PE X (.Call (.Name "list" p) [.Call (.Name "reversed" p2) [e] [] pos2] [] pos) (tUn (fun x H Q => ∃ (a : Addr) (xs : List V), x = .ref a ∧ SqL X.K H a xs ∧ ∀ q, H q = none → Q (.ref q) (upd H q (.lst xs.reverse))) te) := by
  refine ⟨fun pins s σ H Q I h => ?_⟩
  have hs2 : starEach [.Call (.Name "reversed" p2) [e] [] pos2] X.env = (false, eval (.Call (.Name "reversed" p2) [e] [] pos2) X.env) :: starEach [] X.env := rfl
  refine Call_ (ld_blt I hg hm boot_list (PyProof.Rows.callWith_type1 (args_cons (Call_ (ld_blt I hg2 hm2 PyProof.Rows.boot_reversed (PyProof.Rows.callWith_type1 (args_cons (thn (he.run pins s σ H _ I h) fun u s1 ⟨v, H1, I1, r1, q1⟩ => args_nil ?_) hs) hs rfl))) hs2) hs2 rfl))
  obtain ⟨a, xs, rfl, hq, fin⟩ := q1
  obtain rfl : u = Value.ref a := r1
  obtain ⟨its, rv, p', hz⟩ := I1.list hq
  have hl := p'.isList
  obtain ⟨ol, hol, _⟩ := id hl
  have few : its.toArray.size ≤ sizeLine := by rw [List.size_toArray, ← rv.length]; exact hz
  refine call_reversed_list p'.isList (args_nil ?_)
  refine call_lrev (s := { s1 with heap := s1.heap.push (revObj a ((its.toArray.size : Int) - 1)) }) (I1.ok.hd hc) ⟨_, Heap.get?_push_size _ rfl, rfl, rfl⟩ (hl.push _) (Nat.ne_of_lt (Heap.lt_size hol)) few fun h' tk acc c' keep new its' => ?_
  have up : s1.heap.objs.size ≤ (s1.heap.push (revObj a ((its.toArray.size : Int) - 1))).objs.size := by rw [Heap.size_push]; exact Nat.le_succ _
  refine ⟨.ref _, _, I1.laid (a := (s1.heap.push (revObj a ((its.toArray.size : Int) - 1))).objs.size) (o := .lst xs.reverse) (t' := tk) (fun b o q => keep b o (Nat.ne_of_lt (Heap.lt_size q)) (Heap.get?_push_of_some _ q)) up ⟨by rw [List.length_reverse]; exact hz, acc.toList, c', vals_rev rv its', ?_⟩, rfl, fin _ (I1.hok.fresh up)⟩
  rw [Array.toArray_toList]
  exact new
/-- xs.remove(y): the first equal one -/
def rRemD (K : PySem.W.Frag) : V → List V → Hp → VK → Prop := fun x xs H Q => ∃ (a : Addr) (y : V) (d : PyData) (vs : List V) (ds : List PyData) (j : Nat) (z : PyData), x = V.ref a ∧ xs = [y] ∧ H a = some (.lst vs) ∧ DpAll K H vs ds ∧ Dp K H y d ∧
  SeqAt.shaped (.list ds) = true ∧ SeqAt.shaped d = true ∧ ds[j]? = some z ∧ PyData.eqv z d = true ∧ (∀ (m : Nat) (z' : PyData), m < j → ds[m]? = some z' → PyData.eqv z' d = false) ∧ Q .non (upd H a (.lst (vs.eraseIdx j)))
theorem mt_rem (hu : X.A.units + 65 < cLine) : MtR X "list.remove" (rRemD X.K) := by
  intro pins s σ H x xs v us Q I rx rxs h
  obtain ⟨a, y, d, vs, ds, j, z, rfl, rfl, hH, ha, hy, sl, sd, hz, hit, no, q⟩ := h
  cases rx
  cases rxs with
  | cons ry rt =>
    rename_i uy ut
    cases rt
    obtain ⟨bs, r1⟩ := Dp.reads I d y uy hy ry
    have lay : PyData.canLayAll0 ds = true := SeqAt.canLay_of_shaped sl
    have room : X.A.units + 1 + min (PyData.depthAll ds) d.depth < cLine := room_in_shaped sd hu
    obtain ⟨hlen, its, n, rv, hlv, ho⟩ := I.lstM hH
    obtain ⟨as, h4⟩ := Dp.readsAll I ds _ its ha rv
    have same : its.length = ds.length := SeqAt.ReadsAll.length ds its as h4
    have map : its.map (SeqAt.readOf s.heap) = ds := SeqAt.readsAll_map ds its as lay h4
    obtain ⟨hjd, _⟩ := List.getElem?_eq_some_iff.mp hz
    have hj : j < its.toArray.size := by simp only [List.size_toArray]; omega
    have few : its.toArray.size ≤ sizeLine := by rw [List.size_toArray, ← hlv]; exact hlen
    have read : ∀ (m : Nat) (hm : m < its.toArray.size) (z' : PyData), ds[m]? = some z' → SeqAt.readOf s.heap its.toArray[m] = z' := by
      intro m hm z' hz'
      have hml : m < its.length := by simpa using hm
      rw [← map, List.getElem?_map, List.getElem?_eq_getElem hml] at hz'
      have e1 : SeqAt.readOf s.heap its[m] = z' := Option.some.inj (show some (SeqAt.readOf s.heap its[m]) = some z' from hz')
      simpa using e1
    refine call_meets PySem.F.slot_list_remove ⟨_, ho, rfl⟩ PySem.F.entry_list_remove (PySem.F.args_list_remove_2 _ _)
      (rem_at a its.toArray n uy (fun u => PyData.eqv (SeqAt.readOf s.heap u) d) j hj ?_ ?_ few) ⟨ho, SeqAt.items_eqAt (vs := its.toArray) (show ReadsAll s.heap its.toArray.toList ds as from h4) r1 lay (SeqAt.canLay_of_shaped sd) room, ?_⟩
    · show PyData.eqv (SeqAt.readOf s.heap its.toArray[j]) d = true
      rw [read j hj z hz]
      exact hit
    · intro m hm hmj
      have hz' : ds[m]? = some ds[m] := List.getElem?_eq_getElem (by simp only [List.size_toArray] at hm; omega)
      show PyData.eqv (SeqAt.readOf s.heap its.toArray[m]) d = false
      rw [read m hm _ hz']
      exact no m _ hmj hz'
    · refine ⟨.non, _, I.lset (its' := its.eraseIdx j) (t' := s.toks) hH ho ?_ (rv.eraseIdx j) ?_, rfl, q⟩
      · show its.toArray.eraseIdxIfInBounds j = (its.eraseIdx j).toArray
        rw [List.eraseIdxIfInBounds_toArray]
      · have := List.length_eraseIdx_le vs j
        omega
end
section
variable {CX : CXT} {X : Cx} {S : Sco} {fns : List Str} {Γ : Cn}
theorem v_lrev (h : XH CX X S fns Γ) {es : Es} {e : Expr} {p p2 pos pos2 : Pos} (g1 : glB S.sc "list" = true) (g2 : glB S.sc "reversed" = true) (ns : nst e = true) (L : VL X Γ true es [e]) :
    VF X Γ (.op .toLstRev es) (.Call (.Name "list" p) [.Call (.Name "reversed" p2) [e] [] pos2] [] pos) :=
  v_op1F rfl L (fun _ q => pe_lrev h.calm (h.gl g1) (h.blt _ (by decide)) (h.gl g2) (h.blt _ (by decide)) q (star_cons ns)) fun x a G H Q s hx g => by
    have g : Good (sLrev a) (fun d => KF X.K G H d Q) := g
    unfold sLrev at g
    split at g
    · obtain ⟨p, vs, rfl, e1, r1⟩ := hx.lst s
      exact ⟨p, vs, rfl, .inl (.inl e1), fun q n => KF.newL g s r1.reverse n⟩
    · exact g.elim
theorem v_index (h : XH CX X S fns Γ) {es : Es} {y : Str} {q apos cpos : Pos} {e : Expr} (ns : nst e = true) (hl : (apos.endLine == cpos.line) = true) (L : VL X Γ true es [.Name y q, e]) :
    VE X Γ (.op .index es) (.Call (.Attribute (.Name y q) "index" apos) [e] [] cpos) := by
  have few : ((backTo cpos (starEach [e] X.env)).all (fun x => !x.1) && (backToKw cpos (keywordEach [] X.env)).all (fun x => x.1.isSome) && decide ([e].length + ([] : List Keyword).length + (if ([] : List Keyword).isEmpty then 0 else 1) < 30)) = true := by
    rw [star_cons ns]; rfl
  cases L with
  | consB A R =>
    cases R with
    | consB B R =>
      cases R
      obtain ⟨t1, p1, q1⟩ := A
      obtain ⟨t2, p2, q2⟩ := B
      refine ⟨_, pe_bm PySem.F.plainAttrs_list PySem.F.slot_list_index PySem.F.type_list_index (mt_indexD (by have := h.hu; omega)) p1 (pa_cons p2 pa_nil (star_cons ns)) rfl few hl (star_cons ns) rfl, fun σ ρ G H Q rr g => q1 σ ρ G H _ rr ?_⟩
      rw [evE, show O.index.borrows = true from rfl, evEs_B] at g
      refine g.bind.bind.mono fun d g1 v G1 H1 x1 r1 => ?_
      have g1 := Good.bind g1
      rw [evEs_B] at g1
      -- it is a list
      have isL : ∃ xs, d = .lst xs := by
        obtain ⟨d2, e2, g2⟩ := g1.bind.eq
        have g2 : Good (sIndex d d2) _ := g2
        unfold sIndex at g2
        split at g2
        · exact ⟨_, rfl⟩
        · exact g2.elim
      obtain ⟨xs, rfl⟩ := isL
      obtain ⟨a, vs, rfl, e1, _⟩ := r1.lst x1.gh
      refine ⟨.inl ⟨rfl, vs, .inl (.inl e1)⟩, q2 σ ρ G1 H1 _ (rr.ext x1) (g1.bind.mono fun d2 g2 w G2 H2 x2 r2 => ?_)⟩
      exact s_index x2.gh (r1.ext x2) r2 (Good.mono (P := fun d => KV X.K G H d Q) (show Good (sIndex (.lst xs) d2) _ from g2) fun d k => k.ext (x1.trans x2))
end
end Den

/-! DenK: the look at an expression's text, and that it is enough. -/
namespace Den
open PySem PySem.Spec PyProof.Rows L2

def conB : D → Const → Bool
  | .int i, .int j => decide (i = j)
  | .str x, .str y => decide (x = y)
  | .bl b, .bool c => decide (b = c)
  | .non, .none => true
  | _, _ => false
def varB (S : Sco) (i : Nat) (x : Str) : Bool := decide (S.N[i]? = some x) && visB S.sc x && !(x == ("__debug__" : Str)) && !(x == ("__classdict__" : Str))
def isCO : CmpOp → Option O
  | .Is => some .isBl | .IsNot => some .notBl | _ => none
def metO (m : Str) : Option O := if m = "index" then some .index else none
def ownP (S : Sco) (own : List Nat) : List (Str × Nat) := own.map fun i => (S.N.getD i "", i)
def noFold : Expr → Bool
  | .Set _ _ _ => false
  | _ => true
def sameL (p q : Pos) : Bool := p.endLine == q.line
def nilE : Es → Bool
  | .nil => true
  | _ => false
def unB (p : UnaryOp) (o : O) : Bool := match p with
  | .USub => decide (o = .neg)
  | _ => false
def nonB (p : CmpOp) (o : O) : Bool := match p with
  | .Is => decide (o = .isNon)
  | .IsNot => decide (o = .notNon)
  | _ => false
mutual
def chE (fns : List Str) : E → Sco → Expr → Bool
  | .var i, S, e => match e with
    | .Name x _ => varB S i x
    | _ => false
  | .con d, _, e => match e with
    | .Constant c _ _ => conB d c
    | _ => false
  | .op o es, S, e => match e with
    | .BinOp a p b _ => decide (binO p = some o) && chEs fns es S [a, b]
    | .UnaryOp p a _ => unB p o && chEs fns es S [a]
    | .Compare a [p] [b] _ => match b with
      | .Constant .none _ _ => nonB p o && chEs fns es S [a]
      | .Constant (.bool k) j q => (decide (isCO p = some o) || decide (cmpO p = some o)) && chEs fns es S [a, .Constant (.bool k) j q]
      | b => decide (cmpO p = some o) && noSet b && chEs fns es S [a, b]
    | .Subscript a (.Slice none none none _) _ => decide (o = .sl00) && chEs fns es S [a]
    | .Subscript a (.Slice (some l) none none _) _ => decide (o = .sl10) && chEs fns es S [a, l]
    | .Subscript a (.Slice none (some u) none _) _ => decide (o = .sl01) && chEs fns es S [a, u]
    | .Subscript a (.Slice (some l) (some u) none _) _ => decide (o = .sl11) && chEs fns es S [a, l, u]
    | .Subscript a b _ => decide (o = .idx) && ixPlain b && chEs fns es S [a, b]
    | .Tuple xs _ _ => decide (o = .mkTup) && xs.all nst && chEs fns es S xs
    | .List xs _ => decide (o = .mkLst) && xs.all nst && chEs fns es S xs
    | .Call (.Name x _) [a] [] _ => if o = .toLstRev then (match a with
        | .Call (.Name y _) [b] [] _ => decide (x = "list") && decide (y = "reversed") && glB S.sc "list" && glB S.sc "reversed" && nst b && chEs fns es S [b]
        | _ => false)
      else decide (call1O x = some o) && glB S.sc x && nst a && chEs fns es S [a]
    | .Call (.Attribute (.Name y q) m apos) [b] [] cpos => decide (m = "index") && decide (o = .index) && nst b && (apos.endLine == cpos.line) && chEs fns es S [.Name y q, b]
    | .Call (.Name x _) [a, b] [] _ => match b with
      | .Name t _ => if x = "isinstance" then decide (isiO t = some o) && glB S.sc "isinstance" && glB S.sc t && nst a && chEs fns es S [a] else decide (call2O x = some o) && glB S.sc x && nst a && nst b && chEs fns es S [a, b]
      | b => decide (call2O x = some o) && glB S.sc x && nst a && nst b && chEs fns es S [a, b]
    | _ => false
  | .andE a b, S, e => match e with
    | .BoolOp .And [x, y] _ => chE fns a S x && chE fns b S y
    | .BoolOp .And (x :: y :: z :: r) p => chE fns a S x && chE fns b S (.BoolOp .And (y :: z :: r) p)
    | _ => false
  | .orE a b, S, e => match e with
    | .BoolOp .Or [x, y] _ => chE fns a S x && chE fns b S y
    | .BoolOp .Or (x :: y :: z :: r) p => chE fns a S x && chE fns b S (.BoolOp .Or (y :: z :: r) p)
    | _ => false
  | .notE a, S, e => match e with
    | .UnaryOp .Not x _ => chE fns a S x
    | _ => false
  | .ite c a b, S, e => match e with
    | .IfExp t x y _ => chC fns c S t && chE fns a S x && chE fns b S y
    | _ => false
  | .chain o1 o2 a b c, S, e => match e with
    | .Compare x [p1, p2] [y, z] _ => decide (cmpO p1 = some o1) && decide (cmpO p2 = some o2) && noSet z && chE fns a S x && chE fns b S y && chE fns c S z
    | _ => false
  | .call f es, S, e => match e with
    | .Call (.Name x _) xs [] _ => decide (fns[f]? = some x) && glB S.sc x && !(x == ("__debug__" : Str)) && xs.all nst && chEs fns es S xs
    | _ => false
  | .callB f es, S, e => match e with
    | .Call (.Name x _) xs [] _ => decide (fns[f]? = some x) && glB S.sc x && !(x == ("__debug__" : Str)) && xs.all nst && chEs fns es S xs
    | _ => false
  | .lc own tg k src c elt, S, e => match e with
    | .ListComp e' [⟨t', i', ifs, 0⟩] scope _ => chI fns k src S t' i' && blkC S.N S.sc scope (ownP S own) && tgIn own tg && noFold i' && chT (S.blk scope) tg t' &&
      (match ifs with
        | [] => (match c with | .tt => true | _ => false)
        | [t] => chC fns c (S.blk scope) t
        | _ => false) && chE fns elt (S.blk scope) e'
    | _ => false
  | .dcT own tg k src key val, S, e => match e with
    | .DictComp kx vx [⟨t', i', [], 0⟩] scope _ => chI fns k src S t' i' && blkC S.N S.sc scope (ownP S own) && tgIn own tg && noFold i' && chT (S.blk scope) tg t' && chE fns key (S.blk scope) kx && chE fns val (S.blk scope) vx
    | _ => false
def chEs (fns : List Str) : Es → Sco → List Expr → Bool
  | .nil, _, xs => xs.isEmpty
  | .cons a as, S, xs => match xs with
    | [] => false
    | x :: r => chE fns a S x && chEs fns as S r
def chC (fns : List Str) : C → Sco → Expr → Bool
  | .tt, _, _ => false
  | .tr a, S, e => match e with
    | .Compare _ _ _ _ => chE fns a S e && (match a with | .op _ _ => true | .chain _ _ _ _ _ => true | _ => false)
    | e => truB e && chE fns a S e
  | .bv i, S, e => match e with
    | .Name x _ => varB S i x
    | _ => false
  | .and a b, S, e => match e with
    | .BoolOp .And [x, y] _ => chC fns a S x && chC fns b S y
    | .BoolOp .And (x :: y :: z :: r) p => chC fns a S x && chC fns b S (.BoolOp .And (y :: z :: r) p)
    | _ => false
  | .or a b, S, e => match e with
    | .BoolOp .Or [x, y] _ => chC fns a S x && chC fns b S y
    | .BoolOp .Or (x :: y :: z :: r) p => chC fns a S x && chC fns b S (.BoolOp .Or (y :: z :: r) p)
    | _ => false
  | .not a, S, e => match e with
    | .UnaryOp .Not x _ => chC fns a S x
    | _ => false
def chI (fns : List Str) (k : IK) : Es → Sco → Expr → Expr → Bool
  | .nil, _, _, _ => false
  | .cons a as, S, t, i => match k with
    | .plain => noFold i && nilE as && chE fns a S i
    | .range1 => match i with
      | .Call (.Name x _) [e] [] _ => decide (x = "range") && glB S.sc "range" && nst e && nilE as && chE fns a S e
      | _ => false
    | .range2 => match i with
      | .Call (.Name x _) [e, e2] [] _ => decide (x = "range") && glB S.sc "range" && nst e && nst e2 && chE fns a S e && chEs fns as S [e2]
      | _ => false
    | .rev => match i with
      | .Call (.Name x _) [e] [] _ => decide (x = "reversed") && glB S.sc "reversed" && nst e && nilE as && chE fns a S e
      | _ => false
    | .enum => match i, t with
      | .Call (.Name x _) [e] [] _, .Tuple _ _ _ => decide (x = "enumerate") && glB S.sc "enumerate" && nst e && nilE as && chE fns a S e
      | _, _ => false
    | .zip2 => match i, t with
      | .Call (.Name x _) [e, e2] [] _, .Tuple _ _ _ => decide (x = "zip") && glB S.sc "zip" && nst e && nst e2 && chE fns a S e && chEs fns as S [e2]
      | _, _ => false
end
end Den

/-! DenL: the look at an expression is enough. -/
namespace Den
open PySem PySem.Spec PyProof.Rows L2
section
variable {CX : CXT} {fns : List Str} {Γ : Cn}
theorem varB_of {S : Sco} {i : Nat} {x : Str} (h : varB S i x = true) : S.N[i]? = some x ∧ visB S.sc x = true ∧ (x == ("__debug__" : Str)) = false ∧ (x == ("__classdict__" : Str)) = false := by
  unfold varB at h
  simp only [Bool.and_eq_true, decide_eq_true_eq, Bool.not_eq_true'] at h
  exact ⟨h.1.1.1, h.1.1.2, h.1.2, h.2⟩
theorem v_con {X : Cx} {d : D} {c : Const} {k : Nat} {p : Pos} (h : conB d c = true) : VE X Γ (.con d) (.Constant c k p) := by
  have key : ∀ {v : V} {d : D}, PE X (.Constant c k p) (tC v) → (∀ G, Rep X.K G v d) → VE X Γ (.con d) (.Constant c k p) := fun {v d} pe r => ⟨_, pe, fun σ ρ G H Q rr g => by
    have g : Good (Res.ok d) (fun d => KV X.K G H d Q) := by simpa only [evE] using g
    exact KV.here g rr.sub (r G)⟩
  unfold conB at h
  split at h
  · cases of_decide_eq_true h; exact key pe_int fun _ => .int _
  · cases of_decide_eq_true h; exact key pe_str fun _ => .str _
  · cases of_decide_eq_true h; exact key pe_bl fun _ => .bl _
  · exact key pe_non fun _ => .non
  · cases h
theorem v_isBl {X : Cx} {S : Sco} (h : XH CX X S fns Γ) {p : CmpOp} {o : O} {es : Es} {a b : Expr} {pos : Pos} (e : isCO p = some o) (n : noSet b = true) (L : VL X Γ true es [a, b]) :
    VE X Γ (.op o es) (.Compare a [p] [b] pos) ∧ VC X Γ (.tr (.op o es)) (.Compare a [p] [b] pos) := by
  have bl : ∀ {n : Bool} {a b d : D}, sIsBl n a b = .ok d → ∃ k, d = .bl k := fun {n a b d} h => by
    unfold sIsBl at h
    split at h
    · cases h; exact ⟨_, rfl⟩
    · cases h
  have rule : o.borrows = true ∧ ∃ r, OpR X (compareOp p) r ∧ (∀ x y a b G H Q, Same G H → RepB X.K G H x a → RepB X.K G H y b → GV X.K G H Q (o.sem [a, b]) → r x y H Q) ∧ ∀ a b d, o.sem [a, b] = .ok d → ∃ k, d = .bl k := by
    cases p <;> cases e
    · exact ⟨rfl, rIsBD false, op_isBl, fun _ _ _ _ _ _ _ s h1 h2 g => s_isBl s h1 h2 g, fun a b d h => bl h⟩
    · exact ⟨rfl, rIsBD true, op_notBl, fun _ _ _ _ _ _ _ s h1 h2 g => s_isBl s h1 h2 g, fun a b d h => bl h⟩
  obtain ⟨hb, r, ho, sm, bl⟩ := rule
  refine ⟨v_op2 hb L (fun _ _ p q => pe_cmpR ho p q (mark_of n)) sm, ?_⟩
  cases L with
  | consB A R =>
    cases R with
    | consB B R =>
      cases R
      obtain ⟨t1, p1, q1⟩ := A
      obtain ⟨t2, p2, q2⟩ := B
      refine ⟨_, pt_cmpR ho p1 p2 (mark_of n), fun σ ρ G H Q rr g => q1 σ ρ G H _ rr ?_⟩
      rw [evC, evE, hb, evEs_B] at g
      refine g.bind.bind.bind.mono fun d g1 v G1 H1 x1 r1 => q2 σ ρ G1 H1 _ (rr.ext x1) ?_
      have g1 := Good.bind g1
      rw [evEs_B] at g1
      refine g1.bind.mono fun d2 g2 v2 G2 H2 x2 r2 => sm v v2 d d2 G2 H2 _ x2.gh (r1.ext x2) r2 ?_
      obtain ⟨w, ew, k⟩ := Good.eq (show Good (o.sem [d, d2]) _ from g2)
      obtain ⟨k', rfl⟩ := bl _ _ _ ew
      rw [ew]
      intro z G3 H3 x3 r3
      cases r3
      exact ⟨k', rfl, (show ∀ G' H', Ext G H G' H' → Q k' H' from k) G3 H3 ((x1.trans x2).trans x3)⟩
theorem fold_of {e : Expr} {env : Env} (h : noFold e = true) : ∀ x, foldedSetIterable e env x = pure x := by
  intro x
  cases e <;> first | rfl | cases h
theorem own_of (S : Sco) (own : List Nat) : (ownP S own).map (·.2) = own := by
  unfold ownP
  rw [List.map_map]
  exact List.map_id'' (fun _ => rfl) own
theorem binO_f {p : Operator} {o : O} (e : binO p = some o) : o.fresh = false := by cases p <;> cases e <;> rfl
theorem cmpO_f {p : CmpOp} {o : O} (e : cmpO p = some o) : o.fresh = false := by cases p <;> cases e <;> rfl
theorem isCO_f {p : CmpOp} {o : O} (e : isCO p = some o) : o.fresh = false := by cases p <;> cases e <;> rfl
theorem isiO_f {t : Str} {o : O} (z : isiO t = some o) : o.fresh = false := by
  unfold isiO at z
  repeat' (split at z)
  all_goals first | (cases z; rfl) | cases z
theorem call2O_f {t : Str} {o : O} (z : call2O t = some o) : o.fresh = false := by
  unfold call2O at z
  repeat' (split at z)
  all_goals first | (cases z; rfl) | cases z
theorem unB_of {p : UnaryOp} {o : O} (h : unB p o = true) : p = .USub ∧ o = .neg := by
  cases p <;> first | exact ⟨rfl, of_decide_eq_true h⟩ | cases h
theorem nonB_of {p : CmpOp} {o : O} (h : nonB p o = true) : (p = .Is ∧ o = .isNon) ∨ (p = .IsNot ∧ o = .notNon) := by
  cases p <;> first | exact .inl ⟨rfl, of_decide_eq_true h⟩ | exact .inr ⟨rfl, of_decide_eq_true h⟩ | cases h
def isBO : Expr → Bool
  | .BoolOp _ _ _ => true
  | _ => false
theorem truB_no {e : Expr} {P : Prop} (h : truB e = true) (z : isBO e = true) : P := by
  cases e <;> first | (simp [isBO] at z; done) | (simp [truB] at h; done)
/-- what is shown of an expression -/
def SE (X : Cx) (Γ : Cn) (a : E) (e : Expr) : Prop := VE X Γ a e ∧ VB X Γ a e ∧ (fresh a = true → VF X Γ a e)
theorem SE.of {X : Cx} {a : E} {e : Expr} (h : VE X Γ a e) (n : a.isVar = none) (f : fresh a = false) : SE X Γ a e := ⟨h, h.b n, fun z => by rw [f] at z; cases z⟩
theorem SE.ofF {X : Cx} {a : E} {e : Expr} (h : VF X Γ a e) (n : a.isVar = none) : SE X Γ a e := ⟨h.v, h.v.b n, fun _ => h⟩
mutual
theorem sE : ∀ (a : E) (X : Cx) (S : Sco) (e : Expr), XH CX X S fns Γ → chE fns a S e = true → SE X Γ a e
  | .var i, X, S, e, h, c => by
    cases e with
    | Name x p =>
      have c : varB S i x = true := by simpa only [chE] using c
      obtain ⟨c1, c2, c3, c4⟩ := varB_of c
      obtain ⟨v, b⟩ := v_var (Γ := Γ) (p := p) h c1 c2 c3 c4
      exact ⟨v, b, fun z => nomatch z⟩
    | _ => simp [chE] at c
  | .con d, X, S, e, h, c => by
    cases e with
    | Constant k j p =>
      have c : conB d k = true := by simpa only [chE] using c
      exact .of (v_con c) rfl rfl
    | _ => simp [chE] at c
  | .op o es, X, S, e, h, c => by
    unfold chE at c
    split at c
    · simp only [Bool.and_eq_true, decide_eq_true_eq] at c
      exact .of (v_bin c.1 (sEs es X S _ h c.2).1) rfl (binO_f c.1)
    · simp only [Bool.and_eq_true] at c
      obtain ⟨rfl, rfl⟩ := unB_of c.1
      exact .of (v_neg (sEs es X S _ h c.2).1) rfl rfl
    · split at c
      · simp only [Bool.and_eq_true] at c
        rcases nonB_of c.1 with ⟨rfl, rfl⟩ | ⟨rfl, rfl⟩
        · exact .of (v_isNon (sEs es X S _ h c.2).1) rfl rfl
        · exact .of (v_notNon (sEs es X S _ h c.2).1) rfl rfl
      · simp only [Bool.and_eq_true, Bool.or_eq_true, decide_eq_true_eq] at c
        rcases c.1 with z | z
        · exact .of (v_isBl h z rfl (sEs es X S _ h c.2).1).1 rfl (isCO_f z)
        · exact .of (v_cmp h z rfl (sEs es X S _ h c.2).1).1 rfl (cmpO_f z)
      · simp only [Bool.and_eq_true, decide_eq_true_eq] at c
        exact .of (v_cmp h c.1.1 c.1.2 (sEs es X S _ h c.2).1).1 rfl (cmpO_f c.1.1)
    · simp only [Bool.and_eq_true, decide_eq_true_eq] at c
      cases c.1
      exact .of (v_sl00 (sEs es X S _ h c.2).1) rfl rfl
    · simp only [Bool.and_eq_true, decide_eq_true_eq] at c
      cases c.1
      exact .of (v_sl10 (sEs es X S _ h c.2).1) rfl rfl
    · simp only [Bool.and_eq_true, decide_eq_true_eq] at c
      cases c.1
      exact .of (v_sl01 (sEs es X S _ h c.2).1) rfl rfl
    · simp only [Bool.and_eq_true, decide_eq_true_eq] at c
      cases c.1
      exact .of (v_sl11 (sEs es X S _ h c.2).1) rfl rfl
    · simp only [Bool.and_eq_true, decide_eq_true_eq] at c
      cases c.1.1
      exact .of (v_idx c.1.2 (sEs es X S _ h c.2).1) rfl rfl
    · simp only [Bool.and_eq_true, decide_eq_true_eq] at c
      cases c.1.1
      exact .of (v_tup (sEs es X S _ h c.2).2 c.1.2) rfl rfl
    · simp only [Bool.and_eq_true, decide_eq_true_eq] at c
      cases c.1.1
      exact .ofF (v_lst (sEs es X S _ h c.2).2 c.1.2) rfl
    · split at c
      · rename_i q
        subst q
        split at c
        · simp only [Bool.and_eq_true, decide_eq_true_eq] at c
          obtain ⟨⟨⟨⟨⟨c1, c2⟩, c3⟩, c4⟩, c5⟩, c6⟩ := c
          subst c1
          subst c2
          exact .ofF (v_lrev h c3 c4 c5 (sEs es X S _ h c6).1) rfl
        · cases c
      · simp only [Bool.and_eq_true, decide_eq_true_eq] at c
        obtain ⟨v, f⟩ := v_call1 h c.1.1.1 c.1.1.2 c.1.2 (sEs es X S _ h c.2).1
        exact ⟨v, v.b rfl, f⟩
    · simp only [Bool.and_eq_true, decide_eq_true_eq] at c
      obtain ⟨⟨⟨⟨c1, c2⟩, c3⟩, c4⟩, c5⟩ := c
      subst c1
      subst c2
      exact .of (v_index h c3 c4 (sEs es X S _ h c5).1) rfl rfl
    · split at c
      · split at c
        · simp only [Bool.and_eq_true, decide_eq_true_eq] at c
          rename_i q
          subst q
          exact .of (v_isi h c.1.1.1.1 c.1.1.1.2 c.1.1.2 c.1.2 (sEs es X S _ h c.2).1) rfl (isiO_f c.1.1.1.1)
        · simp only [Bool.and_eq_true, decide_eq_true_eq] at c
          exact .of (v_call2 h c.1.1.1.1 c.1.1.1.2 c.1.1.2 c.1.2 (sEs es X S _ h c.2).1) rfl (call2O_f c.1.1.1.1)
      · simp only [Bool.and_eq_true, decide_eq_true_eq] at c
        exact .of (v_call2 h c.1.1.1.1 c.1.1.1.2 c.1.1.2 c.1.2 (sEs es X S _ h c.2).1) rfl (call2O_f c.1.1.1.1)
    · cases c
  | .andE a b, X, S, e, h, c => by
    unfold chE at c
    split at c
    · simp only [Bool.and_eq_true] at c
      exact .of (v_andE (sE a X S _ h c.1).1 (v_one (sE b X S _ h c.2).1)) rfl rfl
    · simp only [Bool.and_eq_true] at c
      exact .of (v_andE (sE a X S _ h c.1).1 (sE b X S _ h c.2).1) rfl rfl
    · cases c
  | .orE a b, X, S, e, h, c => by
    unfold chE at c
    split at c
    · simp only [Bool.and_eq_true] at c
      exact .of (v_orE (sE a X S _ h c.1).1 (v_one (sE b X S _ h c.2).1)) rfl rfl
    · simp only [Bool.and_eq_true] at c
      exact .of (v_orE (sE a X S _ h c.1).1 (sE b X S _ h c.2).1) rfl rfl
    · cases c
  | .notE a, X, S, e, h, c => by
    unfold chE at c
    split at c
    · exact .of (v_notE (sE a X S _ h c).1) rfl rfl
    · cases c
  | .ite k a b, X, S, e, h, c => by
    unfold chE at c
    split at c
    · simp only [Bool.and_eq_true] at c
      exact .of (v_ite (sC k X S _ h c.1.1).1 (sE a X S _ h c.1.2).1 (sE b X S _ h c.2).1) rfl rfl
    · cases c
  | .chain o1 o2 a b k, X, S, e, h, c => by
    unfold chE at c
    split at c
    · simp only [Bool.and_eq_true, decide_eq_true_eq] at c
      exact .of (v_chain h c.1.1.1.1.1 c.1.1.1.1.2 c.1.1.1.2 (sE a X S _ h c.1.1.2).1 (sE b X S _ h c.1.2).1 (sE k X S _ h c.2).1).1 rfl rfl
    · cases c
  | .call f es, X, S, e, h, c => by
    unfold chE at c
    split at c
    · simp only [Bool.and_eq_true, decide_eq_true_eq, Bool.not_eq_true'] at c
      exact .of (v_call h c.1.1.1.1 c.1.1.1.2 c.1.1.2 (sEs es X S _ h c.2).2 c.1.2) rfl rfl
    · cases c
  | .callB f es, X, S, e, h, c => by
    unfold chE at c
    split at c
    · simp only [Bool.and_eq_true, decide_eq_true_eq, Bool.not_eq_true'] at c
      exact .of (v_callB h c.1.1.1.1 c.1.1.1.2 c.1.1.2 (sEs es X S _ h c.2).1 c.1.2) rfl rfl
    · cases c
  | .lc own tg k src c' elt, X, S, e, h, c => by
    unfold chE at c
    split at c
    · rename_i e' t' i' ifs scope pos
      simp only [Bool.and_eq_true] at c
      obtain ⟨⟨⟨⟨⟨⟨c1, c2⟩, c3⟩, c4⟩, c5⟩, c6⟩, c7⟩ := c
      have F := v_lc (own := ownP S own) (tg := tg) (k := k) (src := src) (c := c') (elt := elt) (e' := e') (ifs := ifs) (pos := pos) h (sI k src X S t' i' h c1 true) c2 (by rw [own_of]; exact c3) (fold_of c4)
        (fun Y hY => pg_ok hY tg t' c5) (fun Y hY => by
          split at c6
          · split at c6
            · exact pts_tt
            · cases c6
          · exact (sC c' Y _ _ hY c6).1.pts
          · cases c6) (fun Y hY => (sE elt Y _ _ hY c7).1)
      rw [own_of] at F
      exact .ofF F rfl
    · cases c
  | .dcT own tg k src key val, X, S, e, h, c => by
    unfold chE at c
    split at c
    · rename_i kx vx t' i' scope pos
      simp only [Bool.and_eq_true] at c
      obtain ⟨⟨⟨⟨⟨⟨c1, c2⟩, c3⟩, c4⟩, c5⟩, c6⟩, c7⟩ := c
      obtain ⟨t, ⟨p, _⟩, q⟩ := v_dicT (own := ownP S own) (tg := tg) (k := k) (src := src) (key := key) (val := val) (kx := kx) (vx := vx) (pos := pos) h (sI k src X S t' i' h c1 true) c2 (by rw [own_of]; exact c3) (fold_of c4)
        (fun Y hY => pg_ok hY tg t' c5) (fun Y hY => (sE key Y _ _ hY c6).1) (fun Y hY => (sE val Y _ _ hY c7).1)
      rw [own_of] at q
      exact .ofF ⟨t, p, q⟩ rfl
    · cases c
theorem sEs : ∀ (es : Es) (X : Cx) (S : Sco) (xs : List Expr), XH CX X S fns Γ → chEs fns es S xs = true → VL X Γ true es xs ∧ VL X Γ false es xs
  | .nil, X, S, xs, h, c => by
    unfold chEs at c
    cases xs with
    | nil => exact ⟨.nil, .nil⟩
    | cons x r => cases c
  | .cons a as, X, S, xs, h, c => by
    unfold chEs at c
    split at c
    · cases c
    · simp only [Bool.and_eq_true] at c
      obtain ⟨v, b, _⟩ := sE a X S _ h c.1
      obtain ⟨l1, l2⟩ := sEs as X S _ h c.2
      exact ⟨.consB b l1, .consV v l2⟩
theorem sC : ∀ (k : C) (X : Cx) (S : Sco) (e : Expr), XH CX X S fns Γ → chC fns k S e = true → VC X Γ k e ∧ (isBO e = true → VW X Γ k e)
  | .tt, X, S, e, h, c => by
    unfold chC at c
    cases c
  | .tr (.op o es), X, S, e, h, c => by
    unfold chC at c
    split at c
    · simp only [Bool.and_eq_true] at c
      refine ⟨?_, fun z => nomatch z⟩
      obtain ⟨c, _⟩ := c
      unfold chE at c
      split at c
      all_goals (try (rename_i z; cases z; done))
      · rename_i hh
        cases hh
        split at c
        · simp only [Bool.and_eq_true] at c
          rcases nonB_of c.1 with ⟨rfl, rfl⟩ | ⟨rfl, rfl⟩
          · exact t_isNon (sEs es X S _ h c.2).1
          · exact t_notNon (sEs es X S _ h c.2).1
        · simp only [Bool.and_eq_true, Bool.or_eq_true, decide_eq_true_eq] at c
          rcases c.1 with z | z
          · exact (v_isBl h z rfl (sEs es X S _ h c.2).1).2
          · exact (v_cmp h z rfl (sEs es X S _ h c.2).1).2
        · simp only [Bool.and_eq_true, decide_eq_true_eq] at c
          exact (v_cmp h c.1.1 c.1.2 (sEs es X S _ h c.2).1).2
      · cases c
    · simp only [Bool.and_eq_true] at c
      exact ⟨t_tr (sE _ X S _ h c.2).1 c.1, fun z => truB_no c.1 z⟩
  | .tr (.chain o1 o2 a b k), X, S, e, h, c => by
    unfold chC at c
    split at c
    · simp only [Bool.and_eq_true] at c
      refine ⟨?_, fun z => nomatch z⟩
      obtain ⟨c, _⟩ := c
      unfold chE at c
      split at c
      · rename_i hh
        cases hh
        simp only [Bool.and_eq_true, decide_eq_true_eq] at c
        exact (v_chain h c.1.1.1.1.1 c.1.1.1.1.2 c.1.1.1.2 (sE a X S _ h c.1.1.2).1 (sE b X S _ h c.1.2).1 (sE k X S _ h c.2).1).2
      · cases c
    · simp only [Bool.and_eq_true] at c
      exact ⟨t_tr (sE _ X S _ h c.2).1 c.1, fun z => truB_no c.1 z⟩
  | .tr (.var i), X, S, e, h, c => by
    unfold chC at c
    split at c
    · simp only [Bool.and_eq_true] at c
      exact nomatch c.2
    · simp only [Bool.and_eq_true] at c
      exact ⟨t_tr (sE _ X S _ h c.2).1 c.1, fun z => truB_no c.1 z⟩
  | .tr (.con d), X, S, e, h, c => by
    unfold chC at c
    split at c
    · simp only [Bool.and_eq_true] at c
      exact nomatch c.2
    · simp only [Bool.and_eq_true] at c
      exact ⟨t_tr (sE _ X S _ h c.2).1 c.1, fun z => truB_no c.1 z⟩
  | .tr (.andE a b), X, S, e, h, c => by
    unfold chC at c
    split at c
    · simp only [Bool.and_eq_true] at c
      exact nomatch c.2
    · simp only [Bool.and_eq_true] at c
      exact ⟨t_tr (sE _ X S _ h c.2).1 c.1, fun z => truB_no c.1 z⟩
  | .tr (.orE a b), X, S, e, h, c => by
    unfold chC at c
    split at c
    · simp only [Bool.and_eq_true] at c
      exact nomatch c.2
    · simp only [Bool.and_eq_true] at c
      exact ⟨t_tr (sE _ X S _ h c.2).1 c.1, fun z => truB_no c.1 z⟩
  | .tr (.notE a), X, S, e, h, c => by
    unfold chC at c
    split at c
    · simp only [Bool.and_eq_true] at c
      exact nomatch c.2
    · simp only [Bool.and_eq_true] at c
      exact ⟨t_tr (sE _ X S _ h c.2).1 c.1, fun z => truB_no c.1 z⟩
  | .tr (.ite k a b), X, S, e, h, c => by
    unfold chC at c
    split at c
    · simp only [Bool.and_eq_true] at c
      exact nomatch c.2
    · simp only [Bool.and_eq_true] at c
      exact ⟨t_tr (sE _ X S _ h c.2).1 c.1, fun z => truB_no c.1 z⟩
  | .tr (.call f es), X, S, e, h, c => by
    unfold chC at c
    split at c
    · simp only [Bool.and_eq_true] at c
      exact nomatch c.2
    · simp only [Bool.and_eq_true] at c
      exact ⟨t_tr (sE _ X S _ h c.2).1 c.1, fun z => truB_no c.1 z⟩
  | .tr (.callB f es), X, S, e, h, c => by
    unfold chC at c
    split at c
    · simp only [Bool.and_eq_true] at c
      exact nomatch c.2
    · simp only [Bool.and_eq_true] at c
      exact ⟨t_tr (sE _ X S _ h c.2).1 c.1, fun z => truB_no c.1 z⟩
  | .tr (.lc o t k s k' a), X, S, e, h, c => by
    unfold chC at c
    split at c
    · simp only [Bool.and_eq_true] at c
      exact nomatch c.2
    · simp only [Bool.and_eq_true] at c
      exact ⟨t_tr (sE _ X S _ h c.2).1 c.1, fun z => truB_no c.1 z⟩
  | .tr (.dcT o t k s a b), X, S, e, h, c => by
    unfold chC at c
    split at c
    · simp only [Bool.and_eq_true] at c
      exact nomatch c.2
    · simp only [Bool.and_eq_true] at c
      exact ⟨t_tr (sE _ X S _ h c.2).1 c.1, fun z => truB_no c.1 z⟩
  | .bv i, X, S, e, h, c => by
    cases e with
    | Name x p =>
      have c : varB S i x = true := by simpa only [chC] using c
      obtain ⟨c1, c2, c3, c4⟩ := varB_of c
      exact ⟨t_bv (v_var (Γ := Γ) (p := p) h c1 c2 c3 c4).2 rfl, fun z => nomatch z⟩
    | _ => simp [chC] at c
  | .and a b, X, S, e, h, c => by
    unfold chC at c
    split at c
    · simp only [Bool.and_eq_true] at c
      have W := w_and (sC a X S _ h c.1).1 (w_and1 (pos := by assumption) (sC b X S _ h c.2).1)
      exact ⟨W.c, fun _ => W⟩
    · simp only [Bool.and_eq_true] at c
      have W := w_and (sC a X S _ h c.1).1 ((sC b X S _ h c.2).2 rfl)
      exact ⟨W.c, fun _ => W⟩
    · cases c
  | .or a b, X, S, e, h, c => by
    unfold chC at c
    split at c
    · simp only [Bool.and_eq_true] at c
      have W := w_or (sC a X S _ h c.1).1 (w_or1 (pos := by assumption) (sC b X S _ h c.2).1)
      exact ⟨W.c, fun _ => W⟩
    · simp only [Bool.and_eq_true] at c
      have W := w_or (sC a X S _ h c.1).1 ((sC b X S _ h c.2).2 rfl)
      exact ⟨W.c, fun _ => W⟩
    · cases c
  | .not a, X, S, e, h, c => by
    unfold chC at c
    split at c
    · exact ⟨t_not (sC a X S _ h c).1, fun z => nomatch z⟩
    · cases c
theorem sI : ∀ (k : IK) (src : Es) (X : Cx) (S : Sco) (t i : Expr), XH CX X S fns Γ → chI fns k src S t i = true → ∀ b, VI X Γ b k src t i
  | k, .nil, X, S, t, i, h, c, b => by
    unfold chI at c
    cases c
  | k, .cons a as, X, S, t, i, h, c, b => by
    have one : ∀ e : Expr, nilE as = true → chE fns a S e = true → VL X Γ b (.cons a as) [e] := fun e z0 z => by
      cases as with
      | nil =>
        obtain ⟨v, w, _⟩ := sE a X S e h z
        cases b with
        | true => exact .consB w .nil
        | false => exact .consV v .nil
      | cons _ _ => cases z0
    have two : ∀ e e2 : Expr, chE fns a S e = true → chEs fns as S [e2] = true → VL X Γ b (.cons a as) [e, e2] := fun e e2 z1 z2 => by
      obtain ⟨v, w, _⟩ := sE a X S e h z1
      obtain ⟨l1, l2⟩ := sEs as X S [e2] h z2
      cases b with
      | true => exact .consB w l1
      | false => exact .consV v l2
    cases k with
    | plain =>
      simp only [chI, Bool.and_eq_true] at c
      exact i_plain (one _ c.1.2 c.2)
    | range1 =>
      simp only [chI] at c
      split at c
      · simp only [Bool.and_eq_true, decide_eq_true_eq] at c
        cases c.1.1.1.1
        exact i_range1 h c.1.1.1.2 c.1.1.2 (one _ c.1.2 c.2)
      · cases c
    | range2 =>
      simp only [chI] at c
      split at c
      · simp only [Bool.and_eq_true, decide_eq_true_eq] at c
        cases c.1.1.1.1.1
        exact i_range2 h c.1.1.1.1.2 c.1.1.1.2 c.1.1.2 (two _ _ c.1.2 c.2)
      · cases c
    | rev =>
      simp only [chI] at c
      split at c
      · simp only [Bool.and_eq_true, decide_eq_true_eq] at c
        cases c.1.1.1.1
        exact i_rev h c.1.1.1.2 c.1.1.2 (one _ c.1.2 c.2)
      · cases c
    | enum =>
      simp only [chI] at c
      split at c
      · simp only [Bool.and_eq_true, decide_eq_true_eq] at c
        cases c.1.1.1.1
        exact i_enum h c.1.1.1.2 c.1.1.2 (one _ c.1.2 c.2)
      · cases c
    | zip2 =>
      simp only [chI] at c
      split at c
      · simp only [Bool.and_eq_true, decide_eq_true_eq] at c
        cases c.1.1.1.1.1
        exact i_zip h c.1.1.1.1.2 c.1.1.1.2 c.1.1.2 (two _ _ c.1.2 c.2)
      · cases c
end
end
end Den

/-! DenM: statements. -/
namespace Den
open PySem PySem.Spec PyProof.Rows L2

structure SI (K : PySem.W.Frag) (G0 H0 G H : Hp) (σ : L2.St) (ρ : En) : Prop where
  er : ER K G H σ ρ
  ext : Ext G0 H0 G H
  own : ∀ (i : Nat) (d : D) (a : Addr), ρ[i]? = some (.own d) → σ[i]? = some (some (.ref a)) → H0 a = none
section
variable {K : PySem.W.Frag} {G0 H0 G H : Hp} {σ : L2.St} {ρ : En}
theorem SI.more {G1 H1 : Hp} (s : SI K G0 H0 G H σ ρ) (e : Ext G H G1 H1) : SI K G0 H0 G1 H1 σ ρ := ⟨s.er.ext e, s.ext.trans e, s.own⟩
theorem SI.setVal {i : Nat} {v : V} {d : D} (s : SI K G0 H0 G H σ ρ) (r : Rep K G v d) : SI K G0 H0 G H (σ.set i (some v)) (ρ.set i (.val d)) :=
  ⟨s.er.setVal r, s.ext, fun j dj a e1 e2 => by
    obtain ⟨n, e1⟩ := set_own (s := .val _) (fun _ z => by cases z) e1
    rw [List.getElem?_set_ne n] at e2
    exact s.own j dj a e1 e2⟩
theorem SI.bound {σ' : L2.St} {ρ' : En} (s : SI K G0 H0 G H σ ρ) (e : ER K G H σ' ρ') (o : OwnSub σ ρ σ' ρ') : SI K G0 H0 G H σ' ρ' :=
  ⟨e, s.ext, fun j dj a e1 e2 => let ⟨z1, z2⟩ := o j dj a e1 e2; s.own j dj a z1 z2⟩
theorem SI.newOwn {i : Nat} {a : Addr} {d : D} (s : SI K G0 H0 G H σ ρ) (n : G a = none) (o : Owned K G H a d) (n0 : H0 a = none) (h : ∀ j dj, j ≠ i → ρ[j]? = some (.own dj) → σ[j]? ≠ some (some (.ref a))) :
    SI K G0 H0 G H (σ.set i (some (.ref a))) (ρ.set i (.own d)) := by
  refine ⟨s.er.setOwn n o h, s.ext, fun j dj b e1 e2 => ?_⟩
  by_cases q : i = j
  · subst q
    have hl : i < σ.length := by
      have := (List.getElem?_eq_some_iff.mp e2).1
      rwa [List.length_set] at this
    rw [List.getElem?_set_self hl] at e2
    cases e2
    exact n0
  · rw [List.getElem?_set_ne q] at e1 e2
    exact s.own j dj b e1 e2
/-- the i-th slot's own thing has become d', in place -/
theorem SI.mut {i : Nat} {a : Addr} {d d' : D} {u : HO} (s : SI K G0 H0 G H σ ρ) (e : ρ[i]? = some (.own d)) (ea : σ[i]? = some (some (.ref a))) (nG : G a = none) (o : Owned K G (upd H a u) a d') : SI K G0 H0 G (upd H a u) σ (ρ.set i (.own d')) := by
  have n0 := s.own i d a e ea
  have hlρ : i < ρ.length := (List.getElem?_eq_some_iff.mp e).1
  have gh : Same G (upd H a u) := fun b w z => by rw [upd_ne (ne_of_none z nG)]; exact s.er.sub b w z
  have nx : ∀ j dj b, j ≠ i → ρ[j]? = some (.own dj) → σ[j]? = some (some (.ref b)) → b ≠ a := fun j dj b n z1 z2 z => by
    subst z
    exact n (s.er.inj j i dj d b z1 e z2 ea)
  have at_ : ∀ j t, (ρ.set i (.own d'))[j]? = some t → (j = i ∧ t = .own d') ∨ (j ≠ i ∧ ρ[j]? = some t) := fun j t z => by
    by_cases q : i = j
    · subst q
      rw [List.getElem?_set_self hlρ] at z
      cases z
      exact .inl ⟨rfl, rfl⟩
    · rw [List.getElem?_set_ne q] at z
      exact .inr ⟨Ne.symm q, z⟩
  refine ⟨⟨by rw [List.length_set]; exact s.er.len, gh, fun j t z => ?_, fun j k dj dk b z1 z2 z3 z4 => ?_⟩, ⟨s.ext.gg, fun b w z => ?_, gh, s.ext.nw⟩, fun j dj b z1 z2 => ?_⟩
  · rcases at_ j t z with ⟨rfl, rfl⟩ | ⟨n, z⟩
    · exact ⟨a, ea, nG, o⟩
    · have q := s.er.slot j t z
      cases t with
      | un => trivial
      | val d => exact q
      | own dj =>
        obtain ⟨b, h1, h2, h3⟩ := q
        refine ⟨b, h1, h2, ?_⟩
        have nb := nx j dj b n z h1
        rcases h3 with ⟨vs, ds, e1, e2, r⟩ | ⟨kvs, ks, e1, e2, r⟩
        · exact .inl ⟨vs, ds, e1, by rw [upd_ne nb]; exact e2, r⟩
        · exact .inr ⟨kvs, ks, e1, by rw [upd_ne nb]; exact e2, r⟩
  · have h1 : ∃ dj', ρ[j]? = some (.own dj') := by
      rcases at_ j _ z1 with ⟨rfl, _⟩ | ⟨_, z⟩
      · exact ⟨_, e⟩
      · exact ⟨_, z⟩
    have h2 : ∃ dk', ρ[k]? = some (.own dk') := by
      rcases at_ k _ z2 with ⟨rfl, _⟩ | ⟨_, z⟩
      · exact ⟨_, e⟩
      · exact ⟨_, z⟩
    obtain ⟨dj', h1⟩ := h1
    obtain ⟨dk', h2⟩ := h2
    exact s.er.inj j k dj' dk' b h1 h2 z3 z4
  · have nb : b ≠ a := fun q => by rw [q, n0] at z; cases z
    rw [upd_ne nb]
    exact s.ext.hh b w z
  · rcases at_ j _ z1 with ⟨rfl, _⟩ | ⟨_, z⟩
    · rw [ea] at z2; cases z2; exact n0
    · exact s.own j dj b z z2
/-- a slot's own thing is let stand still -/
theorem SI.fzOne {i : Nat} (s : SI K G0 H0 G H σ ρ) : ∃ G', Same G G' ∧ SI K G0 H0 G' H σ (fzOne ρ i) := by
  unfold Den.fzOne
  split
  · rename_i d e
    obtain ⟨a, ea, nG, o⟩ := s.er.slot i _ e
    have n0 := s.own i d a e ea
    have hlρ : i < ρ.length := (List.getElem?_eq_some_iff.mp e).1
    obtain ⟨u, hu, s1, r⟩ := o.still nG
    have gh : Same (upd G a u) H := same_updG s.er.sub hu
    have nx : ∀ j dj b, j ≠ i → ρ[j]? = some (.own dj) → σ[j]? = some (some (.ref b)) → b ≠ a := fun j dj b n z1 z2 z => by
      subst z
      exact n (s.er.inj j i dj d b z1 e z2 ea)
    refine ⟨upd G a u, s1, ⟨by rw [List.length_set]; exact s.er.len, gh, fun j t z => ?_, fun j k dj dk b z1 z2 z3 z4 => ?_⟩, ⟨s.ext.gg.trans s1, s.ext.hh, gh, fun b w z n => ?_⟩, fun j dj b z1 z2 => ?_⟩
    · by_cases q : i = j
      · subst q
        rw [List.getElem?_set_self hlρ] at z
        cases z
        exact ⟨_, ea, r⟩
      · rw [List.getElem?_set_ne q] at z
        have w := s.er.slot j t z
        cases t with
        | un => trivial
        | val d => obtain ⟨v, h1, h2⟩ := w; exact ⟨v, h1, h2.mono s1⟩
        | own dj =>
          obtain ⟨b, h1, h2, h3⟩ := w
          exact ⟨b, h1, by rw [upd_ne (nx j dj b (Ne.symm q) z h1)]; exact h2, h3.ext s1 (.refl _)⟩
    · obtain ⟨_, y1⟩ := set_own (s := .val _) (fun _ z => by cases z) z1
      obtain ⟨_, y2⟩ := set_own (s := .val _) (fun _ z => by cases z) z2
      exact s.er.inj j k dj dk b y1 y2 z3 z4
    · by_cases q : b = a
      · subst q; exact .inl n0
      · rw [upd_ne q] at z; exact s.ext.nw b w z n
    · obtain ⟨_, y1⟩ := set_own (s := .val _) (fun _ z => by cases z) z1
      exact s.own j dj b y1 z2
  · exact ⟨G, .refl _, s⟩
theorem SI.fz : ∀ (is : List Nat) {G : Hp} {ρ : En}, SI K G0 H0 G H σ ρ → ∃ G', Same G G' ∧ SI K G0 H0 G' H σ (fz ρ is)
  | [], G, ρ, s => ⟨G, .refl _, s⟩
  | i :: is, G, ρ, s => by
    obtain ⟨G1, s1, x1⟩ := s.fzOne (i := i)
    obtain ⟨G2, s2, x2⟩ := SI.fz is x1
    exact ⟨G2, s1.trans s2, x2⟩
end

/-! ### what a statement's end asks -/
def SOut (K : PySem.W.Frag) (G0 H0 Gp : Hp) (E' : Ends) : Out → Prop
  | .nx ρ' => ∀ σ' G' H', Same Gp G' → SI K G0 H0 G' H' σ' ρ' → E'.nx σ' H'
  | .ct ρ' => ∀ σ' G' H', Same Gp G' → SI K G0 H0 G' H' σ' ρ' → E'.ct σ' H'
  | .bk ρ' => ∀ σ' G' H', Same Gp G' → SI K G0 H0 G' H' σ' ρ' → E'.bk σ' H'
  | .rt d ρ' => ∀ v G' H', Ext G0 H0 G' H' → Rep K G' v d → E'.rt v H'
theorem SOut.later {K : PySem.W.Frag} {G0 H0 Gp G1 : Hp} {E' : Ends} {o : Out} (h : SOut K G0 H0 Gp E' o) (s : Same Gp G1) : SOut K G0 H0 G1 E' o := by
  cases o with
  | nx ρ => exact fun σ' G' H' q i => h σ' G' H' (s.trans q) i
  | ct ρ => exact fun σ' G' H' q i => h σ' G' H' (s.trans q) i
  | bk ρ => exact fun σ' G' H' q i => h σ' G' H' (s.trans q) i
  | rt d ρ => exact h
def SD (X : Cx) (Γ : Cn) (s : S) (st : Stmt) : Prop := ∃ t, PS X st t ∧ ∀ E' σ ρ G0 H0 G H, SI X.K G0 H0 G H σ ρ → Good (evS Γ s ρ) (SOut X.K G0 H0 G E') → t E' σ H
def SDs (X : Cx) (Γ : Cn) (ss : Ss) (sts : List Stmt) : Prop := ∃ t, PSs X sts t ∧ ∀ E' σ ρ G0 H0 G H, SI X.K G0 H0 G H σ ρ → Good (evSs Γ ss ρ) (SOut X.K G0 H0 G E') → t E' σ H

section
variable {CX : CXT} {X : Cx} {S : Sco} {fns : List Str} {Γ : Cn}
theorem ss_nil : SDs X Γ .nil [] := ⟨_, pss_nil, fun E' σ ρ G0 H0 G H s g => by
  simp only [evSs] at g
  exact g σ G H (.refl _) s⟩
theorem ss_cons {s : Den.S} {ss : Ss} {st : Stmt} {sts : List Stmt} (A : SD X Γ s st) (B : SDs X Γ ss sts) : SDs X Γ (.cons s ss) (st :: sts) := by
  obtain ⟨t1, p1, q1⟩ := A
  obtain ⟨t2, p2, q2⟩ := B
  refine ⟨_, pss_cons p1 p2, fun E' σ ρ G0 H0 G H i g => q1 _ σ ρ G0 H0 G H i ?_⟩
  simp only [evSs] at g
  refine g.bind.mono fun o g1 => ?_
  cases o with
  | nx ρ1 => exact fun σ' G' H' s' i' => q2 E' σ' ρ1 G0 H0 G' H' i' (Good.mono g1 fun o k => SOut.later k s')
  | ct ρ1 => exact g1
  | bk ρ1 => exact g1
  | rt d ρ1 => exact g1
theorem ss_fz {is : List Nat} {ss : Ss} {sts : List Stmt} (B : SDs X Γ ss sts) : SDs X Γ (.fz is ss) sts := by
  obtain ⟨t2, p2, q2⟩ := B
  refine ⟨_, p2, fun E' σ ρ G0 H0 G H i g => ?_⟩
  simp only [evSs] at g
  obtain ⟨G', s', i'⟩ := SI.fz is i
  exact q2 E' σ _ G0 H0 G' H i' (g.mono fun o k => SOut.later k s')
theorem s_ret {e : E} {e' : Expr} {pos : Pos} (A : VE X Γ e e') : SD X Γ (.ret e) (.Return (some e') pos) := by
  obtain ⟨t, p, q⟩ := A
  refine ⟨_, ps_ret p, fun E' σ ρ G0 H0 G H i g => q σ ρ G H _ i.er ?_⟩
  simp only [evS] at g
  exact g.bind.mono fun d g1 v G' H' x r => (show ∀ v G' H', Ext G0 H0 G' H' → Rep X.K G' v d → E'.rt v H' from g1) v G' H' (i.ext.trans x) r
theorem s_retN {pos : Pos} : SD X Γ .retN (.Return none pos) := ⟨_, ps_retN, fun E' σ ρ G0 H0 G H i g => by
  simp only [evS] at g
  exact (show ∀ v G' H', Ext G0 H0 G' H' → Rep X.K G' v .non → E'.rt v H' from g) _ G H i.ext .non⟩
theorem s_brk {pos : Pos} : SD X Γ .brk (.Break pos) := ⟨_, ps_break, fun E' σ ρ G0 H0 G H i g => by
  simp only [evS] at g
  exact g σ G H (.refl _) i⟩
theorem s_cnt {pos : Pos} : SD X Γ .cnt (.Continue pos) := ⟨_, ps_continue, fun E' σ ρ G0 H0 G H i g => by
  simp only [evS] at g
  exact g σ G H (.refl _) i⟩
theorem s_ex {e : E} {e' : Expr} {pos : Pos} (A : VE X Γ e e') (hs : swapsWith e' none pos.line X.env = pure false) : SD X Γ (.ex e) (.Expr e' pos) := by
  obtain ⟨t, p, q⟩ := A
  refine ⟨_, ps_expr p hs, fun E' σ ρ G0 H0 G H i g => q σ ρ G H _ i.er ?_⟩
  simp only [evS] at g
  exact g.bind.mono fun d g1 v G' H' x r => (show ∀ σ' G' H', Same G G' → SI X.K G0 H0 G' H' σ' ρ → E'.nx σ' H' from g1) σ G' H' x.gg (i.more x)
theorem s_ite {c : C} {a b : Ss} {e : Expr} {xs ys : List Stmt} {pos : Pos} (A : VC X Γ c e) (B : SDs X Γ a xs) (B2 : SDs X Γ b ys) : SD X Γ (.ite c a b) (.If e xs ys pos) := by
  obtain ⟨t, p, q⟩ := A
  obtain ⟨t1, p1, q1⟩ := B
  obtain ⟨t2, p2, q2⟩ := B2
  refine ⟨_, ps_if p p1 p2, fun E' σ ρ G0 H0 G H i g => q σ ρ G H _ i.er ?_⟩
  simp only [evS] at g
  refine g.bind.mono fun k g1 G' H' x => ?_
  cases k with
  | true => exact q1 E' σ ρ G0 H0 G' H' (i.more x) (Good.mono g1 fun o k => SOut.later k x.gg)
  | false => exact q2 E' σ ρ G0 H0 G' H' (i.more x) (Good.mono g1 fun o k => SOut.later k x.gg)
theorem s_asg {tg : Tg} {e : E} {t' e' : Expr} {pos : Pos} (A : VE X Γ e e') (T : PGok X tg t') (hs : swapsWithSole [t'] e' pos.line X.env = pure false) (hw : swappedStores [t'] e' X.env = pure none) (h1 : (assignEach [t'] X.env).map (·.2) = [assign t' X.env]) : SD X Γ (.asg tg e) (.Assign [t'] e' pos) := by
  obtain ⟨t, p, q⟩ := A
  obtain ⟨gg, pg, qg⟩ := T
  refine ⟨_, ps_asg p pg hs hw h1, fun E' σ ρ G0 H0 G H i g => q σ ρ G H _ i.er ?_⟩
  simp only [evS] at g
  refine g.bind.mono fun d g1 v G' H' x r => qg σ ρ G' H' v d _ (i.er.ext x) r ((Good.bind g1).mono fun ρ' g2 σ' er os _ => ?_)
  exact (show ∀ σ' G' H', Same G G' → SI X.K G0 H0 G' H' σ' ρ' → E'.nx σ' H' from g2) σ' G' H' x.gg ((i.more x).bound er os)
/-- a new list in a slot -/
theorem s_own0 {i : Nat} {e : E} {st : Stmt} {t : TE} (p : PS X st (tAsg t (gName i))) (q : ∀ σ ρ G H Q, ER X.K G H σ ρ → Good (evE Γ e ρ) (fun d => KF X.K G H d Q) → t σ H Q) : SD X Γ (.own i e) st := by
  refine ⟨_, p, fun E' σ ρ G0 H0 G H s g => q σ ρ G H _ s.er ?_⟩
  simp only [evS] at g
  refine g.bind.mono fun d g1 a G' H' x n n' o => ?_
  refine (show ∀ σ' G' H', Same G G' → SI X.K G0 H0 G' H' σ' (ρ.set i (.own d)) → E'.nx σ' H' from g1) _ G' H' x.gg ((s.more x).newOwn n' o (s.ext.hh.free n) fun j dj _ e1 e2 => ?_)
  obtain ⟨b, h1, h2, h3⟩ := s.er.slot j _ e1
  rw [e2] at h1
  cases h1
  obtain ⟨u, hu, _⟩ := h3.some
  rw [n] at hu
  cases hu
theorem s_aug {i : Nat} {o : O} {x : Str} {op : Operator} {e : E} {e' : Expr} {p' pos : Pos} (h : XH CX X S fns Γ) (hi : S.N[i]? = some x) (hx : S.sto x = true) (ho : (op = .Add ∧ o = .add) ∨ (op = .Sub ∧ o = .sub) ∨ (op = .Mult ∧ o = .mul)) (A : VE X Γ e e') : SD X Γ (.aug i o e) (.AugAssign (.Name x p') op e' pos) := by
  obtain ⟨t, p, q⟩ := A
  obtain ⟨l, f⟩ := h.st x hx
  have core : ∃ r : TIp, PIp X op r ∧ ∀ v w a b G H Q, Same G H → Rep X.K G v a → Rep X.K G w b → GV X.K G H Q (augD o a b) → r v w H Q := by
    rcases ho with ⟨rfl, rfl⟩ | ⟨rfl, rfl⟩ | ⟨rfl, rfl⟩
    · refine ⟨fun x y H Q => (rI0 fun i j => .int (i + j)) x y H Q ∨ (∃ i j, x = .str i ∧ y = .str j ∧ i.length + j.length ≤ sizeLine ∧ Q (.str (i ++ j)) H), OpR.or iop_add iop_add_str, fun v w a b G H Q s r1 r2 g => ?_⟩
      unfold augD at g
      split at g
      · cases r1; cases r2
        exact .inl ⟨_, _, rfl, rfl, KV.here g s (.int _)⟩
      · cases r1; cases r2
        obtain ⟨z, k⟩ := Good.ite (show Good (if _ then _ else _) _ from g)
        exact .inr ⟨_, _, rfl, rfl, z, KV.here k s (.str _)⟩
      · exact g.elim
    · refine ⟨_, iop_sub, fun v w a b G H Q s r1 r2 g => ?_⟩
      unfold augD at g
      split at g
      · cases r1; cases r2
        exact ⟨_, _, rfl, rfl, KV.here g s (.int _)⟩
      · exact (show False from g).elim
      · exact g.elim
    · refine ⟨_, iop_mul, fun v w a b G H Q s r1 r2 g => ?_⟩
      unfold augD at g
      split at g
      · cases r1; cases r2
        obtain ⟨z, k⟩ := Good.ite (show Good (fMul _ _) _ from g)
        exact ⟨_, _, rfl, rfl, cmul_of z, KV.here k s (.int _)⟩
      · exact (show False from g).elim
      · exact g.elim
  obtain ⟨r, pr, sm⟩ := core
  refine ⟨_, ps_aug (by rw [h.hN]; exact h.nd) (by rw [h.hN]; exact hi) l p pr f, fun E' σ ρ G0 H0 G H s g => ?_⟩
  simp only [evS] at g
  obtain ⟨d, ed, g⟩ := g.bind.eq
  unfold rd at ed
  split at ed
  · rename_i d' q'
    cases ed
    obtain ⟨v, ev, rv⟩ := s.er.slot i _ q'
    refine ⟨v, ev, q σ ρ G H _ s.er ((Good.bind g).mono fun d2 g1 w G' H' x rw' => sm v w _ _ G' H' _ x.gh (rv.mono x.gg) rw' ((Good.bind g1).mono fun z g2 u G2 H2 x2 ru => ?_))⟩
    exact (show ∀ σ' G' H', Same G G' → SI X.K G0 H0 G' H' σ' (ρ.set i (.val z)) → E'.nx σ' H' from g2) _ G2 H2 (x.gg.trans x2.gg) (((s.more x).more x2).setVal ru)
  · cases ed
  · cases ed

/-! ### loops -/
theorem s_for (h : XH CX X S fns Γ) {tg : Tg} {k : IK} {src : Es} {body : Ss} {t' i' : Expr} {xs : List Stmt} {pos : Pos} (I : VI X Γ false k src t' i') (T : PGok X tg t') (B : SDs X Γ body xs) (fo : ∀ x, foldedSetIterable i' X.env x = pure x) :
    SD X Γ (.for_ tg k src body) (.For t' i' xs [] pos) := by
  obtain ⟨wi, pi, qi⟩ := I
  obtain ⟨gt, pg, qg⟩ := T
  obtain ⟨tb, pb, qb⟩ := B
  refine ⟨_, ps_for h.po h.calm pi pg pb fo, fun E' σ ρ G0 H0 G H s g => ?_⟩
  simp only [evS] at g
  refine qi σ ρ G H _ s.er (g.bind.mono fun ds g1 => (Good.bind g1).mono fun ys g2 J G1 H1 x1 j => ?_)
  have j : JOk X.K J G1 G1 ys := j
  refine ⟨fun n m τ Hc => m = ys.length - n ∧ n ≤ ys.length ∧ ∃ ρ G2, Same G1 G2 ∧ SI X.K G0 H0 G2 Hc τ ρ ∧ Good (forD (bindT tg) (evSs Γ body) (ys.drop n) ρ) (SOut X.K G0 H0 G1 E'), ⟨_, rfl, Nat.zero_le _, ρ, G1, .refl _, s.more x1, ?_⟩, ?_⟩
  · rw [List.drop_zero]
    exact Good.mono g2 fun o k => SOut.later k x1.gg
  · rintro n m τ Hc ⟨rfl, hn, ρ, G2, s2, i2, gl⟩
    have jj := j n Hc (s2.trans i2.er.sub)
    by_cases hlt : n < ys.length
    · have ex : ys[n]? = some ys[n] := List.getElem?_eq_getElem hlt
      obtain ⟨go, yl⟩ := jj.1 _ ex
      refine .inr ⟨go, fun τ' H' => ∃ ρ G2, Same G1 G2 ∧ SI X.K G0 H0 G2 H' τ' ρ ∧ Good (forD (bindT tg) (evSs Γ body) (ys.drop (n + 1)) ρ) (SOut X.K G0 H0 G1 E'),
        fun τ' H' w => ⟨ys.length - (n + 1), by omega, rfl, hlt, w⟩, fun x H' y => ?_⟩
      obtain ⟨G3, x3, rx⟩ := yl x H' y G2 s2 i2.er.sub
      rw [List.drop_eq_getElem_cons hlt] at gl
      simp only [forD] at gl
      refine qg τ ρ G3 H' x _ _ (i2.er.ext x3) rx (gl.bind.mono fun ρ1 gb τ1 er os _ => qb _ τ1 ρ1 G0 H0 G3 H' ((i2.more x3).bound er os) ((Good.bind gb).mono fun o go => ?_))
      have s13 : Same G1 G3 := s2.trans x3.gg
      cases o with
      | nx ρ2 => exact fun τ' G' H'' q i' => ⟨ρ2, G', s13.trans q, i', go⟩
      | ct ρ2 => exact fun τ' G' H'' q i' => ⟨ρ2, G', s13.trans q, i', go⟩
      | bk ρ2 => exact fun τ' G' H'' q i' => (show ∀ σ' G' H', Same G1 G' → SI X.K G0 H0 G' H' σ' ρ2 → E'.nx σ' H' from go) τ' G' H'' (s13.trans q) i'
      | rt d ρ2 => exact go
    · have e : n = ys.length := by omega
      subst e
      refine .inl ⟨jj.2 (Nat.le_refl _), ?_⟩
      rw [List.drop_length] at gl
      simp only [forD] at gl
      exact (show ∀ σ' G' H', Same G1 G' → SI X.K G0 H0 G' H' σ' ρ → E'.nx σ' H' from gl) τ G2 Hc s2 i2
theorem s_while (h : XH CX X S fns Γ) {c : C} {body : Ss} {e : Expr} {xs : List Stmt} {pos : Pos} (A : VC X Γ c e) (B : SDs X Γ body xs) : SD X Γ (.while_ c body) (.While e xs [] pos) := by
  obtain ⟨t, p, q⟩ := A
  obtain ⟨tb, pb, qb⟩ := B
  refine ⟨_, ps_while h.po p pb, fun E' σ ρ G0 H0 G H s g => ?_⟩
  simp only [evS] at g
  refine ⟨fun m τ Hc => ∃ ρ G2, Same G G2 ∧ SI X.K G0 H0 G2 Hc τ ρ ∧ Good (whileD (evC Γ c) (evSs Γ body) m ρ) (SOut X.K G0 H0 G E'), ⟨Γ.fuel, ρ, G, .refl _, s, g⟩, ?_⟩
  rintro m τ Hc ⟨ρ, G2, s2, i2, gl⟩
  cases m with
  | zero => exact (show False from gl).elim
  | succ m =>
    simp only [whileD] at gl
    refine q τ ρ G2 Hc _ i2.er (gl.bind.mono fun k gk G3 H3 x3 => ?_)
    have s3 : Same G G3 := s2.trans x3.gg
    cases k with
    | true =>
      rw [if_pos rfl]
      refine ⟨fun τ' H' => ∃ ρ G2, Same G G2 ∧ SI X.K G0 H0 G2 H' τ' ρ ∧ Good (whileD (evC Γ c) (evSs Γ body) m ρ) (SOut X.K G0 H0 G E'), fun τ' H' w => ⟨m, Nat.lt_succ_self m, w⟩, ?_⟩
      refine qb _ τ ρ G0 H0 G3 H3 (i2.more x3) ((Good.bind gk).mono fun o go => ?_)
      cases o with
      | nx ρ2 => exact fun τ' G' H'' q i' => ⟨ρ2, G', s3.trans q, i', go⟩
      | ct ρ2 => exact fun τ' G' H'' q i' => ⟨ρ2, G', s3.trans q, i', go⟩
      | bk ρ2 => exact fun τ' G' H'' q i' => (show ∀ σ' G' H', Same G G' → SI X.K G0 H0 G' H' σ' ρ2 → E'.nx σ' H' from go) τ' G' H'' (s3.trans q) i'
      | rt d ρ2 => exact go
    | false =>
      rw [if_neg (by decide)]
      exact (show ∀ σ' G' H', Same G G' → SI X.K G0 H0 G' H' σ' ρ → E'.nx σ' H' from gk) τ G3 H3 s3 (i2.more x3)
end
end Den

/-! DenN: stores into a list or dict of the program's own; the look at a statement's text, and that it is enough. -/
namespace Den
open PySem PySem.Spec PyProof.Rows L2
section
variable {CX : CXT} {X : Cx} {S : Sco} {fns : List Str} {Γ : Cn}

/-! ### xs.append(e) -/
theorem pn_var (h : XH CX X S fns Γ) {i : Nat} {x : Str} {p : Pos} (c : varB S i x = true) : PE X (.Name x p) (tVar i) := by
  obtain ⟨c1, c2, c3, c4⟩ := varB_of c
  exact pe_var (by rw [h.hN]; exact c1) (h.vis c2) c3 c4
/-- the slot's own thing behind the arguments -/
theorem own_at {K : PySem.W.Frag} {G0 H0 G H G1 H1 : Hp} {σ : L2.St} {ρ : En} {i : Nat} {d : D} (s : SI K G0 H0 G H σ ρ) (e : ρ[i]? = some (.own d)) (x : Ext G H G1 H1) : ∃ a, σ[i]? = some (some (.ref a)) ∧ G1 a = none ∧ Owned K G H a d ∧ Owned K G1 H1 a d := by
  obtain ⟨a, h1, h2, h3⟩ := s.er.slot i _ e
  exact ⟨a, h1, x.ownFree h2 h3, h3, h3.ext x.gg x.hh⟩
theorem mApp_of {d y : D} {ds : List D} (h : mApp d ds = .ok y) : ∃ xs e, d = .lst xs ∧ ds = [e] ∧ xs.length < sizeLine ∧ y = .lst (xs ++ [e]) := by
  unfold mApp at h
  split at h
  · split at h
    · cases h; exact ⟨_, _, rfl, rfl, by assumption, rfl⟩
    · cases h
  · cases h
theorem Owned.lst {K : PySem.W.Frag} {G H : Hp} {a : Addr} {ds : List D} (o : Owned K G H a (.lst ds)) : ∃ vs, H a = Option.some (.lst vs) ∧ Reps K G vs ds := by
  obtain ⟨vs, _, e, h, r⟩ | ⟨_, _, e, _⟩ := o
  · cases e; exact ⟨vs, h, r⟩
  · cases e
theorem Owned.dct {K : PySem.W.Frag} {G H : Hp} {a : Addr} {ds : List (D × D)} (o : Owned K G H a (.dct ds)) : ∃ vs, H a = Option.some (.dT vs) ∧ RepKs K G vs ds := by
  obtain ⟨_, _, e, _⟩ | ⟨vs, _, e, h, r⟩ := o
  · cases e
  · cases e; exact ⟨vs, h, r⟩
/-- what a store asks: the arguments, the new thing -/
theorem mut_eq {Γ : Cn} {m : M} {i : Nat} {es : Es} {ρ : En} {P : Out → Prop} (g : Good (evS Γ (.mut m i es) ρ) P) : ∃ d ds y, ρ[i]? = some (.own d) ∧ evEs Γ false es ρ = .ok ds ∧ m.sem d ds = .ok y ∧ P (.nx (ρ.set i (.own y))) := by
  simp only [evS] at g
  split at g
  · rename_i d eo
    obtain ⟨ds, e1, g1⟩ := g.bind.eq
    obtain ⟨y, e2, g2⟩ := (Good.bind g1).eq
    exact ⟨d, ds, y, eo, e1, e2, g2⟩
  · exact g.elim
theorem s_append (h : XH CX X S fns Γ) {i : Nat} {x : Str} {es : Es} {e : Expr} {p1 apos cpos pos : Pos} (c : varB S i x = true) (ns : nst e = true) (hl : (apos.endLine == cpos.line) = true) (L : VL X Γ false es [e]) :
    SD X Γ (.mut .append i es) (.Expr (.Call (.Attribute (.Name x p1) "append" apos) [e] [] cpos) pos) := by
  obtain ⟨t, p, q⟩ := src1 L
  have few : ((backTo cpos (starEach [e] X.env)).all (fun x => !x.1) && (backToKw cpos (keywordEach [] X.env)).all (fun x => x.1.isSome) && decide ([e].length + ([] : List Keyword).length + (if ([] : List Keyword).isEmpty then 0 else 1) < 30)) = true := by
    rw [star_cons ns]; rfl
  refine ⟨_, ps_expr (pe_bm PySem.F.plainAttrs_list PySem.F.slot_list_append PySem.F.type_list_append mt_append (pn_var h c) (pa_cons p pa_nil (star_cons ns)) rfl few hl (star_cons ns) rfl) rfl, fun E' σ ρ G0 H0 G H s g => ?_⟩
  obtain ⟨d, ds, y, eo, e1, e2, k⟩ := mut_eq g
  obtain ⟨xs, e', rfl, rfl, z, rfl⟩ := mApp_of e2
  obtain ⟨a, ea, _, o0, _⟩ := own_at s eo (.refl s.er.sub)
  obtain ⟨vs0, hv0, _⟩ := o0.lst
  refine ⟨_, ea, .inl ⟨rfl, vs0, .of hv0⟩, q σ ρ G H _ s.er ?_⟩
  rw [e1]
  intro d' v G1 H1 ed x1 r1
  cases ed
  obtain ⟨a', ea', nG, _, o1⟩ := own_at s eo x1
  rw [ea] at ea'
  cases ea'
  obtain ⟨vs, hv, rv⟩ := o1.lst
  exact ⟨a, vs, v, rfl, rfl, hv, by rw [rv.length]; exact z, (show ∀ σ' G' H', Same G G' → SI X.K G0 H0 G' H' σ' (ρ.set i (.own (.lst (xs ++ [e'])))) → E'.nx σ' H' from k) σ G1 _ x1.gg ((s.more x1).mut eo ea nG (.inl ⟨_, _, rfl, upd_same, rv.append (.cons r1 .nil)⟩))⟩

/-! ### xs[k] = e, d[k] = e -/
def rSetD (K : PySem.W.Frag) : TSet := fun o i v H Q => rSetL o i v H Q ∨ ∃ a H4, o = .ref a ∧ DPut H a i v H4 ∧ Q H4
theorem set_D (hu : X.A.units + 66 < cLine) : PSet X (rSetD X.K) := by
  intro pins s σ H o i v ov iv u Q I ro ri rv h
  rcases h with h | ⟨a, H4, rfl, g, q⟩
  · exact set_list pins s σ H o i v ov iv u Q I ro ri rv h
  · cases ro
    exact d_setItem (by omega) I g ri rv fun s' I' => ⟨H4, I', q⟩
theorem mSet_of {d y : D} {ds : List D} (h : mSet d ds = .ok y) : (∃ xs e i j, d = .lst xs ∧ ds = [e, .int i] ∧ L2.ixN xs.length i = some j ∧ y = .lst (xs.set j e)) ∨
    ∃ kvs e k ks, d = .dct kvs ∧ ds = [e, k] ∧ kvs.length < sizeLine ∧ keyT k = some ks ∧ y = .dct (putT kvs k e) := by
  unfold mSet at h
  split at h
  · split at h
    · cases h; exact .inl ⟨_, _, _, _, rfl, rfl, by assumption, rfl⟩
    · cases h
  · split at h
    · rename_i q
      cases h
      obtain ⟨q1, q2⟩ := q
      obtain ⟨ks, e⟩ := Option.isSome_iff_exists.mp q2
      exact .inr ⟨_, _, _, ks, rfl, rfl, q1, e, rfl⟩
    · cases h
  · cases h
theorem s_set (h : XH CX X S fns Γ) {i : Nat} {x : Str} {es : Es} {e k : Expr} {p1 p2 pos : Pos} (c : varB S i x = true) (n : ixPlain k = true) (hs : swapsWithSole [.Subscript (.Name x p1) k p2] e pos.line X.env = pure false) (L : VL X Γ false es [e, k]) :
    SD X Γ (.mut .setI i es) (.Assign [.Subscript (.Name x p1) k p2] e pos) := by
  cases L with
  | consV A R =>
    rename_i a0 as0
    obtain ⟨t2, p2', q2⟩ := src1 R
    obtain ⟨t1, p1', q1⟩ := A
    have as : ∀ v, assign (.Subscript (.Name x p1) k p2) X.env v = (do
        let ov ← holding [v] (eval (.Name x p1) X.env)
        let iv ← holding [v, ov] (eval k X.env)
        standAt p2
        holding [v, ov, iv] (setItem ov iv v)
        release [v, ov, iv] []) := by
      intro v
      cases k <;> first | rfl | cases n
    refine ⟨_, ps_asg p1' (pg_sub (pn_var h c) p2' (set_D h.hu) as) hs rfl rfl, fun E' σ ρ G0 H0 G H s g => ?_⟩
    obtain ⟨d, ds, y, eo, e1, e2, kk⟩ := mut_eq g
    have e1 : Good (evEs Γ false (.cons a0 as0) ρ) (fun z => z = ds) := by rw [e1]; rfl
    rw [evEs_V] at e1
    refine q1 σ ρ G H _ s.er (e1.bind.mono fun d1 g1 v G1 H1 x1 r1 => ?_)
    obtain ⟨a, ea, _, _, o1⟩ := own_at s eo x1
    refine ⟨_, ea, q2 σ ρ G1 H1 _ (s.er.ext x1) ((Good.bind g1).mono fun ds2 g2 d2 w G2 H2 ed x2 r2 => ?_)⟩
    subst ed
    have g2 : [d1, d2] = ds := g2
    subst g2
    obtain ⟨a', ea', nG, _, o2⟩ := own_at s eo (x1.trans x2)
    rw [ea] at ea'
    cases ea'
    have go : ∀ u y', y = y' → Owned X.K G2 (upd H2 a u) a y' → E'.nx σ (upd H2 a u) := fun u y' ey o => by
      subst ey
      exact (show ∀ σ' G' H', Same G G' → SI X.K G0 H0 G' H' σ' (ρ.set i (.own y)) → E'.nx σ' H' from kk) σ G2 _ (x1.gg.trans x2.gg) (((s.more x1).more x2).mut eo ea nG o)
    rcases mSet_of e2 with ⟨xs, e', i', j, rfl, ed, hj, ey⟩ | ⟨kvs, e', k', ks, rfl, ed, hz, hk, ey⟩
    · cases ed
      have r2 : Rep X.K G2 w (.int i') := r2
      cases r2
      obtain ⟨vs, hv, rv⟩ := o2.lst
      exact .inl ⟨a, vs, i', j, rfl, rfl, hv, by rw [rv.length]; exact hj, go _ _ ey (.inl ⟨_, _, rfl, upd_same, Reps.set (r1.mono x2.gg) j rv⟩)⟩
    · cases ed
      obtain ⟨b, rfl, hb⟩ := key_at (G := G2) (H := H2) (.inl r2) hk
      obtain ⟨vs, hv, rv⟩ := o2.dct
      exact .inr ⟨a, _, rfl, .t hv (x2.gh _ _ hb) (by rw [rv.length]; exact hz), go _ _ ey (.inr ⟨_, _, rfl, upd_same, RepKs.put hk (r1.mono x2.gg) rv⟩)⟩
theorem mRem_of {d y : D} {ds : List D} (h : mRem d ds = .ok y) : ∃ xs e j, d = .lst xs ∧ ds = [e] ∧ (plain e && plain (.lst xs)) = true ∧ findD e xs 0 = some j ∧ y = .lst (xs.eraseIdx j) := by
  unfold mRem at h
  split at h
  · split at h
    · split at h
      · cases h; exact ⟨_, _, _, rfl, rfl, by assumption, by assumption, rfl⟩
      · cases h
    · cases h
  · cases h
theorem s_rem (h : XH CX X S fns Γ) {i : Nat} {x : Str} {es : Es} {e : Expr} {p1 apos cpos pos : Pos} (c : varB S i x = true) (ns : nst e = true) (hl : (apos.endLine == cpos.line) = true) (L : VL X Γ false es [e]) :
    SD X Γ (.mut .remove i es) (.Expr (.Call (.Attribute (.Name x p1) "remove" apos) [e] [] cpos) pos) := by
  obtain ⟨t, p, q⟩ := src1 L
  have few : ((backTo cpos (starEach [e] X.env)).all (fun x => !x.1) && (backToKw cpos (keywordEach [] X.env)).all (fun x => x.1.isSome) && decide ([e].length + ([] : List Keyword).length + (if ([] : List Keyword).isEmpty then 0 else 1) < 30)) = true := by
    rw [star_cons ns]; rfl
  refine ⟨_, ps_expr (pe_bm PySem.F.plainAttrs_list PySem.F.slot_list_remove PySem.F.type_list_remove (mt_rem (by have := h.hu; omega)) (pn_var h c) (pa_cons p pa_nil (star_cons ns)) rfl few hl (star_cons ns) rfl) rfl, fun E' σ ρ G0 H0 G H s g => ?_⟩
  obtain ⟨d, ds, y, eo, e1, e2, k⟩ := mut_eq g
  obtain ⟨xs, e', j, rfl, rfl, z, ef, rfl⟩ := mRem_of e2
  obtain ⟨a, ea, _, o0, _⟩ := own_at s eo (.refl s.er.sub)
  obtain ⟨vs0, hv0, _⟩ := o0.lst
  refine ⟨_, ea, .inl ⟨rfl, vs0, .of hv0⟩, q σ ρ G H _ s.er ?_⟩
  rw [e1]
  intro d' v G1 H1 ed x1 r1
  cases ed
  obtain ⟨a', ea', nG, _, o1⟩ := own_at s eo x1
  rw [ea] at ea'
  cases ea'
  obtain ⟨vs, hv, rv⟩ := o1.lst
  obtain ⟨z1, z2⟩ := Bool.and_eq_true_iff.mp z
  obtain ⟨i', w, f1, f2, f3, f4⟩ := find_some ef
  obtain rfl : j = i' := by omega
  have shL : SeqAt.shaped (.list (toPys xs)) = true := by
    have := z2
    unfold plain at this
    simpa only [toPy] using this
  have rB : RepB X.K G1 H1 v e' := .inl r1
  have hd : DpAll X.K H1 vs (toPys xs) := Reps.dp (rv.mono x1.gh) (by
    have := SeqAt.canLay_of_shaped shL
    simpa [PyData.canLay0] using this)
  refine ⟨a, v, toPy e', vs, toPys xs, j, toPy w, rfl, rfl, hv, hd, (rB.all x1.gh).dpP z1, shL, z1, by rw [toPys_get, f2]; rfl, f3, fun m z' hm hz => ?_, ?_⟩
  · rw [toPys_get] at hz
    cases u : xs[m]? with
    | none => rw [u] at hz; cases hz
    | some w' =>
      rw [u] at hz
      cases hz
      exact f4 m w' hm u
  · exact (show ∀ σ' G' H', Same G G' → SI X.K G0 H0 G' H' σ' (ρ.set i (.own (.lst (xs.eraseIdx j)))) → E'.nx σ' H' from k) σ G1 _ x1.gg ((s.more x1).mut eo ea nG (.inl ⟨_, _, rfl, upd_same, rv.erase j⟩))
/-- {} for keys that are tuples -/
theorem v_dctT {pos : Pos} : VF X Γ (.op .mkDctT .nil) (.Dict [] [] pos) := by
  refine ⟨_, pe_dnewT, fun σ ρ G H Q rr g p n => ?_⟩
  have g : Good (Res.ok (D.dct [])) (fun d => KF X.K G H d Q) := by rw [evE, evEs] at g; exact g
  exact (show KF X.K G H (.dct []) Q from g) p G _ (.newO rr.sub n) n (rr.sub.free n) (.inr ⟨[], [], rfl, upd_same, .nil⟩)
end
end Den

/-! DenO: the look at a statement's text, and that it is enough. -/
namespace Den
open PySem PySem.Spec PyProof.Rows L2
def noComp : Expr → Bool
  | .ListComp _ _ _ _ | .SetComp _ _ _ _ | .DictComp _ _ _ _ _ => false
  | _ => true
def noPar : Expr → Expr → Bool
  | .Name _ _, _ => true
  | .Tuple _ _ _, .Tuple _ _ _ => false
  | .Tuple _ _ _, _ => true
  | _, _ => false
def locB (sc : Scope) (x : Str) : Bool := match sc.names.lookup x with
  | some .local => true
  | _ => false
def cellB (sc : Scope) (x : Str) : Bool := match sc.names.lookup x with
  | some .cell => true
  | _ => false
def funB (sc : Scope) : Bool := match sc.kind with
  | .function => true
  | _ => false
def augB (op : Operator) (o : O) : Bool := match op with
  | .Add => decide (o = .add)
  | .Sub => decide (o = .sub)
  | .Mult => decide (o = .mul)
  | _ => false
/-- name = a comprehension -/
def lcOwn (S : Sco) (x : Str) (py pos : Pos) (scope : Scope) : Bool :=
  (locB S.sc x && funB S.sc && (py.line == pos.line) && !(scope.names.any fun (n, k) => n == x && (k == .local || k == .cell))) || cellB S.sc x
mutual
def chS (fns : List Str) : Den.S → Sco → Stmt → Bool
  | .asg tg e, S, st => match st with
    | .Assign [t] e' _ => noComp e' && noPar t e' && chT S tg t && chE fns e S e'
    | _ => false
  | .own i e, S, st => match st with
    | .Assign [.Name x p] e' _ => decide (S.N[i]? = some x) && S.sto x && fresh e && chE fns e S e' && (match e' with
      | .ListComp _ _ scope pos => lcOwn S x p pos scope
      | .DictComp _ _ _ scope pos => lcOwn S x p pos scope
      | e' => noComp e')
    | _ => false
  | .aug i o e, S, st => match st with
    | .AugAssign (.Name x _) op e' _ => decide (S.N[i]? = some x) && S.sto x && augB op o && chE fns e S e'
    | _ => false
  | .ex e, S, st => match st with
    | .Expr e' _ => noComp e' && chE fns e S e'
    | _ => false
  | .ret e, S, st => match st with
    | .Return (some e') _ => chE fns e S e'
    | _ => false
  | .retN, _, st => match st with
    | .Return none _ => true
    | _ => false
  | .ite c a b, S, st => match st with
    | .If e xs ys _ => chC fns c S e && chSs fns a S xs && chSs fns b S ys
    | _ => false
  | .for_ tg k src body, S, st => match st with
    | .For t i xs [] _ => chI fns k src S t i && noFold i && chT S tg t && chSs fns body S xs
    | _ => false
  | .while_ c body, S, st => match st with
    | .While e xs [] _ => chC fns c S e && chSs fns body S xs
    | _ => false
  | .brk, _, st => match st with
    | .Break _ => true
    | _ => false
  | .cnt, _, st => match st with
    | .Continue _ => true
    | _ => false
  | .mut m i es, S, st => match m with
    | .append => match st with
      | .Expr (.Call (.Attribute (.Name x _) at_ apos) [e] [] cpos) _ => decide (at_ = "append") && varB S i x && nst e && (apos.endLine == cpos.line) && chEs fns es S [e]
      | _ => false
    | .setI => match st with
      | .Assign [.Subscript (.Name x _) k _] e _ => varB S i x && ixPlain k && chEs fns es S [e, k]
      | _ => false
    | .remove => match st with
      | .Expr (.Call (.Attribute (.Name x _) at_ apos) [e] [] cpos) _ => decide (at_ = "remove") && varB S i x && nst e && (apos.endLine == cpos.line) && chEs fns es S [e]
      | _ => false
def chSs (fns : List Str) : Ss → Sco → List Stmt → Bool
  | .nil, _, xs => xs.isEmpty
  | .cons s ss, S, xs => match xs with
    | [] => false
    | x :: r => chS fns s S x && chSs fns ss S r
  | .fz _ ss, S, xs => chSs fns ss S xs
end
section
variable {CX : CXT} {fns : List Str} {Γ : Cn}
theorem sw_no {e : Expr} {t : Option Expr} {l : Nat} {env : Env} (h : noComp e = true) : swapsWith e t l env = pure false := by
  cases e <;> first | rfl | cases h
theorem sws_no {t e : Expr} {l : Nat} {env : Env} (h : noComp e = true) : swapsWithSole [t] e l env = pure false := sw_no h
theorem sws_sub {a k e : Expr} {p : Pos} {l : Nat} {env : Env} : swapsWithSole [.Subscript a k p] e l env = pure false := by
  cases e <;> rfl
theorem ss_no {t e : Expr} {env : Env} (h : noPar t e = true) : swappedStores [t] e env = pure none := by
  cases t <;> (try (cases h; done))
  · rfl
  · cases e <;> first | rfl | cases h
theorem ae_one {t e : Expr} {env : Env} (h : noPar t e = true) : (assignEach [t] env).map (·.2) = [assign t env] := by
  cases t <;> first | rfl | (cases h; done)
theorem locB_of {sc : Scope} {x : Str} (h : locB sc x = true) : sc.names.lookup x = some .local := by
  unfold locB at h
  split at h <;> first | assumption | cases h
theorem cellB_of {sc : Scope} {x : Str} (h : cellB sc x = true) : sc.names.lookup x = some .cell := by
  unfold cellB at h
  split at h <;> first | assumption | cases h
theorem funB_of {sc : Scope} (h : funB sc = true) : sc.kind = .function := by
  unfold funB at h
  split at h <;> first | assumption | cases h
theorem augB_of {op : Operator} {o : O} (h : augB op o = true) : (op = .Add ∧ o = .add) ∨ (op = .Sub ∧ o = .sub) ∨ (op = .Mult ∧ o = .mul) := by
  cases op <;> first | exact .inl ⟨rfl, of_decide_eq_true h⟩ | exact .inr (.inl ⟨rfl, of_decide_eq_true h⟩) | exact .inr (.inr ⟨rfl, of_decide_eq_true h⟩) | cases h
theorem sw_cell {elt : Expr} {gs : List Comprehension} {scope : Scope} {pos py : Pos} {y : Str} {l : Nat} {env : Env} (hy : env.scope.names.lookup y = some .cell) : swapsWith (.ListComp elt gs scope pos) (some (.Name y py)) l env = pure false := by
  have ky : env.kindOf y = some .cell := hy
  unfold swapsWith
  simp only [ky]
  have e : (some NameKind.cell == some NameKind.local) = false := rfl
  rw [e, Bool.and_false]
  rfl
theorem lc_parts {own : List Nat} {tg : Tg} {k : IK} {src : Es} {c : C} {elt : E} {S : Sco} {e' : Expr} {gs : List Comprehension} {scope : Scope} {pos : Pos} (h : chE fns (.lc own tg k src c elt) S (.ListComp e' gs scope pos) = true) :
    ∃ t' i' ifs, gs = [⟨t', i', ifs, 0⟩] ∧ chI fns k src S t' i' = true ∧ blkC S.N S.sc scope (ownP S own) = true ∧ tgIn own tg = true ∧ noFold i' = true ∧ chT (S.blk scope) tg t' = true ∧
      ((ifs = [] ∧ c = .tt) ∨ ∃ t, ifs = [t] ∧ chC fns c (S.blk scope) t = true) ∧ chE fns elt (S.blk scope) e' = true := by
  unfold chE at h
  split at h
  · rename_i e1 t' i' ifs sc1 p1 z
    cases z
    simp only [Bool.and_eq_true] at h
    obtain ⟨⟨⟨⟨⟨⟨c1, c2⟩, c3⟩, c4⟩, c5⟩, c6⟩, c7⟩ := h
    refine ⟨t', i', ifs, rfl, c1, c2, c3, c4, c5, ?_, c7⟩
    split at c6
    · split at c6
      · exact .inl ⟨rfl, rfl⟩
      · cases c6
    · exact .inr ⟨_, rfl, c6⟩
    · cases c6
  · cases h
theorem dic_parts {own : List Nat} {tg : Tg} {k : IK} {src : Es} {key val : E} {S : Sco} {kx vx : Expr} {gs : List Comprehension} {scope : Scope} {pos : Pos} (h : chE fns (.dcT own tg k src key val) S (.DictComp kx vx gs scope pos) = true) :
    ∃ t' i', gs = [⟨t', i', [], 0⟩] ∧ chI fns k src S t' i' = true ∧ blkC S.N S.sc scope (ownP S own) = true ∧ tgIn own tg = true ∧ noFold i' = true ∧ chT (S.blk scope) tg t' = true ∧
      chE fns key (S.blk scope) kx = true ∧ chE fns val (S.blk scope) vx = true := by
  unfold chE at h
  split at h
  · rename_i z
    cases z
    simp only [Bool.and_eq_true] at h
    obtain ⟨⟨⟨⟨⟨⟨c1, c2⟩, c3⟩, c4⟩, c5⟩, c6⟩, c7⟩ := h
    exact ⟨_, _, rfl, c1, c2, c3, c4, c5, c6, c7⟩
  · cases h
mutual
theorem sS : ∀ (s : Den.S) (X : Cx) (S : Sco) (st : Stmt), XH CX X S fns Γ → chS fns s S st = true → SD X Γ s st
  | .asg tg e, X, S, st, h, c => by
    unfold chS at c
    split at c
    · simp only [Bool.and_eq_true] at c
      exact s_asg (sE e X S _ h c.2).1 (pg_ok h tg _ c.1.2) (sws_no c.1.1.1) (ss_no c.1.1.2) (ae_one c.1.1.2)
    · cases c
  | .own i e, X, S, st, h, c => by
    unfold chS at c
    split at c
    · rename_i x p e' pos
      simp only [Bool.and_eq_true, decide_eq_true_eq] at c
      obtain ⟨⟨⟨⟨c1, c2⟩, c3⟩, c4⟩, c5⟩ := c
      obtain ⟨l, f⟩ := h.st x c2
      have nd : X.N.Nodup := by rw [h.hN]; exact h.nd
      have iN : X.N[i]? = some x := by rw [h.hN]; exact c1
      obtain ⟨t, p1, q⟩ := (sE e X S e' h c4).2.2 c3
      have plain : swapsWith e' (some (.Name x p)) pos.line X.env = pure false → SD X Γ (.own i e) (.Assign [.Name x p] e' pos) := fun z => s_own0 (ps_set nd iN l p1 z f) q
      split at c5
      · rename_i e1 gs scope lpos
        unfold lcOwn at c5
        rw [Bool.or_eq_true] at c5
        rcases c5 with c5 | c5
        · simp only [Bool.and_eq_true, Bool.not_eq_true'] at c5
          have hl := locB_of c5.1.1.1
          have hk := funB_of c5.1.1.2
          have sw : swapsWith (.ListComp e1 gs scope lpos) (some (.Name x p)) pos.line X.env = pure true := sw_true (by rw [h.hsc]; exact hk) (by rw [h.hsc]; exact hl) c5.1.2 c5.2
          cases e with
          | lc own tg k src c' elt =>
            obtain ⟨t2, i2, ifs2, rfl, c1', c2', c3', c4', c5', c6', c7'⟩ := lc_parts c4
            obtain ⟨t', ⟨_, ps⟩, q'⟩ := v_lcT (own := ownP S own) (tg := tg) (k := k) (src := src) (c := c') (elt := elt) (e' := e1) (ifs := ifs2) (pos := lpos) h (sI k src X S t2 i2 h c1' true) c2' (by rw [own_of]; exact c3') (fold_of c4')
              (fun Y hY => pg_ok hY tg t2 c5') (fun Y hY => by
                rcases c6' with ⟨rfl, rfl⟩ | ⟨t3, rfl, c6'⟩
                · exact pts_tt
                · exact (sC c' Y _ _ hY c6').1.pts) (fun Y hY => (sE elt Y _ _ hY c7').1)
            rw [own_of] at q'
            exact s_own0 (ps i x p pos c1 hl sw) q'
          | _ => first | (simp [fresh] at c3; done) | (simp [chE] at c4; done)
        · exact plain (sw_cell (by rw [h.hsc]; exact cellB_of c5))
      · rename_i k' v' gs scope lpos
        unfold lcOwn at c5
        rw [Bool.or_eq_true] at c5
        rcases c5 with c5 | c5
        · simp only [Bool.and_eq_true, Bool.not_eq_true'] at c5
          have hl := locB_of c5.1.1.1
          have hk := funB_of c5.1.1.2
          have sw : swapsWith (.DictComp k' v' gs scope lpos) (some (.Name x p)) pos.line X.env = pure true := sw_dic (by rw [h.hsc]; exact hk) (by rw [h.hsc]; exact hl) c5.1.2 c5.2
          cases e with
          | dcT own tg k src key val =>
            obtain ⟨t2, i2, rfl, c1', c2', c3', c4', c5', c6', c7'⟩ := dic_parts c4
            obtain ⟨t', ⟨_, ps⟩, q'⟩ := v_dicT (own := ownP S own) (tg := tg) (k := k) (src := src) (key := key) (val := val) (kx := k') (vx := v') (pos := lpos) h (sI k src X S t2 i2 h c1' true) c2' (by rw [own_of]; exact c3') (fold_of c4')
              (fun Y hY => pg_ok hY tg t2 c5') (fun Y hY => (sE key Y _ _ hY c6').1) (fun Y hY => (sE val Y _ _ hY c7').1)
            rw [own_of] at q'
            exact s_own0 (ps i x p pos c1 hl sw) q'
          | _ => first | (simp [fresh] at c3; done) | (simp [chE] at c4; done)
        · exact plain (sw_dicC (by rw [h.hsc]; exact cellB_of c5))
      · exact plain (sw_no c5)
    · cases c
  | .aug i o e, X, S, st, h, c => by
    unfold chS at c
    split at c
    · simp only [Bool.and_eq_true, decide_eq_true_eq] at c
      exact s_aug h c.1.1.1 c.1.1.2 (augB_of c.1.2) (sE e X S _ h c.2).1
    · cases c
  | .ex e, X, S, st, h, c => by
    unfold chS at c
    split at c
    · simp only [Bool.and_eq_true] at c
      exact s_ex (sE e X S _ h c.2).1 (sw_no c.1)
    · cases c
  | .ret e, X, S, st, h, c => by
    unfold chS at c
    split at c
    · exact s_ret (sE e X S _ h c).1
    · cases c
  | .retN, X, S, st, h, c => by
    unfold chS at c
    split at c
    · exact s_retN
    · cases c
  | .ite k a b, X, S, st, h, c => by
    unfold chS at c
    split at c
    · simp only [Bool.and_eq_true] at c
      exact s_ite (sC k X S _ h c.1.1).1 (sSs a X S _ h c.1.2) (sSs b X S _ h c.2)
    · cases c
  | .for_ tg k src body, X, S, st, h, c => by
    unfold chS at c
    split at c
    · simp only [Bool.and_eq_true] at c
      exact s_for h (sI k src X S _ _ h c.1.1.1 false) (pg_ok h tg _ c.1.2) (sSs body X S _ h c.2) (fold_of c.1.1.2)
    · cases c
  | .while_ k body, X, S, st, h, c => by
    unfold chS at c
    split at c
    · simp only [Bool.and_eq_true] at c
      exact s_while h (sC k X S _ h c.1).1 (sSs body X S _ h c.2)
    · cases c
  | .brk, X, S, st, h, c => by
    unfold chS at c
    split at c
    · exact s_brk
    · cases c
  | .cnt, X, S, st, h, c => by
    unfold chS at c
    split at c
    · exact s_cnt
    · cases c
  | .mut m i es, X, S, st, h, c => by
    unfold chS at c
    cases m with
    | append =>
      dsimp only at c
      split at c
      · simp only [Bool.and_eq_true, decide_eq_true_eq] at c
        obtain ⟨⟨⟨⟨c1, c2⟩, c3⟩, c4⟩, c5⟩ := c
        subst c1
        exact s_append h c2 c3 c4 (sEs es X S _ h c5).2
      · cases c
    | setI =>
      dsimp only at c
      split at c
      · simp only [Bool.and_eq_true] at c
        exact s_set h c.1.1 c.1.2 sws_sub (sEs es X S _ h c.2).2
      · cases c
    | remove =>
      dsimp only at c
      split at c
      · simp only [Bool.and_eq_true, decide_eq_true_eq] at c
        obtain ⟨⟨⟨⟨c1, c2⟩, c3⟩, c4⟩, c5⟩ := c
        subst c1
        exact s_rem h c2 c3 c4 (sEs es X S _ h c5).2
      · cases c
theorem sSs : ∀ (ss : Ss) (X : Cx) (S : Sco) (sts : List Stmt), XH CX X S fns Γ → chSs fns ss S sts = true → SDs X Γ ss sts
  | .nil, X, S, sts, h, c => by
    unfold chSs at c
    cases sts with
    | nil => exact ss_nil
    | cons x r => cases c
  | .cons s ss, X, S, sts, h, c => by
    unfold chSs at c
    split at c
    · cases c
    · simp only [Bool.and_eq_true] at c
      exact ss_cons (sS s X S _ h c.1) (sSs ss X S _ h c.2)
  | .fz is ss, X, S, sts, h, c => by
    unfold chSs at c
    exact ss_fz (sSs ss X S _ h c)
end
end
end Den

/-! DenP: a def by its text. -/
namespace Den
open PySem PySem.Spec PyProof.Rows L2
/-- a caller of data: its promise under its name -/
structure Got (P : Program) (w : World) (K : PySem.W.Frag) (mg : Str → Option Value) (base : Heap) (k : Nat) (x : Str) (g : List D → Res D) : Prop where
  ex : ∃ (fa : Addr) (fd : FuncData) (ps : List Str), FnG P w K mg base C8.CX0 k fa fd ps (spD K g) ∧ mg x = some (.ref fa) ∧ PySem.W.keepIn K (.ref fa) = true ∧ Binds K fd ps []
theorem Good.wk {α : Type} {r : Res α} {P Q : α → Prop} (h : Good r P) (f : ∀ a, P a → Q a) : Good r Q := h.mono f
theorem start_er {K : PySem.W.Frag} {G H : Hp} {vs : List V} {ds : List D} {n : Nat} (s : Same G H) (r : Reps K G vs ds) : ER K G H (vs.map some ++ List.replicate n none) (ds.map .val ++ List.replicate n .un) := by
  have hl := r.length
  have at_ : ∀ i t, (ds.map Slot.val ++ List.replicate n .un)[i]? = some t → t = Slot.un ∨ ∃ d, t = Slot.val d ∧ ds[i]? = some d := fun i t h => by
    by_cases hi : i < ds.length
    · rw [List.getElem?_append_left (by simpa using hi), List.getElem?_map] at h
      rw [List.getElem?_eq_getElem hi] at h
      cases h
      exact .inr ⟨_, rfl, List.getElem?_eq_getElem hi⟩
    · rw [List.getElem?_append_right (by simpa using hi), List.getElem?_replicate] at h
      split at h
      · cases h; exact .inl rfl
      · cases h
  refine ⟨by simp [hl], s, fun i t h => ?_, fun i j d e a h1 _ _ _ => ?_⟩
  · rcases at_ i t h with rfl | ⟨d, rfl, hd⟩
    · trivial
    · obtain ⟨v, hv, rv⟩ := r.get hd
      refine ⟨v, ?_, rv⟩
      have hi : i < vs.length := (List.getElem?_eq_some_iff.mp hv).1
      rw [List.getElem?_append_left (by simpa using hi), List.getElem?_map, hv]
      rfl
  · rcases at_ i _ h1 with z | ⟨_, z, _⟩ <;> cases z
section
variable {P : Program} {w : World} {K : PySem.W.Frag} {mg : Str → Option Value} {base : Heap}
theorem den_def {k : Nat} {fa : Addr} {x qual : Str} {st : Stmt} {fd : FuncData} {N ps : List Str} {fns : List Str} {Γ : Cn} {ss : Ss} (F : C8.Fun K x qual st fa fd) (S : FnScope N ps (C8.fnScope st))
    (ck : chSs fns ss ⟨N, C8.fnScope st, stoB (C8.fnScope st)⟩ (C8.fnBody st) = true)
    (hf : ∀ f g y, Γ.fn f = some g → fns[f]? = some y → Got P w K mg base k y g) (hb : ∀ y ∈ bltN, mg y = none) :
    FnG P w K mg base C8.CX0 (k + 1) fa fd ps (spD K (run Γ ss ps.length N.length)) := by
  obtain ⟨oc, od, dV, kV, doc, pm, an, cdv, ct, osl, rfl, lk, hcd⟩ := F.ex
  have len : ∀ (vs : List V) (H : Hp) (Q : VK) (E : XK), spD K (run Γ ss ps.length N.length) vs H Q E → vs.length = ps.length := by
    rintro vs H Q E ⟨G, ds, sm, rr, g⟩
    unfold run at g
    split at g
    · rename_i z
      rw [rr.length, z]
    · exact g.elim
  refine ⟨len, fun A outer s H args us vs Q E hr gd e0 hb' r hsp => ?_⟩
  have hl := len _ _ _ _ hsp
  have KX : K.In s.heap := e0.mod.kin.keeps fun b o e => (e0.bs b o e).1
  have lim : s.heap.NoLimit := e0.mod.nolimit.keeps fun b o e => (e0.bs b o e).1
  have hkind : ∀ y ∈ ps.zip us, (C8.fnScope st).names.lookup y.1 = some .local ∨ ((C8.fnScope st).names.lookup y.1 = some .cell ∧ ((cellsFrom (s.heap.objs.size + 1) (C8.fnScope st).names []).lookup y.1).isSome = true) := fun ⟨n, v⟩ hy => by
    rcases S.par n (List.of_mem_zip hy).1 with q | q
    · exact .inl q
    · exact .inr ⟨q, PySem.W.cellsFrom_some _ _ _ (.inl q)⟩
  refine codeAny_call_function hr.depth (KX _ _ lk) rfl S.co S.gen rfl (PySem.W.codeRec_of KX hcd) (hb' _ _ _ _ ?_)
  refine wpAny_newFunctionEnv_cells S.kind hkind fun env he s1 xx => ?_
  subst he
  refine ⟨lim.keeps xx.toInCall.keep, codeAny_func ?_⟩
  -- the body
  have hX : XH C8.CX0 (cxOf C8.CX0 P w K mg base N qual (C8.fnScope st) fa cdv A outer s H E).nox ⟨N, C8.fnScope st, stoB (C8.fnScope st)⟩ fns Γ := by
    refine ⟨rfl, S.nd, rfl, rfl, (hr.deeper _).mono (Nat.zero_le _), gd, PassesOwn.never, fun _ _ _ => C8.pass0, fun y hy => ?_, hb, fun f g y h1 h2 => ?_⟩
    · refine ⟨?_, .inl rfl⟩
      have hy : stoB (C8.fnScope st) y = true := hy
      unfold stoB at hy
      split at hy
      · exact .inl (by assumption)
      · exact .inr (by assumption)
      · cases hy
    · obtain ⟨fa', fd', ps', h3, h4, h5, h6⟩ := (hf f g y h1 h2).ex
      exact ⟨⟨k, fa', fd', ps', h3, hr.deeper _, h4, h5, h6⟩⟩
  obtain ⟨t, ht, hq⟩ := sSs ss _ _ _ hX ck
  obtain ⟨G, ds, sm, rr, g⟩ := hsp
  have I : Inv (cxOf C8.CX0 P w K mg base N qual (C8.fnScope st) fa cdv A outer s H E) [] (L2.start N vs) H s1 := inv_start S hr.hd e0 hl r xx
  have hdl : ds.length = ps.length := by rw [← rr.length, hl]
  unfold run at g
  rw [if_pos hdl] at g
  have hq2 : t { nx := fun _ H' => Q .non H', rt := Q } (L2.start N vs) H := by
    refine hq _ (L2.start N vs) (ds.map .val ++ List.replicate (N.length - ps.length) .un) G H G H ⟨?_, .refl sm, fun i d a h1 _ => ?_⟩ (g.bind.mono fun o go => ?_)
    · unfold L2.start
      rw [hl]
      exact start_er sm rr
    · have : ∀ (l : List D) (n i : Nat) (d : D), (l.map Slot.val ++ List.replicate n .un)[i]? ≠ some (.own d) := fun l n i d h => by
        have hm := List.mem_of_getElem? h
        rcases List.mem_append.mp hm with z | z
        · obtain ⟨_, _, z⟩ := List.mem_map.mp z; cases z
        · have := List.eq_of_mem_replicate z; cases this
      exact absurd h1 (this _ _ _ _)
    · cases o with
      | nx ρ => exact fun σ' G' H' s' i' => (show KV K G H .non Q from go) .non G' H' i'.ext .non
      | rt d ρ => exact fun v G' H' x' r' => (show KV K G H d Q from go) v G' H' x' r'
      | bk ρ => exact (show False from go).elim
      | ct ρ => exact (show False from go).elim
  refine wpAny_mono (ht.nox.run [] s1 (L2.start N vs) H _ I hq2) (fun fl s' hs => ?_) fun e s' hs => hs
  have fin : ∀ {σ' : L2.St} {H' : Hp} {v : V} {u : Value}, Inv (cxOf C8.CX0 P w K mg base N qual (C8.fnScope st) fa cdv A outer s H E) [] σ' H' s' → RelV v u → Q v H' → CE outer P w H s Q u s' :=
    fun {σ' H' v u} J rv q => ⟨v, H', J.os, J.bare, J.base, J.hok, rv, q⟩
  match fl, hs with
  | .ret u, ⟨v, σ', H', J, rv, q⟩ => exact fin J rv q
  | .next, ⟨σ', H', J, q⟩ => exact fin (v := V.non) (u := Value.none) J rfl q
  | .brk, ⟨_, _, _, q⟩ => exact False.elim q
  | .cont, ⟨_, _, _, q⟩ => exact False.elim q
theorem Got.of {k j : Nat} {x : Str} {st : Stmt} {fa : Addr} {fd : FuncData} {ps : List Str} {g : List D → Res D} (F : C8.Def K mg x st fa fd) (b : Binds K fd ps []) (h : FnG P w K mg base C8.CX0 k fa fd ps (spD K g)) (hk : k ≤ j) : Got P w K mg base j x g :=
  ⟨fa, fd, ps, h.later hk, F.mgf, F.kp, b⟩
theorem Got.later {k j : Nat} {x : Str} {g : List D → Res D} (h : Got P w K mg base k x g) (hk : k ≤ j) : Got P w K mg base j x g := by
  obtain ⟨fa, fd, ps, a, b, c, d⟩ := h.ex
  exact ⟨fa, fd, ps, a.later hk, b, c, d⟩
end
end Den

/-! DenQ: the law's own call. -/
namespace Den
open PySem PySem.Spec PyProof.Rows L2
theorem reps_ints {K : PySem.W.Frag} {G : Hp} : ∀ ns : List Int, Reps K G (ns.map V.int) (ns.map D.int)
  | [] => .nil
  | n :: ns => .cons (.int n) (reps_ints ns)
theorem den_call {P : Program} {w : World} {K : PySem.W.Frag} {mg mb : Str → Option Value} {k : Nat} {fa a : Addr} {fd : FuncData} {x : Str} {g : List D → Res D} {s1 : Shared} {vs : List Value} {ns : List Int}
    (KX : K.In s1.heap) (hns : s1.heap.Ns mainGlobals mg) (hb : s1.heap.Ns builtinsNs mb) (hbb : ∀ x : Str, x ≠ "__name__" → mb x = bootBuiltins x) (hlim : s1.heap.NoLimit) (hg : s1.gens = #[])
    (ha : s1.heap.get? a = some { cls := .type "list", data := .seq vs.toArray }) (hi : IntsAre vs ns) (hl : ns.length ≤ sizeLine) (hr : Room k callerA) (gd : callerA.guards = some [])
    (F : ∀ base : Heap, K.In base → base.Ns mainGlobals mg → FnG P w K mg base C8.CX0 k fa fd [x] (spD K g)) (hbind : ∀ (s : Shared) (u : Value), BindsTo s fd ⟨[u], []⟩ [(x, u)])
    (good : g [.lstC (ns.map D.int)] = .ok (.bl true)) :
    codeAny (model P w) callerA (.call (.ref fa) ⟨[.ref a], []⟩) (fun r s' => r = .ok (.ret (.bool true)) ∧ OldK s1.heap s'.heap ∧ s'.os = s1.os ∧ AllBare s'.gens) s1 := by
  have rv := vals_ints hi
  have lenV := hi.length
  have main : ∀ H : Hp, Only H → SqL K H a (ns.map V.int) → HOk P w H s1.heap → (∀ b, H b ≠ none → b = a) → (H a ≠ none → K.lookup a = none) →
      codeAny (model P w) callerA (.call (.ref fa) ⟨[.ref a], []⟩) (fun r s' => r = .ok (.ret (.bool true)) ∧ OldK s1.heap s'.heap ∧ s'.os = s1.os ∧ AllBare s'.gens) s1 := by
    intro H hO hS hok only ink
    have isA : ∀ {b : Addr} {u : HO}, H b = some u → b = a := fun q => only _ (by rw [q]; simp)
    have dictOff : ∀ {b : Addr} {o : Obj} {es : Array DictEntry} {ep : Nat}, s1.heap.get? b = some o → o.data = .dict es ep → H b = none := fun {b o es ep} e d => by
      cases q : H b with
      | none => rfl
      | some u =>
        obtain rfl := isA q
        rw [ha] at e
        cases e
        cases (show Data.seq vs.toArray _ = Data.dict es ep from d)
    have nsOff : ∀ {b : Addr} {m : Str → Option Value}, s1.heap.Ns b m → (hidT s1.heap H).Ns b m := fun ⟨o, es, ep, e, d, r⟩ => ⟨o, es, ep, hidT_get e (dictOff e d), d, r⟩
    have kIn : K.In (hidT s1.heap H) := fun b o e => hidT_get (KX b o e) (by
      cases q : H b with
      | none => rfl
      | some u =>
        obtain rfl := isA q
        rw [ink (by rw [q]; simp)] at e
        cases e)
    have hM : Mod K mg (hidT s1.heap H) := ⟨kIn, nsOff hns, ⟨mb, nsOff hb, hbb⟩, let ⟨mc, h1, h2⟩ := hlim; ⟨mc, nsOff h1, h2⟩⟩
    have e0 : Env0 P w K mg (hidT s1.heap H) callerA [] s1 H := ⟨rfl, hM, fun b o e => of_hidT e, Nat.le_of_eq (hidT_size _ _), trivial, fun b hb => absurd (show b ∈ ([] : List Addr) from hb) (by simp), hok, .of_eq hg⟩
    have sp0 : spD K g [.ref a] H (fun v _ => v = .bl true) (fun _ _ _ => False) := ⟨H, [.lstC (ns.map D.int)], .refl H, .cons (.lstC hS (reps_ints ns)) .nil, by
      rw [good]
      intro v G' H' x' r'
      cases r'
      rfl⟩
    refine codeAny_mono ((F _ kIn (nsOff hns)).goes callerA [] s1 H ⟨[.ref a], []⟩ [.ref a] [.ref a] _ _ hr gd e0 (hbind s1 (.ref a)) (.cons rfl .nil) sp0) fun r s' h => ?_
    match r, h with
    | .ok (.ret u), ⟨v, H', os, bare, un, hok', r', q⟩ =>
      have q : v = .bl true := q
      subst q
      obtain rfl : u = Value.bool true := r'
      refine ⟨rfl, OldK.of_keep fun b o e => ?_, os, bare⟩
      cases q : H b with
      | none => exact un.keep b o e q (by intro z; exact absurd (show b ∈ ([] : List Addr) from z) (by simp)) (by simp)
      | some u =>
        rcases hO b with z | ⟨ob, xs, z⟩
        · rw [q] at z; cases z
        · obtain ⟨e1, _⟩ := hok b _ z
          obtain ⟨e2, _⟩ := hok' b _ (un.frzs b ob _ z)
          rw [e] at e1; cases e1
          exact e2
  cases hk : K.lookup a with
  | some o =>
    have e := KX a o hk
    rw [ha] at e
    cases e
    exact main (fun _ => none) (fun _ => .inl rfl) (.inr ⟨_, vs.toArray, _, hk, rfl, rfl, rfl, by rw [List.size_toArray, lenV]; exact hl, by simpa using rv⟩) (fun b u z => (nomatch (show (none : Option HO) = some u from z))) (fun b z => absurd rfl z) fun z => absurd rfl z
  | none =>
    refine main (fun b => if b = a then some (.frz { cls := .type "list", data := .seq vs.toArray } (.lst (ns.map V.int))) else none) (fun b => ?_) (.inl (.inr ⟨{ cls := .type "list", data := .seq vs.toArray }, if_pos rfl⟩)) (fun b u z => ?_) (fun b z => ?_) fun _ => hk
    · by_cases q : b = a
      · exact .inr ⟨_, _, if_pos q⟩
      · exact .inl (if_neg q)
    · by_cases q : b = a
      · cases (if_pos q).symm.trans z
        subst q
        exact ⟨ha, by rw [List.length_map]; exact hl, vs, _, rv, ha⟩
      · cases (if_neg q).symm.trans z
    · by_cases q : b = a
      · exact q
      · exact absurd (if_neg q) z
/-- the law's walk, from the promise of its text and the plain law -/
theorem den_walk {l : PySem.W.OpenLaw} {n k : Nat} {q : Program} {loose : List Str} {XP : (Str → Option Value) → Heap → Prop} {YP : World → Heap → Prop} {d : DefRec} {K : Params → PySem.W.Frag} {x : Str} {g : List D → Res D}
    (hn : l.most = some n) (hn2 : n ≤ sizeLine) (hdf : d.params.defaults = []) (hr : Room k callerA) (gd : callerA.guards = some [])
    (hY : ∀ (w : World) (h : Heap), YP w h → (K w.params).In h)
    (F : ∀ (w : World) (mg : Str → Option Value) (fa : Addr) (h : Heap), (K w.params).In h → h.Ns mainGlobals mg → mg d.name = some (.ref fa) →
      ∃ fd : FuncData, (∀ (s : Shared) (u : Value), BindsTo s fd ⟨[u], []⟩ [(x, u)]) ∧
        ∀ base : Heap, (K w.params).In base → base.Ns mainGlobals mg → FnG l.prog w (K w.params) mg base C8.CX0 k fa fd [x] (spD (K w.params) g))
    (good : ∀ ns : List Int, ns.length ≤ n → g [.lstC (ns.map D.int)] = .ok (.bl true)) :
    PySem.W.WalkO q loose XP YP l.row.toRowW d [] (fun f vs => PySem.call f vs) := by
  refine Att.attach_call hn hdf fun w s0 s1 mg mb fa o pm cd doc a vs ns G Y ho hd hcd hmg hobj hints hlen hg => ?_
  obtain ⟨fd, hb, hF⟩ := F w mg fa _ (hY w _ Y) G.T.g hmg
  exact den_call (hY w _ Y) G.T.g G.T.b G.T.builtins G.T.nolimit hg hobj hints (Nat.le_trans hlen hn2) hr gd hF hb (good ns hlen)
end Den

/-! DenU: the defs of a law's text, one behind the other. -/
namespace Den
open PySem PySem.Spec PyProof.Rows L2
/-- a def as the top has left it -/
structure Txt (K : PySem.W.Frag) (x : Str) (st : Stmt) : Prop where
  ex : ∃ (f : Addr) (oc : Value) (od : Option Addr) (kV doc pm : Value) (an : Option Addr) (cdv ct : Value) (osl : Array (Option Value)),
    PySem.W.nsIn K mainGlobals x = some (some (.ref f)) ∧ K.lookup f = some ⟨oc, od, .func (PySem.W.fnOf x x (C8.fnArgs st) (C8.fnBody st) (C8.fnScope st) .none kV doc pm an cdv ct), osl⟩ ∧ PySem.W.codeIn K cdv x = true ∧ PySem.W.keepIn K (.ref f) = true
theorem Txt.mk' {K : PySem.W.Frag} {x : Str} {st : Stmt} {f : Addr} {oc : Value} {od : Option Addr} {kV doc pm : Value} {an : Option Addr} {cdv ct : Value} {osl : Array (Option Value)}
    (a : PySem.W.nsIn K mainGlobals x = some (some (.ref f))) (l : K.lookup f = some ⟨oc, od, .func (PySem.W.fnOf x x (C8.fnArgs st) (C8.fnBody st) (C8.fnScope st) .none kV doc pm an cdv ct), osl⟩)
    (c : PySem.W.codeIn K cdv x = true) (k : PySem.W.keepIn K (.ref f) = true) : Txt K x st := ⟨f, oc, od, kV, doc, pm, an, cdv, ct, osl, a, l, c, k⟩
/-- no name of the module hides a built-in -/
def Clear (K : PySem.W.Frag) : Prop := ∀ y ∈ bltN, PySem.W.nsIn K mainGlobals y = some none
theorem Clear.mk {K : PySem.W.Frag} (a1 : PySem.W.nsIn K mainGlobals "len" = some none) (a2 : PySem.W.nsIn K mainGlobals "abs" = some none) (a3 : PySem.W.nsIn K mainGlobals "int" = some none) (a4 : PySem.W.nsIn K mainGlobals "repr" = some none)
    (a5 : PySem.W.nsIn K mainGlobals "tuple" = some none) (a6 : PySem.W.nsIn K mainGlobals "list" = some none) (a7 : PySem.W.nsIn K mainGlobals "max" = some none) (a8 : PySem.W.nsIn K mainGlobals "min" = some none)
    (a9 : PySem.W.nsIn K mainGlobals "sum" = some none) (b1 : PySem.W.nsIn K mainGlobals "any" = some none) (b2 : PySem.W.nsIn K mainGlobals "all" = some none) (b3 : PySem.W.nsIn K mainGlobals "isinstance" = some none)
    (b4 : PySem.W.nsIn K mainGlobals "range" = some none) (b5 : PySem.W.nsIn K mainGlobals "str" = some none) (b6 : PySem.W.nsIn K mainGlobals "bool" = some none) (b7 : PySem.W.nsIn K mainGlobals "reversed" = some none)
    (b8 : PySem.W.nsIn K mainGlobals "enumerate" = some none) (b9 : PySem.W.nsIn K mainGlobals "zip" = some none) : Clear K := by
  intro y hy
  simp only [bltN, List.mem_cons, List.not_mem_nil, or_false] at hy
  rcases hy with h | h | h | h | h | h | h | h | h | h | h | h | h | h | h | h | h | h <;> subst h <;> assumption
section
variable {P : Program} {w : World} {K : PySem.W.Frag} {mg : Str → Option Value} {base : Heap}
/-- the first defs, under their names -/
inductive Gots (P : Program) (w : World) (K : PySem.W.Frag) (mg : Str → Option Value) (base : Heap) (k : Nat) : List Str → List (List D → Res D) → Prop
  | nil (xs : List Str) : Gots P w K mg base k xs []
  | cons {x : Str} {xs : List Str} {g : List D → Res D} {gs : List (List D → Res D)} : Got P w K mg base k x g → Gots P w K mg base k xs gs → Gots P w K mg base k (x :: xs) (g :: gs)
theorem Gots.get {k : Nat} : ∀ {xs : List Str} {gs : List (List D → Res D)}, Gots P w K mg base k xs gs → ∀ (f : Nat) (g : List D → Res D) (y : Str), gs[f]? = some g → xs[f]? = some y → Got P w K mg base k y g
  | _, _, .nil _, f, g, y, h, _ => by simp at h
  | _, _, .cons a r, 0, g, y, h, h2 => by
    simp at h h2
    subst h h2
    exact a
  | _, _, .cons a r, f + 1, g, y, h, h2 => r.get f g y (by simpa using h) (by simpa using h2)
theorem Gots.snoc {j k : Nat} (hk : j ≤ k) {x : Str} {g : List D → Res D} (n : Got P w K mg base k x g) : ∀ {xs : List Str} {gs : List (List D → Res D)}, Gots P w K mg base j xs gs → xs[gs.length]? = some x → Gots P w K mg base k xs (gs ++ [g])
  | xs, _, .nil _, h => by
    cases xs with
    | nil => simp at h
    | cons y ys =>
      simp at h
      subst h
      exact .cons n (.nil _)
  | _, _, .cons a r, h => .cons (a.later hk) (Gots.snoc hk n r (by simpa using h))
variable {h : Heap}
theorem fn_step (KX : K.In h) (G : h.Ns mainGlobals mg) {x : Str} {st : Stmt} {N ps fns : List Str} {ss : Ss} {gs : List (List D → Res D)} {k fuel : Nat} (T : Txt K x st) (cl : Clear K) (S : C8.scC N ps (C8.fnScope st) = true)
    (bd : ∀ (kV doc pm : Value) (an : Option Addr) (cdv ct : Value) (us : List Value), us.length = ps.length → bindArgs (PySem.W.fnOf x x (C8.fnArgs st) (C8.fnBody st) (C8.fnScope st) .none kV doc pm an cdv ct) ⟨us, []⟩ = pure (ps.zip us))
    (ck : chSs fns ss ⟨N, C8.fnScope st, stoB (C8.fnScope st)⟩ (C8.fnBody st) = true) (gg : Gots P w K mg base k fns gs) :
    ∃ fa fd, mg x = some (.ref fa) ∧ PySem.W.keepIn K (.ref fa) = true ∧ (∀ (s : Shared) (us : List Value), us.length = ps.length → BindsTo s fd ⟨us, []⟩ (ps.zip us)) ∧ FnG P w K mg base C8.CX0 (k + 1) fa fd ps (spD K (run ⟨fun i => gs[i]?, fuel⟩ ss ps.length N.length)) := by
  obtain ⟨f, oc, od, kV, doc, pm, an, cdv, ct, osl, a, l, c, kp⟩ := T.ex
  refine ⟨f, _, PySem.W.mg_of KX G a, kp, fun s us hl => .of_eq (bd kV doc pm an cdv ct us hl), ?_⟩
  exact den_def ⟨⟨oc, od, .none, kV, doc, pm, an, cdv, ct, osl, rfl, l, c⟩⟩ (C8.fnScope_by S) ck (fun f g y h1 h2 => gg.get f g y h1 h2) (fun y hy => PySem.W.mg_none_of KX G (cl y hy))
theorem den_step (KX : K.In h) (G : h.Ns mainGlobals mg) {x : Str} {st : Stmt} {N ps fns : List Str} {ss : Ss} {gs : List (List D → Res D)} {k fuel : Nat} (T : Txt K x st) (cl : Clear K) (S : C8.scC N ps (C8.fnScope st) = true)
    (bd : ∀ (kV doc pm : Value) (an : Option Addr) (cdv ct : Value) (us : List Value), us.length = ps.length → bindArgs (PySem.W.fnOf x x (C8.fnArgs st) (C8.fnBody st) (C8.fnScope st) .none kV doc pm an cdv ct) ⟨us, []⟩ = pure (ps.zip us))
    (ck : chSs fns ss ⟨N, C8.fnScope st, stoB (C8.fnScope st)⟩ (C8.fnBody st) = true) (nx : fns[gs.length]? = some x) (gg : Gots P w K mg base k fns gs) :
    Gots P w K mg base (k + 1) fns (gs ++ [run ⟨fun i => gs[i]?, fuel⟩ ss ps.length N.length]) := by
  obtain ⟨fa, fd, m, kp, b, F⟩ := fn_step (fuel := fuel) KX G T cl S bd ck gg
  exact gg.snoc (Nat.le_succ k) ⟨fa, fd, ps, F, m, kp, fun s us _ hl => by
    rw [List.append_nil] at hl ⊢
    exact b s us hl⟩ nx
/-- the law's own def -/
theorem den_last (KX : K.In h) (G : h.Ns mainGlobals mg) {x y : Str} {st : Stmt} {N fns : List Str} {ss : Ss} {gs : List (List D → Res D)} {k fuel : Nat} {fa : Addr} (hfa : mg x = some (.ref fa)) (T : Txt K x st) (cl : Clear K) (S : C8.scC N [y] (C8.fnScope st) = true)
    (bd : ∀ (kV doc pm : Value) (an : Option Addr) (cdv ct : Value) (us : List Value), us.length = [y].length → bindArgs (PySem.W.fnOf x x (C8.fnArgs st) (C8.fnBody st) (C8.fnScope st) .none kV doc pm an cdv ct) ⟨us, []⟩ = pure ([y].zip us))
    (ck : chSs fns ss ⟨N, C8.fnScope st, stoB (C8.fnScope st)⟩ (C8.fnBody st) = true) (gg : ∀ base : Heap, K.In base → base.Ns mainGlobals mg → Gots P w K mg base k fns gs) :
    ∃ fd : FuncData, (∀ (s : Shared) (u : Value), BindsTo s fd ⟨[u], []⟩ [(y, u)]) ∧ ∀ base : Heap, K.In base → base.Ns mainGlobals mg → FnG P w K mg base C8.CX0 (k + 1) fa fd [y] (spD K (run ⟨fun i => gs[i]?, fuel⟩ ss 1 N.length)) := by
  obtain ⟨f, oc, od, kV, doc, pm, an, cdv, ct, osl, a, l, c, kp⟩ := T.ex
  cases hfa.symm.trans (PySem.W.mg_of KX G a)
  refine ⟨_, fun s u => .of_eq (bd kV doc pm an cdv ct [u] rfl), fun base hK hN => ?_⟩
  exact den_def ⟨⟨oc, od, .none, kV, doc, pm, an, cdv, ct, osl, rfl, l, c⟩⟩ (C8.fnScope_by S) ck (fun f g y h1 h2 => (gg base hK hN).get f g y h1 h2) (fun y hy => PySem.W.mg_none_of hK hN (cl y hy))
end
end Den

/-! PlA: plain rules for the small language. -/
namespace Den
open PySem L2
/-! ### results -/
/-- as Good, and not looked through -/
structure Gd {α : Type} (r : Res α) (P : α → Prop) : Prop where
  of : Good r P
theorem Gd.mono {α : Type} {r : Res α} {P Q : α → Prop} (h : Gd r P) (f : ∀ a, P a → Q a) : Gd r Q := ⟨h.of.mono f⟩
theorem Gd.bindI {α β : Type} {r : Res α} {f : α → Res β} {P : β → Prop} (h : Gd r fun a => Gd (f a) P) : Gd (r.bind f) P := by
  obtain ⟨h⟩ := h
  cases r with
  | ok a => exact h
  | exc c fs => exact h.elim
  | bad => exact h.elim
theorem Gd.ok_eq {α : Type} {r : Res α} {b : α} (h : Gd r fun a => a = b) : r = .ok b := by
  obtain ⟨h⟩ := h
  cases r with
  | ok a => exact congrArg Res.ok h
  | exc c fs => exact h.elim
  | bad => exact h.elim
theorem Gd.ex {α : Type} {r : Res α} {P : α → Prop} (h : Gd r P) : ∃ a, r = .ok a ∧ P a := by
  obtain ⟨h⟩ := h
  cases r with
  | ok a => exact ⟨a, rfl, h⟩
  | exc c fs => exact h.elim
  | bad => exact h.elim
theorem Gd_ok {α : Type} (a : α) (P : α → Prop) : Gd (.ok a) P = P a := propext ⟨fun h => h.of, fun h => ⟨h⟩⟩
theorem Gd_bad {α : Type} (P : α → Prop) : Gd (.bad : Res α) P = False := propext ⟨fun h => h.of.elim, fun h => h.elim⟩
/-! ### loops -/
/-- for, by what holds ahead of the i-th item -/
theorem Gd.for {bnd : D → En → Res En} {body : En → Res Out} {P : Out → Prop} (I : Nat → En → Prop) (Z : En → Prop) : ∀ (ds : List D) (j : Nat) (ρ : En), I j ρ →
    (∀ i (hi : i < ds.length) ρ, I (j + i) ρ → Gd (bnd ds[i] ρ) fun ρ1 => Gd (body ρ1) fun o => match o with
      | .nx ρ2 => I (j + i + 1) ρ2 | .ct ρ2 => I (j + i + 1) ρ2 | .bk ρ2 => P (.nx ρ2) | .rt d ρ2 => P (.rt d ρ2)) →
    (∀ ρ, I (j + ds.length) ρ → P (.nx ρ)) → Gd (forD bnd body ds ρ) P
  | [], j, ρ, h0, _, fin => ⟨fin ρ (by simpa using h0)⟩
  | d :: ds, j, ρ, h0, step, fin => by
    unfold forD
    have s0 := step 0 (by simp) ρ (by simpa using h0)
    refine Gd.bindI ((show Gd (bnd d ρ) _ from s0).mono fun ρ1 s1 => Gd.bindI (Gd.mono s1 fun o s2 => ?_))
    have next : ∀ ρ2, I (j + 0 + 1) ρ2 → Gd (forD bnd body ds ρ2) P := fun ρ2 h2 => Gd.for I Z ds (j + 1) ρ2 (by simpa using h2)
      (fun i hi ρ3 h3 => by
        have q := step (i + 1) (by simpa using hi) ρ3 (by rw [show j + (i + 1) = j + 1 + i by omega]; exact h3)
        rw [show j + (i + 1) = j + 1 + i by omega] at q
        simpa using q)
      (fun ρ3 h3 => fin ρ3 (by rw [List.length_cons, show j + (ds.length + 1) = j + 1 + ds.length by omega]; exact h3))
    cases o with
    | nx ρ2 => exact next ρ2 s2
    | ct ρ2 => exact next ρ2 s2
    | bk ρ2 => exact ⟨s2⟩
    | rt d ρ2 => exact ⟨s2⟩
/-- .. by the items alone -/
theorem Gd.forM {bnd : D → En → Res En} {body : En → Res Out} {P : Out → Prop} (I : En → Prop) {ds : List D} {ρ : En} (h0 : I ρ)
    (step : ∀ d ∈ ds, ∀ ρ, I ρ → Gd (bnd d ρ) fun ρ1 => Gd (body ρ1) fun o => match o with
      | .nx ρ2 => I ρ2 | .ct ρ2 => I ρ2 | .bk ρ2 => P (.nx ρ2) | .rt d ρ2 => P (.rt d ρ2))
    (fin : ∀ ρ, I ρ → P (.nx ρ)) : Gd (forD bnd body ds ρ) P :=
  Gd.for (fun _ => I) (fun _ => True) ds 0 ρ h0 (fun i hi ρ h => step _ (List.getElem_mem hi) ρ h) fin
theorem mapD_map {α : Type} (f : D → Res (Option D)) (a b : α → D) : ∀ xs : List α, (∀ x ∈ xs, f (a x) = .ok (some (b x))) → mapD f (xs.map a) = .ok (xs.map b)
  | [], _ => rfl
  | x :: xs, h => by
    rw [List.map_cons, List.map_cons]
    unfold mapD
    rw [h x (List.mem_cons_self ..), mapD_map f a b xs fun y hy => h y (List.mem_cons_of_mem _ hy)]
    rfl
/-! ### a step at a time, what follows out of sight -/
theorem g_run {Γ : Cn} {body : Ss} {np n : Nat} {ds : List D} {P : D → Prop} (ρ : En) (hn : ds.length = np) (e : ds.map .val ++ List.replicate (n - np) .un = ρ) (h : Gd (evSs Γ body ρ) fun o => match o with | .nx _ => P .non | .rt d _ => P d | _ => False) : Gd (run Γ body np n ds) P := by
  unfold run
  rw [if_pos hn, e]
  refine Gd.bindI (h.mono fun o k => ?_)
  cases o <;> first | exact ⟨k⟩ | exact k.elim
theorem g_cons {Γ : Cn} {s : S} {ss : Ss} {ρ : En} {P : Out → Prop} (h : ∀ K : Out → Prop, (∀ ρ1, Gd (evSs Γ ss ρ1) P → K (.nx ρ1)) → (∀ d ρ1, P (.rt d ρ1) → K (.rt d ρ1)) → (∀ ρ1, P (.bk ρ1) → K (.bk ρ1)) → (∀ ρ1, P (.ct ρ1) → K (.ct ρ1)) → Gd (evS Γ s ρ) K) : Gd (evSs Γ (.cons s ss) ρ) P := by
  simp only [evSs]
  refine Gd.bindI (Gd.mono (h (fun o => match o with | .nx ρ1 => Gd (evSs Γ ss ρ1) P | o => P o) (fun ρ1 k => k) (fun d ρ1 k => k) (fun ρ1 k => k) (fun ρ1 k => k)) fun o k => ?_)
  cases o <;> first | exact k | exact ⟨k⟩
theorem g_nil {Γ : Cn} {ρ : En} {P : Out → Prop} (h : P (.nx ρ)) : Gd (evSs Γ .nil ρ) P := by
  simp only [evSs]
  exact ⟨h⟩
theorem g_fz {Γ : Cn} {is : List Nat} {ss : Ss} {ρ : En} {P : Out → Prop} (h : Gd (evSs Γ ss (fz ρ is)) P) : Gd (evSs Γ (.fz is ss) ρ) P := by
  simp only [evSs]
  exact h
theorem eS_nil (Γ : Cn) (ρ : En) : evSs Γ .nil ρ = .ok (.nx ρ) := by simp only [evSs]
/-! ### items -/
theorem ixN_pos {n : Nat} {i : Int} (h0 : 0 ≤ i) (h1 : i < n) : L2.ixN n i = some i.toNat := by
  unfold L2.ixN
  rw [if_pos h0, if_pos h1]
theorem atD_pos {α β : Type} (f : α → β) (xs : List α) {i : Int} (h0 : 0 ≤ i) (h1 : i < xs.length) : atD (xs.map f) i = some (f (xs[i.toNat]'(by omega))) := by
  unfold atD L2.atI
  rw [List.length_map, ixN_pos h0 h1]
  show (xs.map f)[i.toNat]? = _
  rw [List.getElem?_map, List.getElem?_eq_getElem (by omega)]
  rfl
theorem bT_nm (i : Nat) (d : D) (ρ : En) : bindT (.nm i) d ρ = .ok (ρ.set i (.val d)) := by simp only [bindT]
theorem bT_tp (ts : List Tg) (ds : List D) (ρ : En) : bindT (.tp ts) (.tup ds) ρ = bindTs ts ds ρ := by simp only [bindT]
theorem bTs_nil (ρ : En) : bindTs [] [] ρ = .ok ρ := by simp only [bindTs]
theorem bTs_cons (t : Tg) (ts : List Tg) (d : D) (ds : List D) (ρ : En) : bindTs (t :: ts) (d :: ds) ρ = (bindT t d ρ).bind (bindTs ts ds) := by simp only [bindTs]
theorem atD_neg {α β : Type} (f : α → β) (xs : List α) {l : α} (h : xs.getLast? = some l) : atD (xs.map f) (-1) = some (f l) := by
  have pos : xs ≠ [] := fun e => by rw [e] at h; cases h
  have len : 0 < xs.length := List.length_pos_iff.mpr pos
  unfold atD L2.atI L2.ixN
  rw [List.length_map, if_neg (by decide), if_pos (by omega)]
  show (xs.map f)[((-1 : Int) + xs.length).toNat]? = _
  rw [List.getLast?_eq_getElem?] at h
  rw [List.getElem?_map, show ((-1 : Int) + xs.length).toNat = xs.length - 1 by omega, h]
  rfl
/-! ### operations, at known forms -/
theorem ix_L (xs : List D) (i : Int) : sIdx (.lst xs) (.int i) = oR (atD xs i) := id rfl
theorem ix_T (xs : List D) (i : Int) : sIdx (.tup xs) (.int i) = oR (atD xs i) := id rfl
theorem ix_LC (xs : List D) (i : Int) : sIdx (.lstC xs) (.int i) = oR (atD xs i) := id rfl
theorem oR_some (d : D) : oR (some d) = .ok d := id rfl
theorem ln_L (xs : List D) : sLen (.lst xs) = .ok (.int xs.length) := id rfl
theorem ln_T (xs : List D) : sLen (.tup xs) = .ok (.int xs.length) := id rfl
theorem ln_LC (xs : List D) : sLen (.lstC xs) = .ok (.int xs.length) := id rfl
theorem ct_L (lo hi : Option Int) (xs : List D) : sCut lo hi (.lst xs) = .ok (.lst (cutD xs lo hi)) := id rfl
theorem ct_T (lo hi : Option Int) (xs : List D) : sCut lo hi (.tup xs) = .ok (.tup (cutD xs lo hi)) := id rfl
theorem in_ii (f : Int → Int → Res D) (i j : Int) : sInt f (.int i) (.int j) = f i j := id rfl
theorem ad_I (i j : Int) : sAdd (.int i) (.int j) = .ok (.int (i + j)) := id rfl
theorem ad_L (x y : List D) : sAdd (.lst x) (.lst y) = if x.length + y.length ≤ sizeLine then .ok (.lst (x ++ y)) else .bad := id rfl
theorem ad_T (x y : List D) : sAdd (.tup x) (.tup y) = if x.length + y.length ≤ sizeLine then .ok (.tup (x ++ y)) else .bad := id rfl
theorem rp_I (i j : Int) : sRep (.int i) (.int j) = fMul i j := id rfl
theorem ti_I (i : Int) : sToInt (.int i) = .ok (.int i) := id rfl
theorem ab_I (i : Int) : sAbs (.int i) = .ok (.int (if i < 0 then -i else i)) := id rfl
theorem ng_I (i : Int) : sNeg (.int i) = .ok (.int (-i)) := id rfl
theorem tl_L (xs : List D) : sToLst (.lst xs) = .ok (.lst xs) := id rfl
theorem tl_T (xs : List D) : sToLst (.tup xs) = .ok (.lst xs) := id rfl
theorem tt_L (xs : List D) : sToTup (.lst xs) = .ok (.tup xs) := id rfl
theorem tt_T (xs : List D) : sToTup (.tup xs) = .ok (.tup xs) := id rfl
theorem tr_B (b : Bool) : truth (.bl b) = .ok b := id rfl
theorem bq_B (b : Bool) : bl? (.bl b) = .ok b := id rfl
theorem ib_B (n a b : Bool) : sIsBl n (.bl a) (.bl b) = .ok (.bl (if n then !decide (a = b) else decide (a = b))) := id rfl
theorem fm_1 (i j : Int) (h : intOk j = true) : fMul i j = .ok (.int (i * j)) := by simp [fMul, h]
theorem fm_2 (i j : Int) (h : intOk i = true) : fMul i j = .ok (.int (i * j)) := by simp [fMul, h]
theorem it_L (xs : List D) : items .plain [.lst xs] = .ok xs := id rfl
theorem it_T (xs : List D) : items .plain [.tup xs] = .ok xs := id rfl
theorem it_R (n : Int) (h : rngOk n = true) : items .range1 [.int n] = .ok ((List.range n.toNat).map fun k => .int (k : Nat)) := by simp [items, h]
theorem rng_len (n : Nat) (h : n < 1000000) : rngOk (n : Int) = true := decide_eq_true (by omega)
theorem plain_int (i : Int) : Den.plain (.int i) = true := by simp [Den.plain, toPy, SeqAt.shaped, PyData.canLay0, PyData.depth]
theorem plain_bl (b : Bool) : Den.plain (.bl b) = true := by simp [Den.plain, toPy, SeqAt.shaped, PyData.canLay0, PyData.depth]
theorem eqD_int (a b : Int) : eqD (.int a) (.int b) = decide (a = b) := by
  simp only [eqD, toPy, PyData.eqv]
  exact Bool.eq_iff_iff.mpr (by simp)
theorem eq_int (a b : Int) : sEq false (.int a) (.int b) = .ok (.bl (decide (a = b))) := by simp [sEq, plain_int, eqD_int]
theorem ne_int (a b : Int) : sEq true (.int a) (.int b) = .ok (.bl (!decide (a = b))) := by simp [sEq, plain_int, eqD_int]
theorem in_dct {a : D} {k : List L2.Key} (h : keyT a = some k) (kvs : List (D × D)) : sIn false a (.dct kvs) = .ok (.bl (kvs.any fun p => decide (keyT p.1 = keyT a))) := by
  simp [sIn, h]
section
variable (Γ : Cn) (ρ : En)
theorem eE_var (i : Nat) : evE Γ (.var i) ρ = rd false ρ i := by simp only [evE]
theorem eE_con (d : D) : evE Γ (.con d) ρ = .ok d := by simp only [evE]
theorem eE_op (o : O) (es : Es) : evE Γ (.op o es) ρ = (evEs Γ o.borrows es ρ).bind o.sem := by simp only [evE]
theorem eE_and (a b : E) : evE Γ (.andE a b) ρ = (evE Γ a ρ).bind fun x => (bl? x).bind fun k => if k then evE Γ b ρ else .ok (.bl false) := by simp only [evE]
theorem eE_or (a b : E) : evE Γ (.orE a b) ρ = (evE Γ a ρ).bind fun x => (bl? x).bind fun k => if k then .ok (.bl true) else evE Γ b ρ := by simp only [evE]
theorem eE_not (a : E) : evE Γ (.notE a) ρ = (evE Γ a ρ).bind fun x => (truth x).bind fun k => .ok (.bl (!k)) := by simp only [evE]
theorem eE_ite (c : C) (a b : E) : evE Γ (.ite c a b) ρ = (evC Γ c ρ).bind fun k => if k then evE Γ a ρ else evE Γ b ρ := by simp only [evE]
theorem eE_chain (o1 o2 : O) (a b c : E) : evE Γ (.chain o1 o2 a b c) ρ = (evE Γ a ρ).bind fun x => (evE Γ b ρ).bind fun y => (o1.sem [x, y]).bind fun r => (bl? r).bind fun k => if k then (evE Γ c ρ).bind fun z => o2.sem [y, z] else .ok (.bl false) := by simp only [evE]
theorem eE_call (f : Nat) (es : Es) : evE Γ (.call f es) ρ = (evEs Γ false es ρ).bind fun ds => match Γ.fn f with | some g => g ds | none => .bad := by
  simp only [evE]
  try rfl
theorem eE_callB (f : Nat) (es : Es) : evE Γ (.callB f es) ρ = (evEs Γ true es ρ).bind fun ds => match Γ.fn f with | some g => (g ds).bind fun d => if flat d then .ok d else .bad | none => .bad := by
  simp only [evE]
  try rfl
theorem eE_dcT (own : List Nat) (tg : Tg) (k : IK) (src : Es) (key val : E) : evE Γ (.dcT own tg k src key val) ρ = (evEs Γ true src ρ).bind fun ds => (items k ds).bind fun xs =>
      (dcD (fun x => (bindT tg x (wipeE ρ own)).bind fun ρ1 => (evE Γ key ρ1).bind fun y => (evE Γ val ρ1).bind fun z => .ok (y, z)) xs []).bind fun out => .ok (.dct out) := by simp only [evE]
end
/-! ### a comprehension that keeps every item -/
theorem lc_ok {Γ : Cn} {own : List Nat} {tg : Tg} {k : IK} {src : Es} {c : C} {elt : E} {ρ : En} {α : Type} (as : List α) (f b : α → D) {ds : List D} (hs : evEs Γ true src ρ = .ok ds) (hi : items k ds = .ok (as.map f)) (len : as.length ≤ sizeLine)
    (h : ∀ a ∈ as, ((bindT tg (f a) (wipeE ρ own)).bind fun ρ1 => (evC Γ c ρ1).bind fun k => if k = true then (evE Γ elt ρ1).bind fun y => .ok (some y) else .ok none) = .ok (some (b a))) :
    evE Γ (.lc own tg k src c elt) ρ = .ok (.lst (as.map b)) := by
  rw [evE, hs, Res.bind_ok, hi, Res.bind_ok, mapD_map _ f b as h, Res.bind_ok, if_pos (by rw [List.length_map]; exact len)]
end Den

namespace K32
open PySem PySem.Spec PyProof.Rows L2 Den
def top (i : Nat) : Stmt := PySem.Challenge.pw_neverdrivendark_k32_rings_judged.main.body.getD i (.Pass ⟨0, 0, 0, 0⟩)
def fns : List Str := ["is_told", "shows_ring", "_law_cell", "_law_numbers", "_law_same", "_law_fitting_rows", "_law_planted_ring", "_law_closes", "_law_is_judged", "_law_scaled", "_law_hop", "_law_turned", "_law_opened", "_law_put", "_law_papers", "_law_long", "_law_long_is_judged", "law"]
/-! is_told -/
def s0 : Ss := (.cons (.asg (.tp [(.nm 3), (.nm 4), (.nm 5)]) (.var 2))
    (.cons (.ret (.orE (.op .isIn (.cons (.var 2) (.cons (.var 1) .nil))) (.andE (.op .eq (.cons (.var 3) (.cons (.con (.int 0)) .nil))) (.andE (.op .eq (.cons (.var 5) (.cons (.con (.int 0)) .nil))) (.chain .le .lt (.con (.int 0)) (.var 4) (.var 0))))))
    .nil))
def N0 : List Str := ["count", "told", "row", "first", "second", "bound"]
theorem sc0 : C8.scC N0 ["count", "told", "row"] (C8.fnScope (top 1)) = true := by decide +kernel
theorem ck0 : chSs fns s0 ⟨N0, C8.fnScope (top 1), stoB (C8.fnScope (top 1))⟩ (C8.fnBody (top 1)) = true := by decide +kernel
theorem bd0 : ∀ (kV doc pm : Value) (an : Option Addr) (cdv ct : Value) (us : List Value), us.length = (["count", "told", "row"] : List Str).length → bindArgs (PySem.W.fnOf "is_told" "is_told" (C8.fnArgs (top 1)) (C8.fnBody (top 1)) (C8.fnScope (top 1)) .none kV doc pm an cdv ct) ⟨us, []⟩ = pure ((["count", "told", "row"] : List Str).zip us) :=
  fun _ _ _ _ _ _ us hl => match us, hl with | [_, _, _], _ => rfl
def g0 : List D → Res D := run ⟨fun i => ([] : List (List D → Res D))[i]?, 100000⟩ s0 3 6
/-! shows_ring -/
def s1 : Ss := (.cons (.ite (.tr (.op .eq (.cons (.op .len (.cons (.var 2) .nil)) (.cons (.con (.int 0)) .nil)))) (.cons (.ret (.con (.bl false)))
    .nil) .nil)
    (.cons (.own 3 (.dcT [6] (.nm 6) .plain (.cons (.var 1) .nil) (.var 6) (.con (.bl true))))
    (.fz [3] (.cons (.asg (.nm 4) (.con (.int 0)))
    (.cons (.asg (.nm 5) (.op .idx (.cons (.op .idx (.cons (.var 2) (.cons (.op .neg (.cons (.con (.int 1)) .nil)) .nil))) (.cons (.con (.int 1)) .nil))))
    (.cons (.for_ (.nm 6) .plain (.cons (.var 2) .nil) (.cons (.ite (.or (.tr (.op .ne (.cons (.op .idx (.cons (.var 6) (.cons (.con (.int 0)) .nil))) (.cons (.var 5) .nil)))) (.not (.tr (.call 0 (.cons (.var 0) (.cons (.var 3) (.cons (.var 6) .nil))))))) (.cons (.ret (.con (.bl false)))
    .nil) .nil)
    (.cons (.asg (.nm 5) (.op .idx (.cons (.var 6) (.cons (.con (.int 1)) .nil))))
    (.cons (.aug 4 .add (.op .idx (.cons (.var 6) (.cons (.con (.int 2)) .nil))))
    .nil))))
    (.cons (.ret (.op .lt (.cons (.var 4) (.cons (.con (.int 0)) .nil))))
    .nil)))))))
def N1 : List Str := ["count", "rows", "ring", "told", "total", "at", "row"]
theorem sc1 : C8.scC N1 ["count", "rows", "ring"] (C8.fnScope (top 2)) = true := by decide +kernel
theorem ck1 : chSs fns s1 ⟨N1, C8.fnScope (top 2), stoB (C8.fnScope (top 2))⟩ (C8.fnBody (top 2)) = true := by decide +kernel
theorem bd1 : ∀ (kV doc pm : Value) (an : Option Addr) (cdv ct : Value) (us : List Value), us.length = (["count", "rows", "ring"] : List Str).length → bindArgs (PySem.W.fnOf "shows_ring" "shows_ring" (C8.fnArgs (top 2)) (C8.fnBody (top 2)) (C8.fnScope (top 2)) .none kV doc pm an cdv ct) ⟨us, []⟩ = pure ((["count", "rows", "ring"] : List Str).zip us) :=
  fun _ _ _ _ _ _ us hl => match us, hl with | [_, _, _], _ => rfl
def g1 : List D → Res D := run ⟨fun i => ([g0] : List (List D → Res D))[i]?, 100000⟩ s1 3 7
/-! _law_cell -/
def s2 : Ss := (.cons (.ite (.tr (.op .lt (.cons (.var 1) (.cons (.op .len (.cons (.var 0) .nil)) .nil)))) (.cons (.ret (.op .idx (.cons (.var 0) (.cons (.var 1) .nil))))
    .nil) .nil)
    (.cons (.ret (.con (.int 0)))
    .nil))
def N2 : List Str := ["script", "k"]
theorem sc2 : C8.scC N2 ["script", "k"] (C8.fnScope (top 4)) = true := by decide +kernel
theorem ck2 : chSs fns s2 ⟨N2, C8.fnScope (top 4), stoB (C8.fnScope (top 4))⟩ (C8.fnBody (top 4)) = true := by decide +kernel
theorem bd2 : ∀ (kV doc pm : Value) (an : Option Addr) (cdv ct : Value) (us : List Value), us.length = (["script", "k"] : List Str).length → bindArgs (PySem.W.fnOf "_law_cell" "_law_cell" (C8.fnArgs (top 4)) (C8.fnBody (top 4)) (C8.fnScope (top 4)) .none kV doc pm an cdv ct) ⟨us, []⟩ = pure ((["script", "k"] : List Str).zip us) :=
  fun _ _ _ _ _ _ us hl => match us, hl with | [_, _], _ => rfl
def g2 : List D → Res D := run ⟨fun i => ([g0, g1] : List (List D → Res D))[i]?, 100000⟩ s2 2 2
/-! _law_numbers -/
def s3 : Ss := (.cons (.own 2 (.op .mkLst .nil))
    (.cons (.asg (.nm 3) (.op .abs (.cons (.var 0) .nil)))
    (.cons (.for_ (.nm 4) .range1 (.cons (.var 1) .nil) (.cons (.ite (.and (.tr (.op .ge (.cons (.op .abs (.cons (.var 0) .nil)) (.cons (.op .pow (.cons (.con (.int 10)) (.cons (.con (.int 18)) .nil))) .nil)))) (.tr (.op .gt (.cons (.var 3) (.cons (.con (.int 0)) .nil))))) (.cons (.mut .append 2 (.cons (.op .mod (.cons (.op .toInt (.cons (.var 3) .nil)) (.cons (.con (.int 1009)) .nil))) .nil))
    (.cons (.asg (.nm 3) (.op .fdiv (.cons (.var 3) (.cons (.con (.int 1009)) .nil))))
    .nil)) (.cons (.asg (.nm 5) (.op .mod (.cons (.op .toInt (.cons (.op .add (.cons (.op .mul (.cons (.op .abs (.cons (.var 0) .nil)) (.cons (.con (.int 48271)) .nil))) (.cons (.op .mul (.cons (.op .add (.cons (.var 4) (.cons (.con (.int 1)) .nil))) (.cons (.con (.int 69621)) .nil))) .nil))) .nil)) (.cons (.con (.int 2147483647)) .nil))))
    (.cons (.asg (.nm 6) (.op .mod (.cons (.op .toInt (.cons (.op .add (.cons (.op .add (.cons (.op .mul (.cons (.op .abs (.cons (.var 0) .nil)) (.cons (.con (.int 16807)) .nil))) (.cons (.op .mul (.cons (.op .mul (.cons (.op .add (.cons (.var 4) (.cons (.con (.int 1)) .nil))) (.cons (.op .add (.cons (.var 4) (.cons (.con (.int 3)) .nil))) .nil))) (.cons (.con (.int 40692)) .nil))) .nil))) (.cons (.con (.int 12345)) .nil))) .nil)) (.cons (.con (.int 2147483399)) .nil))))
    (.cons (.asg (.nm 7) (.op .mod (.cons (.op .toInt (.cons (.op .add (.cons (.op .add (.cons (.op .mul (.cons (.var 5) (.cons (.var 6) .nil))) (.cons (.op .fdiv (.cons (.var 5) (.cons (.con (.int 7)) .nil))) .nil))) (.cons (.op .fdiv (.cons (.var 6) (.cons (.con (.int 11)) .nil))) .nil))) .nil)) (.cons (.con (.int 2147483629)) .nil))))
    (.cons (.asg (.nm 7) (.op .mod (.cons (.op .toInt (.cons (.op .add (.cons (.op .mul (.cons (.var 7) (.cons (.con (.int 48271)) .nil))) (.cons (.op .mul (.cons (.op .fdiv (.cons (.var 7) (.cons (.con (.int 65536)) .nil))) (.cons (.con (.int 7)) .nil))) .nil))) .nil)) (.cons (.con (.int 2147483647)) .nil))))
    (.cons (.mut .append 2 (.cons (.op .mod (.cons (.op .toInt (.cons (.op .fdiv (.cons (.var 7) (.cons (.con (.int 16)) .nil))) .nil)) (.cons (.con (.int 1009)) .nil))) .nil))
    .nil))))))
    .nil))
    (.fz [2] (.cons (.ret (.var 2))
    .nil)))))
def N3 : List Str := ["cell", "count", "numbers", "rest", "k", "one", "two", "mixed"]
theorem sc3 : C8.scC N3 ["cell", "count"] (C8.fnScope (top 5)) = true := by decide +kernel
theorem ck3 : chSs fns s3 ⟨N3, C8.fnScope (top 5), stoB (C8.fnScope (top 5))⟩ (C8.fnBody (top 5)) = true := by decide +kernel
theorem bd3 : ∀ (kV doc pm : Value) (an : Option Addr) (cdv ct : Value) (us : List Value), us.length = (["cell", "count"] : List Str).length → bindArgs (PySem.W.fnOf "_law_numbers" "_law_numbers" (C8.fnArgs (top 5)) (C8.fnBody (top 5)) (C8.fnScope (top 5)) .none kV doc pm an cdv ct) ⟨us, []⟩ = pure ((["cell", "count"] : List Str).zip us) :=
  fun _ _ _ _ _ _ us hl => match us, hl with | [_, _], _ => rfl
def g3 : List D → Res D := run ⟨fun i => ([g0, g1, g2] : List (List D → Res D))[i]?, 100000⟩ s3 2 8
/-! _law_same -/
def s4 : Ss := (.cons (.ite (.and (.tr (.op .isTup (.cons (.var 1) .nil))) (.not (.tr (.op .isTup (.cons (.var 0) .nil))))) (.cons (.ret (.con (.bl false)))
    .nil) .nil)
    (.cons (.ite (.and (.tr (.op .isLst (.cons (.var 1) .nil))) (.not (.tr (.op .isLst (.cons (.var 0) .nil))))) (.cons (.ret (.con (.bl false)))
    .nil) .nil)
    (.cons (.ite (.and (.tr (.op .isStr (.cons (.var 1) .nil))) (.not (.tr (.op .isStr (.cons (.var 0) .nil))))) (.cons (.ret (.con (.bl false)))
    .nil) .nil)
    (.cons (.ite (.and (.tr (.op .isBool (.cons (.var 1) .nil))) (.not (.tr (.op .isBool (.cons (.var 0) .nil))))) (.cons (.ret (.con (.bl false)))
    .nil) .nil)
    (.cons (.ret (.andE (.op .eq (.cons (.var 0) (.cons (.var 1) .nil))) (.op .eq (.cons (.op .repr (.cons (.var 0) .nil)) (.cons (.op .repr (.cons (.var 1) .nil)) .nil)))))
    .nil)))))
def N4 : List Str := ["told", "due"]
theorem sc4 : C8.scC N4 ["told", "due"] (C8.fnScope (top 6)) = true := by decide +kernel
theorem ck4 : chSs fns s4 ⟨N4, C8.fnScope (top 6), stoB (C8.fnScope (top 6))⟩ (C8.fnBody (top 6)) = true := by decide +kernel
theorem bd4 : ∀ (kV doc pm : Value) (an : Option Addr) (cdv ct : Value) (us : List Value), us.length = (["told", "due"] : List Str).length → bindArgs (PySem.W.fnOf "_law_same" "_law_same" (C8.fnArgs (top 6)) (C8.fnBody (top 6)) (C8.fnScope (top 6)) .none kV doc pm an cdv ct) ⟨us, []⟩ = pure ((["told", "due"] : List Str).zip us) :=
  fun _ _ _ _ _ _ us hl => match us, hl with | [_, _], _ => rfl
def g4 : List D → Res D := run ⟨fun i => ([g0, g1, g2, g3] : List (List D → Res D))[i]?, 100000⟩ s4 2 2
/-! _law_fitting_rows -/
def s5 : Ss := (.cons (.asg (.nm 3) (.op .add (.cons (.op .mkLst (.cons (.con (.int 0)) .nil)) (.cons (.lc [5] (.nm 5) .range1 (.cons (.op .sub (.cons (.var 1) (.cons (.con (.int 1)) .nil))) .nil) .tt (.op .mod (.cons (.op .toInt (.cons (.op .idx (.cons (.var 0) (.cons (.op .mod (.cons (.op .toInt (.cons (.var 5) .nil)) (.cons (.con (.int 40)) .nil))) .nil))) .nil)) (.cons (.con (.int 41)) .nil)))) .nil))))
    (.cons (.own 4 (.op .mkLst .nil))
    (.cons (.for_ (.nm 5) .range1 (.cons (.var 2) .nil) (.cons (.asg (.nm 6) (.op .mod (.cons (.op .toInt (.cons (.op .idx (.cons (.var 0) (.cons (.op .add (.cons (.con (.int 40)) (.cons (.op .mul (.cons (.con (.int 3)) (.cons (.var 5) .nil))) .nil))) .nil))) .nil)) (.cons (.var 1) .nil))))
    (.cons (.asg (.nm 7) (.op .mod (.cons (.op .toInt (.cons (.op .idx (.cons (.var 0) (.cons (.op .add (.cons (.con (.int 41)) (.cons (.op .mul (.cons (.con (.int 3)) (.cons (.var 5) .nil))) .nil))) .nil))) .nil)) (.cons (.var 1) .nil))))
    (.cons (.asg (.nm 8) (.op .idx (.cons (.op .mkLst (.cons (.con (.int 0)) (.cons (.con (.int 0)) (.cons (.con (.int 1)) (.cons (.con (.int 5)) (.cons (.con (.int 40)) .nil)))))) (.cons (.op .mod (.cons (.op .toInt (.cons (.op .idx (.cons (.var 0) (.cons (.op .add (.cons (.con (.int 42)) (.cons (.op .mul (.cons (.con (.int 3)) (.cons (.var 5) .nil))) .nil))) .nil))) .nil)) (.cons (.con (.int 5)) .nil))) .nil))))
    (.cons (.mut .append 4 (.cons (.op .mkTup (.cons (.var 6) (.cons (.var 7) (.cons (.op .add (.cons (.op .sub (.cons (.op .idx (.cons (.var 3) (.cons (.var 6) .nil))) (.cons (.op .idx (.cons (.var 3) (.cons (.var 7) .nil))) .nil))) (.cons (.var 8) .nil))) .nil)))) .nil))
    .nil)))))
    (.fz [4] (.cons (.ret (.var 4))
    .nil)))))
def N5 : List Str := ["numbers", "count", "many", "hidden", "rows", "k", "first", "second", "slack"]
theorem sc5 : C8.scC N5 ["numbers", "count", "many"] (C8.fnScope (top 7)) = true := by decide +kernel
theorem ck5 : chSs fns s5 ⟨N5, C8.fnScope (top 7), stoB (C8.fnScope (top 7))⟩ (C8.fnBody (top 7)) = true := by decide +kernel
theorem bd5 : ∀ (kV doc pm : Value) (an : Option Addr) (cdv ct : Value) (us : List Value), us.length = (["numbers", "count", "many"] : List Str).length → bindArgs (PySem.W.fnOf "_law_fitting_rows" "_law_fitting_rows" (C8.fnArgs (top 7)) (C8.fnBody (top 7)) (C8.fnScope (top 7)) .none kV doc pm an cdv ct) ⟨us, []⟩ = pure ((["numbers", "count", "many"] : List Str).zip us) :=
  fun _ _ _ _ _ _ us hl => match us, hl with | [_, _, _], _ => rfl
def g5 : List D → Res D := run ⟨fun i => ([g0, g1, g2, g3, g4] : List (List D → Res D))[i]?, 100000⟩ s5 3 9
/-! _law_planted_ring -/
def s6 : Ss := (.cons (.own 4 (.lc [7] (.nm 7) .range1 (.cons (.var 2) .nil) .tt (.op .mod (.cons (.op .toInt (.cons (.op .idx (.cons (.var 0) (.cons (.op .add (.cons (.con (.int 3)) (.cons (.var 7) .nil))) .nil))) .nil)) (.cons (.var 1) .nil)))))
    (.fz [4] (.cons (.own 5 (.op .mkLst .nil))
    (.cons (.asg (.nm 6) (.var 3))
    (.cons (.for_ (.nm 7) .range1 (.cons (.var 2) .nil) (.cons (.asg (.nm 8) (.op .sub (.cons (.op .mod (.cons (.op .toInt (.cons (.op .idx (.cons (.var 0) (.cons (.op .add (.cons (.con (.int 3)) (.cons (.var 7) .nil))) .nil))) .nil)) (.cons (.con (.int 19)) .nil))) (.cons (.con (.int 9)) .nil))))
    (.cons (.ite (.tr (.op .eq (.cons (.var 7) (.cons (.op .sub (.cons (.var 2) (.cons (.con (.int 1)) .nil))) .nil)))) (.cons (.asg (.nm 8) (.var 6))
    .nil) .nil)
    (.cons (.asg (.nm 6) (.op .sub (.cons (.var 6) (.cons (.var 8) .nil))))
    (.cons (.mut .append 5 (.cons (.op .mkTup (.cons (.op .idx (.cons (.var 4) (.cons (.var 7) .nil))) (.cons (.op .idx (.cons (.var 4) (.cons (.op .mod (.cons (.op .toInt (.cons (.op .add (.cons (.var 7) (.cons (.con (.int 1)) .nil))) .nil)) (.cons (.var 2) .nil))) .nil))) (.cons (.var 8) .nil)))) .nil))
    .nil)))))
    (.cons (.ret (.op .toTup (.cons (.var 5) .nil)))
    .nil))))))
def N6 : List Str := ["numbers", "count", "length", "total", "places", "ring", "rest", "k", "bound"]
theorem sc6 : C8.scC N6 ["numbers", "count", "length", "total"] (C8.fnScope (top 8)) = true := by decide +kernel
theorem ck6 : chSs fns s6 ⟨N6, C8.fnScope (top 8), stoB (C8.fnScope (top 8))⟩ (C8.fnBody (top 8)) = true := by decide +kernel
theorem bd6 : ∀ (kV doc pm : Value) (an : Option Addr) (cdv ct : Value) (us : List Value), us.length = (["numbers", "count", "length", "total"] : List Str).length → bindArgs (PySem.W.fnOf "_law_planted_ring" "_law_planted_ring" (C8.fnArgs (top 8)) (C8.fnBody (top 8)) (C8.fnScope (top 8)) .none kV doc pm an cdv ct) ⟨us, []⟩ = pure ((["numbers", "count", "length", "total"] : List Str).zip us) :=
  fun _ _ _ _ _ _ us hl => match us, hl with | [_, _, _, _], _ => rfl
def g6 : List D → Res D := run ⟨fun i => ([g0, g1, g2, g3, g4, g5] : List (List D → Res D))[i]?, 100000⟩ s6 4 9
/-! _law_closes -/
def s7 : Ss := (.cons (.asg (.nm 3) (.con (.int 0)))
    (.cons (.for_ (.nm 4) .range1 (.cons (.op .len (.cons (.var 2) .nil)) .nil) (.cons (.asg (.tp [(.nm 5), (.nm 6), (.nm 7)]) (.op .idx (.cons (.var 2) (.cons (.var 4) .nil))))
    (.cons (.ite (.and (.tr (.op .notIn (.cons (.op .idx (.cons (.var 2) (.cons (.var 4) .nil))) (.cons (.var 1) .nil)))) (.or (.tr (.op .ne (.cons (.var 5) (.cons (.con (.int 0)) .nil)))) (.or (.tr (.op .ne (.cons (.var 7) (.cons (.con (.int 0)) .nil)))) (.not (.tr (.chain .le .lt (.con (.int 0)) (.var 6) (.var 0))))))) (.cons (.ret (.con (.bl false)))
    .nil) .nil)
    (.cons (.ite (.tr (.op .ne (.cons (.var 5) (.cons (.op .idx (.cons (.op .idx (.cons (.var 2) (.cons (.op .sub (.cons (.var 4) (.cons (.con (.int 1)) .nil))) .nil))) (.cons (.con (.int 1)) .nil))) .nil)))) (.cons (.ret (.con (.bl false)))
    .nil) .nil)
    (.cons (.asg (.nm 3) (.op .add (.cons (.var 3) (.cons (.var 7) .nil))))
    .nil)))))
    (.cons (.ret (.andE (.op .gt (.cons (.op .len (.cons (.var 2) .nil)) (.cons (.con (.int 0)) .nil))) (.op .lt (.cons (.var 3) (.cons (.con (.int 0)) .nil)))))
    .nil)))
def N7 : List Str := ["count", "rows", "ring", "total", "k", "first", "second", "bound"]
theorem sc7 : C8.scC N7 ["count", "rows", "ring"] (C8.fnScope (top 9)) = true := by decide +kernel
theorem ck7 : chSs fns s7 ⟨N7, C8.fnScope (top 9), stoB (C8.fnScope (top 9))⟩ (C8.fnBody (top 9)) = true := by decide +kernel
theorem bd7 : ∀ (kV doc pm : Value) (an : Option Addr) (cdv ct : Value) (us : List Value), us.length = (["count", "rows", "ring"] : List Str).length → bindArgs (PySem.W.fnOf "_law_closes" "_law_closes" (C8.fnArgs (top 9)) (C8.fnBody (top 9)) (C8.fnScope (top 9)) .none kV doc pm an cdv ct) ⟨us, []⟩ = pure ((["count", "rows", "ring"] : List Str).zip us) :=
  fun _ _ _ _ _ _ us hl => match us, hl with | [_, _, _], _ => rfl
def g7 : List D → Res D := run ⟨fun i => ([g0, g1, g2, g3, g4, g5, g6] : List (List D → Res D))[i]?, 100000⟩ s7 3 8
/-! _law_is_judged -/
def s8 : Ss := (.cons (.asg (.nm 3) (.call 7 (.cons (.var 0) (.cons (.var 1) (.cons (.var 2) .nil)))))
    (.cons (.asg (.nm 4) (.op .toLst (.cons (.var 1) .nil)))
    (.cons (.ret (.andE (.call 4 (.cons (.call 1 (.cons (.var 0) (.cons (.var 4) (.cons (.var 2) .nil)))) (.cons (.var 3) .nil))) (.op .eq (.cons (.var 4) (.cons (.var 1) .nil)))))
    .nil)))
def N8 : List Str := ["count", "rows", "paper", "due", "given"]
theorem sc8 : C8.scC N8 ["count", "rows", "paper"] (C8.fnScope (top 10)) = true := by decide +kernel
theorem ck8 : chSs fns s8 ⟨N8, C8.fnScope (top 10), stoB (C8.fnScope (top 10))⟩ (C8.fnBody (top 10)) = true := by decide +kernel
theorem bd8 : ∀ (kV doc pm : Value) (an : Option Addr) (cdv ct : Value) (us : List Value), us.length = (["count", "rows", "paper"] : List Str).length → bindArgs (PySem.W.fnOf "_law_is_judged" "_law_is_judged" (C8.fnArgs (top 10)) (C8.fnBody (top 10)) (C8.fnScope (top 10)) .none kV doc pm an cdv ct) ⟨us, []⟩ = pure ((["count", "rows", "paper"] : List Str).zip us) :=
  fun _ _ _ _ _ _ us hl => match us, hl with | [_, _, _], _ => rfl
def g8 : List D → Res D := run ⟨fun i => ([g0, g1, g2, g3, g4, g5, g6, g7] : List (List D → Res D))[i]?, 100000⟩ s8 3 5
/-! _law_scaled -/
def s9 : Ss := (.cons (.ret (.lc [2] (.nm 2) .plain (.cons (.var 0) .nil) .tt (.op .mkTup (.cons (.op .idx (.cons (.var 2) (.cons (.con (.int 0)) .nil))) (.cons (.op .idx (.cons (.var 2) (.cons (.con (.int 1)) .nil))) (.cons (.op .mul (.cons (.op .idx (.cons (.var 2) (.cons (.con (.int 2)) .nil))) (.cons (.var 1) .nil))) .nil))))))
    .nil)
def N9 : List Str := ["rows", "factor", "row"]
theorem sc9 : C8.scC N9 ["rows", "factor"] (C8.fnScope (top 11)) = true := by decide +kernel
theorem ck9 : chSs fns s9 ⟨N9, C8.fnScope (top 11), stoB (C8.fnScope (top 11))⟩ (C8.fnBody (top 11)) = true := by decide +kernel
theorem bd9 : ∀ (kV doc pm : Value) (an : Option Addr) (cdv ct : Value) (us : List Value), us.length = (["rows", "factor"] : List Str).length → bindArgs (PySem.W.fnOf "_law_scaled" "_law_scaled" (C8.fnArgs (top 11)) (C8.fnBody (top 11)) (C8.fnScope (top 11)) .none kV doc pm an cdv ct) ⟨us, []⟩ = pure ((["rows", "factor"] : List Str).zip us) :=
  fun _ _ _ _ _ _ us hl => match us, hl with | [_, _], _ => rfl
def g9 : List D → Res D := run ⟨fun i => ([g0, g1, g2, g3, g4, g5, g6, g7, g8] : List (List D → Res D))[i]?, 100000⟩ s9 2 3
/-! _law_hop -/
def s10 : Ss := (.cons (.asg (.nm 1) (.op .idx (.cons (.var 0) (.cons (.op .sub (.cons (.op .len (.cons (.var 0) .nil)) (.cons (.con (.int 1)) .nil))) .nil))))
    (.cons (.ret (.op .add (.cons (.op .sl01 (.cons (.var 0) (.cons (.op .sub (.cons (.op .len (.cons (.var 0) .nil)) (.cons (.con (.int 1)) .nil))) .nil))) (.cons (.op .mkLst (.cons (.op .mkTup (.cons (.op .idx (.cons (.var 1) (.cons (.con (.int 0)) .nil))) (.cons (.con (.int 0)) (.cons (.op .idx (.cons (.var 1) (.cons (.con (.int 2)) .nil))) .nil)))) (.cons (.op .mkTup (.cons (.con (.int 0)) (.cons (.op .idx (.cons (.var 1) (.cons (.con (.int 1)) .nil))) (.cons (.con (.int 0)) .nil)))) .nil))) .nil))))
    .nil))
def N10 : List Str := ["ring", "last"]
theorem sc10 : C8.scC N10 ["ring"] (C8.fnScope (top 12)) = true := by decide +kernel
theorem ck10 : chSs fns s10 ⟨N10, C8.fnScope (top 12), stoB (C8.fnScope (top 12))⟩ (C8.fnBody (top 12)) = true := by decide +kernel
theorem bd10 : ∀ (kV doc pm : Value) (an : Option Addr) (cdv ct : Value) (us : List Value), us.length = (["ring"] : List Str).length → bindArgs (PySem.W.fnOf "_law_hop" "_law_hop" (C8.fnArgs (top 12)) (C8.fnBody (top 12)) (C8.fnScope (top 12)) .none kV doc pm an cdv ct) ⟨us, []⟩ = pure ((["ring"] : List Str).zip us) :=
  fun _ _ _ _ _ _ us hl => match us, hl with | [_], _ => rfl
def g10 : List D → Res D := run ⟨fun i => ([g0, g1, g2, g3, g4, g5, g6, g7, g8, g9] : List (List D → Res D))[i]?, 100000⟩ s10 1 2
/-! _law_turned -/
def s11 : Ss := (.cons (.ite (.tr (.op .eq (.cons (.op .len (.cons (.var 0) .nil)) (.cons (.con (.int 0)) .nil)))) (.cons (.ret (.var 0))
    .nil) .nil)
    (.cons (.asg (.nm 2) (.op .mod (.cons (.op .toInt (.cons (.var 1) .nil)) (.cons (.op .len (.cons (.var 0) .nil)) .nil))))
    (.cons (.ret (.op .add (.cons (.op .sl10 (.cons (.var 0) (.cons (.var 2) .nil))) (.cons (.op .sl01 (.cons (.var 0) (.cons (.var 2) .nil))) .nil))))
    .nil)))
def N11 : List Str := ["ring", "start", "at"]
theorem sc11 : C8.scC N11 ["ring", "start"] (C8.fnScope (top 13)) = true := by decide +kernel
theorem ck11 : chSs fns s11 ⟨N11, C8.fnScope (top 13), stoB (C8.fnScope (top 13))⟩ (C8.fnBody (top 13)) = true := by decide +kernel
theorem bd11 : ∀ (kV doc pm : Value) (an : Option Addr) (cdv ct : Value) (us : List Value), us.length = (["ring", "start"] : List Str).length → bindArgs (PySem.W.fnOf "_law_turned" "_law_turned" (C8.fnArgs (top 13)) (C8.fnBody (top 13)) (C8.fnScope (top 13)) .none kV doc pm an cdv ct) ⟨us, []⟩ = pure ((["ring", "start"] : List Str).zip us) :=
  fun _ _ _ _ _ _ us hl => match us, hl with | [_, _], _ => rfl
def g11 : List D → Res D := run ⟨fun i => ([g0, g1, g2, g3, g4, g5, g6, g7, g8, g9, g10] : List (List D → Res D))[i]?, 100000⟩ s11 2 3
/-! _law_opened -/
def s12 : Ss := (.cons (.own 1 (.lc [3] (.nm 3) .plain (.cons (.var 0) .nil) .tt (.op .idx (.cons (.var 3) (.cons (.con (.int 2)) .nil)))))
    (.fz [1] (.cons (.asg (.nm 2) (.op .index (.cons (.var 1) (.cons (.op .max1 (.cons (.var 1) .nil)) .nil))))
    (.cons (.ret (.op .add (.cons (.op .sl10 (.cons (.var 0) (.cons (.op .add (.cons (.var 2) (.cons (.con (.int 1)) .nil))) .nil))) (.cons (.op .sl01 (.cons (.var 0) (.cons (.var 2) .nil))) .nil))))
    .nil))))
def N12 : List Str := ["ring", "bounds", "at", "row"]
theorem sc12 : C8.scC N12 ["ring"] (C8.fnScope (top 14)) = true := by decide +kernel
theorem ck12 : chSs fns s12 ⟨N12, C8.fnScope (top 14), stoB (C8.fnScope (top 14))⟩ (C8.fnBody (top 14)) = true := by decide +kernel
theorem bd12 : ∀ (kV doc pm : Value) (an : Option Addr) (cdv ct : Value) (us : List Value), us.length = (["ring"] : List Str).length → bindArgs (PySem.W.fnOf "_law_opened" "_law_opened" (C8.fnArgs (top 14)) (C8.fnBody (top 14)) (C8.fnScope (top 14)) .none kV doc pm an cdv ct) ⟨us, []⟩ = pure ((["ring"] : List Str).zip us) :=
  fun _ _ _ _ _ _ us hl => match us, hl with | [_], _ => rfl
def g12 : List D → Res D := run ⟨fun i => ([g0, g1, g2, g3, g4, g5, g6, g7, g8, g9, g10, g11] : List (List D → Res D))[i]?, 100000⟩ s12 1 4
/-! _law_put -/
def s13 : Ss := (.cons (.ret (.op .add (.cons (.op .add (.cons (.op .sl01 (.cons (.var 0) (.cons (.var 1) .nil))) (.cons (.op .mkTup (.cons (.var 2) .nil)) .nil))) (.cons (.op .sl10 (.cons (.var 0) (.cons (.op .add (.cons (.var 1) (.cons (.con (.int 1)) .nil))) .nil))) .nil))))
    .nil)
def N13 : List Str := ["ring", "at", "row"]
theorem sc13 : C8.scC N13 ["ring", "at", "row"] (C8.fnScope (top 15)) = true := by decide +kernel
theorem ck13 : chSs fns s13 ⟨N13, C8.fnScope (top 15), stoB (C8.fnScope (top 15))⟩ (C8.fnBody (top 15)) = true := by decide +kernel
theorem bd13 : ∀ (kV doc pm : Value) (an : Option Addr) (cdv ct : Value) (us : List Value), us.length = (["ring", "at", "row"] : List Str).length → bindArgs (PySem.W.fnOf "_law_put" "_law_put" (C8.fnArgs (top 15)) (C8.fnBody (top 15)) (C8.fnScope (top 15)) .none kV doc pm an cdv ct) ⟨us, []⟩ = pure ((["ring", "at", "row"] : List Str).zip us) :=
  fun _ _ _ _ _ _ us hl => match us, hl with | [_, _, _], _ => rfl
def g13 : List D → Res D := run ⟨fun i => ([g0, g1, g2, g3, g4, g5, g6, g7, g8, g9, g10, g11, g12] : List (List D → Res D))[i]?, 100000⟩ s13 3 3
/-! _law_papers -/
def s14 : Ss := (.cons (.asg (.nm 3) (.op .mod (.cons (.op .toInt (.cons (.op .idx (.cons (.var 1) (.cons (.con (.int 0)) .nil))) .nil)) (.cons (.op .len (.cons (.var 0) .nil)) .nil))))
    (.cons (.asg (.nm 4) (.op .mod (.cons (.op .toInt (.cons (.op .idx (.cons (.var 1) (.cons (.con (.int 1)) .nil))) .nil)) (.cons (.op .len (.cons (.var 0) .nil)) .nil))))
    (.cons (.asg (.nm 5) (.op .sub (.cons (.op .len (.cons (.var 0) .nil)) (.cons (.con (.int 1)) .nil))))
    (.cons (.asg (.tp [(.nm 6), (.nm 7), (.nm 8)]) (.op .idx (.cons (.var 0) (.cons (.var 3) .nil))))
    (.cons (.asg (.nm 9) (.call 11 (.cons (.var 0) (.cons (.op .idx (.cons (.var 1) (.cons (.con (.int 2)) .nil))) .nil))))
    (.cons (.asg (.nm 10) (.call 12 (.cons (.var 0) .nil)))
    (.cons (.asg (.nm 11) (.op .mkLst (.cons (.var 0) (.cons (.var 9) (.cons (.op .add (.cons (.var 0) (.cons (.var 0) .nil))) (.cons (.op .add (.cons (.op .add (.cons (.var 9) (.cons (.var 9) .nil))) (.cons (.var 9) .nil))) (.cons (.op .mkTup .nil) (.cons (.op .mkTup (.cons (.op .idx (.cons (.var 0) (.cons (.var 3) .nil))) .nil)) .nil))))))))
    (.cons (.asg (.nm 11) (.op .add (.cons (.var 11) (.cons (.op .mkLst (.cons (.var 10) (.cons (.call 11 (.cons (.var 10) (.cons (.op .add (.cons (.con (.int 1)) (.cons (.op .mod (.cons (.op .toInt (.cons (.op .idx (.cons (.var 1) (.cons (.con (.int 3)) .nil))) .nil)) (.cons (.con (.int 7)) .nil))) .nil))) .nil))) .nil))) .nil))))
    (.cons (.asg (.nm 11) (.op .add (.cons (.var 11) (.cons (.op .mkLst (.cons (.call 13 (.cons (.var 0) (.cons (.var 3) (.cons (.op .mkTup (.cons (.var 6) (.cons (.var 7) (.cons (.op .sub (.cons (.var 8) (.cons (.con (.int 1)) .nil))) .nil)))) .nil)))) (.cons (.call 13 (.cons (.var 0) (.cons (.var 3) (.cons (.op .mkTup (.cons (.var 6) (.cons (.var 7) (.cons (.op .add (.cons (.var 8) (.cons (.con (.int 1)) .nil))) .nil)))) .nil)))) .nil))) .nil))))
    (.cons (.asg (.nm 11) (.op .add (.cons (.var 11) (.cons (.op .mkLst (.cons (.call 13 (.cons (.var 0) (.cons (.var 3) (.cons (.op .mkTup (.cons (.var 7) (.cons (.var 6) (.cons (.var 8) .nil)))) .nil)))) (.cons (.call 13 (.cons (.var 0) (.cons (.var 3) (.cons (.op .mkTup (.cons (.var 6) (.cons (.var 7) (.cons (.con (.int 0)) .nil)))) .nil)))) .nil))) .nil))))
    (.cons (.asg (.nm 11) (.op .add (.cons (.var 11) (.cons (.op .mkLst (.cons (.call 13 (.cons (.call 13 (.cons (.var 0) (.cons (.var 3) (.cons (.op .idx (.cons (.var 0) (.cons (.var 4) .nil))) .nil)))) (.cons (.var 4) (.cons (.op .idx (.cons (.var 0) (.cons (.var 3) .nil))) .nil)))) .nil)) .nil))))
    (.cons (.asg (.nm 11) (.op .add (.cons (.var 11) (.cons (.op .mkLst (.cons (.op .add (.cons (.op .sl01 (.cons (.var 0) (.cons (.var 3) .nil))) (.cons (.op .sl10 (.cons (.var 0) (.cons (.op .add (.cons (.var 3) (.cons (.con (.int 1)) .nil))) .nil))) .nil))) (.cons (.op .add (.cons (.op .add (.cons (.op .sl01 (.cons (.var 0) (.cons (.var 3) .nil))) (.cons (.op .mkTup (.cons (.op .idx (.cons (.var 0) (.cons (.var 3) .nil))) .nil)) .nil))) (.cons (.op .sl10 (.cons (.var 0) (.cons (.var 3) .nil))) .nil))) .nil))) .nil))))
    (.cons (.asg (.nm 11) (.op .add (.cons (.var 11) (.cons (.op .mkLst (.cons (.op .add (.cons (.op .add (.cons (.op .sl01 (.cons (.var 0) (.cons (.var 3) .nil))) (.cons (.op .mkTup (.cons (.op .mkTup (.cons (.con (.int 0)) (.cons (.con (.int 0)) (.cons (.con (.int 0)) .nil)))) .nil)) .nil))) (.cons (.op .sl10 (.cons (.var 0) (.cons (.var 3) .nil))) .nil))) (.cons (.op .add (.cons (.op .add (.cons (.op .sl01 (.cons (.var 0) (.cons (.var 5) .nil))) (.cons (.op .mkTup (.cons (.op .mkTup (.cons (.con (.int 0)) (.cons (.con (.int 0)) (.cons (.con (.int 0)) .nil)))) .nil)) .nil))) (.cons (.op .sl10 (.cons (.var 0) (.cons (.var 5) .nil))) .nil))) .nil))) .nil))))
    (.cons (.asg (.nm 11) (.op .add (.cons (.var 11) (.cons (.op .mkLst (.cons (.call 13 (.cons (.var 0) (.cons (.var 5) (.cons (.op .mkTup (.cons (.con (.int 0)) (.cons (.op .idx (.cons (.op .idx (.cons (.var 0) (.cons (.var 5) .nil))) (.cons (.con (.int 1)) .nil))) (.cons (.con (.int 1)) .nil)))) .nil)))) (.cons (.call 13 (.cons (.var 0) (.cons (.var 5) (.cons (.op .mkTup (.cons (.con (.int 0)) (.cons (.op .idx (.cons (.op .idx (.cons (.var 0) (.cons (.var 5) .nil))) (.cons (.con (.int 1)) .nil))) (.cons (.op .neg (.cons (.con (.int 1)) .nil)) .nil)))) .nil)))) .nil))) .nil))))
    (.cons (.asg (.nm 11) (.op .add (.cons (.var 11) (.cons (.op .mkLst (.cons (.call 13 (.cons (.var 0) (.cons (.var 5) (.cons (.op .mkTup (.cons (.con (.int 0)) (.cons (.var 2) (.cons (.con (.int 0)) .nil)))) .nil)))) (.cons (.call 13 (.cons (.var 0) (.cons (.var 5) (.cons (.op .mkTup (.cons (.con (.int 0)) (.cons (.op .neg (.cons (.con (.int 1)) .nil)) (.cons (.con (.int 0)) .nil)))) .nil)))) .nil))) .nil))))
    (.cons (.ret (.op .add (.cons (.var 11) (.cons (.op .mkLst (.cons (.op .add (.cons (.var 0) (.cons (.op .mkTup (.cons (.op .mkTup (.cons (.con (.int 0)) (.cons (.op .idx (.cons (.op .idx (.cons (.var 0) (.cons (.con (.int 0)) .nil))) (.cons (.con (.int 0)) .nil))) (.cons (.con (.int 0)) .nil)))) .nil)) .nil))) (.cons (.op .add (.cons (.var 0) (.cons (.op .mkTup (.cons (.op .mkTup (.cons (.op .idx (.cons (.op .idx (.cons (.var 0) (.cons (.con (.int 0)) .nil))) (.cons (.con (.int 0)) .nil))) (.cons (.con (.int 0)) (.cons (.con (.int 0)) .nil)))) .nil)) .nil))) (.cons (.op .add (.cons (.var 0) (.cons (.var 9) .nil))) .nil)))) .nil))))
    .nil))))))))))))))))
def N14 : List Str := ["ring", "numbers", "count", "at", "other", "last", "a", "b", "c", "turned", "opened", "papers"]
theorem sc14 : C8.scC N14 ["ring", "numbers", "count"] (C8.fnScope (top 16)) = true := by decide +kernel
theorem ck14 : chSs fns s14 ⟨N14, C8.fnScope (top 16), stoB (C8.fnScope (top 16))⟩ (C8.fnBody (top 16)) = true := by decide +kernel
theorem bd14 : ∀ (kV doc pm : Value) (an : Option Addr) (cdv ct : Value) (us : List Value), us.length = (["ring", "numbers", "count"] : List Str).length → bindArgs (PySem.W.fnOf "_law_papers" "_law_papers" (C8.fnArgs (top 16)) (C8.fnBody (top 16)) (C8.fnScope (top 16)) .none kV doc pm an cdv ct) ⟨us, []⟩ = pure ((["ring", "numbers", "count"] : List Str).zip us) :=
  fun _ _ _ _ _ _ us hl => match us, hl with | [_, _, _], _ => rfl
def g14 : List D → Res D := run ⟨fun i => ([g0, g1, g2, g3, g4, g5, g6, g7, g8, g9, g10, g11, g12, g13] : List (List D → Res D))[i]?, 100000⟩ s14 3 12
/-! _law_long -/
def s15 : Ss := (.cons (.asg (.nm 1) (.op .idx (.cons (.op .mkLst (.cons (.con (.int 402)) (.cons (.con (.int 40)) (.cons (.con (.int 13)) (.cons (.con (.int 60)) .nil))))) (.cons (.op .mod (.cons (.op .toInt (.cons (.op .idx (.cons (.var 0) (.cons (.con (.int 0)) .nil))) .nil)) (.cons (.con (.int 4)) .nil))) .nil))))
    (.cons (.asg (.nm 2) (.op .idx (.cons (.op .mkLst (.cons (.con (.int 1)) (.cons (.op .sub (.cons (.var 1) (.cons (.con (.int 1)) .nil))) .nil))) (.cons (.op .mod (.cons (.op .toInt (.cons (.op .idx (.cons (.var 0) (.cons (.con (.int 2)) .nil))) .nil)) (.cons (.con (.int 2)) .nil))) .nil))))
    (.cons (.own 3 (.lc [6] (.nm 6) .range1 (.cons (.var 1) .nil) .tt (.op .mod (.cons (.op .toInt (.cons (.op .mul (.cons (.var 6) (.cons (.var 2) .nil))) .nil)) (.cons (.var 1) .nil)))))
    (.fz [3] (.cons (.own 4 (.op .mkLst .nil))
    (.cons (.asg (.nm 5) (.con (.int 0)))
    (.cons (.for_ (.nm 6) .range1 (.cons (.op .sub (.cons (.var 1) (.cons (.con (.int 1)) .nil))) .nil) (.cons (.asg (.nm 7) (.op .sub (.cons (.op .mod (.cons (.op .toInt (.cons (.op .add (.cons (.op .idx (.cons (.var 0) (.cons (.op .add (.cons (.con (.int 6)) (.cons (.op .mod (.cons (.var 6) (.cons (.con (.int 24)) .nil))) .nil))) .nil))) (.cons (.var 6) .nil))) .nil)) (.cons (.con (.int 7)) .nil))) (.cons (.con (.int 3)) .nil))))
    (.cons (.asg (.nm 5) (.op .add (.cons (.var 5) (.cons (.var 7) .nil))))
    (.cons (.mut .append 4 (.cons (.op .mkTup (.cons (.op .idx (.cons (.var 3) (.cons (.var 6) .nil))) (.cons (.op .idx (.cons (.var 3) (.cons (.op .add (.cons (.var 6) (.cons (.con (.int 1)) .nil))) .nil))) (.cons (.var 7) .nil)))) .nil))
    .nil))))
    (.cons (.mut .append 4 (.cons (.op .mkTup (.cons (.op .idx (.cons (.var 3) (.cons (.op .sub (.cons (.var 1) (.cons (.con (.int 1)) .nil))) .nil))) (.cons (.con (.int 0)) (.cons (.op .sub (.cons (.op .sub (.cons (.op .mod (.cons (.op .toInt (.cons (.op .idx (.cons (.var 0) (.cons (.con (.int 1)) .nil))) .nil)) (.cons (.con (.int 2)) .nil))) (.cons (.con (.int 1)) .nil))) (.cons (.var 5) .nil))) .nil)))) .nil))
    (.fz [4] (.cons (.ret (.var 4))
    .nil))))))))))
def N15 : List Str := ["numbers", "count", "step", "places", "rows", "total", "k", "bound"]
theorem sc15 : C8.scC N15 ["numbers"] (C8.fnScope (top 17)) = true := by decide +kernel
theorem ck15 : chSs fns s15 ⟨N15, C8.fnScope (top 17), stoB (C8.fnScope (top 17))⟩ (C8.fnBody (top 17)) = true := by decide +kernel
theorem bd15 : ∀ (kV doc pm : Value) (an : Option Addr) (cdv ct : Value) (us : List Value), us.length = (["numbers"] : List Str).length → bindArgs (PySem.W.fnOf "_law_long" "_law_long" (C8.fnArgs (top 17)) (C8.fnBody (top 17)) (C8.fnScope (top 17)) .none kV doc pm an cdv ct) ⟨us, []⟩ = pure ((["numbers"] : List Str).zip us) :=
  fun _ _ _ _ _ _ us hl => match us, hl with | [_], _ => rfl
def g15 : List D → Res D := run ⟨fun i => ([g0, g1, g2, g3, g4, g5, g6, g7, g8, g9, g10, g11, g12, g13, g14] : List (List D → Res D))[i]?, 100000⟩ s15 1 8
/-! _law_long_is_judged -/
def s16 : Ss := (.cons (.asg (.nm 1) (.call 15 (.cons (.var 0) .nil)))
    (.cons (.asg (.nm 2) (.call 11 (.cons (.op .toTup (.cons (.var 1) .nil)) (.cons (.op .idx (.cons (.var 0) (.cons (.con (.int 3)) .nil))) .nil))))
    (.cons (.asg (.nm 3) (.op .mod (.cons (.op .toInt (.cons (.op .idx (.cons (.var 0) (.cons (.con (.int 4)) .nil))) .nil)) (.cons (.op .len (.cons (.var 2) .nil)) .nil))))
    (.cons (.asg (.tp [(.nm 4), (.nm 5), (.nm 6)]) (.op .idx (.cons (.var 2) (.cons (.var 3) .nil))))
    (.cons (.for_ (.nm 7) .plain (.cons (.op .mkLst (.cons (.var 2) (.cons (.call 13 (.cons (.var 2) (.cons (.var 3) (.cons (.op .mkTup (.cons (.var 4) (.cons (.var 5) (.cons (.op .sub (.cons (.var 6) (.cons (.con (.int 1)) .nil))) .nil)))) .nil)))) (.cons (.op .add (.cons (.op .sl01 (.cons (.var 2) (.cons (.var 3) .nil))) (.cons (.op .sl10 (.cons (.var 2) (.cons (.op .add (.cons (.var 3) (.cons (.con (.int 1)) .nil))) .nil))) .nil))) .nil)))) .nil) (.cons (.ite (.not (.tr (.call 8 (.cons (.op .len (.cons (.var 1) .nil)) (.cons (.op .toLstRev (.cons (.var 1) .nil)) (.cons (.var 7) .nil)))))) (.cons (.ret (.con (.bl false)))
    .nil) .nil)
    .nil))
    (.cons (.ret (.con (.bl true)))
    .nil))))))
def N16 : List Str := ["numbers", "rows", "ring", "at", "a", "b", "c", "paper"]
theorem sc16 : C8.scC N16 ["numbers"] (C8.fnScope (top 18)) = true := by decide +kernel
theorem ck16 : chSs fns s16 ⟨N16, C8.fnScope (top 18), stoB (C8.fnScope (top 18))⟩ (C8.fnBody (top 18)) = true := by decide +kernel
theorem bd16 : ∀ (kV doc pm : Value) (an : Option Addr) (cdv ct : Value) (us : List Value), us.length = (["numbers"] : List Str).length → bindArgs (PySem.W.fnOf "_law_long_is_judged" "_law_long_is_judged" (C8.fnArgs (top 18)) (C8.fnBody (top 18)) (C8.fnScope (top 18)) .none kV doc pm an cdv ct) ⟨us, []⟩ = pure ((["numbers"] : List Str).zip us) :=
  fun _ _ _ _ _ _ us hl => match us, hl with | [_], _ => rfl
def g16 : List D → Res D := run ⟨fun i => ([g0, g1, g2, g3, g4, g5, g6, g7, g8, g9, g10, g11, g12, g13, g14, g15] : List (List D → Res D))[i]?, 100000⟩ s16 1 8
/-! law -/
def s17 : Ss := (.cons (.asg (.nm 1) (.call 3 (.cons (.call 2 (.cons (.var 0) (.cons (.con (.int 0)) .nil))) (.cons (.con (.int 32)) .nil))))
    (.cons (.asg (.nm 2) (.op .add (.cons (.con (.int 1)) (.cons (.op .mod (.cons (.op .toInt (.cons (.op .idx (.cons (.var 1) (.cons (.con (.int 0)) .nil))) .nil)) (.cons (.con (.int 12)) .nil))) .nil))))
    (.cons (.asg (.nm 3) (.con (.int 1)))
    (.cons (.ite (.tr (.op .eq (.cons (.op .mod (.cons (.op .toInt (.cons (.op .idx (.cons (.var 1) (.cons (.con (.int 2)) .nil))) .nil)) (.cons (.con (.int 4)) .nil))) (.cons (.con (.int 0)) .nil)))) (.cons (.asg (.nm 3) (.op .add (.cons (.con (.int 1)) (.cons (.op .mul (.cons (.op .toInt (.cons (.op .idx (.cons (.var 1) (.cons (.con (.int 3)) .nil))) .nil)) (.cons (.op .pow (.cons (.con (.int 10)) (.cons (.con (.int 10)) .nil))) .nil))) .nil))))
    .nil) .nil)
    (.cons (.asg (.nm 4) (.call 9 (.cons (.call 5 (.cons (.call 3 (.cons (.op .add (.cons (.call 2 (.cons (.var 0) (.cons (.con (.int 1)) .nil))) (.cons (.con (.int 1)) .nil))) (.cons (.con (.int 120)) .nil))) (.cons (.var 2) (.cons (.op .mod (.cons (.op .toInt (.cons (.op .idx (.cons (.var 1) (.cons (.con (.int 1)) .nil))) .nil)) (.cons (.con (.int 20)) .nil))) .nil)))) (.cons (.var 3) .nil))))
    (.cons (.own 5 (.op .mkLst .nil))
    (.cons (.for_ (.nm 6) .range1 (.cons (.con (.int 3)) .nil) (.cons (.asg (.nm 9) (.call 3 (.cons (.op .add (.cons (.call 2 (.cons (.var 0) (.cons (.op .add (.cons (.con (.int 2)) (.cons (.var 6) .nil))) .nil))) (.cons (.op .mul (.cons (.con (.int 2)) (.cons (.var 6) .nil))) .nil))) (.cons (.con (.int 24)) .nil))))
    (.cons (.asg (.nm 10) (.op .idx (.cons (.op .mkLst (.cons (.op .sub (.cons (.op .neg (.cons (.con (.int 1)) .nil)) (.cons (.op .mod (.cons (.op .toInt (.cons (.op .idx (.cons (.var 9) (.cons (.con (.int 0)) .nil))) .nil)) (.cons (.con (.int 20)) .nil))) .nil))) (.cons (.con (.int 0)) (.cons (.op .sub (.cons (.op .neg (.cons (.con (.int 2)) .nil)) (.cons (.op .mod (.cons (.op .toInt (.cons (.op .idx (.cons (.var 9) (.cons (.con (.int 0)) .nil))) .nil)) (.cons (.con (.int 20)) .nil))) .nil))) .nil)))) (.cons (.var 6) .nil))))
    (.cons (.asg (.nm 11) (.call 9 (.cons (.call 6 (.cons (.op .sl10 (.cons (.var 9) (.cons (.con (.int 1)) .nil))) (.cons (.var 2) (.cons (.op .add (.cons (.con (.int 1)) (.cons (.op .mod (.cons (.op .toInt (.cons (.op .idx (.cons (.var 9) (.cons (.con (.int 1)) .nil))) .nil)) (.cons (.con (.int 9)) .nil))) .nil))) (.cons (.var 10) .nil))))) (.cons (.var 3) .nil))))
    (.cons (.asg (.nm 12) (.op .toLst (.cons (.var 11) .nil)))
    (.cons (.ite (.tr (.op .eq (.cons (.var 6) (.cons (.con (.int 2)) .nil)))) (.cons (.asg (.nm 11) (.call 10 (.cons (.var 11) .nil)))
    (.cons (.asg (.nm 12) (.op .sl01 (.cons (.var 11) (.cons (.op .sub (.cons (.op .len (.cons (.var 11) .nil)) (.cons (.con (.int 1)) .nil))) .nil))))
    .nil)) .nil)
    (.cons (.asg (.nm 4) (.op .add (.cons (.var 4) (.cons (.var 12) .nil))))
    (.cons (.mut .append 5 (.cons (.op .toTup (.cons (.var 11) .nil)) .nil))
    .nil))))))))
    (.cons (.asg (.nm 4) (.call 11 (.cons (.var 4) (.cons (.op .idx (.cons (.var 1) (.cons (.con (.int 4)) .nil))) .nil))))
    (.cons (.for_ (.nm 6) .range1 (.cons (.con (.int 3)) .nil) (.cons (.for_ (.nm 13) .plain (.cons (.call 14 (.cons (.op .idx (.cons (.var 5) (.cons (.var 6) .nil))) (.cons (.op .sl10 (.cons (.var 1) (.cons (.op .add (.cons (.con (.int 5)) (.cons (.op .mul (.cons (.con (.int 4)) (.cons (.var 6) .nil))) .nil))) .nil))) (.cons (.var 2) .nil)))) .nil) (.cons (.ite (.not (.tr (.call 8 (.cons (.var 2) (.cons (.var 4) (.cons (.var 13) .nil)))))) (.cons (.ret (.con (.bl false)))
    .nil) .nil)
    .nil))
    .nil))
    (.cons (.own 7 (.op .toLst (.cons (.var 4) .nil)))
    (.cons (.ite (.or (.tr (.op .notBl (.cons (.callB 1 (.cons (.var 2) (.cons (.var 7) (.cons (.op .idx (.cons (.var 5) (.cons (.con (.int 0)) .nil))) .nil)))) (.cons (.con (.bl true)) .nil)))) (.tr (.op .notBl (.cons (.callB 1 (.cons (.var 2) (.cons (.var 7) (.cons (.op .idx (.cons (.var 5) (.cons (.con (.int 1)) .nil))) .nil)))) (.cons (.con (.bl false)) .nil))))) (.cons (.ret (.con (.bl false)))
    .nil) .nil)
    (.cons (.mut .remove 7 (.cons (.op .idx (.cons (.op .idx (.cons (.var 5) (.cons (.con (.int 0)) .nil))) (.cons (.op .mod (.cons (.op .toInt (.cons (.op .idx (.cons (.var 1) (.cons (.con (.int 20)) .nil))) .nil)) (.cons (.op .len (.cons (.op .idx (.cons (.var 5) (.cons (.con (.int 0)) .nil))) .nil)) .nil))) .nil))) .nil))
    (.cons (.asg (.nm 8) (.call 7 (.cons (.var 2) (.cons (.op .toLst (.cons (.var 7) .nil)) (.cons (.op .idx (.cons (.var 5) (.cons (.con (.int 0)) .nil))) .nil)))))
    (.fz [7] (.cons (.ret (.andE (.call 4 (.cons (.call 1 (.cons (.var 2) (.cons (.var 7) (.cons (.op .idx (.cons (.var 5) (.cons (.con (.int 0)) .nil))) .nil)))) (.cons (.var 8) .nil))) (.call 16 (.cons (.var 1) .nil))))
    .nil)))))))))))))))
def N17 : List Str := ["script", "numbers", "count", "factor", "rows", "rings", "turn", "given", "due", "draws", "total", "ring", "told", "paper"]
theorem sc17 : C8.scC N17 ["script"] (C8.fnScope (top 19)) = true := by decide +kernel
theorem ck17 : chSs fns s17 ⟨N17, C8.fnScope (top 19), stoB (C8.fnScope (top 19))⟩ (C8.fnBody (top 19)) = true := by decide +kernel
theorem bd17 : ∀ (kV doc pm : Value) (an : Option Addr) (cdv ct : Value) (us : List Value), us.length = (["script"] : List Str).length → bindArgs (PySem.W.fnOf "law" "law" (C8.fnArgs (top 19)) (C8.fnBody (top 19)) (C8.fnScope (top 19)) .none kV doc pm an cdv ct) ⟨us, []⟩ = pure ((["script"] : List Str).zip us) :=
  fun _ _ _ _ _ _ us hl => match us, hl with | [_], _ => rfl
def g17 : List D → Res D := run ⟨fun i => ([g0, g1, g2, g3, g4, g5, g6, g7, g8, g9, g10, g11, g12, g13, g14, g15, g16] : List (List D → Res D))[i]?, 100000⟩ s17 1 14
section
variable {P : Program} {w : World} {K : PySem.W.Frag} {mg : Str → Option Value}
theorem all_mk {h : Heap} {fa : Addr} (KX : K.In h) (G : h.Ns mainGlobals mg) (hfa : mg "law" = some (.ref fa))
    (T0 : Txt K "is_told" (top 1))
    (T1 : Txt K "shows_ring" (top 2))
    (T2 : Txt K "_law_cell" (top 4))
    (T3 : Txt K "_law_numbers" (top 5))
    (T4 : Txt K "_law_same" (top 6))
    (T5 : Txt K "_law_fitting_rows" (top 7))
    (T6 : Txt K "_law_planted_ring" (top 8))
    (T7 : Txt K "_law_closes" (top 9))
    (T8 : Txt K "_law_is_judged" (top 10))
    (T9 : Txt K "_law_scaled" (top 11))
    (T10 : Txt K "_law_hop" (top 12))
    (T11 : Txt K "_law_turned" (top 13))
    (T12 : Txt K "_law_opened" (top 14))
    (T13 : Txt K "_law_put" (top 15))
    (T14 : Txt K "_law_papers" (top 16))
    (T15 : Txt K "_law_long" (top 17))
    (T16 : Txt K "_law_long_is_judged" (top 18))
    (T17 : Txt K "law" (top 19))
    (cl : Clear K) : ∃ fd : FuncData, (∀ (s : Shared) (u : Value), BindsTo s fd ⟨[u], []⟩ [("script", u)]) ∧ ∀ base : Heap, K.In base → base.Ns mainGlobals mg → FnG P w K mg base C8.CX0 18 fa fd ["script"] (spD K g17) := by
  refine den_last (k := 17) (fns := fns) KX G hfa T17 cl sc17 bd17 ck17 fun base hK hN => ?_
  have q0 : Gots P w K mg base 0 fns [] := .nil _
  have q1 : Gots P w K mg base 1 fns [g0] := den_step hK hN T0 cl sc0 bd0 ck0 rfl q0
  have q2 : Gots P w K mg base 2 fns [g0, g1] := den_step hK hN T1 cl sc1 bd1 ck1 rfl q1
  have q3 : Gots P w K mg base 3 fns [g0, g1, g2] := den_step hK hN T2 cl sc2 bd2 ck2 rfl q2
  have q4 : Gots P w K mg base 4 fns [g0, g1, g2, g3] := den_step hK hN T3 cl sc3 bd3 ck3 rfl q3
  have q5 : Gots P w K mg base 5 fns [g0, g1, g2, g3, g4] := den_step hK hN T4 cl sc4 bd4 ck4 rfl q4
  have q6 : Gots P w K mg base 6 fns [g0, g1, g2, g3, g4, g5] := den_step hK hN T5 cl sc5 bd5 ck5 rfl q5
  have q7 : Gots P w K mg base 7 fns [g0, g1, g2, g3, g4, g5, g6] := den_step hK hN T6 cl sc6 bd6 ck6 rfl q6
  have q8 : Gots P w K mg base 8 fns [g0, g1, g2, g3, g4, g5, g6, g7] := den_step hK hN T7 cl sc7 bd7 ck7 rfl q7
  have q9 : Gots P w K mg base 9 fns [g0, g1, g2, g3, g4, g5, g6, g7, g8] := den_step hK hN T8 cl sc8 bd8 ck8 rfl q8
  have q10 : Gots P w K mg base 10 fns [g0, g1, g2, g3, g4, g5, g6, g7, g8, g9] := den_step hK hN T9 cl sc9 bd9 ck9 rfl q9
  have q11 : Gots P w K mg base 11 fns [g0, g1, g2, g3, g4, g5, g6, g7, g8, g9, g10] := den_step hK hN T10 cl sc10 bd10 ck10 rfl q10
  have q12 : Gots P w K mg base 12 fns [g0, g1, g2, g3, g4, g5, g6, g7, g8, g9, g10, g11] := den_step hK hN T11 cl sc11 bd11 ck11 rfl q11
  have q13 : Gots P w K mg base 13 fns [g0, g1, g2, g3, g4, g5, g6, g7, g8, g9, g10, g11, g12] := den_step hK hN T12 cl sc12 bd12 ck12 rfl q12
  have q14 : Gots P w K mg base 14 fns [g0, g1, g2, g3, g4, g5, g6, g7, g8, g9, g10, g11, g12, g13] := den_step hK hN T13 cl sc13 bd13 ck13 rfl q13
  have q15 : Gots P w K mg base 15 fns [g0, g1, g2, g3, g4, g5, g6, g7, g8, g9, g10, g11, g12, g13, g14] := den_step hK hN T14 cl sc14 bd14 ck14 rfl q14
  have q16 : Gots P w K mg base 16 fns [g0, g1, g2, g3, g4, g5, g6, g7, g8, g9, g10, g11, g12, g13, g14, g15] := den_step hK hN T15 cl sc15 bd15 ck15 rfl q15
  have q17 : Gots P w K mg base 17 fns [g0, g1, g2, g3, g4, g5, g6, g7, g8, g9, g10, g11, g12, g13, g14, g15, g16] := den_step hK hN T16 cl sc16 bd16 ck16 rfl q16
  exact q17
end
end K32

namespace K32
open PySem Den L2
theorem cell_ok (ns : List Int) (k : Int) (h : 0 ≤ k) : ∃ v : Int, g2 [.lstC (ns.map .int), .int k] = .ok (.int v) := by
  unfold g2 Den.run s2
  simp only [evSs]
  by_cases q : k < ns.length
  · have e := atD_pos D.int ns h q
    exact ⟨ns[k.toNat]'(by omega), by simp [evS, eE_var, eE_con, eE_op, eE_and, eE_or, eE_not, eE_ite, eE_chain, eE_call, eE_callB, eE_dcT, evEs, evC, O.borrows, O.sem, E.isVar, rd, bT_nm, bT_tp, bTs_nil, bTs_cons, ix_L, ix_T, ix_LC, oR_some, ln_L, ln_T, ln_LC, ct_L, ct_T, in_ii, ad_I, ad_L, ad_T, rp_I, ti_I, ng_I, tl_L, tl_T, tt_L, tt_T, tr_B, bq_B, ib_B, it_L, it_T, eq_int, ne_int, fMod, fDiv, fPow, isTupD, isLstD, isStrD, isBlD, Res.bind_ok, M.sem, mApp, augD, Gd_ok, Gd_bad, wipeE, isNonD, eS_nil, evSs, q, e]⟩
  · exact ⟨0, by simp [evS, eE_var, eE_con, eE_op, eE_and, eE_or, eE_not, eE_ite, eE_chain, eE_call, eE_callB, eE_dcT, evEs, evC, O.borrows, O.sem, E.isVar, rd, bT_nm, bT_tp, bTs_nil, bTs_cons, ix_L, ix_T, ix_LC, oR_some, ln_L, ln_T, ln_LC, ct_L, ct_T, in_ii, ad_I, ad_L, ad_T, rp_I, ti_I, ng_I, tl_L, tl_T, tt_L, tt_T, tr_B, bq_B, ib_B, it_L, it_T, eq_int, ne_int, fMod, fDiv, fPow, isTupD, isLstD, isStrD, isBlD, Res.bind_ok, M.sem, mApp, augD, Gd_ok, Gd_bad, wipeE, isNonD, eS_nil, evSs, q]⟩
theorem same_bl (a b : Bool) : g4 [.bl a, .bl b] = .ok (.bl (a == b)) := by
  cases a <;> cases b <;> kernel_rfl
abbrev Row := Int × Int × Int
def row (r : Row) : D := .tup [.int r.1, .int r.2.1, .int r.2.2]
theorem keyT_row (r : Row) : keyT (row r) = some [.inl r.1, .inl r.2.1, .inl r.2.2] := rfl
theorem keyT_inj (a b : Row) : keyT (row a) = keyT (row b) ↔ a = b := by
  obtain ⟨a1, a2, a3⟩ := a
  obtain ⟨b1, b2, b3⟩ := b
  simp [keyT_row]
theorem plain_row (r : Row) : plain (row r) = true := by
  simp [Den.plain, row, toPy, toPys, SeqAt.shaped, PyData.canLay0, PyData.canLayAll0, PyData.depth, PyData.depthAll]
theorem eqD_row (a b : Row) : eqD (row a) (row b) = decide (a = b) := by
  obtain ⟨a1, a2, a3⟩ := a
  obtain ⟨b1, b2, b3⟩ := b
  simp only [eqD, row, toPy, toPys, PyData.eqv, PyData.eqvAll]
  exact Bool.eq_iff_iff.mpr (by simp)
theorem lay_rows : ∀ R : List Row, PyData.canLayAll0 (toPys (R.map row)) = true ∧ PyData.depthAll (toPys (R.map row)) ≤ 2
  | [] => by simp [toPys, PyData.canLayAll0, PyData.depthAll]
  | r :: R => by
    obtain ⟨h1, h2⟩ := lay_rows R
    simp only [List.map_cons, toPys, PyData.canLayAll0, PyData.depthAll, h1, row, toPy, PyData.canLay0, PyData.depth]
    refine ⟨rfl, ?_⟩
    omega
theorem plain_lst (R : List Row) : plain (.lst (R.map row)) = true := by
  obtain ⟨h1, h2⟩ := lay_rows R
  simp only [Den.plain, toPy, SeqAt.shaped, PyData.canLay0, PyData.depth, h1, Bool.true_and, decide_eq_true_eq]
  omega
theorem eqD_lst : ∀ R : List Row, eqD (.lst (R.map row)) (.lst (R.map row)) = true
  | [] => by simp [eqD, toPy, toPys, PyData.eqv, PyData.eqvAll]
  | r :: R => by
    have h := eqD_lst R
    have h2 := eqD_row r r
    unfold eqD at h h2 ⊢
    rw [decide_eq_true rfl] at h2
    simp only [toPy, PyData.eqv] at h
    simp only [List.map_cons, toPy, toPys, PyData.eqv, PyData.eqvAll, h2, h, Bool.and_self]
/-- a row is told -/
def told (c : Int) (R : List Row) (r : Row) : Bool := decide (r ∈ R) || (decide (r.1 = 0) && (decide (r.2.2 = 0) && (decide (0 ≤ r.2.1) && decide (r.2.1 < c))))
def chain (c : Int) (R : List Row) : Int → List Row → Bool
  | _, [] => true
  | a, r :: rs => decide (r.1 = a) && told c R r && chain c R r.2.1 rs
def judge (c : Int) (R Q : List Row) : Bool := match Q.getLast? with
  | none => false
  | some l => chain c R l.2.1 Q && decide ((Q.map (·.2.2)).sum < 0)
theorem told_ok (c : Int) (kvs : List (D × D)) (r : Row) : g0 [.int c, .dct kvs, row r] = .ok (.bl ((kvs.any fun p => decide (keyT p.1 = keyT (row r))) || (decide (r.1 = 0) && (decide (r.2.2 = 0) && (decide (0 ≤ r.2.1) && decide (r.2.1 < c)))))) := by
  obtain ⟨a, b, d⟩ := r
  have e := in_dct (keyT_row (a, b, d)) kvs
  generalize (kvs.any fun p => decide (keyT p.1 = keyT (row (a, b, d)))) = t at e
  unfold row at e ⊢
  dsimp only at e
  unfold g0 Den.run s0
  simp [evS, eE_var, eE_con, eE_op, eE_and, eE_or, eE_not, eE_ite, eE_chain, eE_call, eE_callB, eE_dcT, evEs, evC, O.borrows, O.sem, E.isVar, rd, bT_nm, bT_tp, bTs_nil, bTs_cons, ix_L, ix_T, ix_LC, oR_some, ln_L, ln_T, ln_LC, ct_L, ct_T, in_ii, ad_I, ad_L, ad_T, rp_I, ti_I, ng_I, tl_L, tl_T, tt_L, tt_T, tr_B, bq_B, ib_B, it_L, it_T, eq_int, ne_int, fMod, fDiv, fPow, isTupD, isLstD, isStrD, isBlD, Res.bind_ok, M.sem, mApp, augD, Gd_ok, Gd_bad, wipeE, isNonD, eS_nil, evSs, e]
  cases t <;> by_cases ha : a = 0 <;> by_cases hd : d = 0 <;> by_cases hb : 0 ≤ b <;> simp [ha, hd, hb]
/-- {row: True for row in rows} -/
def dicR (acc : List (D × D)) : List Row → List (D × D)
  | [] => acc
  | r :: R => dicR (putT acc (row r) (.bl true)) R
theorem putT_len (acc : List (D × D)) (k v : D) : (putT acc k v).length ≤ acc.length + 1 := by
  unfold putT
  split
  · rw [List.length_map]; omega
  · rw [List.length_append]; simp
theorem putT_any (acc : List (D × D)) (r a : Row) : ((putT acc (row a) (.bl true)).any fun p => decide (keyT p.1 = keyT (row r))) = ((acc.any fun p => decide (keyT p.1 = keyT (row r))) || decide (r = a)) := by
  have ka : decide (keyT (row a) = keyT (row r)) = decide (r = a) := decide_eq_decide.mpr ((keyT_inj a r).trans eq_comm)
  unfold putT
  split
  · rename_i h
    rw [List.any_map]
    have e : ((fun p => decide (keyT p.1 = keyT (row r))) ∘ fun (p : D × D) => if keyT p.1 = keyT (row a) then (p.1, D.bl true) else p) = fun p => decide (keyT p.1 = keyT (row r)) := by
      funext p
      show decide (keyT (if keyT p.1 = keyT (row a) then (p.1, D.bl true) else p).1 = _) = _
      split <;> rfl
    rw [e]
    by_cases q : r = a
    · subst q
      rw [h]
      rfl
    · rw [decide_eq_false q, Bool.or_false]
  · rw [List.any_append]
    simp only [List.any_cons, List.any_nil, Bool.or_false, ka]
theorem dicR_any (r : Row) : ∀ (R : List Row) (acc : List (D × D)), ((dicR acc R).any fun p => decide (keyT p.1 = keyT (row r))) = ((acc.any fun p => decide (keyT p.1 = keyT (row r))) || decide (r ∈ R))
  | [], acc => by simp [dicR]
  | a :: R, acc => by
    unfold dicR
    rw [dicR_any r R, putT_any, Bool.or_assoc]
    congr 1
    exact Bool.eq_iff_iff.mpr (by simp)
theorem dcD_rows : ∀ (R : List Row) (acc : List (D × D)), acc.length + R.length < sizeLine → dcD (fun x => Res.ok (x, D.bl true)) (R.map row) acc = .ok (dicR acc R)
  | [], acc, _ => rfl
  | r :: R, acc, h => by
    rw [List.length_cons] at h
    have p := putT_len acc (row r) (.bl true)
    rw [List.map_cons]
    unfold dcD dicR
    rw [Res.bind_ok, if_pos ⟨by omega, by rw [keyT_row]; rfl⟩]
    exact dcD_rows R _ (by dsimp only; omega)
theorem told_row (c : Int) (R : List Row) (r : Row) : g0 [.int c, .dct (dicR [] R), row r] = .ok (.bl (told c R r)) := by
  rw [told_ok, dicR_any]
  rfl
theorem ix0 (r : Row) : sIdx (row r) (.int 0) = .ok (.int r.1) := rfl
theorem ix1 (r : Row) : sIdx (row r) (.int 1) = .ok (.int r.2.1) := rfl
theorem ix2 (r : Row) : sIdx (row r) (.int 2) = .ok (.int r.2.2) := rfl
theorem sum_take {Q : List Row} {i : Nat} (hi : i < Q.length) : ((Q.map (·.2.2)).take (i + 1)).sum = ((Q.map (·.2.2)).take i).sum + Q[i].2.2 := by
  rw [List.take_add_one, List.getElem?_map, List.getElem?_eq_getElem hi, List.sum_append]
  simp
theorem shows_ok (c : Int) (R Q : List Row) (hR : R.length < sizeLine) : g1 [.int c, .lst (R.map row), .tup (Q.map row)] = .ok (.bl (judge c R Q)) := by
  apply Gd.ok_eq
  unfold g1 s1
  refine g_run _ rfl rfl ?_
  cases hq : Q with
  | nil =>
    refine g_cons fun K kn kr kb kc => ?_
    simp [evS, eE_var, eE_con, eE_op, eE_and, eE_or, eE_not, eE_ite, eE_chain, eE_call, eE_callB, eE_dcT, evEs, evC, O.borrows, O.sem, E.isVar, rd, bT_nm, bT_tp, bTs_nil, bTs_cons, ix_L, ix_T, ix_LC, oR_some, ln_L, ln_T, ln_LC, ct_L, ct_T, in_ii, ad_I, ad_L, ad_T, rp_I, ti_I, ng_I, tl_L, tl_T, tt_L, tt_T, tr_B, bq_B, ib_B, it_L, it_T, eq_int, ne_int, fMod, fDiv, fPow, isTupD, isLstD, isStrD, isBlD, Res.bind_ok, M.sem, mApp, augD, Gd_ok, Gd_bad, wipeE, isNonD, eS_nil]
    refine g_cons fun K1 kn1 kr1 kb1 kc1 => ?_
    simp [evS, eE_var, eE_con, eE_op, eE_and, eE_or, eE_not, eE_ite, eE_chain, eE_call, eE_callB, eE_dcT, evEs, evC, O.borrows, O.sem, E.isVar, rd, bT_nm, bT_tp, bTs_nil, bTs_cons, ix_L, ix_T, ix_LC, oR_some, ln_L, ln_T, ln_LC, ct_L, ct_T, in_ii, ad_I, ad_L, ad_T, rp_I, ti_I, ng_I, tl_L, tl_T, tt_L, tt_T, tr_B, bq_B, ib_B, it_L, it_T, eq_int, ne_int, fMod, fDiv, fPow, isTupD, isLstD, isStrD, isBlD, Res.bind_ok, M.sem, mApp, augD, Gd_ok, Gd_bad, wipeE, isNonD, eS_nil]
    refine kr1 _ _ (kr _ _ ?_)
    simp [judge]
  | cons q0 Q0 =>
    rw [← hq]
    obtain ⟨l, hl⟩ : ∃ l, Q.getLast? = some l := by rw [hq]; exact ⟨_, List.getLast?_cons ..⟩
    have dd := dcD_rows R [] (by simpa using hR)
    have ne : Q ≠ [] := by rw [hq]; simp
    have al := atD_neg row Q hl
    have a1 : atD [D.int l.1, .int l.2.1, .int l.2.2] 1 = some (.int l.2.1) := rfl
    refine g_cons fun K kn kr kb kc => ?_
    simp [evS, eE_var, eE_con, eE_op, eE_and, eE_or, eE_not, eE_ite, eE_chain, eE_call, eE_callB, eE_dcT, evEs, evC, O.borrows, O.sem, E.isVar, rd, bT_nm, bT_tp, bTs_nil, bTs_cons, ix_L, ix_T, ix_LC, oR_some, ln_L, ln_T, ln_LC, ct_L, ct_T, in_ii, ad_I, ad_L, ad_T, rp_I, ti_I, ng_I, tl_L, tl_T, tt_L, tt_T, tr_B, bq_B, ib_B, it_L, it_T, eq_int, ne_int, fMod, fDiv, fPow, isTupD, isLstD, isStrD, isBlD, Res.bind_ok, M.sem, mApp, augD, Gd_ok, Gd_bad, wipeE, isNonD, eS_nil, ne]
    refine kn _ ?_
    clear kn kr kb kc K
    refine g_cons fun K kn kr kb kc => ?_
    simp [evS, eE_var, eE_con, eE_op, eE_and, eE_or, eE_not, eE_ite, eE_chain, eE_call, eE_callB, eE_dcT, evEs, evC, O.borrows, O.sem, E.isVar, rd, bT_nm, bT_tp, bTs_nil, bTs_cons, ix_L, ix_T, ix_LC, oR_some, ln_L, ln_T, ln_LC, ct_L, ct_T, in_ii, ad_I, ad_L, ad_T, rp_I, ti_I, ng_I, tl_L, tl_T, tt_L, tt_T, tr_B, bq_B, ib_B, it_L, it_T, eq_int, ne_int, fMod, fDiv, fPow, isTupD, isLstD, isStrD, isBlD, Res.bind_ok, M.sem, mApp, augD, Gd_ok, Gd_bad, wipeE, isNonD, eS_nil, dd]
    refine kn _ ?_
    clear kn kr kb kc K
    refine g_fz ?_
    simp only [Den.fz, fzOne, List.getElem?_cons_succ, List.getElem?_cons_zero, List.set_cons_succ, List.set_cons_zero]
    refine g_cons fun K kn kr kb kc => ?_
    simp [evS, eE_var, eE_con, eE_op, eE_and, eE_or, eE_not, eE_ite, eE_chain, eE_call, eE_callB, eE_dcT, evEs, evC, O.borrows, O.sem, E.isVar, rd, bT_nm, bT_tp, bTs_nil, bTs_cons, ix_L, ix_T, ix_LC, oR_some, ln_L, ln_T, ln_LC, ct_L, ct_T, in_ii, ad_I, ad_L, ad_T, rp_I, ti_I, ng_I, tl_L, tl_T, tt_L, tt_T, tr_B, bq_B, ib_B, it_L, it_T, eq_int, ne_int, fMod, fDiv, fPow, isTupD, isLstD, isStrD, isBlD, Res.bind_ok, M.sem, mApp, augD, Gd_ok, Gd_bad, wipeE, isNonD, eS_nil]
    refine kn _ ?_
    clear kn kr kb kc K
    refine g_cons fun K kn kr kb kc => ?_
    simp [evS, eE_var, eE_con, eE_op, eE_and, eE_or, eE_not, eE_ite, eE_chain, eE_call, eE_callB, eE_dcT, evEs, evC, O.borrows, O.sem, E.isVar, rd, bT_nm, bT_tp, bTs_nil, bTs_cons, ix_L, ix_T, ix_LC, oR_some, ln_L, ln_T, ln_LC, ct_L, ct_T, in_ii, ad_I, ad_L, ad_T, rp_I, ti_I, ng_I, tl_L, tl_T, tt_L, tt_T, tr_B, bq_B, ib_B, it_L, it_T, eq_int, ne_int, fMod, fDiv, fPow, isTupD, isLstD, isStrD, isBlD, Res.bind_ok, M.sem, mApp, augD, Gd_ok, Gd_bad, wipeE, isNonD, eS_nil, al, ix1]
    refine kn _ ?_
    clear kn kr kb kc K
    refine g_cons fun K0 kn0 kr0 kb0 kc0 => ?_
    simp only [evS, evEs, eE_var, eE_con, eE_op, eE_call, E.isVar, rd, it_L, it_T, List.getElem?_cons_succ, List.getElem?_cons_zero, Res.bind_ok]
    refine Gd.for (fun i ρ => ∃ (a : Int) (s6 : Slot), ρ = [.val (.int c), .val (.lst (R.map row)), .val (.tup (Q.map row)), .val (.dct (dicR [] R)), .val (.int ((Q.map (·.2.2)).take i).sum), .val (.int a), s6] ∧ judge c R Q = (chain c R a (Q.drop i) && decide ((Q.map (·.2.2)).sum < 0)))
      (fun _ => True) _ 0 _ ⟨l.2.1, .un, by simp, by simp [judge, hl]⟩ (fun i hi ρ hI => ?_) (fun ρ hI => ?_)
    · obtain ⟨a, s6, rfl, hj⟩ := hI
      rw [Nat.zero_add] at hj ⊢
      rw [List.length_map] at hi
      rw [List.drop_eq_getElem_cons hi, chain] at hj
      simp only [bT_nm, List.set_cons_succ, List.set_cons_zero, Gd_ok, List.getElem_map]
      by_cases h1 : Q[i].1 = a
      · cases h2 : told c R Q[i] with
        | true =>
          rw [h1, h2, decide_eq_true rfl, Bool.true_and, Bool.true_and] at hj
          refine g_cons fun K kn kr kb kc => ?_
          simp [evS, eE_var, eE_con, eE_op, eE_and, eE_or, eE_not, eE_ite, eE_chain, eE_call, eE_callB, eE_dcT, evEs, evC, O.borrows, O.sem, E.isVar, rd, bT_nm, bT_tp, bTs_nil, bTs_cons, ix_L, ix_T, ix_LC, oR_some, ln_L, ln_T, ln_LC, ct_L, ct_T, in_ii, ad_I, ad_L, ad_T, rp_I, ti_I, ng_I, tl_L, tl_T, tt_L, tt_T, tr_B, bq_B, ib_B, it_L, it_T, eq_int, ne_int, fMod, fDiv, fPow, isTupD, isLstD, isStrD, isBlD, Res.bind_ok, M.sem, mApp, augD, Gd_ok, Gd_bad, wipeE, isNonD, eS_nil, h1, h2, told_row, ix0]
          refine kn _ ?_
          clear kn kr kb kc K
          refine g_cons fun K kn kr kb kc => ?_
          simp [evS, eE_var, eE_con, eE_op, eE_and, eE_or, eE_not, eE_ite, eE_chain, eE_call, eE_callB, eE_dcT, evEs, evC, O.borrows, O.sem, E.isVar, rd, bT_nm, bT_tp, bTs_nil, bTs_cons, ix_L, ix_T, ix_LC, oR_some, ln_L, ln_T, ln_LC, ct_L, ct_T, in_ii, ad_I, ad_L, ad_T, rp_I, ti_I, ng_I, tl_L, tl_T, tt_L, tt_T, tr_B, bq_B, ib_B, it_L, it_T, eq_int, ne_int, fMod, fDiv, fPow, isTupD, isLstD, isStrD, isBlD, Res.bind_ok, M.sem, mApp, augD, Gd_ok, Gd_bad, wipeE, isNonD, eS_nil, ix1]
          refine kn _ ?_
          clear kn kr kb kc K
          refine g_cons fun K kn kr kb kc => ?_
          simp [evS, eE_var, eE_con, eE_op, eE_and, eE_or, eE_not, eE_ite, eE_chain, eE_call, eE_callB, eE_dcT, evEs, evC, O.borrows, O.sem, E.isVar, rd, bT_nm, bT_tp, bTs_nil, bTs_cons, ix_L, ix_T, ix_LC, oR_some, ln_L, ln_T, ln_LC, ct_L, ct_T, in_ii, ad_I, ad_L, ad_T, rp_I, ti_I, ng_I, tl_L, tl_T, tt_L, tt_T, tr_B, bq_B, ib_B, it_L, it_T, eq_int, ne_int, fMod, fDiv, fPow, isTupD, isLstD, isStrD, isBlD, Res.bind_ok, M.sem, mApp, augD, Gd_ok, Gd_bad, wipeE, isNonD, eS_nil, ix2]
          refine kn _ ?_
          clear kn kr kb kc K
          exact g_nil ⟨_, .val (row Q[i]), by rw [sum_take hi], hj⟩
        | false =>
          rw [h2, Bool.and_false, Bool.false_and, Bool.false_and] at hj
          refine g_cons fun K kn kr kb kc => ?_
          simp [evS, eE_var, eE_con, eE_op, eE_and, eE_or, eE_not, eE_ite, eE_chain, eE_call, eE_callB, eE_dcT, evEs, evC, O.borrows, O.sem, E.isVar, rd, bT_nm, bT_tp, bTs_nil, bTs_cons, ix_L, ix_T, ix_LC, oR_some, ln_L, ln_T, ln_LC, ct_L, ct_T, in_ii, ad_I, ad_L, ad_T, rp_I, ti_I, ng_I, tl_L, tl_T, tt_L, tt_T, tr_B, bq_B, ib_B, it_L, it_T, eq_int, ne_int, fMod, fDiv, fPow, isTupD, isLstD, isStrD, isBlD, Res.bind_ok, M.sem, mApp, augD, Gd_ok, Gd_bad, wipeE, isNonD, eS_nil, h1, h2, told_row, ix0]
          refine g_cons fun K1 kn1 kr1 kb1 kc1 => ?_
          simp [evS, eE_var, eE_con, eE_op, eE_and, eE_or, eE_not, eE_ite, eE_chain, eE_call, eE_callB, eE_dcT, evEs, evC, O.borrows, O.sem, E.isVar, rd, bT_nm, bT_tp, bTs_nil, bTs_cons, ix_L, ix_T, ix_LC, oR_some, ln_L, ln_T, ln_LC, ct_L, ct_T, in_ii, ad_I, ad_L, ad_T, rp_I, ti_I, ng_I, tl_L, tl_T, tt_L, tt_T, tr_B, bq_B, ib_B, it_L, it_T, eq_int, ne_int, fMod, fDiv, fPow, isTupD, isLstD, isStrD, isBlD, Res.bind_ok, M.sem, mApp, augD, Gd_ok, Gd_bad, wipeE, isNonD, eS_nil]
          refine kr1 _ _ (kr _ _ ?_)
          exact kr0 _ _ (by rw [hj])
      · rw [decide_eq_false h1, Bool.false_and, Bool.false_and, Bool.false_and] at hj
        refine g_cons fun K kn kr kb kc => ?_
        simp [evS, eE_var, eE_con, eE_op, eE_and, eE_or, eE_not, eE_ite, eE_chain, eE_call, eE_callB, eE_dcT, evEs, evC, O.borrows, O.sem, E.isVar, rd, bT_nm, bT_tp, bTs_nil, bTs_cons, ix_L, ix_T, ix_LC, oR_some, ln_L, ln_T, ln_LC, ct_L, ct_T, in_ii, ad_I, ad_L, ad_T, rp_I, ti_I, ng_I, tl_L, tl_T, tt_L, tt_T, tr_B, bq_B, ib_B, it_L, it_T, eq_int, ne_int, fMod, fDiv, fPow, isTupD, isLstD, isStrD, isBlD, Res.bind_ok, M.sem, mApp, augD, Gd_ok, Gd_bad, wipeE, isNonD, eS_nil, h1, told_row, ix0]
        refine g_cons fun K1 kn1 kr1 kb1 kc1 => ?_
        simp [evS, eE_var, eE_con, eE_op, eE_and, eE_or, eE_not, eE_ite, eE_chain, eE_call, eE_callB, eE_dcT, evEs, evC, O.borrows, O.sem, E.isVar, rd, bT_nm, bT_tp, bTs_nil, bTs_cons, ix_L, ix_T, ix_LC, oR_some, ln_L, ln_T, ln_LC, ct_L, ct_T, in_ii, ad_I, ad_L, ad_T, rp_I, ti_I, ng_I, tl_L, tl_T, tt_L, tt_T, tr_B, bq_B, ib_B, it_L, it_T, eq_int, ne_int, fMod, fDiv, fPow, isTupD, isLstD, isStrD, isBlD, Res.bind_ok, M.sem, mApp, augD, Gd_ok, Gd_bad, wipeE, isNonD, eS_nil]
        refine kr1 _ _ (kr _ _ ?_)
        exact kr0 _ _ (by rw [hj])
    · obtain ⟨a, s6, rfl, hj⟩ := hI
      refine kn0 _ ?_
      simp only [List.length_map, Nat.zero_add, List.drop_length, chain, Bool.true_and] at hj
      have full : (Q.map (·.2.2)).take Q.length = Q.map (·.2.2) := List.take_of_length_le (by simp)
      simp only [List.length_map, Nat.zero_add, full]
      refine g_cons fun K kn kr kb kc => ?_
      simp [evS, eE_var, eE_con, eE_op, eE_and, eE_or, eE_not, eE_ite, eE_chain, eE_call, eE_callB, eE_dcT, evEs, evC, O.borrows, O.sem, E.isVar, rd, bT_nm, bT_tp, bTs_nil, bTs_cons, ix_L, ix_T, ix_LC, oR_some, ln_L, ln_T, ln_LC, ct_L, ct_T, in_ii, ad_I, ad_L, ad_T, rp_I, ti_I, ng_I, tl_L, tl_T, tt_L, tt_T, tr_B, bq_B, ib_B, it_L, it_T, eq_int, ne_int, fMod, fDiv, fPow, isTupD, isLstD, isStrD, isBlD, Res.bind_ok, M.sem, mApp, augD, Gd_ok, Gd_bad, wipeE, isNonD, eS_nil]
      refine kr _ _ ?_
      clear kn kr kb kc K
      dsimp only
      rw [hj]
/-- the second of the row ahead, the last one's ahead of the first -/
def prv (Q : List Row) : Nat → Int
  | 0 => ((Q.getLast?).map (·.2.1)).getD 0
  | i + 1 => ((Q[i]?).map (·.2.1)).getD 0
theorem prv_at {Q : List Row} {i : Nat} (hi : i < Q.length) : ∃ r : Row, atD (Q.map row) ((i : Int) - 1) = some (row r) ∧ r.2.1 = prv Q i := by
  cases i with
  | zero =>
    obtain ⟨l, hl⟩ : ∃ l, Q.getLast? = some l := ⟨_, List.getLast?_eq_some_getLast (fun e => by rw [e] at hi; simp at hi)⟩
    exact ⟨l, by simpa using atD_neg row Q hl, by simp [prv, hl]⟩
  | succ i =>
    have e : ((i + 1 : Nat) : Int) - 1 = (i : Int) := by omega
    have q := atD_pos row Q (i := (i : Int)) (by omega) (by omega)
    exact ⟨Q[i], by rw [e, q]; rfl, by simp [prv, List.getElem?_eq_getElem (show i < Q.length by omega)]⟩
theorem bT_row (a b c : Nat) (r : Row) (ρ : En) : bindT (.tp [.nm a, .nm b, .nm c]) (row r) ρ = .ok (((ρ.set a (.val (.int r.1))).set b (.val (.int r.2.1))).set c (.val (.int r.2.2))) := by
  unfold row
  rw [bT_tp, bTs_cons, bT_nm, Res.bind_ok, bTs_cons, bT_nm, Res.bind_ok, bTs_cons, bT_nm, Res.bind_ok, bTs_nil]
theorem notIn_lst (q : Row) (R : List Row) : sIn true (row q) (.lst (R.map row)) = .ok (.bl (!decide (q ∈ R))) := by
  have e : ((R.map row).any fun z => eqD z (row q)) = decide (q ∈ R) := by
    rw [List.any_map]
    refine Bool.eq_iff_iff.mpr ?_
    simp only [List.any_eq_true, Function.comp, eqD_row, decide_eq_true_eq, exists_eq_right]
  simp only [sIn, plain_row, plain_lst, Bool.and_self, if_true, e]
theorem judge_nil (c : Int) (R : List Row) : judge c R [] = false := rfl
theorem judge_eq (c : Int) (R Q : List Row) (h : Q ≠ []) : judge c R Q = (chain c R (prv Q 0) Q && decide ((Q.map (·.2.2)).sum < 0)) := by
  obtain ⟨l, hl⟩ : ∃ l, Q.getLast? = some l := ⟨_, List.getLast?_eq_some_getLast h⟩
  simp [judge, prv, hl]
theorem closes_ok (c : Int) (R Q : List Row) (hq : Q.length < 1000000) : g7 [.int c, .lst (R.map row), .tup (Q.map row)] = .ok (.bl (judge c R Q)) := by
  apply Gd.ok_eq
  unfold g7
  refine g_run _ rfl rfl ?_
  unfold s7
  have rg := rng_len Q.length hq
  refine g_cons fun K kn kr kb kc => ?_
  simp [evS, eE_var, eE_con, eE_op, eE_and, eE_or, eE_not, eE_ite, eE_chain, eE_call, eE_callB, eE_dcT, evEs, evC, O.borrows, O.sem, E.isVar, rd, bT_nm, bT_tp, bTs_nil, bTs_cons, ix_L, ix_T, ix_LC, oR_some, ln_L, ln_T, ln_LC, ct_L, ct_T, in_ii, ad_I, ad_L, ad_T, rp_I, ti_I, ng_I, tl_L, tl_T, tt_L, tt_T, tr_B, bq_B, ib_B, it_L, it_T, eq_int, ne_int, fMod, fDiv, fPow, isTupD, isLstD, isStrD, isBlD, Res.bind_ok, M.sem, mApp, augD, Gd_ok, Gd_bad, wipeE, isNonD, eS_nil]
  refine kn _ ?_
  clear kn kr kb kc K
  refine g_cons fun K0 kn0 kr0 kb0 kc0 => ?_
  simp only [evS, evEs, eE_var, eE_con, eE_op, eE_call, E.isVar, rd, it_L, it_T, List.getElem?_cons_succ, List.getElem?_cons_zero, Res.bind_ok, O.borrows, O.sem, ln_T, List.length_map, it_R _ rg]
  have lenR : ((List.range ((Q.length : Int)).toNat).map fun k => D.int (k : Nat)).length = Q.length := by simp
  refine Gd.for (fun i ρ => ∃ (s4 s5 s6 s7 : Slot), ρ = [.val (.int c), .val (.lst (R.map row)), .val (.tup (Q.map row)), .val (.int ((Q.map (·.2.2)).take i).sum), s4, s5, s6, s7] ∧ (Q ≠ [] → judge c R Q = (chain c R (prv Q i) (Q.drop i) && decide ((Q.map (·.2.2)).sum < 0))))
    (fun _ => True) _ 0 _ ⟨.un, .un, .un, .un, by simp, fun h => by simpa using judge_eq c R Q h⟩ (fun i hi ρ hI => ?_) (fun ρ hI => ?_)
  · obtain ⟨s4, s5, s6, s7, rfl, hj⟩ := hI
    rw [Nat.zero_add] at hj ⊢
    rw [lenR] at hi
    have hj := hj (fun e => by rw [e] at hi; simp at hi)
    rw [List.drop_eq_getElem_cons hi, chain] at hj
    obtain ⟨r, er, e2⟩ := prv_at hi
    have ei := atD_pos row Q (i := (i : Int)) (by omega) (by omega)
    simp only [Int.toNat_natCast] at ei
    simp only [bT_nm, List.set_cons_succ, List.set_cons_zero, Gd_ok, List.getElem_map]
    simp only [List.getElem_range]
    refine g_cons fun K kn kr kb kc => ?_
    simp [evS, eE_var, eE_con, eE_op, eE_and, eE_or, eE_not, eE_ite, eE_chain, eE_call, eE_callB, eE_dcT, evEs, evC, O.borrows, O.sem, E.isVar, rd, bT_nm, bT_tp, bTs_nil, bTs_cons, ix_L, ix_T, ix_LC, oR_some, ln_L, ln_T, ln_LC, ct_L, ct_T, in_ii, ad_I, ad_L, ad_T, rp_I, ti_I, ng_I, tl_L, tl_T, tt_L, tt_T, tr_B, bq_B, ib_B, it_L, it_T, eq_int, ne_int, fMod, fDiv, fPow, isTupD, isLstD, isStrD, isBlD, Res.bind_ok, M.sem, mApp, augD, Gd_ok, Gd_bad, wipeE, isNonD, eS_nil, ei, bT_row]
    refine kn _ ?_
    clear kn kr kb kc K
    have yes : told c R Q[i] = true → (Q[i] ∈ R) ∨ (Q[i] ∉ R ∧ Q[i].1 = 0 ∧ Q[i].2.2 = 0 ∧ 0 ≤ Q[i].2.1 ∧ Q[i].2.1 < c) := by
      intro h
      by_cases m : Q[i] ∈ R
      · exact .inl m
      · simp only [told, m, decide_false, Bool.false_or, Bool.and_eq_true, decide_eq_true_eq] at h
        exact .inr ⟨m, h⟩
    have no : told c R Q[i] = false → Q[i] ∉ R ∧ (Q[i].1 ≠ 0 ∨ (Q[i].1 = 0 ∧ Q[i].2.2 ≠ 0) ∨ (Q[i].1 = 0 ∧ Q[i].2.2 = 0 ∧ ¬ 0 ≤ Q[i].2.1) ∨ (Q[i].1 = 0 ∧ Q[i].2.2 = 0 ∧ 0 ≤ Q[i].2.1 ∧ ¬ Q[i].2.1 < c)) := by
      intro h
      by_cases m : Q[i] ∈ R
      · simp [told, m] at h
      · refine ⟨m, ?_⟩
        by_cases z1 : Q[i].1 = 0
        · by_cases z3 : Q[i].2.2 = 0
          · by_cases z2 : 0 ≤ Q[i].2.1
            · by_cases z4 : Q[i].2.1 < c
              · simp [told, m, z1, z2, z3, z4] at h
              · exact .inr (.inr (.inr ⟨z1, z3, z2, z4⟩))
            · exact .inr (.inr (.inl ⟨z1, z3, z2⟩))
          · exact .inr (.inl ⟨z1, z3⟩)
        · exact .inl z1
    cases ht : told c R Q[i] with
    | true =>
      rw [ht, Bool.and_true] at hj
      rcases yes ht with m | ⟨m, z1, z3, z2, z4⟩
      ·
        refine g_cons fun K kn kr kb kc => ?_
        simp [evS, eE_var, eE_con, eE_op, eE_and, eE_or, eE_not, eE_ite, eE_chain, eE_call, eE_callB, eE_dcT, evEs, evC, O.borrows, O.sem, E.isVar, rd, bT_nm, bT_tp, bTs_nil, bTs_cons, ix_L, ix_T, ix_LC, oR_some, ln_L, ln_T, ln_LC, ct_L, ct_T, in_ii, ad_I, ad_L, ad_T, rp_I, ti_I, ng_I, tl_L, tl_T, tt_L, tt_T, tr_B, bq_B, ib_B, it_L, it_T, eq_int, ne_int, fMod, fDiv, fPow, isTupD, isLstD, isStrD, isBlD, Res.bind_ok, M.sem, mApp, augD, Gd_ok, Gd_bad, wipeE, isNonD, eS_nil, ei, notIn_lst, m]
        refine kn _ ?_
        clear kn kr kb kc K
        by_cases e3 : Q[i].1 = prv Q i
        · rw [decide_eq_true e3, Bool.true_and] at hj
          refine g_cons fun K kn kr kb kc => ?_
          simp [evS, eE_var, eE_con, eE_op, eE_and, eE_or, eE_not, eE_ite, eE_chain, eE_call, eE_callB, eE_dcT, evEs, evC, O.borrows, O.sem, E.isVar, rd, bT_nm, bT_tp, bTs_nil, bTs_cons, ix_L, ix_T, ix_LC, oR_some, ln_L, ln_T, ln_LC, ct_L, ct_T, in_ii, ad_I, ad_L, ad_T, rp_I, ti_I, ng_I, tl_L, tl_T, tt_L, tt_T, tr_B, bq_B, ib_B, it_L, it_T, eq_int, ne_int, fMod, fDiv, fPow, isTupD, isLstD, isStrD, isBlD, Res.bind_ok, M.sem, mApp, augD, Gd_ok, Gd_bad, wipeE, isNonD, eS_nil, er, ix1, e2, e3]
          refine kn _ ?_
          clear kn kr kb kc K
          refine g_cons fun K kn kr kb kc => ?_
          simp [evS, eE_var, eE_con, eE_op, eE_and, eE_or, eE_not, eE_ite, eE_chain, eE_call, eE_callB, eE_dcT, evEs, evC, O.borrows, O.sem, E.isVar, rd, bT_nm, bT_tp, bTs_nil, bTs_cons, ix_L, ix_T, ix_LC, oR_some, ln_L, ln_T, ln_LC, ct_L, ct_T, in_ii, ad_I, ad_L, ad_T, rp_I, ti_I, ng_I, tl_L, tl_T, tt_L, tt_T, tr_B, bq_B, ib_B, it_L, it_T, eq_int, ne_int, fMod, fDiv, fPow, isTupD, isLstD, isStrD, isBlD, Res.bind_ok, M.sem, mApp, augD, Gd_ok, Gd_bad, wipeE, isNonD, eS_nil]
          refine kn _ ?_
          clear kn kr kb kc K
          exact g_nil ⟨_, _, _, _, by rw [sum_take hi], fun _ => by simpa [prv, List.getElem?_eq_getElem hi] using hj⟩
        · rw [decide_eq_false e3, Bool.false_and, Bool.false_and] at hj
          refine g_cons fun K kn kr kb kc => ?_
          simp [evS, eE_var, eE_con, eE_op, eE_and, eE_or, eE_not, eE_ite, eE_chain, eE_call, eE_callB, eE_dcT, evEs, evC, O.borrows, O.sem, E.isVar, rd, bT_nm, bT_tp, bTs_nil, bTs_cons, ix_L, ix_T, ix_LC, oR_some, ln_L, ln_T, ln_LC, ct_L, ct_T, in_ii, ad_I, ad_L, ad_T, rp_I, ti_I, ng_I, tl_L, tl_T, tt_L, tt_T, tr_B, bq_B, ib_B, it_L, it_T, eq_int, ne_int, fMod, fDiv, fPow, isTupD, isLstD, isStrD, isBlD, Res.bind_ok, M.sem, mApp, augD, Gd_ok, Gd_bad, wipeE, isNonD, eS_nil, er, ix1, e2, e3]
          refine g_cons fun K1 kn1 kr1 kb1 kc1 => ?_
          simp [evS, eE_var, eE_con, eE_op, eE_and, eE_or, eE_not, eE_ite, eE_chain, eE_call, eE_callB, eE_dcT, evEs, evC, O.borrows, O.sem, E.isVar, rd, bT_nm, bT_tp, bTs_nil, bTs_cons, ix_L, ix_T, ix_LC, oR_some, ln_L, ln_T, ln_LC, ct_L, ct_T, in_ii, ad_I, ad_L, ad_T, rp_I, ti_I, ng_I, tl_L, tl_T, tt_L, tt_T, tr_B, bq_B, ib_B, it_L, it_T, eq_int, ne_int, fMod, fDiv, fPow, isTupD, isLstD, isStrD, isBlD, Res.bind_ok, M.sem, mApp, augD, Gd_ok, Gd_bad, wipeE, isNonD, eS_nil]
          refine kr1 _ _ (kr _ _ ?_)
          exact kr0 _ _ (by rw [hj])
      · rw [z1] at hj
        refine g_cons fun K kn kr kb kc => ?_
        simp [evS, eE_var, eE_con, eE_op, eE_and, eE_or, eE_not, eE_ite, eE_chain, eE_call, eE_callB, eE_dcT, evEs, evC, O.borrows, O.sem, E.isVar, rd, bT_nm, bT_tp, bTs_nil, bTs_cons, ix_L, ix_T, ix_LC, oR_some, ln_L, ln_T, ln_LC, ct_L, ct_T, in_ii, ad_I, ad_L, ad_T, rp_I, ti_I, ng_I, tl_L, tl_T, tt_L, tt_T, tr_B, bq_B, ib_B, it_L, it_T, eq_int, ne_int, fMod, fDiv, fPow, isTupD, isLstD, isStrD, isBlD, Res.bind_ok, M.sem, mApp, augD, Gd_ok, Gd_bad, wipeE, isNonD, eS_nil, ei, notIn_lst, m, z1, z3, z2, z4]
        refine kn _ ?_
        clear kn kr kb kc K
        by_cases e3 : prv Q i = 0
        · rw [decide_eq_true e3.symm, Bool.true_and] at hj
          refine g_cons fun K kn kr kb kc => ?_
          simp [evS, eE_var, eE_con, eE_op, eE_and, eE_or, eE_not, eE_ite, eE_chain, eE_call, eE_callB, eE_dcT, evEs, evC, O.borrows, O.sem, E.isVar, rd, bT_nm, bT_tp, bTs_nil, bTs_cons, ix_L, ix_T, ix_LC, oR_some, ln_L, ln_T, ln_LC, ct_L, ct_T, in_ii, ad_I, ad_L, ad_T, rp_I, ti_I, ng_I, tl_L, tl_T, tt_L, tt_T, tr_B, bq_B, ib_B, it_L, it_T, eq_int, ne_int, fMod, fDiv, fPow, isTupD, isLstD, isStrD, isBlD, Res.bind_ok, M.sem, mApp, augD, Gd_ok, Gd_bad, wipeE, isNonD, eS_nil, er, ix1, e2, e3]
          refine kn _ ?_
          clear kn kr kb kc K
          refine g_cons fun K kn kr kb kc => ?_
          simp [evS, eE_var, eE_con, eE_op, eE_and, eE_or, eE_not, eE_ite, eE_chain, eE_call, eE_callB, eE_dcT, evEs, evC, O.borrows, O.sem, E.isVar, rd, bT_nm, bT_tp, bTs_nil, bTs_cons, ix_L, ix_T, ix_LC, oR_some, ln_L, ln_T, ln_LC, ct_L, ct_T, in_ii, ad_I, ad_L, ad_T, rp_I, ti_I, ng_I, tl_L, tl_T, tt_L, tt_T, tr_B, bq_B, ib_B, it_L, it_T, eq_int, ne_int, fMod, fDiv, fPow, isTupD, isLstD, isStrD, isBlD, Res.bind_ok, M.sem, mApp, augD, Gd_ok, Gd_bad, wipeE, isNonD, eS_nil]
          refine kn _ ?_
          clear kn kr kb kc K
          exact g_nil ⟨_, _, _, _, by rw [sum_take hi, z3, Int.add_zero], fun _ => by simpa [prv, List.getElem?_eq_getElem hi] using hj⟩
        · have e4 : ¬ (0 : Int) = prv Q i := fun h => e3 h.symm
          rw [decide_eq_false e4, Bool.false_and, Bool.false_and] at hj
          refine g_cons fun K kn kr kb kc => ?_
          simp [evS, eE_var, eE_con, eE_op, eE_and, eE_or, eE_not, eE_ite, eE_chain, eE_call, eE_callB, eE_dcT, evEs, evC, O.borrows, O.sem, E.isVar, rd, bT_nm, bT_tp, bTs_nil, bTs_cons, ix_L, ix_T, ix_LC, oR_some, ln_L, ln_T, ln_LC, ct_L, ct_T, in_ii, ad_I, ad_L, ad_T, rp_I, ti_I, ng_I, tl_L, tl_T, tt_L, tt_T, tr_B, bq_B, ib_B, it_L, it_T, eq_int, ne_int, fMod, fDiv, fPow, isTupD, isLstD, isStrD, isBlD, Res.bind_ok, M.sem, mApp, augD, Gd_ok, Gd_bad, wipeE, isNonD, eS_nil, er, ix1, e2, e4]
          refine g_cons fun K1 kn1 kr1 kb1 kc1 => ?_
          simp [evS, eE_var, eE_con, eE_op, eE_and, eE_or, eE_not, eE_ite, eE_chain, eE_call, eE_callB, eE_dcT, evEs, evC, O.borrows, O.sem, E.isVar, rd, bT_nm, bT_tp, bTs_nil, bTs_cons, ix_L, ix_T, ix_LC, oR_some, ln_L, ln_T, ln_LC, ct_L, ct_T, in_ii, ad_I, ad_L, ad_T, rp_I, ti_I, ng_I, tl_L, tl_T, tt_L, tt_T, tr_B, bq_B, ib_B, it_L, it_T, eq_int, ne_int, fMod, fDiv, fPow, isTupD, isLstD, isStrD, isBlD, Res.bind_ok, M.sem, mApp, augD, Gd_ok, Gd_bad, wipeE, isNonD, eS_nil]
          refine kr1 _ _ (kr _ _ ?_)
          exact kr0 _ _ (by rw [hj])
    | false =>
      rw [ht, Bool.and_false, Bool.false_and, Bool.false_and] at hj
      obtain ⟨m, z⟩ := no ht
      rcases z with z1 | ⟨z1, z3⟩ | ⟨z1, z3, z2⟩ | ⟨z1, z3, z2, z4⟩
      ·
        refine g_cons fun K kn kr kb kc => ?_
        simp [evS, eE_var, eE_con, eE_op, eE_and, eE_or, eE_not, eE_ite, eE_chain, eE_call, eE_callB, eE_dcT, evEs, evC, O.borrows, O.sem, E.isVar, rd, bT_nm, bT_tp, bTs_nil, bTs_cons, ix_L, ix_T, ix_LC, oR_some, ln_L, ln_T, ln_LC, ct_L, ct_T, in_ii, ad_I, ad_L, ad_T, rp_I, ti_I, ng_I, tl_L, tl_T, tt_L, tt_T, tr_B, bq_B, ib_B, it_L, it_T, eq_int, ne_int, fMod, fDiv, fPow, isTupD, isLstD, isStrD, isBlD, Res.bind_ok, M.sem, mApp, augD, Gd_ok, Gd_bad, wipeE, isNonD, eS_nil, ei, notIn_lst, m, z1]
        refine g_cons fun K1 kn1 kr1 kb1 kc1 => ?_
        simp [evS, eE_var, eE_con, eE_op, eE_and, eE_or, eE_not, eE_ite, eE_chain, eE_call, eE_callB, eE_dcT, evEs, evC, O.borrows, O.sem, E.isVar, rd, bT_nm, bT_tp, bTs_nil, bTs_cons, ix_L, ix_T, ix_LC, oR_some, ln_L, ln_T, ln_LC, ct_L, ct_T, in_ii, ad_I, ad_L, ad_T, rp_I, ti_I, ng_I, tl_L, tl_T, tt_L, tt_T, tr_B, bq_B, ib_B, it_L, it_T, eq_int, ne_int, fMod, fDiv, fPow, isTupD, isLstD, isStrD, isBlD, Res.bind_ok, M.sem, mApp, augD, Gd_ok, Gd_bad, wipeE, isNonD, eS_nil]
        refine kr1 _ _ (kr _ _ ?_)
        exact kr0 _ _ (by rw [hj])
      ·
        refine g_cons fun K kn kr kb kc => ?_
        simp [evS, eE_var, eE_con, eE_op, eE_and, eE_or, eE_not, eE_ite, eE_chain, eE_call, eE_callB, eE_dcT, evEs, evC, O.borrows, O.sem, E.isVar, rd, bT_nm, bT_tp, bTs_nil, bTs_cons, ix_L, ix_T, ix_LC, oR_some, ln_L, ln_T, ln_LC, ct_L, ct_T, in_ii, ad_I, ad_L, ad_T, rp_I, ti_I, ng_I, tl_L, tl_T, tt_L, tt_T, tr_B, bq_B, ib_B, it_L, it_T, eq_int, ne_int, fMod, fDiv, fPow, isTupD, isLstD, isStrD, isBlD, Res.bind_ok, M.sem, mApp, augD, Gd_ok, Gd_bad, wipeE, isNonD, eS_nil, ei, notIn_lst, m, z1, z3]
        refine g_cons fun K1 kn1 kr1 kb1 kc1 => ?_
        simp [evS, eE_var, eE_con, eE_op, eE_and, eE_or, eE_not, eE_ite, eE_chain, eE_call, eE_callB, eE_dcT, evEs, evC, O.borrows, O.sem, E.isVar, rd, bT_nm, bT_tp, bTs_nil, bTs_cons, ix_L, ix_T, ix_LC, oR_some, ln_L, ln_T, ln_LC, ct_L, ct_T, in_ii, ad_I, ad_L, ad_T, rp_I, ti_I, ng_I, tl_L, tl_T, tt_L, tt_T, tr_B, bq_B, ib_B, it_L, it_T, eq_int, ne_int, fMod, fDiv, fPow, isTupD, isLstD, isStrD, isBlD, Res.bind_ok, M.sem, mApp, augD, Gd_ok, Gd_bad, wipeE, isNonD, eS_nil]
        refine kr1 _ _ (kr _ _ ?_)
        exact kr0 _ _ (by rw [hj])
      ·
        refine g_cons fun K kn kr kb kc => ?_
        simp [evS, eE_var, eE_con, eE_op, eE_and, eE_or, eE_not, eE_ite, eE_chain, eE_call, eE_callB, eE_dcT, evEs, evC, O.borrows, O.sem, E.isVar, rd, bT_nm, bT_tp, bTs_nil, bTs_cons, ix_L, ix_T, ix_LC, oR_some, ln_L, ln_T, ln_LC, ct_L, ct_T, in_ii, ad_I, ad_L, ad_T, rp_I, ti_I, ng_I, tl_L, tl_T, tt_L, tt_T, tr_B, bq_B, ib_B, it_L, it_T, eq_int, ne_int, fMod, fDiv, fPow, isTupD, isLstD, isStrD, isBlD, Res.bind_ok, M.sem, mApp, augD, Gd_ok, Gd_bad, wipeE, isNonD, eS_nil, ei, notIn_lst, m, z1, z3, z2]
        refine g_cons fun K1 kn1 kr1 kb1 kc1 => ?_
        simp [evS, eE_var, eE_con, eE_op, eE_and, eE_or, eE_not, eE_ite, eE_chain, eE_call, eE_callB, eE_dcT, evEs, evC, O.borrows, O.sem, E.isVar, rd, bT_nm, bT_tp, bTs_nil, bTs_cons, ix_L, ix_T, ix_LC, oR_some, ln_L, ln_T, ln_LC, ct_L, ct_T, in_ii, ad_I, ad_L, ad_T, rp_I, ti_I, ng_I, tl_L, tl_T, tt_L, tt_T, tr_B, bq_B, ib_B, it_L, it_T, eq_int, ne_int, fMod, fDiv, fPow, isTupD, isLstD, isStrD, isBlD, Res.bind_ok, M.sem, mApp, augD, Gd_ok, Gd_bad, wipeE, isNonD, eS_nil]
        refine kr1 _ _ (kr _ _ ?_)
        exact kr0 _ _ (by rw [hj])
      ·
        refine g_cons fun K kn kr kb kc => ?_
        simp [evS, eE_var, eE_con, eE_op, eE_and, eE_or, eE_not, eE_ite, eE_chain, eE_call, eE_callB, eE_dcT, evEs, evC, O.borrows, O.sem, E.isVar, rd, bT_nm, bT_tp, bTs_nil, bTs_cons, ix_L, ix_T, ix_LC, oR_some, ln_L, ln_T, ln_LC, ct_L, ct_T, in_ii, ad_I, ad_L, ad_T, rp_I, ti_I, ng_I, tl_L, tl_T, tt_L, tt_T, tr_B, bq_B, ib_B, it_L, it_T, eq_int, ne_int, fMod, fDiv, fPow, isTupD, isLstD, isStrD, isBlD, Res.bind_ok, M.sem, mApp, augD, Gd_ok, Gd_bad, wipeE, isNonD, eS_nil, ei, notIn_lst, m, z1, z3, z2, z4]
        refine g_cons fun K1 kn1 kr1 kb1 kc1 => ?_
        simp [evS, eE_var, eE_con, eE_op, eE_and, eE_or, eE_not, eE_ite, eE_chain, eE_call, eE_callB, eE_dcT, evEs, evC, O.borrows, O.sem, E.isVar, rd, bT_nm, bT_tp, bTs_nil, bTs_cons, ix_L, ix_T, ix_LC, oR_some, ln_L, ln_T, ln_LC, ct_L, ct_T, in_ii, ad_I, ad_L, ad_T, rp_I, ti_I, ng_I, tl_L, tl_T, tt_L, tt_T, tr_B, bq_B, ib_B, it_L, it_T, eq_int, ne_int, fMod, fDiv, fPow, isTupD, isLstD, isStrD, isBlD, Res.bind_ok, M.sem, mApp, augD, Gd_ok, Gd_bad, wipeE, isNonD, eS_nil]
        refine kr1 _ _ (kr _ _ ?_)
        exact kr0 _ _ (by rw [hj])
  · obtain ⟨s4, s5, s6, s7, rfl, hj⟩ := hI
    refine kn0 _ ?_
    have full : (Q.map (·.2.2)).take Q.length = Q.map (·.2.2) := List.take_of_length_le (by simp)
    rw [lenR] at hj ⊢
    simp only [Nat.zero_add, full, List.drop_length, chain, Bool.true_and] at hj ⊢
    by_cases e : Q = []
    · subst e
      refine g_cons fun K kn kr kb kc => ?_
      simp [evS, eE_var, eE_con, eE_op, eE_and, eE_or, eE_not, eE_ite, eE_chain, eE_call, eE_callB, eE_dcT, evEs, evC, O.borrows, O.sem, E.isVar, rd, bT_nm, bT_tp, bTs_nil, bTs_cons, ix_L, ix_T, ix_LC, oR_some, ln_L, ln_T, ln_LC, ct_L, ct_T, in_ii, ad_I, ad_L, ad_T, rp_I, ti_I, ng_I, tl_L, tl_T, tt_L, tt_T, tr_B, bq_B, ib_B, it_L, it_T, eq_int, ne_int, fMod, fDiv, fPow, isTupD, isLstD, isStrD, isBlD, Res.bind_ok, M.sem, mApp, augD, Gd_ok, Gd_bad, wipeE, isNonD, eS_nil]
      refine kr _ _ ?_
      clear kn kr kb kc K
      dsimp only
      simp [judge_nil]
    · have pos : 0 < Q.length := List.length_pos_iff.mpr e
      refine g_cons fun K kn kr kb kc => ?_
      simp [evS, eE_var, eE_con, eE_op, eE_and, eE_or, eE_not, eE_ite, eE_chain, eE_call, eE_callB, eE_dcT, evEs, evC, O.borrows, O.sem, E.isVar, rd, bT_nm, bT_tp, bTs_nil, bTs_cons, ix_L, ix_T, ix_LC, oR_some, ln_L, ln_T, ln_LC, ct_L, ct_T, in_ii, ad_I, ad_L, ad_T, rp_I, ti_I, ng_I, tl_L, tl_T, tt_L, tt_T, tr_B, bq_B, ib_B, it_L, it_T, eq_int, ne_int, fMod, fDiv, fPow, isTupD, isLstD, isStrD, isBlD, Res.bind_ok, M.sem, mApp, augD, Gd_ok, Gd_bad, wipeE, isNonD, eS_nil, pos]
      refine kr _ _ ?_
      clear kn kr kb kc K
      dsimp only
      rw [hj e]
end K32

namespace K32
open PySem Den L2
theorem eq_lst (R : List Row) : sEq false (.lst (R.map row)) (.lst (R.map row)) = .ok (.bl true) := by
  simp [sEq, plain_lst, eqD_lst]
theorem judged_ok (c : Int) (R Q : List Row) (hR : R.length < sizeLine) (hq : Q.length < 1000000) : g8 [.int c, .lst (R.map row), .tup (Q.map row)] = .ok (.bl true) := by
  apply Gd.ok_eq
  unfold g8 s8
  refine g_run _ rfl rfl ?_
  refine g_cons fun K kn kr kb kc => ?_
  simp [evS, eE_var, eE_con, eE_op, eE_and, eE_or, eE_not, eE_ite, eE_chain, eE_call, eE_callB, eE_dcT, evEs, evC, O.borrows, O.sem, E.isVar, rd, bT_nm, bT_tp, bTs_nil, bTs_cons, ix_L, ix_T, ix_LC, oR_some, ln_L, ln_T, ln_LC, ct_L, ct_T, in_ii, ad_I, ad_L, ad_T, rp_I, ti_I, ng_I, tl_L, tl_T, tt_L, tt_T, tr_B, bq_B, ib_B, it_L, it_T, eq_int, ne_int, fMod, fDiv, fPow, isTupD, isLstD, isStrD, isBlD, Res.bind_ok, M.sem, mApp, augD, Gd_ok, Gd_bad, wipeE, isNonD, eS_nil, closes_ok c R Q hq]
  refine kn _ ?_
  clear kn kr kb kc K
  refine g_cons fun K kn kr kb kc => ?_
  simp [evS, eE_var, eE_con, eE_op, eE_and, eE_or, eE_not, eE_ite, eE_chain, eE_call, eE_callB, eE_dcT, evEs, evC, O.borrows, O.sem, E.isVar, rd, bT_nm, bT_tp, bTs_nil, bTs_cons, ix_L, ix_T, ix_LC, oR_some, ln_L, ln_T, ln_LC, ct_L, ct_T, in_ii, ad_I, ad_L, ad_T, rp_I, ti_I, ng_I, tl_L, tl_T, tt_L, tt_T, tr_B, bq_B, ib_B, it_L, it_T, eq_int, ne_int, fMod, fDiv, fPow, isTupD, isLstD, isStrD, isBlD, Res.bind_ok, M.sem, mApp, augD, Gd_ok, Gd_bad, wipeE, isNonD, eS_nil]
  refine kn _ ?_
  clear kn kr kb kc K
  refine g_cons fun K kn kr kb kc => ?_
  simp [evS, eE_var, eE_con, eE_op, eE_and, eE_or, eE_not, eE_ite, eE_chain, eE_call, eE_callB, eE_dcT, evEs, evC, O.borrows, O.sem, E.isVar, rd, bT_nm, bT_tp, bTs_nil, bTs_cons, ix_L, ix_T, ix_LC, oR_some, ln_L, ln_T, ln_LC, ct_L, ct_T, in_ii, ad_I, ad_L, ad_T, rp_I, ti_I, ng_I, tl_L, tl_T, tt_L, tt_T, tr_B, bq_B, ib_B, it_L, it_T, eq_int, ne_int, fMod, fDiv, fPow, isTupD, isLstD, isStrD, isBlD, Res.bind_ok, M.sem, mApp, augD, Gd_ok, Gd_bad, wipeE, isNonD, eS_nil, shows_ok c R Q hR, same_bl, eq_lst]
  refine kr _ _ ?_
  clear kn kr kb kc K
  dsimp only
theorem cut_map {α β : Type} (f : α → β) (xs : List α) (lo hi : Option Int) : cutD (xs.map f) lo hi = (cutD xs lo hi).map f := by
  unfold cutD
  rw [List.length_map, List.map_take, List.map_drop]
theorem cut_mem {α : Type} {xs : List α} {lo hi : Option Int} {x : α} (h : x ∈ cutD xs lo hi) : x ∈ xs := List.mem_of_mem_drop (List.mem_of_mem_take h)
theorem cut_len {α : Type} (xs : List α) (lo hi : Option Int) : (cutD xs lo hi).length ≤ xs.length := by
  unfold cutD
  rw [List.length_take, List.length_drop]
  omega
/-- rows, scaled -/
def scl (f : Int) (r : Row) : Row := (r.1, r.2.1, r.2.2 * f)
theorem scaled_L (f : Int) (R : List Row) (hf : intOk f = true) (hR : R.length ≤ sizeLine) : g9 [.lst (R.map row), .int f] = .ok (.lst ((R.map (scl f)).map row)) := by
  apply Gd.ok_eq
  unfold g9 s9
  refine g_run _ rfl rfl ?_
  refine g_cons fun K kn kr kb kc => ?_
  simp only [evS]
  rw [lc_ok R row (fun r => row (scl f r)) (by simp [evS, eE_var, eE_con, eE_op, eE_and, eE_or, eE_not, eE_ite, eE_chain, eE_call, eE_callB, eE_dcT, evEs, evC, O.borrows, O.sem, E.isVar, rd, bT_nm, bT_tp, bTs_nil, bTs_cons, ix_L, ix_T, ix_LC, oR_some, ln_L, ln_T, ln_LC, ct_L, ct_T, in_ii, ad_I, ad_L, ad_T, rp_I, ti_I, ng_I, tl_L, tl_T, tt_L, tt_T, tr_B, bq_B, ib_B, it_L, it_T, eq_int, ne_int, fMod, fDiv, fPow, isTupD, isLstD, isStrD, isBlD, Res.bind_ok, M.sem, mApp, augD, Gd_ok, Gd_bad, wipeE, isNonD, eS_nil]) (it_L _) hR (fun r _ => by simp [evS, eE_var, eE_con, eE_op, eE_and, eE_or, eE_not, eE_ite, eE_chain, eE_call, eE_callB, eE_dcT, evEs, evC, O.borrows, O.sem, E.isVar, rd, bT_nm, bT_tp, bTs_nil, bTs_cons, ix_L, ix_T, ix_LC, oR_some, ln_L, ln_T, ln_LC, ct_L, ct_T, in_ii, ad_I, ad_L, ad_T, rp_I, ti_I, ng_I, tl_L, tl_T, tt_L, tt_T, tr_B, bq_B, ib_B, it_L, it_T, eq_int, ne_int, fMod, fDiv, fPow, isTupD, isLstD, isStrD, isBlD, Res.bind_ok, M.sem, mApp, augD, Gd_ok, Gd_bad, wipeE, isNonD, eS_nil, ix0, ix1, ix2, fm_1 _ _ hf]; rfl), Res.bind_ok, Gd_ok]
  refine kr _ _ ?_
  dsimp only
  rw [List.map_map]
  rfl
theorem scaled_T (f : Int) (R : List Row) (hf : intOk f = true) (hR : R.length ≤ sizeLine) : g9 [.tup (R.map row), .int f] = .ok (.lst ((R.map (scl f)).map row)) := by
  apply Gd.ok_eq
  unfold g9 s9
  refine g_run _ rfl rfl ?_
  refine g_cons fun K kn kr kb kc => ?_
  simp only [evS]
  rw [lc_ok R row (fun r => row (scl f r)) (by simp [evS, eE_var, eE_con, eE_op, eE_and, eE_or, eE_not, eE_ite, eE_chain, eE_call, eE_callB, eE_dcT, evEs, evC, O.borrows, O.sem, E.isVar, rd, bT_nm, bT_tp, bTs_nil, bTs_cons, ix_L, ix_T, ix_LC, oR_some, ln_L, ln_T, ln_LC, ct_L, ct_T, in_ii, ad_I, ad_L, ad_T, rp_I, ti_I, ng_I, tl_L, tl_T, tt_L, tt_T, tr_B, bq_B, ib_B, it_L, it_T, eq_int, ne_int, fMod, fDiv, fPow, isTupD, isLstD, isStrD, isBlD, Res.bind_ok, M.sem, mApp, augD, Gd_ok, Gd_bad, wipeE, isNonD, eS_nil]) (it_T _) hR (fun r _ => by simp [evS, eE_var, eE_con, eE_op, eE_and, eE_or, eE_not, eE_ite, eE_chain, eE_call, eE_callB, eE_dcT, evEs, evC, O.borrows, O.sem, E.isVar, rd, bT_nm, bT_tp, bTs_nil, bTs_cons, ix_L, ix_T, ix_LC, oR_some, ln_L, ln_T, ln_LC, ct_L, ct_T, in_ii, ad_I, ad_L, ad_T, rp_I, ti_I, ng_I, tl_L, tl_T, tt_L, tt_T, tr_B, bq_B, ib_B, it_L, it_T, eq_int, ne_int, fMod, fDiv, fPow, isTupD, isLstD, isStrD, isBlD, Res.bind_ok, M.sem, mApp, augD, Gd_ok, Gd_bad, wipeE, isNonD, eS_nil, ix0, ix1, ix2, fm_1 _ _ hf]; rfl), Res.bind_ok, Gd_ok]
  refine kr _ _ ?_
  dsimp only
  rw [List.map_map]
  rfl
/-- a ring, a row set within -/
def put (Q : List Row) (a : Int) (r : Row) : List Row := cutD Q none (some a) ++ (r :: cutD Q (some (a + 1)) none)
theorem put_ok (Q : List Row) (a : Int) (r : Row) (h : Q.length < 1000000) : g13 [.tup (Q.map row), .int a, row r] = .ok (.tup ((put Q a r).map row)) := by
  have l1 := cut_len Q none (some a)
  have l2 := cut_len Q (some (a + 1)) none
  have sl : sizeLine = 16777216 := rfl
  apply Gd.ok_eq
  unfold g13 s13
  refine g_run _ rfl rfl ?_
  have c1 : (cutD Q none (some a)).length + 1 ≤ sizeLine := by omega
  have c2 : (cutD Q none (some a)).length + 1 + (cutD Q (some (a + 1)) none).length ≤ sizeLine := by omega
  have c0 : 1 ≤ sizeLine := by omega
  refine g_cons fun K kn kr kb kc => ?_
  simp [evS, eE_var, eE_con, eE_op, eE_and, eE_or, eE_not, eE_ite, eE_chain, eE_call, eE_callB, eE_dcT, evEs, evC, O.borrows, O.sem, E.isVar, rd, bT_nm, bT_tp, bTs_nil, bTs_cons, ix_L, ix_T, ix_LC, oR_some, ln_L, ln_T, ln_LC, ct_L, ct_T, in_ii, ad_I, ad_L, ad_T, rp_I, ti_I, ng_I, tl_L, tl_T, tt_L, tt_T, tr_B, bq_B, ib_B, it_L, it_T, eq_int, ne_int, fMod, fDiv, fPow, isTupD, isLstD, isStrD, isBlD, Res.bind_ok, M.sem, mApp, augD, Gd_ok, Gd_bad, wipeE, isNonD, eS_nil, cut_map, c0, c1, c2]
  refine kr _ _ ?_
  clear kn kr kb kc K
  dsimp only
  simp [put]
/-- a ring, turned -/
def trn (Q : List Row) (s : Int) : List Row := if Q.length = 0 then Q else cutD Q (some (s % (Q.length : Int))) none ++ cutD Q none (some (s % (Q.length : Int)))
theorem turned_T (Q : List Row) (s : Int) (h : Q.length < 1000000) : g11 [.tup (Q.map row), .int s] = .ok (.tup ((trn Q s).map row)) := by
  have sl : sizeLine = 16777216 := rfl
  apply Gd.ok_eq
  unfold g11 s11
  refine g_run _ rfl rfl ?_
  cases hq : Q with
  | nil =>
    refine g_cons fun K kn kr kb kc => ?_
    simp [evS, eE_var, eE_con, eE_op, eE_and, eE_or, eE_not, eE_ite, eE_chain, eE_call, eE_callB, eE_dcT, evEs, evC, O.borrows, O.sem, E.isVar, rd, bT_nm, bT_tp, bTs_nil, bTs_cons, ix_L, ix_T, ix_LC, oR_some, ln_L, ln_T, ln_LC, ct_L, ct_T, in_ii, ad_I, ad_L, ad_T, rp_I, ti_I, ng_I, tl_L, tl_T, tt_L, tt_T, tr_B, bq_B, ib_B, it_L, it_T, eq_int, ne_int, fMod, fDiv, fPow, isTupD, isLstD, isStrD, isBlD, Res.bind_ok, M.sem, mApp, augD, Gd_ok, Gd_bad, wipeE, isNonD, eS_nil]
    refine g_cons fun K1 kn1 kr1 kb1 kc1 => ?_
    simp [evS, eE_var, eE_con, eE_op, eE_and, eE_or, eE_not, eE_ite, eE_chain, eE_call, eE_callB, eE_dcT, evEs, evC, O.borrows, O.sem, E.isVar, rd, bT_nm, bT_tp, bTs_nil, bTs_cons, ix_L, ix_T, ix_LC, oR_some, ln_L, ln_T, ln_LC, ct_L, ct_T, in_ii, ad_I, ad_L, ad_T, rp_I, ti_I, ng_I, tl_L, tl_T, tt_L, tt_T, tr_B, bq_B, ib_B, it_L, it_T, eq_int, ne_int, fMod, fDiv, fPow, isTupD, isLstD, isStrD, isBlD, Res.bind_ok, M.sem, mApp, augD, Gd_ok, Gd_bad, wipeE, isNonD, eS_nil]
    refine kr1 _ _ (kr _ _ ?_)
    simp [trn]
  | cons q0 Q0 =>
    rw [← hq]
    have ne : Q ≠ [] := by rw [hq]; simp
    have pos : 0 < Q.length := List.length_pos_iff.mpr ne
    have l1 := cut_len Q (some (s % (Q.length : Int))) none
    have l2 := cut_len Q none (some (s % (Q.length : Int)))
    have c1 : (cutD Q (some (s % (Q.length : Int))) none).length + (cutD Q none (some (s % (Q.length : Int)))).length ≤ sizeLine := by omega
    refine g_cons fun K kn kr kb kc => ?_
    simp [evS, eE_var, eE_con, eE_op, eE_and, eE_or, eE_not, eE_ite, eE_chain, eE_call, eE_callB, eE_dcT, evEs, evC, O.borrows, O.sem, E.isVar, rd, bT_nm, bT_tp, bTs_nil, bTs_cons, ix_L, ix_T, ix_LC, oR_some, ln_L, ln_T, ln_LC, ct_L, ct_T, in_ii, ad_I, ad_L, ad_T, rp_I, ti_I, ng_I, tl_L, tl_T, tt_L, tt_T, tr_B, bq_B, ib_B, it_L, it_T, eq_int, ne_int, fMod, fDiv, fPow, isTupD, isLstD, isStrD, isBlD, Res.bind_ok, M.sem, mApp, augD, Gd_ok, Gd_bad, wipeE, isNonD, eS_nil, ne]
    refine kn _ ?_
    clear kn kr kb kc K
    refine g_cons fun K kn kr kb kc => ?_
    simp [evS, eE_var, eE_con, eE_op, eE_and, eE_or, eE_not, eE_ite, eE_chain, eE_call, eE_callB, eE_dcT, evEs, evC, O.borrows, O.sem, E.isVar, rd, bT_nm, bT_tp, bTs_nil, bTs_cons, ix_L, ix_T, ix_LC, oR_some, ln_L, ln_T, ln_LC, ct_L, ct_T, in_ii, ad_I, ad_L, ad_T, rp_I, ti_I, ng_I, tl_L, tl_T, tt_L, tt_T, tr_B, bq_B, ib_B, it_L, it_T, eq_int, ne_int, fMod, fDiv, fPow, isTupD, isLstD, isStrD, isBlD, Res.bind_ok, M.sem, mApp, augD, Gd_ok, Gd_bad, wipeE, isNonD, eS_nil, pos]
    refine kn _ ?_
    clear kn kr kb kc K
    refine g_cons fun K kn kr kb kc => ?_
    simp [evS, eE_var, eE_con, eE_op, eE_and, eE_or, eE_not, eE_ite, eE_chain, eE_call, eE_callB, eE_dcT, evEs, evC, O.borrows, O.sem, E.isVar, rd, bT_nm, bT_tp, bTs_nil, bTs_cons, ix_L, ix_T, ix_LC, oR_some, ln_L, ln_T, ln_LC, ct_L, ct_T, in_ii, ad_I, ad_L, ad_T, rp_I, ti_I, ng_I, tl_L, tl_T, tt_L, tt_T, tr_B, bq_B, ib_B, it_L, it_T, eq_int, ne_int, fMod, fDiv, fPow, isTupD, isLstD, isStrD, isBlD, Res.bind_ok, M.sem, mApp, augD, Gd_ok, Gd_bad, wipeE, isNonD, eS_nil, cut_map, c1]
    refine kr _ _ ?_
    clear kn kr kb kc K
    dsimp only
    simp [trn, ne]
theorem turned_L (Q : List Row) (s : Int) (h : Q.length < 1000000) : g11 [.lst (Q.map row), .int s] = .ok (.lst ((trn Q s).map row)) := by
  have sl : sizeLine = 16777216 := rfl
  apply Gd.ok_eq
  unfold g11 s11
  refine g_run _ rfl rfl ?_
  cases hq : Q with
  | nil =>
    refine g_cons fun K kn kr kb kc => ?_
    simp [evS, eE_var, eE_con, eE_op, eE_and, eE_or, eE_not, eE_ite, eE_chain, eE_call, eE_callB, eE_dcT, evEs, evC, O.borrows, O.sem, E.isVar, rd, bT_nm, bT_tp, bTs_nil, bTs_cons, ix_L, ix_T, ix_LC, oR_some, ln_L, ln_T, ln_LC, ct_L, ct_T, in_ii, ad_I, ad_L, ad_T, rp_I, ti_I, ng_I, tl_L, tl_T, tt_L, tt_T, tr_B, bq_B, ib_B, it_L, it_T, eq_int, ne_int, fMod, fDiv, fPow, isTupD, isLstD, isStrD, isBlD, Res.bind_ok, M.sem, mApp, augD, Gd_ok, Gd_bad, wipeE, isNonD, eS_nil]
    refine g_cons fun K1 kn1 kr1 kb1 kc1 => ?_
    simp [evS, eE_var, eE_con, eE_op, eE_and, eE_or, eE_not, eE_ite, eE_chain, eE_call, eE_callB, eE_dcT, evEs, evC, O.borrows, O.sem, E.isVar, rd, bT_nm, bT_tp, bTs_nil, bTs_cons, ix_L, ix_T, ix_LC, oR_some, ln_L, ln_T, ln_LC, ct_L, ct_T, in_ii, ad_I, ad_L, ad_T, rp_I, ti_I, ng_I, tl_L, tl_T, tt_L, tt_T, tr_B, bq_B, ib_B, it_L, it_T, eq_int, ne_int, fMod, fDiv, fPow, isTupD, isLstD, isStrD, isBlD, Res.bind_ok, M.sem, mApp, augD, Gd_ok, Gd_bad, wipeE, isNonD, eS_nil]
    refine kr1 _ _ (kr _ _ ?_)
    simp [trn]
  | cons q0 Q0 =>
    rw [← hq]
    have ne : Q ≠ [] := by rw [hq]; simp
    have pos : 0 < Q.length := List.length_pos_iff.mpr ne
    have l1 := cut_len Q (some (s % (Q.length : Int))) none
    have l2 := cut_len Q none (some (s % (Q.length : Int)))
    have c1 : (cutD Q (some (s % (Q.length : Int))) none).length + (cutD Q none (some (s % (Q.length : Int)))).length ≤ sizeLine := by omega
    refine g_cons fun K kn kr kb kc => ?_
    simp [evS, eE_var, eE_con, eE_op, eE_and, eE_or, eE_not, eE_ite, eE_chain, eE_call, eE_callB, eE_dcT, evEs, evC, O.borrows, O.sem, E.isVar, rd, bT_nm, bT_tp, bTs_nil, bTs_cons, ix_L, ix_T, ix_LC, oR_some, ln_L, ln_T, ln_LC, ct_L, ct_T, in_ii, ad_I, ad_L, ad_T, rp_I, ti_I, ng_I, tl_L, tl_T, tt_L, tt_T, tr_B, bq_B, ib_B, it_L, it_T, eq_int, ne_int, fMod, fDiv, fPow, isTupD, isLstD, isStrD, isBlD, Res.bind_ok, M.sem, mApp, augD, Gd_ok, Gd_bad, wipeE, isNonD, eS_nil, ne]
    refine kn _ ?_
    clear kn kr kb kc K
    refine g_cons fun K kn kr kb kc => ?_
    simp [evS, eE_var, eE_con, eE_op, eE_and, eE_or, eE_not, eE_ite, eE_chain, eE_call, eE_callB, eE_dcT, evEs, evC, O.borrows, O.sem, E.isVar, rd, bT_nm, bT_tp, bTs_nil, bTs_cons, ix_L, ix_T, ix_LC, oR_some, ln_L, ln_T, ln_LC, ct_L, ct_T, in_ii, ad_I, ad_L, ad_T, rp_I, ti_I, ng_I, tl_L, tl_T, tt_L, tt_T, tr_B, bq_B, ib_B, it_L, it_T, eq_int, ne_int, fMod, fDiv, fPow, isTupD, isLstD, isStrD, isBlD, Res.bind_ok, M.sem, mApp, augD, Gd_ok, Gd_bad, wipeE, isNonD, eS_nil, pos]
    refine kn _ ?_
    clear kn kr kb kc K
    refine g_cons fun K kn kr kb kc => ?_
    simp [evS, eE_var, eE_con, eE_op, eE_and, eE_or, eE_not, eE_ite, eE_chain, eE_call, eE_callB, eE_dcT, evEs, evC, O.borrows, O.sem, E.isVar, rd, bT_nm, bT_tp, bTs_nil, bTs_cons, ix_L, ix_T, ix_LC, oR_some, ln_L, ln_T, ln_LC, ct_L, ct_T, in_ii, ad_I, ad_L, ad_T, rp_I, ti_I, ng_I, tl_L, tl_T, tt_L, tt_T, tr_B, bq_B, ib_B, it_L, it_T, eq_int, ne_int, fMod, fDiv, fPow, isTupD, isLstD, isStrD, isBlD, Res.bind_ok, M.sem, mApp, augD, Gd_ok, Gd_bad, wipeE, isNonD, eS_nil, cut_map, c1]
    refine kr _ _ ?_
    clear kn kr kb kc K
    dsimp only
    simp [trn, ne]
theorem trn_len (Q : List Row) (s : Int) : (trn Q s).length = Q.length := by
  unfold trn
  split
  · rfl
  · rename_i h
    have n0 : (0 : Int) ≤ s % (Q.length : Int) := Int.emod_nonneg _ (by omega)
    have n1 : s % (Q.length : Int) < Q.length := Int.emod_lt_of_pos _ (by omega)
    generalize s % (Q.length : Int) = a at n0 n1
    have e : ¬ a < 0 := by omega
    simp only [cutD, HT.sIx, if_neg e, List.length_append, List.length_take, List.length_drop]
    omega
theorem trn_mem {Q : List Row} {s : Int} {r : Row} : r ∈ trn Q s ↔ r ∈ Q := by
  unfold trn
  split
  · exact Iff.rfl
  · rename_i h
    have n0 : (0 : Int) ≤ s % (Q.length : Int) := Int.emod_nonneg _ (by omega)
    have n1 : s % (Q.length : Int) < Q.length := Int.emod_lt_of_pos _ (by omega)
    generalize s % (Q.length : Int) = a at n0 n1
    have e : ¬ a < 0 := by omega
    have e2 : min a.toNat Q.length = a.toNat := by omega
    simp only [cutD, HT.sIx, if_neg e, e2, List.drop_zero, Nat.sub_zero]
    have e3 : (Q.drop a.toNat).take (Q.length - a.toNat) = Q.drop a.toNat := List.take_of_length_le (by rw [List.length_drop]; omega)
    rw [e3, List.mem_append, Or.comm, ← List.mem_append, List.take_append_drop]
/-- _law_hop -/
def hop (Q : List Row) (l : Row) : List Row := cutD Q none (some ((Q.length : Int) - 1)) ++ [(l.1, 0, l.2.2), (0, l.2.1, 0)]
theorem hop_ok (Q : List Row) (l : Row) (hl : Q.getLast? = some l) (h : Q.length < 1000000) : g10 [.lst (Q.map row)] = .ok (.lst ((hop Q l).map row)) := by
  have sl : sizeLine = 16777216 := rfl
  have ne : Q ≠ [] := fun e => by rw [e] at hl; cases hl
  have pos : 0 < Q.length := List.length_pos_iff.mpr ne
  have al : atD (Q.map row) ((Q.length : Int) - 1) = some (row l) := by
    have q := atD_pos row Q (i := (Q.length : Int) - 1) (by omega) (by omega)
    rw [q]
    have e : Q[Q.length - 1]? = some l := by rw [← List.getLast?_eq_getElem?]; exact hl
    obtain ⟨_, e⟩ := List.getElem?_eq_some_iff.mp e
    congr 2
    rw [← e]
    congr 1
    omega
  have l2 := cut_len Q none (some ((Q.length : Int) - 1))
  have c0 : (2 : Nat) ≤ sizeLine := by omega
  have c3 : (3 : Nat) ≤ sizeLine := by omega
  have c1 : (cutD Q none (some ((Q.length : Int) - 1))).length + 2 ≤ sizeLine := by omega
  apply Gd.ok_eq
  unfold g10 s10
  refine g_run _ rfl rfl ?_
  refine g_cons fun K kn kr kb kc => ?_
  simp [evS, eE_var, eE_con, eE_op, eE_and, eE_or, eE_not, eE_ite, eE_chain, eE_call, eE_callB, eE_dcT, evEs, evC, O.borrows, O.sem, E.isVar, rd, bT_nm, bT_tp, bTs_nil, bTs_cons, ix_L, ix_T, ix_LC, oR_some, ln_L, ln_T, ln_LC, ct_L, ct_T, in_ii, ad_I, ad_L, ad_T, rp_I, ti_I, ng_I, tl_L, tl_T, tt_L, tt_T, tr_B, bq_B, ib_B, it_L, it_T, eq_int, ne_int, fMod, fDiv, fPow, isTupD, isLstD, isStrD, isBlD, Res.bind_ok, M.sem, mApp, augD, Gd_ok, Gd_bad, wipeE, isNonD, eS_nil, al]
  refine kn _ ?_
  clear kn kr kb kc K
  refine g_cons fun K kn kr kb kc => ?_
  simp [evS, eE_var, eE_con, eE_op, eE_and, eE_or, eE_not, eE_ite, eE_chain, eE_call, eE_callB, eE_dcT, evEs, evC, O.borrows, O.sem, E.isVar, rd, bT_nm, bT_tp, bTs_nil, bTs_cons, ix_L, ix_T, ix_LC, oR_some, ln_L, ln_T, ln_LC, ct_L, ct_T, in_ii, ad_I, ad_L, ad_T, rp_I, ti_I, ng_I, tl_L, tl_T, tt_L, tt_T, tr_B, bq_B, ib_B, it_L, it_T, eq_int, ne_int, fMod, fDiv, fPow, isTupD, isLstD, isStrD, isBlD, Res.bind_ok, M.sem, mApp, augD, Gd_ok, Gd_bad, wipeE, isNonD, eS_nil, ix0, ix1, ix2, cut_map, c0, c3, c1]
  refine kr _ _ ?_
  clear kn kr kb kc K
  dsimp only
  simp [hop, row]
theorem ints_map : ∀ xs : List Int, ints? (xs.map D.int) = some xs
  | [] => rfl
  | x :: xs => by simp [ints?, ints_map xs]
theorem max_mem : ∀ (xs : List Int) (m : Int), maxI m xs = m ∨ maxI m xs ∈ xs
  | [], m => .inl rfl
  | x :: xs, m => by
    have h := max_mem xs (if m < x then x else m)
    have e : maxI m (x :: xs) = maxI (if m < x then x else m) xs := rfl
    rw [e]
    rcases h with h | h
    · rw [h]
      split
      · exact .inr (List.mem_cons_self ..)
      · exact .inl rfl
    · exact .inr (List.mem_cons_of_mem _ h)
theorem find_mem {m : Int} : ∀ (xs : List Int) (n : Nat), m ∈ xs → ∃ j, findD (.int m) (xs.map D.int) n = some j
  | [], _, h => by simp at h
  | x :: xs, n, h => by
    rw [List.map_cons]
    unfold findD
    by_cases e : x = m
    · exact ⟨n, by rw [eqD_int, decide_eq_true e]; rfl⟩
    · have h2 : m ∈ xs := by
        rcases List.mem_cons.mp h with z | z
        · exact absurd z.symm e
        · exact z
      obtain ⟨j, hj⟩ := find_mem xs (n + 1) h2
      exact ⟨j, by rw [eqD_int, decide_eq_false e]; exact hj⟩
theorem plain_ints : ∀ xs : List Int, Den.plain (.lst (xs.map D.int)) = true := fun xs => by
  have h : ∀ xs : List Int, PyData.canLayAll0 (toPys (xs.map D.int)) = true ∧ PyData.depthAll (toPys (xs.map D.int)) ≤ 1 := by
    intro xs
    induction xs with
    | nil => simp [toPys, PyData.canLayAll0, PyData.depthAll]
    | cons x xs ih =>
      simp only [List.map_cons, toPys, PyData.canLayAll0, PyData.depthAll, ih.1, toPy, PyData.canLay0, PyData.depth]
      exact ⟨rfl, by omega⟩
  obtain ⟨h1, h2⟩ := h xs
  simp only [Den.plain, toPy, SeqAt.shaped, PyData.canLay0, PyData.depth, h1, Bool.true_and, decide_eq_true_eq]
  omega
/-- _law_opened -/
theorem opened_ok (Q : List Row) (hq : Q ≠ []) (h : Q.length < 1000000) : ∃ P : List Row, P.length ≤ 2 * Q.length ∧ g12 [.tup (Q.map row)] = .ok (.tup (P.map row)) := by
  have sl : sizeLine = 16777216 := rfl
  obtain ⟨x, xs, hx⟩ : ∃ x xs, Q.map (·.2.2) = x :: xs := by
    cases Q with
    | nil => exact absurd rfl hq
    | cons q Q => exact ⟨_, _, rfl⟩
  have mm : maxI x xs ∈ x :: xs := by
    rcases max_mem xs x with e | e
    · rw [e]; exact List.mem_cons_self ..
    · exact List.mem_cons_of_mem _ e
  obtain ⟨j, hj⟩ := find_mem (x :: xs) 0 mm
  have eMax : sOverI fMax (.lst (Q.map fun r => D.int r.2.2)) = .ok (.int (maxI x xs)) := by
    have e : (Q.map fun r => D.int r.2.2) = (x :: xs).map D.int := by rw [← hx, List.map_map]; rfl
    rw [e]
    simp only [sOverI, ints_map, fMax]
  have eIx : sIndex (.lst (Q.map fun r => D.int r.2.2)) (.int (maxI x xs)) = .ok (.int (j : Nat)) := by
    have e : (Q.map fun r => D.int r.2.2) = (x :: xs).map D.int := by rw [← hx, List.map_map]; rfl
    rw [e]
    have p := plain_ints (x :: xs)
    simp only [sIndex, plain_int, p, Bool.and_self, if_true, hj]
    rfl
  have l1 := cut_len Q (some ((j : Int) + 1)) none
  have l2 := cut_len Q none (some (j : Int))
  have c1 : (cutD Q (some ((j : Int) + 1)) none).length + (cutD Q none (some (j : Int))).length ≤ sizeLine := by omega
  refine ⟨cutD Q (some ((j : Int) + 1)) none ++ cutD Q none (some (j : Int)), by rw [List.length_append]; omega, ?_⟩
  apply Gd.ok_eq
  unfold g12 s12
  refine g_run _ rfl rfl ?_
  refine g_cons fun K kn kr kb kc => ?_
  simp only [evS]
  rw [lc_ok Q row (fun r => D.int r.2.2) (by simp [evS, eE_var, eE_con, eE_op, eE_and, eE_or, eE_not, eE_ite, eE_chain, eE_call, eE_callB, eE_dcT, evEs, evC, O.borrows, O.sem, E.isVar, rd, bT_nm, bT_tp, bTs_nil, bTs_cons, ix_L, ix_T, ix_LC, oR_some, ln_L, ln_T, ln_LC, ct_L, ct_T, in_ii, ad_I, ad_L, ad_T, rp_I, ti_I, ng_I, tl_L, tl_T, tt_L, tt_T, tr_B, bq_B, ib_B, it_L, it_T, eq_int, ne_int, fMod, fDiv, fPow, isTupD, isLstD, isStrD, isBlD, Res.bind_ok, M.sem, mApp, augD, Gd_ok, Gd_bad, wipeE, isNonD, eS_nil]) (it_T _) (by omega) (fun r _ => by simp [evS, eE_var, eE_con, eE_op, eE_and, eE_or, eE_not, eE_ite, eE_chain, eE_call, eE_callB, eE_dcT, evEs, evC, O.borrows, O.sem, E.isVar, rd, bT_nm, bT_tp, bTs_nil, bTs_cons, ix_L, ix_T, ix_LC, oR_some, ln_L, ln_T, ln_LC, ct_L, ct_T, in_ii, ad_I, ad_L, ad_T, rp_I, ti_I, ng_I, tl_L, tl_T, tt_L, tt_T, tr_B, bq_B, ib_B, it_L, it_T, eq_int, ne_int, fMod, fDiv, fPow, isTupD, isLstD, isStrD, isBlD, Res.bind_ok, M.sem, mApp, augD, Gd_ok, Gd_bad, wipeE, isNonD, eS_nil, ix2]), Res.bind_ok, Gd_ok]
  refine kn _ ?_
  clear kn kr kb kc K
  refine g_fz ?_
  simp only [Den.fz, fzOne, List.getElem?_cons_succ, List.getElem?_cons_zero, List.set_cons_succ, List.set_cons_zero]
  refine g_cons fun K kn kr kb kc => ?_
  simp [evS, eE_var, eE_con, eE_op, eE_and, eE_or, eE_not, eE_ite, eE_chain, eE_call, eE_callB, eE_dcT, evEs, evC, O.borrows, O.sem, E.isVar, rd, bT_nm, bT_tp, bTs_nil, bTs_cons, ix_L, ix_T, ix_LC, oR_some, ln_L, ln_T, ln_LC, ct_L, ct_T, in_ii, ad_I, ad_L, ad_T, rp_I, ti_I, ng_I, tl_L, tl_T, tt_L, tt_T, tr_B, bq_B, ib_B, it_L, it_T, eq_int, ne_int, fMod, fDiv, fPow, isTupD, isLstD, isStrD, isBlD, Res.bind_ok, M.sem, mApp, augD, Gd_ok, Gd_bad, wipeE, isNonD, eS_nil, eMax, eIx]
  refine kn _ ?_
  clear kn kr kb kc K
  refine g_cons fun K kn kr kb kc => ?_
  simp [evS, eE_var, eE_con, eE_op, eE_and, eE_or, eE_not, eE_ite, eE_chain, eE_call, eE_callB, eE_dcT, evEs, evC, O.borrows, O.sem, E.isVar, rd, bT_nm, bT_tp, bTs_nil, bTs_cons, ix_L, ix_T, ix_LC, oR_some, ln_L, ln_T, ln_LC, ct_L, ct_T, in_ii, ad_I, ad_L, ad_T, rp_I, ti_I, ng_I, tl_L, tl_T, tt_L, tt_T, tr_B, bq_B, ib_B, it_L, it_T, eq_int, ne_int, fMod, fDiv, fPow, isTupD, isLstD, isStrD, isBlD, Res.bind_ok, M.sem, mApp, augD, Gd_ok, Gd_bad, wipeE, isNonD, eS_nil, cut_map, c1]
  refine kr _ _ ?_
  clear kn kr kb kc K
  dsimp only
  simp
end K32

namespace K32
open PySem Den L2
theorem atD_ex (ns : List Int) (k : Int) (h0 : 0 ≤ k) (h1 : k < ns.length) : ∃ v, atD (ns.map D.int) k = some (.int v) ∧ v ∈ ns := ⟨_, atD_pos D.int ns h0 h1, List.getElem_mem _⟩
theorem atD_exR (Q : List Row) (k : Int) (h0 : 0 ≤ k) (h1 : k < Q.length) : ∃ r, atD (Q.map row) k = some (row r) ∧ r ∈ Q := ⟨_, atD_pos row Q h0 h1, List.getElem_mem _⟩
theorem put_ok' (Q : List Row) (a x y z : Int) (h : Q.length < 1000000) : g13 [.tup (Q.map row), .int a, .tup [.int x, .int y, .int z]] = .ok (.tup ((put Q a (x, y, z)).map row)) := put_ok Q a (x, y, z) h
theorem put_len (Q : List Row) (a : Int) (r : Row) : (put Q a r).length ≤ 2 * Q.length + 1 := by
  have l1 := cut_len Q none (some a)
  have l2 := cut_len Q (some (a + 1)) none
  unfold put
  rw [List.length_append, List.length_cons]
  omega
/-- a list of rows, not too long -/
def Rows (n : Nat) (xs : List D) : Prop := ∃ R : List Row, R.length ≤ n ∧ xs = R.map row
theorem Rows.of {n : Nat} (R : List Row) (h : R.length ≤ n) : Rows n (R.map row) := ⟨R, h, rfl⟩
theorem Rows.app {m n : Nat} {xs ys : List D} (h : Rows m xs) (h2 : Rows n ys) : Rows (m + n) (xs ++ ys) := by
  obtain ⟨R, e, rfl⟩ := h
  obtain ⟨S, f, rfl⟩ := h2
  exact ⟨R ++ S, by rw [List.length_append]; omega, by rw [List.map_append]⟩
theorem Rows.cons {n : Nat} {xs : List D} (r : Row) (h : Rows n xs) : Rows (n + 1) (row r :: xs) := by
  obtain ⟨R, e, rfl⟩ := h
  exact ⟨r :: R, by rw [List.length_cons]; omega, rfl⟩
theorem Rows.nil : Rows 0 [] := ⟨[], Nat.le_refl _, rfl⟩
theorem Rows.cons' {n : Nat} {xs : List D} (x y z : Int) (h : Rows n xs) : Rows (n + 1) (.tup [.int x, .int y, .int z] :: xs) := h.cons (x, y, z)
def IsP (d : D) : Prop := ∃ xs, d = .tup xs ∧ Rows 900000 xs
theorem IsP.of {n : Nat} {xs : List D} (h : Rows n xs) (k : n ≤ 900000) : IsP (.tup xs) := by
  obtain ⟨R, e, rfl⟩ := h
  exact ⟨_, rfl, R, by omega, rfl⟩
theorem papers_ok (Q : List Row) (hq : Q ≠ []) (hQ : Q.length ≤ 20000) (ns : List Int) (hn : 4 ≤ ns.length) (c : Int) : ∃ ds, g14 [.tup (Q.map row), .lst (ns.map .int), .int c] = .ok (.lst ds) ∧ ∀ d ∈ ds, IsP d := by
  have sl : sizeLine = 16777216 := rfl
  have pos : 0 < Q.length := List.length_pos_iff.mpr hq
  obtain ⟨v0, e0, _⟩ := atD_ex ns 0 (by omega) (by omega)
  obtain ⟨v1, e1, _⟩ := atD_ex ns 1 (by omega) (by omega)
  obtain ⟨v2, e2, _⟩ := atD_ex ns 2 (by omega) (by omega)
  obtain ⟨v3, e3, _⟩ := atD_ex ns 3 (by omega) (by omega)
  obtain ⟨a, ha⟩ : ∃ a, v0 % (Q.length : Int) = a := ⟨_, rfl⟩
  obtain ⟨b, hb⟩ : ∃ b, v1 % (Q.length : Int) = b := ⟨_, rfl⟩
  have a0 : 0 ≤ a := by rw [← ha]; exact Int.emod_nonneg _ (by omega)
  have a1 : a < Q.length := by rw [← ha]; exact Int.emod_lt_of_pos _ (by omega)
  have b0 : 0 ≤ b := by rw [← hb]; exact Int.emod_nonneg _ (by omega)
  have b1 : b < Q.length := by rw [← hb]; exact Int.emod_lt_of_pos _ (by omega)
  obtain ⟨ra, ea, _⟩ := atD_exR Q a a0 a1
  obtain ⟨rb, eb, _⟩ := atD_exR Q b b0 b1
  obtain ⟨rl, el, _⟩ := atD_exR Q ((Q.length : Int) - 1) (by omega) (by omega)
  obtain ⟨r0, er, _⟩ := atD_exR Q 0 (by omega) (by omega)
  have tT := turned_T Q v2 (by omega)
  have tl := trn_len Q v2
  generalize trn Q v2 = T at tT tl
  obtain ⟨P, pl, eO⟩ := opened_ok Q hq (by omega)
  have tP := turned_T P (1 + v3 % 7) (by omega)
  have pl2 := trn_len P (1 + v3 % 7)
  generalize trn P (1 + v3 % 7) = P2 at tP pl2
  have pT : ∀ x r, g13 [.tup (Q.map row), .int x, row r] = .ok (.tup ((put Q x r).map row)) := fun x r => put_ok Q x r (by omega)
  have pT' : ∀ x u v w, g13 [.tup (Q.map row), .int x, .tup [.int u, .int v, .int w]] = .ok (.tup ((put Q x (u, v, w)).map row)) := fun x u v w => put_ok' Q x u v w (by omega)
  have pql := fun x r => put_len Q x r
  have pP := put_ok (put Q a rb) b ra (by have := pql a rb; omega)
  have k1 : ∀ lo hi, (cutD Q lo hi).length + 1 ≤ sizeLine := fun lo hi => by have := cut_len Q lo hi; omega
  have k2 : ∀ lo hi lo' hi', (cutD Q lo hi).length + (cutD Q lo' hi').length ≤ sizeLine := fun lo hi lo' hi' => by have := cut_len Q lo hi; have := cut_len Q lo' hi'; omega
  have k3 : ∀ lo hi lo' hi', (cutD Q lo hi).length + 1 + (cutD Q lo' hi').length ≤ sizeLine := fun lo hi lo' hi' => by have := cut_len Q lo hi; have := cut_len Q lo' hi'; omega
  have k4 : Q.length + Q.length ≤ sizeLine := by omega
  have k5 : Q.length + 1 ≤ sizeLine := by omega
  have k6 : Q.length + Q.length + Q.length ≤ sizeLine := by omega
  have m : ∀ n, n ≤ 30 → n ≤ sizeLine := fun n h => by omega
  suffices h : Gd (g14 [.tup (Q.map row), .lst (ns.map .int), .int c]) fun d => ∃ ds, d = .lst ds ∧ ∀ d ∈ ds, IsP d by
    obtain ⟨d, e, ds, rfl, k⟩ := h.ex
    exact ⟨ds, e, k⟩
  unfold g14 s14
  refine g_run _ rfl rfl ?_
  refine g_cons fun K kn kr kb kc => ?_
  simp [evS, eE_var, eE_con, eE_op, eE_and, eE_or, eE_not, eE_ite, eE_chain, eE_call, eE_callB, eE_dcT, evEs, evC, O.borrows, O.sem, E.isVar, rd, bT_nm, bT_tp, bTs_nil, bTs_cons, ix_L, ix_T, ix_LC, oR_some, ln_L, ln_T, ln_LC, ct_L, ct_T, in_ii, ad_I, ad_L, ad_T, rp_I, ti_I, ng_I, tl_L, tl_T, tt_L, tt_T, tr_B, bq_B, ib_B, it_L, it_T, eq_int, ne_int, fMod, fDiv, fPow, isTupD, isLstD, isStrD, isBlD, Res.bind_ok, M.sem, mApp, augD, Gd_ok, Gd_bad, wipeE, isNonD, eS_nil, e0, pos, ha]
  refine kn _ ?_
  clear kn kr kb kc K
  refine g_cons fun K kn kr kb kc => ?_
  simp [evS, eE_var, eE_con, eE_op, eE_and, eE_or, eE_not, eE_ite, eE_chain, eE_call, eE_callB, eE_dcT, evEs, evC, O.borrows, O.sem, E.isVar, rd, bT_nm, bT_tp, bTs_nil, bTs_cons, ix_L, ix_T, ix_LC, oR_some, ln_L, ln_T, ln_LC, ct_L, ct_T, in_ii, ad_I, ad_L, ad_T, rp_I, ti_I, ng_I, tl_L, tl_T, tt_L, tt_T, tr_B, bq_B, ib_B, it_L, it_T, eq_int, ne_int, fMod, fDiv, fPow, isTupD, isLstD, isStrD, isBlD, Res.bind_ok, M.sem, mApp, augD, Gd_ok, Gd_bad, wipeE, isNonD, eS_nil, e1, pos, hb]
  refine kn _ ?_
  clear kn kr kb kc K
  refine g_cons fun K kn kr kb kc => ?_
  simp [evS, eE_var, eE_con, eE_op, eE_and, eE_or, eE_not, eE_ite, eE_chain, eE_call, eE_callB, eE_dcT, evEs, evC, O.borrows, O.sem, E.isVar, rd, bT_nm, bT_tp, bTs_nil, bTs_cons, ix_L, ix_T, ix_LC, oR_some, ln_L, ln_T, ln_LC, ct_L, ct_T, in_ii, ad_I, ad_L, ad_T, rp_I, ti_I, ng_I, tl_L, tl_T, tt_L, tt_T, tr_B, bq_B, ib_B, it_L, it_T, eq_int, ne_int, fMod, fDiv, fPow, isTupD, isLstD, isStrD, isBlD, Res.bind_ok, M.sem, mApp, augD, Gd_ok, Gd_bad, wipeE, isNonD, eS_nil]
  refine kn _ ?_
  clear kn kr kb kc K
  refine g_cons fun K kn kr kb kc => ?_
  simp [evS, eE_var, eE_con, eE_op, eE_and, eE_or, eE_not, eE_ite, eE_chain, eE_call, eE_callB, eE_dcT, evEs, evC, O.borrows, O.sem, E.isVar, rd, bT_nm, bT_tp, bTs_nil, bTs_cons, ix_L, ix_T, ix_LC, oR_some, ln_L, ln_T, ln_LC, ct_L, ct_T, in_ii, ad_I, ad_L, ad_T, rp_I, ti_I, ng_I, tl_L, tl_T, tt_L, tt_T, tr_B, bq_B, ib_B, it_L, it_T, eq_int, ne_int, fMod, fDiv, fPow, isTupD, isLstD, isStrD, isBlD, Res.bind_ok, M.sem, mApp, augD, Gd_ok, Gd_bad, wipeE, isNonD, eS_nil, ea, bT_row]
  refine kn _ ?_
  clear kn kr kb kc K
  refine g_cons fun K kn kr kb kc => ?_
  simp [evS, eE_var, eE_con, eE_op, eE_and, eE_or, eE_not, eE_ite, eE_chain, eE_call, eE_callB, eE_dcT, evEs, evC, O.borrows, O.sem, E.isVar, rd, bT_nm, bT_tp, bTs_nil, bTs_cons, ix_L, ix_T, ix_LC, oR_some, ln_L, ln_T, ln_LC, ct_L, ct_T, in_ii, ad_I, ad_L, ad_T, rp_I, ti_I, ng_I, tl_L, tl_T, tt_L, tt_T, tr_B, bq_B, ib_B, it_L, it_T, eq_int, ne_int, fMod, fDiv, fPow, isTupD, isLstD, isStrD, isBlD, Res.bind_ok, M.sem, mApp, augD, Gd_ok, Gd_bad, wipeE, isNonD, eS_nil, e2, tT]
  refine kn _ ?_
  clear kn kr kb kc K
  refine g_cons fun K kn kr kb kc => ?_
  simp [evS, eE_var, eE_con, eE_op, eE_and, eE_or, eE_not, eE_ite, eE_chain, eE_call, eE_callB, eE_dcT, evEs, evC, O.borrows, O.sem, E.isVar, rd, bT_nm, bT_tp, bTs_nil, bTs_cons, ix_L, ix_T, ix_LC, oR_some, ln_L, ln_T, ln_LC, ct_L, ct_T, in_ii, ad_I, ad_L, ad_T, rp_I, ti_I, ng_I, tl_L, tl_T, tt_L, tt_T, tr_B, bq_B, ib_B, it_L, it_T, eq_int, ne_int, fMod, fDiv, fPow, isTupD, isLstD, isStrD, isBlD, Res.bind_ok, M.sem, mApp, augD, Gd_ok, Gd_bad, wipeE, isNonD, eS_nil, eO]
  refine kn _ ?_
  clear kn kr kb kc K
  refine g_cons fun K kn kr kb kc => ?_
  simp [evS, eE_var, eE_con, eE_op, eE_and, eE_or, eE_not, eE_ite, eE_chain, eE_call, eE_callB, eE_dcT, evEs, evC, O.borrows, O.sem, E.isVar, rd, bT_nm, bT_tp, bTs_nil, bTs_cons, ix_L, ix_T, ix_LC, oR_some, ln_L, ln_T, ln_LC, ct_L, ct_T, in_ii, ad_I, ad_L, ad_T, rp_I, ti_I, ng_I, tl_L, tl_T, tt_L, tt_T, tr_B, bq_B, ib_B, it_L, it_T, eq_int, ne_int, fMod, fDiv, fPow, isTupD, isLstD, isStrD, isBlD, Res.bind_ok, M.sem, mApp, augD, Gd_ok, Gd_bad, wipeE, isNonD, eS_nil, tl, k4, k6, ea, m]
  refine kn _ ?_
  clear kn kr kb kc K
  refine g_cons fun K kn kr kb kc => ?_
  simp [evS, eE_var, eE_con, eE_op, eE_and, eE_or, eE_not, eE_ite, eE_chain, eE_call, eE_callB, eE_dcT, evEs, evC, O.borrows, O.sem, E.isVar, rd, bT_nm, bT_tp, bTs_nil, bTs_cons, ix_L, ix_T, ix_LC, oR_some, ln_L, ln_T, ln_LC, ct_L, ct_T, in_ii, ad_I, ad_L, ad_T, rp_I, ti_I, ng_I, tl_L, tl_T, tt_L, tt_T, tr_B, bq_B, ib_B, it_L, it_T, eq_int, ne_int, fMod, fDiv, fPow, isTupD, isLstD, isStrD, isBlD, Res.bind_ok, M.sem, mApp, augD, Gd_ok, Gd_bad, wipeE, isNonD, eS_nil, e3, tP, m]
  refine kn _ ?_
  clear kn kr kb kc K
  refine g_cons fun K kn kr kb kc => ?_
  simp [evS, eE_var, eE_con, eE_op, eE_and, eE_or, eE_not, eE_ite, eE_chain, eE_call, eE_callB, eE_dcT, evEs, evC, O.borrows, O.sem, E.isVar, rd, bT_nm, bT_tp, bTs_nil, bTs_cons, ix_L, ix_T, ix_LC, oR_some, ln_L, ln_T, ln_LC, ct_L, ct_T, in_ii, ad_I, ad_L, ad_T, rp_I, ti_I, ng_I, tl_L, tl_T, tt_L, tt_T, tr_B, bq_B, ib_B, it_L, it_T, eq_int, ne_int, fMod, fDiv, fPow, isTupD, isLstD, isStrD, isBlD, Res.bind_ok, M.sem, mApp, augD, Gd_ok, Gd_bad, wipeE, isNonD, eS_nil, pT', m]
  refine kn _ ?_
  clear kn kr kb kc K
  refine g_cons fun K kn kr kb kc => ?_
  simp [evS, eE_var, eE_con, eE_op, eE_and, eE_or, eE_not, eE_ite, eE_chain, eE_call, eE_callB, eE_dcT, evEs, evC, O.borrows, O.sem, E.isVar, rd, bT_nm, bT_tp, bTs_nil, bTs_cons, ix_L, ix_T, ix_LC, oR_some, ln_L, ln_T, ln_LC, ct_L, ct_T, in_ii, ad_I, ad_L, ad_T, rp_I, ti_I, ng_I, tl_L, tl_T, tt_L, tt_T, tr_B, bq_B, ib_B, it_L, it_T, eq_int, ne_int, fMod, fDiv, fPow, isTupD, isLstD, isStrD, isBlD, Res.bind_ok, M.sem, mApp, augD, Gd_ok, Gd_bad, wipeE, isNonD, eS_nil, pT', m]
  refine kn _ ?_
  clear kn kr kb kc K
  refine g_cons fun K kn kr kb kc => ?_
  simp [evS, eE_var, eE_con, eE_op, eE_and, eE_or, eE_not, eE_ite, eE_chain, eE_call, eE_callB, eE_dcT, evEs, evC, O.borrows, O.sem, E.isVar, rd, bT_nm, bT_tp, bTs_nil, bTs_cons, ix_L, ix_T, ix_LC, oR_some, ln_L, ln_T, ln_LC, ct_L, ct_T, in_ii, ad_I, ad_L, ad_T, rp_I, ti_I, ng_I, tl_L, tl_T, tt_L, tt_T, tr_B, bq_B, ib_B, it_L, it_T, eq_int, ne_int, fMod, fDiv, fPow, isTupD, isLstD, isStrD, isBlD, Res.bind_ok, M.sem, mApp, augD, Gd_ok, Gd_bad, wipeE, isNonD, eS_nil, ea, eb, pT, pP, m]
  refine kn _ ?_
  clear kn kr kb kc K
  refine g_cons fun K kn kr kb kc => ?_
  simp [evS, eE_var, eE_con, eE_op, eE_and, eE_or, eE_not, eE_ite, eE_chain, eE_call, eE_callB, eE_dcT, evEs, evC, O.borrows, O.sem, E.isVar, rd, bT_nm, bT_tp, bTs_nil, bTs_cons, ix_L, ix_T, ix_LC, oR_some, ln_L, ln_T, ln_LC, ct_L, ct_T, in_ii, ad_I, ad_L, ad_T, rp_I, ti_I, ng_I, tl_L, tl_T, tt_L, tt_T, tr_B, bq_B, ib_B, it_L, it_T, eq_int, ne_int, fMod, fDiv, fPow, isTupD, isLstD, isStrD, isBlD, Res.bind_ok, M.sem, mApp, augD, Gd_ok, Gd_bad, wipeE, isNonD, eS_nil, ea, cut_map, k1, k2, k3, m]
  refine kn _ ?_
  clear kn kr kb kc K
  refine g_cons fun K kn kr kb kc => ?_
  simp [evS, eE_var, eE_con, eE_op, eE_and, eE_or, eE_not, eE_ite, eE_chain, eE_call, eE_callB, eE_dcT, evEs, evC, O.borrows, O.sem, E.isVar, rd, bT_nm, bT_tp, bTs_nil, bTs_cons, ix_L, ix_T, ix_LC, oR_some, ln_L, ln_T, ln_LC, ct_L, ct_T, in_ii, ad_I, ad_L, ad_T, rp_I, ti_I, ng_I, tl_L, tl_T, tt_L, tt_T, tr_B, bq_B, ib_B, it_L, it_T, eq_int, ne_int, fMod, fDiv, fPow, isTupD, isLstD, isStrD, isBlD, Res.bind_ok, M.sem, mApp, augD, Gd_ok, Gd_bad, wipeE, isNonD, eS_nil, cut_map, k1, k2, k3, m]
  refine kn _ ?_
  clear kn kr kb kc K
  refine g_cons fun K kn kr kb kc => ?_
  simp [evS, eE_var, eE_con, eE_op, eE_and, eE_or, eE_not, eE_ite, eE_chain, eE_call, eE_callB, eE_dcT, evEs, evC, O.borrows, O.sem, E.isVar, rd, bT_nm, bT_tp, bTs_nil, bTs_cons, ix_L, ix_T, ix_LC, oR_some, ln_L, ln_T, ln_LC, ct_L, ct_T, in_ii, ad_I, ad_L, ad_T, rp_I, ti_I, ng_I, tl_L, tl_T, tt_L, tt_T, tr_B, bq_B, ib_B, it_L, it_T, eq_int, ne_int, fMod, fDiv, fPow, isTupD, isLstD, isStrD, isBlD, Res.bind_ok, M.sem, mApp, augD, Gd_ok, Gd_bad, wipeE, isNonD, eS_nil, el, ix1, pT', m]
  refine kn _ ?_
  clear kn kr kb kc K
  refine g_cons fun K kn kr kb kc => ?_
  simp [evS, eE_var, eE_con, eE_op, eE_and, eE_or, eE_not, eE_ite, eE_chain, eE_call, eE_callB, eE_dcT, evEs, evC, O.borrows, O.sem, E.isVar, rd, bT_nm, bT_tp, bTs_nil, bTs_cons, ix_L, ix_T, ix_LC, oR_some, ln_L, ln_T, ln_LC, ct_L, ct_T, in_ii, ad_I, ad_L, ad_T, rp_I, ti_I, ng_I, tl_L, tl_T, tt_L, tt_T, tr_B, bq_B, ib_B, it_L, it_T, eq_int, ne_int, fMod, fDiv, fPow, isTupD, isLstD, isStrD, isBlD, Res.bind_ok, M.sem, mApp, augD, Gd_ok, Gd_bad, wipeE, isNonD, eS_nil, pT', m]
  refine kn _ ?_
  clear kn kr kb kc K
  refine g_cons fun K kn kr kb kc => ?_
  simp [evS, eE_var, eE_con, eE_op, eE_and, eE_or, eE_not, eE_ite, eE_chain, eE_call, eE_callB, eE_dcT, evEs, evC, O.borrows, O.sem, E.isVar, rd, bT_nm, bT_tp, bTs_nil, bTs_cons, ix_L, ix_T, ix_LC, oR_some, ln_L, ln_T, ln_LC, ct_L, ct_T, in_ii, ad_I, ad_L, ad_T, rp_I, ti_I, ng_I, tl_L, tl_T, tt_L, tt_T, tr_B, bq_B, ib_B, it_L, it_T, eq_int, ne_int, fMod, fDiv, fPow, isTupD, isLstD, isStrD, isBlD, Res.bind_ok, M.sem, mApp, augD, Gd_ok, Gd_bad, wipeE, isNonD, eS_nil, er, ix0, k5, tl, k4, m]
  refine kr _ _ ?_
  clear kn kr kb kc K
  dsimp only
  refine ⟨_, rfl, fun d hd => ?_⟩
  have rQ := Rows.of Q (Nat.le_refl _)
  have rT := Rows.of T (Nat.le_of_eq tl)
  have rP := Rows.of P pl
  have rP2 : Rows (2 * Q.length) (P2.map row) := Rows.of P2 (by omega)
  have rp : ∀ x r, Rows (2 * Q.length + 1) ((put Q x r).map row) := fun x r => Rows.of _ (pql x r)
  have rc : ∀ lo hi, Rows Q.length ((cutD Q lo hi).map row) := fun lo hi => Rows.of _ (cut_len Q lo hi)
  have rpp : Rows (4 * Q.length + 3) ((put (put Q a rb) b ra).map row) := Rows.of _ (by have h1 := put_len (put Q a rb) b ra; have h2 := pql a rb; omega)
  simp only [List.mem_cons, List.not_mem_nil, or_false] at hd
  rcases hd with rfl | rfl | rfl | rfl | rfl | rfl | rfl | rfl | rfl | rfl | rfl | rfl | rfl | rfl | rfl | rfl | rfl | rfl | rfl | rfl | rfl | rfl | rfl | rfl
  · exact .of rQ (by omega)
  · exact .of rT (by omega)
  · exact .of (rQ.app rQ) (by omega)
  · exact .of (rT.app (rT.app rT)) (by omega)
  · exact .of .nil (by omega)
  · exact .of (Rows.nil.cons ra) (by omega)
  · exact .of rP (by omega)
  · exact .of rP2 (by omega)
  · exact .of (rp _ _) (by omega)
  · exact .of (rp _ _) (by omega)
  · exact .of (rp _ _) (by omega)
  · exact .of (rp _ _) (by omega)
  · exact .of rpp (by omega)
  · exact .of ((rc _ _).app (rc _ _)) (by omega)
  · exact .of ((rc _ _).app ((rc _ _).cons ra)) (by omega)
  · exact .of ((rc _ _).app ((rc _ _).cons' 0 0 0)) (by omega)
  · exact .of ((rc _ _).app ((rc _ _).cons' 0 0 0)) (by omega)
  · exact .of (rp _ _) (by omega)
  · exact .of (rp _ _) (by omega)
  · exact .of (rp _ _) (by omega)
  · exact .of (rp _ _) (by omega)
  · exact .of (rQ.app (Rows.nil.cons' _ _ _)) (by omega)
  · exact .of (rQ.app (Rows.nil.cons' _ _ _)) (by omega)
  · exact .of (rQ.app rT) (by omega)
/-! ### drawn numbers -/
def Drawn (xs : List Int) : Prop := ∀ x ∈ xs, 0 ≤ x ∧ x < 1009
theorem numbers_ok (c n : Int) (h0 : 0 ≤ n) (h1 : n < 1000) : ∃ xs : List Int, g3 [.int c, .int n] = .ok (.lst (xs.map .int)) ∧ xs.length = n.toNat ∧ Drawn xs := by
  have sl : sizeLine = 16777216 := rfl
  suffices h : Gd (g3 [.int c, .int n]) fun d => ∃ xs : List Int, d = .lst (xs.map .int) ∧ xs.length = n.toNat ∧ Drawn xs by
    obtain ⟨d, e, xs, rfl, k⟩ := h.ex
    exact ⟨xs, e, k⟩
  unfold g3 s3
  refine g_run _ rfl rfl ?_
  have rg : rngOk n = true := decide_eq_true (by omega)
  have m : ∀ n, n ≤ 30 → n ≤ sizeLine := fun n h => by omega
  obtain ⟨z, hz⟩ : ∃ z, sAbs (.int c) = .ok (.int z) := ⟨_, rfl⟩
  refine g_cons fun K kn kr kb kc => ?_
  simp [evS, eE_var, eE_con, eE_op, eE_and, eE_or, eE_not, eE_ite, eE_chain, eE_call, eE_callB, eE_dcT, evEs, evC, O.borrows, O.sem, E.isVar, rd, bT_nm, bT_tp, bTs_nil, bTs_cons, ix_L, ix_T, ix_LC, oR_some, ln_L, ln_T, ln_LC, ct_L, ct_T, in_ii, ad_I, ad_L, ad_T, rp_I, ti_I, ng_I, tl_L, tl_T, tt_L, tt_T, tr_B, bq_B, ib_B, it_L, it_T, eq_int, ne_int, fMod, fDiv, fPow, isTupD, isLstD, isStrD, isBlD, Res.bind_ok, M.sem, mApp, augD, Gd_ok, Gd_bad, wipeE, isNonD, eS_nil, m]
  refine kn _ ?_
  clear kn kr kb kc K
  refine g_cons fun K kn kr kb kc => ?_
  simp [evS, eE_var, eE_con, eE_op, eE_and, eE_or, eE_not, eE_ite, eE_chain, eE_call, eE_callB, eE_dcT, evEs, evC, O.borrows, O.sem, E.isVar, rd, bT_nm, bT_tp, bTs_nil, bTs_cons, ix_L, ix_T, ix_LC, oR_some, ln_L, ln_T, ln_LC, ct_L, ct_T, in_ii, ad_I, ad_L, ad_T, rp_I, ti_I, ng_I, tl_L, tl_T, tt_L, tt_T, tr_B, bq_B, ib_B, it_L, it_T, eq_int, ne_int, fMod, fDiv, fPow, isTupD, isLstD, isStrD, isBlD, Res.bind_ok, M.sem, mApp, augD, Gd_ok, Gd_bad, wipeE, isNonD, eS_nil, hz]
  refine kn _ ?_
  clear kn kr kb kc K
  refine g_cons fun K0 kn0 kr0 kb0 kc0 => ?_
  simp only [evS, evEs, eE_var, eE_con, eE_op, eE_call, E.isVar, rd, it_L, it_T, List.getElem?_cons_succ, List.getElem?_cons_zero, Res.bind_ok, it_R _ rg]
  have lenR : ((List.range n.toNat).map fun k => D.int (k : Nat)).length = n.toNat := by simp
  refine Gd.for (fun i ρ => ∃ (xs : List Int) (r : Int) (s4 s5 s6 s7 : Slot), ρ = [.val (.int c), .val (.int n), .own (.lst (xs.map .int)), .val (.int r), s4, s5, s6, s7] ∧ xs.length = i ∧ Drawn xs)
    (fun _ => True) _ 0 _ ⟨[], z, .un, .un, .un, .un, by simp, rfl, fun x h => by simp at h⟩ (fun i hi ρ hI => ?_) (fun ρ hI => ?_)
  · obtain ⟨xs, r, s4, s5, s6, s7, rfl, hx, hd⟩ := hI
    rw [Nat.zero_add] at hx ⊢
    rw [lenR] at hi
    have few : xs.length < sizeLine := by omega
    have more : ∀ v : Int, Drawn (xs ++ [v % 1009]) := fun v x h => by
      rcases List.mem_append.mp h with h | h
      · exact hd x h
      · rw [List.mem_singleton.mp h]; omega
    simp only [bT_nm, List.set_cons_succ, List.set_cons_zero, Gd_ok, List.getElem_map]
    simp only [List.getElem_range]
    have hp : pOk 10 18 = true := by decide
    have f1 := fun x => fm_1 x 48271 (by decide)
    have f2 := fun x => fm_1 x 69621 (by decide)
    have f3 := fun x => fm_1 x 16807 (by decide)
    have f4 := fun x => fm_1 x 40692 (by decide)
    have f5 := fun x => fm_1 x 7 (by decide)
    have f6 : ∀ x : Int, fMul ((i : Int) + 1) x = .ok (.int (((i : Int) + 1) * x)) := fun x => fm_2 _ _ (decide_eq_true (by omega))
    have f7 : ∀ x y : Int, fMul (x % 2147483647) y = .ok (.int (x % 2147483647 * y)) := fun x y => fm_2 _ _ (decide_eq_true (by omega))
    by_cases q1 : (1000000000000000000 : Int) ≤ z
    · by_cases q2 : 0 < r
      ·
        refine g_cons fun K kn kr kb kc => ?_
        simp [evS, eE_var, eE_con, eE_op, eE_and, eE_or, eE_not, eE_ite, eE_chain, eE_call, eE_callB, eE_dcT, evEs, evC, O.borrows, O.sem, E.isVar, rd, bT_nm, bT_tp, bTs_nil, bTs_cons, ix_L, ix_T, ix_LC, oR_some, ln_L, ln_T, ln_LC, ct_L, ct_T, in_ii, ad_I, ad_L, ad_T, rp_I, ti_I, ng_I, tl_L, tl_T, tt_L, tt_T, tr_B, bq_B, ib_B, it_L, it_T, eq_int, ne_int, fMod, fDiv, fPow, isTupD, isLstD, isStrD, isBlD, Res.bind_ok, M.sem, mApp, augD, Gd_ok, Gd_bad, wipeE, isNonD, eS_nil, hp, hz, q1, q2]
        refine g_cons fun K1 kn1 kr1 kb1 kc1 => ?_
        simp [evS, eE_var, eE_con, eE_op, eE_and, eE_or, eE_not, eE_ite, eE_chain, eE_call, eE_callB, eE_dcT, evEs, evC, O.borrows, O.sem, E.isVar, rd, bT_nm, bT_tp, bTs_nil, bTs_cons, ix_L, ix_T, ix_LC, oR_some, ln_L, ln_T, ln_LC, ct_L, ct_T, in_ii, ad_I, ad_L, ad_T, rp_I, ti_I, ng_I, tl_L, tl_T, tt_L, tt_T, tr_B, bq_B, ib_B, it_L, it_T, eq_int, ne_int, fMod, fDiv, fPow, isTupD, isLstD, isStrD, isBlD, Res.bind_ok, M.sem, mApp, augD, Gd_ok, Gd_bad, wipeE, isNonD, eS_nil, few]
        refine kn1 _ ?_
        clear kn1 kr1 kb1 kc1 K1
        refine g_cons fun K1 kn1 kr1 kb1 kc1 => ?_
        simp [evS, eE_var, eE_con, eE_op, eE_and, eE_or, eE_not, eE_ite, eE_chain, eE_call, eE_callB, eE_dcT, evEs, evC, O.borrows, O.sem, E.isVar, rd, bT_nm, bT_tp, bTs_nil, bTs_cons, ix_L, ix_T, ix_LC, oR_some, ln_L, ln_T, ln_LC, ct_L, ct_T, in_ii, ad_I, ad_L, ad_T, rp_I, ti_I, ng_I, tl_L, tl_T, tt_L, tt_T, tr_B, bq_B, ib_B, it_L, it_T, eq_int, ne_int, fMod, fDiv, fPow, isTupD, isLstD, isStrD, isBlD, Res.bind_ok, M.sem, mApp, augD, Gd_ok, Gd_bad, wipeE, isNonD, eS_nil, few]
        refine kn1 _ ?_
        clear kn1 kr1 kb1 kc1 K1
        exact g_nil (kn _ (g_nil ⟨xs ++ [r % 1009], _, _, _, _, _, by rw [List.map_append]; rfl, by rw [List.length_append, hx]; rfl, more _⟩))
      ·
        refine g_cons fun K kn kr kb kc => ?_
        simp [evS, eE_var, eE_con, eE_op, eE_and, eE_or, eE_not, eE_ite, eE_chain, eE_call, eE_callB, eE_dcT, evEs, evC, O.borrows, O.sem, E.isVar, rd, bT_nm, bT_tp, bTs_nil, bTs_cons, ix_L, ix_T, ix_LC, oR_some, ln_L, ln_T, ln_LC, ct_L, ct_T, in_ii, ad_I, ad_L, ad_T, rp_I, ti_I, ng_I, tl_L, tl_T, tt_L, tt_T, tr_B, bq_B, ib_B, it_L, it_T, eq_int, ne_int, fMod, fDiv, fPow, isTupD, isLstD, isStrD, isBlD, Res.bind_ok, M.sem, mApp, augD, Gd_ok, Gd_bad, wipeE, isNonD, eS_nil, hp, hz, q1, q2]
        refine g_cons fun K1 kn1 kr1 kb1 kc1 => ?_
        simp [evS, eE_var, eE_con, eE_op, eE_and, eE_or, eE_not, eE_ite, eE_chain, eE_call, eE_callB, eE_dcT, evEs, evC, O.borrows, O.sem, E.isVar, rd, bT_nm, bT_tp, bTs_nil, bTs_cons, ix_L, ix_T, ix_LC, oR_some, ln_L, ln_T, ln_LC, ct_L, ct_T, in_ii, ad_I, ad_L, ad_T, rp_I, ti_I, ng_I, tl_L, tl_T, tt_L, tt_T, tr_B, bq_B, ib_B, it_L, it_T, eq_int, ne_int, fMod, fDiv, fPow, isTupD, isLstD, isStrD, isBlD, Res.bind_ok, M.sem, mApp, augD, Gd_ok, Gd_bad, wipeE, isNonD, eS_nil, hz, f1, f2, f3, f4, f5, f6, f7]
        refine kn1 _ ?_
        clear kn1 kr1 kb1 kc1 K1
        refine g_cons fun K1 kn1 kr1 kb1 kc1 => ?_
        simp [evS, eE_var, eE_con, eE_op, eE_and, eE_or, eE_not, eE_ite, eE_chain, eE_call, eE_callB, eE_dcT, evEs, evC, O.borrows, O.sem, E.isVar, rd, bT_nm, bT_tp, bTs_nil, bTs_cons, ix_L, ix_T, ix_LC, oR_some, ln_L, ln_T, ln_LC, ct_L, ct_T, in_ii, ad_I, ad_L, ad_T, rp_I, ti_I, ng_I, tl_L, tl_T, tt_L, tt_T, tr_B, bq_B, ib_B, it_L, it_T, eq_int, ne_int, fMod, fDiv, fPow, isTupD, isLstD, isStrD, isBlD, Res.bind_ok, M.sem, mApp, augD, Gd_ok, Gd_bad, wipeE, isNonD, eS_nil, hz, f1, f2, f3, f4, f5, f6, f7]
        refine kn1 _ ?_
        clear kn1 kr1 kb1 kc1 K1
        refine g_cons fun K1 kn1 kr1 kb1 kc1 => ?_
        simp [evS, eE_var, eE_con, eE_op, eE_and, eE_or, eE_not, eE_ite, eE_chain, eE_call, eE_callB, eE_dcT, evEs, evC, O.borrows, O.sem, E.isVar, rd, bT_nm, bT_tp, bTs_nil, bTs_cons, ix_L, ix_T, ix_LC, oR_some, ln_L, ln_T, ln_LC, ct_L, ct_T, in_ii, ad_I, ad_L, ad_T, rp_I, ti_I, ng_I, tl_L, tl_T, tt_L, tt_T, tr_B, bq_B, ib_B, it_L, it_T, eq_int, ne_int, fMod, fDiv, fPow, isTupD, isLstD, isStrD, isBlD, Res.bind_ok, M.sem, mApp, augD, Gd_ok, Gd_bad, wipeE, isNonD, eS_nil, hz, f1, f2, f3, f4, f5, f6, f7]
        refine kn1 _ ?_
        clear kn1 kr1 kb1 kc1 K1
        refine g_cons fun K1 kn1 kr1 kb1 kc1 => ?_
        simp [evS, eE_var, eE_con, eE_op, eE_and, eE_or, eE_not, eE_ite, eE_chain, eE_call, eE_callB, eE_dcT, evEs, evC, O.borrows, O.sem, E.isVar, rd, bT_nm, bT_tp, bTs_nil, bTs_cons, ix_L, ix_T, ix_LC, oR_some, ln_L, ln_T, ln_LC, ct_L, ct_T, in_ii, ad_I, ad_L, ad_T, rp_I, ti_I, ng_I, tl_L, tl_T, tt_L, tt_T, tr_B, bq_B, ib_B, it_L, it_T, eq_int, ne_int, fMod, fDiv, fPow, isTupD, isLstD, isStrD, isBlD, Res.bind_ok, M.sem, mApp, augD, Gd_ok, Gd_bad, wipeE, isNonD, eS_nil, hz, f1, f2, f3, f4, f5, f6, f7]
        refine kn1 _ ?_
        clear kn1 kr1 kb1 kc1 K1
        refine g_cons fun K1 kn1 kr1 kb1 kc1 => ?_
        simp [evS, eE_var, eE_con, eE_op, eE_and, eE_or, eE_not, eE_ite, eE_chain, eE_call, eE_callB, eE_dcT, evEs, evC, O.borrows, O.sem, E.isVar, rd, bT_nm, bT_tp, bTs_nil, bTs_cons, ix_L, ix_T, ix_LC, oR_some, ln_L, ln_T, ln_LC, ct_L, ct_T, in_ii, ad_I, ad_L, ad_T, rp_I, ti_I, ng_I, tl_L, tl_T, tt_L, tt_T, tr_B, bq_B, ib_B, it_L, it_T, eq_int, ne_int, fMod, fDiv, fPow, isTupD, isLstD, isStrD, isBlD, Res.bind_ok, M.sem, mApp, augD, Gd_ok, Gd_bad, wipeE, isNonD, eS_nil, few]
        refine kn1 _ ?_
        clear kn1 kr1 kb1 kc1 K1
        exact g_nil (kn _ (g_nil ⟨xs ++ [_ % 1009], _, _, _, _, _, by rw [List.map_append]; rfl, by rw [List.length_append, hx]; rfl, more _⟩))
    ·
      refine g_cons fun K kn kr kb kc => ?_
      simp [evS, eE_var, eE_con, eE_op, eE_and, eE_or, eE_not, eE_ite, eE_chain, eE_call, eE_callB, eE_dcT, evEs, evC, O.borrows, O.sem, E.isVar, rd, bT_nm, bT_tp, bTs_nil, bTs_cons, ix_L, ix_T, ix_LC, oR_some, ln_L, ln_T, ln_LC, ct_L, ct_T, in_ii, ad_I, ad_L, ad_T, rp_I, ti_I, ng_I, tl_L, tl_T, tt_L, tt_T, tr_B, bq_B, ib_B, it_L, it_T, eq_int, ne_int, fMod, fDiv, fPow, isTupD, isLstD, isStrD, isBlD, Res.bind_ok, M.sem, mApp, augD, Gd_ok, Gd_bad, wipeE, isNonD, eS_nil, hp, hz, q1]
      refine g_cons fun K1 kn1 kr1 kb1 kc1 => ?_
      simp [evS, eE_var, eE_con, eE_op, eE_and, eE_or, eE_not, eE_ite, eE_chain, eE_call, eE_callB, eE_dcT, evEs, evC, O.borrows, O.sem, E.isVar, rd, bT_nm, bT_tp, bTs_nil, bTs_cons, ix_L, ix_T, ix_LC, oR_some, ln_L, ln_T, ln_LC, ct_L, ct_T, in_ii, ad_I, ad_L, ad_T, rp_I, ti_I, ng_I, tl_L, tl_T, tt_L, tt_T, tr_B, bq_B, ib_B, it_L, it_T, eq_int, ne_int, fMod, fDiv, fPow, isTupD, isLstD, isStrD, isBlD, Res.bind_ok, M.sem, mApp, augD, Gd_ok, Gd_bad, wipeE, isNonD, eS_nil, hz, f1, f2, f3, f4, f5, f6, f7]
      refine kn1 _ ?_
      clear kn1 kr1 kb1 kc1 K1
      refine g_cons fun K1 kn1 kr1 kb1 kc1 => ?_
      simp [evS, eE_var, eE_con, eE_op, eE_and, eE_or, eE_not, eE_ite, eE_chain, eE_call, eE_callB, eE_dcT, evEs, evC, O.borrows, O.sem, E.isVar, rd, bT_nm, bT_tp, bTs_nil, bTs_cons, ix_L, ix_T, ix_LC, oR_some, ln_L, ln_T, ln_LC, ct_L, ct_T, in_ii, ad_I, ad_L, ad_T, rp_I, ti_I, ng_I, tl_L, tl_T, tt_L, tt_T, tr_B, bq_B, ib_B, it_L, it_T, eq_int, ne_int, fMod, fDiv, fPow, isTupD, isLstD, isStrD, isBlD, Res.bind_ok, M.sem, mApp, augD, Gd_ok, Gd_bad, wipeE, isNonD, eS_nil, hz, f1, f2, f3, f4, f5, f6, f7]
      refine kn1 _ ?_
      clear kn1 kr1 kb1 kc1 K1
      refine g_cons fun K1 kn1 kr1 kb1 kc1 => ?_
      simp [evS, eE_var, eE_con, eE_op, eE_and, eE_or, eE_not, eE_ite, eE_chain, eE_call, eE_callB, eE_dcT, evEs, evC, O.borrows, O.sem, E.isVar, rd, bT_nm, bT_tp, bTs_nil, bTs_cons, ix_L, ix_T, ix_LC, oR_some, ln_L, ln_T, ln_LC, ct_L, ct_T, in_ii, ad_I, ad_L, ad_T, rp_I, ti_I, ng_I, tl_L, tl_T, tt_L, tt_T, tr_B, bq_B, ib_B, it_L, it_T, eq_int, ne_int, fMod, fDiv, fPow, isTupD, isLstD, isStrD, isBlD, Res.bind_ok, M.sem, mApp, augD, Gd_ok, Gd_bad, wipeE, isNonD, eS_nil, hz, f1, f2, f3, f4, f5, f6, f7]
      refine kn1 _ ?_
      clear kn1 kr1 kb1 kc1 K1
      refine g_cons fun K1 kn1 kr1 kb1 kc1 => ?_
      simp [evS, eE_var, eE_con, eE_op, eE_and, eE_or, eE_not, eE_ite, eE_chain, eE_call, eE_callB, eE_dcT, evEs, evC, O.borrows, O.sem, E.isVar, rd, bT_nm, bT_tp, bTs_nil, bTs_cons, ix_L, ix_T, ix_LC, oR_some, ln_L, ln_T, ln_LC, ct_L, ct_T, in_ii, ad_I, ad_L, ad_T, rp_I, ti_I, ng_I, tl_L, tl_T, tt_L, tt_T, tr_B, bq_B, ib_B, it_L, it_T, eq_int, ne_int, fMod, fDiv, fPow, isTupD, isLstD, isStrD, isBlD, Res.bind_ok, M.sem, mApp, augD, Gd_ok, Gd_bad, wipeE, isNonD, eS_nil, hz, f1, f2, f3, f4, f5, f6, f7]
      refine kn1 _ ?_
      clear kn1 kr1 kb1 kc1 K1
      refine g_cons fun K1 kn1 kr1 kb1 kc1 => ?_
      simp [evS, eE_var, eE_con, eE_op, eE_and, eE_or, eE_not, eE_ite, eE_chain, eE_call, eE_callB, eE_dcT, evEs, evC, O.borrows, O.sem, E.isVar, rd, bT_nm, bT_tp, bTs_nil, bTs_cons, ix_L, ix_T, ix_LC, oR_some, ln_L, ln_T, ln_LC, ct_L, ct_T, in_ii, ad_I, ad_L, ad_T, rp_I, ti_I, ng_I, tl_L, tl_T, tt_L, tt_T, tr_B, bq_B, ib_B, it_L, it_T, eq_int, ne_int, fMod, fDiv, fPow, isTupD, isLstD, isStrD, isBlD, Res.bind_ok, M.sem, mApp, augD, Gd_ok, Gd_bad, wipeE, isNonD, eS_nil, few]
      refine kn1 _ ?_
      clear kn1 kr1 kb1 kc1 K1
      exact g_nil (kn _ (g_nil ⟨xs ++ [_ % 1009], _, _, _, _, _, by rw [List.map_append]; rfl, by rw [List.length_append, hx]; rfl, more _⟩))
  · obtain ⟨xs, r, s4, s5, s6, s7, rfl, hx, hd⟩ := hI
    refine kn0 _ ?_
    rw [lenR, Nat.zero_add] at hx
    refine g_fz ?_
    simp only [Den.fz, fzOne, List.getElem?_cons_succ, List.getElem?_cons_zero, List.set_cons_succ, List.set_cons_zero]
    refine g_cons fun K kn kr kb kc => ?_
    simp [evS, eE_var, eE_con, eE_op, eE_and, eE_or, eE_not, eE_ite, eE_chain, eE_call, eE_callB, eE_dcT, evEs, evC, O.borrows, O.sem, E.isVar, rd, bT_nm, bT_tp, bTs_nil, bTs_cons, ix_L, ix_T, ix_LC, oR_some, ln_L, ln_T, ln_LC, ct_L, ct_T, in_ii, ad_I, ad_L, ad_T, rp_I, ti_I, ng_I, tl_L, tl_T, tt_L, tt_T, tr_B, bq_B, ib_B, it_L, it_T, eq_int, ne_int, fMod, fDiv, fPow, isTupD, isLstD, isStrD, isBlD, Res.bind_ok, M.sem, mApp, augD, Gd_ok, Gd_bad, wipeE, isNonD, eS_nil]
    refine kr _ _ ?_
    clear kn kr kb kc K
    dsimp only
    exact ⟨xs, rfl, hx, hd⟩
end K32

namespace K32
open PySem Den L2
def nth (ns : List Int) (k : Int) : Int := ns.getD k.toNat 0
theorem atD_nth (ns : List Int) {k : Int} (h0 : 0 ≤ k) (h1 : k < ns.length) : atD (ns.map D.int) k = some (.int (nth ns k)) := by
  rw [atD_pos D.int ns h0 h1]
  unfold nth
  rw [List.getD_eq_getElem?_getD, List.getElem?_eq_getElem (by omega)]
  rfl
theorem fitting_ok (ns : List Int) (c m : Int) (hn : 100 ≤ ns.length) (c0 : 1 ≤ c) (c1 : c ≤ 100) (m0 : 0 ≤ m) (m1 : m ≤ 19) : ∃ R : List Row, g5 [.lst (ns.map .int), .int c, .int m] = .ok (.lst (R.map row)) ∧ R.length = m.toNat := by
  have sl : sizeLine = 16777216 := rfl
  suffices h : Gd (g5 [.lst (ns.map .int), .int c, .int m]) fun d => ∃ R : List Row, d = .lst (R.map row) ∧ R.length = m.toNat by
    obtain ⟨d, e, xs, rfl, k⟩ := h.ex
    exact ⟨xs, e, k⟩
  unfold g5 s5
  refine g_run _ rfl rfl ?_
  have rg : rngOk (c - 1) = true := decide_eq_true (by omega)
  have rg2 : rngOk m = true := decide_eq_true (by omega)
  have sm : ∀ n, n ≤ 30 → n ≤ sizeLine := fun n h => by omega
  -- hidden
  refine g_cons fun K kn kr kb kc => ?_
  simp [evS, eE_var, eE_con, eE_op, eE_and, eE_or, eE_not, eE_ite, eE_chain, eE_call, eE_callB, eE_dcT, evEs, evC, O.borrows, O.sem, E.isVar, rd, bT_nm, bT_tp, bTs_nil, bTs_cons, ix_L, ix_T, ix_LC, oR_some, ln_L, ln_T, ln_LC, ct_L, ct_T, in_ii, ad_I, ad_L, ad_T, rp_I, ti_I, ng_I, tl_L, tl_T, tt_L, tt_T, tr_B, bq_B, ib_B, it_L, it_T, eq_int, ne_int, fMod, fDiv, fPow, isTupD, isLstD, isStrD, isBlD, Res.bind_ok, M.sem, mApp, augD, Gd_ok, Gd_bad, wipeE, isNonD, eS_nil, sm]
  rw [lc_ok (List.range (c - 1).toNat) (fun k => D.int (k : Nat)) (fun k => D.int (nth ns ((k : Int) % 40) % 41)) (by simp [evS, eE_var, eE_con, eE_op, eE_and, eE_or, eE_not, eE_ite, eE_chain, eE_call, eE_callB, eE_dcT, evEs, evC, O.borrows, O.sem, E.isVar, rd, bT_nm, bT_tp, bTs_nil, bTs_cons, ix_L, ix_T, ix_LC, oR_some, ln_L, ln_T, ln_LC, ct_L, ct_T, in_ii, ad_I, ad_L, ad_T, rp_I, ti_I, ng_I, tl_L, tl_T, tt_L, tt_T, tr_B, bq_B, ib_B, it_L, it_T, eq_int, ne_int, fMod, fDiv, fPow, isTupD, isLstD, isStrD, isBlD, Res.bind_ok, M.sem, mApp, augD, Gd_ok, Gd_bad, wipeE, isNonD, eS_nil]) (it_R _ rg) (by simp; omega) (fun k _ => by
    have e := atD_nth ns (k := (k : Int) % 40) (by omega) (by omega)
    simp [evS, eE_var, eE_con, eE_op, eE_and, eE_or, eE_not, eE_ite, eE_chain, eE_call, eE_callB, eE_dcT, evEs, evC, O.borrows, O.sem, E.isVar, rd, bT_nm, bT_tp, bTs_nil, bTs_cons, ix_L, ix_T, ix_LC, oR_some, ln_L, ln_T, ln_LC, ct_L, ct_T, in_ii, ad_I, ad_L, ad_T, rp_I, ti_I, ng_I, tl_L, tl_T, tt_L, tt_T, tr_B, bq_B, ib_B, it_L, it_T, eq_int, ne_int, fMod, fDiv, fPow, isTupD, isLstD, isStrD, isBlD, Res.bind_ok, M.sem, mApp, augD, Gd_ok, Gd_bad, wipeE, isNonD, eS_nil, e])]
  have hl : ((List.range (c - 1).toNat).map fun (k : Nat) => D.int (nth ns ((k : Int) % 40) % 41)) = ((List.range (c - 1).toNat).map fun (k : Nat) => nth ns ((k : Int) % 40) % 41).map D.int := by rw [List.map_map]; rfl
  have ll : ((List.range (c - 1).toNat).map fun (k : Nat) => nth ns ((k : Int) % 40) % 41).length = (c - 1).toNat := by simp
  rw [hl]
  generalize (List.range (c - 1).toNat).map (fun (k : Nat) => nth ns ((k : Int) % 40) % 41) = T at ll
  have le : 1 + T.length ≤ sizeLine := by omega
  simp [evS, eE_var, eE_con, eE_op, eE_and, eE_or, eE_not, eE_ite, eE_chain, eE_call, eE_callB, eE_dcT, evEs, evC, O.borrows, O.sem, E.isVar, rd, bT_nm, bT_tp, bTs_nil, bTs_cons, ix_L, ix_T, ix_LC, oR_some, ln_L, ln_T, ln_LC, ct_L, ct_T, in_ii, ad_I, ad_L, ad_T, rp_I, ti_I, ng_I, tl_L, tl_T, tt_L, tt_T, tr_B, bq_B, ib_B, it_L, it_T, eq_int, ne_int, fMod, fDiv, fPow, isTupD, isLstD, isStrD, isBlD, Res.bind_ok, M.sem, mApp, augD, Gd_ok, Gd_bad, wipeE, isNonD, eS_nil, le]
  refine kn _ ?_
  clear kn kr kb kc K
  have eH : D.int 0 :: T.map D.int = (0 :: T).map D.int := rfl
  rw [eH]
  have hH : (0 :: T).length = c.toNat := by rw [List.length_cons]; omega
  generalize 0 :: T = H at hH
  refine g_cons fun K kn kr kb kc => ?_
  simp [evS, eE_var, eE_con, eE_op, eE_and, eE_or, eE_not, eE_ite, eE_chain, eE_call, eE_callB, eE_dcT, evEs, evC, O.borrows, O.sem, E.isVar, rd, bT_nm, bT_tp, bTs_nil, bTs_cons, ix_L, ix_T, ix_LC, oR_some, ln_L, ln_T, ln_LC, ct_L, ct_T, in_ii, ad_I, ad_L, ad_T, rp_I, ti_I, ng_I, tl_L, tl_T, tt_L, tt_T, tr_B, bq_B, ib_B, it_L, it_T, eq_int, ne_int, fMod, fDiv, fPow, isTupD, isLstD, isStrD, isBlD, Res.bind_ok, M.sem, mApp, augD, Gd_ok, Gd_bad, wipeE, isNonD, eS_nil, sm]
  refine kn _ ?_
  clear kn kr kb kc K
  refine g_cons fun K0 kn0 kr0 kb0 kc0 => ?_
  simp only [evS, evEs, eE_var, eE_con, eE_op, eE_call, E.isVar, rd, it_L, it_T, List.getElem?_cons_succ, List.getElem?_cons_zero, Res.bind_ok, it_R _ rg2]
  have lenR : ((List.range m.toNat).map fun k => D.int (k : Nat)).length = m.toNat := by simp
  refine Gd.for (fun i ρ => ∃ (R : List Row) (s5 s6 s7 s8 : Slot), ρ = [.val (.lst (ns.map .int)), .val (.int c), .val (.int m), .val (.lst (H.map D.int)), .own (.lst (R.map row)), s5, s6, s7, s8] ∧ R.length = i)
    (fun _ => True) _ 0 _ ⟨[], .un, .un, .un, .un, by simp, rfl⟩ (fun i hi ρ hI => ?_) (fun ρ hI => ?_)
  · obtain ⟨R, s5, s6, s7, s8, rfl, hx⟩ := hI
    rw [Nat.zero_add] at hx ⊢
    rw [lenR] at hi
    have few : R.length < sizeLine := by omega
    have e1 := atD_nth ns (k := 40 + 3 * (i : Int)) (by omega) (by omega)
    have e2 := atD_nth ns (k := 41 + 3 * (i : Int)) (by omega) (by omega)
    have e3 := atD_nth ns (k := 42 + 3 * (i : Int)) (by omega) (by omega)
    have f3 := fun x => fm_2 3 x (by decide)
    have cp : 0 < c := by omega
    obtain ⟨p, hp⟩ : ∃ p, nth ns (40 + 3 * (i : Int)) % c = p := ⟨_, rfl⟩
    obtain ⟨q, hq⟩ : ∃ q, nth ns (41 + 3 * (i : Int)) % c = q := ⟨_, rfl⟩
    have p0 : 0 ≤ p := by rw [← hp]; exact Int.emod_nonneg _ (by omega)
    have p1 : p < c := by rw [← hp]; exact Int.emod_lt_of_pos _ (by omega)
    have q0 : 0 ≤ q := by rw [← hq]; exact Int.emod_nonneg _ (by omega)
    have q1 : q < c := by rw [← hq]; exact Int.emod_lt_of_pos _ (by omega)
    obtain ⟨u, hu, _⟩ := atD_ex H p p0 (by omega)
    obtain ⟨v, hv, _⟩ := atD_ex H q q0 (by omega)
    obtain ⟨t, ht, _⟩ := atD_ex [0, 0, 1, 5, 40] (nth ns (42 + 3 * (i : Int)) % 5) (by omega) (by simp; omega)
    simp only [List.map_cons, List.map_nil] at ht
    simp only [bT_nm, List.set_cons_succ, List.set_cons_zero, Gd_ok, List.getElem_map]
    simp only [List.getElem_range]
    refine g_cons fun K kn kr kb kc => ?_
    simp [evS, eE_var, eE_con, eE_op, eE_and, eE_or, eE_not, eE_ite, eE_chain, eE_call, eE_callB, eE_dcT, evEs, evC, O.borrows, O.sem, E.isVar, rd, bT_nm, bT_tp, bTs_nil, bTs_cons, ix_L, ix_T, ix_LC, oR_some, ln_L, ln_T, ln_LC, ct_L, ct_T, in_ii, ad_I, ad_L, ad_T, rp_I, ti_I, ng_I, tl_L, tl_T, tt_L, tt_T, tr_B, bq_B, ib_B, it_L, it_T, eq_int, ne_int, fMod, fDiv, fPow, isTupD, isLstD, isStrD, isBlD, Res.bind_ok, M.sem, mApp, augD, Gd_ok, Gd_bad, wipeE, isNonD, eS_nil, e1, f3, cp, hp]
    refine kn _ ?_
    clear kn kr kb kc K
    refine g_cons fun K kn kr kb kc => ?_
    simp [evS, eE_var, eE_con, eE_op, eE_and, eE_or, eE_not, eE_ite, eE_chain, eE_call, eE_callB, eE_dcT, evEs, evC, O.borrows, O.sem, E.isVar, rd, bT_nm, bT_tp, bTs_nil, bTs_cons, ix_L, ix_T, ix_LC, oR_some, ln_L, ln_T, ln_LC, ct_L, ct_T, in_ii, ad_I, ad_L, ad_T, rp_I, ti_I, ng_I, tl_L, tl_T, tt_L, tt_T, tr_B, bq_B, ib_B, it_L, it_T, eq_int, ne_int, fMod, fDiv, fPow, isTupD, isLstD, isStrD, isBlD, Res.bind_ok, M.sem, mApp, augD, Gd_ok, Gd_bad, wipeE, isNonD, eS_nil, e2, f3, cp, hq]
    refine kn _ ?_
    clear kn kr kb kc K
    refine g_cons fun K kn kr kb kc => ?_
    simp [evS, eE_var, eE_con, eE_op, eE_and, eE_or, eE_not, eE_ite, eE_chain, eE_call, eE_callB, eE_dcT, evEs, evC, O.borrows, O.sem, E.isVar, rd, bT_nm, bT_tp, bTs_nil, bTs_cons, ix_L, ix_T, ix_LC, oR_some, ln_L, ln_T, ln_LC, ct_L, ct_T, in_ii, ad_I, ad_L, ad_T, rp_I, ti_I, ng_I, tl_L, tl_T, tt_L, tt_T, tr_B, bq_B, ib_B, it_L, it_T, eq_int, ne_int, fMod, fDiv, fPow, isTupD, isLstD, isStrD, isBlD, Res.bind_ok, M.sem, mApp, augD, Gd_ok, Gd_bad, wipeE, isNonD, eS_nil, e3, f3, ht, sm]
    refine kn _ ?_
    clear kn kr kb kc K
    refine g_cons fun K kn kr kb kc => ?_
    simp [evS, eE_var, eE_con, eE_op, eE_and, eE_or, eE_not, eE_ite, eE_chain, eE_call, eE_callB, eE_dcT, evEs, evC, O.borrows, O.sem, E.isVar, rd, bT_nm, bT_tp, bTs_nil, bTs_cons, ix_L, ix_T, ix_LC, oR_some, ln_L, ln_T, ln_LC, ct_L, ct_T, in_ii, ad_I, ad_L, ad_T, rp_I, ti_I, ng_I, tl_L, tl_T, tt_L, tt_T, tr_B, bq_B, ib_B, it_L, it_T, eq_int, ne_int, fMod, fDiv, fPow, isTupD, isLstD, isStrD, isBlD, Res.bind_ok, M.sem, mApp, augD, Gd_ok, Gd_bad, wipeE, isNonD, eS_nil, hu, hv, few, sm]
    refine kn _ ?_
    clear kn kr kb kc K
    exact g_nil ⟨R ++ [(p, q, u - v + t)], _, _, _, _, by rw [List.map_append]; rfl, by rw [List.length_append, hx]; rfl⟩
  · obtain ⟨R, s5, s6, s7, s8, rfl, hx⟩ := hI
    refine kn0 _ ?_
    rw [lenR, Nat.zero_add] at hx
    refine g_fz ?_
    simp only [Den.fz, fzOne, List.getElem?_cons_succ, List.getElem?_cons_zero, List.set_cons_succ, List.set_cons_zero]
    refine g_cons fun K kn kr kb kc => ?_
    simp [evS, eE_var, eE_con, eE_op, eE_and, eE_or, eE_not, eE_ite, eE_chain, eE_call, eE_callB, eE_dcT, evEs, evC, O.borrows, O.sem, E.isVar, rd, bT_nm, bT_tp, bTs_nil, bTs_cons, ix_L, ix_T, ix_LC, oR_some, ln_L, ln_T, ln_LC, ct_L, ct_T, in_ii, ad_I, ad_L, ad_T, rp_I, ti_I, ng_I, tl_L, tl_T, tt_L, tt_T, tr_B, bq_B, ib_B, it_L, it_T, eq_int, ne_int, fMod, fDiv, fPow, isTupD, isLstD, isStrD, isBlD, Res.bind_ok, M.sem, mApp, augD, Gd_ok, Gd_bad, wipeE, isNonD, eS_nil]
    refine kr _ _ ?_
    clear kn kr kb kc K
    dsimp only
    exact ⟨R, rfl, hx⟩
end K32

namespace K32
open PySem Den L2
def bnds (R : List Row) : Int := (R.map (·.2.2)).sum
theorem bnds_app (R : List Row) (r : Row) : bnds (R ++ [r]) = bnds R + r.2.2 := by simp [bnds]
def Linked (R : List Row) : Prop := ∀ i (h : i < R.length), R[i].1 = prv R i
theorem planted_ok (ns : List Int) (c L t : Int) (hn : 12 ≤ ns.length) (c0 : 1 ≤ c) (c1 : c ≤ 100) (l0 : 1 ≤ L) (l1 : L ≤ 9) : ∃ R : List Row, g6 [.lst (ns.map .int), .int c, .int L, .int t] = .ok (.tup (R.map row)) ∧ R.length = L.toNat ∧ bnds R = t ∧ Linked R := by
  have sl : sizeLine = 16777216 := rfl
  suffices h : Gd (g6 [.lst (ns.map .int), .int c, .int L, .int t]) fun d => ∃ R : List Row, d = .tup (R.map row) ∧ R.length = L.toNat ∧ bnds R = t ∧ Linked R by
    obtain ⟨d, e, xs, rfl, k⟩ := h.ex
    exact ⟨xs, e, k⟩
  unfold g6 s6
  refine g_run _ rfl rfl ?_
  have rg : rngOk L = true := decide_eq_true (by omega)
  have sm : ∀ n, n ≤ 30 → n ≤ sizeLine := fun n h => by omega
  have cp : 0 < c := by omega
  have lp : 0 < L := by omega
  -- places
  refine g_cons fun K kn kr kb kc => ?_
  simp only [evS]
  rw [lc_ok (List.range L.toNat) (fun k => D.int (k : Nat)) (fun k => D.int (nth ns (3 + (k : Int)) % c)) (by simp [evS, eE_var, eE_con, eE_op, eE_and, eE_or, eE_not, eE_ite, eE_chain, eE_call, eE_callB, eE_dcT, evEs, evC, O.borrows, O.sem, E.isVar, rd, bT_nm, bT_tp, bTs_nil, bTs_cons, ix_L, ix_T, ix_LC, oR_some, ln_L, ln_T, ln_LC, ct_L, ct_T, in_ii, ad_I, ad_L, ad_T, rp_I, ti_I, ng_I, tl_L, tl_T, tt_L, tt_T, tr_B, bq_B, ib_B, it_L, it_T, eq_int, ne_int, fMod, fDiv, fPow, isTupD, isLstD, isStrD, isBlD, Res.bind_ok, M.sem, mApp, augD, Gd_ok, Gd_bad, wipeE, isNonD, eS_nil]) (it_R _ rg) (by simp; omega) (fun k hk => by
    have hk := List.mem_range.mp hk
    have e := atD_nth ns (k := 3 + (k : Int)) (by omega) (by omega)
    simp [evS, eE_var, eE_con, eE_op, eE_and, eE_or, eE_not, eE_ite, eE_chain, eE_call, eE_callB, eE_dcT, evEs, evC, O.borrows, O.sem, E.isVar, rd, bT_nm, bT_tp, bTs_nil, bTs_cons, ix_L, ix_T, ix_LC, oR_some, ln_L, ln_T, ln_LC, ct_L, ct_T, in_ii, ad_I, ad_L, ad_T, rp_I, ti_I, ng_I, tl_L, tl_T, tt_L, tt_T, tr_B, bq_B, ib_B, it_L, it_T, eq_int, ne_int, fMod, fDiv, fPow, isTupD, isLstD, isStrD, isBlD, Res.bind_ok, M.sem, mApp, augD, Gd_ok, Gd_bad, wipeE, isNonD, eS_nil, e, cp])]
  have hl : ((List.range L.toNat).map fun (k : Nat) => D.int (nth ns (3 + (k : Int)) % c)) = ((List.range L.toNat).map fun (k : Nat) => nth ns (3 + (k : Int)) % c).map D.int := by rw [List.map_map]; rfl
  have ll : ((List.range L.toNat).map fun (k : Nat) => nth ns (3 + (k : Int)) % c).length = L.toNat := by simp
  rw [hl]
  generalize (List.range L.toNat).map (fun (k : Nat) => nth ns (3 + (k : Int)) % c) = T at ll
  simp [evS, eE_var, eE_con, eE_op, eE_and, eE_or, eE_not, eE_ite, eE_chain, eE_call, eE_callB, eE_dcT, evEs, evC, O.borrows, O.sem, E.isVar, rd, bT_nm, bT_tp, bTs_nil, bTs_cons, ix_L, ix_T, ix_LC, oR_some, ln_L, ln_T, ln_LC, ct_L, ct_T, in_ii, ad_I, ad_L, ad_T, rp_I, ti_I, ng_I, tl_L, tl_T, tt_L, tt_T, tr_B, bq_B, ib_B, it_L, it_T, eq_int, ne_int, fMod, fDiv, fPow, isTupD, isLstD, isStrD, isBlD, Res.bind_ok, M.sem, mApp, augD, Gd_ok, Gd_bad, wipeE, isNonD, eS_nil]
  refine kn _ ?_
  clear kn kr kb kc K
  refine g_fz ?_
  simp only [Den.fz, fzOne, List.getElem?_cons_succ, List.getElem?_cons_zero, List.set_cons_succ, List.set_cons_zero]
  refine g_cons fun K kn kr kb kc => ?_
  simp [evS, eE_var, eE_con, eE_op, eE_and, eE_or, eE_not, eE_ite, eE_chain, eE_call, eE_callB, eE_dcT, evEs, evC, O.borrows, O.sem, E.isVar, rd, bT_nm, bT_tp, bTs_nil, bTs_cons, ix_L, ix_T, ix_LC, oR_some, ln_L, ln_T, ln_LC, ct_L, ct_T, in_ii, ad_I, ad_L, ad_T, rp_I, ti_I, ng_I, tl_L, tl_T, tt_L, tt_T, tr_B, bq_B, ib_B, it_L, it_T, eq_int, ne_int, fMod, fDiv, fPow, isTupD, isLstD, isStrD, isBlD, Res.bind_ok, M.sem, mApp, augD, Gd_ok, Gd_bad, wipeE, isNonD, eS_nil, sm]
  refine kn _ ?_
  clear kn kr kb kc K
  refine g_cons fun K kn kr kb kc => ?_
  simp [evS, eE_var, eE_con, eE_op, eE_and, eE_or, eE_not, eE_ite, eE_chain, eE_call, eE_callB, eE_dcT, evEs, evC, O.borrows, O.sem, E.isVar, rd, bT_nm, bT_tp, bTs_nil, bTs_cons, ix_L, ix_T, ix_LC, oR_some, ln_L, ln_T, ln_LC, ct_L, ct_T, in_ii, ad_I, ad_L, ad_T, rp_I, ti_I, ng_I, tl_L, tl_T, tt_L, tt_T, tr_B, bq_B, ib_B, it_L, it_T, eq_int, ne_int, fMod, fDiv, fPow, isTupD, isLstD, isStrD, isBlD, Res.bind_ok, M.sem, mApp, augD, Gd_ok, Gd_bad, wipeE, isNonD, eS_nil]
  refine kn _ ?_
  clear kn kr kb kc K
  refine g_cons fun K0 kn0 kr0 kb0 kc0 => ?_
  simp only [evS, evEs, eE_var, eE_con, eE_op, eE_call, E.isVar, rd, it_L, it_T, List.getElem?_cons_succ, List.getElem?_cons_zero, Res.bind_ok, it_R _ rg]
  have lenR : ((List.range L.toNat).map fun k => D.int (k : Nat)).length = L.toNat := by simp
  refine Gd.for (fun i ρ => ∃ (R : List Row) (x : Int) (s7 s8 : Slot), ρ = [.val (.lst (ns.map .int)), .val (.int c), .val (.int L), .val (.int t), .val (.lst (T.map D.int)), .own (.lst (R.map row)), .val (.int x), s7, s8] ∧ R.length = i ∧ ((i : Int) < L → x = t - bnds R) ∧ ((i : Int) = L → bnds R = t) ∧
      ∀ j (h : j < R.length), R[j].1 = nth T j ∧ R[j].2.1 = nth T (((j : Int) + 1) % L))
    (fun _ => True) _ 0 _ ⟨[], t, .un, .un, by simp, rfl, fun _ => by simp [bnds], fun h => by omega, fun j h => by simp at h⟩ (fun i hi ρ hI => ?_) (fun ρ hI => ?_)
  · obtain ⟨R, x, s7, s8, rfl, hx, hr, _, hR⟩ := hI
    rw [Nat.zero_add] at hx hr ⊢
    rw [lenR] at hi
    have few : R.length < sizeLine := by omega
    have e1 := atD_nth ns (k := 3 + (i : Int)) (by omega) (by omega)
    have m0 : 0 ≤ ((i : Int) + 1) % L := Int.emod_nonneg _ (by omega)
    have m1 : ((i : Int) + 1) % L < L := Int.emod_lt_of_pos _ (by omega)
    have e2 := atD_nth T (k := (i : Int)) (by omega) (by omega)
    have e3 := atD_nth T (k := ((i : Int) + 1) % L) (by omega) (by omega)
    have hr := hr (by omega)
    have old : ∀ (r : Row), r.1 = nth T i → r.2.1 = nth T (((i : Int) + 1) % L) → ∀ j (h : j < (R ++ [r]).length), (R ++ [r])[j].1 = nth T j ∧ (R ++ [r])[j].2.1 = nth T (((j : Int) + 1) % L) := fun r h1 h2 j h => by
      rw [List.length_append, List.length_singleton] at h
      by_cases q : j < R.length
      · rw [List.getElem_append_left q]
        exact hR j q
      · obtain rfl : j = i := by omega
        rw [List.getElem_append_right (by omega)]
        simp only [hx, Nat.sub_self, List.getElem_cons_zero]
        exact ⟨h1, h2⟩
    simp only [bT_nm, List.set_cons_succ, List.set_cons_zero, Gd_ok, List.getElem_map]
    simp only [List.getElem_range]
    refine g_cons fun K kn kr kb kc => ?_
    simp [evS, eE_var, eE_con, eE_op, eE_and, eE_or, eE_not, eE_ite, eE_chain, eE_call, eE_callB, eE_dcT, evEs, evC, O.borrows, O.sem, E.isVar, rd, bT_nm, bT_tp, bTs_nil, bTs_cons, ix_L, ix_T, ix_LC, oR_some, ln_L, ln_T, ln_LC, ct_L, ct_T, in_ii, ad_I, ad_L, ad_T, rp_I, ti_I, ng_I, tl_L, tl_T, tt_L, tt_T, tr_B, bq_B, ib_B, it_L, it_T, eq_int, ne_int, fMod, fDiv, fPow, isTupD, isLstD, isStrD, isBlD, Res.bind_ok, M.sem, mApp, augD, Gd_ok, Gd_bad, wipeE, isNonD, eS_nil, e1]
    refine kn _ ?_
    clear kn kr kb kc K
    by_cases last : (i : Int) = L - 1
    ·
      refine g_cons fun K kn kr kb kc => ?_
      simp [evS, eE_var, eE_con, eE_op, eE_and, eE_or, eE_not, eE_ite, eE_chain, eE_call, eE_callB, eE_dcT, evEs, evC, O.borrows, O.sem, E.isVar, rd, bT_nm, bT_tp, bTs_nil, bTs_cons, ix_L, ix_T, ix_LC, oR_some, ln_L, ln_T, ln_LC, ct_L, ct_T, in_ii, ad_I, ad_L, ad_T, rp_I, ti_I, ng_I, tl_L, tl_T, tt_L, tt_T, tr_B, bq_B, ib_B, it_L, it_T, eq_int, ne_int, fMod, fDiv, fPow, isTupD, isLstD, isStrD, isBlD, Res.bind_ok, M.sem, mApp, augD, Gd_ok, Gd_bad, wipeE, isNonD, eS_nil, eq_true last]
      refine g_cons fun K1 kn1 kr1 kb1 kc1 => ?_
      simp [evS, eE_var, eE_con, eE_op, eE_and, eE_or, eE_not, eE_ite, eE_chain, eE_call, eE_callB, eE_dcT, evEs, evC, O.borrows, O.sem, E.isVar, rd, bT_nm, bT_tp, bTs_nil, bTs_cons, ix_L, ix_T, ix_LC, oR_some, ln_L, ln_T, ln_LC, ct_L, ct_T, in_ii, ad_I, ad_L, ad_T, rp_I, ti_I, ng_I, tl_L, tl_T, tt_L, tt_T, tr_B, bq_B, ib_B, it_L, it_T, eq_int, ne_int, fMod, fDiv, fPow, isTupD, isLstD, isStrD, isBlD, Res.bind_ok, M.sem, mApp, augD, Gd_ok, Gd_bad, wipeE, isNonD, eS_nil]
      refine kn1 _ (g_nil (kn _ ?_))
      clear kn kr kb kc K kn1 kr1 kb1 kc1 K1
      refine g_cons fun K kn kr kb kc => ?_
      simp [evS, eE_var, eE_con, eE_op, eE_and, eE_or, eE_not, eE_ite, eE_chain, eE_call, eE_callB, eE_dcT, evEs, evC, O.borrows, O.sem, E.isVar, rd, bT_nm, bT_tp, bTs_nil, bTs_cons, ix_L, ix_T, ix_LC, oR_some, ln_L, ln_T, ln_LC, ct_L, ct_T, in_ii, ad_I, ad_L, ad_T, rp_I, ti_I, ng_I, tl_L, tl_T, tt_L, tt_T, tr_B, bq_B, ib_B, it_L, it_T, eq_int, ne_int, fMod, fDiv, fPow, isTupD, isLstD, isStrD, isBlD, Res.bind_ok, M.sem, mApp, augD, Gd_ok, Gd_bad, wipeE, isNonD, eS_nil]
      refine kn _ ?_
      clear kn kr kb kc K
      refine g_cons fun K kn kr kb kc => ?_
      simp [evS, eE_var, eE_con, eE_op, eE_and, eE_or, eE_not, eE_ite, eE_chain, eE_call, eE_callB, eE_dcT, evEs, evC, O.borrows, O.sem, E.isVar, rd, bT_nm, bT_tp, bTs_nil, bTs_cons, ix_L, ix_T, ix_LC, oR_some, ln_L, ln_T, ln_LC, ct_L, ct_T, in_ii, ad_I, ad_L, ad_T, rp_I, ti_I, ng_I, tl_L, tl_T, tt_L, tt_T, tr_B, bq_B, ib_B, it_L, it_T, eq_int, ne_int, fMod, fDiv, fPow, isTupD, isLstD, isStrD, isBlD, Res.bind_ok, M.sem, mApp, augD, Gd_ok, Gd_bad, wipeE, isNonD, eS_nil, e2, e3, lp, few, sm]
      refine kn _ ?_
      clear kn kr kb kc K
      exact g_nil ⟨R ++ [(nth T i, nth T (((i : Int) + 1) % L), x)], _, _, _, by rw [List.map_append]; rfl, by rw [List.length_append, hx]; rfl, fun h => by omega, fun _ => by rw [bnds_app, hr]; dsimp only; omega, old _ rfl rfl⟩
    ·
      refine g_cons fun K kn kr kb kc => ?_
      simp [evS, eE_var, eE_con, eE_op, eE_and, eE_or, eE_not, eE_ite, eE_chain, eE_call, eE_callB, eE_dcT, evEs, evC, O.borrows, O.sem, E.isVar, rd, bT_nm, bT_tp, bTs_nil, bTs_cons, ix_L, ix_T, ix_LC, oR_some, ln_L, ln_T, ln_LC, ct_L, ct_T, in_ii, ad_I, ad_L, ad_T, rp_I, ti_I, ng_I, tl_L, tl_T, tt_L, tt_T, tr_B, bq_B, ib_B, it_L, it_T, eq_int, ne_int, fMod, fDiv, fPow, isTupD, isLstD, isStrD, isBlD, Res.bind_ok, M.sem, mApp, augD, Gd_ok, Gd_bad, wipeE, isNonD, eS_nil, eq_false last]
      refine kn _ ?_
      clear kn kr kb kc K
      refine g_cons fun K kn kr kb kc => ?_
      simp [evS, eE_var, eE_con, eE_op, eE_and, eE_or, eE_not, eE_ite, eE_chain, eE_call, eE_callB, eE_dcT, evEs, evC, O.borrows, O.sem, E.isVar, rd, bT_nm, bT_tp, bTs_nil, bTs_cons, ix_L, ix_T, ix_LC, oR_some, ln_L, ln_T, ln_LC, ct_L, ct_T, in_ii, ad_I, ad_L, ad_T, rp_I, ti_I, ng_I, tl_L, tl_T, tt_L, tt_T, tr_B, bq_B, ib_B, it_L, it_T, eq_int, ne_int, fMod, fDiv, fPow, isTupD, isLstD, isStrD, isBlD, Res.bind_ok, M.sem, mApp, augD, Gd_ok, Gd_bad, wipeE, isNonD, eS_nil]
      refine kn _ ?_
      clear kn kr kb kc K
      refine g_cons fun K kn kr kb kc => ?_
      simp [evS, eE_var, eE_con, eE_op, eE_and, eE_or, eE_not, eE_ite, eE_chain, eE_call, eE_callB, eE_dcT, evEs, evC, O.borrows, O.sem, E.isVar, rd, bT_nm, bT_tp, bTs_nil, bTs_cons, ix_L, ix_T, ix_LC, oR_some, ln_L, ln_T, ln_LC, ct_L, ct_T, in_ii, ad_I, ad_L, ad_T, rp_I, ti_I, ng_I, tl_L, tl_T, tt_L, tt_T, tr_B, bq_B, ib_B, it_L, it_T, eq_int, ne_int, fMod, fDiv, fPow, isTupD, isLstD, isStrD, isBlD, Res.bind_ok, M.sem, mApp, augD, Gd_ok, Gd_bad, wipeE, isNonD, eS_nil, e2, e3, lp, few, sm]
      refine kn _ ?_
      clear kn kr kb kc K
      exact g_nil ⟨R ++ [(nth T i, nth T (((i : Int) + 1) % L), nth ns (3 + (i : Int)) % 19 - 9)], _, _, _, by rw [List.map_append]; rfl, by rw [List.length_append, hx]; rfl, fun _ => by rw [bnds_app, hr]; dsimp only; omega, fun h => by omega, old _ rfl rfl⟩
  · obtain ⟨R, x, s7, s8, rfl, hx, _, hr, hR⟩ := hI
    refine kn0 _ ?_
    rw [lenR, Nat.zero_add] at hx hr
    refine g_cons fun K kn kr kb kc => ?_
    simp [evS, eE_var, eE_con, eE_op, eE_and, eE_or, eE_not, eE_ite, eE_chain, eE_call, eE_callB, eE_dcT, evEs, evC, O.borrows, O.sem, E.isVar, rd, bT_nm, bT_tp, bTs_nil, bTs_cons, ix_L, ix_T, ix_LC, oR_some, ln_L, ln_T, ln_LC, ct_L, ct_T, in_ii, ad_I, ad_L, ad_T, rp_I, ti_I, ng_I, tl_L, tl_T, tt_L, tt_T, tr_B, bq_B, ib_B, it_L, it_T, eq_int, ne_int, fMod, fDiv, fPow, isTupD, isLstD, isStrD, isBlD, Res.bind_ok, M.sem, mApp, augD, Gd_ok, Gd_bad, wipeE, isNonD, eS_nil]
    refine kr _ _ ?_
    clear kn kr kb kc K
    dsimp only
    refine ⟨R, rfl, hx, hr (by omega), fun i h => ?_⟩
    rw [(hR i h).1]
    cases i with
    | zero =>
      have hn := hR (R.length - 1) (by omega)
      have e : R.getLast? = some (R[R.length - 1]'(by omega)) := by rw [List.getLast?_eq_getElem?, List.getElem?_eq_getElem (by omega)]
      have z : (((R.length - 1 : Nat) : Int) + 1) % L = 0 := by
        have e : (((R.length - 1 : Nat) : Int) + 1) = L := by omega
        rw [e, Int.emod_self]
      rw [z] at hn
      simp [prv, e, hn.2]
    | succ i =>
      have hi := hR i (by omega)
      have z : ((i : Int) + 1) % L = (i : Int) + 1 := Int.emod_eq_of_lt (by omega) (by omega)
      rw [z] at hi
      simp [prv, List.getElem?_eq_getElem (show i < R.length by omega), hi.2]
end K32

namespace K32
open PySem Den L2
theorem long_ok (ns : List Int) (hn : 32 ≤ ns.length) : ∃ R : List Row, g15 [.lst (ns.map .int)] = .ok (.lst (R.map row)) ∧ R ≠ [] ∧ R.length ≤ 402 := by
  have sl : sizeLine = 16777216 := rfl
  suffices h : Gd (g15 [.lst (ns.map .int)]) fun d => ∃ R : List Row, d = .lst (R.map row) ∧ R ≠ [] ∧ R.length ≤ 402 by
    obtain ⟨d, e, xs, rfl, k⟩ := h.ex
    exact ⟨xs, e, k⟩
  unfold g15 s15
  refine g_run _ rfl rfl ?_
  have sm : ∀ n, n ≤ 30 → n ≤ sizeLine := fun n h => by omega
  have a0 := atD_nth ns (k := 0) (by omega) (by omega)
  have a1 := atD_nth ns (k := 1) (by omega) (by omega)
  have a2 := atD_nth ns (k := 2) (by omega) (by omega)
  obtain ⟨c, hc, mc⟩ := atD_ex [402, 40, 13, 60] (nth ns 0 % 4) (by omega) (by simp; omega)
  simp only [List.map_cons, List.map_nil] at hc
  have c1 : 13 ≤ c ∧ c ≤ 402 := by
    simp only [List.mem_cons, List.not_mem_nil, or_false] at mc
    omega
  obtain ⟨s, hs, ms⟩ := atD_ex [1, c - 1] (nth ns 2 % 2) (by omega) (by simp; omega)
  simp only [List.map_cons, List.map_nil] at hs
  have s1 : 1 ≤ s ∧ s ≤ 402 := by
    simp only [List.mem_cons, List.not_mem_nil, or_false] at ms
    omega
  have so : intOk s = true := decide_eq_true (by omega)
  have cp : 0 < c := by omega
  have rg : rngOk c = true := decide_eq_true (by omega)
  have rg2 : rngOk (c - 1) = true := decide_eq_true (by omega)
  refine g_cons fun K kn kr kb kc => ?_
  simp [evS, eE_var, eE_con, eE_op, eE_and, eE_or, eE_not, eE_ite, eE_chain, eE_call, eE_callB, eE_dcT, evEs, evC, O.borrows, O.sem, E.isVar, rd, bT_nm, bT_tp, bTs_nil, bTs_cons, ix_L, ix_T, ix_LC, oR_some, ln_L, ln_T, ln_LC, ct_L, ct_T, in_ii, ad_I, ad_L, ad_T, rp_I, ti_I, ng_I, tl_L, tl_T, tt_L, tt_T, tr_B, bq_B, ib_B, it_L, it_T, eq_int, ne_int, fMod, fDiv, fPow, isTupD, isLstD, isStrD, isBlD, Res.bind_ok, M.sem, mApp, augD, Gd_ok, Gd_bad, wipeE, isNonD, eS_nil, a0, hc, sm]
  refine kn _ ?_
  clear kn kr kb kc K
  refine g_cons fun K kn kr kb kc => ?_
  simp [evS, eE_var, eE_con, eE_op, eE_and, eE_or, eE_not, eE_ite, eE_chain, eE_call, eE_callB, eE_dcT, evEs, evC, O.borrows, O.sem, E.isVar, rd, bT_nm, bT_tp, bTs_nil, bTs_cons, ix_L, ix_T, ix_LC, oR_some, ln_L, ln_T, ln_LC, ct_L, ct_T, in_ii, ad_I, ad_L, ad_T, rp_I, ti_I, ng_I, tl_L, tl_T, tt_L, tt_T, tr_B, bq_B, ib_B, it_L, it_T, eq_int, ne_int, fMod, fDiv, fPow, isTupD, isLstD, isStrD, isBlD, Res.bind_ok, M.sem, mApp, augD, Gd_ok, Gd_bad, wipeE, isNonD, eS_nil, a2, hs, sm]
  refine kn _ ?_
  clear kn kr kb kc K
  refine g_cons fun K kn kr kb kc => ?_
  simp only [evS]
  rw [lc_ok (List.range c.toNat) (fun k => D.int (k : Nat)) (fun k => D.int ((k : Int) * s % c)) (by simp [evS, eE_var, eE_con, eE_op, eE_and, eE_or, eE_not, eE_ite, eE_chain, eE_call, eE_callB, eE_dcT, evEs, evC, O.borrows, O.sem, E.isVar, rd, bT_nm, bT_tp, bTs_nil, bTs_cons, ix_L, ix_T, ix_LC, oR_some, ln_L, ln_T, ln_LC, ct_L, ct_T, in_ii, ad_I, ad_L, ad_T, rp_I, ti_I, ng_I, tl_L, tl_T, tt_L, tt_T, tr_B, bq_B, ib_B, it_L, it_T, eq_int, ne_int, fMod, fDiv, fPow, isTupD, isLstD, isStrD, isBlD, Res.bind_ok, M.sem, mApp, augD, Gd_ok, Gd_bad, wipeE, isNonD, eS_nil]) (it_R _ rg) (by simp; omega) (fun k hk => by
    simp [evS, eE_var, eE_con, eE_op, eE_and, eE_or, eE_not, eE_ite, eE_chain, eE_call, eE_callB, eE_dcT, evEs, evC, O.borrows, O.sem, E.isVar, rd, bT_nm, bT_tp, bTs_nil, bTs_cons, ix_L, ix_T, ix_LC, oR_some, ln_L, ln_T, ln_LC, ct_L, ct_T, in_ii, ad_I, ad_L, ad_T, rp_I, ti_I, ng_I, tl_L, tl_T, tt_L, tt_T, tr_B, bq_B, ib_B, it_L, it_T, eq_int, ne_int, fMod, fDiv, fPow, isTupD, isLstD, isStrD, isBlD, Res.bind_ok, M.sem, mApp, augD, Gd_ok, Gd_bad, wipeE, isNonD, eS_nil, fm_1 _ _ so, cp])]
  have hl : ((List.range c.toNat).map fun (k : Nat) => D.int ((k : Int) * s % c)) = ((List.range c.toNat).map fun (k : Nat) => (k : Int) * s % c).map D.int := by rw [List.map_map]; rfl
  have ll : ((List.range c.toNat).map fun (k : Nat) => (k : Int) * s % c).length = c.toNat := by simp
  rw [hl]
  generalize (List.range c.toNat).map (fun (k : Nat) => (k : Int) * s % c) = T at ll
  simp [evS, eE_var, eE_con, eE_op, eE_and, eE_or, eE_not, eE_ite, eE_chain, eE_call, eE_callB, eE_dcT, evEs, evC, O.borrows, O.sem, E.isVar, rd, bT_nm, bT_tp, bTs_nil, bTs_cons, ix_L, ix_T, ix_LC, oR_some, ln_L, ln_T, ln_LC, ct_L, ct_T, in_ii, ad_I, ad_L, ad_T, rp_I, ti_I, ng_I, tl_L, tl_T, tt_L, tt_T, tr_B, bq_B, ib_B, it_L, it_T, eq_int, ne_int, fMod, fDiv, fPow, isTupD, isLstD, isStrD, isBlD, Res.bind_ok, M.sem, mApp, augD, Gd_ok, Gd_bad, wipeE, isNonD, eS_nil]
  refine kn _ ?_
  clear kn kr kb kc K
  refine g_fz ?_
  simp only [Den.fz, fzOne, List.getElem?_cons_succ, List.getElem?_cons_zero, List.set_cons_succ, List.set_cons_zero]
  refine g_cons fun K kn kr kb kc => ?_
  simp [evS, eE_var, eE_con, eE_op, eE_and, eE_or, eE_not, eE_ite, eE_chain, eE_call, eE_callB, eE_dcT, evEs, evC, O.borrows, O.sem, E.isVar, rd, bT_nm, bT_tp, bTs_nil, bTs_cons, ix_L, ix_T, ix_LC, oR_some, ln_L, ln_T, ln_LC, ct_L, ct_T, in_ii, ad_I, ad_L, ad_T, rp_I, ti_I, ng_I, tl_L, tl_T, tt_L, tt_T, tr_B, bq_B, ib_B, it_L, it_T, eq_int, ne_int, fMod, fDiv, fPow, isTupD, isLstD, isStrD, isBlD, Res.bind_ok, M.sem, mApp, augD, Gd_ok, Gd_bad, wipeE, isNonD, eS_nil, sm]
  refine kn _ ?_
  clear kn kr kb kc K
  refine g_cons fun K kn kr kb kc => ?_
  simp [evS, eE_var, eE_con, eE_op, eE_and, eE_or, eE_not, eE_ite, eE_chain, eE_call, eE_callB, eE_dcT, evEs, evC, O.borrows, O.sem, E.isVar, rd, bT_nm, bT_tp, bTs_nil, bTs_cons, ix_L, ix_T, ix_LC, oR_some, ln_L, ln_T, ln_LC, ct_L, ct_T, in_ii, ad_I, ad_L, ad_T, rp_I, ti_I, ng_I, tl_L, tl_T, tt_L, tt_T, tr_B, bq_B, ib_B, it_L, it_T, eq_int, ne_int, fMod, fDiv, fPow, isTupD, isLstD, isStrD, isBlD, Res.bind_ok, M.sem, mApp, augD, Gd_ok, Gd_bad, wipeE, isNonD, eS_nil]
  refine kn _ ?_
  clear kn kr kb kc K
  refine g_cons fun K0 kn0 kr0 kb0 kc0 => ?_
  simp only [evS, evEs, eE_var, eE_con, eE_op, eE_call, E.isVar, rd, it_L, it_T, List.getElem?_cons_succ, List.getElem?_cons_zero, Res.bind_ok, O.borrows, O.sem, in_ii, it_R _ rg2]
  have lenR : ((List.range (c - 1).toNat).map fun k => D.int (k : Nat)).length = (c - 1).toNat := by simp
  refine Gd.for (fun i ρ => ∃ (R : List Row) (x : Int) (s6 s7 : Slot), ρ = [.val (.lst (ns.map .int)), .val (.int c), .val (.int s), .val (.lst (T.map D.int)), .own (.lst (R.map row)), .val (.int x), s6, s7] ∧ R.length = i)
    (fun _ => True) _ 0 _ ⟨[], 0, .un, .un, by simp, rfl⟩ (fun i hi ρ hI => ?_) (fun ρ hI => ?_)
  · obtain ⟨R, x, s6, s7, rfl, hx⟩ := hI
    rw [Nat.zero_add] at hx ⊢
    rw [lenR] at hi
    have few : R.length < sizeLine := by omega
    have e1 := atD_nth ns (k := 6 + (i : Int) % 24) (by omega) (by omega)
    have e2 := atD_nth T (k := (i : Int)) (by omega) (by omega)
    have e3 := atD_nth T (k := (i : Int) + 1) (by omega) (by omega)
    simp only [bT_nm, List.set_cons_succ, List.set_cons_zero, Gd_ok, List.getElem_map]
    simp only [List.getElem_range]
    refine g_cons fun K kn kr kb kc => ?_
    simp [evS, eE_var, eE_con, eE_op, eE_and, eE_or, eE_not, eE_ite, eE_chain, eE_call, eE_callB, eE_dcT, evEs, evC, O.borrows, O.sem, E.isVar, rd, bT_nm, bT_tp, bTs_nil, bTs_cons, ix_L, ix_T, ix_LC, oR_some, ln_L, ln_T, ln_LC, ct_L, ct_T, in_ii, ad_I, ad_L, ad_T, rp_I, ti_I, ng_I, tl_L, tl_T, tt_L, tt_T, tr_B, bq_B, ib_B, it_L, it_T, eq_int, ne_int, fMod, fDiv, fPow, isTupD, isLstD, isStrD, isBlD, Res.bind_ok, M.sem, mApp, augD, Gd_ok, Gd_bad, wipeE, isNonD, eS_nil, e1]
    refine kn _ ?_
    clear kn kr kb kc K
    refine g_cons fun K kn kr kb kc => ?_
    simp [evS, eE_var, eE_con, eE_op, eE_and, eE_or, eE_not, eE_ite, eE_chain, eE_call, eE_callB, eE_dcT, evEs, evC, O.borrows, O.sem, E.isVar, rd, bT_nm, bT_tp, bTs_nil, bTs_cons, ix_L, ix_T, ix_LC, oR_some, ln_L, ln_T, ln_LC, ct_L, ct_T, in_ii, ad_I, ad_L, ad_T, rp_I, ti_I, ng_I, tl_L, tl_T, tt_L, tt_T, tr_B, bq_B, ib_B, it_L, it_T, eq_int, ne_int, fMod, fDiv, fPow, isTupD, isLstD, isStrD, isBlD, Res.bind_ok, M.sem, mApp, augD, Gd_ok, Gd_bad, wipeE, isNonD, eS_nil]
    refine kn _ ?_
    clear kn kr kb kc K
    refine g_cons fun K kn kr kb kc => ?_
    simp [evS, eE_var, eE_con, eE_op, eE_and, eE_or, eE_not, eE_ite, eE_chain, eE_call, eE_callB, eE_dcT, evEs, evC, O.borrows, O.sem, E.isVar, rd, bT_nm, bT_tp, bTs_nil, bTs_cons, ix_L, ix_T, ix_LC, oR_some, ln_L, ln_T, ln_LC, ct_L, ct_T, in_ii, ad_I, ad_L, ad_T, rp_I, ti_I, ng_I, tl_L, tl_T, tt_L, tt_T, tr_B, bq_B, ib_B, it_L, it_T, eq_int, ne_int, fMod, fDiv, fPow, isTupD, isLstD, isStrD, isBlD, Res.bind_ok, M.sem, mApp, augD, Gd_ok, Gd_bad, wipeE, isNonD, eS_nil, e2, e3, few, sm]
    refine kn _ ?_
    clear kn kr kb kc K
    exact g_nil ⟨R ++ [(nth T i, nth T ((i : Int) + 1), (nth ns (6 + (i : Int) % 24) + i) % 7 - 3)], _, _, _, by rw [List.map_append]; rfl, by rw [List.length_append, hx]; rfl⟩
  · obtain ⟨R, x, s6, s7, rfl, hx⟩ := hI
    refine kn0 _ ?_
    rw [lenR, Nat.zero_add] at hx
    have few : R.length < sizeLine := by omega
    have e1 := atD_nth T (k := c - 1) (by omega) (by omega)
    refine g_cons fun K kn kr kb kc => ?_
    simp [evS, eE_var, eE_con, eE_op, eE_and, eE_or, eE_not, eE_ite, eE_chain, eE_call, eE_callB, eE_dcT, evEs, evC, O.borrows, O.sem, E.isVar, rd, bT_nm, bT_tp, bTs_nil, bTs_cons, ix_L, ix_T, ix_LC, oR_some, ln_L, ln_T, ln_LC, ct_L, ct_T, in_ii, ad_I, ad_L, ad_T, rp_I, ti_I, ng_I, tl_L, tl_T, tt_L, tt_T, tr_B, bq_B, ib_B, it_L, it_T, eq_int, ne_int, fMod, fDiv, fPow, isTupD, isLstD, isStrD, isBlD, Res.bind_ok, M.sem, mApp, augD, Gd_ok, Gd_bad, wipeE, isNonD, eS_nil, e1, a1, few, sm]
    refine kn _ ?_
    clear kn kr kb kc K
    refine g_fz ?_
    simp only [Den.fz, fzOne, List.getElem?_cons_succ, List.getElem?_cons_zero, List.set_cons_succ, List.set_cons_zero]
    refine g_cons fun K kn kr kb kc => ?_
    simp [evS, eE_var, eE_con, eE_op, eE_and, eE_or, eE_not, eE_ite, eE_chain, eE_call, eE_callB, eE_dcT, evEs, evC, O.borrows, O.sem, E.isVar, rd, bT_nm, bT_tp, bTs_nil, bTs_cons, ix_L, ix_T, ix_LC, oR_some, ln_L, ln_T, ln_LC, ct_L, ct_T, in_ii, ad_I, ad_L, ad_T, rp_I, ti_I, ng_I, tl_L, tl_T, tt_L, tt_T, tr_B, bq_B, ib_B, it_L, it_T, eq_int, ne_int, fMod, fDiv, fPow, isTupD, isLstD, isStrD, isBlD, Res.bind_ok, M.sem, mApp, augD, Gd_ok, Gd_bad, wipeE, isNonD, eS_nil]
    refine kr _ _ ?_
    clear kn kr kb kc K
    dsimp only
    exact ⟨R ++ [(nth T (c - 1), 0, nth ns 1 % 2 - 1 - x)], by rw [List.map_append]; rfl, by simp, by rw [List.length_append, hx]; simp; omega⟩
theorem lr_L (xs : List D) : sLrev (.lst xs) = .ok (.lst xs.reverse) := id rfl
theorem longJ_ok (ns : List Int) (hn : 32 ≤ ns.length) : g16 [.lst (ns.map .int)] = .ok (.bl true) := by
  have sl : sizeLine = 16777216 := rfl
  obtain ⟨R, hR, ne, few⟩ := long_ok ns hn
  have a3 := atD_nth ns (k := 3) (by omega) (by omega)
  have a4 := atD_nth ns (k := 4) (by omega) (by omega)
  have sm : ∀ n, n ≤ 30 → n ≤ sizeLine := fun n h => by omega
  have tT := turned_T R (nth ns 3) (by omega)
  have tl := trn_len R (nth ns 3)
  generalize trn R (nth ns 3) = Q at tT tl
  have rp : 0 < R.length := List.length_pos_iff.mpr ne
  have pos : 0 < Q.length := by omega
  obtain ⟨a, ha⟩ : ∃ a, nth ns 4 % (Q.length : Int) = a := ⟨_, rfl⟩
  have a0 : 0 ≤ a := by rw [← ha]; exact Int.emod_nonneg _ (by omega)
  have a1 : a < Q.length := by rw [← ha]; exact Int.emod_lt_of_pos _ (by omega)
  obtain ⟨ra, ea, _⟩ := atD_exR Q a a0 a1
  have pT' : ∀ x u v w, g13 [.tup (Q.map row), .int x, .tup [.int u, .int v, .int w]] = .ok (.tup ((put Q x (u, v, w)).map row)) := fun x u v w => put_ok' Q x u v w (by omega)
  have k2 : ∀ lo hi lo' hi', (cutD Q lo hi).length + (cutD Q lo' hi').length ≤ sizeLine := fun lo hi lo' hi' => by have := cut_len Q lo hi; have := cut_len Q lo' hi'; omega
  apply Gd.ok_eq
  unfold g16 s16
  refine g_run _ rfl rfl ?_
  refine g_cons fun K kn kr kb kc => ?_
  simp [evS, eE_var, eE_con, eE_op, eE_and, eE_or, eE_not, eE_ite, eE_chain, eE_call, eE_callB, eE_dcT, evEs, evC, O.borrows, O.sem, E.isVar, rd, bT_nm, bT_tp, bTs_nil, bTs_cons, ix_L, ix_T, ix_LC, oR_some, ln_L, ln_T, ln_LC, ct_L, ct_T, in_ii, ad_I, ad_L, ad_T, rp_I, ti_I, ng_I, tl_L, tl_T, tt_L, tt_T, tr_B, bq_B, ib_B, it_L, it_T, eq_int, ne_int, fMod, fDiv, fPow, isTupD, isLstD, isStrD, isBlD, Res.bind_ok, M.sem, mApp, augD, Gd_ok, Gd_bad, wipeE, isNonD, eS_nil, hR]
  refine kn _ ?_
  clear kn kr kb kc K
  refine g_cons fun K kn kr kb kc => ?_
  simp [evS, eE_var, eE_con, eE_op, eE_and, eE_or, eE_not, eE_ite, eE_chain, eE_call, eE_callB, eE_dcT, evEs, evC, O.borrows, O.sem, E.isVar, rd, bT_nm, bT_tp, bTs_nil, bTs_cons, ix_L, ix_T, ix_LC, oR_some, ln_L, ln_T, ln_LC, ct_L, ct_T, in_ii, ad_I, ad_L, ad_T, rp_I, ti_I, ng_I, tl_L, tl_T, tt_L, tt_T, tr_B, bq_B, ib_B, it_L, it_T, eq_int, ne_int, fMod, fDiv, fPow, isTupD, isLstD, isStrD, isBlD, Res.bind_ok, M.sem, mApp, augD, Gd_ok, Gd_bad, wipeE, isNonD, eS_nil, a3, tT]
  refine kn _ ?_
  clear kn kr kb kc K
  refine g_cons fun K kn kr kb kc => ?_
  simp [evS, eE_var, eE_con, eE_op, eE_and, eE_or, eE_not, eE_ite, eE_chain, eE_call, eE_callB, eE_dcT, evEs, evC, O.borrows, O.sem, E.isVar, rd, bT_nm, bT_tp, bTs_nil, bTs_cons, ix_L, ix_T, ix_LC, oR_some, ln_L, ln_T, ln_LC, ct_L, ct_T, in_ii, ad_I, ad_L, ad_T, rp_I, ti_I, ng_I, tl_L, tl_T, tt_L, tt_T, tr_B, bq_B, ib_B, it_L, it_T, eq_int, ne_int, fMod, fDiv, fPow, isTupD, isLstD, isStrD, isBlD, Res.bind_ok, M.sem, mApp, augD, Gd_ok, Gd_bad, wipeE, isNonD, eS_nil, a4, ha, pos]
  refine kn _ ?_
  clear kn kr kb kc K
  refine g_cons fun K kn kr kb kc => ?_
  simp [evS, eE_var, eE_con, eE_op, eE_and, eE_or, eE_not, eE_ite, eE_chain, eE_call, eE_callB, eE_dcT, evEs, evC, O.borrows, O.sem, E.isVar, rd, bT_nm, bT_tp, bTs_nil, bTs_cons, ix_L, ix_T, ix_LC, oR_some, ln_L, ln_T, ln_LC, ct_L, ct_T, in_ii, ad_I, ad_L, ad_T, rp_I, ti_I, ng_I, tl_L, tl_T, tt_L, tt_T, tr_B, bq_B, ib_B, it_L, it_T, eq_int, ne_int, fMod, fDiv, fPow, isTupD, isLstD, isStrD, isBlD, Res.bind_ok, M.sem, mApp, augD, Gd_ok, Gd_bad, wipeE, isNonD, eS_nil, ea, bT_row]
  refine kn _ ?_
  clear kn kr kb kc K
  refine g_cons fun K0 kn0 kr0 kb0 kc0 => ?_
  simp [evS, eE_var, eE_con, eE_op, eE_and, eE_or, eE_not, eE_ite, eE_chain, eE_call, eE_callB, eE_dcT, evEs, evC, O.borrows, O.sem, E.isVar, rd, bT_nm, bT_tp, bTs_nil, bTs_cons, ix_L, ix_T, ix_LC, oR_some, ln_L, ln_T, ln_LC, ct_L, ct_T, in_ii, ad_I, ad_L, ad_T, rp_I, ti_I, ng_I, tl_L, tl_T, tt_L, tt_T, tr_B, bq_B, ib_B, it_L, it_T, eq_int, ne_int, fMod, fDiv, fPow, isTupD, isLstD, isStrD, isBlD, Res.bind_ok, M.sem, mApp, augD, Gd_ok, Gd_bad, wipeE, isNonD, eS_nil, pT', sm, cut_map, k2]
  have rQ := Rows.of Q (Nat.le_refl _)
  have rp : ∀ x r, Rows (2 * Q.length + 1) ((put Q x r).map row) := fun x r => Rows.of _ (put_len Q x r)
  have rc : ∀ lo hi, Rows Q.length ((cutD Q lo hi).map row) := fun lo hi => Rows.of _ (cut_len Q lo hi)
  have jj : ∀ S : List Row, S.length ≤ 900000 → g8 [.int R.length, .lst (R.map row).reverse, .tup (S.map row)] = .ok (.bl true) := fun S hS => by
    rw [← List.map_reverse]
    exact judged_ok _ R.reverse S (by rw [List.length_reverse]; omega) (by omega)
  refine Gd.forM (fun ρ => ∃ s7 : Slot, ρ = [.val (.lst (ns.map .int)), .val (.lst (R.map row)), .val (.tup (Q.map row)), .val (.int a), .val (.int ra.1), .val (.int ra.2.1), .val (.int ra.2.2), s7])
    ⟨_, rfl⟩ (fun d it ρ hI => ?_) (fun ρ hI => ?_)
  · obtain ⟨s7, rfl⟩ := hI
    have isP : IsP d := by
      simp only [List.mem_cons, List.not_mem_nil, or_false] at it
      rcases it with rfl | rfl | rfl
      · exact .of rQ (by omega)
      · exact .of (rp _ _) (by omega)
      · exact .of ((rc _ _).app (rc _ _)) (by omega)
    obtain ⟨xs, rfl, S, hS, rfl⟩ := isP
    simp only [bT_nm, List.set_cons_succ, List.set_cons_zero, Gd_ok, List.getElem_map]
    refine g_cons fun K kn kr kb kc => ?_
    simp [evS, eE_var, eE_con, eE_op, eE_and, eE_or, eE_not, eE_ite, eE_chain, eE_call, eE_callB, eE_dcT, evEs, evC, O.borrows, O.sem, E.isVar, rd, bT_nm, bT_tp, bTs_nil, bTs_cons, ix_L, ix_T, ix_LC, oR_some, ln_L, ln_T, ln_LC, ct_L, ct_T, in_ii, ad_I, ad_L, ad_T, rp_I, ti_I, ng_I, tl_L, tl_T, tt_L, tt_T, tr_B, bq_B, ib_B, it_L, it_T, eq_int, ne_int, fMod, fDiv, fPow, isTupD, isLstD, isStrD, isBlD, Res.bind_ok, M.sem, mApp, augD, Gd_ok, Gd_bad, wipeE, isNonD, eS_nil, lr_L, jj S hS]
    refine kn _ ?_
    clear kn kr kb kc K
    exact g_nil ⟨_, rfl⟩
  · obtain ⟨s7, rfl⟩ := hI
    refine kn0 _ ?_
    refine g_cons fun K kn kr kb kc => ?_
    simp [evS, eE_var, eE_con, eE_op, eE_and, eE_or, eE_not, eE_ite, eE_chain, eE_call, eE_callB, eE_dcT, evEs, evC, O.borrows, O.sem, E.isVar, rd, bT_nm, bT_tp, bTs_nil, bTs_cons, ix_L, ix_T, ix_LC, oR_some, ln_L, ln_T, ln_LC, ct_L, ct_T, in_ii, ad_I, ad_L, ad_T, rp_I, ti_I, ng_I, tl_L, tl_T, tt_L, tt_T, tr_B, bq_B, ib_B, it_L, it_T, eq_int, ne_int, fMod, fDiv, fPow, isTupD, isLstD, isStrD, isBlD, Res.bind_ok, M.sem, mApp, augD, Gd_ok, Gd_bad, wipeE, isNonD, eS_nil]
    refine kr _ _ ?_
    clear kn kr kb kc K
    dsimp only
end K32

namespace K32
open PySem Den L2
theorem prv_scl (f : Int) (R : List Row) (i : Nat) : prv (R.map (scl f)) i = prv R i := by
  cases i with
  | zero =>
    simp only [prv, List.getLast?_map]
    cases R.getLast? <;> rfl
  | succ i =>
    simp only [prv, List.getElem?_map]
    cases R[i]? <;> rfl
theorem linked_scl (f : Int) (R : List Row) (h : Linked R) : Linked (R.map (scl f)) := fun i hi => by
  rw [List.length_map] at hi
  rw [prv_scl, List.getElem_map]
  exact h i hi
theorem bnds_scl (f : Int) : ∀ R : List Row, bnds (R.map (scl f)) = bnds R * f
  | [] => by simp [bnds]
  | r :: R => by
    have h := bnds_scl f R
    simp only [bnds, List.map_cons, List.sum_cons] at h ⊢
    rw [h, Int.add_mul]
    rfl
theorem chain_drop (c : Int) (R Q : List Row) (hL : Linked Q) (ht : ∀ r ∈ Q, told c R r = true) : ∀ n i, i + n = Q.length → chain c R (prv Q i) (Q.drop i) = true
  | 0, i, h => by rw [List.drop_of_length_le (by omega)]; rfl
  | n + 1, i, h => by
    have hi : i < Q.length := by omega
    rw [List.drop_eq_getElem_cons hi]
    have e := chain_drop c R Q hL ht n (i + 1) (by omega)
    have p : prv Q (i + 1) = Q[i].2.1 := by simp [prv, List.getElem?_eq_getElem hi]
    rw [p] at e
    simp only [chain, e, ht _ (List.getElem_mem hi), hL i hi, decide_true, Bool.and_self]
theorem judge_yes (c : Int) (R Q : List Row) (ne : Q ≠ []) (hL : Linked Q) (hb : bnds Q < 0) (hm : ∀ r ∈ Q, r ∈ R) : judge c R Q = true := by
  rw [judge_eq c R Q ne]
  have e := chain_drop c R Q hL (fun r hr => by simp [told, hm r hr]) Q.length 0 (by omega)
  rw [List.drop_zero] at e
  rw [e]
  show (true && decide (bnds Q < 0)) = true
  rw [decide_eq_true hb]
  rfl
theorem judge_no (c : Int) (R Q : List Row) (hb : ¬ bnds Q < 0) : judge c R Q = false := by
  by_cases ne : Q = []
  · subst ne; rfl
  · rw [judge_eq c R Q ne]
    show (_ && decide (bnds Q < 0)) = false
    rw [decide_eq_false hb, Bool.and_false]
theorem find_row {r : Row} : ∀ (R : List Row) (n : Nat), r ∈ R → ∃ j, findD (row r) (R.map row) n = some j
  | [], _, h => by simp at h
  | x :: R, n, h => by
    rw [List.map_cons]
    unfold findD
    by_cases e : x = r
    · exact ⟨n, by rw [eqD_row, decide_eq_true e]; rfl⟩
    · obtain ⟨j, hj⟩ := find_row R (n + 1) (by
        rcases List.mem_cons.mp h with z | z
        · exact absurd z.symm e
        · exact z)
      exact ⟨j, by rw [eqD_row, decide_eq_false e]; exact hj⟩
theorem erase_map {α β : Type} (f : α → β) : ∀ (xs : List α) (j : Nat), (xs.map f).eraseIdx j = (xs.eraseIdx j).map f
  | [], _ => rfl
  | x :: xs, 0 => rfl
  | x :: xs, j + 1 => by
    have h := erase_map f xs j
    simp only [List.map_cons, List.eraseIdx_cons_succ, h]
theorem mrem_ok (R : List Row) (r : Row) (h : r ∈ R) : ∃ S : List Row, S.length ≤ R.length ∧ mRem (.lst (R.map row)) [row r] = .ok (.lst (S.map row)) := by
  obtain ⟨j, hj⟩ := find_row R 0 h
  refine ⟨R.eraseIdx j, List.length_eraseIdx_le .., ?_⟩
  have e := erase_map row R j
  simp only [mRem, plain_row, plain_lst, Bool.and_self, if_true, hj, e]
def PD (Q : List Row) : D := .tup (Q.map row)
structure RI (i : Nat) (Rw : List Row) (Rs : List (List Row)) : Prop where
  n : Rs.length = i
  sz : ∀ Q ∈ Rs, Q ≠ [] ∧ Q.length ≤ 20
  few : Rw.length ≤ 19 + 20 * i
  a : ∀ Q, Rs[0]? = some Q → Linked Q ∧ bnds Q < 0 ∧ ∀ r ∈ Q, r ∈ Rw
  b : ∀ Q, Rs[1]? = some Q → ¬ bnds Q < 0
theorem RI.next {i : Nat} {Rw : List Row} {Rs : List (List Row)} (h : RI i Rw Rs) {S T : List Row} (sz : S ≠ [] ∧ S.length ≤ 20) (lt : T.length ≤ 20) (ha : i = 0 → Linked S ∧ bnds S < 0 ∧ ∀ r ∈ S, r ∈ T) (hb : i = 1 → ¬ bnds S < 0) : RI (i + 1) (Rw ++ T) (Rs ++ [S]) := by
  obtain ⟨h1, h2, h3, h4, h5⟩ := h
  refine ⟨by rw [List.length_append, h1]; rfl, fun Q hQ => ?_, by rw [List.length_append]; omega, fun Q hQ => ?_, fun Q hQ => ?_⟩
  · rcases List.mem_append.mp hQ with z | z
    · exact h2 Q z
    · rw [List.mem_singleton.mp z]; exact sz
  · by_cases z : i = 0
    · have e : Rs = [] := List.length_eq_zero_iff.mp (by omega)
      subst e
      have e2 : S = Q := by simpa using hQ
      subst e2
      obtain ⟨a, b, d⟩ := ha z
      exact ⟨a, b, fun r hr => List.mem_append_right _ (d r hr)⟩
    · rw [List.getElem?_append_left (by omega)] at hQ
      obtain ⟨a, b, d⟩ := h4 Q hQ
      exact ⟨a, b, fun r hr => List.mem_append_left _ (d r hr)⟩
  · by_cases z : i = 1
    · rw [List.getElem?_append_right (by omega), h1, z] at hQ
      have e2 : S = Q := by simpa using hQ
      subst e2
      exact hb z
    · by_cases z2 : i = 0
      · rw [List.getElem?_append_right (by omega), h1, z2] at hQ
        simp at hQ
      · rw [List.getElem?_append_left (by omega)] at hQ
        exact h5 Q hQ
theorem law_ok (ns : List Int) : g17 [.lstC (ns.map .int)] = .ok (.bl true) := by
  have sl : sizeLine = 16777216 := rfl
  have sm : ∀ n, n ≤ 30 → n ≤ sizeLine := fun n h => by omega
  obtain ⟨v0, c0⟩ := cell_ok ns 0 (by omega)
  obtain ⟨v1, c1⟩ := cell_ok ns 1 (by omega)
  obtain ⟨us, hus, lus, dus⟩ := numbers_ok v0 32 (by omega) (by omega)
  obtain ⟨ws, hws, lws, dws⟩ := numbers_ok (v1 + 1) 120 (by omega) (by omega)
  have n0 := atD_nth us (k := 0) (by omega) (by omega)
  have n1 := atD_nth us (k := 1) (by omega) (by omega)
  have n2 := atD_nth us (k := 2) (by omega) (by omega)
  have n3 := atD_nth us (k := 3) (by omega) (by omega)
  have n4 := atD_nth us (k := 4) (by omega) (by omega)
  have n20 := atD_nth us (k := 20) (by omega) (by omega)
  have d3 : 0 ≤ nth us 3 ∧ nth us 3 < 1009 := by
    obtain ⟨v, e, m⟩ := atD_ex us 3 (by omega) (by omega)
    rw [n3] at e
    cases e
    exact dus _ m
  have hp : pOk 10 10 = true := by decide
  have f10 := fun x => fm_1 x 10000000000 (by decide)
  obtain ⟨c, hc⟩ : ∃ c, 1 + nth us 0 % 12 = c := ⟨_, rfl⟩
  have cb : 1 ≤ c ∧ c ≤ 12 := by omega
  obtain ⟨R0, hR0, lR0⟩ := fitting_ok ws c (nth us 1 % 20) (by omega) (by omega) (by omega) (by omega) (by omega)
  apply Gd.ok_eq
  unfold g17 s17
  refine g_run _ rfl rfl ?_
  refine g_cons fun K kn kr kb kc => ?_
  simp [evS, eE_var, eE_con, eE_op, eE_and, eE_or, eE_not, eE_ite, eE_chain, eE_call, eE_callB, eE_dcT, evEs, evC, O.borrows, O.sem, E.isVar, rd, bT_nm, bT_tp, bTs_nil, bTs_cons, ix_L, ix_T, ix_LC, oR_some, ln_L, ln_T, ln_LC, ct_L, ct_T, in_ii, ad_I, ad_L, ad_T, rp_I, ti_I, ng_I, tl_L, tl_T, tt_L, tt_T, tr_B, bq_B, ib_B, it_L, it_T, eq_int, ne_int, fMod, fDiv, fPow, isTupD, isLstD, isStrD, isBlD, Res.bind_ok, M.sem, mApp, augD, Gd_ok, Gd_bad, wipeE, isNonD, eS_nil, c0, hus]
  refine kn _ ?_
  clear kn kr kb kc K
  refine g_cons fun K kn kr kb kc => ?_
  simp [evS, eE_var, eE_con, eE_op, eE_and, eE_or, eE_not, eE_ite, eE_chain, eE_call, eE_callB, eE_dcT, evEs, evC, O.borrows, O.sem, E.isVar, rd, bT_nm, bT_tp, bTs_nil, bTs_cons, ix_L, ix_T, ix_LC, oR_some, ln_L, ln_T, ln_LC, ct_L, ct_T, in_ii, ad_I, ad_L, ad_T, rp_I, ti_I, ng_I, tl_L, tl_T, tt_L, tt_T, tr_B, bq_B, ib_B, it_L, it_T, eq_int, ne_int, fMod, fDiv, fPow, isTupD, isLstD, isStrD, isBlD, Res.bind_ok, M.sem, mApp, augD, Gd_ok, Gd_bad, wipeE, isNonD, eS_nil, n0, hc]
  refine kn _ ?_
  clear kn kr kb kc K
  refine g_cons fun K kn kr kb kc => ?_
  simp [evS, eE_var, eE_con, eE_op, eE_and, eE_or, eE_not, eE_ite, eE_chain, eE_call, eE_callB, eE_dcT, evEs, evC, O.borrows, O.sem, E.isVar, rd, bT_nm, bT_tp, bTs_nil, bTs_cons, ix_L, ix_T, ix_LC, oR_some, ln_L, ln_T, ln_LC, ct_L, ct_T, in_ii, ad_I, ad_L, ad_T, rp_I, ti_I, ng_I, tl_L, tl_T, tt_L, tt_T, tr_B, bq_B, ib_B, it_L, it_T, eq_int, ne_int, fMod, fDiv, fPow, isTupD, isLstD, isStrD, isBlD, Res.bind_ok, M.sem, mApp, augD, Gd_ok, Gd_bad, wipeE, isNonD, eS_nil]
  refine kn _ ?_
  clear kn kr kb kc K
  refine g_cons fun K kn kr kb kc => ?_
  suffices H : ∀ f : Int, 1 ≤ f → intOk f = true → K (.nx [.val (.lstC (ns.map .int)), .val (.lst (us.map .int)), .val (.int c), .val (.int f), .un, .un, .un, .un, .un, .un, .un, .un, .un, .un]) by
    by_cases q : nth us 2 % 4 = 0
    · simp [evS, eE_var, eE_con, eE_op, eE_and, eE_or, eE_not, eE_ite, eE_chain, eE_call, eE_callB, eE_dcT, evEs, evC, O.borrows, O.sem, E.isVar, rd, bT_nm, bT_tp, bTs_nil, bTs_cons, ix_L, ix_T, ix_LC, oR_some, ln_L, ln_T, ln_LC, ct_L, ct_T, in_ii, ad_I, ad_L, ad_T, rp_I, ti_I, ng_I, tl_L, tl_T, tt_L, tt_T, tr_B, bq_B, ib_B, it_L, it_T, eq_int, ne_int, fMod, fDiv, fPow, isTupD, isLstD, isStrD, isBlD, Res.bind_ok, M.sem, mApp, augD, Gd_ok, Gd_bad, wipeE, isNonD, eS_nil, n2, eq_true q]
      refine g_cons fun K1 kn1 kr1 kb1 kc1 => ?_
      simp [evS, eE_var, eE_con, eE_op, eE_and, eE_or, eE_not, eE_ite, eE_chain, eE_call, eE_callB, eE_dcT, evEs, evC, O.borrows, O.sem, E.isVar, rd, bT_nm, bT_tp, bTs_nil, bTs_cons, ix_L, ix_T, ix_LC, oR_some, ln_L, ln_T, ln_LC, ct_L, ct_T, in_ii, ad_I, ad_L, ad_T, rp_I, ti_I, ng_I, tl_L, tl_T, tt_L, tt_T, tr_B, bq_B, ib_B, it_L, it_T, eq_int, ne_int, fMod, fDiv, fPow, isTupD, isLstD, isStrD, isBlD, Res.bind_ok, M.sem, mApp, augD, Gd_ok, Gd_bad, wipeE, isNonD, eS_nil, n3, hp, f10]
      exact kn1 _ (g_nil (H _ (by omega) (decide_eq_true (by omega))))
    · simp [evS, eE_var, eE_con, eE_op, eE_and, eE_or, eE_not, eE_ite, eE_chain, eE_call, eE_callB, eE_dcT, evEs, evC, O.borrows, O.sem, E.isVar, rd, bT_nm, bT_tp, bTs_nil, bTs_cons, ix_L, ix_T, ix_LC, oR_some, ln_L, ln_T, ln_LC, ct_L, ct_T, in_ii, ad_I, ad_L, ad_T, rp_I, ti_I, ng_I, tl_L, tl_T, tt_L, tt_T, tr_B, bq_B, ib_B, it_L, it_T, eq_int, ne_int, fMod, fDiv, fPow, isTupD, isLstD, isStrD, isBlD, Res.bind_ok, M.sem, mApp, augD, Gd_ok, Gd_bad, wipeE, isNonD, eS_nil, n2, eq_false q]
      exact H _ (by omega) (decide_eq_true (by omega))
  intro f f1 f2
  refine kn _ ?_
  clear kn kr kb kc K
  have sR0 := scaled_L f R0 f2 (by omega)
  refine g_cons fun K kn kr kb kc => ?_
  simp [evS, eE_var, eE_con, eE_op, eE_and, eE_or, eE_not, eE_ite, eE_chain, eE_call, eE_callB, eE_dcT, evEs, evC, O.borrows, O.sem, E.isVar, rd, bT_nm, bT_tp, bTs_nil, bTs_cons, ix_L, ix_T, ix_LC, oR_some, ln_L, ln_T, ln_LC, ct_L, ct_T, in_ii, ad_I, ad_L, ad_T, rp_I, ti_I, ng_I, tl_L, tl_T, tt_L, tt_T, tr_B, bq_B, ib_B, it_L, it_T, eq_int, ne_int, fMod, fDiv, fPow, isTupD, isLstD, isStrD, isBlD, Res.bind_ok, M.sem, mApp, augD, Gd_ok, Gd_bad, wipeE, isNonD, eS_nil, c1, hws, n1, hR0, sR0]
  refine kn _ ?_
  clear kn kr kb kc K
  refine g_cons fun K kn kr kb kc => ?_
  simp [evS, eE_var, eE_con, eE_op, eE_and, eE_or, eE_not, eE_ite, eE_chain, eE_call, eE_callB, eE_dcT, evEs, evC, O.borrows, O.sem, E.isVar, rd, bT_nm, bT_tp, bTs_nil, bTs_cons, ix_L, ix_T, ix_LC, oR_some, ln_L, ln_T, ln_LC, ct_L, ct_T, in_ii, ad_I, ad_L, ad_T, rp_I, ti_I, ng_I, tl_L, tl_T, tt_L, tt_T, tr_B, bq_B, ib_B, it_L, it_T, eq_int, ne_int, fMod, fDiv, fPow, isTupD, isLstD, isStrD, isBlD, Res.bind_ok, M.sem, mApp, augD, Gd_ok, Gd_bad, wipeE, isNonD, eS_nil, sm]
  refine kn _ ?_
  clear kn kr kb kc K
  refine g_cons fun K0 kn0 kr0 kb0 kc0 => ?_
  simp only [evS, evEs, eE_var, eE_con, eE_op, eE_call, E.isVar, rd, it_L, it_T, List.getElem?_cons_succ, List.getElem?_cons_zero, Res.bind_ok, it_R 3 (by decide)]
  have lenR : ((List.range (3 : Int).toNat).map fun k => D.int (k : Nat)).length = 3 := by simp
  refine Gd.for (fun i ρ => ∃ (Rw : List Row) (Rs : List (List Row)) (s6 s9 s10 s11 s12 : Slot), ρ = [.val (.lstC (ns.map .int)), .val (.lst (us.map .int)), .val (.int c), .val (.int f), .val (.lst (Rw.map row)), .own (.lst (Rs.map PD)), s6, .un, .un, s9, s10, s11, s12, .un] ∧ RI i Rw Rs)
    (fun _ => True) _ 0 _ ⟨R0.map (scl f), [], .un, .un, .un, .un, .un, by simp, rfl, fun Q h => by simp at h, by rw [List.length_map]; omega, fun Q h => by simp at h, fun Q h => by simp at h⟩ (fun i hi ρ hI => ?_) (fun ρ hI => ?_)
  · obtain ⟨Rw, Rs, s6, s9, s10, s11, s12, rfl, ri⟩ := hI
    rw [Nat.zero_add] at ri ⊢
    rw [lenR] at hi
    obtain ⟨v, cv⟩ := cell_ok ns (2 + (i : Int)) (by omega)
    obtain ⟨xs, hxs, lxs, dxs⟩ := numbers_ok (v + 2 * (i : Int)) 24 (by omega) (by omega)
    have x0 := atD_nth xs (k := 0) (by omega) (by omega)
    have x1 := atD_nth xs (k := 1) (by omega) (by omega)
    have f2i := fun x => fm_2 2 x (by decide)
    have lc : (cutD xs (some 1) none).length = 23 := by
      have e : ¬ ((1 : Int) < 0) := by decide
      simp only [cutD, HT.sIx, if_neg e, List.length_take, List.length_drop]
      omega
    have few := ri.few
    have nRs := ri.n
    have lRs : Rs.length < sizeLine := by omega
    have plant : ∀ t : Int, ∃ R S : List Row, g6 [.lst ((cutD xs (some 1) none).map .int), .int c, .int (1 + nth xs 1 % 9), .int t] = .ok (.tup (R.map row)) ∧ g9 [.tup (R.map row), .int f] = .ok (.lst (S.map row)) ∧ S ≠ [] ∧ S.length ≤ 9 ∧ bnds S = t * f ∧ Linked S := fun t => by
      obtain ⟨R, h1, h2, h3, h4⟩ := planted_ok (cutD xs (some 1) none) c (1 + nth xs 1 % 9) t (by omega) (by omega) (by omega) (by omega) (by omega)
      refine ⟨R, R.map (scl f), h1, scaled_T f R f2 (by omega), fun e => ?_, by rw [List.length_map]; omega, by rw [bnds_scl, h3], linked_scl f R h4⟩
      rw [List.map_eq_nil_iff] at e
      rw [e] at h2
      simp at h2
      omega
    simp only [bT_nm, List.set_cons_succ, List.set_cons_zero, Gd_ok, List.getElem_map]
    simp only [List.getElem_range]
    refine g_cons fun K kn kr kb kc => ?_
    simp [evS, eE_var, eE_con, eE_op, eE_and, eE_or, eE_not, eE_ite, eE_chain, eE_call, eE_callB, eE_dcT, evEs, evC, O.borrows, O.sem, E.isVar, rd, bT_nm, bT_tp, bTs_nil, bTs_cons, ix_L, ix_T, ix_LC, oR_some, ln_L, ln_T, ln_LC, ct_L, ct_T, in_ii, ad_I, ad_L, ad_T, rp_I, ti_I, ng_I, tl_L, tl_T, tt_L, tt_T, tr_B, bq_B, ib_B, it_L, it_T, eq_int, ne_int, fMod, fDiv, fPow, isTupD, isLstD, isStrD, isBlD, Res.bind_ok, M.sem, mApp, augD, Gd_ok, Gd_bad, wipeE, isNonD, eS_nil, cv, f2i, hxs]
    refine kn _ ?_
    clear kn kr kb kc K
    obtain rfl | rfl | rfl : i = 0 ∨ i = 1 ∨ i = 2 := by omega
    · have t0 : ∀ a b d : D, atD [a, b, d] 0 = some a := fun _ _ _ => rfl
      obtain ⟨R, S, p1, p2, ne, lR, hb, hL⟩ := plant (-1 - nth xs 0 % 20)
      have app : Rw.length + S.length ≤ sizeLine := by omega
      refine g_cons fun K kn kr kb kc => ?_
      simp [evS, eE_var, eE_con, eE_op, eE_and, eE_or, eE_not, eE_ite, eE_chain, eE_call, eE_callB, eE_dcT, evEs, evC, O.borrows, O.sem, E.isVar, rd, bT_nm, bT_tp, bTs_nil, bTs_cons, ix_L, ix_T, ix_LC, oR_some, ln_L, ln_T, ln_LC, ct_L, ct_T, in_ii, ad_I, ad_L, ad_T, rp_I, ti_I, ng_I, tl_L, tl_T, tt_L, tt_T, tr_B, bq_B, ib_B, it_L, it_T, eq_int, ne_int, fMod, fDiv, fPow, isTupD, isLstD, isStrD, isBlD, Res.bind_ok, M.sem, mApp, augD, Gd_ok, Gd_bad, wipeE, isNonD, eS_nil, x0, t0, sm]
      refine kn _ ?_
      clear kn kr kb kc K
      refine g_cons fun K kn kr kb kc => ?_
      simp [evS, eE_var, eE_con, eE_op, eE_and, eE_or, eE_not, eE_ite, eE_chain, eE_call, eE_callB, eE_dcT, evEs, evC, O.borrows, O.sem, E.isVar, rd, bT_nm, bT_tp, bTs_nil, bTs_cons, ix_L, ix_T, ix_LC, oR_some, ln_L, ln_T, ln_LC, ct_L, ct_T, in_ii, ad_I, ad_L, ad_T, rp_I, ti_I, ng_I, tl_L, tl_T, tt_L, tt_T, tr_B, bq_B, ib_B, it_L, it_T, eq_int, ne_int, fMod, fDiv, fPow, isTupD, isLstD, isStrD, isBlD, Res.bind_ok, M.sem, mApp, augD, Gd_ok, Gd_bad, wipeE, isNonD, eS_nil, cut_map, x1, p1, p2]
      refine kn _ ?_
      clear kn kr kb kc K
      refine g_cons fun K kn kr kb kc => ?_
      simp [evS, eE_var, eE_con, eE_op, eE_and, eE_or, eE_not, eE_ite, eE_chain, eE_call, eE_callB, eE_dcT, evEs, evC, O.borrows, O.sem, E.isVar, rd, bT_nm, bT_tp, bTs_nil, bTs_cons, ix_L, ix_T, ix_LC, oR_some, ln_L, ln_T, ln_LC, ct_L, ct_T, in_ii, ad_I, ad_L, ad_T, rp_I, ti_I, ng_I, tl_L, tl_T, tt_L, tt_T, tr_B, bq_B, ib_B, it_L, it_T, eq_int, ne_int, fMod, fDiv, fPow, isTupD, isLstD, isStrD, isBlD, Res.bind_ok, M.sem, mApp, augD, Gd_ok, Gd_bad, wipeE, isNonD, eS_nil]
      refine kn _ ?_
      clear kn kr kb kc K
      refine g_cons fun K kn kr kb kc => ?_
      simp [evS, eE_var, eE_con, eE_op, eE_and, eE_or, eE_not, eE_ite, eE_chain, eE_call, eE_callB, eE_dcT, evEs, evC, O.borrows, O.sem, E.isVar, rd, bT_nm, bT_tp, bTs_nil, bTs_cons, ix_L, ix_T, ix_LC, oR_some, ln_L, ln_T, ln_LC, ct_L, ct_T, in_ii, ad_I, ad_L, ad_T, rp_I, ti_I, ng_I, tl_L, tl_T, tt_L, tt_T, tr_B, bq_B, ib_B, it_L, it_T, eq_int, ne_int, fMod, fDiv, fPow, isTupD, isLstD, isStrD, isBlD, Res.bind_ok, M.sem, mApp, augD, Gd_ok, Gd_bad, wipeE, isNonD, eS_nil]
      refine kn _ ?_
      clear kn kr kb kc K
      refine g_cons fun K kn kr kb kc => ?_
      simp [evS, eE_var, eE_con, eE_op, eE_and, eE_or, eE_not, eE_ite, eE_chain, eE_call, eE_callB, eE_dcT, evEs, evC, O.borrows, O.sem, E.isVar, rd, bT_nm, bT_tp, bTs_nil, bTs_cons, ix_L, ix_T, ix_LC, oR_some, ln_L, ln_T, ln_LC, ct_L, ct_T, in_ii, ad_I, ad_L, ad_T, rp_I, ti_I, ng_I, tl_L, tl_T, tt_L, tt_T, tr_B, bq_B, ib_B, it_L, it_T, eq_int, ne_int, fMod, fDiv, fPow, isTupD, isLstD, isStrD, isBlD, Res.bind_ok, M.sem, mApp, augD, Gd_ok, Gd_bad, wipeE, isNonD, eS_nil, app]
      refine kn _ ?_
      clear kn kr kb kc K
      refine g_cons fun K kn kr kb kc => ?_
      simp [evS, eE_var, eE_con, eE_op, eE_and, eE_or, eE_not, eE_ite, eE_chain, eE_call, eE_callB, eE_dcT, evEs, evC, O.borrows, O.sem, E.isVar, rd, bT_nm, bT_tp, bTs_nil, bTs_cons, ix_L, ix_T, ix_LC, oR_some, ln_L, ln_T, ln_LC, ct_L, ct_T, in_ii, ad_I, ad_L, ad_T, rp_I, ti_I, ng_I, tl_L, tl_T, tt_L, tt_T, tr_B, bq_B, ib_B, it_L, it_T, eq_int, ne_int, fMod, fDiv, fPow, isTupD, isLstD, isStrD, isBlD, Res.bind_ok, M.sem, mApp, augD, Gd_ok, Gd_bad, wipeE, isNonD, eS_nil, lRs]
      refine kn _ ?_
      clear kn kr kb kc K
      exact g_nil ⟨Rw ++ S, Rs ++ [S], _, _, _, _, _, by rw [List.map_append, List.map_append]; rfl, ri.next ⟨ne, by omega⟩ (by omega) (fun _ => ⟨hL, by rw [hb]; exact Int.mul_neg_of_neg_of_pos (by omega) (by omega), fun r h => h⟩) (fun h => by omega)⟩
    · have t0 : ∀ a b d : D, atD [a, b, d] 1 = some b := fun _ _ _ => rfl
      obtain ⟨R, S, p1, p2, ne, lR, hb, hL⟩ := plant 0
      have app : Rw.length + S.length ≤ sizeLine := by omega
      refine g_cons fun K kn kr kb kc => ?_
      simp [evS, eE_var, eE_con, eE_op, eE_and, eE_or, eE_not, eE_ite, eE_chain, eE_call, eE_callB, eE_dcT, evEs, evC, O.borrows, O.sem, E.isVar, rd, bT_nm, bT_tp, bTs_nil, bTs_cons, ix_L, ix_T, ix_LC, oR_some, ln_L, ln_T, ln_LC, ct_L, ct_T, in_ii, ad_I, ad_L, ad_T, rp_I, ti_I, ng_I, tl_L, tl_T, tt_L, tt_T, tr_B, bq_B, ib_B, it_L, it_T, eq_int, ne_int, fMod, fDiv, fPow, isTupD, isLstD, isStrD, isBlD, Res.bind_ok, M.sem, mApp, augD, Gd_ok, Gd_bad, wipeE, isNonD, eS_nil, x0, t0, sm]
      refine kn _ ?_
      clear kn kr kb kc K
      refine g_cons fun K kn kr kb kc => ?_
      simp [evS, eE_var, eE_con, eE_op, eE_and, eE_or, eE_not, eE_ite, eE_chain, eE_call, eE_callB, eE_dcT, evEs, evC, O.borrows, O.sem, E.isVar, rd, bT_nm, bT_tp, bTs_nil, bTs_cons, ix_L, ix_T, ix_LC, oR_some, ln_L, ln_T, ln_LC, ct_L, ct_T, in_ii, ad_I, ad_L, ad_T, rp_I, ti_I, ng_I, tl_L, tl_T, tt_L, tt_T, tr_B, bq_B, ib_B, it_L, it_T, eq_int, ne_int, fMod, fDiv, fPow, isTupD, isLstD, isStrD, isBlD, Res.bind_ok, M.sem, mApp, augD, Gd_ok, Gd_bad, wipeE, isNonD, eS_nil, cut_map, x1, p1, p2]
      refine kn _ ?_
      clear kn kr kb kc K
      refine g_cons fun K kn kr kb kc => ?_
      simp [evS, eE_var, eE_con, eE_op, eE_and, eE_or, eE_not, eE_ite, eE_chain, eE_call, eE_callB, eE_dcT, evEs, evC, O.borrows, O.sem, E.isVar, rd, bT_nm, bT_tp, bTs_nil, bTs_cons, ix_L, ix_T, ix_LC, oR_some, ln_L, ln_T, ln_LC, ct_L, ct_T, in_ii, ad_I, ad_L, ad_T, rp_I, ti_I, ng_I, tl_L, tl_T, tt_L, tt_T, tr_B, bq_B, ib_B, it_L, it_T, eq_int, ne_int, fMod, fDiv, fPow, isTupD, isLstD, isStrD, isBlD, Res.bind_ok, M.sem, mApp, augD, Gd_ok, Gd_bad, wipeE, isNonD, eS_nil]
      refine kn _ ?_
      clear kn kr kb kc K
      refine g_cons fun K kn kr kb kc => ?_
      simp [evS, eE_var, eE_con, eE_op, eE_and, eE_or, eE_not, eE_ite, eE_chain, eE_call, eE_callB, eE_dcT, evEs, evC, O.borrows, O.sem, E.isVar, rd, bT_nm, bT_tp, bTs_nil, bTs_cons, ix_L, ix_T, ix_LC, oR_some, ln_L, ln_T, ln_LC, ct_L, ct_T, in_ii, ad_I, ad_L, ad_T, rp_I, ti_I, ng_I, tl_L, tl_T, tt_L, tt_T, tr_B, bq_B, ib_B, it_L, it_T, eq_int, ne_int, fMod, fDiv, fPow, isTupD, isLstD, isStrD, isBlD, Res.bind_ok, M.sem, mApp, augD, Gd_ok, Gd_bad, wipeE, isNonD, eS_nil]
      refine kn _ ?_
      clear kn kr kb kc K
      refine g_cons fun K kn kr kb kc => ?_
      simp [evS, eE_var, eE_con, eE_op, eE_and, eE_or, eE_not, eE_ite, eE_chain, eE_call, eE_callB, eE_dcT, evEs, evC, O.borrows, O.sem, E.isVar, rd, bT_nm, bT_tp, bTs_nil, bTs_cons, ix_L, ix_T, ix_LC, oR_some, ln_L, ln_T, ln_LC, ct_L, ct_T, in_ii, ad_I, ad_L, ad_T, rp_I, ti_I, ng_I, tl_L, tl_T, tt_L, tt_T, tr_B, bq_B, ib_B, it_L, it_T, eq_int, ne_int, fMod, fDiv, fPow, isTupD, isLstD, isStrD, isBlD, Res.bind_ok, M.sem, mApp, augD, Gd_ok, Gd_bad, wipeE, isNonD, eS_nil, app]
      refine kn _ ?_
      clear kn kr kb kc K
      refine g_cons fun K kn kr kb kc => ?_
      simp [evS, eE_var, eE_con, eE_op, eE_and, eE_or, eE_not, eE_ite, eE_chain, eE_call, eE_callB, eE_dcT, evEs, evC, O.borrows, O.sem, E.isVar, rd, bT_nm, bT_tp, bTs_nil, bTs_cons, ix_L, ix_T, ix_LC, oR_some, ln_L, ln_T, ln_LC, ct_L, ct_T, in_ii, ad_I, ad_L, ad_T, rp_I, ti_I, ng_I, tl_L, tl_T, tt_L, tt_T, tr_B, bq_B, ib_B, it_L, it_T, eq_int, ne_int, fMod, fDiv, fPow, isTupD, isLstD, isStrD, isBlD, Res.bind_ok, M.sem, mApp, augD, Gd_ok, Gd_bad, wipeE, isNonD, eS_nil, lRs]
      refine kn _ ?_
      clear kn kr kb kc K
      exact g_nil ⟨Rw ++ S, Rs ++ [S], _, _, _, _, _, by rw [List.map_append, List.map_append]; rfl, ri.next ⟨ne, by omega⟩ (by omega) (fun h => by omega) (fun _ => by rw [hb]; simp)⟩
    · have t0 : ∀ a b d : D, atD [a, b, d] 2 = some d := fun _ _ _ => rfl
      obtain ⟨R, S, p1, p2, ne, lR, hb, hL⟩ := plant (-2 - nth xs 0 % 20)
      obtain ⟨l, hl⟩ : ∃ l, S.getLast? = some l := ⟨_, List.getLast?_eq_some_getLast ne⟩
      have hh := hop_ok S l hl (by omega)
      have lh : (hop S l).length ≤ 11 := by
        have := cut_len S none (some ((S.length : Int) - 1))
        unfold hop
        rw [List.length_append]
        simp
        omega
      have nh : hop S l ≠ [] := by unfold hop; simp
      generalize hop S l = U at hh lh nh
      have lc2 := cut_len U none (some ((U.length : Int) - 1))
      have app : Rw.length + (cutD U none (some ((U.length : Int) - 1))).length ≤ sizeLine := by omega
      refine g_cons fun K kn kr kb kc => ?_
      simp [evS, eE_var, eE_con, eE_op, eE_and, eE_or, eE_not, eE_ite, eE_chain, eE_call, eE_callB, eE_dcT, evEs, evC, O.borrows, O.sem, E.isVar, rd, bT_nm, bT_tp, bTs_nil, bTs_cons, ix_L, ix_T, ix_LC, oR_some, ln_L, ln_T, ln_LC, ct_L, ct_T, in_ii, ad_I, ad_L, ad_T, rp_I, ti_I, ng_I, tl_L, tl_T, tt_L, tt_T, tr_B, bq_B, ib_B, it_L, it_T, eq_int, ne_int, fMod, fDiv, fPow, isTupD, isLstD, isStrD, isBlD, Res.bind_ok, M.sem, mApp, augD, Gd_ok, Gd_bad, wipeE, isNonD, eS_nil, x0, t0, sm]
      refine kn _ ?_
      clear kn kr kb kc K
      refine g_cons fun K kn kr kb kc => ?_
      simp [evS, eE_var, eE_con, eE_op, eE_and, eE_or, eE_not, eE_ite, eE_chain, eE_call, eE_callB, eE_dcT, evEs, evC, O.borrows, O.sem, E.isVar, rd, bT_nm, bT_tp, bTs_nil, bTs_cons, ix_L, ix_T, ix_LC, oR_some, ln_L, ln_T, ln_LC, ct_L, ct_T, in_ii, ad_I, ad_L, ad_T, rp_I, ti_I, ng_I, tl_L, tl_T, tt_L, tt_T, tr_B, bq_B, ib_B, it_L, it_T, eq_int, ne_int, fMod, fDiv, fPow, isTupD, isLstD, isStrD, isBlD, Res.bind_ok, M.sem, mApp, augD, Gd_ok, Gd_bad, wipeE, isNonD, eS_nil, cut_map, x1, p1, p2]
      refine kn _ ?_
      clear kn kr kb kc K
      refine g_cons fun K kn kr kb kc => ?_
      simp [evS, eE_var, eE_con, eE_op, eE_and, eE_or, eE_not, eE_ite, eE_chain, eE_call, eE_callB, eE_dcT, evEs, evC, O.borrows, O.sem, E.isVar, rd, bT_nm, bT_tp, bTs_nil, bTs_cons, ix_L, ix_T, ix_LC, oR_some, ln_L, ln_T, ln_LC, ct_L, ct_T, in_ii, ad_I, ad_L, ad_T, rp_I, ti_I, ng_I, tl_L, tl_T, tt_L, tt_T, tr_B, bq_B, ib_B, it_L, it_T, eq_int, ne_int, fMod, fDiv, fPow, isTupD, isLstD, isStrD, isBlD, Res.bind_ok, M.sem, mApp, augD, Gd_ok, Gd_bad, wipeE, isNonD, eS_nil]
      refine kn _ ?_
      clear kn kr kb kc K
      refine g_cons fun K kn kr kb kc => ?_
      simp [evS, eE_var, eE_con, eE_op, eE_and, eE_or, eE_not, eE_ite, eE_chain, eE_call, eE_callB, eE_dcT, evEs, evC, O.borrows, O.sem, E.isVar, rd, bT_nm, bT_tp, bTs_nil, bTs_cons, ix_L, ix_T, ix_LC, oR_some, ln_L, ln_T, ln_LC, ct_L, ct_T, in_ii, ad_I, ad_L, ad_T, rp_I, ti_I, ng_I, tl_L, tl_T, tt_L, tt_T, tr_B, bq_B, ib_B, it_L, it_T, eq_int, ne_int, fMod, fDiv, fPow, isTupD, isLstD, isStrD, isBlD, Res.bind_ok, M.sem, mApp, augD, Gd_ok, Gd_bad, wipeE, isNonD, eS_nil]
      refine g_cons fun K1 kn1 kr1 kb1 kc1 => ?_
      simp [evS, eE_var, eE_con, eE_op, eE_and, eE_or, eE_not, eE_ite, eE_chain, eE_call, eE_callB, eE_dcT, evEs, evC, O.borrows, O.sem, E.isVar, rd, bT_nm, bT_tp, bTs_nil, bTs_cons, ix_L, ix_T, ix_LC, oR_some, ln_L, ln_T, ln_LC, ct_L, ct_T, in_ii, ad_I, ad_L, ad_T, rp_I, ti_I, ng_I, tl_L, tl_T, tt_L, tt_T, tr_B, bq_B, ib_B, it_L, it_T, eq_int, ne_int, fMod, fDiv, fPow, isTupD, isLstD, isStrD, isBlD, Res.bind_ok, M.sem, mApp, augD, Gd_ok, Gd_bad, wipeE, isNonD, eS_nil, hh]
      refine kn1 _ ?_
      clear kn1 kr1 kb1 kc1 K1
      refine g_cons fun K1 kn1 kr1 kb1 kc1 => ?_
      simp [evS, eE_var, eE_con, eE_op, eE_and, eE_or, eE_not, eE_ite, eE_chain, eE_call, eE_callB, eE_dcT, evEs, evC, O.borrows, O.sem, E.isVar, rd, bT_nm, bT_tp, bTs_nil, bTs_cons, ix_L, ix_T, ix_LC, oR_some, ln_L, ln_T, ln_LC, ct_L, ct_T, in_ii, ad_I, ad_L, ad_T, rp_I, ti_I, ng_I, tl_L, tl_T, tt_L, tt_T, tr_B, bq_B, ib_B, it_L, it_T, eq_int, ne_int, fMod, fDiv, fPow, isTupD, isLstD, isStrD, isBlD, Res.bind_ok, M.sem, mApp, augD, Gd_ok, Gd_bad, wipeE, isNonD, eS_nil, cut_map]
      refine kn1 _ (g_nil (kn _ ?_))
      clear kn1 kr1 kb1 kc1 K1 kn kr kb kc K
      refine g_cons fun K kn kr kb kc => ?_
      simp [evS, eE_var, eE_con, eE_op, eE_and, eE_or, eE_not, eE_ite, eE_chain, eE_call, eE_callB, eE_dcT, evEs, evC, O.borrows, O.sem, E.isVar, rd, bT_nm, bT_tp, bTs_nil, bTs_cons, ix_L, ix_T, ix_LC, oR_some, ln_L, ln_T, ln_LC, ct_L, ct_T, in_ii, ad_I, ad_L, ad_T, rp_I, ti_I, ng_I, tl_L, tl_T, tt_L, tt_T, tr_B, bq_B, ib_B, it_L, it_T, eq_int, ne_int, fMod, fDiv, fPow, isTupD, isLstD, isStrD, isBlD, Res.bind_ok, M.sem, mApp, augD, Gd_ok, Gd_bad, wipeE, isNonD, eS_nil, app]
      refine kn _ ?_
      clear kn kr kb kc K
      refine g_cons fun K kn kr kb kc => ?_
      simp [evS, eE_var, eE_con, eE_op, eE_and, eE_or, eE_not, eE_ite, eE_chain, eE_call, eE_callB, eE_dcT, evEs, evC, O.borrows, O.sem, E.isVar, rd, bT_nm, bT_tp, bTs_nil, bTs_cons, ix_L, ix_T, ix_LC, oR_some, ln_L, ln_T, ln_LC, ct_L, ct_T, in_ii, ad_I, ad_L, ad_T, rp_I, ti_I, ng_I, tl_L, tl_T, tt_L, tt_T, tr_B, bq_B, ib_B, it_L, it_T, eq_int, ne_int, fMod, fDiv, fPow, isTupD, isLstD, isStrD, isBlD, Res.bind_ok, M.sem, mApp, augD, Gd_ok, Gd_bad, wipeE, isNonD, eS_nil, lRs]
      refine kn _ ?_
      clear kn kr kb kc K
      exact g_nil ⟨Rw ++ cutD U none (some ((U.length : Int) - 1)), Rs ++ [U], _, _, _, _, _, by rw [List.map_append, List.map_append]; rfl, ri.next ⟨nh, by omega⟩ (by omega) (fun h => by omega) (fun h => by omega)⟩
  · obtain ⟨Rw, Rs, s6, s9, s10, s11, s12, rfl, ri⟩ := hI
    rw [lenR, Nat.zero_add] at ri
    refine kn0 _ ?_
    clear kn0 kr0 kb0 kc0 K0
    obtain ⟨lRs, szs, few, pa, pb⟩ := ri
    have tT := turned_L Rw (nth us 4) (by omega)
    have tl := trn_len Rw (nth us 4)
    have tm := fun r => trn_mem (Q := Rw) (s := nth us 4) (r := r)
    generalize trn Rw (nth us 4) = W at tT tl tm
    have ringAt : ∀ i : Nat, i < 3 → ∃ Q : List Row, Rs[i]? = some Q ∧ atD (Rs.map PD) (i : Int) = some (.tup (Q.map row)) ∧ Q ≠ [] ∧ Q.length ≤ 20 := fun i hi => by
      have e : Rs[i]? = some (Rs[i]'(by omega)) := List.getElem?_eq_getElem (by omega)
      have q := atD_pos PD Rs (i := (i : Int)) (by omega) (by omega)
      obtain ⟨z1, z2⟩ := szs _ (List.getElem_mem (show i < Rs.length by omega))
      exact ⟨_, e, by rw [q]; rfl, z1, z2⟩
    refine g_cons fun K kn kr kb kc => ?_
    simp [evS, eE_var, eE_con, eE_op, eE_and, eE_or, eE_not, eE_ite, eE_chain, eE_call, eE_callB, eE_dcT, evEs, evC, O.borrows, O.sem, E.isVar, rd, bT_nm, bT_tp, bTs_nil, bTs_cons, ix_L, ix_T, ix_LC, oR_some, ln_L, ln_T, ln_LC, ct_L, ct_T, in_ii, ad_I, ad_L, ad_T, rp_I, ti_I, ng_I, tl_L, tl_T, tt_L, tt_T, tr_B, bq_B, ib_B, it_L, it_T, eq_int, ne_int, fMod, fDiv, fPow, isTupD, isLstD, isStrD, isBlD, Res.bind_ok, M.sem, mApp, augD, Gd_ok, Gd_bad, wipeE, isNonD, eS_nil, n4, tT]
    refine kn _ ?_
    clear kn kr kb kc K
    refine g_cons fun K0 kn0 kr0 kb0 kc0 => ?_
    simp only [evS, evEs, eE_con, E.isVar, Res.bind_ok, it_R 3 (by decide)]
    refine Gd.for (fun i ρ => ∃ (s6 s13 : Slot), ρ = [.val (.lstC (ns.map .int)), .val (.lst (us.map .int)), .val (.int c), .val (.int f), .val (.lst (W.map row)), .own (.lst (Rs.map PD)), s6, .un, .un, s9, s10, s11, s12, s13])
      (fun _ => True) _ 0 _ ⟨_, _, rfl⟩ (fun i hi ρ hI => ?_) (fun ρ hI => ?_)
    · obtain ⟨s6, s13, rfl⟩ := hI
      rw [lenR] at hi
      obtain ⟨Q, _, rQ, nQ, lQ⟩ := ringAt i hi
      have f4 := fun x => fm_2 4 x (by decide)
      have cl : 4 ≤ (cutD us (some (5 + 4 * (i : Int))) none).length := by
        have e : ¬ ((5 + 4 * (i : Int)) < 0) := by omega
        simp only [cutD, HT.sIx, if_neg e, List.length_take, List.length_drop]
        omega
      obtain ⟨ds, hds, allP⟩ := papers_ok Q nQ (by omega) (cutD us (some (5 + 4 * (i : Int))) none) cl c
      simp only [bT_nm, List.set_cons_succ, List.set_cons_zero, Gd_ok, List.getElem_map]
      simp only [List.getElem_range]
      refine g_cons fun K1 kn1 kr1 kb1 kc1 => ?_
      simp [evS, eE_var, eE_con, eE_op, eE_and, eE_or, eE_not, eE_ite, eE_chain, eE_call, eE_callB, eE_dcT, evEs, evC, O.borrows, O.sem, E.isVar, rd, bT_nm, bT_tp, bTs_nil, bTs_cons, ix_L, ix_T, ix_LC, oR_some, ln_L, ln_T, ln_LC, ct_L, ct_T, in_ii, ad_I, ad_L, ad_T, rp_I, ti_I, ng_I, tl_L, tl_T, tt_L, tt_T, tr_B, bq_B, ib_B, it_L, it_T, eq_int, ne_int, fMod, fDiv, fPow, isTupD, isLstD, isStrD, isBlD, Res.bind_ok, M.sem, mApp, augD, Gd_ok, Gd_bad, wipeE, isNonD, eS_nil, rQ, f4, cut_map, hds]
      refine Gd.forM (fun ρ => ∃ (s13 : Slot), ρ = [.val (.lstC (ns.map .int)), .val (.lst (us.map .int)), .val (.int c), .val (.int f), .val (.lst (W.map row)), .own (.lst (Rs.map PD)), .val (.int i), .un, .un, s9, s10, s11, s12, s13])
        ⟨_, rfl⟩ (fun d hd ρ hI => ?_) (fun ρ hI => ?_)
      · obtain ⟨s13, rfl⟩ := hI
        obtain ⟨xs, rfl, S, hS, rfl⟩ := allP d hd
        have j := judged_ok c W S (by omega) (by omega)
        simp only [bT_nm, List.set_cons_succ, List.set_cons_zero, Gd_ok, List.getElem_map]
        refine g_cons fun K kn kr kb kc => ?_
        simp [evS, eE_var, eE_con, eE_op, eE_and, eE_or, eE_not, eE_ite, eE_chain, eE_call, eE_callB, eE_dcT, evEs, evC, O.borrows, O.sem, E.isVar, rd, bT_nm, bT_tp, bTs_nil, bTs_cons, ix_L, ix_T, ix_LC, oR_some, ln_L, ln_T, ln_LC, ct_L, ct_T, in_ii, ad_I, ad_L, ad_T, rp_I, ti_I, ng_I, tl_L, tl_T, tt_L, tt_T, tr_B, bq_B, ib_B, it_L, it_T, eq_int, ne_int, fMod, fDiv, fPow, isTupD, isLstD, isStrD, isBlD, Res.bind_ok, M.sem, mApp, augD, Gd_ok, Gd_bad, wipeE, isNonD, eS_nil, j]
        refine kn _ ?_
        clear kn kr kb kc K
        exact g_nil ⟨_, rfl⟩
      · obtain ⟨s13, rfl⟩ := hI
        exact kn1 _ (g_nil ⟨_, _, rfl⟩)
    · obtain ⟨s6, s13, rfl⟩ := hI
      refine kn0 _ ?_
      clear kn0 kr0 kb0 kc0 K0
      obtain ⟨Q0, q0, rQ0, nQ0, lQ0⟩ := ringAt 0 (by omega)
      obtain ⟨Q1, q1, rQ1, nQ1, lQ1⟩ := ringAt 1 (by omega)
      simp only [Int.natCast_zero] at rQ0
      simp only [Int.natCast_one] at rQ1
      obtain ⟨hL, hb, hm⟩ := pa Q0 q0
      have j0 := shows_ok c W Q0 (by omega)
      rw [judge_yes c W Q0 nQ0 hL hb fun r hr => (tm r).mpr (hm r hr)] at j0
      have j1 := shows_ok c W Q1 (by omega)
      rw [judge_no c W Q1 (pb Q1 q1)] at j1
      have pos : 0 < Q0.length := List.length_pos_iff.mpr nQ0
      obtain ⟨rr, er, mr⟩ := atD_exR Q0 (nth us 20 % (Q0.length : Int)) (Int.emod_nonneg _ (by omega)) (Int.emod_lt_of_pos _ (by omega))
      obtain ⟨S, lS, hS⟩ := mrem_ok W rr ((tm rr).mpr (hm rr mr))
      have d0 := closes_ok c S Q0 (by omega)
      have j2 := shows_ok c S Q0 (by omega)
      have lg := longJ_ok us (by omega)
      refine g_cons fun K kn kr kb kc => ?_
      simp [evS, eE_var, eE_con, eE_op, eE_and, eE_or, eE_not, eE_ite, eE_chain, eE_call, eE_callB, eE_dcT, evEs, evC, O.borrows, O.sem, E.isVar, rd, bT_nm, bT_tp, bTs_nil, bTs_cons, ix_L, ix_T, ix_LC, oR_some, ln_L, ln_T, ln_LC, ct_L, ct_T, in_ii, ad_I, ad_L, ad_T, rp_I, ti_I, ng_I, tl_L, tl_T, tt_L, tt_T, tr_B, bq_B, ib_B, it_L, it_T, eq_int, ne_int, fMod, fDiv, fPow, isTupD, isLstD, isStrD, isBlD, Res.bind_ok, M.sem, mApp, augD, Gd_ok, Gd_bad, wipeE, isNonD, eS_nil]
      refine kn _ ?_
      clear kn kr kb kc K
      refine g_cons fun K kn kr kb kc => ?_
      simp [evS, eE_var, eE_con, eE_op, eE_and, eE_or, eE_not, eE_ite, eE_chain, eE_call, eE_callB, eE_dcT, evEs, evC, O.borrows, O.sem, E.isVar, rd, bT_nm, bT_tp, bTs_nil, bTs_cons, ix_L, ix_T, ix_LC, oR_some, ln_L, ln_T, ln_LC, ct_L, ct_T, in_ii, ad_I, ad_L, ad_T, rp_I, ti_I, ng_I, tl_L, tl_T, tt_L, tt_T, tr_B, bq_B, ib_B, it_L, it_T, eq_int, ne_int, fMod, fDiv, fPow, isTupD, isLstD, isStrD, isBlD, Res.bind_ok, M.sem, mApp, augD, Gd_ok, Gd_bad, wipeE, isNonD, eS_nil, rQ0, rQ1, j0, j1, flat]
      refine kn _ ?_
      clear kn kr kb kc K
      refine g_cons fun K kn kr kb kc => ?_
      simp [evS, eE_var, eE_con, eE_op, eE_and, eE_or, eE_not, eE_ite, eE_chain, eE_call, eE_callB, eE_dcT, evEs, evC, O.borrows, O.sem, E.isVar, rd, bT_nm, bT_tp, bTs_nil, bTs_cons, ix_L, ix_T, ix_LC, oR_some, ln_L, ln_T, ln_LC, ct_L, ct_T, in_ii, ad_I, ad_L, ad_T, rp_I, ti_I, ng_I, tl_L, tl_T, tt_L, tt_T, tr_B, bq_B, ib_B, it_L, it_T, eq_int, ne_int, fMod, fDiv, fPow, isTupD, isLstD, isStrD, isBlD, Res.bind_ok, M.sem, mApp, augD, Gd_ok, Gd_bad, wipeE, isNonD, eS_nil, rQ0, n20, pos, er, hS]
      refine kn _ ?_
      clear kn kr kb kc K
      refine g_cons fun K kn kr kb kc => ?_
      simp [evS, eE_var, eE_con, eE_op, eE_and, eE_or, eE_not, eE_ite, eE_chain, eE_call, eE_callB, eE_dcT, evEs, evC, O.borrows, O.sem, E.isVar, rd, bT_nm, bT_tp, bTs_nil, bTs_cons, ix_L, ix_T, ix_LC, oR_some, ln_L, ln_T, ln_LC, ct_L, ct_T, in_ii, ad_I, ad_L, ad_T, rp_I, ti_I, ng_I, tl_L, tl_T, tt_L, tt_T, tr_B, bq_B, ib_B, it_L, it_T, eq_int, ne_int, fMod, fDiv, fPow, isTupD, isLstD, isStrD, isBlD, Res.bind_ok, M.sem, mApp, augD, Gd_ok, Gd_bad, wipeE, isNonD, eS_nil, rQ0, d0]
      refine kn _ ?_
      clear kn kr kb kc K
      refine g_fz ?_
      simp only [Den.fz, fzOne, List.getElem?_cons_succ, List.getElem?_cons_zero, List.set_cons_succ, List.set_cons_zero]
      refine g_cons fun K kn kr kb kc => ?_
      simp [evS, eE_var, eE_con, eE_op, eE_and, eE_or, eE_not, eE_ite, eE_chain, eE_call, eE_callB, eE_dcT, evEs, evC, O.borrows, O.sem, E.isVar, rd, bT_nm, bT_tp, bTs_nil, bTs_cons, ix_L, ix_T, ix_LC, oR_some, ln_L, ln_T, ln_LC, ct_L, ct_T, in_ii, ad_I, ad_L, ad_T, rp_I, ti_I, ng_I, tl_L, tl_T, tt_L, tt_T, tr_B, bq_B, ib_B, it_L, it_T, eq_int, ne_int, fMod, fDiv, fPow, isTupD, isLstD, isStrD, isBlD, Res.bind_ok, M.sem, mApp, augD, Gd_ok, Gd_bad, wipeE, isNonD, eS_nil, rQ0, j2, same_bl, lg]
      refine kr _ _ ?_
      clear kn kr kb kc K
      dsimp only
theorem good (ns : List Int) (_ : ns.length ≤ 63) : g17 [.lstC (ns.map Den.D.int)] = .ok (.bl true) := law_ok ns
end K32

open PySem PySem.W PyProof.Rows
set_option maxHeartbeats 0 in
theorem PySem.Challenge.cw_neverdrivendark_k32_rings_judged_holds : PySem.Challenge.rw_neverdrivendark_k32_rings_judged.Holds := by
  w_on; o_law; k_head; (case hw => w_witness2)
  k_fill
  refine Den.den_walk (l := PySem.Challenge.rw_neverdrivendark_k32_rings_judged) (n := 63) (k := 18) (x := "script") (g := K32.g17) rfl (by decide) rfl ⟨rfl, by decide, by decide⟩ rfl (fun w h Y => PySem.W.kIn_of Y) ?F K32.good
  case F =>
    intro w mg fa h KX G hmg
    refine' K32.all_mk KX G hmg (Den.Txt.mk' ?a0 ?l0 ?c0 ?k0) (Den.Txt.mk' ?a1 ?l1 ?c1 ?k1) (Den.Txt.mk' ?a2 ?l2 ?c2 ?k2) (Den.Txt.mk' ?a3 ?l3 ?c3 ?k3) (Den.Txt.mk' ?a4 ?l4 ?c4 ?k4) (Den.Txt.mk' ?a5 ?l5 ?c5 ?k5) (Den.Txt.mk' ?a6 ?l6 ?c6 ?k6) (Den.Txt.mk' ?a7 ?l7 ?c7 ?k7) (Den.Txt.mk' ?a8 ?l8 ?c8 ?k8) (Den.Txt.mk' ?a9 ?l9 ?c9 ?k9) (Den.Txt.mk' ?a10 ?l10 ?c10 ?k10) (Den.Txt.mk' ?a11 ?l11 ?c11 ?k11) (Den.Txt.mk' ?a12 ?l12 ?c12 ?k12) (Den.Txt.mk' ?a13 ?l13 ?c13 ?k13) (Den.Txt.mk' ?a14 ?l14 ?c14 ?k14) (Den.Txt.mk' ?a15 ?l15 ?c15 ?k15) (Den.Txt.mk' ?a16 ?l16 ?c16 ?k16) (Den.Txt.mk' ?a17 ?l17 ?c17 ?k17) (Den.Clear.mk ?z0 ?z1 ?z2 ?z3 ?z4 ?z5 ?z6 ?z7 ?z8 ?z9 ?z10 ?z11 ?z12 ?z13 ?z14 ?z15 ?z16 ?z17)
    (case a0 => k_is); (case l0 => k_is); (case c0 => k_is); (case k0 => k_is)
    (case a1 => k_is); (case l1 => k_is); (case c1 => k_is); (case k1 => k_is)
    (case a2 => k_is); (case l2 => k_is); (case c2 => k_is); (case k2 => k_is)
    (case a3 => k_is); (case l3 => k_is); (case c3 => k_is); (case k3 => k_is)
    (case a4 => k_is); (case l4 => k_is); (case c4 => k_is); (case k4 => k_is)
    (case a5 => k_is); (case l5 => k_is); (case c5 => k_is); (case k5 => k_is)
    (case a6 => k_is); (case l6 => k_is); (case c6 => k_is); (case k6 => k_is)
    (case a7 => k_is); (case l7 => k_is); (case c7 => k_is); (case k7 => k_is)
    (case a8 => k_is); (case l8 => k_is); (case c8 => k_is); (case k8 => k_is)
    (case a9 => k_is); (case l9 => k_is); (case c9 => k_is); (case k9 => k_is)
    (case a10 => k_is); (case l10 => k_is); (case c10 => k_is); (case k10 => k_is)
    (case a11 => k_is); (case l11 => k_is); (case c11 => k_is); (case k11 => k_is)
    (case a12 => k_is); (case l12 => k_is); (case c12 => k_is); (case k12 => k_is)
    (case a13 => k_is); (case l13 => k_is); (case c13 => k_is); (case k13 => k_is)
    (case a14 => k_is); (case l14 => k_is); (case c14 => k_is); (case k14 => k_is)
    (case a15 => k_is); (case l15 => k_is); (case c15 => k_is); (case k15 => k_is)
    (case a16 => k_is); (case l16 => k_is); (case c16 => k_is); (case k16 => k_is)
    (case a17 => k_is); (case l17 => k_is); (case c17 => k_is); (case k17 => k_is)
    (case z0 => k_is); (case z1 => k_is); (case z2 => k_is); (case z3 => k_is); (case z4 => k_is); (case z5 => k_is); (case z6 => k_is); (case z7 => k_is); (case z8 => k_is); (case z9 => k_is); (case z10 => k_is); (case z11 => k_is); (case z12 => k_is); (case z13 => k_is); (case z14 => k_is); (case z15 => k_is); (case z16 => k_is); (case z17 => k_is)
