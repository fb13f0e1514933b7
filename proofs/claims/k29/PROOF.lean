import PyProof.Rows.All
import Wide.All
import OpenK.AllK
import Wide.FinOn
import HandS.ForMost
import HandS.Defaults
import HandS.Flow
import HandS.Lambda
import HandS.TupAny
import HandS.IsInst
import HandS.Conv
import HandS.Deep
import HandS.FStr
import KE.GoesEnum
import KE.GoesEnumKw
import HandS.Style
import HandS.RaiseMore
import PyProof.InstNe
import HandS.Dict
import HandS.Strs
import HandS.Property
import PyProof.P3In
import HandS.Text
import HandS.ListItems
import HandS.Star
import KE.KDictSum
import HandS.Iter
import HandS.ExcInit
import HandS.ExcOwn
import HandS.ExcField
import HandS.TryMany
import KE.KExcInit
import HandS.ExcIs
import HandS.EndTab
import HandS.OwnEq
import KE.KExcLine
import KE.RegKTryMore
import KE.RegKIsAll
import PySem.Challenge.RW_chargeways_k29_plans_refused
set_option Elab.async false
set_option linter.all false
set_option maxRecDepth 100000
/-! Own layer, part 1: plain data, logical heap, combinators. No Python machine here. -/
namespace Py
open PySem

/-- plain values: tuples are values, what can change stands at a place of the logical heap -/
inductive D where
  | non | bl (b : Bool) | int (i : Int) | str (x : Str) | tup (xs : List D) | ref (n : Nat) | scr (ns : List Int) | fn (x : Str)

/-- what stands at a place -/
inductive O where
  | lst (xs : List D)
  | dct (kvs : List (L2.Key × D))
  | ins (c : Nat) (fs : List (Nat × D))

abbrev LH := List O
inductive R (α : Type) where
  | ok (a : α) (h : LH)
  | exc (c : Nat) (fs : List (Nat × D)) (h : LH)
  | stuck
def R.bind {α β : Type} (r : R α) (f : α → LH → R β) : R β := match r with
  | .ok a h => f a h
  | .exc c fs h => .exc c fs h
  | .stuck => .stuck
@[simp] theorem R.bind_ok {α β : Type} (a : α) (h : LH) (f : α → LH → R β) : (R.ok a h).bind f = f a h := rfl
@[simp] theorem R.bind_exc {α β : Type} (c : Nat) (fs : List (Nat × D)) (h : LH) (f : α → LH → R β) : (R.exc c fs h : R α).bind f = .exc c fs h := rfl
@[simp] theorem R.bind_stuck {α β : Type} (f : α → LH → R β) : (R.stuck : R α).bind f = .stuck := rfl

abbrev LS := List (Option D)
abbrev EX := LS → LH → R D
abbrev AX := LS → LH → R (List D)
/-- flow behind a statement -/
inductive F where
  | nx (r : LS) (h : LH)
  | rt (d : D) (h : LH)
  | bk (r : LS) (h : LH)
  | ct (r : LS) (h : LH)
  | exc (c : Nat) (fs : List (Nat × D)) (h : LH)
  | stuck
abbrev SX := LS → LH → F
def R.to {α : Type} (r : R α) (f : α → LH → F) : F := match r with
  | .ok a h => f a h
  | .exc c fs h => .exc c fs h
  | .stuck => .stuck
@[simp] theorem R.to_ok {α : Type} (a : α) (h : LH) (f : α → LH → F) : (R.ok a h).to f = f a h := rfl
@[simp] theorem R.to_exc {α : Type} (c : Nat) (fs : List (Nat × D)) (h : LH) (f : α → LH → F) : (R.exc c fs h : R α).to f = .exc c fs h := rfl
@[simp] theorem R.to_stuck {α : Type} (f : α → LH → F) : (R.stuck : R α).to f = .stuck := rfl

/-! ### expressions -/
def eV (i : Nat) : EX := fun r h => match r[i]? with
  | some (some d) => .ok d h
  | _ => .stuck
def eC (d : D) : EX := fun _ h => .ok d h
def e1 (op : D → LH → R D) (a : EX) : EX := fun r h => (a r h).bind op
def e2 (op : D → D → LH → R D) (a b : EX) : EX := fun r h => (a r h).bind fun x h1 => (b r h1).bind fun y h2 => op x y h2
def aNil : AX := fun _ h => .ok [] h
def aCons (a : EX) (b : AX) : AX := fun r h => (a r h).bind fun x h1 => (b r h1).bind fun xs h2 => .ok (x :: xs) h2
def eA (op : List D → LH → R D) (a : AX) : EX := fun r h => (a r h).bind op
/-- truth -/
def truth : D → LH → Option Bool
  | .non, _ => some false
  | .bl b, _ => some b
  | .int i, _ => some (i != 0)
  | .str x, _ => some ((x.length : Int) != 0)
  | .tup xs, _ => some (!xs.isEmpty)
  | .ref n, h => match h[n]? with
    | some (.lst xs) => some (!xs.isEmpty)
    | _ => none
  | .scr ns, _ => some (!ns.isEmpty)
  | .fn _, _ => none
def eAnd (a b : EX) : EX := fun r h => (a r h).bind fun x h1 => match truth x h1 with
  | some true => b r h1
  | some false => .ok x h1
  | none => .stuck
def eOr (a b : EX) : EX := fun r h => (a r h).bind fun x h1 => match truth x h1 with
  | some true => .ok x h1
  | some false => b r h1
  | none => .stuck
def eNot (a : EX) : EX := fun r h => (a r h).bind fun x h1 => match truth x h1 with
  | some k => .ok (.bl (!k)) h1
  | none => .stuck
def eIf (t a b : EX) : EX := fun r h => (t r h).bind fun x h1 => match truth x h1 with
  | some true => a r h1
  | some false => b r h1
  | none => .stuck
def eTup (a : AX) : EX := eA (fun xs h => if xs.length ≤ sizeLine then .ok (.tup xs) h else .stuck) a
def eLst (a : AX) : EX := eA (fun xs h => if xs.length ≤ sizeLine then .ok (.ref h.length) (h ++ [.lst xs]) else .stuck) a

/-! ### operators -/
def opI (f : Int → Int → D) : D → D → LH → R D
  | .int i, .int j, h => .ok (f i j) h
  | _, _, _ => .stuck
def oAdd : D → D → LH → R D
  | .int i, .int j, h => .ok (.int (i + j)) h
  | .str i, .str j, h => if i.length + j.length ≤ sizeLine then .ok (.str (i ++ j)) h else .stuck
  | .tup xs, .tup ys, h => if xs.length + ys.length ≤ sizeLine then .ok (.tup (xs ++ ys)) h else .stuck
  | .ref n, .ref k, h => match h[n]?, h[k]? with
    | some (.lst xs), some (.lst ys) => if xs.length + ys.length ≤ sizeLine then .ok (.ref h.length) (h ++ [.lst (xs ++ ys)]) else .stuck
    | _, _ => .stuck
  | _, _, _ => .stuck
def oSub : D → D → LH → R D := opI fun i j => .int (i - j)
@[irreducible] def small (i : Int) : Bool := decide (-(2 ^ 64) < i) && decide (i < 2 ^ 64)
def oMul : D → D → LH → R D
  | .int i, .int j, h => if small i || small j then .ok (.int (i * j)) h else .stuck
  | .ref n, .int k, h => match h[n]? with
    | some (.lst xs) => if xs.length * k.toNat ≤ sizeLine ∧ -(2 ^ 63) ≤ k ∧ k < 2 ^ 63 then .ok (.ref h.length) (h ++ [.lst (List.replicate k.toNat xs).flatten]) else .stuck
    | _ => .stuck
  | _, _, _ => .stuck
def oMod : D → D → LH → R D
  | .int i, .int j, h => if 0 < j then .ok (.int (i % j)) h else .stuck
  | _, _, _ => .stuck
def oDiv : D → D → LH → R D
  | .int i, .int j, h => if 0 < j ∧ j < 1073741824 then .ok (.int (i / j)) h else .stuck
  | _, _, _ => .stuck
def oPow : D → D → LH → R D
  | .int i, .int j, h => if 0 ≤ j ∧ j ≤ 1000000 ∧ i.natAbs < 2 ^ 64 then .ok (.int (i ^ j.toNat)) h else .stuck
  | _, _, _ => .stuck
def oLt : D → D → LH → R D := opI fun i j => .bl (decide (i < j))
def oLe : D → D → LH → R D := opI fun i j => .bl (decide (i ≤ j))
def oGt : D → D → LH → R D := opI fun i j => .bl (decide (j < i))
def oGe : D → D → LH → R D := opI fun i j => .bl (decide (j ≤ i))
def oIsN (neg : Bool) : D → LH → R D
  | .non, h => .ok (.bl (!neg)) h
  | _, h => .ok (.bl neg) h

/-! ### statements -/
def sNil : SX := fun r h => .nx r h
def sSeq (a b : SX) : SX := fun r h => match a r h with
  | .nx r1 h1 => b r1 h1
  | x => x
def sE (a : EX) : SX := fun r h => (a r h).to fun _ h1 => .nx r h1
def sRet (a : EX) : SX := fun r h => (a r h).to fun d h1 => .rt d h1
def sRetN : SX := fun _ h => .rt .non h
def sIf (t : EX) (a b : SX) : SX := fun r h => (t r h).to fun x h1 => match truth x h1 with
  | some true => a r h1
  | some false => b r h1
  | none => .stuck
/-- a target: what is stored, locals, heap -/
abbrev GX := D → LS → LH → F
def gN (i : Nat) : GX := fun d r h => .nx (r.set i (some d)) h
def sAsg (a : EX) (g : GX) : SX := fun r h => (a r h).to fun d h1 => g d r h1
abbrev GXs := List D → LS → LH → F
def gsNil : GXs := fun ds r h => match ds with
  | [] => .nx r h
  | _ => .stuck
def gsCons (g : GX) (gs : GXs) : GXs := fun ds r h => match ds with
  | d :: ds => (match g d r h with
    | .nx r1 h1 => gs ds r1 h1
    | x => x)
  | [] => .stuck
def gT (n : Nat) (gs : GXs) : GX := fun d r h => match d with
  | .tup xs => if xs.length = n then gs xs r h else .stuck
  | _ => .stuck
end Py

namespace Py
open PySem
/-! ### fields, calls -/
def getA (i : Nat) : List (Nat × D) → Option D
  | [] => none
  | (j, d) :: r => if i = j then some d else getA i r
def putA (i : Nat) (d : D) : List (Nat × D) → List (Nat × D)
  | [] => [(i, d)]
  | (j, e) :: r => if j = i then (j, d) :: r else (j, e) :: putA i d r
/-- o.f of an instance of the class c -/
def eFld (c i : Nat) (o : EX) : EX := e1 (fun x h => match x with
  | .ref n => (match h[n]? with
    | some (.ins c' fs) => if c' = c then (match getA i fs with
      | some d => .ok d h
      | none => .stuck) else .stuck
    | _ => .stuck)
  | _ => .stuck) o
/-- o.f = e -/
def sFld (c i : Nat) (o e : EX) : SX := fun r h => (e r h).to fun d h1 => (o r h1).to fun x h2 => match x with
  | .ref n => (match h2[n]? with
    | some (.ins c' fs) => if c' = c ∧ fs.length < 1000 then .nx r (h2.set n (.ins c (putA i d fs))) else .stuck
    | _ => .stuck)
  | _ => .stuck
abbrev CF := List D → LH → R D
/-- a call with positional and keyword values -/
abbrev KF := List D → List D → LH → R D
def eCall (op : KF) (a k : AX) : EX := fun r h => (a r h).bind fun ds h1 => (k r h1).bind fun es h2 => op ds es h2
def opF (n k : Nat) (bd : List D → List D → List D) (cf : CF) : KF := fun ds es h => if ds.length = n ∧ es.length = k then cf (bd ds es) h else .stuck
/-- a new instance of the class c -/
def opM (c n k : Nat) (bd : List D → List D → List D) (cf : CF) : KF := fun ds es h => if ds.length = n ∧ es.length = k then (cf (bd (.ref h.length :: ds) es) (h ++ [.ins c []])).bind (fun v h2 => match v with
  | .non => .ok (.ref h.length) h2
  | _ => .stuck) else .stuck
/-- o.m(..), the instance of the class c -/
def eMeth (c : Nat) (op : KF) (o : EX) (a k : AX) : EX := fun r h => (o r h).bind fun x h1 => match x with
  | .ref n => (match h1[n]? with
    | some (.ins c' _) => if c' = c then (a r h1).bind fun ds h2 => (k r h2).bind fun es h3 => op (x :: ds) es h3 else .stuck
    | _ => .stuck)
  | _ => .stuck
def bd0 : List D → List D → List D := fun ds _ => ds
/-- a def: n parameters, k further names -/
def runF (n k : Nat) (b : SX) : CF := fun ds h => if ds.length = n then (match b (ds.map some ++ List.replicate k none) h with
  | .nx _ h' => .ok .non h'
  | .rt d h' => .ok d h'
  | .exc c fs h' => .exc c fs h'
  | _ => .stuck) else .stuck
/-- a, b = x, y -/
def sPar (i j : Nat) (a : AX) : SX := fun r h => (a r h).to fun ds h1 => match ds with
  | [x, y] => .nx ((r.set i (some x)).set j (some y)) h1
  | _ => .stuck
/-- a chain a < b <= c, by values -/
def eChain (op op' : D → D → LH → R D) (a b c : EX) : EX := fun r h => (a r h).bind fun x h1 => (b r h1).bind fun y h2 => (op x y h2).bind fun z h3 => match z with
  | .bl true => (c r h3).bind fun w h4 => op' y w h4
  | .bl false => .ok (.bl false) h3
  | _ => .stuck
end Py

namespace Py
open PySem
/-! ### what is walked -/
inductive Src where
  /-- values that cannot change -/
  | its (xs : List D)
  /-- a list, as it stands at each turn -/
  | lst (n : Nat)
  /-- pairs with a number, from k on -/
  | enm (k : Int) (s : Src)
def srcAt : Src → LH → Nat → Option (Option D)
  | .its xs, _, i => some xs[i]?
  | .lst n, h, i => match h[n]? with
    | some (.lst xs) => some xs[i]?
    | _ => none
  | .enm k s, h, i => (srcAt s h i).map (·.map fun d => .tup [.int (k + i), d])
abbrev IX := LS → LH → R Src
/-- the values of a list, a tuple, the script -/
def srcOf : D → LH → Option Src
  | .tup xs, _ => some (.its xs)
  | .scr ns, _ => some (.its (ns.map .int))
  | .ref n, h => match h[n]? with
    | some (.lst _) => some (.lst n)
    | _ => none
  | _, _ => none
def iSeq (a : EX) : IX := fun r h => (a r h).bind fun d h1 => match srcOf d h1 with
  | some s => .ok s h1
  | none => .stuck
/-- range(a, b) -/
def rangeL (a b : Int) : List D := (List.range (b - a).toNat).map fun k => .int (a + (k : Nat))
@[irreducible] def small62 (i : Int) : Bool := decide (-(2 ^ 62) ≤ i) && decide (i < 2 ^ 62)
def iRng1 (a : EX) : IX := fun r h => (a r h).bind fun d h1 => match d with
  | .int j => if small62 j = true then .ok (.its (rangeL 0 j)) h1 else .stuck
  | _ => .stuck
def iRng2 (a b : EX) : IX := fun r h => (a r h).bind fun d h1 => (b r h1).bind fun e h2 => match d, e with
  | .int i, .int j => if small62 i = true ∧ small62 j = true then .ok (.its (rangeL i j)) h2 else .stuck
  | _, _ => .stuck
def iEnum (k : Int) (a : EX) : IX := fun r h => (a r h).bind fun d h1 => match srcOf d h1 with
  | some s => .ok (.enm k s) h1
  | none => .stuck
/-- turns at most -/
def fuelN : Nat := 1000000
def forX (s : Src) (g : GX) (b : SX) : Nat → Nat → LS → LH → F
  | 0, _, _, _ => .stuck
  | n + 1, i, r, h => match srcAt s h i with
    | none => .stuck
    | some none => .nx r h
    | some (some d) => (match g d r h with
      | .nx r1 h1 => (match b r1 h1 with
        | .nx r2 h2 => forX s g b n (i + 1) r2 h2
        | .ct r2 h2 => forX s g b n (i + 1) r2 h2
        | .bk r2 h2 => .nx r2 h2
        | x => x)
      | _ => .stuck)
def sFor (it : IX) (g : GX) (b : SX) : SX := fun r h => (it r h).to fun s h1 => forX s g b fuelN 0 r h1
def whileX (t : EX) (b : SX) : Nat → LS → LH → F
  | 0, _, _ => .stuck
  | n + 1, r, h => (t r h).to fun x h1 => match truth x h1 with
    | some true => (match b r h1 with
      | .nx r2 h2 => whileX t b n r2 h2
      | .ct r2 h2 => whileX t b n r2 h2
      | .bk r2 h2 => .nx r2 h2
      | x => x)
    | some false => .nx r h1
    | none => .stuck
def sWhile (t : EX) (b : SX) : SX := fun r h => whileX t b fuelN r h
/-! ### comprehensions: the target's slots are set anew at each turn -/
def wipeL (r : LS) : List Nat → LS
  | [] => r
  | v :: vs => (wipeL r vs).set v none
def tgt (vs : List Nat) (d : D) (r : LS) : Option LS := match vs with
  | [i] => some (r.set i (some d))
  | [i, j] => (match d with
    | .tup [x, y] => some ((r.set i (some x)).set j (some y))
    | _ => none)
  | [i, j, l] => (match d with
    | .tup [x, y, z] => some (((r.set i (some x)).set j (some y)).set l (some z))
    | _ => none)
  | _ => none
def compX (s : Src) (vs : List Nat) (t e : EX) : Nat → Nat → List D → LS → LH → R (List D)
  | 0, _, _, _, _ => .stuck
  | n + 1, i, acc, r, h => match srcAt s h i with
    | none => .stuck
    | some none => .ok acc h
    | some (some d) => (match tgt vs d r with
      | some r1 => (match t r1 h with
        | .ok x h2 => (match truth x h2 with
          | some true => (match e r1 h2 with
            | .ok y h3 => if acc.length < sizeLine then compX s vs t e n (i + 1) (acc ++ [y]) r h3 else .stuck
            | _ => .stuck)
          | some false => compX s vs t e n (i + 1) acc r h2
          | none => .stuck)
        | _ => .stuck)
      | none => .stuck)
def eComp (vs : List Nat) (it : IX) (t e : EX) : EX := fun r h => (it r h).bind fun s h1 => (compX s vs t e fuelN 0 [] (wipeL r vs) h1).bind fun acc h2 => .ok (.ref h2.length) (h2 ++ [.lst acc])
end Py

namespace Py
open PySem
/-! ### built-ins -/
/-- the items of a list or a tuple -/
def seqD : D → LH → Option (List D)
  | .tup xs, _ => some xs
  | .scr ns, _ => some (ns.map .int)
  | .ref n, h => match h[n]? with
    | some (.lst xs) => some xs
    | _ => none
  | _, _ => none
def flatD : D → Bool
  | .non => true
  | .bl _ => true
  | .int _ => true
  | .str _ => true
  | _ => false
def eqF : D → D → Bool
  | .non, .non => true
  | .bl a, .bl b => a == b
  | .bl a, .int b => (if a then 1 else 0) == b
  | .int a, .bl b => a == (if b then 1 else 0)
  | .int a, .int b => a == b
  | .str a, .str b => a == b
  | _, _ => false
def oIn (neg : Bool) : D → D → LH → R D := fun x y h => match seqD y h with
  | some xs => if (flatD x && xs.all flatD) = true then .ok (.bl (if neg then !(xs.any fun z => eqF z x) else xs.any fun z => eqF z x)) h else .stuck
  | none => .stuck
def oIx : D → D → LH → R D := fun x y h => match y with
  | .int i => (match seqD x h with
    | some xs => (match L2.atI xs i with
      | some d => .ok d h
      | none => .stuck)
    | none => .stuck)
  | _ => .stuck
def cutD (xs : List D) (lo hi : Option Int) : List D := (xs.drop (HT.sIx xs.length 0 lo)).take (HT.sIx xs.length xs.length hi - HT.sIx xs.length 0 lo)
/-- a part of a slice -/
abbrev PX := LS → LH → R (Option Int)
def pNo : PX := fun _ h => .ok none h
def pSome (a : EX) : PX := fun r h => (a r h).bind fun d h1 => match d with
  | .int i => .ok (some i) h1
  | _ => .stuck
def eSl (a : EX) (lo hi : PX) : EX := fun r h => (a r h).bind fun x h1 => (lo r h1).bind fun l h2 => (hi r h2).bind fun u h3 => match x with
  | .tup xs => .ok (.tup (cutD xs l u)) h3
  | .ref n => (match h3[n]? with
    | some (.lst xs) => .ok (.ref h3.length) (h3 ++ [.lst (cutD xs l u)])
    | _ => .stuck)
  | _ => .stuck
def bLen : List D → LH → R D
  | [.str x], h => if x.length ≤ sizeLine then .ok (.int (x.length : Nat)) h else .stuck
  | [x], h => (match seqD x h with
    | some xs => .ok (.int (xs.length : Nat)) h
    | none => .stuck)
  | _, _ => .stuck
def bAbs : List D → LH → R D
  | [.int i], h => .ok (.int (if i < 0 then -i else i)) h
  | _, _ => .stuck
def bMax : List D → LH → R D
  | [.int i, .int j], h => .ok (.int (if j > i then j else i)) h
  | _, _ => .stuck
def bMin : List D → LH → R D
  | [.int i, .int j], h => .ok (.int (if j < i then j else i)) h
  | _, _ => .stuck
def bInt : List D → LH → R D
  | [.int i], h => .ok (.int i) h
  | [.bl k], h => .ok (.int (if k then 1 else 0)) h
  | _, _ => .stuck
def bDivmod : List D → LH → R D
  | [.int i, .int j], h => if 0 < j ∧ j < 1073741824 then .ok (.tup [.int (i / j), .int (i % j)]) h else .stuck
  | _, _ => .stuck
def bList : List D → LH → R D
  | [x], h => (match seqD x h with
    | some xs => .ok (.ref h.length) (h ++ [.lst xs])
    | none => .stuck)
  | _, _ => .stuck
def bTuple : List D → LH → R D
  | [x], h => (match seqD x h with
    | some xs => .ok (.tup xs) h
    | none => .stuck)
  | _, _ => .stuck
/-- bools alone -/
def boolsD : List D → Option (List Bool)
  | [] => some []
  | .bl b :: r => (boolsD r).map (b :: ·)
  | _ :: _ => none
def lstD : D → LH → Option (List D)
  | .ref n, h => match h[n]? with
    | some (.lst xs) => some xs
    | _ => none
  | _, _ => none
def bAll : List D → LH → R D
  | [x], h => (match (lstD x h).bind boolsD with
    | some bs => .ok (.bl (bs.all id)) h
    | none => .stuck)
  | _, _ => .stuck
def bAny : List D → LH → R D
  | [x], h => (match (lstD x h).bind boolsD with
    | some bs => .ok (.bl (bs.any id)) h
    | none => .stuck)
  | _, _ => .stuck
def intsD : List D → Option (List Int)
  | [] => some []
  | .int b :: r => (intsD r).map (b :: ·)
  | _ :: _ => none
def insI (a : Int) : List Int → List Int
  | [] => [a]
  | b :: r => if a ≤ b then a :: b :: r else b :: insI a r
def sortI : List Int → List Int
  | [] => []
  | a :: r => insI a (sortI r)
/-- sorted of ints (a list or a tuple) -/
def bSorted : List D → LH → R D
  | [x], h => (match (seqD x h).bind intsD with
    | some ns => if ns.length < 64 then .ok (.ref h.length) (h ++ [.lst ((sortI ns).map .int)]) else .stuck
    | none => .stuck)
  | _, _ => .stuck
/-- list(range(a, b)) -/
def eListR (a b : EX) : EX := fun r h => (a r h).bind fun d h1 => (b r h1).bind fun e h2 => match d, e with
  | .int i, .int j => if small62 i = true ∧ small62 j = true ∧ j - i ≤ 1000000 then .ok (.ref h2.length) (h2 ++ [.lst (rangeL i j)]) else .stuck
  | _, _ => .stuck
/-! methods of lists -/
def eBM (op : D → List D → LH → R D) (o : EX) (a : AX) : EX := fun r h => (o r h).bind fun x h1 => match lstD x h1 with
  | some _ => (a r h1).bind fun ds h2 => op x ds h2
  | none => .stuck
def onL (f : List D → Option (D × List D)) : D → LH → R D := fun x h => match x with
  | .ref n => (match h[n]? with
    | some (.lst xs) => (match f xs with
      | some (d, ys) => .ok d (h.set n (.lst ys))
      | none => .stuck)
    | _ => .stuck)
  | _ => .stuck
def mAppend : D → List D → LH → R D := fun x ds h => match ds with
  | [y] => onL (fun xs => if xs.length < sizeLine then some (.non, xs ++ [y]) else none) x h
  | _ => .stuck
def mClear : D → List D → LH → R D := fun x ds h => match ds with
  | [] => onL (fun _ => some (.non, [])) x h
  | _ => .stuck
def mReverse : D → List D → LH → R D := fun x ds h => match ds with
  | [] => onL (fun xs => some (.non, xs.reverse)) x h
  | _ => .stuck
def mPopAt : D → List D → LH → R D := fun x ds h => match ds with
  | [.int i] => if small62 i = true then onL (fun xs => match L2.ixN xs.length i with
    | some k => (xs[k]?).map fun d => (d, xs.eraseIdx k)
    | none => none) x h else .stuck
  | _ => .stuck
def mExtend : D → List D → LH → R D := fun x ds h => match ds with
  | [y] => (match lstD y h with
    | some zs => onL (fun xs => if xs.length + zs.length ≤ sizeLine then some (.non, xs ++ zs) else none) x h
    | none => .stuck)
  | _ => .stuck
/-- o[i] = v of a list -/
def gSub (o i : EX) : GX := fun d r h => (o r h).to fun x h1 => (i r h1).to fun y h2 => match x, y with
  | .ref n, .int k => (match h2[n]? with
    | some (.lst xs) => (match L2.ixN xs.length k with
      | some j => .nx r (h2.set n (.lst (xs.set j d)))
      | none => .stuck)
    | _ => .stuck)
  | _, _ => .stuck
/-! ### kinds -/
inductive Kd where
  | non | bool | int | str | tuple | list | dict
def Kd.is : Kd → Kd → Bool
  | .non, .non => true
  | .bool, .bool => true
  | .bool, .int => true
  | .int, .int => true
  | .str, .str => true
  | .tuple, .tuple => true
  | .list, .list => true
  | .dict, .dict => true
  | _, _ => false
def kindD : D → LH → Option Kd
  | .non, _ => some .non
  | .bl _, _ => some .bool
  | .int _, _ => some .int
  | .str _, _ => some .str
  | .tup _, _ => some .tuple
  | .scr _, _ => some .list
  | .fn _, _ => none
  | .ref n, h => match h[n]? with
    | some (.lst _) => some .list
    | some (.dct _) => some .dict
    | _ => none
def eIsi (ks : List Kd) (a : EX) : EX := e1 (fun d h => match kindD d h with
  | some k => .ok (.bl (ks.any fun t => k.is t)) h
  | none => .stuck) a
/-! ### data as a whole -/
def mapO {α β : Type} (f : α → Option β) : List α → Option (List β)
  | [] => some []
  | a :: r => match f a, mapO f r with
    | some b, some bs => some (b :: bs)
    | _, _ => none
def deep (h : LH) : Nat → D → Option PyData
  | _, .non => some .none
  | _, .bl b => some (.bool b)
  | _, .int i => some (.int i)
  | _, .str x => some (.str x)
  | _, .scr ns => some (.list (ns.map .int))
  | _, .fn _ => none
  | 0, _ => none
  | n + 1, .tup xs => (mapO (deep h n) xs).map .tuple
  | n + 1, .ref k => match h[k]? with
    | some (.lst xs) => (mapO (deep h n) xs).map .list
    | _ => none
def oEqD (neg : Bool) : D → D → LH → R D := fun x y h => match deep h 60 x, deep h 60 y with
  | some a, some b => if (SeqAt.shaped a && SeqAt.shaped b) = true then .ok (.bl (if neg then !PyData.eqv a b else PyData.eqv a b)) h else .stuck
  | _, _ => .stuck
def oEq (neg : Bool) : D → D → LH → R D
  | .int i, .int j, h => .ok (.bl (if neg then !decide (i = j) else decide (i = j))) h
  | .str i, .str j, h => .ok (.bl (if neg then !decide (i = j) else decide (i = j))) h
  | x, y, h => oEqD neg x y h
def showOk (a : PyData) : Bool := a.showable && !a.hasDict && decide (a.depth ≤ 64) && decide (a.shown.length ≤ sizeLine)
def bRepr : List D → LH → R D
  | [x], h => (match x with
    | .ref _ | .tup _ => (match deep h 60 x with
      | some a => if showOk a = true then .ok (.str a.shown) h else .stuck
      | none => .stuck)
    | _ => .stuck)
  | _, _ => .stuck
end Py

namespace Py
open PySem
/-- len(o), o of the class c with its own __len__ -/
def bLenO (c : Nat) (cf : CF) : List D → LH → R D
  | [.ref n], h => (match h[n]? with
    | some (.ins c' _) => if c' = c then (cf [.ref n] h).bind fun v h1 => (match v with
      | .int k => if 0 ≤ k ∧ k < 2 ^ 63 then .ok (.int k) h1 else .stuck
      | _ => .stuck) else .stuck
    | _ => .stuck)
  | _, _ => .stuck
/-- repr(o), o of the class c with its own __repr__ -/
def bReprO (c : Nat) (cf : CF) : List D → LH → R D
  | [.ref n], h => (match h[n]? with
    | some (.ins c' _) => if c' = c then (cf [.ref n] h).bind fun v h1 => (match v with
      | .str x => .ok (.str x) h1
      | _ => .stuck) else .stuck
    | _ => .stuck)
  | _, _ => .stuck
/-- parts of an f-string: texts -/
abbrev JX := LS → LH → R Str
def jNil : JX := fun _ h => .ok Str.empty h
/-- {e} of an f-string -/
def fmtD : D → LH → Option Str
  | .str x, _ => if x.length ≤ sizeLine then some x else none
  | .int i, _ => if i.natAbs.log2 < 1920 then some (toString i) else none
  | .ref n, h => (match deep h 60 (.ref n) with
    | some a => if showOk a = true then some a.shown else none
    | none => none)
  | .tup xs, h => (match deep h 60 (.tup xs) with
    | some a => if showOk a = true then some a.shown else none
    | none => none)
  | _, _ => none
def eFmt (a : EX) : EX := e1 (fun d h => match fmtD d h with
  | some x => .ok (.str x) h
  | none => .stuck) a
/-- texts one behind another -/
def jGo : List EX → Str → LS → LH → R D
  | [], acc, _, h => .ok (.str acc) h
  | a :: r, acc, l, h => (a l h).bind fun d h1 => match d with
    | .str x => if (acc ++ x).length ≤ sizeLine then jGo r (acc ++ x) l h1 else .stuck
    | _ => .stuck
def eJoin (as : List EX) : EX := fun l h => jGo as Str.empty l h
end Py

namespace Py
/-! ### bools alone -/
def eB (a : EX) : EX := fun r h => (a r h).bind fun x h1 => match x with
  | .bl b => .ok (.bl b) h1
  | _ => .stuck
def eAndB (a b : EX) : EX := fun r h => (a r h).bind fun x h1 => match x with
  | .bl true => b r h1
  | .bl false => .ok (.bl false) h1
  | _ => .stuck
def eOrB (a b : EX) : EX := fun r h => (a r h).bind fun x h1 => match x with
  | .bl true => .ok (.bl true) h1
  | .bl false => b r h1
  | _ => .stuck
def eNotB (a : EX) : EX := fun r h => (a r h).bind fun x h1 => match x with
  | .bl b => .ok (.bl (!b)) h1
  | _ => .stuck
end Py

namespace Py
def oNeg : D → LH → R D
  | .int i, h => .ok (.int (-i)) h
  | _, _ => .stuck
end Py

namespace Py
open PySem
/-- repr, of whole numbers too -/
def bRep : List D → LH → R D
  | [.int i], h => if i.natAbs.log2 < 1920 then .ok (.str (toString i)) h else .stuck
  | xs, h => bRepr xs h
/-- x is True, x is False -/
def oIsB (b : Bool) : D → LH → R D
  | .bl c, h => .ok (.bl (c == b)) h
  | _, h => .ok (.bl false) h
/-- xs[::-1] of a list -/
def eRev (a : EX) : EX := e1 (fun x h => match lstD x h with
  | some xs => .ok (.ref h.length) (h ++ [.lst xs.reverse])
  | none => .stuck) a
/-- a, b, c = x, y, z -/
def sPar3 (i j l : Nat) (a : AX) : SX := fun r h => (a r h).to fun ds h1 => match ds with
  | [x, y, z] => .nx (((r.set i (some x)).set j (some y)).set l (some z)) h1
  | _ => .stuck
/-- isinstance(a, C), C an own class: f tells of the class of an instance -/
def oIsO (f : Nat → Option Bool) : D → LH → R D := fun d h => match d with
  | .ref n => (match h[n]? with
    | some (.ins c _) => (match f c with
      | some b => .ok (.bl b) h
      | none => .stuck)
    | some _ => .ok (.bl false) h
    | none => .stuck)
  | .fn _ => .stuck
  | _ => .ok (.bl false) h
/-- what stands at the right of an own == -/
def rightOk (c : Nat) : D → LH → Bool := fun d h => match d with
  | .ref n => (match h[n]? with
    | some (.ins c' _) => c' == c
    | some _ => true
    | none => false)
  | .fn _ => false
  | _ => true
/-- == and != by an own __eq__ of the class c; of other values as ever -/
def oEqO (c : Nat) (cf : CF) (neg : Bool) : D → D → LH → R D := fun x y h => match x with
  | .ref n => (match h[n]? with
    | some (.ins c' _) => if c' = c ∧ rightOk c y h = true then (cf [x, y] h).bind fun v h1 => (match v with
      | .bl b => .ok (.bl (if neg then !b else b)) h1
      | _ => .stuck) else .stuck
    | _ => oEq neg x y h)
  | _ => oEq neg x y h
end Py

namespace Py
open PySem
/-! ### dicts with texts and whole numbers as keys -/
abbrev Ky := L2.Key
def keyD : D → Option Ky
  | .int i => some (.inl i)
  | .str x => some (.inr x)
  | _ => none
def dctD : D → LH → Option (List (Ky × D))
  | .ref n, h => match h[n]? with
    | some (.dct kvs) => some kvs
    | _ => none
  | _, _ => none
def valD (kvs : List (Ky × D)) (k : Ky) : Option D := (kvs.find? fun kv => decide (kv.1 = k)).map (·.2)
def putD (kvs : List (Ky × D)) (k : Ky) (v : D) : List (Ky × D) :=
  if (kvs.any fun kv => decide (kv.1 = k)) = true then kvs.map (fun kv => if kv.1 = k then (kv.1, v) else kv) else kvs ++ [(k, v)]
def mergeD (kvs more : List (Ky × D)) : List (Ky × D) := more.foldl (fun acc kv => putD acc kv.1 kv.2) kvs
/-- d[y] -/
def oDg : D → D → LH → R D := fun x y h => match dctD x h, keyD y with
  | some kvs, some k => (match valD kvs k with
    | some d => .ok d h
    | none => .stuck)
  | _, _ => .stuck
/-- y in d -/
def oDin (neg : Bool) : D → D → LH → R D := fun y x h => match dctD x h, keyD y with
  | some kvs, some k => .ok (.bl (if neg then !(valD kvs k).isSome else (valD kvs k).isSome)) h
  | _, _ => .stuck
/-- d[y] = v: the value first -/
def sDput (o i e : EX) : SX := fun r h => (e r h).to fun d h1 => (o r h1).to fun x h2 => (i r h2).to fun y h3 => match x, keyD y with
  | .ref n, some k => (match h3[n]? with
    | some (.dct kvs) => if kvs.length < sizeLine then .nx r (h3.set n (.dct (putD kvs k d))) else .stuck
    | _ => .stuck)
  | _, _ => .stuck
/-- {k: v, ..}: the pairs, from the left -/
def pairsX : List (EX × EX) → LS → LH → R (List (Ky × D))
  | [], _, h => .ok [] h
  | (a, b) :: ps, r, h => (a r h).bind fun x h1 => (b r h1).bind fun y h2 => match keyD x with
    | some k => (pairsX ps r h2).bind fun kvs h3 => .ok ((k, y) :: kvs) h3
    | none => .stuck
def eDisp (ps : List (EX × EX)) : EX := fun r h => (pairsX ps r (h ++ [.dct []])).bind fun kvs h1 => match h1[h.length]? with
  | some (.dct []) => if kvs.length ≤ 15 then .ok (.ref h.length) (h1.set h.length (.dct (mergeD [] kvs))) else .stuck
  | _ => .stuck
def eDnew : EX := fun _ h => .ok (.ref h.length) (h ++ [.dct []])
/-- dict(d) -/
def bDict : List D → LH → R D
  | [x], h => (match dctD x h with
    | some kvs => .ok (.ref h.length) (h ++ [.dct kvs])
    | none => .stuck)
  | _, _ => .stuck
/-! ### methods of tuples -/
def strsD : List D → Option (List Str)
  | [] => some []
  | .str x :: r => (strsD r).map (x :: ·)
  | _ :: _ => none
def eTM (op : D → List D → LH → R D) (o : EX) (a : AX) : EX := fun r h => (o r h).bind fun x h1 => match x with
  | .tup xs => if (strsD xs).isSome = true then (a r h1).bind fun ds h2 => op x ds h2 else .stuck
  | _ => .stuck
/-- t.index(x), texts alone -/
def mTupIx : D → List D → LH → R D := fun x ds h => match x, ds with
  | .tup xs, [.str z] => (match strsD xs with
    | some ys => (match ys.findIdx? (fun y => decide (y = z)) with
      | some j => .ok (.int (j : Nat)) h
      | none => .stuck)
    | none => .stuck)
  | _, _ => .stuck
/-- a table of defs -/
def tabOf (l : List (Str × KF)) : Str → Option KF := fun n => (l.find? fun p => decide (p.1 = n)).map (·.2)
/-- f(..), f a local that holds a def -/
def eCallV (tab : Str → Option KF) (o : EX) (a : AX) : EX := fun r h => (o r h).bind fun x h1 => match x with
  | .fn n => (match tab n with
    | some op => (a r h1).bind fun ds h2 => op ds [] h2
    | none => .stuck)
  | _ => .stuck
/-- x in y, data of any depth -/
def itemsP : PyData → Option (List PyData)
  | .list bs => some bs
  | .tuple bs => some bs
  | _ => none
def oInDp (neg : Bool) : D → D → LH → R D := fun x y h => match deep h 60 x, deep h 60 y with
  | some a, some b => (match itemsP b with
    | some bs => if (SeqAt.shaped a && SeqAt.shaped b) = true then .ok (.bl (if neg then !(bs.any fun z => PyData.eqv z a) else bs.any fun z => PyData.eqv z a)) h else .stuck
    | none => .stuck)
  | _, _ => .stuck
end Py

set_option Elab.async false
set_option linter.all false
set_option maxRecDepth 100000
/-! Own layer, part 2: the relation between the logical heap and the layer's heap; expressions. -/
namespace Py
open PySem PySem.Spec L2

/-- classes by number, attribute names by number -/
structure Gam where
  cl : Nat → Addr
  nm : Nat → Str
  top : Nat
  inj : ∀ i j, i < top → j < top → nm i = nm j → i = j
  tabs : List (Addr × Str)

/-- a list that is read alone: locked, or of the written part -/
def SqF (K : PySem.W.Frag) (H : Hp) (a : Addr) (xs : List V) : Prop := (∃ o, H a = some (.frz o (.lst xs))) ∨
  ∃ (o : Obj) (its : Array Value) (n : Nat), K.lookup a = some o ∧ o.cls = .type "list" ∧ o.dict = none ∧ o.data = .seq its n ∧ its.size ≤ sizeLine ∧ Vals xs its.toList
theorem SqF.sq {K : PySem.W.Frag} {H : Hp} {a : Addr} {xs : List V} (h : SqF K H a xs) : SqL K H a xs := by
  rcases h with h | h
  · exact .inl (.inr h)
  · exact .inr h
/-- an object that has no dict of its own -/
def Xc (K : PySem.W.Frag) (H : Hp) (a : Addr) : Prop := (∃ (o : Obj) (u : HO), H a = some (.frz o u) ∧ o.dict = none) ∨ ∃ o : Obj, K.lookup a = some o ∧ o.dict = none
/-- a tuple, known not to have a dict (but where its first item is a whole number) -/
structure SqX (K : PySem.W.Frag) (H : Hp) (a : Addr) (vs : List V) : Prop where
  sq : SqT K H a vs
  x : Xc K H a ∨ ∃ i us, vs = V.int i :: us
mutual
inductive RelD (K : PySem.W.Frag) (m : Nat → Addr) (N : Nat) (H : Hp) : D → V → Prop
  | non : RelD K m N H .non .non
  | bl (b : Bool) : RelD K m N H (.bl b) (.bl b)
  | int (i : Int) : RelD K m N H (.int i) (.int i)
  | str (x : Str) : RelD K m N H (.str x) (.str x)
  | tup {a : Addr} {xs : List D} {vs : List V} : SqX K H a vs → RelDs K m N H xs vs → RelD K m N H (.tup xs) (.ref a)
  | ref {n : Nat} : n < N → RelD K m N H (.ref n) (.ref (m n))
  | scr {a : Addr} {ns : List Int} : SqF K H a (ns.map V.int) → RelD K m N H (.scr ns) (.ref a)
  | fn {x : Str} {a : Addr} : PySem.W.nsIn K mainGlobals x = some (some (.ref a)) → RelD K m N H (.fn x) (.ref a)
inductive RelDs (K : PySem.W.Frag) (m : Nat → Addr) (N : Nat) (H : Hp) : List D → List V → Prop
  | nil : RelDs K m N H [] []
  | cons {d : D} {v : V} {ds : List D} {vs : List V} : RelD K m N H d v → RelDs K m N H ds vs → RelDs K m N H (d :: ds) (v :: vs)
end

/-- tuples and locked lists stay -/
structure TK (K : PySem.W.Frag) (H H' : Hp) : Prop where
  t : ∀ a vs, SqT K H a vs → SqT K H' a vs
  f : ∀ a vs, SqF K H a vs → SqF K H' a vs
  x : ∀ a, Xc K H a → Xc K H' a
theorem TK.refl {K : PySem.W.Frag} (H : Hp) : TK K H H := ⟨fun _ _ h => h, fun _ _ h => h, fun _ h => h⟩
theorem TK.trans {K : PySem.W.Frag} {H H1 H2 : Hp} (a : TK K H H1) (b : TK K H1 H2) : TK K H H2 := ⟨fun x vs h => b.t x vs (a.t x vs h), fun x vs h => b.f x vs (a.f x vs h), fun x h => b.x x (a.x x h)⟩
theorem TK.sx {K : PySem.W.Frag} {H H1 : Hp} (t : TK K H H1) {a : Addr} {vs : List V} (h : SqX K H a vs) : SqX K H1 a vs := ⟨t.t _ _ h.sq, h.x.imp (t.x _) id⟩
theorem TK.upd_new {K : PySem.W.Frag} {H : Hp} {p : Addr} {o : HO} (hp : H p = none) : TK K H (upd H p o) := by
  refine ⟨fun a vs h => ?_, fun a vs h => ?_, fun a h => ?_⟩
  · rcases h with (h | ⟨u, h⟩) | h
    · exact .inl (.inl (by rw [upd_ne (ne_of_none h hp)]; exact h))
    · exact .inl (.inr ⟨u, by rw [upd_ne (ne_of_none h hp)]; exact h⟩)
    · exact .inr h
  · rcases h with ⟨u, h⟩ | h
    · exact .inl ⟨u, by rw [upd_ne (ne_of_none h hp)]; exact h⟩
    · exact .inr h
  · rcases h with ⟨u, w, h, e⟩ | h
    · exact .inl ⟨u, w, by rw [upd_ne (ne_of_none h hp)]; exact h, e⟩
    · exact .inr h
theorem TK.upd_mut {K : PySem.W.Frag} {H : Hp} {p : Addr} {o u : HO} (hp : H p = some u) (nt : ∀ vs, u ≠ .tup vs) (nf : ∀ ob w, u ≠ .frz ob w) : TK K H (upd H p o) := by
  refine ⟨fun a vs h => ?_, fun a vs h => ?_, fun a h => ?_⟩
  · rcases h with (h | ⟨z, h⟩) | h
    · exact .inl (.inl (by rw [upd_ne (ne_of h hp fun e => nt vs e.symm)]; exact h))
    · exact .inl (.inr ⟨z, by rw [upd_ne (ne_of h hp fun e => nf _ _ e.symm)]; exact h⟩)
    · exact .inr h
  · rcases h with ⟨z, h⟩ | h
    · exact .inl ⟨z, by rw [upd_ne (ne_of h hp fun e => nf _ _ e.symm)]; exact h⟩
    · exact .inr h
  · rcases h with ⟨z, w, h, e⟩ | h
    · exact .inl ⟨z, w, by rw [upd_ne (ne_of h hp fun e => nf _ _ e.symm)]; exact h, e⟩
    · exact .inr h

mutual
theorem RelD.mono {K : PySem.W.Frag} {m m' : Nat → Addr} {N N' : Nat} {H H' : Hp} (ag : ∀ i, i < N → m' i = m i) (hN : N ≤ N') (t : TK K H H') : ∀ {d : D} {v : V}, RelD K m N H d v → RelD K m' N' H' d v
  | _, _, .non => .non
  | _, _, .bl b => .bl b
  | _, _, .int i => .int i
  | _, _, .str x => .str x
  | _, _, .tup h r => .tup (t.sx h) (RelDs.mono ag hN t r)
  | _, _, .scr h => .scr (t.f _ _ h)
  | _, _, .fn h => .fn h
  | _, _, .ref (n := n) h => by rw [← ag n h]; exact .ref (Nat.lt_of_lt_of_le h hN)
theorem RelDs.mono {K : PySem.W.Frag} {m m' : Nat → Addr} {N N' : Nat} {H H' : Hp} (ag : ∀ i, i < N → m' i = m i) (hN : N ≤ N') (t : TK K H H') : ∀ {d : List D} {v : List V}, RelDs K m N H d v → RelDs K m' N' H' d v
  | _, _, .nil => .nil
  | _, _, .cons h r => .cons (RelD.mono ag hN t h) (RelDs.mono ag hN t r)
end
section
variable {K : PySem.W.Frag} {m : Nat → Addr} {N : Nat} {H : Hp}
theorem RelDs.length : ∀ {ds : List D} {vs : List V}, RelDs K m N H ds vs → ds.length = vs.length
  | _, _, .nil => rfl
  | _, _, .cons _ r => by simp [RelDs.length r]
theorem RelDs.append : ∀ {ds es : List D} {vs ws : List V}, RelDs K m N H ds vs → RelDs K m N H es ws → RelDs K m N H (ds ++ es) (vs ++ ws)
  | _, _, _, _, .nil, s => s
  | _, _, _, _, .cons h r, s => .cons h (RelDs.append r s)
theorem RelDs.get : ∀ {ds : List D} {vs : List V} {i : Nat} {d : D}, RelDs K m N H ds vs → ds[i]? = some d → ∃ v, vs[i]? = some v ∧ RelD K m N H d v
  | _, _, _, _, .nil, e => by simp at e
  | _, _, 0, _, .cons h _, e => by simp at e; subst e; exact ⟨_, rfl, h⟩
  | _, _, i + 1, d, .cons _ r, e => by
    obtain ⟨v, h1, h2⟩ := RelDs.get (i := i) (d := d) r (by simpa using e)
    exact ⟨v, by simpa using h1, h2⟩
theorem RelDs.set {d : D} {v : V} (h : RelD K m N H d v) : ∀ {ds : List D} {vs : List V} (i : Nat), RelDs K m N H ds vs → RelDs K m N H (ds.set i d) (vs.set i v)
  | _, _, _, .nil => .nil
  | _, _, 0, .cons _ r => .cons h r
  | _, _, i + 1, .cons h' r => .cons h' (RelDs.set h i r)
theorem RelDs.take : ∀ {ds : List D} {vs : List V} (n : Nat), RelDs K m N H ds vs → RelDs K m N H (ds.take n) (vs.take n)
  | _, _, 0, _ => .nil
  | _, _, _ + 1, .nil => .nil
  | _, _, n + 1, .cons h r => .cons h (RelDs.take n r)
theorem RelDs.drop : ∀ {ds : List D} {vs : List V} (n : Nat), RelDs K m N H ds vs → RelDs K m N H (ds.drop n) (vs.drop n)
  | _, _, 0, r => r
  | _, _, _ + 1, .nil => .nil
  | _, _, n + 1, .cons h r => RelDs.drop n r
theorem RelDs.replicate {d : D} {v : V} (h : RelD K m N H d v) : ∀ (n : Nat), RelDs K m N H (List.replicate n d) (List.replicate n v)
  | 0 => .nil
  | n + 1 => .cons h (RelDs.replicate h n)
theorem RelDs.ints : ∀ (ns : List Int), RelDs K m N H (ns.map .int) (ns.map V.int)
  | [] => .nil
  | _ :: r => .cons (.int _) (RelDs.ints r)
end

/-- attributes -/
inductive RelFs (G : Gam) (K : PySem.W.Frag) (m : Nat → Addr) (N : Nat) (H : Hp) : List (Nat × D) → List (Str × V) → Prop
  | nil : RelFs G K m N H [] []
  | cons {i : Nat} {d : D} {v : V} {fs : List (Nat × D)} {vs : List (Str × V)} : i < G.top → RelD K m N H d v → RelFs G K m N H fs vs → RelFs G K m N H ((i, d) :: fs) ((G.nm i, v) :: vs)
theorem RelFs.mono {G : Gam} {K : PySem.W.Frag} {m m' : Nat → Addr} {N N' : Nat} {H H' : Hp} (ag : ∀ i, i < N → m' i = m i) (hN : N ≤ N') (t : TK K H H') : ∀ {fs : List (Nat × D)} {vs : List (Str × V)}, RelFs G K m N H fs vs → RelFs G K m' N' H' fs vs
  | _, _, .nil => .nil
  | _, _, .cons a h r => .cons a (h.mono ag hN t) (RelFs.mono ag hN t r)
theorem RelFs.length {G : Gam} {K : PySem.W.Frag} {m : Nat → Addr} {N : Nat} {H : Hp} : ∀ {fs : List (Nat × D)} {vs : List (Str × V)}, RelFs G K m N H fs vs → fs.length = vs.length
  | _, _, .nil => rfl
  | _, _, .cons _ _ r => by simp [RelFs.length r]
theorem RelFs.get {G : Gam} {K : PySem.W.Frag} {m : Nat → Addr} {N : Nat} {H : Hp} {i : Nat} (hi : i < G.top) : ∀ {fs : List (Nat × D)} {vs : List (Str × V)} {d : D}, RelFs G K m N H fs vs → getA i fs = some d → ∃ v, vs.lookup (G.nm i) = some v ∧ RelD K m N H d v
  | _, _, _, .nil, e => by simp [getA] at e
  | _, _, d, .cons (i := j) a h r, e => by
    simp only [getA] at e
    by_cases q : i = j
    · subst q
      simp at e
      subst e
      exact ⟨_, by simp [List.lookup], h⟩
    · rw [if_neg q] at e
      obtain ⟨v, e1, h1⟩ := RelFs.get hi r e
      refine ⟨v, ?_, h1⟩
      have : (G.nm i == G.nm j) = false := beq_eq_false_iff_ne.mpr fun z => q (G.inj i j hi a z)
      simp only [List.lookup, this]
      exact e1
theorem RelFs.put {G : Gam} {K : PySem.W.Frag} {m : Nat → Addr} {N : Nat} {H : Hp} {i : Nat} {d : D} {v : V} (hi : i < G.top) (hd : RelD K m N H d v) : ∀ {fs : List (Nat × D)} {vs : List (Str × V)}, RelFs G K m N H fs vs → RelFs G K m N H (putA i d fs) (putF (G.nm i) v vs)
  | _, _, .nil => .cons hi hd .nil
  | _, _, .cons (i := j) a h r => by
    simp only [putA, putF]
    by_cases q : j = i
    · subst q
      simp only [if_pos]
      exact .cons a hd r
    · rw [if_neg q, if_neg fun z => q (G.inj j i a hi z)]
      exact .cons a h (RelFs.put hi hd r)

/-- entries of a dict -/
inductive RelKs (K : PySem.W.Frag) (m : Nat → Addr) (N : Nat) (H : Hp) : List (Ky × D) → List (L2.Key × V) → Prop
  | nil : RelKs K m N H [] []
  | cons {k : Ky} {d : D} {v : V} {ds : List (Ky × D)} {vs : List (L2.Key × V)} : RelD K m N H d v → RelKs K m N H ds vs → RelKs K m N H ((k, d) :: ds) ((k, v) :: vs)
theorem RelKs.mono {K : PySem.W.Frag} {m m' : Nat → Addr} {N N' : Nat} {H H' : Hp} (ag : ∀ i, i < N → m' i = m i) (hN : N ≤ N') (t : TK K H H') : ∀ {fs : List (Ky × D)} {vs : List (L2.Key × V)}, RelKs K m N H fs vs → RelKs K m' N' H' fs vs
  | _, _, .nil => .nil
  | _, _, .cons h r => .cons (h.mono ag hN t) (RelKs.mono ag hN t r)
/-- what stands at a place, in both heaps -/
def RelO (G : Gam) (K : PySem.W.Frag) (m : Nat → Addr) (N : Nat) (H : Hp) (a : Addr) : O → Prop
  | .lst xs => ∃ vs, H a = some (.lst vs) ∧ RelDs K m N H xs vs
  | .dct kvs => ∃ vs, H a = some (.dK vs) ∧ RelKs K m N H kvs vs
  | .ins c fs => ∃ dx vs, H a = some (.ins (G.cl c) dx vs) ∧ RelFs G K m N H fs vs
theorem RelO.mono {G : Gam} {K : PySem.W.Frag} {m m' : Nat → Addr} {N N' : Nat} {H H' : Hp} {a : Addr} {o : O} (ag : ∀ i, i < N → m' i = m i) (hN : N ≤ N') (t : TK K H H') (e : H' a = H a) (h : RelO G K m N H a o) : RelO G K m' N' H' a o := by
  cases o with
  | lst xs => obtain ⟨vs, h1, h2⟩ := h; exact ⟨vs, e.trans h1, h2.mono ag hN t⟩
  | ins c fs => obtain ⟨dx, vs, h1, h2⟩ := h; exact ⟨dx, vs, e.trans h1, h2.mono ag hN t⟩
  | dct kv => obtain ⟨vs, h1, h2⟩ := h; exact ⟨vs, e.trans h1, h2.mono ag hN t⟩

structure RelH (G : Gam) (K : PySem.W.Frag) (m : Nat → Addr) (h : LH) (H : Hp) : Prop where
  obj : ∀ n o, h[n]? = some o → RelO G K m h.length H (m n) o
  inj : ∀ i j, i < h.length → j < h.length → m i = m j → i = j
  tab : LamX.Tabs G.tabs H

/-- locals -/
inductive RelS (K : PySem.W.Frag) (m : Nat → Addr) (N : Nat) (H : Hp) : LS → St → Prop
  | nil : RelS K m N H [] []
  | no {v : Option V} {r : LS} {s : St} : RelS K m N H r s → RelS K m N H (none :: r) (v :: s)
  | yes {d : D} {v : V} {r : LS} {s : St} : RelD K m N H d v → RelS K m N H r s → RelS K m N H (some d :: r) (some v :: s)
theorem RelS.mono {K : PySem.W.Frag} {m m' : Nat → Addr} {N N' : Nat} {H H' : Hp} (ag : ∀ i, i < N → m' i = m i) (hN : N ≤ N') (t : TK K H H') : ∀ {r : LS} {s : St}, RelS K m N H r s → RelS K m' N' H' r s
  | _, _, .nil => .nil
  | _, _, .no r => .no (RelS.mono ag hN t r)
  | _, _, .yes h r => .yes (h.mono ag hN t) (RelS.mono ag hN t r)
theorem RelS.get {K : PySem.W.Frag} {m : Nat → Addr} {N : Nat} {H : Hp} : ∀ {r : LS} {s : St} {i : Nat} {d : D}, RelS K m N H r s → r[i]? = some (some d) → ∃ v, s[i]? = some (some v) ∧ RelD K m N H d v
  | _, _, _, _, .nil, e => by simp at e
  | _, _, 0, _, .no _, e => by simp at e
  | _, _, 0, _, .yes h _, e => by simp at e; subst e; exact ⟨_, rfl, h⟩
  | _, _, i + 1, d, .no r, e => by
    obtain ⟨v, h1, h2⟩ := RelS.get (i := i) (d := d) r (by simpa using e)
    exact ⟨v, by simpa using h1, h2⟩
  | _, _, i + 1, d, .yes _ r, e => by
    obtain ⟨v, h1, h2⟩ := RelS.get (i := i) (d := d) r (by simpa using e)
    exact ⟨v, by simpa using h1, h2⟩
theorem RelS.set {K : PySem.W.Frag} {m : Nat → Addr} {N : Nat} {H : Hp} {d : D} {v : V} (h : RelD K m N H d v) : ∀ {r : LS} {s : St} (i : Nat), RelS K m N H r s → RelS K m N H (r.set i (some d)) (s.set i (some v))
  | _, _, _, .nil => .nil
  | _, _, 0, .no r => .yes h r
  | _, _, 0, .yes _ r => .yes h r
  | _, _, i + 1, .no r => .no (RelS.set h i r)
  | _, _, i + 1, .yes q r => .yes q (RelS.set h i r)
theorem RelS.set0 {K : PySem.W.Frag} {m : Nat → Addr} {N : Nat} {H : Hp} {v : Option V} : ∀ {r : LS} {s : St} (i : Nat), RelS K m N H r s → RelS K m N H (r.set i none) (s.set i v)
  | _, _, _, .nil => .nil
  | _, _, 0, .no r => .no r
  | _, _, 0, .yes _ r => .no r
  | _, _, i + 1, .no r => .no (RelS.set0 i r)
  | _, _, i + 1, .yes q r => .yes q (RelS.set0 i r)
theorem RelS.of {K : PySem.W.Frag} {m : Nat → Addr} {N : Nat} {H : Hp} : ∀ {ds : List D} {vs : List V} (k : Nat), RelDs K m N H ds vs → RelS K m N H (ds.map some ++ List.replicate k none) (vs.map some ++ List.replicate k none)
  | _, _, 0, .nil => .nil
  | _, _, k + 1, .nil => .no (RelS.of k .nil)
  | _, _, k, .cons h r => .yes h (RelS.of k r)

/-- from one pair of heaps to a later one -/
structure Post (G : Gam) (K : PySem.W.Frag) (m : Nat → Addr) (N : Nat) (H : Hp) (m' : Nat → Addr) (h' : LH) (H' : Hp) : Prop where
  agr : ∀ i, i < N → m' i = m i
  len : N ≤ h'.length
  tk : TK K H H'
  rel : RelH G K m' h' H'
  new : ∀ i, N ≤ i → i < h'.length → ∀ o, H (m' i) = some o → ∃ ps, o = .tbl ps
  fr : ∀ a o, H a = some o → (∀ ps, o ≠ .tbl ps) → (∀ i, i < N → m i ≠ a) → H' a = some o
section
variable {G : Gam} {K : PySem.W.Frag} {m m1 m2 : Nat → Addr} {N : Nat} {h h1 h2 : LH} {H H1 H2 : Hp}
theorem Post.refl (r : RelH G K m h H) : Post G K m h.length H m h H := ⟨fun _ _ => rfl, Nat.le_refl _, TK.refl _, r, fun i h1 h2 => absurd h2 (Nat.not_lt.mpr h1), fun _ _ e _ _ => e⟩
theorem RelO.isThere {a : Addr} {o : O} (r : RelO G K m N H a o) : ∃ u, H a = some u := by
  cases o with
  | lst xs => obtain ⟨vs, h1, _⟩ := r; exact ⟨_, h1⟩
  | ins c fs => obtain ⟨dx, vs, h1, _⟩ := r; exact ⟨_, h1⟩
  | dct kv => obtain ⟨vs, h1, _⟩ := r; exact ⟨_, h1⟩
theorem RelH.isThere (r : RelH G K m h H) {n : Nat} (hn : n < h.length) : ∃ u, H (m n) = some u := (r.obj n _ (List.getElem?_eq_getElem hn)).isThere
theorem RelO.noTbl {a : Addr} {o : O} (r : RelO G K m N H a o) (ps : Array Value) : H a ≠ some (.tbl ps) := by
  cases o with
  | lst xs => obtain ⟨vs, h1, _⟩ := r; rw [h1]; exact fun z => nomatch z
  | ins c fs => obtain ⟨dx, vs, h1, _⟩ := r; rw [h1]; exact fun z => nomatch z
  | dct kv => obtain ⟨vs, h1, _⟩ := r; rw [h1]; exact fun z => nomatch z
theorem Post.trans (a : Post G K m N H m1 h1 H1) (b : Post G K m1 h1.length H1 m2 h2 H2) : Post G K m N H m2 h2 H2 := by
  have ag : ∀ i, i < N → m2 i = m i := fun i hi => (b.agr i (Nat.lt_of_lt_of_le hi a.len)).trans (a.agr i hi)
  have out : ∀ x o, H x = some o → (∀ ps, o ≠ .tbl ps) → (∀ i, i < N → m i ≠ x) → ∀ i, i < h1.length → m1 i ≠ x := fun x o e nt hx i hi z => by
    by_cases hn : i < N
    · exact hx i hn ((a.agr i hn).symm.trans z)
    · obtain ⟨ps, q⟩ := a.new i (Nat.not_lt.mp hn) hi o (by rw [z]; exact e)
      exact nt ps q
  refine ⟨ag, Nat.le_trans a.len b.len, a.tk.trans b.tk, b.rel, fun i h1' h2' => ?_, fun x o e nt hx => b.fr x o (a.fr x o e nt hx) nt (out x o e nt hx)⟩
  by_cases hi : i < h1.length
  · rw [b.agr i hi]; exact a.new i h1' hi
  · intro o z
    by_cases nt : ∀ ps, o ≠ .tbl ps
    · exfalso
      by_cases hx : ∀ j, j < N → m j ≠ m2 i
      · obtain ⟨ps, q⟩ := b.new i (Nat.not_lt.mp hi) h2' o (a.fr _ _ z nt hx)
        exact nt ps q
      · have hx' : ∃ j, j < N ∧ m j = m2 i := by
          apply Classical.byContradiction
          intro hc
          exact hx fun j hj e => hc ⟨j, hj, e⟩
        obtain ⟨j, hj, e⟩ := hx'
        have hl := Nat.lt_of_lt_of_le hj a.len
        obtain ⟨u, hu⟩ := a.rel.isThere hl
        have e2 := (a.agr j hj).trans e
        obtain ⟨ps, q⟩ := b.new i (Nat.not_lt.mp hi) h2' u (by rw [← e2]; exact hu)
        exact (a.rel.obj j _ (List.getElem?_eq_getElem hl)).noTbl ps (by rw [hu, q])
    · apply Classical.byContradiction
      intro hc
      exact nt fun ps e => hc ⟨ps, e⟩
theorem Post.d {d : D} {v : V} (a : Post G K m N H m1 h1 H1) (r : RelD K m N H d v) : RelD K m1 h1.length H1 d v := r.mono a.agr a.len a.tk
theorem Post.ds (a : Post G K m N H m1 h1 H1) {ds : List D} {vs : List V} (r : RelDs K m N H ds vs) : RelDs K m1 h1.length H1 ds vs := r.mono a.agr a.len a.tk
theorem Post.s (a : Post G K m N H m1 h1 H1) {r : LS} {s : St} (q : RelS K m N H r s) : RelS K m1 h1.length H1 r s := q.mono a.agr a.len a.tk

def ext (m : Nat → Addr) (n : Nat) (p : Addr) : Nat → Addr := fun i => if i = n then p else m i
theorem ext_self (m : Nat → Addr) (n : Nat) (p : Addr) : ext m n p n = p := if_pos rfl
theorem ext_ne {m : Nat → Addr} {n i : Nat} {p : Addr} (h : i ≠ n) : ext m n p i = m i := if_neg h
theorem RelO.ne {a p : Addr} {o : O} (r : RelO G K m N H a o) (hp : H p = none) : a ≠ p := by
  cases o with
  | lst xs => obtain ⟨vs, h1, _⟩ := r; exact ne_of_none h1 hp
  | ins c fs => obtain ⟨dx, vs, h1, _⟩ := r; exact ne_of_none h1 hp
  | dct kv => obtain ⟨vs, h1, _⟩ := r; exact ne_of_none h1 hp
theorem RelH.ne (r : RelH G K m h H) {n : Nat} {p : Addr} (hn : n < h.length) (hp : H p = none) : m n ≠ p :=
  (r.obj n _ (List.getElem?_eq_getElem hn)).ne hp
/-- tables stay where something is put -/
theorem tabs_new {T : List (Addr × Str)} {H : Hp} {p : Addr} {u : HO} (t : LamX.Tabs T H) (hp : H p = none) : LamX.Tabs T (upd H p u) := t.ext fun b o e => by rw [upd_ne (ne_of_none e hp)]; exact e
theorem tabs_upd {T : List (Addr × Str)} {H : Hp} {p : Addr} {u u0 : HO} (t : LamX.Tabs T H) (hp : H p = some u0) (n1 : ∀ ps, u0 ≠ .tbl ps) (n2 : ∀ φ, u0 ≠ .ext φ) : LamX.Tabs T (upd H p u) := fun q m => by
  obtain ⟨ps, e1, e2, e3⟩ := t q m
  have k1 : q.1 ≠ p := fun z => by rw [z, hp] at e1; exact n1 _ (Option.some.inj e1)
  refine ⟨ps, by rw [upd_ne k1]; exact e1, e2, fun pos cv hc => ?_⟩
  obtain ⟨c, e4, e5⟩ := e3 pos cv hc
  have k2 : c ≠ p := fun z => by rw [z, hp] at e5; exact n2 _ (Option.some.inj e5)
  exact ⟨c, e4, by rw [upd_ne k2]; exact e5⟩
/-- a new object -/
theorem RelH.new (r : RelH G K m h H) {p : Addr} {o : O} {u : HO} (hp : H p = none) (ho : ∀ m', (∀ i, i < h.length → m' i = m i) → m' h.length = p → RelO G K m' (h.length + 1) (upd H p u) p o) :
    Post G K m h.length H (ext m h.length p) (h ++ [o]) (upd H p u) := by
  have ag : ∀ i, i < h.length → ext m h.length p i = m i := fun i hi => ext_ne (Nat.ne_of_lt hi)
  have tk : TK K H (upd H p u) := TK.upd_new hp
  refine ⟨ag, by simp, tk, ⟨?_, ?_, tabs_new r.tab hp⟩, ?_, fun a o e _ _ => by rw [upd_ne (ne_of_none e hp)]; exact e⟩
  · intro n o' e
    by_cases hn : n < h.length
    · rw [List.getElem?_append_left hn] at e
      rw [ag n hn]
      refine (r.obj n o' e).mono ag (by simp) tk ?_
      rw [upd_ne (r.ne hn hp)]
    · have : n = h.length := by
        have := (List.getElem?_eq_some_iff.mp e).1
        simp at this
        omega
      subst this
      simp at e
      subst e
      rw [ext_self]
      simpa using ho _ ag (ext_self _ _ _)
  · intro i j hi hj e
    simp at hi hj
    by_cases h1 : i < h.length
    · by_cases h2 : j < h.length
      · rw [ag i h1, ag j h2] at e
        exact r.inj i j h1 h2 e
      · have : j = h.length := by omega
        subst this
        rw [ag i h1, ext_self] at e
        exact absurd e (r.ne h1 hp)
    · have h1' : i = h.length := by omega
      subst h1'
      by_cases h2 : j < h.length
      · rw [ag j h2, ext_self] at e
        exact absurd e.symm (r.ne h2 hp)
      · omega
  · intro i h1 h2
    simp at h2
    have : i = h.length := by omega
    subst this
    rw [ext_self]; exact fun o e => by rw [hp] at e; cases e
/-- only a tuple more -/
theorem RelH.newT (r : RelH G K m h H) {p : Addr} {u : HO} (hp : H p = none) : Post G K m h.length H m h (upd H p u) := by
  have tk : TK K H (upd H p u) := TK.upd_new hp
  refine ⟨fun _ _ => rfl, Nat.le_refl _, tk, ⟨fun n o e => ?_, r.inj, tabs_new r.tab hp⟩, fun i h1 h2 => absurd h2 (Nat.not_lt.mpr h1), fun a o e _ _ => by rw [upd_ne (ne_of_none e hp)]; exact e⟩
  exact (r.obj n o e).mono (fun _ _ => rfl) (Nat.le_refl _) tk (by rw [upd_ne (r.ne (List.getElem?_eq_some_iff.mp e).1 hp)])
/-- an object turns -/
theorem RelH.upd (r : RelH G K m h H) {n : Nat} {o0 o : O} {u0 u : HO} (hn : h[n]? = some o0) (h0 : H (m n) = some u0) (nt : ∀ vs, u0 ≠ .tup vs) (nf : ∀ ob w, u0 ≠ .frz ob w)
    (ho : RelO G K m h.length (upd H (m n) u) (m n) o) : Post G K m h.length H m (h.set n o) (L2.upd H (m n) u) := by
  have hl := (List.getElem?_eq_some_iff.mp hn).1
  have tk : TK K H (L2.upd H (m n) u) := TK.upd_mut h0 nt nf
  have ob := r.obj n o0 hn
  have n1 : ∀ ps, u0 ≠ .tbl ps := fun ps z => by
    subst z
    cases o0 with
    | lst xs => obtain ⟨_, e, _⟩ := ob; rw [h0] at e; cases e
    | ins c fs => obtain ⟨_, _, e, _⟩ := ob; rw [h0] at e; cases e
    | dct kv => obtain ⟨_, e, _⟩ := ob; rw [h0] at e; cases e
  have n2 : ∀ φ, u0 ≠ .ext φ := fun ps z => by
    subst z
    cases o0 with
    | lst xs => obtain ⟨_, e, _⟩ := ob; rw [h0] at e; cases e
    | ins c fs => obtain ⟨_, _, e, _⟩ := ob; rw [h0] at e; cases e
    | dct kv => obtain ⟨_, e, _⟩ := ob; rw [h0] at e; cases e
  refine ⟨fun _ _ => rfl, by simp, tk, ⟨?_, ?_, tabs_upd r.tab h0 n1 n2⟩, fun i h1 h2 => ?_, fun a o e _ hx => by rw [upd_ne (Ne.symm (hx n hl))]; exact e⟩
  · intro k o' e
    rw [List.length_set]
    by_cases z : n = k
    · subst z
      rw [List.getElem?_set_self hl] at e
      cases e
      exact ho
    · rw [List.getElem?_set_ne z] at e
      refine (r.obj k o' e).mono (fun _ _ => rfl) (Nat.le_refl _) tk ?_
      rw [upd_ne fun q => z (r.inj n k hl (List.getElem?_eq_some_iff.mp e).1 q.symm)]
  · intro i j hi hj e
    rw [List.length_set] at hi hj
    exact r.inj i j hi hj e
  · rw [List.length_set] at h2
    exact absurd h2 (Nat.not_lt.mpr h1)
end

/-- an exception's own dict -/
def ExcAt (G : Gam) (K : PySem.W.Frag) (m : Nat → Addr) (N : Nat) (H : Hp) (fs : List (Nat × D)) (od : Option Addr) : Prop :=
  (fs = [] ∧ od = none) ∨ ∃ a vs, od = some a ∧ H a = some (.xd vs) ∧ RelFs G K m N H fs vs
/-- what an exception promises -/
def OutX (G : Gam) (K : PySem.W.Frag) (E : XK) (m : Nat → Addr) (N : Nat) (H : Hp) (c : Nat) (fs : List (Nat × D)) (h' : LH) : Prop :=
  ∀ m' H' od, Post G K m N H m' h' H' → ExcAt G K m' h'.length H' fs od → E (.ref (G.cl c)) od H'
/-- what an outcome promises -/
def Out (G : Gam) (K : PySem.W.Frag) (E : XK) (m : Nat → Addr) (N : Nat) (H : Hp) (Q : VK) : R D → Prop
  | .ok d h' => ∀ m' H' v, Post G K m N H m' h' H' → RelD K m' h'.length H' d v → Q v H'
  | .exc c fs h' => OutX G K E m N H c fs h'
  | .stuck => False
def OutA (G : Gam) (K : PySem.W.Frag) (E : XK) (m : Nat → Addr) (N : Nat) (H : Hp) (Q : List V → Hp → Prop) : R (List D) → Prop
  | .ok d h' => ∀ m' H' v, Post G K m N H m' h' H' → RelDs K m' h'.length H' d v → Q v H'
  | .exc c fs h' => OutX G K E m N H c fs h'
  | .stuck => False
def OutT (G : Gam) (K : PySem.W.Frag) (E : XK) (m : Nat → Addr) (N : Nat) (H : Hp) (Q : Bool → Hp → Prop) : R D → Prop
  | .ok d h' => ∃ b, truth d h' = some b ∧ ∀ m' H', Post G K m N H m' h' H' → Q b H'
  | .exc c fs h' => OutX G K E m N H c fs h'
  | .stuck => False
def OutS (G : Gam) (K : PySem.W.Frag) (E : XK) (m : Nat → Addr) (N : Nat) (H : Hp) (Z : Ends) : F → Prop
  | .nx r h' => ∀ m' H' s, Post G K m N H m' h' H' → RelS K m' h'.length H' r s → Z.nx s H'
  | .rt d h' => ∀ m' H' v, Post G K m N H m' h' H' → RelD K m' h'.length H' d v → Z.rt v H'
  | .bk r h' => ∀ m' H' s, Post G K m N H m' h' H' → RelS K m' h'.length H' r s → Z.bk s H'
  | .ct r h' => ∀ m' H' s, Post G K m N H m' h' H' → RelS K m' h'.length H' r s → Z.ct s H'
  | .exc c fs h' => OutX G K E m N H c fs h'
  | .stuck => False
section
variable {G : Gam} {K : PySem.W.Frag} {E : XK} {m m1 : Nat → Addr} {N : Nat} {H H1 : Hp} {h1 : LH}
theorem OutX.later {c : Nat} {fs : List (Nat × D)} {h' : LH} (a : Post G K m N H m1 h1 H1) (o : OutX G K E m N H c fs h') : OutX G K E m1 h1.length H1 c fs h' := fun m' H' od p e => o m' H' od (a.trans p) e
theorem Out.later {Q : VK} {r : R D} (a : Post G K m N H m1 h1 H1) (o : Out G K E m N H Q r) : Out G K E m1 h1.length H1 Q r := by
  cases r with
  | ok d h' => exact fun m' H' v p e => o m' H' v (a.trans p) e
  | exc c fs h' => exact OutX.later a o
  | stuck => exact o
theorem OutA.later {Q : List V → Hp → Prop} {r : R (List D)} (a : Post G K m N H m1 h1 H1) (o : OutA G K E m N H Q r) : OutA G K E m1 h1.length H1 Q r := by
  cases r with
  | ok d h' => exact fun m' H' v p e => o m' H' v (a.trans p) e
  | exc c fs h' => exact OutX.later a o
  | stuck => exact o
theorem OutT.later {Q : Bool → Hp → Prop} {r : R D} (a : Post G K m N H m1 h1 H1) (o : OutT G K E m N H Q r) : OutT G K E m1 h1.length H1 Q r := by
  cases r with
  | ok d h' =>
    obtain ⟨b, e, q⟩ := o
    exact ⟨b, e, fun m' H' p => q m' H' (a.trans p)⟩
  | exc c fs h' => exact OutX.later a o
  | stuck => exact o
theorem OutS.later {Z : Ends} {r : F} (a : Post G K m N H m1 h1 H1) (o : OutS G K E m N H Z r) : OutS G K E m1 h1.length H1 Z r := by
  cases r with
  | nx r h' => exact fun m' H' v p e => o m' H' v (a.trans p) e
  | rt r h' => exact fun m' H' v p e => o m' H' v (a.trans p) e
  | bk r h' => exact fun m' H' v p e => o m' H' v (a.trans p) e
  | ct r h' => exact fun m' H' v p e => o m' H' v (a.trans p) e
  | exc c fs h' => exact OutX.later a o
  | stuck => exact o
/-- the outcome of a bind -/
theorem Out.bindR {α : Type} {r : R α} {f : α → LH → R D} {Q : VK} (o : Out G K E m N H Q (r.bind f)) :
    (∃ a h1, r = .ok a h1 ∧ Out G K E m N H Q (f a h1)) ∨ ∃ c fs h1, r = .exc c fs h1 ∧ OutX G K E m N H c fs h1 := by
  cases r with
  | ok a h1 => exact .inl ⟨a, h1, rfl, o⟩
  | exc c fs h1 => exact .inr ⟨c, fs, h1, rfl, o⟩
  | stuck => exact False.elim o
theorem OutA.bindR {α : Type} {r : R α} {f : α → LH → R (List D)} {Q : List V → Hp → Prop} (o : OutA G K E m N H Q (r.bind f)) :
    (∃ a h1, r = .ok a h1 ∧ OutA G K E m N H Q (f a h1)) ∨ ∃ c fs h1, r = .exc c fs h1 ∧ OutX G K E m N H c fs h1 := by
  cases r with
  | ok a h1 => exact .inl ⟨a, h1, rfl, o⟩
  | exc c fs h1 => exact .inr ⟨c, fs, h1, rfl, o⟩
  | stuck => exact False.elim o
theorem OutT.bindR {α : Type} {r : R α} {f : α → LH → R D} {Q : Bool → Hp → Prop} (o : OutT G K E m N H Q (r.bind f)) :
    (∃ a h1, r = .ok a h1 ∧ OutT G K E m N H Q (f a h1)) ∨ ∃ c fs h1, r = .exc c fs h1 ∧ OutX G K E m N H c fs h1 := by
  cases r with
  | ok a h1 => exact .inl ⟨a, h1, rfl, o⟩
  | exc c fs h1 => exact .inr ⟨c, fs, h1, rfl, o⟩
  | stuck => exact False.elim o
theorem OutS.toR {α : Type} {r : R α} {f : α → LH → F} {Z : Ends} (o : OutS G K E m N H Z (r.to f)) :
    (∃ a h1, r = .ok a h1 ∧ OutS G K E m N H Z (f a h1)) ∨ ∃ c fs h1, r = .exc c fs h1 ∧ OutX G K E m N H c fs h1 := by
  cases r with
  | ok a h1 => exact .inl ⟨a, h1, rfl, o⟩
  | exc c fs h1 => exact .inr ⟨c, fs, h1, rfl, o⟩
  | stuck => exact False.elim o
end
section
variable (G : Gam) (K : PySem.W.Frag) (E : XK)
def tE (f : EX) : TE := fun σ H Q => ∃ m r h, RelH G K m h H ∧ RelS K m h.length H r σ ∧ Out G K E m h.length H Q (f r h)
def tA (f : AX) : TA := fun σ H Q => ∃ m r h, RelH G K m h H ∧ RelS K m h.length H r σ ∧ OutA G K E m h.length H Q (f r h)
def tT (f : EX) : TT := fun σ H Q => ∃ m r h, RelH G K m h H ∧ RelS K m h.length H r σ ∧ OutT G K E m h.length H Q (f r h)
def tS (f : SX) : TS := fun Z σ H => ∃ m r h, RelH G K m h H ∧ RelS K m h.length H r σ ∧ OutS G K E m h.length H Z (f r h)
def tG (g : GX) : TG := fun v σ H Q => ∃ m r h d, RelH G K m h H ∧ RelS K m h.length H r σ ∧ RelD K m h.length H d v ∧ OutS G K E m h.length H { nx := Q, rt := fun _ _ => False } (g d r h)
def tGs (g : GXs) : TGs := fun vs σ H Q => ∃ m r h ds, RelH G K m h H ∧ RelS K m h.length H r σ ∧ RelDs K m h.length H ds vs ∧ OutS G K E m h.length H { nx := Q, rt := fun _ _ => False } (g ds r h)
/-- an operator by values -/
def r2 (op : D → D → LH → R D) : R2 := fun x y H Q => ∃ m h dx dy, RelH G K m h H ∧ RelD K m h.length H dx x ∧ RelD K m h.length H dy y ∧ Out G K E m h.length H Q (op dx dy h)
def r1 (op : D → LH → R D) : V → Hp → VK → Prop := fun x H Q => ∃ m h dx, RelH G K m h H ∧ RelD K m h.length H dx x ∧ Out G K E m h.length H Q (op dx h)
def rA (op : List D → LH → R D) : List V → Hp → VK → Prop := fun xs H Q => ∃ m h ds, RelH G K m h H ∧ RelDs K m h.length H ds xs ∧ Out G K E m h.length H Q (op ds h)
end
/-! ### consequence -/
theorem PE_mono {X : Cx} {e : Expr} {t t' : TE} (a : PE X e t) (h : ∀ σ H Q, t' σ H Q → t σ H Q) : PE X e t' := ⟨fun pins s σ H Q I q => a.run pins s σ H Q I (h _ _ _ q)⟩
theorem PT_mono {X : Cx} {e : Expr} {t t' : TT} (a : PT X e t) (h : ∀ σ H Q, t' σ H Q → t σ H Q) : PT X e t' := ⟨fun pins s σ H Q I q => a.run pins s σ H Q I (h _ _ _ q)⟩
theorem PW_mono {X : Cx} {e : Expr} {t t' : TT} (a : PW X e t) (h : ∀ σ H Q, t' σ H Q → t σ H Q) : PW X e t' := ⟨fun w pins s σ H Q I q => a.run w pins s σ H Q I (h _ _ _ q)⟩
theorem PA_mono {X : Cx} {e : List Expr} {t t' : TA} (a : PA X e t) (h : ∀ σ H Q, t' σ H Q → t σ H Q) : PA X e t' := ⟨fun w pins s σ H Q I q => a.run w pins s σ H Q I (h _ _ _ q)⟩
theorem PS_mono {X : Cx} {e : Stmt} {t t' : TS} (a : PS X e t) (h : ∀ E σ H, t' E σ H → t E σ H) : PS X e t' := ⟨fun pins s σ H E I q => a.run pins s σ H E I (h _ _ _ q)⟩
theorem PSs_mono {X : Cx} {e : List Stmt} {t t' : TS} (a : PSs X e t) (h : ∀ E σ H, t' E σ H → t E σ H) : PSs X e t' := ⟨fun pins s σ H E I q => a.run pins s σ H E I (h _ _ _ q)⟩
theorem PG_mono {X : Cx} {e : Expr} {t t' : TG} (a : PG X e t) (h : ∀ v σ H Q, t' v σ H Q → t v σ H Q) : PG X e t' := ⟨fun pins s σ H v u Q I r q => a.run pins s σ H v u Q I r (h _ _ _ _ q)⟩
theorem PGs_mono {X : Cx} {e : List Expr} {t t' : TGs} (a : PGs X e t) (h : ∀ v σ H Q, t' v σ H Q → t v σ H Q) : PGs X e t' := ⟨fun pins s σ H v u Q I r q => a.run pins s σ H v u Q I r (h _ _ _ _ q)⟩
end Py

namespace Py
open PySem PySem.Spec PyProof.Rows L2
/-! ### new tuples, kept as objects -/
section
variable {X : Cx} {es : List Expr} {pos : Pos} {t : TA}
def tupO (us : List Value) : Obj := { cls := .type "tuple", data := .seq us.toArray }
theorem tup_laid {pins : List (Addr × Obj)} {σ : L2.St} {H : Hp} {s : Shared} {xs : List V} {us : List Value} (I : Inv X pins σ H s) (r : Vals xs us) (z : xs.length ≤ sizeLine) :
    Inv X pins σ (upd H s.heap.objs.size (.frz (tupO us) (.tup xs))) { s with heap := s.heap.push (tupO us) } :=
  I.laid (t' := s.toks) (o := .frz (tupO us) (.tup xs)) (fun b u e => Heap.get?_push_of_some _ e) (Nat.le_refl _) ⟨Heap.get?_push_size _ rfl, z, us, r, ⟨_, Heap.get?_push_size _ rfl, rfl, _, rfl⟩⟩
theorem sx_new {K : PySem.W.Frag} {H : Hp} {p : Addr} {o : Obj} {xs : List V} (ho : o.dict = none) : SqX K (upd H p (.frz o (.tup xs))) p xs := ⟨.inl (.inr ⟨o, upd_same⟩), .inl (.inl ⟨o, _, upd_same, ho⟩)⟩
def tTupF (t : TA) : TE := fun σ H Q => t σ H fun xs H1 => xs.length ≤ sizeLine ∧ ∀ (p : Addr) (o : Obj), H1 p = none → o.dict = none → Q (.ref p) (upd H1 p (.frz o (.tup xs)))
theorem pe_tupF {x1} (h : PA X es t) : PE X (.Tuple es x1 pos) (tTupF t) := by
  refine ⟨fun pins s σ H Q I hq => ?_⟩
  refine wpAny_Tuple_spliced (thn (h.run pos pins s σ H _ I hq) fun us s1 ⟨xs, H1, I1, r, z, q⟩ => ⟨by rw [← r.length]; exact z, ?_⟩)
  exact ⟨.ref s1.heap.objs.size, _, tup_laid I1 r z, rfl, q _ _ (I1.hok.fresh (Nat.le_refl _)) rfl⟩
def rCatF (K : PySem.W.Frag) : R2 := fun x y H Q => ∃ a b xs ys, x = .ref a ∧ y = .ref b ∧ SqT K H a xs ∧ SqT K H b ys ∧ xs.length + ys.length ≤ sizeLine ∧
  (xs = [] → Q (.ref b) H) ∧ (xs ≠ [] → ys = [] → Q (.ref a) H) ∧ (∀ (p : Addr) (o : Obj), H p = none → o.dict = none → Q (.ref p) (upd H p (.frz o (.tup (xs ++ ys)))))
theorem op_catF : OpR X (binaryOp .Add) (rCatF X.K) := by
  intro pins s σ H x y v u Q I rx ry h
  obtain ⟨a, b, xs, ys, rfl, rfl, ha, hb, hz, q0, q1, q2⟩ := h
  cases rx
  cases ry
  obtain ⟨its, r1, p1, _⟩ := I.tuple ha
  obtain ⟨its2, r2, p2, _⟩ := I.tuple hb
  by_cases hx : xs = []
  · subst hx
    cases r1
    exact cat_tup0 p1 p2 ⟨.ref b, H, I, rfl, q0 rfl⟩
  · refine HT.cat_tup p1 p2 (fun z => hx (r1.nil_iff.mp z)) (fun z => ⟨.ref a, H, I, rfl, q1 hx (r2.nil_iff.mp z)⟩) (fun z => ?_) (by rw [← r1.length, ← r2.length]; exact hz)
    exact ⟨.ref s.heap.objs.size, _, tup_laid I (r1.append r2) (by rw [List.length_append]; exact hz), rfl, q2 _ _ (I.hok.fresh (Nat.le_refl _)) rfl⟩
def rSlF (K : PySem.W.Frag) : V → Option Int → Option Int → Hp → VK → Prop := fun x lo hi H Q => ∃ a xs, x = .ref a ∧ SqT K H a xs ∧
  (HT.sIx xs.length 0 lo = 0 ∧ HT.sIx xs.length xs.length hi = xs.length → Q (.ref a) H) ∧ (∀ (p : Addr) (o : Obj), H p = none → o.dict = none → Q (.ref p) (upd H p (.frz o (.tup (cutV xs lo hi)))))
theorem sl_tupF : SlR X (rSlF X.K) := by
  intro pins s σ H x v vl vu lo hi sl Q I rx hs pl pu h
  obtain ⟨a, xs, rfl, hx, q1, q2⟩ := h
  cases rx
  obtain ⟨its, r, ht, hz⟩ := I.tuple hx
  have hlen : its.toArray.size = xs.length := by rw [List.size_toArray]; exact r.length.symm
  refine ⟨"tuple", _, PyProof.Rows.slot_tuple_getitem.lookup, ht.typeIs, ?_⟩
  by_cases hw : HT.sIx xs.length 0 lo = 0 ∧ HT.sIx xs.length xs.length hi = xs.length
  · exact getItem_tuple_whole ht hs pl pu (by rw [hlen]; exact hw) ⟨.ref a, H, I, rfl, q1 hw⟩
  · refine HT.getItem_tuple_cut ht hs pl pu (by rw [hlen]; exact hw) ?_ (by rw [hlen]; exact hz)
    rw [hlen]
    exact ⟨.ref s.heap.objs.size, _, tup_laid I ((r.drop (HT.sIx xs.length 0 lo)).take (HT.sIx xs.length xs.length hi - HT.sIx xs.length 0 lo)) (Nat.le_trans (cutV_length xs lo hi) hz), rfl, q2 _ _ (I.hok.fresh (Nat.le_refl _)) rfl⟩
theorem call_tupleF : CallR X (.type "tuple") (fun xs H Q => ∃ p ys, xs = [.ref p] ∧ ((SqL X.K H p ys ∧ ∀ (l : Addr) (o : Obj), H l = none → o.dict = none → Q (.ref l) (upd H l (.frz o (.tup ys)))) ∨ (SqT X.K H p ys ∧ Q (.ref p) H))) := by
  intro pins s σ H xs us Q I r h
  obtain ⟨p, ys, rfl, h⟩ := h
  obtain ⟨u, rfl, rx⟩ := vals1 r
  cases rx
  rcases h with ⟨hq, q⟩ | ⟨hq, q⟩
  · obtain ⟨its, r', pl, hz⟩ := I.list hq
    have hlen := r'.length
    refine call_tuple_list pl.isList (fun h' kp => ?_) (by simp only [List.size_toArray] <;> omega)
    have I1 : Inv X pins σ H { s with heap := h' } := I.kept (t' := s.toks) kp
    exact ⟨.ref h'.objs.size, _, tup_laid I1 r' hz, rfl, q _ _ (I1.hok.fresh (Nat.le_refl _)) rfl⟩
  · obtain ⟨its, r', pl, hz⟩ := I.tuple hq
    exact call_tuple_same pl ⟨.ref p, H, I, rfl, q⟩
end
end Py

set_option Elab.async false
set_option linter.all false
set_option maxRecDepth 100000
namespace Py
open PySem PySem.Spec L2
section
variable {X : Cx} {G : Gam} {E : XK}
/-! ### names, constants -/
theorem xV (i : Nat) {x : Str} {pos : Pos} (hN : X.N[i]? = some x := by rfl) (hv : Vis X.env.scope x := by first | exact Or.inl rfl | exact Or.inr (Or.inl rfl) | exact Or.inr (Or.inr rfl)) (hd : (x == ("__debug__" : Str)) = false := by decide)
    (hcd : (x == ("__classdict__" : Str)) = false := by decide) : PE X (.Name x pos) (tE G X.K E (eV i)) := by
  refine PE_mono (pe_var hN hv hd hcd) fun σ H Q ⟨m, r, h, rh, rs, o⟩ => ?_
  unfold eV at o
  cases q : r[i]? with
  | none => rw [q] at o; exact False.elim o
  | some w =>
    cases w with
    | none => rw [q] at o; exact False.elim o
    | some d =>
      rw [q] at o
      obtain ⟨v, e, rd⟩ := rs.get q
      exact ⟨v, e, o m H v (Post.refl rh) rd⟩
theorem xK {d : D} {v : V} {e : Expr} (he : PE X e (tC v)) (hd : ∀ m N H, RelD X.K m N H d v) : PE X e (tE G X.K E (eC d)) :=
  PE_mono he fun σ H Q ⟨m, r, h, rh, rs, o⟩ => o m H v (Post.refl rh) (hd _ _ _)
theorem xInt {i j pos} : PE X (.Constant (.int i) j pos) (tE G X.K E (eC (.int i))) := xK pe_int fun _ _ _ => .int i
theorem xBl {b j pos} : PE X (.Constant (.bool b) j pos) (tE G X.K E (eC (.bl b))) := xK pe_bl fun _ _ _ => .bl b
theorem xNon {j pos} : PE X (.Constant .none j pos) (tE G X.K E (eC .non)) := xK pe_non fun _ _ _ => .non
theorem xStr {x j pos} : PE X (.Constant (.str x) j pos) (tE G X.K E (eC (.str x))) := xK pe_str fun _ _ _ => .str x
theorem xGlob {x : Str} {d : D} {v : V} {u : Value} {pos : Pos} (hg : Gl X x) (hm : X.mg x = some u) (r : RelV v u) (hd : ∀ m N H, RelD X.K m N H d v) (hb : (x == ("__debug__" : Str)) = false := by decide) : PE X (.Name x pos) (tE G X.K E (eC d)) :=
  xK (pe_glob hg hm r hb) hd
/-! ### operators -/
theorem toOp {f : D → D → LH → R D} {fa fb : EX} {σ : St} {H : Hp} {Q : VK} (t : tE G X.K E (e2 f fa fb) σ H Q) : tOp (r2 G X.K E f) (tE G X.K E fa) (tE G X.K E fb) σ H Q := by
  obtain ⟨m, r, h, rh, rs, o⟩ := t
  refine ⟨m, r, h, rh, rs, ?_⟩
  rcases Out.bindR o with ⟨x, h1, e, o⟩ | ⟨c, fs, h1, e, o⟩
  · rw [e]
    intro m1 H1 v p1 d1
    refine ⟨m1, r, h1, p1.rel, p1.s rs, ?_⟩
    rcases Out.bindR o with ⟨y, h2, e, o⟩ | ⟨c, fs, h2, e, o⟩
    · rw [e]
      intro m2 H2 w p2 d2
      exact ⟨m2, h2, x, y, p2.rel, p2.d d1, d2, Out.later (p1.trans p2) o⟩
    · rw [e]; exact OutX.later p1 o
  · rw [e]; exact o
theorem x2 {op : Operator} {f : D → D → LH → R D} {a b : Expr} {fa fb : EX} {pos : Pos} (ho : OpR X (binaryOp op) (r2 G X.K E f)) (ha : PE X a (tE G X.K E fa)) (hb : PE X b (tE G X.K E fb)) : PE X (.BinOp a op b pos) (tE G X.K E (e2 f fa fb)) :=
  PE_mono (pe_op ho ha hb) fun σ H Q t => toOp t
theorem xCmp {op : CmpOp} {f : D → D → LH → R D} {a b : Expr} {fa fb : EX} {pos : Pos} (ho : OpR X (compareOp op) (r2 G X.K E f)) (ha : PE X a (tE G X.K E fa)) (hb : PE X b (tE G X.K E fb)) (hm : behindInMarks op b = false) : PE X (.Compare a [op] [b] pos) (tE G X.K E (e2 f fa fb)) :=
  PE_mono (pe_cmpR ho ha hb hm) fun σ H Q t => toOp t
/-- yields bools alone -/
def IsB (f : EX) : Prop := ∀ r h d h', f r h = .ok d h' → ∃ k, d = .bl k
theorem toTest {f : EX} (hb : IsB f) {σ : St} {H : Hp} {Q : Bool → Hp → Prop} (t : tT G X.K E f σ H Q) : tTest (tE G X.K E f) σ H Q := by
  obtain ⟨m, r, h, rh, rs, o⟩ := t
  refine ⟨m, r, h, rh, rs, ?_⟩
  cases q : f r h with
  | ok d h' =>
    rw [q] at o
    obtain ⟨k, rfl⟩ := hb _ _ _ _ q
    obtain ⟨b', e, o⟩ := o
    cases e
    intro m' H' v p d
    cases d
    exact ⟨_, rfl, o m' H' p⟩
  | exc c fs h' => rw [q] at o; exact o
  | stuck => rw [q] at o; exact o
def IsB2 (f : D → D → LH → R D) : Prop := ∀ x y h d h', f x y h = .ok d h' → ∃ k, d = .bl k
theorem IsB2.ex {f : D → D → LH → R D} {fa fb : EX} (b : IsB2 f) : IsB (e2 f fa fb) := fun r h d h' e => by
  unfold e2 at e
  cases q : fa r h with
  | ok x h1 =>
    rw [q] at e
    cases q2 : fb r h1 with
    | ok y h2 => rw [R.bind_ok, q2] at e; exact b _ _ _ _ _ e
    | exc c fs h2 => rw [R.bind_ok, q2] at e; cases e
    | stuck => rw [R.bind_ok, q2] at e; cases e
  | exc c fs h1 => rw [q] at e; cases e
  | stuck => rw [q] at e; cases e
theorem yCmp {op : CmpOp} {f : D → D → LH → R D} {a b : Expr} {fa fb : EX} {pos : Pos} (ho : OpR X (compareOp op) (r2 G X.K E f)) (hf : IsB2 f) (ha : PE X a (tE G X.K E fa)) (hb : PE X b (tE G X.K E fb)) (hm : behindInMarks op b = false) : PT X (.Compare a [op] [b] pos) (tT G X.K E (e2 f fa fb)) :=
  PT_mono (pt_cmpR ho ha hb hm) fun σ H Q t => by
    obtain ⟨m, r, h, rh, rs, o⟩ := toTest hf.ex t
    exact toOp ⟨m, r, h, rh, rs, o⟩
/-! ### truth -/
/-- a value as a test -/
def NoS (f : EX) : Prop := ∀ r h x h', f r h = .ok (.str x) h' → x.length ≤ sizeLine
/-! ### and, or, not -/
variable {a b : Expr} {fa fb : EX} {pos : Pos} {rest : List Expr}
theorem yNot (ha : PT X a (tT G X.K E fa)) : PT X (.UnaryOp .Not a pos) (tT G X.K E (eNot fa)) :=
  PT_mono (pt_not ha) fun σ H Q ⟨m, r, h, rh, rs, o⟩ => by
    refine ⟨m, r, h, rh, rs, ?_⟩
    rcases OutT.bindR o with ⟨x, h1, e, o⟩ | ⟨c, fs, h1, e, o⟩
    · rw [e]
      cases q : truth x h1 with
      | none => simp only [q] at o; exact False.elim o
      | some k =>
        simp only [q] at o
        obtain ⟨b, e, o⟩ := o
        cases e
        exact ⟨k, q, o⟩
    · rw [e]; exact o
theorem toAnd {σ : St} {H : Hp} {Q : Bool → Hp → Prop} (t : tT G X.K E (eAnd fa fb) σ H Q) : tAnd (tT G X.K E fa) (tT G X.K E fb) σ H Q := by
  obtain ⟨m, r, h, rh, rs, o⟩ := t
  refine ⟨m, r, h, rh, rs, ?_⟩
  rcases OutT.bindR o with ⟨x, h1, e, o⟩ | ⟨c, fs, h1, e, o⟩
  · rw [e]
    cases q : truth x h1 with
    | none => simp only [q] at o; exact False.elim o
    | some k =>
      simp only [q] at o
      refine ⟨k, q, fun m1 H1 p => ?_⟩
      cases k with
      | true => exact iteT ⟨m1, r, h1, p.rel, p.s rs, OutT.later p o⟩
      | false =>
        obtain ⟨b, e, o⟩ := o
        rw [q] at e
        cases e
        exact iteF (o m1 H1 p)
  · rw [e]; exact o
theorem toOr {σ : St} {H : Hp} {Q : Bool → Hp → Prop} (t : tT G X.K E (eOr fa fb) σ H Q) : tOr (tT G X.K E fa) (tT G X.K E fb) σ H Q := by
  obtain ⟨m, r, h, rh, rs, o⟩ := t
  refine ⟨m, r, h, rh, rs, ?_⟩
  rcases OutT.bindR o with ⟨x, h1, e, o⟩ | ⟨c, fs, h1, e, o⟩
  · rw [e]
    cases q : truth x h1 with
    | none => simp only [q] at o; exact False.elim o
    | some k =>
      simp only [q] at o
      refine ⟨k, q, fun m1 H1 p => ?_⟩
      cases k with
      | false => exact iteF ⟨m1, r, h1, p.rel, p.s rs, OutT.later p o⟩
      | true =>
        obtain ⟨b, e, o⟩ := o
        rw [q] at e
        cases e
        exact iteT (o m1 H1 p)
  · rw [e]; exact o
theorem wOne (ha : PT X a (tT G X.K E fa)) : PW X (.BoolOp .And [a] pos) (tT G X.K E fa) := pw_and1 ha
theorem wOneO (ha : PT X a (tT G X.K E fa)) : PW X (.BoolOp .Or [a] pos) (tT G X.K E fa) := pw_or1 ha
theorem wAnd (ha : PT X a (tT G X.K E fa)) (hb : PW X (.BoolOp .And (b :: rest) pos) (tT G X.K E fb)) : PW X (.BoolOp .And (a :: b :: rest) pos) (tT G X.K E (eAnd fa fb)) := PW_mono (pw_and ha hb) fun _ _ _ t => toAnd t
theorem wOr (ha : PT X a (tT G X.K E fa)) (hb : PW X (.BoolOp .Or (b :: rest) pos) (tT G X.K E fb)) : PW X (.BoolOp .Or (a :: b :: rest) pos) (tT G X.K E (eOr fa fb)) := PW_mono (pw_or ha hb) fun _ _ _ t => toOr t
/-! as values -/
theorem xOne {op : BoolOp} (ha : PE X a (tE G X.K E fa)) : PE X (.BoolOp op [a] pos) (tE G X.K E fa) := pe_one ha
theorem xIf {c : Expr} {fc : EX} (hc : PT X c (tT G X.K E fc)) (ha : PE X a (tE G X.K E fa)) (hb : PE X b (tE G X.K E fb)) : PE X (.IfExp c a b pos) (tE G X.K E (eIf fc fa fb)) :=
  PE_mono (pe_ifExp hc ha hb) fun σ H Q ⟨m, r, h, rh, rs, o⟩ => by
    refine ⟨m, r, h, rh, rs, ?_⟩
    rcases Out.bindR o with ⟨x, h1, e, o⟩ | ⟨c, fs, h1, e, o⟩
    · rw [e]
      cases q : truth x h1 with
      | none => simp only [q] at o; exact False.elim o
      | some k =>
        simp only [q] at o
        refine ⟨k, q, fun m1 H1 p => ?_⟩
        cases k with
        | true => exact iteT ⟨m1, r, h1, p.rel, p.s rs, Out.later p o⟩
        | false => exact iteF ⟨m1, r, h1, p.rel, p.s rs, Out.later p o⟩
    · rw [e]; exact o
/-! ### arguments, displays -/
theorem xaNil : PA X [] (tA G X.K E aNil) := PA_mono pa_nil fun σ H Q ⟨m, r, h, rh, rs, o⟩ => o m H [] (Post.refl rh) .nil
theorem xaCons {es : List Expr} {fs : AX} (ha : PE X a (tE G X.K E fa)) (hr : PA X es (tA G X.K E fs)) (hs : starEach (a :: es) X.env = (false, eval a X.env) :: starEach es X.env := by rfl) : PA X (a :: es) (tA G X.K E (aCons fa fs)) :=
  PA_mono (pa_cons ha hr hs) fun σ H Q ⟨m, r, h, rh, rs, o⟩ => by
    refine ⟨m, r, h, rh, rs, ?_⟩
    rcases OutA.bindR o with ⟨x, h1, e, o⟩ | ⟨c, fs, h1, e, o⟩
    · rw [e]
      intro m1 H1 v p1 d1
      refine ⟨m1, r, h1, p1.rel, p1.s rs, ?_⟩
      rcases OutA.bindR o with ⟨y, h2, e, o⟩ | ⟨c, fs, h2, e, o⟩
      · rw [e]
        intro m2 H2 w p2 d2
        exact o m2 H2 _ (p1.trans p2) (.cons (p2.d d1) d2)
      · rw [e]; exact OutX.later p1 o
    · rw [e]; exact o
/-- an operation on all arguments -/
theorem toA {op : List D → LH → R D} {fs : AX} {rd : List V → Hp → VK → Prop} (hr : ∀ xs H Q, rA G X.K E op xs H Q → rd xs H Q) {σ : St} {H : Hp} {Q : VK} (t : tE G X.K E (eA op fs) σ H Q) : tA G X.K E fs σ H (fun vs H1 => rd vs H1 Q) := by
  obtain ⟨m, r, h, rh, rs, o⟩ := t
  refine ⟨m, r, h, rh, rs, ?_⟩
  rcases Out.bindR o with ⟨x, h1, e, o⟩ | ⟨c, fs, h1, e, o⟩
  · rw [e]
    intro m1 H1 v p1 d1
    exact hr _ _ _ ⟨m1, h1, x, p1.rel, d1, Out.later p1 o⟩
  · rw [e]; exact o
theorem xTup {es : List Expr} {fs : AX} {x1 : Nat} (h : PA X es (tA G X.K E fs)) : PE X (.Tuple es x1 pos) (tE G X.K E (eTup fs)) :=
  PE_mono (pe_tupF h) fun σ H Q t => toA (rd := fun xs H1 Q => xs.length ≤ sizeLine ∧ ∀ (p : Addr) (o : Obj), H1 p = none → o.dict = none → Q (.ref p) (upd H1 p (.frz o (.tup xs)))) (fun xs H Q ⟨m, h, ds, rh, rd, o⟩ => by
    by_cases hz : ds.length ≤ sizeLine
    · simp only [if_pos hz] at o
      refine ⟨by rw [← rd.length]; exact hz, fun p ob hp hd => ?_⟩
      have q := rh.newT (u := .frz ob (.tup xs)) hp
      exact o m _ _ q (.tup (sx_new hd) (q.ds rd))
    · simp only [if_neg hz] at o; exact False.elim o) t
theorem xLst {es : List Expr} {fs : AX} (h : PA X es (tA G X.K E fs)) : PE X (.List es pos) (tE G X.K E (eLst fs)) :=
  PE_mono (pe_lst h) fun σ H Q t => toA (rd := fun xs H1 Q => xs.length ≤ sizeLine ∧ ∀ p, H1 p = none → Q (.ref p) (upd H1 p (.lst xs))) (fun xs H Q ⟨m, h, ds, rh, rd, o⟩ => by
    by_cases hz : ds.length ≤ sizeLine
    · simp only [if_pos hz] at o
      refine ⟨by rw [← rd.length]; exact hz, fun p hp => ?_⟩
      have q := rh.new (o := .lst ds) (u := .lst xs) hp (fun m' ag e => ⟨xs, upd_same, rd.mono ag (Nat.le_succ _) (TK.upd_new hp)⟩)
      have z : RelD X.K (ext m h.length p) (h ++ [O.lst ds]).length (upd H p (.lst xs)) (.ref h.length) (.ref (ext m h.length p h.length)) := .ref (by simp)
      rw [ext_self] at z
      exact o _ _ _ q z
    · simp only [if_neg hz] at o; exact False.elim o) t
/-! ### statements -/
theorem zNil : PSs X [] (tS G X.K E sNil) := PSs_mono pss_nil fun Z σ H ⟨m, r, h, rh, rs, o⟩ => o m H σ (Post.refl rh) rs
theorem zCons {st : Stmt} {sts : List Stmt} {f g : SX} (h1 : PS X st (tS G X.K E f)) (h2 : PSs X sts (tS G X.K E g)) : PSs X (st :: sts) (tS G X.K E (sSeq f g)) :=
  PSs_mono (pss_cons h1 h2) fun Z σ H ⟨m, r, h, rh, rs, o⟩ => by
    refine ⟨m, r, h, rh, rs, ?_⟩
    unfold sSeq at o
    cases q : f r h with
    | nx r1 h1 =>
      rw [q] at o
      intro m1 H1 s1 p1 q1
      exact ⟨m1, r1, h1, p1.rel, q1, OutS.later p1 o⟩
    | rt d h1 => rw [q] at o; exact o
    | bk r1 h1 => rw [q] at o; exact o
    | ct r1 h1 => rw [q] at o; exact o
    | exc c fs h1 => rw [q] at o; exact o
    | stuck => rw [q] at o; exact o
theorem zE (ha : PE X a (tE G X.K E fa)) (hs : swapsWith a none pos.line X.env = pure false := by rfl) : PS X (.Expr a pos) (tS G X.K E (sE fa)) :=
  PS_mono (ps_expr ha hs) fun Z σ H ⟨m, r, h, rh, rs, o⟩ => by
    refine ⟨m, r, h, rh, rs, ?_⟩
    rcases OutS.toR o with ⟨x, h1, e, o⟩ | ⟨c, fs, h1, e, o⟩
    · rw [e]
      intro m1 H1 v p d
      exact o m1 H1 σ p (p.s rs)
    · rw [e]; exact o
theorem zRet (ha : PE X a (tE G X.K E fa)) : PS X (.Return (some a) pos) (tS G X.K E (sRet fa)) :=
  PS_mono (ps_ret ha) fun Z σ H ⟨m, r, h, rh, rs, o⟩ => by
    refine ⟨m, r, h, rh, rs, ?_⟩
    rcases OutS.toR o with ⟨x, h1, e, o⟩ | ⟨c, fs, h1, e, o⟩
    · rw [e]; exact o
    · rw [e]; exact o
theorem zIf {c : Expr} {fc : EX} {x y : List Stmt} {f g : SX} (hc : PT X c (tT G X.K E fc)) (hx : PSs X x (tS G X.K E f)) (hy : PSs X y (tS G X.K E g)) : PS X (.If c x y pos) (tS G X.K E (sIf fc f g)) :=
  PS_mono (ps_if hc hx hy) fun Z σ H ⟨m, r, h, rh, rs, o⟩ => by
    refine ⟨m, r, h, rh, rs, ?_⟩
    rcases OutS.toR o with ⟨x, h1, e, o⟩ | ⟨c, fs, h1, e, o⟩
    · rw [e]
      cases q : truth x h1 with
      | none => simp only [q] at o; exact False.elim o
      | some k =>
        simp only [q] at o
        refine ⟨k, q, fun m1 H1 p => ?_⟩
        cases k with
        | true => exact iteT ⟨m1, r, h1, p.rel, p.s rs, OutS.later p o⟩
        | false => exact iteF ⟨m1, r, h1, p.rel, p.s rs, OutS.later p o⟩
    · rw [e]; exact o
/-- code that is never reached -/
theorem zNever {st : Stmt} : PS X st (tS G X.K E (fun _ _ => .stuck)) := PS_mono ps_never fun Z σ H ⟨m, r, h, rh, rs, o⟩ => o
/-! ### targets -/
theorem gName_ok {i : Nat} {x : Str} (hN : X.N.Nodup) (hi : X.N[i]? = some x) (hx : Loc X.env.scope x) (hf : X.fn x = true ∨ X.env.scope.names.lookup x = some .local := by first | exact .inl rfl | exact .inr rfl | assumption) : PG X (.Name x pos) (tG G X.K E (gN i)) :=
  PG_mono (pg_name hN hi hx hf) fun v σ H Q ⟨m, r, h, d, rh, rs, rd, o⟩ => o m H _ (Post.refl rh) (RelS.set rd i rs)
theorem gsNil_ok : PGs X [] (tGs G X.K E gsNil) := PGs_mono pgs_nil fun v σ H Q ⟨m, r, h, ds, rh, rs, rd, o⟩ => by
  cases rd with
  | nil => exact ⟨rfl, o m H σ (Post.refl rh) rs⟩
  | cons a b => exact False.elim o
theorem gsCons_ok {es : List Expr} {g : GX} {gs : GXs} (h1 : PG X a (tG G X.K E g)) (h2 : PGs X es (tGs G X.K E gs)) (hs : (assignEach (a :: es) X.env).map (·.2) = assign a X.env :: (assignEach es X.env).map (·.2) := by rfl) : PGs X (a :: es) (tGs G X.K E (gsCons g gs)) :=
  PGs_mono (pgs_cons h1 h2 hs) fun vs σ H Q ⟨m, r, h, ds, rh, rs, rd, o⟩ => by
    cases rd with
    | nil => exact False.elim o
    | @cons d v ds vs rd rds =>
      refine ⟨v, vs, rfl, m, r, h, d, rh, rs, rd, ?_⟩
      simp only [gsCons] at o
      cases q : g d r h with
      | nx r1 h1 =>
        rw [q] at o
        intro m1 H1 s1 p1 q1
        exact ⟨m1, r1, h1, ds, p1.rel, q1, p1.ds rds, OutS.later p1 o⟩
      | rt d h1 => rw [q] at o; exact o
      | bk r1 h1 => rw [q] at o; exact o
      | ct r1 h1 => rw [q] at o; exact o
      | exc c fs h1 => rw [q] at o; exact o
      | stuck => rw [q] at o; exact o
theorem gT_ok {es : List Expr} {k n : Nat} {gs : GXs} (hc : X.calm = true) (h : PGs X es (tGs G X.K E gs)) (hn : (assignEach es X.env).length = n := by rfl) (hst : (assignEach es X.env).findIdx? (·.1) = none := by rfl) : PG X (.Tuple es k pos) (tG G X.K E (gT n gs)) :=
  PG_mono (pg_tup hc h hn hst) fun v σ H Q ⟨m, r, h, d, rh, rs, rd, o⟩ => by
    cases rd with
    | non => exact False.elim o
    | bl _ => exact False.elim o
    | int _ => exact False.elim o
    | str _ => exact False.elim o
    | ref _ => exact False.elim o
    | scr _ => exact False.elim o
    | fn _ => exact False.elim o
    | @tup a xs vs ht rds =>
      simp only [gT] at o
      by_cases hl : xs.length = n
      · rw [if_pos hl] at o
        exact ⟨a, vs, rfl, ht.sq, by rw [← rds.length]; exact hl, m, r, h, xs, rh, rs, rds, o⟩
      · rw [if_neg hl] at o; exact False.elim o
theorem toAsg {g : GX} {Z : Ends} {σ : St} {H : Hp} (t : tS G X.K E (sAsg fa g) Z σ H) (hg : ∀ d r h, match g d r h with | .rt _ _ => False | .bk _ _ => False | .ct _ _ => False | _ => True) : tAsg (tE G X.K E fa) (tG G X.K E g) Z σ H := by
  obtain ⟨m, r, h, rh, rs, o⟩ := t
  refine ⟨m, r, h, rh, rs, ?_⟩
  rcases OutS.toR o with ⟨x, h1, e, o⟩ | ⟨c, fs, h1, e, o⟩
  · rw [e]
    intro m1 H1 v p d
    refine ⟨m1, r, h1, x, p.rel, p.s rs, d, ?_⟩
    have q := hg x r h1
    have o := OutS.later p o
    cases z : g x r h1 with
    | nx r1 h1 => rw [z] at o; exact o
    | rt d h1 => rw [z] at q; exact False.elim q
    | bk r1 h1 => rw [z] at q; exact False.elim q
    | ct r1 h1 => rw [z] at q; exact False.elim q
    | exc c fs h1 => rw [z] at o; exact o
    | stuck => rw [z] at o; exact o
  · rw [e]; exact o
end
end Py

set_option Elab.async false
set_option linter.all false
set_option maxRecDepth 100000
namespace Py
open PySem PySem.Spec PyProof.Rows L2
/-- the promise of a def of the combinator program -/
def spF (G : Gam) (K : PySem.W.Frag) (cf : CF) : Sp := fun vs H Q E => ∃ m h ds, RelH G K m h H ∧ RelDs K m h.length H ds vs ∧ Out G K E m h.length H Q (cf ds h)
/-- a def keeps its promise wherever no guard stands -/
structure FnG (P : Program) (w : World) (K : PySem.W.Frag) (mg : Str → Option Value) (base : Heap) (CX : CXT) (k : Nat) (f : Addr) (fd : FuncData) (ps : List Str) (sp : Sp) : Prop where
  len : ∀ vs H Q E, sp vs H Q E → vs.length = ps.length
  run : ∀ (A : Around) (outer : List Env) (s : Shared) (H : Hp) (args : Args) (us : List Value) (vs : List V) (Q : VK) (E : XK), A.guards = some [] → Room k A →
    Env0 P w K mg base A outer s H → BindsTo s fd args (ps.zip us) → Vals vs us → sp vs H Q E → codeAny (model P w) A (.call (.ref f) args) (CR CX outer P w H s Q E) s
theorem FnG.up {P : Program} {w : World} {K : PySem.W.Frag} {mg : Str → Option Value} {base : Heap} {CX : CXT} {j k : Nat} {f : Addr} {fd : FuncData} {ps : List Str} {sp : Sp} (F : FnG P w K mg base CX j f fd ps sp) (h : j ≤ k) : FnG P w K mg base CX k f fd ps sp :=
  ⟨F.len, fun A outer s H args us vs Q E g r => F.run A outer s H args us vs Q E g (r.mono h)⟩
/-- a def by its body -/
theorem fnG_of {G : Gam} {CX : CXT} {P : Program} {w : World} {K : PySem.W.Frag} {mg : Str → Option Value} {base : Heap} {k : Nat} {f : Addr} {name qual : Str} {params : Arguments} {body : List Stmt} {scope : Scope} {dV kV doc pm cdv ct oc : Value} {an od : Option Addr}
    {osl : Array (Option Value)} {N ps : List Str} {b : SX} {n kk : Nat}
    (lk : K.lookup f = some ⟨oc, od, .func (PySem.W.fnOf name qual params body scope dV kV doc pm an cdv ct), osl⟩) (hcd : PySem.W.codeIn K cdv qual = true) (S : FnScope N ps scope) (hn : ps.length = n) (hk : N.length - ps.length = kk)
    (hbody : ∀ (A : Around) (outer : List Env) (s : Shared) (H : Hp) (E : XK), A.guards = some [] → Room k (A.deeper (envOfC qual scope s.heap.objs.size f cdv)) →
      PSs (cxOf CX P w K mg base N qual scope f cdv A outer s H E) body (tS G K E b)) :
    FnG P w K mg base CX (k + 1) f (PySem.W.fnOf name qual params body scope dV kV doc pm an cdv ct) ps (spF G K (runF n kk b)) := by
  have len : ∀ vs H Q E, spF G K (runF n kk b) vs H Q E → vs.length = ps.length := by
    rintro vs H Q E ⟨m, h, ds, rh, rd, o⟩
    unfold runF at o
    by_cases hl : ds.length = n
    · rw [← rd.length, hl, hn]
    · rw [if_neg hl] at o; exact False.elim o
  refine ⟨len, ?_⟩
  intro A outer s H args us vs Q E hg hr e0 hb r hsp
  have hl := len _ _ _ _ hsp
  have kin : K.In s.heap := e0.mod.kin.keeps (fun b o e => (e0.bs b o e).1)
  have hkind : ∀ y ∈ ps.zip us, scope.names.lookup y.1 = some .local ∨ (scope.names.lookup y.1 = some .cell ∧ ((cellsFrom (s.heap.objs.size + 1) scope.names []).lookup y.1).isSome = true) := by
    rintro ⟨nm, v⟩ hy
    cases S.par nm (List.of_mem_zip hy).1 with
    | inl q => exact Or.inl q
    | inr q => exact Or.inr ⟨q, PySem.W.cellsFrom_some _ _ _ (Or.inl q)⟩
  refine codeAny_call_function hr.depth (kin _ _ lk) rfl S.co S.gen rfl (PySem.W.codeRec_of kin hcd) (hb _ _ _ _ ?_)
  refine wpAny_newFunctionEnv_cells S.kind hkind ?_
  intro env he s1 x
  subst he
  refine ⟨(e0.mod.nolimit.keeps fun b o e => (e0.bs b o e).1).keeps x.toInCall.keep, codeAny_func ?_⟩
  have ht := hbody A outer s H E hg (hr.deeper _)
  have I := inv_start (CX := CX) (E := E) S hr.hd e0 hl r x
  obtain ⟨m, h, ds, rh, rd, o⟩ := hsp
  have hdn : ds.length = n := by rw [rd.length, hl, hn]
  have hq : tS G K E b { nx := fun _ H' => Q .non H', rt := Q } (L2.start N vs) H := by
    refine ⟨m, ds.map some ++ List.replicate kk none, h, rh, ?_, ?_⟩
    · unfold L2.start
      rw [hl, hk]
      exact RelS.of kk rd
    · unfold runF at o
      rw [if_pos hdn] at o
      cases q : b (ds.map some ++ List.replicate kk none) h with
      | nx r1 h1 => rw [q] at o; exact fun m' H' s p _ => o m' H' _ p .non
      | rt d h1 => rw [q] at o; exact o
      | bk r1 h1 => rw [q] at o; exact False.elim o
      | ct r1 h1 => rw [q] at o; exact False.elim o
      | exc c fs h1 => rw [q] at o; exact o
      | stuck => rw [q] at o; exact False.elim o
  refine wpAny_mono (ht.run [] s1 (L2.start N vs) H _ I hq) ?_ (fun e s' z => z)
  intro fl s' hs
  have fin : ∀ {σ' : L2.St} {H' : Hp} {v : V} {u : Value}, Inv (cxOf CX P w K mg base N qual scope f cdv A outer s H E) [] σ' H' s' → RelV v u → Q v H' → CE outer P w H s Q u s' := by
    intro σ' H' v u J rv q
    exact ⟨v, H', J.os, J.bare, J.base, J.hok, rv, q⟩
  cases fl with
  | ret u => obtain ⟨v, σ', H', J, rv, q⟩ := hs; exact fin J rv q
  | next => obtain ⟨σ', H', J, q⟩ := hs; exact fin (v := V.non) (u := Value.none) J rfl q
  | brk => obtain ⟨_, _, _, q⟩ := hs; exact q.elim
  | cont => obtain ⟨_, _, _, q⟩ := hs; exact q.elim

section
variable {X : Cx} {G : Gam} {E : XK} {CX : CXT}
/-- what a call of the value fv is worth -/
def CallG (X : Cx) (G : Gam) (E : XK) (fv : Value) (ks : List Str) (op : KF) : Prop :=
  ∀ (pins : List (Addr × Obj)) (s : Shared) (σ : L2.St) (H : Hp) (us ws : List Value) (vs zs : List V) (Q : VK), Inv X pins σ H s → Vals vs us → Vals zs ws →
    (∃ m h ds es, RelH G X.K m h H ∧ RelDs X.K m h.length H ds vs ∧ RelDs X.K m h.length H es zs ∧ Out G X.K E m h.length H Q (op ds es h)) → wpAny (model X.prog X.w) X.A (call fv us (ks.zip ws)) (EP X pins σ Q) X.xe s
/-- how arguments bind -/
def Bnd (K : PySem.W.Frag) (fd : FuncData) (ps : List Str) (n : Nat) (ks : List Str) (bd : List D → List D → List D) : Prop :=
  ∀ (s : Shared) (us ws : List Value) (vs zs : List V), K.In s.heap → Vals vs us → Vals zs ws → us.length = n → ws.length = ks.length → ∃ us2 vs2, Vals vs2 us2 ∧ BindsTo s fd ⟨us, ks.zip ws⟩ (ps.zip us2) ∧
    ∀ m N H ds es, RelDs K m N H ds vs → RelDs K m N H es zs → RelDs K m N H (bd ds es) vs2
theorem runG {k : Nat} {f : Addr} {fd : FuncData} {ps : List Str} {sp : Sp} {pins : List (Addr × Obj)} {σ : L2.St} {H : Hp} {s : Shared} {Q : VK} {us ws : List Value} {vs : List V} {kw : List (Str × Value)} (F : FnG X.prog X.w X.K X.mg X.base CX k f fd ps sp) (hg : X.A.guards = some []) (hr : Room k X.A)
    (hx : Passes CX X E) (I : Inv X pins σ H s) (hb : BindsTo s fd ⟨us, kw⟩ (ps.zip ws)) (r : Vals vs ws) (h : sp vs H Q E) : wpAny (model X.prog X.w) X.A (call (.ref f) us kw) (EP X pins σ Q) X.xe s := by
  refine wpAny_call (codeAny_mono (F.run X.A X.stack s H ⟨us, kw⟩ ws vs Q E hg hr I.env0 hb r h) ?_)
  intro r s' hq
  cases r with
  | error e => exact hx pins σ H s e s' I hq
  | ok fl =>
    cases fl with
    | ret u => exact I.after hq
    | next => exact hq.elim
    | brk => exact hq.elim
    | cont => exact hq.elim
theorem cg_fn {k : Nat} {f : Addr} {fd : FuncData} {ps ks : List Str} {cf : CF} {n : Nat} {bd : List D → List D → List D} (F : FnG X.prog X.w X.K X.mg X.base CX k f fd ps (spF G X.K cf)) (hg : X.A.guards = some []) (hr : Room k X.A) (hx : Passes CX X E) (hb : Bnd X.K fd ps n ks bd) : CallG X G E (.ref f) ks (opF n ks.length bd cf) := by
  intro pins s σ H us ws vs zs Q I r1 r2 ⟨m, h, ds, es, rh, d1, d2, o⟩
  unfold opF at o
  by_cases hl : ds.length = n ∧ es.length = ks.length
  · rw [if_pos hl] at o
    obtain ⟨us2, vs2, q1, q2, q3⟩ := hb s us ws vs zs I.kIn r1 r2 (by rw [← r1.length, ← d1.length]; exact hl.1) (by rw [← r2.length, ← d2.length]; exact hl.2)
    exact runG F hg hr hx I q2 q1 ⟨m, h, _, rh, q3 _ _ _ _ _ d1 d2, o⟩
  · rw [if_neg hl] at o; exact o.elim
theorem guards_make {A : Around} {C : Addr} {us : List Value} {kw : List (Str × Value)} (h : A.guards = some []) : (A.under (.builtin "type.__call__" ⟨.ref C :: us, kw⟩)).guards = some [] := by
  have e : (Code.builtin "type.__call__" ⟨.ref C :: us, kw⟩).guards = [] := by
    unfold Code.guards
    rw [if_neg]
    show ¬ (guardIds.contains "type.__call__" = true)
    decide
  unfold Around.under
  show pushGuards (Code.builtin "type.__call__" ⟨.ref C :: us, kw⟩).guards A.guards = some []
  rw [e, h]
  rfl
theorem cg_make {k : Nat} {c : Nat} {f : Addr} {fd : FuncData} {ps ks : List Str} {cf : CF} {n : Nat} {bd : List D → List D → List D} (M : Mk X.K (G.cl c) f) (F : FnG X.prog X.w X.K X.mg X.base CX k f fd ps (spF G X.K cf)) (hg : X.A.guards = some []) (hr : Room (k + 1) X.A) (hx : Passes CX X E) (hb : Bnd X.K fd ps (n + 1) ks bd) :
    CallG X G E (.ref (G.cl c)) ks (opM c n ks.length bd cf) := by
  intro pins s σ H us ws vs zs Q I r1 r2 ⟨m, h, ds, es, rh, d1, d2, o⟩
  unfold opM at o
  by_cases hl : ds.length = n ∧ es.length = ks.length
  · rw [if_pos hl] at o
    have I2 := Inv.made (C := G.cl c) I
    have hx0 : H (s.heap.objs.size + 1) = none := I.hok.fresh (Nat.le_succ _)
    have hd0 : H s.heap.objs.size = none := I.hok.fresh (Nat.le_refl _)
    have p1 := rh.newT (u := HO.own (s.heap.objs.size + 1)) hd0
    have hx1 : upd H s.heap.objs.size (HO.own (s.heap.objs.size + 1)) (s.heap.objs.size + 1) = none := by rw [upd_ne (Nat.succ_ne_self _)]; exact hx0
    have p2 := p1.trans (p1.rel.new (o := .ins c []) (u := .ins (G.cl c) s.heap.objs.size []) hx1 (fun m' ag e => ⟨_, _, upd_same, .nil⟩))
    have z : RelD X.K (ext m h.length (s.heap.objs.size + 1)) (h ++ [O.ins c []]).length (upd (upd H s.heap.objs.size (HO.own (s.heap.objs.size + 1))) (s.heap.objs.size + 1) (.ins (G.cl c) s.heap.objs.size [])) (.ref h.length) (.ref (s.heap.objs.size + 1)) := by
      have z := RelD.ref (K := X.K) (m := ext m h.length (s.heap.objs.size + 1)) (H := upd (upd H s.heap.objs.size (HO.own (s.heap.objs.size + 1))) (s.heap.objs.size + 1) (.ins (G.cl c) s.heap.objs.size [])) (n := h.length) (N := (h ++ [O.ins c []]).length) (by simp)
      rw [ext_self] at z
      exact z
    obtain ⟨us2, vs2, q1, q2, q3⟩ := hb _ (.ref (s.heap.objs.size + 1) :: us) ws (.ref (s.heap.objs.size + 1) :: vs) zs I2.kIn (.cons rfl r1) r2 (by rw [List.length_cons, ← r1.length, ← d1.length, hl.1]) (by rw [← r2.length, ← d2.length]; exact hl.2)
    have rd := q3 _ _ _ _ _ (.cons z (p2.ds d1)) (p2.ds d2)
    refine wpAny_call (make_map (f := f) I.kIn M.makes M.init (beq_iff_eq.mp M.fn) (codeAny_mono (F.run _ X.stack _ _ ⟨Value.ref (s.heap.objs.size + 1) :: us, ks.zip ws⟩ us2 vs2 (fun v H2 => v = .non ∧ Q (.ref (s.heap.objs.size + 1)) H2) E (guards_make hg) (hr.make (G.cl c) us (ks.zip ws))
      (I2.env0.make (G.cl c) us (ks.zip ws)) q2 q1 ?_) ?_))
    · refine ⟨_, _, _, p2.rel, rd, ?_⟩
      rcases Out.bindR o with ⟨v, h2, e, o⟩ | ⟨cc, fs, h2, e, o⟩
      · rw [e]
        intro m2 H2 v2 p3 d3
        cases v with
        | non => cases d3; exact ⟨rfl, o m2 H2 _ (p2.trans p3) (p3.d z)⟩
        | bl _ => exact o.elim
        | int _ => exact o.elim
        | str _ => exact o.elim
        | tup _ => exact o.elim
        | ref _ => exact o.elim
        | scr _ => exact o.elim
        | fn _ => exact o.elim
      · rw [e]; exact OutX.later p2 o
    · intro r s' hq'
      cases r with
      | error e => exact hx pins σ _ _ e s' I2 hq'
      | ok fl =>
        cases fl with
        | ret u =>
          obtain ⟨v, H', I3, rv, ev, q3⟩ := I2.after hq'
          subst ev
          exact ⟨rv, ⟨V.ref (s.heap.objs.size + 1), H', I3, rfl, q3⟩⟩
        | next => exact hq'.elim
        | brk => exact hq'.elim
        | cont => exact hq'.elim
  · rw [if_neg hl] at o; exact o.elim

/-! ### forms of calls -/
variable {x : Str} {p pos apos : Pos} {e o : Expr} {es : List Expr} {kws : List Keyword} {fa fk : AX} {fo : EX} {op : KF} {fv : Value} {ks : List Str}
theorem PK_mono {t t' : TA} (a : PK X kws t) (h : ∀ σ H Q, t' σ H Q → t σ H Q) : PK X kws t' := ⟨fun w pins s σ H Q I q => a.run w pins s σ H Q I (h _ _ _ q)⟩
theorem kNil : PK X [] (tA G X.K E aNil) := PK_mono pk_nil fun σ H Q ⟨m, r, h, rh, rs, o⟩ => o m H [] (Post.refl rh) .nil
theorem toCons {f : EX} {g : AX} {σ : L2.St} {H : Hp} {Q : List V → Hp → Prop} (t : tA G X.K E (aCons f g) σ H Q) : tCons (tE G X.K E f) (tA G X.K E g) σ H Q := by
  obtain ⟨m, r, h, rh, rs, o⟩ := t
  refine ⟨m, r, h, rh, rs, ?_⟩
  rcases OutA.bindR o with ⟨x, h1, e, o⟩ | ⟨c, fs, h1, e, o⟩
  · rw [e]
    intro m1 H1 v p1 d1
    refine ⟨m1, r, h1, p1.rel, p1.s rs, ?_⟩
    rcases OutA.bindR o with ⟨y, h2, e, o⟩ | ⟨c, fs, h2, e, o⟩
    · rw [e]
      intro m2 H2 w p2 d2
      exact o m2 H2 _ (p1.trans p2) (.cons (p2.d d1) d2)
    · rw [e]; exact OutX.later p1 o
  · rw [e]; exact o
theorem kCons {nm : Option Str} {kpos : Pos} {f : EX} {g : AX} (ha : PE X e (tE G X.K E f)) (hr : PK X kws (tA G X.K E g)) : PK X (⟨nm, e, kpos⟩ :: kws) (tA G X.K E (aCons f g)) := PK_mono (pk_cons ha hr) fun _ _ _ t => toCons t
/-- the two lists of a call, one behind the other -/
theorem toCall {σ : L2.St} {H : Hp} {Q : VK} (t : tE G X.K E (eCall op fa fk) σ H Q) :
    tA G X.K E fa σ H (fun vs H1 => tA G X.K E fk σ H1 fun zs H2 => ∃ m h ds es, RelH G X.K m h H2 ∧ RelDs X.K m h.length H2 ds vs ∧ RelDs X.K m h.length H2 es zs ∧ Out G X.K E m h.length H2 Q (op ds es h)) := by
  obtain ⟨m, r, h, rh, rs, o⟩ := t
  refine ⟨m, r, h, rh, rs, ?_⟩
  rcases Out.bindR o with ⟨x, h1, e, o⟩ | ⟨c, fs, h1, e, o⟩
  · rw [e]
    intro m1 H1 v p1 d1
    refine ⟨m1, r, h1, p1.rel, p1.s rs, ?_⟩
    rcases Out.bindR o with ⟨y, h2, e, o⟩ | ⟨c, fs, h2, e, o⟩
    · rw [e]
      intro m2 H2 w p2 d2
      exact ⟨m2, h2, x, y, p2.rel, p2.ds d1, d2, Out.later (p1.trans p2) o⟩
    · rw [e]; exact OutX.later p1 o
  · rw [e]; exact o
theorem noK {σ : L2.St} {H : Hp} {R : List V → Hp → Prop} (t : tA G X.K E aNil σ H R) : R [] H := by
  obtain ⟨m, r, h, rh, rs, o⟩ := t
  exact o m H [] (Post.refl rh) .nil
theorem xCall (cg : CallG X G E fv [] op) (hg : Gl X x) (hm : X.mg x = some fv) (hk : PySem.W.keepIn X.K fv = true) (ha : PA X (e :: es) (tA G X.K E fa)) (hdb : (x == ("__debug__" : Str)) = false := by decide)
    (he : starEach (e :: es) X.env = (false, eval e X.env) :: starEach es X.env := by rfl) (hpl : (backTo pos (starEach es X.env)).any (·.1) = false := by rfl) : PE X (.Call (.Name x p) (e :: es) [] pos) (tE G X.K E (eCall op fa aNil)) := by
  refine ⟨fun pins s σ H Q I h => ?_⟩
  refine wpAny_Call_Name_kw (ld_glob I hg hm ?_ hdb)
  refine PySem.W.callWith_K (h₀ := X.base) I.ok.mod.kin hk (thn (ha.run pos pins s σ H _ I (toCall h)) ?_) he hpl
  rintro us s1 ⟨vs, H1, I1, r, q⟩
  exact ⟨I1.kIn, cg pins s1 σ H1 us [] vs [] Q I1 r .nil (noK q)⟩
theorem xCall0K (cg : CallG X G E fv ks op) (hg : Gl X x) (hm : X.mg x = some fv) (hk : PySem.W.keepIn X.K fv = true) (hkw : PK X kws (tA G X.K E fk))
    (hall : (backToKw pos (keywordEach kws X.env)).all (·.1.isSome) = true := by rfl) (hks : (backToKw pos (keywordEach kws X.env)).filterMap (·.1) = ks := by rfl) (hdb : (x == ("__debug__" : Str)) = false := by decide)
    (hpl : ((backTo pos (starEach [] X.env)).any (·.1) || (backToKw pos (keywordEach kws X.env)).any (·.1.isNone)) = false := by rfl) : PE X (.Call (.Name x p) [] kws pos) (tE G X.K E (eCall op aNil fk)) := by
  refine ⟨fun pins s σ H Q I h => ?_⟩
  refine wpAny_Call_Name_kw (ld_glob I hg hm ?_ hdb)
  refine PySem.W.callWith_KW0 (h₀ := X.base) I.ok.mod.kin hk hall ?_ hpl
  refine thn (hkw.run pos pins s σ H _ I (noK (toCall h))) ?_
  rintro ws s2 ⟨zs, H2, I2, rz, q2⟩
  refine ⟨I2.kIn, ?_⟩
  rw [hks]
  exact cg pins s2 σ H2 [] ws [] zs Q I2 .nil rz q2
/-! methods -/
variable {c : Nat} {mn : Str} {f : Addr}
def NotF (G : Gam) (mn : Str) : Prop := ∀ i, i < G.top → G.nm i ≠ mn
theorem RelFs.no {K : PySem.W.Frag} {m : Nat → Addr} {N : Nat} {H : Hp} (hn : NotF G mn) : ∀ {fs : List (Nat × D)} {vs : List (Str × V)}, RelFs G K m N H fs vs → vs.lookup mn = none
  | _, _, .nil => rfl
  | _, _, .cons (i := j) a h r => by
    have : (mn == G.nm j) = false := beq_eq_false_iff_ne.mpr fun z => hn j a z.symm
    simp only [List.lookup, this]
    exact RelFs.no hn r
theorem toMeth (hn : NotF G mn) {σ : L2.St} {H : Hp} {Q : VK} (t : tE G X.K E (eMeth c op fo fa fk) σ H Q) :
    tE G X.K E fo σ H (fun x H1 => ∃ a dx fs, x = .ref a ∧ H1 a = some (.ins (G.cl c) dx fs) ∧ fs.lookup mn = none ∧ tA G X.K E fa σ H1 (fun vs H2 => tA G X.K E fk σ H2 fun zs H3 =>
      ∃ m h ds es, RelH G X.K m h H3 ∧ RelDs X.K m h.length H3 ds (x :: vs) ∧ RelDs X.K m h.length H3 es zs ∧ Out G X.K E m h.length H3 Q (op ds es h))) := by
  obtain ⟨m, r, h, rh, rs, o⟩ := t
  refine ⟨m, r, h, rh, rs, ?_⟩
  rcases Out.bindR o with ⟨x, h1, e, o⟩ | ⟨c, fs, h1, e, o⟩
  · rw [e]
    intro m1 H1 v p1 d1
    cases d1 with
    | non => exact o.elim
    | bl _ => exact o.elim
    | int _ => exact o.elim
    | str _ => exact o.elim
    | scr _ => exact o.elim
    | fn _ => exact o.elim
    | tup _ _ => exact o.elim
    | @ref n hn1 =>
      cases q : h1[n]? with
      | none => simp only [q] at o; exact o.elim
      | some ob =>
        simp only [q] at o
        cases ob with
        | lst _ => exact o.elim
        | dct kv => exact o.elim
        | ins c' fs =>
          simp only at o
          by_cases hc : c' = c
          · subst hc
            rw [if_pos rfl] at o
            obtain ⟨dx, vs, e1, rf⟩ := p1.rel.obj n _ q
            refine ⟨m1 n, dx, vs, rfl, e1, rf.no hn, m1, r, h1, p1.rel, p1.s rs, ?_⟩
            rcases Out.bindR o with ⟨ds, h2, e, o⟩ | ⟨c, fs, h2, e, o⟩
            · rw [e]
              intro m2 H2 v2 p2 d2
              refine ⟨m2, r, h2, p2.rel, p2.s (p1.s rs), ?_⟩
              rcases Out.bindR o with ⟨es, h3, e, o⟩ | ⟨c, fs, h3, e, o⟩
              · rw [e]
                intro m3 H3 v3 p3 d3
                exact ⟨m3, h3, _, es, p3.rel, .cons ((p2.trans p3).d (.ref hn1)) (p3.ds d2), d3, Out.later (p1.trans (p2.trans p3)) o⟩
              · rw [e]; exact OutX.later (p1.trans p2) o
            · rw [e]; exact OutX.later p1 o
          · rw [if_neg hc] at o; exact o.elim
  · rw [e]; exact o
theorem xMeth {pl : Sem Bool} (hn : NotF G mn) (he : PE X o (tE G X.K E fo)) (cc : Cls X.K (G.cl c)) (hm : Meth X.K (G.cl c) mn f) (cg : CallG X G E (.ref f) [] op) (ha : PA X (e :: es) (tA G X.K E fa))
    (hst : starEach (e :: es) X.env = (false, eval e X.env) :: starEach es X.env := by rfl) (hpl : (backTo pos (starEach es X.env)).any (·.1) = false := by rfl)
    (ht : eval (.Call (.Attribute o mn apos) (e :: es) [] pos) X.env = (do
      let ov ← eval o X.env
      standAt apos.atName
      let (f, first) ← holding [ov] (getMethod ov mn pl)
      callWith pos f first (backTo pos (starEach (e :: es) X.env)) (backToKw pos (keywordEach [] X.env))) := by rfl) : PE X (.Call (.Attribute o mn apos) (e :: es) [] pos) (tE G X.K E (eMeth c op fo fa aNil)) := by
  refine ⟨fun pins s σ H Q I h => ?_⟩
  refine PySem.W.methodCall_KW (pl := pl) (thn (he.run pins s σ H _ I (toMeth hn h)) ?_) ht
  rintro u s1 ⟨x, H1, I1, rx, a, dx, fs, ex, ea, l, q⟩
  subst ex
  obtain rfl : u = Value.ref a := rx
  refine getmeth_ok I1 ea cc hm l ?_
  refine PySem.W.callWith_K (first := [.ref a]) (h₀ := X.base) I.ok.mod.kin hm.kp (thn (ha.run pos pins s1 σ H1 _ I1 q) ?_) hst hpl
  rintro us s2 ⟨vs, H2, I2, r, q2⟩
  exact ⟨I2.kIn, cg pins s2 σ H2 (.ref a :: us) [] (.ref a :: vs) [] Q I2 (.cons rfl r) .nil (noK q2)⟩
theorem xMeth0 {pl : Sem Bool} (hn : NotF G mn) (he : PE X o (tE G X.K E fo)) (cc : Cls X.K (G.cl c)) (hm : Meth X.K (G.cl c) mn f) (cg : CallG X G E (.ref f) [] op)
    (ht : eval (.Call (.Attribute o mn apos) [] [] pos) X.env = (do
      let ov ← eval o X.env
      standAt apos.atName
      let (f, first) ← holding [ov] (getMethod ov mn pl)
      callWith pos f first (backTo pos (starEach [] X.env)) (backToKw pos (keywordEach [] X.env))) := by rfl) : PE X (.Call (.Attribute o mn apos) [] [] pos) (tE G X.K E (eMeth c op fo aNil aNil)) := by
  refine ⟨fun pins s σ H Q I h => ?_⟩
  refine PySem.W.methodCall_KW (pl := pl) (thn (he.run pins s σ H _ I (toMeth hn h)) ?_) ht
  rintro u s1 ⟨x, H1, I1, rx, a, dx, fs, ex, ea, l, q⟩
  subst ex
  obtain rfl : u = Value.ref a := rx
  refine getmeth_ok I1 ea cc hm l ?_
  exact PySem.W.callWith_K0 (first := [.ref a]) I1.kIn hm.kp (cg pins s1 σ H1 [.ref a] [] [.ref a] [] Q I1 (.cons rfl .nil) .nil (noK (noK q)))
/-! ### fields -/
variable {i : Nat} {fe : EX} {value : Expr} {pos' : Pos}
theorem xFld (hi : i < G.top) (cc : Cls X.K (G.cl c)) (na : NoAttr X.K (G.cl c) (G.nm i)) (he : PE X o (tE G X.K E fo)) (hf : mn = G.nm i := by rfl) (hb : attributeBase o mn X.env (eval o X.env) = eval o X.env := by rfl) : PE X (.Attribute o mn pos) (tE G X.K E (eFld c i fo)) := by
  subst hf
  refine PE_mono (pe_fld he hb) ?_
  rintro σ H Q ⟨m, r, h, rh, rs, o⟩
  refine ⟨m, r, h, rh, rs, ?_⟩
  rcases Out.bindR o with ⟨x, h1, e, o⟩ | ⟨c, fs, h1, e, o⟩
  · rw [e]
    intro m1 H1 v p1 d1
    cases d1 with
    | non => exact o.elim
    | bl _ => exact o.elim
    | int _ => exact o.elim
    | str _ => exact o.elim
    | scr _ => exact o.elim
    | fn _ => exact o.elim
    | tup _ _ => exact o.elim
    | @ref n hn1 =>
      cases q : h1[n]? with
      | none => simp only [q] at o; exact o.elim
      | some ob =>
        simp only [q] at o
        cases ob with
        | lst _ => exact o.elim
        | dct kv => exact o.elim
        | ins c' fs =>
          simp only at o
          by_cases hc : c' = c
          · subst hc
            rw [if_pos rfl] at o
            obtain ⟨dx, vs, e1, rf⟩ := p1.rel.obj n _ q
            cases z : getA i fs with
            | none => simp only [z] at o; exact o.elim
            | some d =>
              simp only [z] at o
              obtain ⟨v, lv, rv⟩ := rf.get hi z
              exact ⟨m1 n, _, dx, vs, v, rfl, e1, cc, na, lv, o m1 H1 v p1 rv⟩
          · rw [if_neg hc] at o; exact o.elim
  · rw [e]; exact o
theorem zFld (hi : i < G.top) (cc : Cls X.K (G.cl c)) (na : NoAttr X.K (G.cl c) (G.nm i)) (ho : PE X o (tE G X.K E fo)) (he : PE X value (tE G X.K E fe)) (hf : mn = G.nm i := by rfl) (hs : swapsWith value (some (.Attribute o mn pos')) pos.line X.env = pure false := by rfl) : PS X (.Assign [.Attribute o mn pos'] value pos) (tS G X.K E (Py.sFld c i fo fe)) := by
  subst hf
  refine PS_mono (ps_fld ho he hs) ?_
  rintro Z σ H ⟨m, r, h, rh, rs, o⟩
  refine ⟨m, r, h, rh, rs, ?_⟩
  rcases OutS.toR o with ⟨d, h1, e, o⟩ | ⟨c, fs, h1, e, o⟩
  · rw [e]
    intro m1 H1 y p1 d1
    refine ⟨m1, r, h1, p1.rel, p1.s rs, ?_⟩
    rcases OutS.toR o with ⟨x, h2, e, o⟩ | ⟨c, fs, h2, e, o⟩
    · rw [e]
      intro m2 H2 xv p2 d2
      cases d2 with
      | non => exact o.elim
      | bl _ => exact o.elim
      | int _ => exact o.elim
      | str _ => exact o.elim
      | scr _ => exact o.elim
      | fn _ => exact o.elim
      | tup _ _ => exact o.elim
      | @ref n hn1 =>
        cases q : h2[n]? with
        | none => simp only [q] at o; exact o.elim
        | some ob =>
          simp only [q] at o
          cases ob with
          | lst _ => exact o.elim
          | dct kv => exact o.elim
          | ins c' fs =>
            simp only at o
            by_cases hc : c' = c ∧ fs.length < 1000
            · rw [if_pos hc] at o
              obtain ⟨hc, hl⟩ := hc
              subst hc
              obtain ⟨dx, vs, e1, rf⟩ := p2.rel.obj n _ q
              refine ⟨m2 n, _, dx, vs, rfl, e1, cc, na, by rw [← rf.length]; exact hl, ?_⟩
              have tk : TK X.K H2 (upd H2 (m2 n) (.ins (G.cl c') dx (putF (G.nm i) y vs))) := TK.upd_mut e1 (fun _ z => nomatch z) (fun _ _ z => nomatch z)
              have p3 := p2.rel.upd (u := .ins (G.cl c') dx (putF (G.nm i) y vs)) (o := .ins c' (putA i d fs)) q e1 (fun _ z => nomatch z) (fun _ _ z => nomatch z)
                ⟨dx, _, upd_same, (rf.put hi (p2.d d1)).mono (fun _ _ => rfl) (Nat.le_refl _) tk⟩
              have p := p1.trans (p2.trans p3)
              exact o m2 _ σ p (p.s rs)
            · rw [if_neg hc] at o; exact o.elim
    · rw [e]; exact OutX.later p1 o
  · rw [e]; exact o
/-! ### assignments -/
variable {fa1 : EX} {a : Expr}
theorem zSet {x : Str} (hN : X.N.Nodup) (hi : X.N[i]? = some x) (hx : Loc X.env.scope x) (he : PE X a (tE G X.K E fa1)) (hs : swapsWith a (some (.Name x pos')) pos.line X.env = pure false := by rfl)
    (hf : X.fn x = true ∨ X.env.scope.names.lookup x = some .local := by first | exact .inl rfl | exact .inr rfl | assumption) : PS X (.Assign [.Name x pos'] a pos) (tS G X.K E (sAsg fa1 (gN i))) := by
  refine PS_mono (ps_set hN hi hx he hs hf) ?_
  rintro Z σ H ⟨m, r, h, rh, rs, o⟩
  refine ⟨m, r, h, rh, rs, ?_⟩
  rcases OutS.toR o with ⟨d, h1, e, o⟩ | ⟨c, fs, h1, e, o⟩
  · rw [e]
    intro m1 H1 y p1 d1
    exact o m1 H1 _ p1 (RelS.set d1 i (p1.s rs))
  · rw [e]; exact o
/-- a target that goes on -/
def NG (g : GX) : Prop := ∀ d r h, match g d r h with | .rt _ _ => False | .bk _ _ => False | .ct _ _ => False | _ => True
theorem zAsg {tg : Expr} {g : GX} (hgg : NG g) (he : PE X a (tE G X.K E fa1)) (hg : PG X tg (tG G X.K E g)) (hs : swapsWithSole [tg] a pos.line X.env = pure false := by rfl) (hw : swappedStores [tg] a X.env = pure none := by rfl)
    (h1 : (assignEach [tg] X.env).map (·.2) = [assign tg X.env] := by rfl) : PS X (.Assign [tg] a pos) (tS G X.K E (sAsg fa1 g)) :=
  PS_mono (ps_asg he hg hs hw h1) fun _ _ _ t => toAsg t hgg
theorem zPar {i j : Nat} {x y : Str} {a b : Expr} {fa : AX} {px py pt : Pos} {kt k2 pt2} (hc : X.calm = true) (hN : X.N.Nodup) (hi : X.N[i]? = some x) (hj : X.N[j]? = some y) (hij : i ≠ j)
    (hx : X.env.scope.names.lookup x = some .local) (hy : X.env.scope.names.lookup y = some .local) (ha : PA X [a, b] (tA G X.K E fa))
    (hw : swappedStores [.Tuple [.Name x px, .Name y py] kt pt] (.Tuple [a, b] k2 pt2) X.env = pure (some [x, y])) (hs : swapsWithSole [.Tuple [.Name x px, .Name y py] kt pt] (.Tuple [a, b] k2 pt2) pos.line X.env = pure false := by rfl) :
    PS X (.Assign [.Tuple [.Name x px, .Name y py] kt pt] (.Tuple [a, b] k2 pt2) pos) (tS G X.K E (sPar i j fa)) := by
  refine PS_mono (ps_par hc hN hi hj hij hx hy ha hw hs) ?_
  rintro Z σ H ⟨m, r, h, rh, rs, o⟩
  refine ⟨m, r, h, rh, rs, ?_⟩
  rcases OutS.toR o with ⟨ds, h1, e, o⟩ | ⟨c, fs, h1, e, o⟩
  · rw [e]
    intro m1 H1 vs p1 d1
    cases d1 with
    | nil => exact o.elim
    | cons a1 b1 =>
      cases b1 with
      | nil => exact o.elim
      | cons a2 b2 =>
        cases b2 with
        | nil => exact ⟨_, _, rfl, o m1 H1 _ p1 (RelS.set a2 _ (RelS.set a1 _ (p1.s rs)))⟩
        | cons a3 b3 => exact o.elim
  · rw [e]; exact o
end
end Py

set_option Elab.async false
set_option linter.all false
set_option maxRecDepth 100000
namespace Py
open PySem PySem.Spec PyProof.Rows L2
section
variable {X : Cx} {G : Gam} {E : XK}
/-- an iterator of the layer stands for a source -/
def ItRel (G : Gam) (K : PySem.W.Frag) (m0 : Nat → Addr) (h0 : LH) (H0 : Hp) (J : It) (s : Src) : Prop :=
  ∀ m h H i, Post G K m0 h0.length H0 m h H → match srcAt s h i with
    | none => True
    | some none => J.stop i H
    | some (some d) => J.go i H ∧ ∀ x H', J.yld i H x H' → Post G K m h.length H m h H' ∧ RelD K m h.length H' d x
theorem ItRel.later {K : PySem.W.Frag} {m0 m1 : Nat → Addr} {h0 h1 : LH} {H0 H1 : Hp} {J : It} {s : Src} (a : ItRel G K m0 h0 H0 J s) (p : Post G K m0 h0.length H0 m1 h1 H1) : ItRel G K m1 h1 H1 J s :=
  fun m h H i q => a m h H i (p.trans q)
def OutI (G : Gam) (K : PySem.W.Frag) (E : XK) (m : Nat → Addr) (N : Nat) (H : Hp) (Q : It → Hp → Prop) : R Src → Prop
  | .ok s h' => ∀ m' H' J, Post G K m N H m' h' H' → ItRel G K m' h' H' J s → Q J H'
  | .exc c fs h' => OutX G K E m N H c fs h'
  | .stuck => False
def tI (G : Gam) (K : PySem.W.Frag) (E : XK) (f : IX) : TI := fun σ H Q => ∃ m r h, RelH G K m h H ∧ RelS K m h.length H r σ ∧ OutI G K E m h.length H Q (f r h)
theorem OutI.bindR {α : Type} {K : PySem.W.Frag} {m : Nat → Addr} {N : Nat} {H : Hp} {r : R α} {f : α → LH → R Src} {Q : It → Hp → Prop} (o : OutI G K E m N H Q (r.bind f)) :
    (∃ a h1, r = .ok a h1 ∧ OutI G K E m N H Q (f a h1)) ∨ ∃ c fs h1, r = .exc c fs h1 ∧ OutX G K E m N H c fs h1 := by
  cases r with
  | ok a h1 => exact .inl ⟨a, h1, rfl, o⟩
  | exc c fs h1 => exact .inr ⟨c, fs, h1, rfl, o⟩
  | stuck => exact False.elim o
theorem PI_mono {tg iter : Expr} {t t' : TI} (a : PI X tg iter t) (h : ∀ σ H Q, t' σ H Q → t σ H Q) : PI X tg iter t' := ⟨fun pins s σ H Q I q => a.run pins s σ H Q I (h _ _ _ q)⟩
/-! ### sources -/
theorem it_list {K : PySem.W.Frag} {m0 : Nat → Addr} {h0 : LH} {H0 : Hp} {n : Nat} (hn : n < h0.length) : ItRel G K m0 h0 H0 (Itl K (m0 n)) (.lst n) := by
  intro m h H i p
  have e : m n = m0 n := p.agr n hn
  simp only [srcAt]
  cases q : h[n]? with
  | none => trivial
  | some o =>
    cases o with
    | ins c fs => trivial
    | dct kv => trivial
    | lst xs =>
      obtain ⟨vs, e1, r⟩ := p.rel.obj n _ q
      rw [e] at e1
      simp only
      cases z : xs[i]? with
      | none =>
        refine ⟨vs, SqL.of e1, ?_⟩
        rw [← r.length]
        exact List.getElem?_eq_none_iff.mp z
      | some d =>
        obtain ⟨v, ev, rv⟩ := r.get z
        refine ⟨⟨vs, v, SqL.of e1, ev⟩, ?_⟩
        rintro x H' ⟨eH, hx⟩
        subst eH
        have := hx vs (SqL.of e1)
        rw [ev] at this
        cases this
        exact ⟨Post.refl p.rel, rv⟩
theorem it_tup {K : PySem.W.Frag} {m0 : Nat → Addr} {h0 : LH} {H0 : Hp} {a : Addr} {xs : List D} {vs : List V} (ht : SqT K H0 a vs) (rd : RelDs K m0 h0.length H0 xs vs) : ItRel G K m0 h0 H0 (Itt K a) (.its xs) := by
  intro m h H i p
  simp only [srcAt]
  cases z : xs[i]? with
  | none =>
    refine ⟨vs, p.tk.t _ _ ht, ?_⟩
    rw [← rd.length]
    exact List.getElem?_eq_none_iff.mp z
  | some d =>
    obtain ⟨v, ev, rv⟩ := rd.get z
    refine ⟨⟨vs, v, p.tk.t _ _ ht, ev⟩, ?_⟩
    rintro x H' ⟨eH, hx⟩
    subst eH
    have := hx vs (p.tk.t _ _ ht)
    rw [ev] at this
    cases this
    exact ⟨Post.refl p.rel, p.d rv⟩
theorem it_scr {K : PySem.W.Frag} {m0 : Nat → Addr} {h0 : LH} {H0 : Hp} {a : Addr} {ns : List Int} (ht : SqF K H0 a (ns.map V.int)) : ItRel G K m0 h0 H0 (Itl K a) (.its (ns.map .int)) := by
  intro m h H i p
  have hs := (p.tk.f _ _ ht).sq
  simp only [srcAt]
  cases z : (ns.map D.int)[i]? with
  | none =>
    refine ⟨_, hs, ?_⟩
    have := List.getElem?_eq_none_iff.mp z
    simpa using this
  | some d =>
    obtain ⟨v, ev, rv⟩ := (RelDs.ints (K := K) (m := m) (N := h.length) (H := H) ns).get z
    refine ⟨⟨_, v, hs, ev⟩, ?_⟩
    rintro x H' ⟨eH, hx⟩
    subst eH
    have := hx _ hs
    rw [ev] at this
    cases this
    exact ⟨Post.refl p.rel, rv⟩
theorem it_rng {K : PySem.W.Frag} {m0 : Nat → Addr} {h0 : LH} {H0 : Hp} (a b : Int) : ItRel G K m0 h0 H0 (Itr a (b - a).toNat) (.its (rangeL a b)) := by
  intro m h H i p
  simp only [srcAt, rangeL]
  cases z : ((List.range (b - a).toNat).map fun k => D.int (a + (k : Nat)))[i]? with
  | none =>
    have := List.getElem?_eq_none_iff.mp z
    rw [List.length_map, List.length_range] at this
    exact this
  | some d =>
    have hi := (List.getElem?_eq_some_iff.mp z).1
    rw [List.length_map, List.length_range] at hi
    rw [List.getElem?_map, List.getElem?_range hi] at z
    cases z
    refine ⟨hi, ?_⟩
    rintro x H' ⟨eH, ex⟩
    subst eH
    subst ex
    exact ⟨Post.refl p.rel, .int _⟩
variable {tg iter l : Expr} {fa : EX} {fi : IX}
theorem iRng1_ok {a : Expr} {p pos : Pos} (hg : Gl X "range") (hm : X.mg "range" = none) (ha : PE X a (tE G X.K E fa)) (hs : starEach [a] X.env = [(false, eval a X.env)] := by rfl) : PI X tg (.Call (.Name "range" p) [a] [] pos) (tI G X.K E (Py.iRng1 fa)) := by
  refine PI_mono (pi_range1 hg hm (xaCons ha xaNil hs) hs) ?_
  rintro σ H Q ⟨m, r, h, rh, rs, o⟩
  refine ⟨m, r, h, rh, rs, ?_⟩
  unfold aCons aNil
  rcases OutI.bindR o with ⟨d, h1, e, o⟩ | ⟨c, fs, h1, e, o⟩
  · rw [e]
    intro m1 H1 v p1 d1
    cases d1 with
    | cons a b =>
      cases b
      cases a with
      | int j =>
        simp only at o
        by_cases hj : small62 j = true
        · rw [if_pos hj] at o
          have hj' : -(2 ^ 62) ≤ j ∧ j < 2 ^ 62 := by simpa [small62] using hj
          have q := it_rng (G := G) (K := X.K) (m0 := m1) (h0 := h1) (H0 := H1) 0 j
          rw [Int.sub_zero] at q
          exact ⟨j, rfl, hj'.1, hj'.2, o m1 H1 _ p1 q⟩
        · rw [if_neg hj] at o; exact o.elim
      | non => exact o.elim
      | bl _ => exact o.elim
      | str _ => exact o.elim
      | tup _ _ => exact o.elim
      | ref _ => exact o.elim
      | scr _ => exact o.elim
      | fn _ => exact o.elim
  · rw [e]; exact o
/-- a list or a tuple, walked -/
theorem pi_seq (hl : PE X l (tE G X.K E fa)) : PI X tg l (fun σ H R => tE G X.K E fa σ H fun x H1 => ∃ a, x = .ref a ∧ ((∃ xs, SqL X.K H1 a xs) ∧ R (Itl X.K a) H1 ∨ (∃ xs, SqT X.K H1 a xs) ∧ R (Itt X.K a) H1)) := by
  refine ⟨fun pins s σ H R I h => ?_⟩
  refine thn (hl.run pins s σ H _ I h) ?_
  rintro v s1 ⟨x, H1, I1, r1, a, e, q⟩
  subst e
  cases r1
  have fp : ∀ b ∈ [s1.heap.objs.size], FpOk X pins H1 b := by
    intro b hb
    have e : b = s1.heap.objs.size := by simpa using hb
    subst e
    exact I1.fpOk (Nat.le_refl _) (I1.hok.fresh (Nat.le_refl _))
  rcases q with ⟨⟨xs, hq⟩, q⟩ | ⟨⟨xs, hq⟩, q⟩
  · obtain ⟨its, rv, p, hz⟩ := I1.list hq
    refine wpAny_pyIter_list p.isList ?_
    exact ⟨s1.heap.objs.size, [s1.heap.objs.size], _, _, H1, rfl, I1.kept (t' := s1.toks) (fun b o e => Heap.get?_push_of_some _ e), turn_list a _, ⟨_, Heap.get?_push_size _ rfl, rfl, rfl⟩, fp, q⟩
  · obtain ⟨its, rv, p, hz⟩ := I1.tuple hq
    refine wpAny_pyIter_tuple (show s1.heap.IsTuple a its.toArray from p) ?_
    exact ⟨s1.heap.objs.size, [s1.heap.objs.size], _, _, H1, rfl, I1.kept (t' := s1.toks) (fun b o e => Heap.get?_push_of_some _ e), turn_tuple a _, ⟨_, Heap.get?_push_size _ rfl, rfl, rfl⟩, fp, q⟩
/-- what a source is in the layer -/
theorem src_ok {m : Nat → Addr} {h : LH} {H : Hp} {d : D} {v : V} {s : Src} (rh : RelH G X.K m h H) (rd : RelD X.K m h.length H d v) (e : srcOf d h = some s) :
    ∃ a, v = .ref a ∧ ((∃ xs, SqL X.K H a xs) ∧ ItRel G X.K m h H (Itl X.K a) s ∨ (∃ xs, SqT X.K H a xs) ∧ ItRel G X.K m h H (Itt X.K a) s) := by
  cases rd with
  | non => cases e
  | bl _ => cases e
  | int _ => cases e
  | str _ => cases e
  | @tup a xs vs ht rs => cases e; exact ⟨a, rfl, .inr ⟨⟨vs, ht.sq⟩, it_tup ht.sq rs⟩⟩
  | @scr a ns hs => cases e; exact ⟨a, rfl, .inl ⟨⟨_, hs.sq⟩, it_scr hs⟩⟩
  | fn _ => cases e
  | @ref n hn =>
    cases q : h[n]? with
    | none => simp only [srcOf, q] at e; cases e
    | some o =>
      cases o with
      | ins c fs => simp only [srcOf, q] at e; cases e
      | dct kv => simp only [srcOf, q] at e; cases e
      | lst xs =>
        simp only [srcOf, q] at e
        cases e
        obtain ⟨vs, e1, r⟩ := rh.obj n _ q
        exact ⟨m n, rfl, .inl ⟨⟨vs, SqL.of e1⟩, it_list hn⟩⟩
theorem iSeq_ok (hl : PE X l (tE G X.K E fa)) : PI X tg l (tI G X.K E (iSeq fa)) := by
  refine PI_mono (pi_seq hl) ?_
  rintro σ H Q ⟨m, r, h, rh, rs, o⟩
  refine ⟨m, r, h, rh, rs, ?_⟩
  rcases OutI.bindR o with ⟨d, h1, e, o⟩ | ⟨c, fs, h1, e, o⟩
  · rw [e]
    intro m1 H1 v p1 d1
    cases q : srcOf d h1 with
    | none => simp only [q] at o; exact o.elim
    | some s =>
      simp only [q] at o
      obtain ⟨a, ev, z⟩ := src_ok p1.rel d1 q
      refine ⟨a, ev, ?_⟩
      rcases z with ⟨z1, z2⟩ | ⟨z1, z2⟩
      · exact .inl ⟨z1, o m1 H1 _ p1 z2⟩
      · exact .inr ⟨z1, o m1 H1 _ p1 z2⟩
  · rw [e]; exact o
/-! ### while -/
variable {body : List Stmt} {tc : EX} {tb : SX} {g : GX} {pos : Pos} {c : Expr}
theorem zWhile (hp : PassesOwn (model X.prog X.w) X.A X.env X.xe) (hc : PT X c (tT G X.K E tc)) (hb : PSs X body (tS G X.K E tb)) : PS X (.While c body [] pos) (tS G X.K E (sWhile tc tb)) := by
  refine PS_mono (ps_while hp hc hb) ?_
  rintro Z σ H ⟨m, r, h, rh, rs, o⟩
  refine ⟨fun n σ H => ∃ m r h, RelH G X.K m h H ∧ RelS X.K m h.length H r σ ∧ OutS G X.K E m h.length H Z (whileX tc tb n r h), ⟨fuelN, m, r, h, rh, rs, o⟩, ?_⟩
  rintro n σ H ⟨m, r, h, rh, rs, o⟩
  cases n with
  | zero => exact o.elim
  | succ n =>
    refine ⟨m, r, h, rh, rs, ?_⟩
    unfold whileX at o
    rcases OutS.toR o with ⟨x, h1, e, o⟩ | ⟨c, fs, h1, e, o⟩
    · rw [e]
      cases q : truth x h1 with
      | none => simp only [q] at o; exact o.elim
      | some k =>
        simp only [q] at o
        refine ⟨k, q, fun m1 H1 p => ?_⟩
        cases k with
        | false => exact iteF (o m1 H1 σ p (p.s rs))
        | true =>
          refine iteT ⟨fun σ' H' => ∃ m r h, RelH G X.K m h H' ∧ RelS X.K m h.length H' r σ' ∧ OutS G X.K E m h.length H' Z (whileX tc tb n r h), fun σ' H' q => ⟨n, Nat.lt_succ_self n, q⟩, m1, r, h1, p.rel, p.s rs, ?_⟩
          have o := OutS.later p o
          cases z : tb r h1 with
          | nx r2 h2 => rw [z] at o; exact fun m2 H2 s2 p2 q2 => ⟨m2, r2, h2, p2.rel, q2, OutS.later p2 o⟩
          | ct r2 h2 => rw [z] at o; exact fun m2 H2 s2 p2 q2 => ⟨m2, r2, h2, p2.rel, q2, OutS.later p2 o⟩
          | bk r2 h2 => rw [z] at o; exact o
          | rt d h2 => rw [z] at o; exact o
          | exc c fs h2 => rw [z] at o; exact o
          | stuck => rw [z] at o; exact o.elim
    · rw [e]; exact o
/-! ### for -/
theorem zFor (hp : PassesOwn (model X.prog X.w) X.A X.env X.xe) (hc : X.calm = true) (hi : PI X tg iter (tI G X.K E fi)) (hg : PG X tg (tG G X.K E g)) (hb : PSs X body (tS G X.K E tb))
    (hs : ∀ x, foldedSetIterable iter X.env x = pure x := by intro _; rfl) : PS X (.For tg iter body [] pos) (tS G X.K E (sFor fi g tb)) := by
  refine PS_mono (ps_for hp hc hi hg hb hs) ?_
  rintro Z σ H ⟨m, r, h, rh, rs, o⟩
  refine ⟨m, r, h, rh, rs, ?_⟩
  rcases OutS.toR o with ⟨src, h1, e, o⟩ | ⟨c, fs, h1, e, o⟩
  · rw [e]
    intro m1 H1 J p1 ir
    refine ⟨fun i n σ H => ∃ m r h, Post G X.K m1 h1.length H1 m h H ∧ RelS X.K m h.length H r σ ∧ OutS G X.K E m h.length H Z (forX src g tb n i r h), ⟨fuelN, m1, r, h1, Post.refl p1.rel, p1.s rs, OutS.later p1 o⟩, ?_⟩
    rintro i n σ H ⟨m, r, h, p, rs, o⟩
    cases n with
    | zero => exact o.elim
    | succ n =>
      have it := ir m h H i p
      unfold forX at o
      cases q : srcAt src h i with
      | none => simp only [q] at o; exact o.elim
      | some w =>
        cases w with
        | none =>
          simp only [q] at o it
          exact .inl ⟨it, o m H σ (Post.refl p.rel) rs⟩
        | some d =>
          simp only [q] at o it
          refine .inr ⟨it.1, fun σ' H' => ∃ m r h, Post G X.K m1 h1.length H1 m h H' ∧ RelS X.K m h.length H' r σ' ∧ OutS G X.K E m h.length H' Z (forX src g tb n (i + 1) r h), fun σ' H' q => ⟨n, Nat.lt_succ_self n, q⟩, fun x H' y => ?_⟩
          obtain ⟨p2, rd⟩ := it.2 x H' y
          refine ⟨m, r, h, d, p2.rel, p2.s rs, rd, ?_⟩
          have o := OutS.later p2 o
          cases z : g d r h with
          | nx r1 h2 =>
            rw [z] at o
            intro m3 H3 s3 p3 rs3
            refine ⟨m3, r1, h2, p3.rel, rs3, ?_⟩
            have o := OutS.later p3 o
            simp only at o
            have pp := p.trans (p2.trans p3)
            cases w : tb r1 h2 with
            | nx r2 h4 => simp only [w] at o; exact fun m4 H4 s4 p4 rs4 => ⟨m4, r2, h4, pp.trans p4, rs4, OutS.later p4 o⟩
            | ct r2 h4 => simp only [w] at o; exact fun m4 H4 s4 p4 rs4 => ⟨m4, r2, h4, pp.trans p4, rs4, OutS.later p4 o⟩
            | bk r2 h4 => simp only [w] at o; exact o
            | rt d h4 => simp only [w] at o; exact o
            | exc c fs h4 => simp only [w] at o; exact o
            | stuck => simp only [w] at o; exact o.elim
          | ct r2 h4 => simp only [z] at o; exact o.elim
          | bk r2 h4 => simp only [z] at o; exact o.elim
          | rt d h4 => simp only [z] at o; exact o.elim
          | exc c fs h4 => simp only [z] at o; exact o.elim
          | stuck => simp only [z] at o; exact o.elim
  · rw [e]; exact o
/-! ### comprehensions -/
theorem wipe_rel {K : PySem.W.Frag} {m : Nat → Addr} {N : Nat} {H : Hp} {r : LS} {σ : L2.St} (rs : RelS K m N H r σ) : ∀ vs : List Nat, RelS K m N H (wipeL r vs) (wipe σ vs)
  | [] => rs
  | v :: vs => RelS.set0 v (wipe_rel rs vs)
theorem wipe_comm (σ : L2.St) (v : Nat) : ∀ vs : List Nat, wipe (σ.set v none) vs = (wipe σ vs).set v none
  | [] => rfl
  | u :: us => by
    unfold wipe
    rw [wipe_comm σ v us]
    by_cases h : u = v
    · subst h; rfl
    · exact List.set_comm _ _ (Ne.symm h)
theorem wipe_wipe (σ : L2.St) : ∀ vs : List Nat, wipe (wipe σ vs) vs = wipe σ vs
  | [] => rfl
  | v :: vs => by
    show (wipe ((wipe σ vs).set v none) vs).set v none = (wipe σ vs).set v none
    rw [wipe_comm, List.set_set, wipe_wipe σ vs]
/-- the targets of a comprehension -/
def TgOk (X : Cx) (vs : List Nat) (gg : TG) : Prop :=
  ∀ (m : Nat → Addr) (h : LH) (H : Hp) (r r1 : LS) (σ : L2.St) (d : D) (x : V) (Q : L2.St → Hp → Prop), RelS X.K m h.length H r σ → RelD X.K m h.length H d x → tgt vs d r = some r1 → (∀ σ1, RelS X.K m h.length H r1 σ1 → wipe σ1 vs = wipe σ vs → Q σ1 H) → gg x σ H Q
theorem tg1 (i : Nat) : TgOk X [i] (gName i) := by
  intro m h H r r1 σ d x Q rs rd e q
  cases e
  exact q _ (RelS.set rd i rs) (by show ((σ.set i (some x)).set i none) = σ.set i none; rw [List.set_set])
theorem tg2 (i j : Nat) (hij : i ≠ j) : TgOk X [i, j] (gTup X.K 2 (gCons (gName i) (gCons (gName j) gNil))) := by
  intro m h H r r1 σ d x Q rs rd e q
  cases rd with
  | non => cases e
  | bl _ => cases e
  | int _ => cases e
  | str _ => cases e
  | ref _ => cases e
  | scr _ => cases e
  | fn _ => cases e
  | @tup a xs vs ht rds =>
    cases rds with
    | nil => cases e
    | @cons d1 v1 ds1 vs1 a1 b1 =>
      cases b1 with
      | nil => cases e
      | @cons d2 v2 ds2 vs2 a2 b2 =>
        cases b2 with
        | cons _ _ => cases e
        | nil =>
          cases e
          refine ⟨a, _, rfl, ht.sq, rfl, v1, [v2], rfl, v2, [], rfl, rfl, ?_⟩
          refine q _ (RelS.set a2 j (RelS.set a1 i rs)) ?_
          show ((((σ.set i (some v1)).set j (some v2)).set j none).set i none) = (σ.set j none).set i none
          rw [List.set_set, List.set_comm _ _ hij, List.set_set]
theorem toComp {gg : TG} {ft fe : EX} {vs : List Nat} (hgg : TgOk X vs gg) {σ : L2.St} {H : Hp} {Q : VK} (t : tE G X.K E (eComp vs fi ft fe) σ H Q) : tLc (tI G X.K E fi) gg (tT G X.K E0 ft) (tE G X.K E0 fe) vs σ H Q := by
  obtain ⟨m, r, h, rh, rs, o⟩ := t
  refine ⟨m, r, h, rh, rs, ?_⟩
  rcases Out.bindR o with ⟨src, h1, e, o⟩ | ⟨c, fs, h1, e, o⟩
  · rw [e]
    intro m1 H1 J p1 ir D hD
    have rw1 : RelS X.K m1 h1.length H1 (wipeL r vs) (wipe σ vs) := wipe_rel (p1.s rs) vs
    -- the state within the loop: the new list at D is no object of the logical heap
    have pD := p1.rel.newT (u := HO.lst []) hD
    have outD : ∀ i, i < h1.length → m1 i ≠ D := fun i hi => p1.rel.ne hi hD
    refine ⟨fun i n H' => ∃ m2 h2 acc vs2, Post G X.K m1 h1.length H1 m2 h2 H' ∧ (∀ i, i < h2.length → m2 i ≠ D) ∧ H' D = some (.lst vs2) ∧ RelDs X.K m2 h2.length H' acc vs2 ∧
      Out G X.K E m1 h1.length H1 Q ((compX src vs ft fe n i acc (wipeL r vs) h2).bind fun acc h3 => .ok (.ref h3.length) (h3 ++ [.lst acc])), ⟨fuelN, m1, h1, [], [], pD, outD, upd_same, .nil, Out.later p1 o⟩, ?_⟩
    rintro i n H' ⟨m2, h2, acc, vs2, p2, out, hD2, racc, o⟩
    have ir2 := ir m2 h2 H' i p2
    cases n with
    | zero => exact o.elim
    | succ n =>
      unfold compX at o
      cases q : srcAt src h2 i with
      | none => simp only [q] at o; exact o.elim
      | some w =>
        cases w with
        | none =>
          simp only [q] at o ir2
          refine .inl ⟨ir2, ?_⟩
          -- the end: the list becomes a logical object
          have rel3 : RelH G X.K (ext m2 h2.length D) (h2 ++ [O.lst acc]) H' := by
            have ag : ∀ i, i < h2.length → ext m2 h2.length D i = m2 i := fun i hi => ext_ne (Nat.ne_of_lt hi)
            refine ⟨fun k ob ek => ?_, fun a b ha hb eab => ?_, p2.rel.tab⟩
            · by_cases hk : k < h2.length
              · rw [List.getElem?_append_left hk] at ek
                rw [ag k hk]
                exact (p2.rel.obj k ob ek).mono ag (by simp) (TK.refl _) rfl
              · have : k = h2.length := by
                  have := (List.getElem?_eq_some_iff.mp ek).1
                  simp at this
                  omega
                subst this
                simp at ek
                subst ek
                rw [ext_self]
                exact ⟨vs2, hD2, racc.mono ag (by simp) (TK.refl _)⟩
            · simp at ha hb
              by_cases h1' : a < h2.length
              · by_cases h2' : b < h2.length
                · rw [ag a h1', ag b h2'] at eab
                  exact p2.rel.inj a b h1' h2' eab
                · have : b = h2.length := by omega
                  subst this
                  rw [ag a h1', ext_self] at eab
                  exact absurd eab (out a h1')
              · have h1'' : a = h2.length := by omega
                subst h1''
                by_cases h2' : b < h2.length
                · rw [ag b h2', ext_self] at eab
                  exact absurd eab.symm (out b h2')
                · omega
          have pp := p2
          have fin : Post G X.K m1 h1.length H1 (ext m2 h2.length D) (h2 ++ [O.lst acc]) H' := by
            refine ⟨fun i hi => ?_, by have := p2.len; simp; omega, pp.tk, rel3, fun i h1' h2' => ?_, pp.fr⟩
            · have := p2.len
              rw [ext_ne (by omega)]
              exact p2.agr i hi
            · by_cases hk : i < h2.length
              · rw [ext_ne (Nat.ne_of_lt hk)]
                exact pp.new i h1' hk
              · have : i = h2.length := by simp at h2'; omega
                subst this
                rw [ext_self]; exact fun o e => by rw [hD] at e; cases e
          have z : RelD X.K (ext m2 h2.length D) (h2 ++ [O.lst acc]).length H' (.ref h2.length) (.ref (ext m2 h2.length D h2.length)) := .ref (by simp)
          rw [ext_self] at z
          exact o _ H' _ fin z
        | some d =>
          simp only [q] at o ir2
          refine .inr ⟨ir2.1, fun H3 => ∃ m2 h2 acc vs2, Post G X.K m1 h1.length H1 m2 h2 H3 ∧ (∀ i, i < h2.length → m2 i ≠ D) ∧ H3 D = some (.lst vs2) ∧ RelDs X.K m2 h2.length H3 acc vs2 ∧
            Out G X.K E m1 h1.length H1 Q ((compX src vs ft fe n (i + 1) acc (wipeL r vs) h2).bind fun acc h3 => .ok (.ref h3.length) (h3 ++ [.lst acc])), fun H3 z => ⟨n, Nat.lt_succ_self n, z⟩, fun x H3 y => ?_⟩
          obtain ⟨p3, rd⟩ := ir2.2 x H3 y
          have hD3 : H3 D = some (.lst vs2) := p3.fr D _ hD2 (fun _ z => nomatch z) out
          have p23 := p2.trans p3
          cases zt : tgt vs d (wipeL r vs) with
          | none => simp only [zt] at o; exact o.elim
          | some r1 =>
            simp only [zt] at o
            refine hgg m2 h2 H3 (wipeL r vs) r1 (wipe σ vs) d x _ (p23.s rw1) rd zt ?_
            intro σ1 rs1 hw
            refine ⟨?_, m2, r1, h2, p3.rel, rs1, ?_⟩
            · rw [hw]
              exact wipe_wipe σ vs
            · cases z1 : ft r1 h2 with
              | stuck => simp only [z1] at o; exact o.elim
              | exc c fs h4 => simp only [z1] at o; exact o.elim
              | ok y1 h4 =>
                simp only [z1] at o
                cases z2 : truth y1 h4 with
                | none => simp only [z2] at o; exact o.elim
                | some b =>
                  refine ⟨b, z2, fun m4 H4 p4 => ?_⟩
                  have out4 : ∀ k, k < h4.length → m4 k ≠ D := fun k hk => by
                    by_cases hk2 : k < h2.length
                    · rw [p4.agr k hk2]; exact out k hk2
                    · intro e
                      obtain ⟨ps, z⟩ := p4.new k (Nat.not_lt.mp hk2) hk _ (by rw [e]; exact hD3)
                      cases z
                  have hD4 : H4 D = some (.lst vs2) := p4.fr D _ hD3 (fun _ z => nomatch z) out
                  have racc4 := p4.ds (p3.ds racc)
                  cases b with
                  | false =>
                    simp only [z2] at o
                    exact iteF ⟨m4, h4, acc, vs2, p23.trans p4, out4, hD4, racc4, o⟩
                  | true =>
                    simp only [z2] at o
                    refine iteT ⟨m4, r1, h4, p4.rel, p4.s rs1, ?_⟩
                    cases z3 : fe r1 h4 with
                    | stuck => simp only [z3] at o; exact o.elim
                    | exc c fs h5 => simp only [z3] at o; exact o.elim
                    | ok y h5 =>
                      simp only [z3] at o
                      by_cases hl : acc.length < sizeLine
                      · rw [if_pos hl] at o
                        intro m5 H5 yv p5 ry
                        have hD5 : H5 D = some (.lst vs2) := p5.fr D _ hD4 (fun _ z => nomatch z) out4
                        have out5 : ∀ k, k < h5.length → m5 k ≠ D := fun k hk => by
                          by_cases hk2 : k < h4.length
                          · rw [p5.agr k hk2]; exact out4 k hk2
                          · intro e
                            obtain ⟨ps, z⟩ := p5.new k (Nat.not_lt.mp hk2) hk _ (by rw [e]; exact hD4)
                            cases z
                        refine ⟨vs2, hD5, by rw [← racc.length]; exact hl, ?_⟩
                        have tk : TK X.K H5 (upd H5 D (.lst (vs2 ++ [yv]))) := TK.upd_mut hD5 (fun _ z => nomatch z) (fun _ _ z => nomatch z)
                        have rel6 : RelH G X.K m5 h5 (upd H5 D (.lst (vs2 ++ [yv]))) := ⟨fun k ob ek => (p5.rel.obj k ob ek).mono (fun _ _ => rfl) (Nat.le_refl _) tk (by rw [upd_ne (out5 k (List.getElem?_eq_some_iff.mp ek).1)]), p5.rel.inj, tabs_upd p5.rel.tab hD5 (fun _ z => nomatch z) (fun _ z => nomatch z)⟩
                        have p25 := p23.trans (p4.trans p5)
                        refine ⟨m5, h5, acc ++ [y], vs2 ++ [yv], ⟨p25.agr, p25.len, p25.tk.trans tk, rel6, p25.new, fun a u ea nt hx => by rw [upd_ne (ne_of_none ea hD)]; exact p25.fr a u ea nt hx⟩, out5, upd_same, ((p5.ds racc4).append (.cons ry .nil)).mono (fun _ _ => rfl) (Nat.le_refl _) tk, o⟩
                      · rw [if_neg hl] at o; exact o.elim
  · rw [e]; exact o
theorem xComp {elt : Expr} {ifs : List Expr} {scope : Scope} {own : List (Str × Nat)} {gg : TG} {ft fe : EX} {vs : List Nat} (hc : X.calm = true) (hN : X.N.Nodup) (hi : PI X tg iter (tI G X.K E fi)) (ok : BlkOk X.N X.env.scope scope own) (hv : own.map (·.2) = vs)
    (hgg : TgOk X vs gg)
    (hg : ∀ (s : Shared) (H : Hp) (C : Addr) (cl : List (Str × Addr)) (fp : List Addr), PG (X.blk s H scope (compEnvC scope cl C X.env) fp) tg gg)
    (ht : ∀ (s : Shared) (H : Hp) (C : Addr) (cl : List (Str × Addr)) (fp : List Addr), PTs (X.blk s H scope (compEnvC scope cl C X.env) fp) ifs (tT G X.K E0 ft))
    (he : ∀ (s : Shared) (H : Hp) (C : Addr) (cl : List (Str × Addr)) (fp : List Addr), PE (X.blk s H scope (compEnvC scope cl C X.env) fp) elt (tE G X.K E0 fe))
    (hs : ∀ x, foldedSetIterable iter X.env x = pure x := by intro _; rfl) : PE X (.ListComp elt [⟨tg, iter, ifs, 0⟩] scope pos) (tE G X.K E (eComp vs fi ft fe)) := by
  subst hv
  refine PE_mono (pe_lc hc hN hi ok hg ht he hs) ?_
  intro σ H Q t
  exact toComp hgg t
end
end Py

set_option Elab.async false
set_option linter.all false
set_option maxRecDepth 100000
namespace Py
open PySem PySem.Spec PyProof.Rows L2
section
variable {X : Cx} {G : Gam} {E : XK}
/-! ### operators of ints -/
theorem opI_ok {f : Value → Value → Sem Value} {g : Int → Int → D} {gv : Int → Int → V} (ho : OpR X f (rI0 gv)) (hg : ∀ m N H i j, RelD X.K m N H (g i j) (gv i j)) : OpR X f (r2 G X.K E (opI g)) := by
  intro pins s σ H x y v u Q I rx ry ⟨m, h, dx, dy, rh, d1, d2, o⟩
  cases d1 <;> try exact o.elim
  cases d2 <;> try exact o.elim
  exact ho pins s σ H _ _ v u Q I rx ry ⟨_, _, rfl, rfl, o m H _ (Post.refl rh) (hg _ _ _ _ _)⟩
theorem sub_ok : OpR X (binaryOp .Sub) (r2 G X.K E oSub) := opI_ok op_sub fun _ _ _ _ _ => .int _
theorem lt_ok : OpR X (compareOp .Lt) (r2 G X.K E oLt) := opI_ok op_lt fun _ _ _ _ _ => .bl _
theorem le_ok : OpR X (compareOp .LtE) (r2 G X.K E oLe) := opI_ok op_le fun _ _ _ _ _ => .bl _
theorem gt_ok : OpR X (compareOp .Gt) (r2 G X.K E oGt) := opI_ok op_gt fun _ _ _ _ _ => .bl _
theorem ge_ok : OpR X (compareOp .GtE) (r2 G X.K E oGe) := opI_ok op_ge fun _ _ _ _ _ => .bl _
theorem isB_opI {p : Int → Int → Bool} : IsB2 (opI fun i j => .bl (p i j)) := by
  intro x y h d h' e
  cases x <;> cases y <;> simp only [opI] at e <;> cases e
  exact ⟨_, rfl⟩
theorem isB_lt : IsB2 oLt := isB_opI
theorem isB_le : IsB2 oLe := isB_opI
theorem isB_gt : IsB2 oGt := isB_opI
theorem isB_ge : IsB2 oGe := isB_opI
theorem mod_ok : OpR X (binaryOp .Mod) (r2 G X.K E oMod) := by
  intro pins s σ H x y v u Q I rx ry ⟨m, h, dx, dy, rh, d1, d2, o⟩
  cases d1 <;> try exact o.elim
  cases d2 <;> try exact o.elim
  rename_i i j
  simp only [oMod] at o
  by_cases hj : 0 < j
  · rw [if_pos hj] at o
    exact op_mod pins s σ H _ _ v u Q I rx ry ⟨_, _, rfl, rfl, hj, o m H _ (Post.refl rh) (.int _)⟩
  · rw [if_neg hj] at o; exact o.elim
theorem div_ok : OpR X (binaryOp .FloorDiv) (r2 G X.K E oDiv) := by
  intro pins s σ H x y v u Q I rx ry ⟨m, h, dx, dy, rh, d1, d2, o⟩
  cases d1 <;> try exact o.elim
  cases d2 <;> try exact o.elim
  rename_i i j
  simp only [oDiv] at o
  by_cases hj : 0 < j ∧ j < 1073741824
  · rw [if_pos hj] at o
    exact op_fdiv pins s σ H _ _ v u Q I rx ry ⟨_, _, rfl, rfl, hj, o m H _ (Post.refl rh) (.int _)⟩
  · rw [if_neg hj] at o; exact o.elim
theorem pow_ok : OpR X (binaryOp .Pow) (r2 G X.K E oPow) := by
  intro pins s σ H x y v u Q I rx ry ⟨m, h, dx, dy, rh, d1, d2, o⟩
  cases d1 <;> try exact o.elim
  cases d2 <;> try exact o.elim
  rename_i i j
  simp only [oPow] at o
  by_cases hj : 0 ≤ j ∧ j ≤ 1000000 ∧ i.natAbs < 2 ^ 64
  · rw [if_pos hj] at o
    exact op_pow pins s σ H _ _ v u Q I rx ry ⟨_, _, rfl, rfl, hj, o m H _ (Post.refl rh) (.int _)⟩
  · rw [if_neg hj] at o; exact o.elim
/-- a new list -/
theorem out_lst {m : Nat → Addr} {h : LH} {H : Hp} {Q : VK} {xs : List D} {vs : List V} (rh : RelH G X.K m h H) (rd : RelDs X.K m h.length H xs vs) (o : Out G X.K E m h.length H Q (.ok (.ref h.length) (h ++ [.lst xs]))) (p : Addr) (hp : H p = none) : Q (.ref p) (upd H p (.lst vs)) := by
  have q := rh.new (o := .lst xs) (u := .lst vs) hp (fun m' ag e => ⟨vs, upd_same, rd.mono ag (Nat.le_succ _) (TK.upd_new hp)⟩)
  have z : RelD X.K (ext m h.length p) (h ++ [O.lst xs]).length (upd H p (.lst vs)) (.ref h.length) (.ref (ext m h.length p h.length)) := .ref (by simp)
  rw [ext_self] at z
  exact o _ _ _ q z
/-- a new tuple -/
theorem out_tup {m : Nat → Addr} {h : LH} {H : Hp} {Q : VK} {xs : List D} {vs : List V} (rh : RelH G X.K m h H) (rd : RelDs X.K m h.length H xs vs) (o : Out G X.K E m h.length H Q (.ok (.tup xs) h)) (p : Addr) (ob : Obj) (hp : H p = none) (hd : ob.dict = none) : Q (.ref p) (upd H p (.frz ob (.tup vs))) := by
  have q := rh.newT (u := .frz ob (.tup vs)) hp
  exact o m _ _ q (.tup (sx_new hd) (q.ds rd))
/-- .. that begins with a whole number -/
theorem out_tupI {m : Nat → Addr} {h : LH} {H : Hp} {Q : VK} {i : Int} {xs : List D} {vs : List V} (rh : RelH G X.K m h H) (rd : RelDs X.K m h.length H xs (.int i :: vs)) (o : Out G X.K E m h.length H Q (.ok (.tup xs) h)) (p : Addr) (hp : H p = none) : Q (.ref p) (upd H p (.tup (.int i :: vs))) := by
  have q := rh.newT (u := .tup (.int i :: vs)) hp
  exact o m _ _ q (.tup ⟨SqT.of upd_same, .inr ⟨_, _, rfl⟩⟩ (q.ds rd))
theorem lst_at {m : Nat → Addr} {h : LH} {H : Hp} {n : Nat} {xs : List D} (rh : RelH G X.K m h H) (e : h[n]? = some (.lst xs)) : ∃ vs, H (m n) = some (.lst vs) ∧ RelDs X.K m h.length H xs vs := rh.obj n _ e
theorem RelDs.rep {K : PySem.W.Frag} {m : Nat → Addr} {N : Nat} {H : Hp} {xs : List D} {vs : List V} (r : RelDs K m N H xs vs) : ∀ k : Nat, RelDs K m N H (List.replicate k xs).flatten (List.replicate k vs).flatten
  | 0 => .nil
  | k + 1 => by
    rw [List.replicate_succ, List.replicate_succ, List.flatten_cons, List.flatten_cons]
    exact r.append (RelDs.rep r k)
theorem mul_ok : OpR X (binaryOp .Mult) (r2 G X.K E oMul) := by
  intro pins s σ H x y v u Q I rx ry ⟨m, h, dx, dy, rh, d1, d2, o⟩
  cases d1 with
  | int i =>
    cases d2 <;> try exact o.elim
    rename_i j
    simp only [oMul] at o
    by_cases hj : (small i || small j) = true
    · rw [if_pos hj] at o
      have hc : CMul i j := by
        simp only [small, Bool.or_eq_true, Bool.and_eq_true, decide_eq_true_eq] at hj
        exact hj
      exact op_mul pins s σ H _ _ v u Q I rx ry ⟨_, _, rfl, rfl, hc, o m H _ (Post.refl rh) (.int _)⟩
    · rw [if_neg hj] at o; exact o.elim
  | @ref n hn =>
    cases d2 <;> try exact o.elim
    rename_i k
    simp only [oMul] at o
    cases q : h[n]? with
    | none => simp only [q] at o; exact o.elim
    | some ob =>
      cases ob with
      | ins c fs => simp only [q] at o; exact o.elim
      | dct kv => simp only [q] at o; exact o.elim
      | lst xs =>
        simp only [q] at o
        by_cases hk : xs.length * k.toNat ≤ sizeLine ∧ -(2 ^ 63) ≤ k ∧ k < 2 ^ 63
        · rw [if_pos hk] at o
          obtain ⟨vs, e1, rv⟩ := lst_at rh q
          refine op_rep pins s σ H _ _ v u Q I rx ry ⟨m n, k, vs, rfl, rfl, e1, hk.2.1, hk.2.2, by rw [← rv.length]; exact hk.1, ?_⟩
          exact out_lst rh (rv.rep k.toNat) o
        · rw [if_neg hk] at o; exact o.elim
  | non => exact o.elim
  | bl _ => exact o.elim
  | str _ => exact o.elim
  | tup _ _ => exact o.elim
  | scr _ => exact o.elim
  | fn _ => exact o.elim
theorem add_ok : OpR X (binaryOp .Add) (r2 G X.K E oAdd) := by
  intro pins s σ H x y v u Q I rx ry ⟨m, h, dx, dy, rh, d1, d2, o⟩
  cases d1 with
  | int i =>
    cases d2 <;> try exact o.elim
    exact op_add pins s σ H _ _ v u Q I rx ry ⟨_, _, rfl, rfl, o m H _ (Post.refl rh) (.int _)⟩
  | str i =>
    cases d2 <;> try exact o.elim
    rename_i j
    simp only [oAdd] at o
    by_cases hl : i.length + j.length ≤ sizeLine
    · rw [if_pos hl] at o
      exact op_add_str pins s σ H _ _ v u Q I rx ry ⟨_, _, rfl, rfl, hl, o m H _ (Post.refl rh) (.str _)⟩
    · rw [if_neg hl] at o; exact o.elim
  | @tup a xs vs ht rs =>
    cases d2 <;> try exact o.elim
    rename_i b ys ws hb rt
    simp only [oAdd] at o
    by_cases hl : xs.length + ys.length ≤ sizeLine
    · rw [if_pos hl] at o
      refine op_catF pins s σ H _ _ v u Q I rx ry ⟨a, b, vs, ws, rfl, rfl, ht.sq, hb.sq, by rw [← rs.length, ← rt.length]; exact hl, fun e => ?_, fun _ e => ?_, fun p ob hp hd => out_tup rh (rs.append rt) o p ob hp hd⟩
      · subst e
        cases rs
        exact o m H _ (Post.refl rh) (.tup hb rt)
      · subst e
        cases rt
        rw [List.append_nil] at o
        exact o m H _ (Post.refl rh) (.tup ht rs)
    · rw [if_neg hl] at o; exact o.elim
  | @ref n hn =>
    cases d2 <;> try exact o.elim
    rename_i k hk
    simp only [oAdd] at o
    cases q : h[n]? with
    | none => simp only [q] at o; exact o.elim
    | some ob =>
      cases ob with
      | ins c fs => simp only [q] at o; exact o.elim
      | dct kv => simp only [q] at o; exact o.elim
      | lst xs =>
        cases q2 : h[k]? with
        | none => simp only [q, q2] at o; exact o.elim
        | some ob2 =>
          cases ob2 with
          | ins c fs => simp only [q, q2] at o; exact o.elim
          | dct kv => simp only [q, q2] at o; exact o.elim
          | lst ys =>
            simp only [q, q2] at o
            by_cases hl : xs.length + ys.length ≤ sizeLine
            · rw [if_pos hl] at o
              obtain ⟨vs, e1, rv⟩ := lst_at rh q
              obtain ⟨ws, e2, rw'⟩ := lst_at rh q2
              exact op_cat pins s σ H _ _ v u Q I rx ry ⟨m n, m k, vs, ws, rfl, rfl, e1, e2, by rw [← rv.length, ← rw'.length]; exact hl, out_lst rh (rv.append rw') o⟩
            · rw [if_neg hl] at o; exact o.elim
  | non => exact o.elim
  | bl _ => exact o.elim
  | scr _ => exact o.elim
  | fn _ => exact o.elim
/-! ### sequences -/
theorem seq_okX {m : Nat → Addr} {h : LH} {H : Hp} {d : D} {v : V} {xs : List D} (rh : RelH G X.K m h H) (rd : RelD X.K m h.length H d v) (e : seqD d h = some xs) :
    ∃ a vs, v = .ref a ∧ (SqL X.K H a vs ∨ SqX X.K H a vs) ∧ RelDs X.K m h.length H xs vs := by
  cases rd with
  | non => cases e
  | bl _ => cases e
  | int _ => cases e
  | str _ => cases e
  | @tup a ys vs ht rs => cases e; exact ⟨a, vs, rfl, .inr ht, rs⟩
  | @scr a ns hs => cases e; exact ⟨a, _, rfl, .inl hs.sq, RelDs.ints ns⟩
  | fn _ => cases e
  | @ref n hn =>
    cases q : h[n]? with
    | none => simp only [seqD, q] at e; cases e
    | some ob =>
      cases ob with
      | ins c fs => simp only [seqD, q] at e; cases e
      | dct kv => simp only [seqD, q] at e; cases e
      | lst ys =>
        simp only [seqD, q] at e
        cases e
        obtain ⟨vs, e1, rv⟩ := lst_at rh q
        exact ⟨m n, vs, rfl, .inl (SqL.of e1), rv⟩
theorem seq_ok {m : Nat → Addr} {h : LH} {H : Hp} {d : D} {v : V} {xs : List D} (rh : RelH G X.K m h H) (rd : RelD X.K m h.length H d v) (e : seqD d h = some xs) :
    ∃ a vs, v = .ref a ∧ (SqL X.K H a vs ∨ SqT X.K H a vs) ∧ RelDs X.K m h.length H xs vs := by
  obtain ⟨a, vs, q1, q2, q3⟩ := seq_okX rh rd e
  exact ⟨a, vs, q1, q2.imp id SqX.sq, q3⟩
theorem flat_ok {m : Nat → Addr} {N : Nat} {H : Hp} {d : D} {v : V} (rd : RelD X.K m N H d v) (f : flatD d = true) : flatV v = true := by
  cases rd <;> first | rfl | cases f
theorem eqF_ok {m : Nat → Addr} {N : Nat} {H : Hp} {d d' : D} {v v' : V} (rd : RelD X.K m N H d v) (rd' : RelD X.K m N H d' v') (f : flatD d = true) (f' : flatD d' = true) : eqV v v' = eqF d d' := by
  cases rd <;> cases rd' <;> first | rfl | exact absurd f Bool.false_ne_true | exact absurd f' Bool.false_ne_true
theorem flats_ok {m : Nat → Addr} {N : Nat} {H : Hp} : ∀ {xs : List D} {vs : List V}, RelDs X.K m N H xs vs → xs.all flatD = true → vs.all flatV = true
  | _, _, .nil, _ => rfl
  | _, _, .cons a r, f => by
    simp only [List.all_cons, Bool.and_eq_true] at f ⊢
    exact ⟨flat_ok a f.1, flats_ok r f.2⟩
theorem inV_ok {m : Nat → Addr} {N : Nat} {H : Hp} {x : D} {v : V} (rx : RelD X.K m N H x v) (fx : flatD x = true) : ∀ {xs : List D} {vs : List V}, RelDs X.K m N H xs vs → xs.all flatD = true → inV v vs = xs.any fun z => eqF z x
  | _, _, .nil, _ => rfl
  | _, _, .cons a r, f => by
    simp only [List.all_cons, Bool.and_eq_true] at f
    have ih := inV_ok rx fx r f.2
    unfold inV at ih ⊢
    rw [List.any_cons, List.any_cons, ih, eqF_ok a rx f.1 fx]
theorem in_ok : OpR X (compareOp .In) (r2 G X.K E (oIn false)) := by
  intro pins s σ H x y v u Q I rx ry ⟨m, h, dx, dy, rh, d1, d2, o⟩
  simp only [oIn] at o
  cases q : seqD dy h with
  | none => simp only [q] at o; exact o.elim
  | some xs =>
    simp only [q] at o
    by_cases f : (flatD dx && xs.all flatD) = true
    · rw [if_pos f] at o
      rw [Bool.and_eq_true] at f
      obtain ⟨a, vs, rfl, hs, rs⟩ := seq_ok rh d2 q
      refine op_in_seq pins s σ H _ _ v u Q I rx ry ⟨a, vs, rfl, hs, flat_ok d1 f.1, flats_ok rs f.2, ?_⟩
      rw [inV_ok d1 f.1 rs f.2]
      exact o m H _ (Post.refl rh) (.bl _)
    · rw [if_neg f] at o; exact o.elim
theorem notin_ok : OpR X (compareOp .NotIn) (r2 G X.K E (oIn true)) := by
  intro pins s σ H x y v u Q I rx ry ⟨m, h, dx, dy, rh, d1, d2, o⟩
  simp only [oIn] at o
  cases q : seqD dy h with
  | none => simp only [q] at o; exact o.elim
  | some xs =>
    simp only [q] at o
    by_cases f : (flatD dx && xs.all flatD) = true
    · rw [if_pos f] at o
      rw [Bool.and_eq_true] at f
      obtain ⟨a, vs, rfl, hs, rs⟩ := seq_ok rh d2 q
      refine op_notIn_seq pins s σ H _ _ v u Q I rx ry ⟨a, vs, rfl, hs, flat_ok d1 f.1, flats_ok rs f.2, ?_⟩
      rw [inV_ok d1 f.1 rs f.2]
      exact o m H _ (Post.refl rh) (.bl _)
    · rw [if_neg f] at o; exact o.elim
theorem isB_in (neg : Bool) : IsB2 (oIn neg) := by
  intro x y h d h' e
  simp only [oIn] at e
  split at e
  · split at e
    · cases e; exact ⟨_, rfl⟩
    · cases e
  · cases e
/-! subscripts -/
theorem atI_rel {m : Nat → Addr} {N : Nat} {H : Hp} {xs : List D} {vs : List V} {i : Int} {d : D} (r : RelDs X.K m N H xs vs) (e : atI xs i = some d) : ∃ v, atI vs i = some v ∧ RelD X.K m N H d v := by
  unfold atI at e ⊢
  rw [← r.length]
  cases q : ixN xs.length i with
  | none => rw [q] at e; cases e
  | some j =>
    rw [q] at e
    exact r.get e
theorem ix_ok : IxR X (r2 G X.K E oIx) := by
  intro va sli pins s σ H x y v u Q I rx ry ⟨m, h, dx, dy, rh, d1, d2, o⟩ hpl
  cases d2 <;> try exact o.elim
  rename_i i
  simp only [oIx] at o
  cases q : seqD dx h with
  | none => simp only [q] at o; exact o.elim
  | some xs =>
    simp only [q] at o
    cases z : atI xs i with
    | none => simp only [z] at o; exact o.elim
    | some d =>
      simp only [z] at o
      obtain ⟨a, vs, rfl, hs, rs⟩ := seq_ok rh d1 q
      obtain ⟨w, e1, rw'⟩ := atI_rel rs z
      have fin := o m H _ (Post.refl rh) rw'
      rcases hs with hs | hs
      · exact ix_list va sli pins s σ H _ _ v u Q I rx ry ⟨a, vs, i, w, rfl, rfl, hs, e1, fin⟩ hpl
      · exact ix_tup va sli pins s σ H _ _ v u Q I rx ry ⟨a, vs, i, w, rfl, rfl, hs, e1, fin⟩ hpl
theorem xIx {a b : Expr} {fa fb : EX} {pos : Pos} (ha : PE X a (tE G X.K E fa)) (hb : PE X b (tE G X.K E fb)) (hs : PlainIx b := by exact fun _ _ => rfl) : PE X (.Subscript a b pos) (tE G X.K E (e2 oIx fa fb)) :=
  PE_mono (pe_ix ix_ok ha hb hs) fun σ H Q t => toOp t
/-! ### calls of built-ins -/
theorem bltn {e : Expr} {es : List Expr} {fa : AX} {op : List D → LH → R D} {id : String} {x : Str} {p pos : Pos} (hc : CallR X (.builtin id) (rA G X.K E op)) (hg : Gl X x) (hm : X.mg x = none) (hv : bootBuiltins x = some (.builtin id)) (ha : PA X (e :: es) (tA G X.K E fa))
    (hn : x ≠ "__name__" := by decide) (hdb : (x == ("__debug__" : Str)) = false := by decide) (hs : starEach (e :: es) X.env = (false, eval e X.env) :: starEach es X.env := by rfl) (hpl : (backTo pos (starEach es X.env)).any (·.1) = false := by rfl) : PE X (.Call (.Name x p) (e :: es) [] pos) (tE G X.K E (eA op fa)) :=
  PE_mono (pe_callB hc hg hm hv ha hn hdb hs hpl) fun σ H Q t => toA (fun _ _ _ z => z) t
theorem bltnT {e : Expr} {es : List Expr} {fa : AX} {op : List D → LH → R D} {T : String} {x : Str} {p pos : Pos} (hc : CallR X (.type T) (rA G X.K E op)) (hg : Gl X x) (hm : X.mg x = none) (hv : bootBuiltins x = some (.type T)) (ha : PA X (e :: es) (tA G X.K E fa))
    (hn : x ≠ "__name__" := by decide) (hdb : (x == ("__debug__" : Str)) = false := by decide) (hs : starEach (e :: es) X.env = (false, eval e X.env) :: starEach es X.env := by rfl) (hpl : (backTo pos (starEach es X.env)).any (·.1) = false := by rfl) : PE X (.Call (.Name x p) (e :: es) [] pos) (tE G X.K E (eA op fa)) :=
  PE_mono (pe_callTy hc hg hm hv ha hn hdb hs hpl) fun σ H Q t => toA (fun _ _ _ z => z) t
theorem len_okB : CallR X (.builtin "len") (rA G X.K E bLen) := by
  intro pins s σ H xs us Q I r ⟨m, h, ds, rh, rd, o⟩
  cases rd with
  | nil => exact o.elim
  | @cons d v ds vs a b =>
    cases b with
    | cons _ _ => simp only [bLen] at o; exact o.elim
    | nil =>
      cases q : seqD d h with
      | some ys =>
        obtain ⟨p, ws, rfl, hs, rs⟩ := seq_ok rh a q
        have e : bLen [d] h = .ok (.int (ys.length : Nat)) h := by
          cases d <;> simp only [bLen, q]
          cases q
        rw [e] at o
        refine call_len_seq pins s σ H _ us Q I r ⟨p, ws, rfl, hs, ?_⟩
        rw [← rs.length]
        exact o m H _ (Post.refl rh) (.int _)
      | none =>
        cases a with
        | str x =>
          simp only [bLen] at o
          by_cases hl : x.length ≤ sizeLine
          · rw [if_pos hl] at o
            exact call_len_str pins s σ H _ us Q I r ⟨x, rfl, hl, o m H _ (Post.refl rh) (.int _)⟩
          · rw [if_neg hl] at o; exact o.elim
        | _ => simp only [bLen, q] at o; exact o.elim
theorem abs_okB : CallR X (.builtin "abs") (rA G X.K E bAbs) := by
  intro pins s σ H xs us Q I r ⟨m, h, ds, rh, rd, o⟩
  cases rd with
  | nil => exact o.elim
  | cons a b =>
    cases b with
    | cons _ _ => simp only [bAbs] at o; exact o.elim
    | nil =>
      cases a <;> try exact o.elim
      exact call_abs pins s σ H _ us Q I r ⟨_, rfl, o m H _ (Post.refl rh) (.int _)⟩
theorem int_okB : CallR X (.type "int") (rA G X.K E bInt) := by
  intro pins s σ H xs us Q I r ⟨m, h, ds, rh, rd, o⟩
  cases rd with
  | nil => exact o.elim
  | cons a b =>
    cases b with
    | cons _ _ => simp only [bInt] at o; exact o.elim
    | nil =>
      cases a with
      | int i => exact call_int1 pins s σ H _ us Q I r (.inl ⟨_, rfl, o m H _ (Post.refl rh) (.int _)⟩)
      | bl i => exact call_int1 pins s σ H _ us Q I r (.inr ⟨_, rfl, o m H _ (Post.refl rh) (.int _)⟩)
      | _ => exact o.elim
/-- two ints -/
theorem two_ok {f : Value} {op : List D → LH → R D} {g : Int → Int → D} {gv : Int → Int → V} (ho : CallR X f (fun xs H Q => ∃ i j, xs = [.int i, .int j] ∧ Q (gv i j) H)) (hg : ∀ m N H i j, RelD X.K m N H (g i j) (gv i j))
    (hop : ∀ ds h, (∃ i j, ds = [.int i, .int j] ∧ op ds h = .ok (g i j) h) ∨ op ds h = .stuck) : CallR X f (rA G X.K E op) := by
  intro pins s σ H xs us Q I r ⟨m, h, ds, rh, rd, o⟩
  rcases hop ds h with ⟨i, j, rfl, e⟩ | e
  · rw [e] at o
    cases rd with
    | cons a b =>
      cases b with
      | cons b c =>
        cases c
        cases a
        cases b
        exact ho pins s σ H _ us Q I r ⟨i, j, rfl, o m H _ (Post.refl rh) (hg _ _ _ _ _)⟩
  · rw [e] at o; exact o.elim
theorem two_cases (g : Int → Int → LH → R D) (op : List D → LH → R D) (h1 : ∀ i j h, op [.int i, .int j] h = g i j h) (h2 : ∀ ds h, (∃ i j, ds = [D.int i, .int j]) ∨ op ds h = .stuck) : ∀ ds h, (∃ i j, ds = [D.int i, .int j] ∧ op ds h = g i j h) ∨ op ds h = .stuck := by
  intro ds h
  rcases h2 ds h with ⟨i, j, rfl⟩ | e
  · exact .inl ⟨i, j, rfl, h1 i j h⟩
  · exact .inr e
theorem max_okB (hc : X.calm = true) : CallR X (.builtin "max") (rA G X.K E bMax) := by
  refine two_ok (g := fun i j => .int (if j > i then j else i)) (call_max2 hc) (fun _ _ _ _ _ => .int _) (two_cases (fun i j h => .ok (.int (if j > i then j else i)) h) _ (fun _ _ _ => rfl) ?_)
  intro ds h
  unfold bMax
  split
  · exact .inl ⟨_, _, rfl⟩
  · exact .inr rfl
theorem min_okB (hc : X.calm = true) : CallR X (.builtin "min") (rA G X.K E bMin) := by
  refine two_ok (g := fun i j => .int (if j < i then j else i)) (call_min2 hc) (fun _ _ _ _ _ => .int _) (two_cases (fun i j h => .ok (.int (if j < i then j else i)) h) _ (fun _ _ _ => rfl) ?_)
  intro ds h
  unfold bMin
  split
  · exact .inl ⟨_, _, rfl⟩
  · exact .inr rfl
theorem divmod_okB : CallR X (.builtin "divmod") (rA G X.K E bDivmod) := by
  intro pins s σ H xs us Q I r ⟨m, h, ds, rh, rd, o⟩
  have hd : (∃ i j, ds = [D.int i, .int j]) ∨ bDivmod ds h = .stuck := by
    unfold bDivmod
    split
    · exact .inl ⟨_, _, rfl⟩
    · exact .inr rfl
  rcases hd with ⟨i, j, rfl⟩ | e
  · simp only [bDivmod] at o
    by_cases hj : 0 < j ∧ j < 1073741824
    · rw [if_pos hj] at o
      cases rd with
      | cons a b =>
        cases b with
        | cons b c =>
          cases c
          cases a
          cases b
          exact call_divmod pins s σ H _ us Q I r ⟨i, j, rfl, hj, out_tupI rh (.cons (.int _) (.cons (.int _) .nil)) o⟩
    · rw [if_neg hj] at o; exact o.elim
  · rw [e] at o; exact o.elim
/-- one argument, a list or a tuple -/
theorem one_seq {f : Value} {op : List D → LH → R D} (hop : ∀ ds h, (∃ x xs, ds = [x] ∧ seqD x h = some xs) ∨ op ds h = .stuck)
    (ho : ∀ pins s σ H us Q m h x xs a vs, Inv X pins σ H s → Vals [.ref a] us → RelH G X.K m h H → RelD X.K m h.length H x (.ref a) → seqD x h = some xs → (SqL X.K H a vs ∨ SqX X.K H a vs) → RelDs X.K m h.length H xs vs → Out G X.K E m h.length H Q (op [x] h) →
      wpAny (model X.prog X.w) X.A (call f us) (EP X pins σ Q) X.xe s) : CallR X f (rA G X.K E op) := by
  intro pins s σ H xs us Q I r ⟨m, h, ds, rh, rd, o⟩
  rcases hop ds h with ⟨x, ys, rfl, e⟩ | e
  · cases rd with
    | cons a b =>
      cases b
      obtain ⟨p, ws, rfl, hs, rs⟩ := seq_okX rh a e
      exact ho pins s σ H us Q m h x ys p ws I r rh a e hs rs o
  · rw [e] at o; exact o.elim
theorem tuple_okB : CallR X (.type "tuple") (rA G X.K E bTuple) := by
  refine one_seq (fun ds h => ?_) ?_
  · unfold bTuple
    split
    · split
      · exact .inl ⟨_, _, rfl, by assumption⟩
      · exact .inr rfl
    · exact .inr rfl
  · intro pins s σ H us Q m h x xs a vs I r rh rd e hs rs o
    simp only [bTuple, e] at o
    refine call_tupleF pins s σ H _ us Q I r ⟨a, vs, rfl, ?_⟩
    rcases hs with hs | hs
    · exact .inl ⟨hs, out_tup rh rs o⟩
    · exact .inr ⟨hs.sq, o m H _ (Post.refl rh) (.tup hs rs)⟩
theorem lstD_ok {m : Nat → Addr} {h : LH} {H : Hp} {d : D} {v : V} {xs : List D} (rh : RelH G X.K m h H) (rd : RelD X.K m h.length H d v) (e : lstD d h = some xs) :
    ∃ n vs, d = .ref n ∧ n < h.length ∧ v = .ref (m n) ∧ h[n]? = some (.lst xs) ∧ H (m n) = some (.lst vs) ∧ RelDs X.K m h.length H xs vs := by
  cases rd with
  | non => cases e
  | bl _ => cases e
  | int _ => cases e
  | str _ => cases e
  | tup _ _ => cases e
  | scr _ => cases e
  | fn _ => cases e
  | @ref n hn =>
    cases q : h[n]? with
    | none => simp only [lstD, q] at e; cases e
    | some ob =>
      cases ob with
      | ins c fs => simp only [lstD, q] at e; cases e
      | dct kv => simp only [lstD, q] at e; cases e
      | lst ys =>
        simp only [lstD, q] at e
        cases e
        obtain ⟨vs, e1, rv⟩ := lst_at rh q
        exact ⟨n, vs, rfl, hn, rfl, q, e1, rv⟩
theorem bools_ok {m : Nat → Addr} {N : Nat} {H : Hp} : ∀ {xs : List D} {vs : List V} {bs : List Bool}, RelDs X.K m N H xs vs → boolsD xs = some bs → vs = bs.map V.bl
  | _, _, _, .nil, e => by cases e; rfl
  | _, _, bs, .cons (d := d) (ds := ds) a r, e => by
    cases a <;> try (cases e; done)
    cases q : boolsD ds with
    | none => simp only [boolsD, q] at e; cases e
    | some cs =>
      simp only [boolsD, q] at e
      cases e
      rw [bools_ok r q]
      rfl
theorem all_okB (hc : X.calm = true) : CallR X (.builtin "all") (rA G X.K E bAll) := by
  intro pins s σ H xs us Q I r ⟨m, h, ds, rh, rd, o⟩
  cases rd with
  | nil => exact o.elim
  | @cons d v ds vs a b =>
    cases b with
    | cons _ _ => simp only [bAll] at o; exact o.elim
    | nil =>
      simp only [bAll] at o
      cases q : lstD d h with
      | none => simp only [q, Option.bind_none] at o; exact o.elim
      | some ys =>
        simp only [q, Option.bind_some] at o
        cases z : boolsD ys with
        | none => simp only [z] at o; exact o.elim
        | some bs =>
          simp only [z] at o
          obtain ⟨n, ws, rfl, hn, rfl, e1, e2, rs⟩ := lstD_ok rh a q
          rw [bools_ok rs z] at e2
          exact cr_all hc pins s σ H _ us Q I r ⟨m n, bs, rfl, SqL.of e2, o m H _ (Post.refl rh) (.bl _)⟩
end
end Py

set_option Elab.async false
set_option linter.all false
set_option maxRecDepth 100000
namespace Py
open PySem PySem.Spec PyProof.Rows L2
section
variable {X : Cx} {G : Gam} {E : XK} {a b e o : Expr} {es : List Expr} {fa fb fo : EX} {fas : AX} {pos p2 apos cpos : Pos} {lo hi : Option Expr}
/-! ### slices -/
def OutP (G : Gam) (K : PySem.W.Frag) (E : XK) (m : Nat → Addr) (N : Nat) (H : Hp) (Q : Option Int → Hp → Prop) : R (Option Int) → Prop
  | .ok d h' => ∀ m' H', Post G K m N H m' h' H' → Q d H'
  | .exc c fs h' => OutX G K E m N H c fs h'
  | .stuck => False
def tP (G : Gam) (K : PySem.W.Frag) (E : XK) (f : PX) : TO := fun σ H Q => ∃ m r h, RelH G K m h H ∧ RelS K m h.length H r σ ∧ OutP G K E m h.length H Q (f r h)
theorem PO_mono {e : Option Expr} {t t' : TO} (a : PO X e t) (h : ∀ σ H Q, t' σ H Q → t σ H Q) : PO X e t' := ⟨fun pins s σ H Q I q => a.run pins s σ H Q I (h _ _ _ q)⟩
theorem pNo_ok : PO X none (tP G X.K E pNo) := PO_mono po_none fun σ H Q ⟨m, r, h, rh, rs, o⟩ => o m H (Post.refl rh)
theorem pSome_ok (ha : PE X e (tE G X.K E fa)) : PO X (some e) (tP G X.K E (pSome fa)) := by
  refine PO_mono (po_some ha) ?_
  rintro σ H Q ⟨m, r, h, rh, rs, o⟩
  refine ⟨m, r, h, rh, rs, ?_⟩
  unfold pSome at o
  cases q : fa r h with
  | stuck => rw [q] at o; exact o
  | exc c fs h1 => rw [q] at o; exact o
  | ok d h1 =>
    rw [q, R.bind_ok] at o
    intro m1 H1 v p1 d1
    cases d1 with
    | int i => exact ⟨i, rfl, o m1 H1 p1⟩
    | _ => exact o.elim
theorem cut_rel {m : Nat → Addr} {N : Nat} {H : Hp} {xs : List D} {vs : List V} (r : RelDs X.K m N H xs vs) (l u : Option Int) : RelDs X.K m N H (cutD xs l u) (cutV vs l u) := by
  unfold cutD cutV
  rw [← r.length]
  exact (r.drop _).take _
theorem xSl {pl pu : PX} (ha : PE X a (tE G X.K E fa)) (hl : PO X lo (tP G X.K E pl)) (hu : PO X hi (tP G X.K E pu)) : PE X (.Subscript a (.Slice lo hi none p2) pos) (tE G X.K E (eSl fa pl pu)) := by
  refine PE_mono (pe_slice (sl_list.or sl_tupF) ha hl hu) ?_
  rintro σ H Q ⟨m, r, h, rh, rs, o⟩
  refine ⟨m, r, h, rh, rs, ?_⟩
  unfold eSl at o
  cases q : fa r h with
  | stuck => rw [q] at o; exact o
  | exc c fs h1 => rw [q] at o; exact o
  | ok x h1 =>
    rw [q, R.bind_ok] at o
    intro m1 H1 v p1 d1
    refine ⟨m1, r, h1, p1.rel, p1.s rs, ?_⟩
    cases q1 : pl r h1 with
    | stuck => rw [q1] at o; exact o.elim
    | exc c fs h2 => rw [q1] at o; exact OutX.later p1 o
    | ok l h2 =>
      rw [q1, R.bind_ok] at o
      intro m2 H2 p2
      refine ⟨m2, r, h2, p2.rel, p2.s (p1.s rs), ?_⟩
      cases q2 : pu r h2 with
      | stuck => rw [q2] at o; exact o.elim
      | exc c fs h3 => rw [q2] at o; exact OutX.later (p1.trans p2) o
      | ok u h3 =>
        rw [q2, R.bind_ok] at o
        intro m3 H3 p3
        have pp := p1.trans (p2.trans p3)
        have d3 := (p2.trans p3).d d1
        have o := Out.later pp o
        cases d3 with
        | @tup ad xs vs ht rds =>
          refine .inr ⟨ad, vs, rfl, ht.sq, fun z => ?_, out_tup p3.rel (cut_rel rds l u) o⟩
          have e : cutD xs l u = xs := by
            unfold cutD
            rw [rds.length, z.1, z.2, List.drop_zero, Nat.sub_zero, ← rds.length, List.take_length]
          simp only [e] at o
          exact o m3 H3 _ (Post.refl p3.rel) (.tup ht rds)
        | @ref n hn =>
          cases z : h3[n]? with
          | none => simp only [z] at o; exact o.elim
          | some ob =>
            cases ob with
            | ins c fs => simp only [z] at o; exact o.elim
            | dct kv => simp only [z] at o; exact o.elim
            | lst xs =>
              simp only [z] at o
              obtain ⟨vs, e1, rv⟩ := lst_at p3.rel z
              exact .inl ⟨m3 n, vs, rfl, SqL.of e1, out_lst p3.rel (cut_rel rv l u) o⟩
        | non => exact o.elim
        | bl _ => exact o.elim
        | int _ => exact o.elim
        | str _ => exact o.elim
        | scr _ => exact o.elim
        | fn _ => exact o.elim
/-! ### methods of lists -/
theorem toBM {op : D → List D → LH → R D} {rd : V → List V → Hp → VK → Prop} (hr : ∀ m h H x v ds vs Q, RelH G X.K m h H → RelD X.K m h.length H x v → RelDs X.K m h.length H ds vs → Out G X.K E m h.length H Q (op x ds h) → rd v vs H Q)
    {σ : L2.St} {H : Hp} {Q : VK} (t : tE G X.K E (eBM op fo fas) σ H Q) : tE G X.K E fo σ H (fun x H1 => tyV X.K "list" x H1 ∧ tA G X.K E fas σ H1 fun xs H2 => rd x xs H2 Q) := by
  obtain ⟨m, r, h, rh, rs, o⟩ := t
  refine ⟨m, r, h, rh, rs, ?_⟩
  rcases Out.bindR o with ⟨x, h1, e, o⟩ | ⟨c, fs, h1, e, o⟩
  · rw [e]
    intro m1 H1 v p1 d1
    cases q : lstD x h1 with
    | none => simp only [q] at o; exact o.elim
    | some xs =>
      simp only [q] at o
      obtain ⟨n, vs, rfl, hn, rfl, e1, e2, rv⟩ := lstD_ok p1.rel d1 q
      refine ⟨.inl ⟨rfl, vs, SqL.of e2⟩, m1, r, h1, p1.rel, p1.s rs, ?_⟩
      rcases Out.bindR o with ⟨ds, h2, e, o⟩ | ⟨c, fs, h2, e, o⟩
      · rw [e]
        intro m2 H2 vs p2 d2
        exact hr m2 h2 H2 _ _ ds vs Q p2.rel (p2.d d1) d2 (Out.later (p1.trans p2) o)
      · rw [e]; exact OutX.later p1 o
  · rw [e]; exact o
/-- a list turns -/
theorem onL_ok {f : List D → Option (D × List D)} {m : Nat → Addr} {h : LH} {H : Hp} {x : D} {v : V} {Q : VK} (rh : RelH G X.K m h H) (rd : RelD X.K m h.length H x v) (o : Out G X.K E m h.length H Q (onL f x h)) :
    ∃ n xs vs d ys, v = .ref (m n) ∧ H (m n) = some (.lst vs) ∧ RelDs X.K m h.length H xs vs ∧ f xs = some (d, ys) ∧ ∀ w ws, RelD X.K m h.length H d w → RelDs X.K m h.length H ys ws → Q w (upd H (m n) (.lst ws)) := by
  cases rd with
  | non => exact o.elim
  | bl _ => exact o.elim
  | int _ => exact o.elim
  | str _ => exact o.elim
  | scr _ => exact o.elim
  | fn _ => exact o.elim
  | tup _ _ => exact o.elim
  | @ref n hn =>
    simp only [onL] at o
    cases z : h[n]? with
    | none => simp only [z] at o; exact o.elim
    | some ob =>
      cases ob with
      | ins c fs => simp only [z] at o; exact o.elim
      | dct kv => simp only [z] at o; exact o.elim
      | lst xs =>
        simp only [z] at o
        cases y : f xs with
        | none => simp only [y] at o; exact o.elim
        | some q =>
          obtain ⟨d, ys⟩ := q
          simp only [y] at o
          obtain ⟨vs, e1, rv⟩ := lst_at rh z
          refine ⟨n, xs, vs, d, ys, rfl, e1, rv, y, fun w ws rw' rws => ?_⟩
          have tk : TK X.K H (upd H (m n) (.lst ws)) := TK.upd_mut e1 (fun _ z => nomatch z) (fun _ _ z => nomatch z)
          have p := rh.upd (u := .lst ws) (o := .lst ys) z e1 (fun _ z => nomatch z) (fun _ _ z => nomatch z) ⟨ws, upd_same, rws.mono (fun _ _ => rfl) (Nat.le_refl _) tk⟩
          exact o m _ _ p (p.d rw')
theorem xAppend (ho : PE X o (tE G X.K E fo)) (ha : PA X [a] (tA G X.K E fas))
    (hbase : attributeBase o "append" X.env (eval o X.env) = eval o X.env := by rfl)
    (hfew : ((backTo cpos (starEach [a] X.env)).all (fun x => !x.1) && (backToKw cpos (keywordEach [] X.env)).all (fun x => x.1.isSome)
      && decide ([a].length + ([] : List Keyword).length + (if ([] : List Keyword).isEmpty then 0 else 1) < 30)) = true := by rfl)
    (hline : (apos.endLine == cpos.line) = true := by rfl) (hs : starEach [a] X.env = (false, eval a X.env) :: starEach [] X.env := by rfl) (hplain : (backTo cpos (starEach [] X.env)).any (·.1) = false := by rfl) :
    PE X (.Call (.Attribute o "append" apos) [a] [] cpos) (tE G X.K E (eBM mAppend fo fas)) := by
  refine PE_mono (pe_bm PySem.F.plainAttrs_list PySem.F.slot_list_append PySem.F.type_list_append mt_append ho ha hbase hfew hline hs hplain) ?_
  intro σ H Q t
  refine toBM (fun m h H x v ds vs Q rh rd rds o => ?_) t
  cases rds with
  | nil => exact o.elim
  | @cons d w ds ws a1 b1 =>
    cases b1 with
    | cons _ _ => exact o.elim
    | nil =>
      obtain ⟨n, xs, us, d', ys, rfl, e1, rv, ef, q⟩ := onL_ok rh rd o
      by_cases hl : xs.length < sizeLine
      · rw [if_pos hl] at ef
        cases ef
        exact ⟨m n, us, w, rfl, rfl, e1, by rw [← rv.length]; exact hl, q _ _ .non (rv.append (.cons a1 .nil))⟩
      · rw [if_neg hl] at ef; cases ef
/-! ### o[i] = v -/
theorem ixN_len {xs : List D} {vs : List V} {m : Nat → Addr} {N : Nat} {H : Hp} (r : RelDs X.K m N H xs vs) (k : Int) : ixN vs.length k = ixN xs.length k := by rw [r.length]
theorem gSub_ok {o i : Expr} {fo fi : EX} (ho : PE X o (tE G X.K E fo)) (hi : PE X i (tE G X.K E fi))
    (ha : ∀ v, assign (.Subscript o i pos) X.env v = (do
      let ov ← holding [v] (eval o X.env)
      let iv ← holding [v, ov] (eval i X.env)
      standAt pos
      holding [v, ov, iv] (setItem ov iv v)
      release [v, ov, iv] []) := by intro _; rfl) : PG X (.Subscript o i pos) (tG G X.K E (Py.gSub fo fi)) := by
  refine PG_mono (pg_sub ho hi set_list ha) ?_
  rintro v σ H Q ⟨m, r, h, d, rh, rs, rd, o⟩
  refine ⟨m, r, h, rh, rs, ?_⟩
  rcases OutS.toR o with ⟨x, h1, e, o⟩ | ⟨c, fs, h1, e, o⟩
  · rw [e]
    intro m1 H1 xv p1 d1
    refine ⟨m1, r, h1, p1.rel, p1.s rs, ?_⟩
    rcases OutS.toR o with ⟨y, h2, e, o⟩ | ⟨c, fs, h2, e, o⟩
    · rw [e]
      intro m2 H2 yv p2 d2
      have pp := p1.trans p2
      have o := OutS.later pp o
      have d1 := p2.d d1
      cases d1 with
      | @ref n hn =>
        cases d2 with
        | int k =>
          cases z : h2[n]? with
          | none => simp only [z] at o; exact o.elim
          | some ob =>
            cases ob with
            | ins c fs => simp only [z] at o; exact o.elim
            | dct kv => simp only [z] at o; exact o.elim
            | lst xs =>
              simp only [z] at o
              cases w : ixN xs.length k with
              | none => simp only [w] at o; exact o.elim
              | some j =>
                simp only [w] at o
                obtain ⟨vs, e1, rv⟩ := lst_at p2.rel z
                refine ⟨m2 n, vs, k, j, rfl, rfl, e1, by rw [ixN_len rv]; exact w, ?_⟩
                have tk : TK X.K H2 (upd H2 (m2 n) (.lst (vs.set j v))) := TK.upd_mut e1 (fun _ z => nomatch z) (fun _ _ z => nomatch z)
                have p := p2.rel.upd (u := .lst (vs.set j v)) (o := .lst (xs.set j d)) z e1 (fun _ z => nomatch z) (fun _ _ z => nomatch z) ⟨_, upd_same, (RelDs.set (pp.d rd) j rv).mono (fun _ _ => rfl) (Nat.le_refl _) tk⟩
                exact o m2 _ σ p (p.s (pp.s rs))
        | _ => exact o.elim
      | _ => exact o.elim
    · rw [e]; exact OutX.later p1 o
  · rw [e]; exact o
theorem ng_name {i : Nat} : NG (gN i) := fun _ _ _ => trivial
theorem ng_to {α : Type} {r : R α} {f : α → LH → F} (hf : ∀ a h, match f a h with | .rt _ _ => False | .bk _ _ => False | .ct _ _ => False | _ => True) : match r.to f with | .rt _ _ => False | .bk _ _ => False | .ct _ _ => False | _ => True := by
  cases r with
  | ok a h => exact hf a h
  | exc c fs h => trivial
  | stuck => trivial
theorem ng_sub {fo fi : EX} : NG (Py.gSub fo fi) := by
  intro d r h
  unfold Py.gSub
  refine ng_to fun x h1 => ng_to fun y h2 => ?_
  cases x <;> try trivial
  cases y <;> try trivial
  rename_i n k
  cases z : h2[n]? with
  | none => simp only [z]
  | some ob =>
    cases ob with
    | ins c fs => simp only [z]
    | dct kv => simp only [z]
    | lst xs =>
      cases w : ixN xs.length k with
      | none => simp only [z, w]
      | some j => simp only [z, w]
def NGs (g : GXs) : Prop := ∀ d r h, match g d r h with | .rt _ _ => False | .bk _ _ => False | .ct _ _ => False | _ => True
theorem ngs_nil : NGs gsNil := by
  intro d r h
  cases d <;> trivial
theorem ngs_cons {g : GX} {gs : GXs} (a : NG g) (b : NGs gs) : NGs (gsCons g gs) := by
  intro d r h
  cases d with
  | nil => trivial
  | cons x xs =>
    have q := a x r h
    simp only [gsCons]
    cases z : g x r h with
    | nx r1 h1 => exact b xs r1 h1
    | rt d h1 => rw [z] at q; exact q
    | bk r1 h1 => rw [z] at q; exact q
    | ct r1 h1 => rw [z] at q; exact q
    | exc c fs h1 => trivial
    | stuck => trivial
theorem ng_tup {n : Nat} {gs : GXs} (b : NGs gs) : NG (gT n gs) := by
  intro d r h
  cases d <;> try trivial
  rename_i xs
  simp only [gT]
  by_cases hl : xs.length = n
  · rw [if_pos hl]; exact b xs r h
  · rw [if_neg hl]; trivial
end
end Py

set_option Elab.async false
set_option linter.all false
set_option maxRecDepth 100000
namespace Py
open PySem PySem.Spec PyProof.Rows L2
section
variable {X : Cx} {G : Gam} {E : XK} {a b c e o : Expr} {es : List Expr} {fa fb fc fo : EX} {fas : AX} {pos p2 apos cpos : Pos}
/-! ### data as a whole -/
theorem mapO_all {n : Nat} {m : Nat → Addr} {h : LH} {H : Hp} (ih : ∀ (d : D) (v : V) (x : PyData), RelD X.K m h.length H d v → deep h n d = some x → Dp X.K H v x) : ∀ {xs : List D} {vs : List V} {ys : List PyData}, RelDs X.K m h.length H xs vs → mapO (deep h n) xs = some ys → DpAll X.K H vs ys
  | _, _, _, .nil, e => by cases e; exact .nil
  | _, _, ys, .cons (d := d) (ds := ds) a r, e => by
    simp only [mapO] at e
    cases q1 : deep h n d with
    | none => simp only [q1] at e; cases e
    | some x =>
      cases q2 : mapO (deep h n) ds with
      | none => simp only [q1, q2] at e; cases e
      | some zs =>
        simp only [q1, q2] at e
        cases e
        exact .cons (ih _ _ _ a q1) (mapO_all ih r q2)
theorem dp_ints {H : Hp} : ∀ ns : List Int, DpAll X.K H (ns.map V.int) (ns.map .int)
  | [] => .nil
  | _ :: r => .cons (.int _) (dp_ints r)
theorem deep_ok {m : Nat → Addr} {h : LH} {H : Hp} (rh : RelH G X.K m h H) : ∀ (n : Nat) (d : D) (v : V) (x : PyData), RelD X.K m h.length H d v → deep h n d = some x → Dp X.K H v x
  | n, _, _, x, .non, e => by cases n <;> (cases e; exact .non)
  | n, _, _, x, .bl b, e => by cases n <;> (cases e; exact .bl b)
  | n, _, _, x, .int i, e => by cases n <;> (cases e; exact .int i)
  | n, _, _, x, .str y, e => by cases n <;> (cases e; exact .str y)
  | n, _, _, x, .scr hs, e => by cases n <;> (cases e; exact .lst hs.sq (dp_ints _))
  | n, _, _, x, .fn _, e => by cases n <;> cases e
  | 0, _, _, x, .tup _ _, e => by cases e
  | 0, _, _, x, .ref _, e => by cases e
  | n + 1, .tup xs, _, x, .tup ht rs, e => by
    simp only [deep] at e
    cases q : mapO (deep h n) xs with
    | none => simp only [q] at e; cases e
    | some ys =>
      simp only [q] at e
      cases e
      exact .tup ht.sq (mapO_all (deep_ok rh n) rs q)
  | n + 1, .ref k, _, x, .ref hk, e => by
    simp only [deep] at e
    cases z : h[k]? with
    | none => simp only [z] at e; cases e
    | some ob =>
      cases ob with
      | ins c fs => simp only [z] at e; cases e
      | dct kv => simp only [z] at e; cases e
      | lst xs =>
        simp only [z] at e
        cases q : mapO (deep h n) xs with
        | none => simp only [q] at e; cases e
        | some ys =>
          simp only [q] at e
          cases e
          obtain ⟨vs, e1, rv⟩ := lst_at rh z
          exact .lst (SqL.of e1) (mapO_all (deep_ok rh n) rv q)
theorem eq_okD (hu : X.A.units + 64 < cLine) : OpR X (compareOp .Eq) (r2 G X.K E (oEqD false)) := by
  intro pins s σ H x y v u Q I rx ry ⟨m, h, dx, dy, rh, d1, d2, o⟩
  simp only [oEqD] at o
  cases q1 : deep h 60 dx with
  | none => simp only [q1] at o; exact o.elim
  | some p =>
    cases q2 : deep h 60 dy with
    | none => simp only [q1, q2] at o; exact o.elim
    | some q =>
      simp only [q1, q2] at o
      by_cases hs : (SeqAt.shaped p && SeqAt.shaped q) = true
      · rw [if_pos hs] at o
        rw [Bool.and_eq_true] at hs
        exact op_eqD hu pins s σ H x y v u Q I rx ry ⟨p, q, deep_ok rh _ _ _ _ d1 q1, deep_ok rh _ _ _ _ d2 q2, hs.1, hs.2, o m H _ (Post.refl rh) (.bl _)⟩
      · rw [if_neg hs] at o; exact o.elim
theorem ne_okD (hu : X.A.units + 64 < cLine) : OpR X (compareOp .NotEq) (r2 G X.K E (oEqD true)) := by
  intro pins s σ H x y v u Q I rx ry ⟨m, h, dx, dy, rh, d1, d2, o⟩
  simp only [oEqD] at o
  cases q1 : deep h 60 dx with
  | none => simp only [q1] at o; exact o.elim
  | some p =>
    cases q2 : deep h 60 dy with
    | none => simp only [q1, q2] at o; exact o.elim
    | some q =>
      simp only [q1, q2] at o
      by_cases hs : (SeqAt.shaped p && SeqAt.shaped q) = true
      · rw [if_pos hs] at o
        rw [Bool.and_eq_true] at hs
        exact op_neD hu pins s σ H x y v u Q I rx ry ⟨p, q, deep_ok rh _ _ _ _ d1 q1, deep_ok rh _ _ _ _ d2 q2, hs.1, hs.2, o m H _ (Post.refl rh) (.bl _)⟩
      · rw [if_neg hs] at o; exact o.elim
theorem eq_ok (hu : X.A.units + 64 < cLine) : OpR X (compareOp .Eq) (r2 G X.K E (oEq false)) := by
  intro pins s σ H x y v u Q I rx ry ⟨m, h, dx, dy, rh, d1, d2, o⟩
  have gen : oEq false dx dy h = oEqD false dx dy h → wpAny (model X.prog X.w) X.A (compareOp .Eq v u) (EP X pins σ Q) X.xe s := fun e => eq_okD hu pins s σ H x y v u Q I rx ry ⟨m, h, dx, dy, rh, d1, d2, e ▸ o⟩
  cases d1 with
  | int i =>
    cases d2 with
    | int j =>
      refine op_eq pins s σ H _ _ v u Q I rx ry ⟨rfl, ?_⟩
      have e : decide (V.int i = V.int j) = decide (i = j) := decide_eq_decide.mpr ⟨fun q => V.int.inj q, fun q => by rw [q]⟩
      rw [e]
      exact o m H _ (Post.refl rh) (.bl _)
    | _ => exact gen rfl
  | str i =>
    cases d2 with
    | str j =>
      refine op_eq pins s σ H _ _ v u Q I rx ry ⟨rfl, ?_⟩
      have e : decide (V.str i = V.str j) = decide (i = j) := decide_eq_decide.mpr ⟨fun q => V.str.inj q, fun q => by rw [q]⟩
      rw [e]
      exact o m H _ (Post.refl rh) (.bl _)
    | _ => exact gen rfl
  | _ => exact gen rfl
theorem ne_ok (hu : X.A.units + 64 < cLine) : OpR X (compareOp .NotEq) (r2 G X.K E (oEq true)) := by
  intro pins s σ H x y v u Q I rx ry ⟨m, h, dx, dy, rh, d1, d2, o⟩
  have gen : oEq true dx dy h = oEqD true dx dy h → wpAny (model X.prog X.w) X.A (compareOp .NotEq v u) (EP X pins σ Q) X.xe s := fun e => ne_okD hu pins s σ H x y v u Q I rx ry ⟨m, h, dx, dy, rh, d1, d2, e ▸ o⟩
  cases d1 with
  | int i =>
    cases d2 with
    | int j =>
      refine op_ne pins s σ H _ _ v u Q I rx ry ⟨rfl, ?_⟩
      have e : decide (V.int i = V.int j) = decide (i = j) := decide_eq_decide.mpr ⟨fun q => V.int.inj q, fun q => by rw [q]⟩
      rw [e]
      exact o m H _ (Post.refl rh) (.bl _)
    | _ => exact gen rfl
  | str i =>
    cases d2 with
    | str j =>
      refine op_ne pins s σ H _ _ v u Q I rx ry ⟨rfl, ?_⟩
      have e : decide (V.str i = V.str j) = decide (i = j) := decide_eq_decide.mpr ⟨fun q => V.str.inj q, fun q => by rw [q]⟩
      rw [e]
      exact o m H _ (Post.refl rh) (.bl _)
    | _ => exact gen rfl
  | _ => exact gen rfl
theorem isB_eqD (neg : Bool) : IsB2 (oEqD neg) := by
  intro x y h d h' e
  simp only [oEqD] at e
  split at e
  · split at e
    · cases e; exact ⟨_, rfl⟩
    · cases e
  · cases e
theorem isB_eq (neg : Bool) : IsB2 (oEq neg) := by
  intro x y h d h' e
  unfold oEq at e
  split at e
  · cases e; exact ⟨_, rfl⟩
  · cases e; exact ⟨_, rfl⟩
  · exact isB_eqD neg _ _ _ _ _ e
/-! ### repr -/
theorem repr_run {pins : List (Addr × Obj)} {s : Shared} {σ : L2.St} {H : Hp} {v : V} {u : Value} {x : PyData} {Q : VK} (hg : X.A.guards = some []) (hu : X.A.units + 70 < cLine) (I : L2.Inv X pins σ H s) (r : RelV v u) (hd : Dp X.K H v x) (hx : isDisplay x = true) (hs : showOk x = true) (q : Q (.str x.shown) H) :
    wpAny (model X.prog X.w) X.A (call (.builtin "repr") [u]) (EP X pins σ Q) X.xe s := by
  obtain ⟨as, rd⟩ := Dp.reads I x v u hd r
  obtain ⟨p, rfl⟩ := isRef_of_reads rd hx
  simp only [showOk, Bool.and_eq_true, decide_eq_true_eq] at hs
  obtain ⟨⟨⟨h1, h2⟩, h3⟩, h4⟩ := hs
  have h2 : x.hasDict = false := by simpa using h2
  refine repr_of_reads' rd h1 (PyData.noDict_hsm h2) hg (by omega) (fun _ _ e => e) (fun h' t tk hk => ?_) h4
  exact ⟨.str x.shown, H, I.kept (t' := tk) hk, ⟨t, rfl⟩, q⟩
theorem disp_of {m : Nat → Addr} {h : LH} {n : Nat} {d : D} {x : PyData} (hd : (∃ k, d = .ref k) ∨ ∃ xs, d = .tup xs) (e : deep h n d = some x) : isDisplay x = true := by
  rcases hd with ⟨k, rfl⟩ | ⟨xs, rfl⟩
  · cases n with
    | zero => cases e
    | succ n =>
      simp only [deep] at e
      cases z : h[k]? with
      | none => simp only [z] at e; cases e
      | some ob =>
        cases ob with
        | ins c fs => simp only [z] at e; cases e
        | dct kv => simp only [z] at e; cases e
        | lst xs =>
          simp only [z] at e
          cases q : mapO (deep h n) xs with
          | none => simp only [q] at e; cases e
          | some ys => simp only [q] at e; cases e; rfl
  · cases n with
    | zero => cases e
    | succ n =>
      simp only [deep] at e
      cases q : mapO (deep h n) xs with
      | none => simp only [q] at e; cases e
      | some ys => simp only [q] at e; cases e; rfl
theorem repr_okB (hg : X.A.guards = some []) (hu : X.A.units + 70 < cLine) : CallR X (.builtin "repr") (rA G X.K E bRepr) := by
  intro pins s σ H xs us Q I r ⟨m, h, ds, rh, rd, o⟩
  cases rd with
  | nil => exact o.elim
  | @cons d v ds vs a b =>
    cases b with
    | cons _ _ => simp only [bRepr] at o; exact o.elim
    | nil =>
      have key : (∃ k, d = .ref k) ∨ (∃ xs, d = .tup xs) → wpAny (model X.prog X.w) X.A (call (.builtin "repr") us) (EP X pins σ Q) X.xe s := by
        intro hd
        have e : bRepr [d] h = (match deep h 60 d with
          | some a => if showOk a = true then .ok (.str a.shown) h else .stuck
          | none => .stuck) := by
          rcases hd with ⟨k, rfl⟩ | ⟨xs, rfl⟩ <;> rfl
        rw [e] at o
        cases q : deep h 60 d with
        | none => simp only [q] at o; exact o.elim
        | some x =>
          simp only [q] at o
          by_cases hs : showOk x = true
          · rw [if_pos hs] at o
            obtain ⟨u, rfl, ru⟩ := Vals.one r
            exact repr_run hg hu I ru (deep_ok rh _ _ _ _ a q) (disp_of (m := m) hd q) hs (o m H _ (Post.refl rh) (.str _))
          · rw [if_neg hs] at o; exact o.elim
      cases a with
      | non => exact o.elim
      | bl _ => exact o.elim
      | int _ => exact o.elim
      | str _ => exact o.elim
      | scr _ => exact o.elim
      | fn _ => exact o.elim
      | @ref n hn => exact key (.inl ⟨n, rfl⟩)
      | @tup p xs vs _ _ => exact key (.inr ⟨xs, rfl⟩)
/-! ### is None, chains -/
theorem isB_isN (neg : Bool) : IsB (e1 (oIsN neg) fa) := by
  intro r h d h' e
  unfold e1 at e
  cases q : fa r h with
  | ok x h1 =>
    rw [q, R.bind_ok] at e
    cases x <;> (simp only [oIsN] at e; cases e; exact ⟨_, rfl⟩)
  | exc c fs h1 => rw [q] at e; cases e
  | stuck => rw [q] at e; cases e
theorem yIsN {j pos'} (ha : PE X a (tE G X.K E fa)) : PT X (.Compare a [.Is] [.Constant .none j pos'] pos) (tT G X.K E (e1 (oIsN false) fa)) := by
  refine PT_mono (pt_cmp (pc_isN ha)) ?_
  intro σ H Q t
  obtain ⟨m, r, h, rh, rs, o⟩ := toTest (isB_isN false) t
  refine ⟨m, r, h, rh, rs, ?_⟩
  rcases Out.bindR o with ⟨x, h1, e, o⟩ | ⟨c, fs, h1, e, o⟩
  · rw [e]
    intro m1 H1 v p1 d1
    cases d1 <;> exact o m1 H1 _ p1 (.bl _)
  · rw [e]; exact o
theorem toChain {f f' : D → D → LH → R D} {σ : L2.St} {H : Hp} {Q : VK} (t : tE G X.K E (eChain f f' fa fb fc) σ H Q) : tChain (r2 G X.K E f) (r2 G X.K E f') (tE G X.K E fa) (tE G X.K E fb) (tE G X.K E fc) σ H Q := by
  obtain ⟨m, r, h, rh, rs, o⟩ := t
  refine ⟨m, r, h, rh, rs, ?_⟩
  rcases Out.bindR o with ⟨x, h1, e, o⟩ | ⟨c, fs, h1, e, o⟩
  · rw [e]
    intro m1 H1 v p1 d1
    refine ⟨m1, r, h1, p1.rel, p1.s rs, ?_⟩
    rcases Out.bindR o with ⟨y, h2, e, o⟩ | ⟨c, fs, h2, e, o⟩
    · rw [e]
      intro m2 H2 w p2 d2
      refine ⟨m2, h2, x, y, p2.rel, p2.d d1, d2, ?_⟩
      rcases Out.bindR o with ⟨z, h3, e, o⟩ | ⟨c, fs, h3, e, o⟩
      · rw [e]
        intro m3 H3 z3 p3 d3
        have pp := p1.trans (p2.trans p3)
        cases d3 with
        | bl k =>
          refine ⟨k, rfl, ?_⟩
          cases k with
          | false => exact iteF (o m3 H3 _ pp (.bl false))
          | true =>
            refine iteT ⟨m3, r, h3, p3.rel, (pp.s rs), ?_⟩
            simp only at o
            rcases Out.bindR o with ⟨q, h4, e, o⟩ | ⟨c, fs, h4, e, o⟩
            · rw [e]
              intro m4 H4 w4 p4 d4
              exact ⟨m4, h4, y, q, p4.rel, (p3.trans p4).d d2, d4, Out.later (pp.trans p4) o⟩
            · rw [e]; exact OutX.later pp o
        | _ => exact o.elim
      · rw [e]; exact OutX.later (p1.trans p2) o
    · rw [e]; exact OutX.later p1 o
  · rw [e]; exact o
theorem isB_chain {f f' : D → D → LH → R D} (h' : IsB2 f') : IsB (eChain f f' fa fb fc) := by
  intro r h d hh e
  unfold eChain at e
  cases q1 : fa r h with
  | stuck => rw [q1] at e; cases e
  | exc c fs h1 => rw [q1] at e; cases e
  | ok x h1 =>
    rw [q1, R.bind_ok] at e
    cases q2 : fb r h1 with
    | stuck => rw [q2] at e; cases e
    | exc c fs h1 => rw [q2] at e; cases e
    | ok y h2 =>
      rw [q2, R.bind_ok] at e
      cases q3 : f x y h2 with
      | stuck => rw [q3] at e; cases e
      | exc c fs h1 => rw [q3] at e; cases e
      | ok z h3 =>
        rw [q3, R.bind_ok] at e
        cases z with
        | bl k =>
          cases k with
          | false => cases e; exact ⟨_, rfl⟩
          | true =>
            simp only at e
            cases q4 : fc r h3 with
            | stuck => rw [q4] at e; cases e
            | exc c fs h1 => rw [q4] at e; cases e
            | ok w h4 => rw [q4, R.bind_ok] at e; exact h' _ _ _ _ _ e
        | _ => cases e
theorem yChain {op op' : CmpOp} {f f' : D → D → LH → R D} (ho : OpR X (compareOp op) (r2 G X.K E f)) (ho' : OpR X (compareOp op') (r2 G X.K E f')) (hf' : IsB2 f') (ha : PE X a (tE G X.K E fa)) (hb : PE X b (tE G X.K E fb)) (hc : PE X c (tE G X.K E fc))
    (hm : lastMarks [op, op'] [b, c] = false := by with_unfolding_all rfl) : PT X (.Compare a [op, op'] [b, c] pos) (tT G X.K E (eChain f f' fa fb fc)) :=
  PT_mono (pt_chain ho ho' ha hb hc hm) fun _ _ _ t => by
    obtain ⟨m, r, h, rh, rs, o⟩ := toTest (isB_chain hf') t
    exact toChain ⟨m, r, h, rh, rs, o⟩
end
end Py

set_option Elab.async false
set_option linter.all false
set_option maxRecDepth 100000
namespace Py
open PySem PySem.Spec PyProof.Rows L2
section
variable {X : Cx} {G : Gam} {E : XK} {CX : CXT} {a b c e o : Expr} {es : List Expr} {fa fb fc fo : EX} {fas : AX} {pos p2 apos cpos : Pos}
theorem runG1 {k : Nat} {f : Addr} {fd : FuncData} {ps : List Str} {sp : Sp} {pins : List (Addr × Obj)} {σ : L2.St} {H : Hp} {s : Shared} {Q : VK} {us ws : List Value} {vs : List V} {kw : List (Str × Value)} (F : FnG X.prog X.w X.K X.mg X.base CX k f fd ps sp) (hg : X.A.guards = some []) (hr : Room (k + 1) X.A)
    (hx : Passes CX X E) (I : L2.Inv X pins σ H s) (hb : BindsTo s fd ⟨us, kw⟩ (ps.zip ws)) (r : Vals vs ws) (h : sp vs H Q E) : wpAny (model X.prog X.w) X.A.in1 (call (.ref f) us kw) (EP X pins σ Q) X.xe s := by
  refine wpAny_call (codeAny_mono (F.run X.A.in1 X.stack s H ⟨us, kw⟩ ws vs Q E hg hr.in1 I.env0.in1 hb r h) ?_)
  intro r s' hq
  cases r with
  | error e => exact hx pins σ H s e s' I hq
  | ok fl =>
    cases fl with
    | ret u => exact I.after hq
    | next => exact hq.elim
    | brk => exact hq.elim
    | cont => exact hq.elim
theorem one_bind {fd : FuncData} {ps : List Str} {s : Shared} {u : Value} {v : V} {m : Nat → Addr} {N : Nat} {H : Hp} {d : D} (hb : Bnd X.K fd ps 1 [] bd0) (hk : X.K.In s.heap) (r : RelV v u) (rd : RelD X.K m N H d v) :
    ∃ us2 vs2, Vals vs2 us2 ∧ BindsTo s fd ⟨[u], []⟩ (ps.zip us2) ∧ RelDs X.K m N H [d] vs2 := by
  obtain ⟨us2, vs2, q1, q2, q3⟩ := hb s [u] [] [v] [] hk (.cons r .nil) .nil rfl rfl
  exact ⟨us2, vs2, q1, q2, q3 m N H [d] [] (.cons rd .nil) .nil⟩
theorem lenO_ok {k c : Nat} {f : Addr} {fd : FuncData} {ps : List Str} {cf : CF} (F : FnG X.prog X.w X.K X.mg X.base CX k f fd ps (spF G X.K cf)) (hg : X.A.guards = some []) (hr : Room (k + 1) X.A) (hx : Passes CX X E) (hb : Bnd X.K fd ps 1 [] bd0)
    (hs : PySem.W.findIn X.K (.ref (G.cl c)) "__len__" = some (some (.ref f))) (hf : PySem.W.isFn X.K (.ref f) = true) : CallR X (.builtin "len") (rA G X.K E (bLenO c cf)) := by
  intro pins s σ H xs us Q I r ⟨m, h, ds, rh, rd, o⟩
  cases rd with
  | nil => exact o.elim
  | @cons d v ds vs a1 b1 =>
    cases b1 with
    | cons _ _ => simp only [bLenO] at o; exact o.elim
    | nil =>
      cases a1 with
      | @ref n hn =>
        simp only [bLenO] at o
        cases z : h[n]? with
        | none => simp only [z] at o; exact o.elim
        | some ob =>
          cases ob with
          | lst xs => simp only [z] at o; exact o.elim
          | dct kv => simp only [z] at o; exact o.elim
          | ins c' fs =>
            simp only [z] at o
            by_cases hc : c' = c
            · subst hc
              rw [if_pos rfl] at o
              obtain ⟨dx, vs, e1, rf⟩ := rh.obj n _ z
              obtain ⟨u, rfl, ru⟩ := Vals.one r
              obtain rfl : u = Value.ref (m n) := ru
              obtain ⟨mA, O1, _⟩ := ins_get I.hok e1
              obtain ⟨od, J, _⟩ := O1.look
              obtain ⟨mm, Fr1⟩ := I.fr
              refine PySem.W.len_K Fr1 I.mod.kin J hs hf ?_
              obtain ⟨us2, vs2, q1, q2, q3⟩ := one_bind (u := Value.ref (m n)) (v := V.ref (m n)) hb I.kIn rfl (RelD.ref (K := X.K) (m := m) (H := H) hn)
              refine thn (runG1 F hg hr hx I q2 q1 (Q := fun w H2 => ∃ k, w = .int k ∧ (0 ≤ k ∧ k < 2 ^ 63) ∧ Q (.int k) H2) ⟨m, h, _, rh, q3, ?_⟩) ?_
              · rcases Out.bindR o with ⟨w, h2, e, o⟩ | ⟨cc, fs2, h2, e, o⟩
                · rw [e]
                  intro m2 H2 w2 p2 d2
                  cases d2 with
                  | int k =>
                    simp only at o
                    by_cases hk : 0 ≤ k ∧ k < 2 ^ 63
                    · rw [if_pos hk] at o
                      exact ⟨k, rfl, hk, o m2 H2 _ p2 (.int k)⟩
                    · rw [if_neg hk] at o; exact o.elim
                  | _ => exact o.elim
                · rw [e]; exact o
              · rintro w s2 ⟨w2, H2, I2, rw2, k, rfl, hk, q⟩
                obtain ⟨t, rfl⟩ := rw2
                exact ⟨hk, ⟨.int k, H2, I2.tok _, ⟨_, rfl⟩, q⟩⟩
            · rw [if_neg hc] at o; exact o.elim
      | _ => exact o.elim
/-! ### f-strings -/
end
end Py

set_option Elab.async false
set_option linter.all false
set_option maxRecDepth 100000
namespace Py
open PySem PySem.Spec PyProof.Rows L2
section
variable {X : Cx} {G : Gam} {E : XK} {CX : CXT} {a b c e o : Expr} {es : List Expr} {fa fb fc fo : EX} {fas : AX} {pos p2 apos cpos : Pos}
/-! ### f-strings -/
inductive PJE (X : Cx) (G : Gam) (E : XK) : List Expr → List EX → Prop where
  | nil : PJE X G E [] []
  | cons {e : Expr} {f : EX} {es : List Expr} {fs : List EX} (h : PE X e (tE G X.K E f)) (r : PJE X G E es fs) : PJE X G E (e :: es) (f :: fs)
/-! ### isinstance -/
def Kd.nm : Kd → String
  | .non => "NoneType"
  | .bool => "bool"
  | .int => "int"
  | .str => "str"
  | .tuple => "tuple"
  | .list => "list"
  | .dict => "dict"
theorem ty_ok {m : Nat → Addr} {h : LH} {H : Hp} {d : D} {v : V} {k : Kd} (rh : RelH G X.K m h H) (rd : RelD X.K m h.length H d v) (e : kindD d h = some k) : TyX X.K H v (.type k.nm) := by
  cases rd with
  | non => cases e; exact .base .non
  | bl b => cases e; exact .base (.bl b)
  | int i => cases e; exact .base (.int i)
  | str x => cases e; exact .base (.str x)
  | tup ht _ =>
    cases e
    rcases ht.sq with (h | ⟨u, h⟩) | ⟨o, its, n, h1, h2, _⟩
    · exact .base (.tup h)
    · exact .fTuple h
    · exact .kTuple h1 h2
  | fn _ => cases e
  | scr hs =>
    cases e
    rcases hs with ⟨u, h⟩ | ⟨o, its, n, h1, h2, _⟩
    · exact .base (.frz h)
    · exact .kList h1 h2
  | @ref n hn =>
    cases z : h[n]? with
    | none => simp only [kindD, z] at e; cases e
    | some ob =>
      cases ob with
      | ins c fs => simp only [kindD, z] at e; cases e
      | dct kv =>
        simp only [kindD, z] at e
        cases e
        obtain ⟨vs, e1, _⟩ := rh.obj n _ z
        exact .base (.dK e1)
      | lst xs =>
        simp only [kindD, z] at e
        cases e
        obtain ⟨vs, e1, rv⟩ := lst_at rh z
        exact .base (.lst e1)
theorem kit_ok (K : PySem.W.Frag) (k t : Kd) (ht : t ≠ .non) : PySem.W.kitOne K (.type k.nm) (.type t.nm) = some (k.is t) := by
  cases t <;> first | exact absurd rfl ht | skip
  all_goals (cases k <;> exact kit_ty (by decide +kernel))
theorem kits_ok (K : PySem.W.Frag) (k : Kd) : ∀ ts : List Kd, (∀ t ∈ ts, t ≠ .non) → PySem.W.kitAny K (.type k.nm) (ts.map fun t => .type t.nm) = some (ts.any fun t => k.is t)
  | [], _ => rfl
  | t :: ts, h => by
    have e := kit_ok K k t (h t (List.mem_cons_self ..))
    have ih := kits_ok K k ts fun u hu => h u (List.mem_cons_of_mem _ hu)
    rw [List.map_cons]
    unfold PySem.W.kitAny
    rw [e, List.any_cons]
    cases k.is t with
    | true => rfl
    | false => rw [ih]; rfl
theorem xIsi1 {p p' : Pos} {tn : Str} (k : Kd) (hk : k ≠ .non) (hg : Gl X "isinstance") (hm : X.mg "isinstance" = none) (hgt : Gl X tn) (hmt : X.mg tn = none) (hvt : bootBuiltins tn = some (.type k.nm)) (ha : PE X a (tE G X.K E fa)) (hn : tn ≠ "__name__" := by decide) (hdb : (tn == ("__debug__" : Str)) = false := by decide)
    (s1 : starEach [a, .Name tn p'] X.env = (false, eval a X.env) :: starEach [.Name tn p'] X.env := by rfl) (s2 : starEach [.Name tn p'] X.env = (false, eval (.Name tn p') X.env) :: starEach [] X.env := by rfl) (hpl : (backTo pos (starEach [.Name tn p'] X.env)).any (·.1) = false := by rfl) :
    PE X (.Call (.Name "isinstance" p) [a, .Name tn p'] [] pos) (tE G X.K E (eIsi [k] fa)) := by
  refine PE_mono (pe_callB call_isi hg hm (by decide +kernel) (pa_cons ha (pa_cons (pe_bltn (v := .ty k.nm) hgt hmt hvt rfl hn hdb) pa_nil s2) s1) (by decide) (by decide) s1 hpl) ?_
  rintro σ H Q ⟨m, r, h, rh, rs, o⟩
  refine ⟨m, r, h, rh, rs, ?_⟩
  rcases Out.bindR o with ⟨d, h1, e, o⟩ | ⟨c, fs, h1, e, o⟩
  · rw [e]
    intro m1 H1 v p1 d1
    cases z : kindD d h1 with
    | none => simp only [z] at o; exact o.elim
    | some kd =>
      simp only [z] at o
      have e1 := kit_ok X.K kd k hk
      refine ⟨v, .ty k.nm, _, _, _, rfl, .ty _, ty_ok p1.rel d1 z, e1, ?_⟩
      have q := o m1 H1 _ p1 (.bl _)
      simpa using q
  · rw [e]; exact o
theorem xIsi2 {p p1 p2 p3 : Pos} {t1 t2 : Str} {kt : Nat} (k1 k2 : Kd) (hk1 : k1 ≠ .non) (hk2 : k2 ≠ .non) (hg : Gl X "isinstance") (hm : X.mg "isinstance" = none) (hg1 : Gl X t1) (hm1 : X.mg t1 = none) (hv1 : bootBuiltins t1 = some (.type k1.nm)) (hg2 : Gl X t2) (hm2 : X.mg t2 = none) (hv2 : bootBuiltins t2 = some (.type k2.nm))
    (ha : PE X a (tE G X.K E fa)) (hn1 : t1 ≠ "__name__" := by decide) (hd1 : (t1 == ("__debug__" : Str)) = false := by decide) (hn2 : t2 ≠ "__name__" := by decide) (hd2 : (t2 == ("__debug__" : Str)) = false := by decide)
    (s1 : starEach [a, .Tuple [.Name t1 p1, .Name t2 p2] kt p3] X.env = (false, eval a X.env) :: starEach [.Tuple [.Name t1 p1, .Name t2 p2] kt p3] X.env := by rfl)
    (s2 : starEach [.Tuple [.Name t1 p1, .Name t2 p2] kt p3] X.env = (false, eval (.Tuple [.Name t1 p1, .Name t2 p2] kt p3) X.env) :: starEach [] X.env := by rfl)
    (s3 : starEach [.Name t1 p1, .Name t2 p2] X.env = (false, eval (.Name t1 p1) X.env) :: starEach [.Name t2 p2] X.env := by rfl) (s4 : starEach [.Name t2 p2] X.env = (false, eval (.Name t2 p2) X.env) :: starEach [] X.env := by rfl)
    (hpl : (backTo pos (starEach [.Tuple [.Name t1 p1, .Name t2 p2] kt p3] X.env)).any (·.1) = false := by rfl) :
    PE X (.Call (.Name "isinstance" p) [a, .Tuple [.Name t1 p1, .Name t2 p2] kt p3] [] pos) (tE G X.K E (eIsi [k1, k2] fa)) := by
  refine PE_mono (pe_callB call_isiT hg hm (by decide +kernel) (pa_cons ha (pa_cons (pe_tup (pa_cons (pe_bltn (v := .ty k1.nm) hg1 hm1 hv1 rfl hn1 hd1) (pa_cons (pe_bltn (v := .ty k2.nm) hg2 hm2 hv2 rfl hn2 hd2) pa_nil s4) s3)) pa_nil s2) s1) (by decide) (by decide) s1 hpl) ?_
  rintro σ H Q ⟨m, r, h, rh, rs, o⟩
  refine ⟨m, r, h, rh, rs, ?_⟩
  rcases Out.bindR o with ⟨d, h1, e, o⟩ | ⟨c, fs, h1, e, o⟩
  · rw [e]
    intro m1 H1 v p1 d1
    cases z : kindD d h1 with
    | none => simp only [z] at o; exact o.elim
    | some kd =>
      simp only [z] at o
      refine ⟨by show 2 ≤ sizeLine; decide, fun q hq => ?_⟩
      have p4 := p1.rel.newT (u := .tup [.ty k1.nm, .ty k2.nm]) hq
      have e1 := kits_ok X.K kd [k1, k2] (fun t ht => by
        rcases List.mem_cons.mp ht with rfl | ht
        · exact hk1
        · rw [List.mem_singleton.mp ht]; exact hk2)
      exact ⟨v, q, _, _, _, _, rfl, upd_same, .cons (.ty _) (.cons (.ty _) .nil), ty_ok p4.rel (p4.d d1) z, e1, o m1 _ _ (p1.trans p4) (.bl _)⟩
  · rw [e]; exact o
/-! ### list(range(n)) -/
end
end Py

set_option Elab.async false
set_option linter.all false
set_option maxRecDepth 100000
namespace Py
open PySem PySem.Spec PyProof.Rows L2
/-! ### sorted of a tuple of ints -/
section
variable {prog : Program} {w : World} {A : Around} {E : Value → Shared → Prop} {s : Shared}
theorem collect_tp {l : Addr} {vs : List Value} {Q : List Value → Shared → Prop} (hl : IsTup s.heap l vs.toArray) (hsz : vs.length ≤ sizeLine)
    (h : Q vs { s with heap := (s.heap.push (seqObj "list" #[] 0)).update s.heap.objs.size (Obj.mapSeq (· ++ vs.toArray)) }) : wpAny (model prog w) A (collect (.ref l)) Q E s := by
  obtain ⟨o, ho, hc, n, hd⟩ := id hl
  have ho' : (s.heap.push (seqObj "list" #[] 0)).get? l = some o := Heap.get?_push_of_some _ ho
  have h0 : (s.heap.push (seqObj "list" #[] 0)).get? s.heap.objs.size = some (seqObj "list" #[] 0) := Heap.get?_push_size _ rfl
  unfold collect
  refine wpAny_bind (wpAny_runValue (codeAny_builtin entry_proto_collect' ?_))
  change wpAny _ _ (do again (.builtin "list.__iadd__" ⟨[← newList [], .ref l], []⟩)) _ _ s
  refine wpAny_bind (wpAny_newList ?_)
  refine wpAny_pure ⟨Code.quiet_builtin _ (by decide +kernel), codeAny_builtin entry_list_iadd' ?_⟩
  change wpAny _ _ (Builtin.List.listExtendWith (.ref s.heap.objs.size) (.ref l) (.ref s.heap.objs.size)) _ _ { s with heap := s.heap.push (seqObj "list" #[] 0) }
  unfold Builtin.List.listExtendWith
  refine wpAny_bind (wpAny_typeOf (T := "tuple") ⟨o, ho', hc⟩ ?_)
  rw [if_pos (show (Builtin.List.listSameRef (Value.ref s.heap.objs.size) (Value.ref l) || Value.type "tuple" == Value.type "list" || Value.type "tuple" == Value.type "tuple") = true from by
    rw [show (Value.type "tuple" == Value.type "tuple") = true from rfl, Bool.or_true])]
  refine wpAny_bind (listItems_at ho' hd ?_)
  refine wpAny_bind (listItems_at h0 rfl ?_)
  rw [if_neg (by simp)]
  refine wpAny_bind (listUpdate_at h0 rfl ?_ (Nat.zero_le _) ?_)
  · refine wpAny_pure ?_
    change wpAny (model prog w) A (do
        let o ← load s.heap.objs.size
        match o.data with
        | .seq xs _ => pure xs.toList
        | _ => unsupported "internal:collect") Q E { s with heap := (s.heap.push (seqObj "list" #[] 0)).update s.heap.objs.size (Obj.mapSeq (· ++ vs.toArray)) }
    refine wpAny_bind (wpAny_load (get?_update_seq h0 _) ?_)
    change wpAny _ _ (pure ((#[] : Array Value) ++ vs.toArray).toList) Q E _
    have ev : ((#[] : Array Value) ++ vs.toArray).toList = vs := by simp
    rw [ev]
    exact wpAny_pure h
  · change (#[] ++ vs.toArray).size ≤ sizeLine + 1
    simp only [Array.size_append, List.size_toArray, List.length_nil]
    omega
theorem sorted_tp {l : Addr} {vs : List Value} {ns : List Int} {Q : Value → Shared → Prop} (hl : IsTup s.heap l vs.toArray) (hI : IntsAre vs ns) (h64 : vs.length < 64) (hz : vs.length ≤ sizeLine)
    (h : ∀ (out : Array Value) (ns' : List Int), IntsAre out.toList ns' → ns'.Perm ns → ns'.Pairwise (· ≤ ·) → Q (.ref (s.heap.objs.size + 1)) { s with heap := sortedAll s.heap vs out }) :
    wpAny (model prog w) A (call (.builtin "sorted") [.ref l]) Q E s := by
  have sz : ((s.heap.push (seqObj "list" #[] 0)).update s.heap.objs.size (Obj.mapSeq (· ++ vs.toArray))).objs.size = s.heap.objs.size + 1 := by rw [Heap.size_update, size_push']
  refine Calls.call_function_entry kind_sorted plain_sorted entry_sorted (args_sorted1 _) ?_
  unfold Builtin.«sorted»
  refine wpAny_bind (m := checkCount "sorted" 1 1 _) (wpAny_pure ?_)
  refine wpAny_bind (collect_tp hl hz ?_)
  refine wpAny_bind (wpAny_newList ?_)
  have hoL : (((s.heap.push (seqObj "list" #[] 0)).update s.heap.objs.size (Obj.mapSeq (· ++ vs.toArray))).push (seqObj "list" vs.toArray 0)).get? (s.heap.objs.size + 1) = some (seqObj "list" vs.toArray 0) := by
    have q := Heap.get?_push_size ((s.heap.push (seqObj "list" #[] 0)).update s.heap.objs.size (Obj.mapSeq (· ++ vs.toArray))) (o := seqObj "list" vs.toArray 0) rfl
    rw [sz] at q
    exact q
  change wpAny _ _ _ _ _ { s with heap := ((s.heap.push (seqObj "list" #[] 0)).update s.heap.objs.size (Obj.mapSeq (· ++ vs.toArray))).push (seqObj "list" vs.toArray 0) }
  rw [sz]
  refine wpAny_bind (wpAny_holding (wpAny_call_entry slot_list_sort ⟨_, hoL, rfl⟩ entry_list_sort (list_sort_tree hoL hI h64 ?_) (args_list_sort _)))
  intro out ns' a1 a2 a3
  exact ⟨_, rfl, wpAny_pure ⟨_, rfl, h out ns' a1 a2 a3⟩⟩
end
/-! sorting, as a function -/
theorem insI_perm (a : Int) : ∀ l : List Int, (insI a l).Perm (a :: l)
  | [] => List.Perm.refl _
  | b :: r => by
    unfold insI
    split
    · exact List.Perm.refl _
    · exact ((insI_perm a r).cons b).trans (List.Perm.swap a b r)
theorem sortI_perm : ∀ l : List Int, (sortI l).Perm l
  | [] => List.Perm.refl _
  | a :: r => (insI_perm a (sortI r)).trans ((sortI_perm r).cons a)
theorem insI_sorted (a : Int) : ∀ l : List Int, l.Pairwise (· ≤ ·) → (insI a l).Pairwise (· ≤ ·)
  | [], _ => List.pairwise_singleton _ _
  | b :: r, h => by
    unfold insI
    rw [List.pairwise_cons] at h
    by_cases hab : a ≤ b
    · rw [if_pos hab, List.pairwise_cons]
      refine ⟨fun c hc => ?_, List.pairwise_cons.mpr h⟩
      rcases List.mem_cons.mp hc with rfl | hc
      · exact hab
      · exact Int.le_trans hab (h.1 c hc)
    · rw [if_neg hab, List.pairwise_cons]
      refine ⟨fun c hc => ?_, insI_sorted a r h.2⟩
      rcases List.mem_cons.mp ((insI_perm a r).mem_iff.mp hc) with rfl | hc
      · omega
      · exact h.1 c hc
theorem sortI_sorted : ∀ l : List Int, (sortI l).Pairwise (· ≤ ·)
  | [] => List.Pairwise.nil
  | a :: r => insI_sorted a _ (sortI_sorted r)
theorem sorted_unique : ∀ {l l' : List Int}, l.Perm l' → l.Pairwise (· ≤ ·) → l'.Pairwise (· ≤ ·) → l = l' := by
  intro l
  induction l with
  | nil => intro l' p _ _; exact p.nil_eq
  | cons a r ih =>
    intro l' p h h'
    cases l' with
    | nil => exact absurd p.eq_nil (by simp)
    | cons b r' =>
      rw [List.pairwise_cons] at h h'
      have e : a = b := by
        have h1 : a ∈ b :: r' := p.mem_iff.mp (List.mem_cons_self ..)
        have h2 : b ∈ a :: r := p.mem_iff.mpr (List.mem_cons_self ..)
        rcases List.mem_cons.mp h1 with e | h1
        · exact e
        · rcases List.mem_cons.mp h2 with e | h2
          · exact e.symm
          · exact Int.le_antisymm (h.1 b h2) (h'.1 a h1)
      subst e
      rw [ih p.cons_inv h.2 h'.2]
theorem sortI_of {ns ns' : List Int} (p : ns'.Perm ns) (h : ns'.Pairwise (· ≤ ·)) : ns' = sortI ns := sorted_unique (p.trans (sortI_perm ns).symm) h (sortI_sorted ns)
section
variable {X : Cx} {G : Gam} {E : XK}
theorem ints_ok {m : Nat → Addr} {N : Nat} {H : Hp} : ∀ {xs : List D} {vs : List V} {ns : List Int}, RelDs X.K m N H xs vs → intsD xs = some ns → vs = ns.map V.int
  | _, _, _, .nil, e => by cases e; rfl
  | _, _, bs, .cons (d := d) (ds := ds) a r, e => by
    cases a <;> try (cases e; done)
    cases q : intsD ds with
    | none => simp only [intsD, q] at e; cases e
    | some cs =>
      simp only [intsD, q] at e
      cases e
      rw [ints_ok r q]
      rfl
theorem sorted_okB : CallR X (.builtin "sorted") (rA G X.K E bSorted) := by
  intro pins s σ H xs us Q I r ⟨m, h, ds, rh, rd, o⟩
  cases rd with
  | nil => exact o.elim
  | @cons d v ds vs a b =>
    cases b with
    | cons _ _ => simp only [bSorted] at o; exact o.elim
    | nil =>
      simp only [bSorted] at o
      cases q : seqD d h with
      | none => simp only [q, Option.bind_none] at o; exact o.elim
      | some ys =>
        simp only [q, Option.bind_some] at o
        cases z : intsD ys with
        | none => simp only [z] at o; exact o.elim
        | some ns =>
          simp only [z] at o
          by_cases h64 : ns.length < 64
          · rw [if_pos h64] at o
            obtain ⟨p, ws, rfl, hs, rs⟩ := seq_ok rh a q
            have ew := ints_ok rs z
            subst ew
            have fin := out_lst rh (RelDs.ints (sortI ns)) o
            rcases hs with hs | hs
            · refine cr_sorted pins s σ H _ us Q I r ⟨p, ns, rfl, hs, h64, ?_⟩
              intro ns' l hp hw hl
              rw [sortI_of hp hw]
              exact fin l hl
            · obtain ⟨u, rfl, ru⟩ := Vals.one r
              obtain rfl : u = Value.ref p := ru
              obtain ⟨its, rv, ht, hz⟩ := I.tuple hs
              have hi := rv.ints
              have el : its.length = ns.length := by rw [← rv.length, List.length_map]
              refine sorted_tp ht hi (by omega) (by rw [el]; exact small64 h64) ?_
              intro out ns' h1 h2 h3
              obtain ⟨ep, he'⟩ := PyProof.Rows.sortedAll_at s.heap its out
              have hlen : (ns'.map V.int).length ≤ sizeLine := by rw [List.length_map, h2.length_eq]; exact small64 h64
              refine ⟨.ref _, upd H (s.heap.objs.size + 1) (.lst (ns'.map V.int)), I.laid (t' := s.toks) (fun _ _ => PyProof.Rows.sortedAll_old) (Nat.le_succ _) ⟨hlen, out.toList, ep, vals_of_ints h1, he'⟩, rfl, ?_⟩
              rw [sortI_of h2 h3]
              exact fin _ (I.hok.fresh (Nat.le_succ _))
          · rw [if_neg h64] at o; exact o.elim
end
end Py

set_option Elab.async false
set_option linter.all false
set_option maxRecDepth 100000
namespace Py
open PySem PySem.Spec PyProof.Rows L2
/-! ### enumerate over a list or a tuple, from k on -/
set_option maxHeartbeats 1000000 in
theorem meets_enum1 {v : Value} {o : Obj} {H : Heap → Prop} (B : Begins v o H) :
    Meets (Builtin.«enumerate.__new__» ⟨[.type "enumerate", v], []⟩) (fun _ R s => H s.heap ∧
      R (.ok (.ret (.ref (s.heap.push o).objs.size))) { s with heap := (s.heap.push o).push { cls := .type "enumerate", data := .fields #[.none, .bool false, .ref s.heap.objs.size, rawInt 0, .none, .none] } }) :=
  .of_wp fun prog w A R s h => by
    obtain ⟨hp, g, d, tk, os⟩ := s
    obtain ⟨h1, h⟩ := h
    have sub1 := sub_enumerate
    have q1 : ∀ {A' : Around} {E : Value → Shared → Prop} {Q : Value → Shared → Prop}, Q (.ref hp.objs.size) ⟨hp.push o, g, d, tk, os⟩ → wpAny (model prog w) A' (pyIter v) Q E ⟨hp, g, d, tk, os⟩ := by
      intro A' E Q q
      exact B.iter prog w _ _ ⟨hp, g, d, tk, os⟩ _ h1 q
    wp_walk using q1
    refine wpAny_stack_any ?_
    intro st
    refine wpAny_pure ?_
    split
    · rename_i c _ _ _ _ _
      cases (c == Value.type "enumerate")
      · wp_walk using q1
        exact ⟨_, rfl, h⟩
      · wp_walk using q1
        exact ⟨_, rfl, h⟩
    · wp_walk using q1
      exact ⟨_, rfl, h⟩
section
variable {prog : Program} {w : World} {A : Around} {E : Value → Shared → Prop} {s : Shared}
theorem enum1 {v : Value} {o : Obj} {H : Heap → Prop} {Q : Value → Shared → Prop} (B : Begins v o H) (h1 : H s.heap)
    (h : ∀ h', IsEnum h' (s.heap.objs.size + 1) s.heap.objs.size 0 .none → h'.get? s.heap.objs.size = some o → (∀ b o, s.heap.get? b = some o → h'.get? b = some o) → Q (.ref (s.heap.objs.size + 1)) { s with heap := h' }) :
    wpAny (model prog w) A (call (.type "enumerate") [v]) Q E s := by
  have hz : (s.heap.push o).objs.size = s.heap.objs.size + 1 := Heap.size_push ..
  have he : IsEnum ((s.heap.push o).push { cls := .type "enumerate", data := .fields #[.none, .bool false, .ref s.heap.objs.size, rawInt 0, .none, .none] }) (s.heap.objs.size + 1) s.heap.objs.size 0 .none := by
    have q := Heap.get?_push_size (s.heap.push o) (o := { cls := .type "enumerate", data := .fields #[.none, .bool false, .ref s.heap.objs.size, rawInt 0, .none, .none] }) rfl
    rw [hz] at q
    exact q
  refine callType_new F.called_enumerate (by decide) (F.typeCall_enumerate_1 _) (F.newCall_enumerate_1 _) (fun obj => F.args_object_init_2 obj _) F.entry_enumerate_new (meets_enum1 B) ⟨h1, ?_⟩
  change _ ∧ _
  rw [hz]
  exact ⟨⟨_, he, rfl⟩, h _ he (Heap.get?_push_of_some _ (Heap.get?_push_size _ B.free)) fun b o x => Heap.get?_push_of_some _ (Heap.get?_push_of_some _ x)⟩
/-- the end, whatever the count -/
theorem enum_stop {e it : Addr} {c : Int} {old : Value} {Q : Option Value → Shared → Prop} (he : IsEnum s.heap e it c old)
    (nx : ∀ (E' : Value → Shared → Prop) (Q' : Value → Shared → Prop), (∀ h' x, Heap.ExtBut it s.heap h' → (∃ o, h'.get? x = some o ∧ o.cls = .type "StopIteration") → E' (.ref x) { s with heap := h' }) → wpAny (model prog w) A.in1 (Builtin.SmallTypes.nextOf (.ref it)) Q' E' s)
    (hQ : ∀ h', Heap.ExtBut it s.heap h' → Q none { s with heap := h' }) : wpAny (model prog w) A (pyNext (.ref e)) Q E s := by
  have ty : s.TypeIs (.ref e) "enumerate" := ⟨_, he, rfl⟩
  unfold pyNext
  refine wpAny_bind (wpAny_attempt (wpAny_callSpecial?_slot (name := Str.ofString "__next__") ty F.slot_enumerate_next (wpAny_call_entry F.slot_enumerate_next ty F.entry_enumerate_next ?_ (F.args_enumerate_next_1 _))))
  change wpAny _ _ (field (.ref e) 2 >>= _) _ _ _
  refine wpAny_bind (wpAny_field he rfl (x := .ref it) rfl ?_)
  refine wpAny_bind (nx _ _ ?_)
  rintro h' x he' ⟨o, ho, hc⟩
  refine wpAny_bind (wpAny_isInstance (T := "StopIteration") (b := true) ⟨o, ho, hc⟩ isSubtype_stop ?_)
  exact wpAny_pure (hQ _ he')
end
/-- what S tells as it stands at each turn, each item in a new pair -/
def IteS (S : Hp → List V → Prop) (k0 : Int) : It :=
  ⟨fun i H => ∃ xs x, S H xs ∧ xs[i]? = some x, fun i H v H' => ∃ T x, v = .ref T ∧ H T = none ∧ H' = upd H T (.tup [.int (k0 + (i : Nat)), x]) ∧ ∀ xs, S H xs → xs[i]? = some x, fun i H => ∃ xs, S H xs ∧ xs.length ≤ i⟩
/-- a turn of it, by what its inner iterator does -/
theorem turn_en {P : Program} {w : World} {K : PySem.W.Frag} {elts : List Expr} {kk : Nat} {tpos : Pos} (S : Hp → List V → Prop) (k0 : Int) (a e it : Addr) (st : Nat → Heap → Prop)
    (inj : ∀ (X : Cx) pins σ H s xs ys, X.K = K → L2.Inv X pins σ H s → S H xs → S H ys → xs = ys)
    (get : ∀ (X : Cx) pins σ H s xs, X.K = K → L2.Inv X pins σ H s → S H xs → ∃ its : List Value, Vals xs its ∧ (∀ i, st i s.heap → ∀ A : Around, A.handled = none → i < its.length → ∃ (P1 : Nat → Value → Prop) (St : Nat → Heap → Prop), Draws P w A it [it, a] its.length P1 St ∧ St i s.heap ∧ (∀ h, St (i + 1) h → st (i + 1) h) ∧ ∀ x, P1 i x → its[i]? = some x) ∧
      (∀ i, st i s.heap → ∀ A : Around, A.handled = none → its.length ≤ i → ∀ (E' : Value → Shared → Prop) (Q' : Value → Shared → Prop), (∀ h' x, Heap.ExtBut it s.heap h' → (∃ o, h'.get? x = some o ∧ o.cls = .type "StopIteration") → E' (.ref x) { s with heap := h' }) → wpAny (model P w) A (Builtin.SmallTypes.nextOf (.ref it)) Q' E' s))
    (obj : ∀ i h, st i h → ∃ o, h.get? it = some o ∧ ∀ v, o.data ≠ .cell v) (keep : ∀ i h h', st i h → (∀ o, h.get? it = some o → h'.get? it = some o) → st i h') :
    Turn P w K (.Tuple elts kk tpos) (IteS S k0) [e, it] e (fun i h => (∃ old, IsEnum h e it (k0 + ((i : Nat) : Int)) old) ∧ st i h ∧ e ≠ it ∧ a ≠ e) where
  mem := by simp
  obj := fun i h q b hb => by
    obtain ⟨⟨old, he⟩, hs, _⟩ := q
    rcases List.mem_cons.mp hb with z | z
    · rw [z]; exact ⟨_, he, fun v y => nomatch y⟩
    · rw [List.mem_singleton.mp z]; exact obj i h hs
  keep := fun i h h' q k => by
    obtain ⟨⟨old, he⟩, hs, h1, h2⟩ := q
    exact ⟨⟨old, k e (by simp) _ he⟩, keep i h h' hs (k it (by simp)), h1, h2⟩
  item := by
    intro X hP hw hK hc i pins s σ H E I hf q hg
    subst hP hw
    obtain ⟨⟨old, he⟩, hs, hne, hae⟩ := q
    obtain ⟨xs, x, hq, hx⟩ := hg
    obtain ⟨its, rv, g1, g2⟩ := get X pins σ H s xs hK I hq
    obtain ⟨u, hu, ru⟩ := rv.get hx
    have hil := (List.getElem?_eq_some_iff.mp hu).1
    obtain ⟨P1, St, Dr, st1, st2, hP1⟩ := g1 i hs X.A.in1 (I.ok.hd hc) hil
    have hel : e < s.heap.objs.size := Heap.lt_size he
    have hitl : it < s.heap.objs.size := by obtain ⟨_, y, _⟩ := obj i _ hs; exact Heap.lt_size y
    refine wpAny_pyNext_enum_itemC Dr he st1 hil hne ?_ ?_
    · intro hm
      rcases List.mem_cons.mp hm with z | z
      · exact hne z
      · exact hae (List.mem_singleton.mp z).symm
    · intro y h' tk hy ho st' hT hsz hk
      obtain rfl : y = u := by
        have z := hP1 y hy
        rw [hu] at z
        exact (Option.some.inj z).symm
      refine ⟨_, rfl, wpAny_letOwnedTupleGo_enum (s := { s with heap := h', toks := tk + 1 }) ho fun h'' he' sb => ?_⟩
      have hT2 : h''.get? s.heap.objs.size = some { cls := .type "tuple", data := .seq #[.int (k0 + ((i : Nat) : Int)) tk, y] } := (sb.2 _ (Nat.ne_of_gt hel)).trans hT
      have new : ObjOk X.prog X.w (upd H s.heap.objs.size (.tup [.int (k0 + (i : Nat)), x])) h'' s.heap.objs.size (.tup [.int (k0 + (i : Nat)), x]) :=
        ⟨by show 2 ≤ sizeLine; decide, [.int (k0 + ((i : Nat) : Int)) tk, y], .cons ⟨_, rfl⟩ (.cons ru .nil), ⟨_, hT2, rfl, _, rfl⟩⟩
      have I1 : L2.Inv X pins σ (upd H s.heap.objs.size (.tup [.int (k0 + (i : Nat)), x])) { s with heap := h'', toks := tk + 1 } :=
        I.turnedNew (ch := [e, it]) (fun b ob hb q => (sb.2 b (fun z => hb (by simp [z]))).trans (hk b ob (fun z => hb (by simp [z])) (fun z => hb (by simp [z])) q)) hf (Nat.le_refl _) new
      refine ⟨.ref s.heap.objs.size, _, I1, rfl, ⟨_, x, rfl, I.hok.fresh (Nat.le_refl _), rfl, fun ys hy => by rw [inj X pins σ H s ys xs hK I hy hq]; exact hx⟩, ⟨⟨y, ?_⟩, keep _ _ _ (st2 _ st') (fun o q => (sb.2 it (Ne.symm hne)).trans q), hne, hae⟩, fun b hb => ?_⟩
      · have e1 : k0 + ((i + 1 : Nat) : Int) = k0 + (i : Int) + 1 := by omega
        rw [e1]; exact he'
      · have hb' : b < s.heap.objs.size := by
          rcases List.mem_cons.mp hb with z | z
          · rw [z]; exact hel
          · rw [List.mem_singleton.mp z]; exact hitl
        rw [upd_ne (Nat.ne_of_lt hb')]
        exact (hf b hb).1
  done := by
    intro X hP hw hK hc i pins s σ H E I hf q hg
    subst hP hw
    obtain ⟨⟨old, he⟩, hs, hne, hae⟩ := q
    obtain ⟨xs, hq, hx⟩ := hg
    obtain ⟨its, rv, g1, g2⟩ := get X pins σ H s xs hK I hq
    obtain ⟨f0, f1, f2, f3, f4, f5⟩ := hf it (by simp)
    refine enum_stop he (g2 i hs X.A.in1 (I.ok.hd hc) (by rw [← rv.length]; exact hx)) ?_
    intro h' eb
    exact ⟨rfl, I.turned (t' := s.toks) (fun b o hb q => eb b o hb q) f0 f1 f3 f4 f5⟩
  self := fun A i s Q E q h => by
    obtain ⟨⟨_, he⟩, _⟩ := q
    exact wpAny_pyIter_enum he h
theorem turn_enL {P : Program} {w : World} {K : PySem.W.Frag} {elts : List Expr} {kk : Nat} {tpos : Pos} (k0 : Int) (a e it : Addr) (hai : a ≠ it) :
    Turn P w K (.Tuple elts kk tpos) (IteS (fun H xs => SqL K H a xs) k0) [e, it] e (fun i h => (∃ old, IsEnum h e it (k0 + ((i : Nat) : Int)) old) ∧ h.IsListIter it a i ∧ e ≠ it ∧ a ≠ e) := by
  refine turn_en (fun H xs => SqL K H a xs) k0 a e it (fun i h => h.IsListIter it a i) ?_ ?_ ?_ ?_
  · intro X pins σ H s xs ys hK I h1 h2
    subst hK
    exact I.list_inj h1 h2
  · intro X pins σ H s xs hK I h1
    subst hK
    obtain ⟨its, rv, p, hz⟩ := I.list h1
    refine ⟨its, rv, fun i hs A hh hi => ?_, fun i hs A hh hi E' Q' k => ?_⟩
    · have D := Draws.list (prog := P) (w := w) hh it a hai its.toArray
      rw [List.size_toArray] at D
      exact ⟨_, _, D, ⟨hs, p.isList⟩, fun h q => q.1, fun x hx => by simpa using hx⟩
    · exact wpAny_nextOf_list_end hh hs p.isList (by simp; omega) k
  · intro i h hs
    obtain ⟨o, e, c, d⟩ := hs
    exact ⟨o, e, fun v z => by rw [d] at z; cases z⟩
  · intro i h h' hs k
    exact hs.at k
theorem turn_enT {P : Program} {w : World} {K : PySem.W.Frag} {elts : List Expr} {kk : Nat} {tpos : Pos} (k0 : Int) (a e it : Addr) (hai : a ≠ it) :
    Turn P w K (.Tuple elts kk tpos) (IteS (fun H xs => SqT K H a xs) k0) [e, it] e (fun i h => (∃ old, IsEnum h e it (k0 + ((i : Nat) : Int)) old) ∧ h.IsTupleIter it a i ∧ e ≠ it ∧ a ≠ e) := by
  refine turn_en (fun H xs => SqT K H a xs) k0 a e it (fun i h => h.IsTupleIter it a i) ?_ ?_ ?_ ?_
  · intro X pins σ H s xs ys hK I h1 h2
    subst hK
    exact I.tuple_inj h1 h2
  · intro X pins σ H s xs hK I h1
    subst hK
    obtain ⟨its, rv, p, hz⟩ := I.tuple h1
    have p' : s.heap.IsTuple a its.toArray := p
    refine ⟨its, rv, fun i hs A hh hi => ?_, fun i hs A hh hi E' Q' k => ?_⟩
    · have D := Draws.tuple (prog := P) (w := w) hh it a hai its.toArray
      rw [List.size_toArray] at D
      exact ⟨_, _, D, ⟨hs, p'⟩, fun h q => q.1, fun x hx => by simpa using hx⟩
    · exact wpAny_nextOf_tuple_end hh hs p' (by simp; omega) k
  · intro i h hs
    obtain ⟨o, e, c, d⟩ := hs
    exact ⟨o, e, fun v z => by rw [d] at z; cases z⟩
  · intro i h h' hs k
    exact hs.at k
end Py

set_option Elab.async false
set_option linter.all false
set_option maxRecDepth 100000
namespace Py
open PySem PySem.Spec PyProof.Rows L2
section
variable {X : Cx} {G : Gam} {E : XK} {a : Expr} {fa : EX} {pos p : Pos} {elts : List Expr} {kk : Nat} {tpos : Pos}
/-- the source of an enumerate -/
theorem it_enL {K : PySem.W.Frag} {m0 : Nat → Addr} {h0 : LH} {H0 : Hp} {b : Addr} {s : Src} {k0 : Int} (it : ItRel G K m0 h0 H0 (Itl K b) s) : ItRel G K m0 h0 H0 (IteS (fun H xs => SqL K H b xs) k0) (.enm k0 s) := by
  intro m h H i p
  have q := it m h H i p
  simp only [srcAt]
  cases z : srcAt s h i with
  | none => trivial
  | some w =>
    cases w with
    | none =>
      simp only [z] at q
      exact q
    | some d =>
      simp only [z] at q
      obtain ⟨⟨xs, x, hs, hx⟩, y⟩ := q
      refine ⟨⟨xs, x, hs, hx⟩, ?_⟩
      rintro v H' ⟨T, x', rfl, hT, rfl, hall⟩
      have e : x' = x := by
        have := hall xs hs
        rw [hx] at this
        exact (Option.some.inj this).symm
      subst e
      obtain ⟨_, rd⟩ := y x' H ⟨rfl, fun ys hy => hall ys hy⟩
      have pp := p.rel.newT (u := .tup [.int (k0 + (i : Nat)), x']) hT
      exact ⟨pp, .tup ⟨SqT.of upd_same, .inr ⟨_, _, rfl⟩⟩ (.cons (.int _) (.cons (pp.d rd) .nil))⟩
theorem it_enT {K : PySem.W.Frag} {m0 : Nat → Addr} {h0 : LH} {H0 : Hp} {b : Addr} {s : Src} {k0 : Int} (it : ItRel G K m0 h0 H0 (Itt K b) s) : ItRel G K m0 h0 H0 (IteS (fun H xs => SqT K H b xs) k0) (.enm k0 s) := by
  intro m h H i p
  have q := it m h H i p
  simp only [srcAt]
  cases z : srcAt s h i with
  | none => trivial
  | some w =>
    cases w with
    | none =>
      simp only [z] at q
      exact q
    | some d =>
      simp only [z] at q
      obtain ⟨⟨xs, x, hs, hx⟩, y⟩ := q
      refine ⟨⟨xs, x, hs, hx⟩, ?_⟩
      rintro v H' ⟨T, x', rfl, hT, rfl, hall⟩
      have e : x' = x := by
        have := hall xs hs
        rw [hx] at this
        exact (Option.some.inj this).symm
      subst e
      obtain ⟨_, rd⟩ := y x' H ⟨rfl, fun ys hy => hall ys hy⟩
      have pp := p.rel.newT (u := .tup [.int (k0 + (i : Nat)), x']) hT
      exact ⟨pp, .tup ⟨SqT.of upd_same, .inr ⟨_, _, rfl⟩⟩ (.cons (.int _) (.cons (pp.d rd) .nil))⟩
/-- what enumerate makes of a list or a tuple -/
theorem en_pie {pins : List (Addr × Obj)} {σ : L2.St} {H1 : Hp} {s1 : Shared} {R : It → Hp → Prop} {b : Addr} {k0 : Int} {h' : Heap} {E' : Value → Shared → Prop} (I1 : L2.Inv X pins σ H1 s1) (hb : b < s1.heap.objs.size) (he : IsEnum h' (s1.heap.objs.size + 1) s1.heap.objs.size k0 .none) (hk : ∀ b o, s1.heap.get? b = some o → h'.get? b = some o) (J : It) (st : Nat → Heap → Prop)
    (T : Turn X.prog X.w X.K (.Tuple elts kk tpos) J [s1.heap.objs.size + 1, s1.heap.objs.size] (s1.heap.objs.size + 1) (fun i h => (∃ old, IsEnum h (s1.heap.objs.size + 1) s1.heap.objs.size (k0 + ((i : Nat) : Int)) old) ∧ st i h ∧ s1.heap.objs.size + 1 ≠ s1.heap.objs.size ∧ b ≠ s1.heap.objs.size + 1))
    (hs : st 0 h') (q : R J H1) : wpAny (model X.prog X.w) X.A (pyIter (.ref (s1.heap.objs.size + 1))) (PIE X pins σ (.Tuple elts kk tpos) R) E' { s1 with heap := h' } := by
  refine wpAny_pyIter_enum he ?_
  refine ⟨s1.heap.objs.size + 1, [s1.heap.objs.size + 1, s1.heap.objs.size], _, J, H1, rfl, I1.kept (t' := s1.toks) hk, T, ⟨⟨.none, ?_⟩, hs, Nat.succ_ne_self _, Nat.ne_of_lt (Nat.lt_succ_of_lt hb)⟩, ?_, q⟩
  · have e1 : k0 + ((0 : Nat) : Int) = k0 := by omega
    rw [e1]; exact he
  · intro c hc
    have hle : s1.heap.objs.size ≤ c := by
      rcases List.mem_cons.mp hc with z | z
      · rw [z]; exact Nat.le_succ _
      · rw [List.mem_singleton.mp z]; exact Nat.le_refl _
    exact I1.fpOk hle (I1.hok.fresh hle)
theorem en_run {pins : List (Addr × Obj)} {σ : L2.St} {H1 : Hp} {s1 : Shared} {R : It → Hp → Prop} {m1 : Nat → Addr} {h1 : LH} {d : D} {v : V} {u : Value} {src : Src} {k0 : Int} (I1 : L2.Inv X pins σ H1 s1) (rh : RelH G X.K m1 h1 H1) (rd : RelD X.K m1 h1.length H1 d v) (ru : RelV v u) (e : srcOf d h1 = some src)
    (q : ∀ J, ItRel G X.K m1 h1 H1 J (.enm k0 src) → R J H1) (cl : Sem Value)
    (mk : ∀ (o : Obj) (Hh : Heap → Prop) (Q : Value → Shared → Prop), Begins u o Hh → Hh s1.heap → (∀ h', IsEnum h' (s1.heap.objs.size + 1) s1.heap.objs.size k0 .none → h'.get? s1.heap.objs.size = some o → (∀ b o, s1.heap.get? b = some o → h'.get? b = some o) → Q (.ref (s1.heap.objs.size + 1)) { s1 with heap := h' }) → wpAny (model X.prog X.w) X.A cl Q X.xe s1) :
    wpAny (model X.prog X.w) X.A cl (fun v s2 => wpAny (model X.prog X.w) X.A (pyIter v) (PIE X pins σ (.Tuple elts kk tpos) R) X.xe s2) X.xe s1 := by
  obtain ⟨b, rfl, z⟩ := src_ok rh rd e
  obtain rfl : u = Value.ref b := ru
  rcases z with ⟨⟨xs, hs⟩, it⟩ | ⟨⟨xs, hs⟩, it⟩
  · obtain ⟨its, rv, p, hz⟩ := I1.list hs
    have hb : b < s1.heap.objs.size := by obtain ⟨o, n, ho, _⟩ := p; exact Heap.lt_size ho
    refine mk _ _ _ (begins_list b its.toArray) p.isList ?_
    intro h' he hi hk
    exact en_pie I1 hb he hk _ (fun i h => h.IsListIter s1.heap.objs.size b i) (turn_enL k0 b _ _ (Nat.ne_of_lt hb)) ⟨_, hi, rfl, rfl⟩ (q _ (it_enL it))
  · obtain ⟨its, rv, p, hz⟩ := I1.tuple hs
    have hb : b < s1.heap.objs.size := p.lt
    refine mk _ _ _ (begins_tuple b its.toArray) p ?_
    intro h' he hi hk
    exact en_pie I1 hb he hk _ (fun i h => h.IsTupleIter s1.heap.objs.size b i) (turn_enT k0 b _ _ (Nat.ne_of_lt hb)) ⟨_, hi, rfl, rfl⟩ (q _ (it_enT it))
theorem toEnum {k0 : Int} {σ : L2.St} {H : Hp} {R : It → Hp → Prop} (t : tI G X.K E (iEnum k0 fa) σ H R) : tE G X.K E fa σ H (fun v H1 => ∃ m1 h1 d src, RelH G X.K m1 h1 H1 ∧ RelD X.K m1 h1.length H1 d v ∧ srcOf d h1 = some src ∧ ∀ J, ItRel G X.K m1 h1 H1 J (.enm k0 src) → R J H1) := by
  obtain ⟨m, r, h, rh, rs, o⟩ := t
  refine ⟨m, r, h, rh, rs, ?_⟩
  rcases OutI.bindR o with ⟨d, h1, e, o⟩ | ⟨c, fs, h1, e, o⟩
  · rw [e]
    intro m1 H1 v p1 d1
    cases q : srcOf d h1 with
    | none => simp only [q] at o; exact o.elim
    | some src =>
      simp only [q] at o
      exact ⟨m1, h1, d, src, p1.rel, d1, q, fun J hJ => o m1 H1 J p1 hJ⟩
  · rw [e]; exact o
theorem iEnum_ok (hg : Gl X "enumerate") (hm : X.mg "enumerate" = none) (ha : PE X a (tE G X.K E fa)) (hs : starEach [a] X.env = [(false, eval a X.env)] := by rfl) : PI X (.Tuple elts kk tpos) (.Call (.Name "enumerate" p) [a] [] pos) (tI G X.K E (iEnum 0 fa)) := by
  refine ⟨fun pins s σ H R I t => ?_⟩
  have ha1 : PA X [a] (tCons (tE G X.K E fa) tNil) := pa_cons ha pa_nil (by rw [hs]; rfl)
  refine Call_ (ld_blt I hg hm boot_enumerate (PyProof.Rows.callWith_type1 (thn (ha1.run pos pins s σ H (fun vs H1 => ∃ v, vs = [v] ∧ ∃ m1 h1 d src, RelH G X.K m1 h1 H1 ∧ RelD X.K m1 h1.length H1 d v ∧ srcOf d h1 = some src ∧ ∀ J, ItRel G X.K m1 h1 H1 J (.enm 0 src) → R J H1) I ?_) ?_) hs rfl))
  · obtain ⟨m, r, h, rh, rs, o⟩ := toEnum t
    refine ⟨m, r, h, rh, rs, ?_⟩
    cases z : fa r h with
    | stuck => rw [z] at o; exact o
    | exc c fs h1 => rw [z] at o; exact o
    | ok d h1 => rw [z] at o; exact fun m1 H1 v p1 d1 => ⟨v, rfl, o m1 H1 v p1 d1⟩
  · rintro us s1 ⟨vs, H1, I1, r1, v, rfl, m1, h1, d, src, rh, rd, e, q⟩
    obtain ⟨u, rfl, ru⟩ := Vals.one r1
    exact en_run I1 rh rd ru e q _ fun o Hh Q B hH k => enum1 B hH k
theorem iEnumK_ok {k0 : Int} {j : Nat} {pk pc : Pos} (h0 : -(2 ^ 63) ≤ k0) (h1' : k0 < 2 ^ 63) (hg : Gl X "enumerate") (hm : X.mg "enumerate" = none) (ha : PE X a (tE G X.K E fa)) (hs : starEach [a] X.env = (false, eval a X.env) :: starEach [] X.env := by rfl)
    (hall : (backToKw pos (keywordEach [⟨some "start", .Constant (.int k0) j pc, pk⟩] X.env)).all (·.1.isSome) = true := by rfl) (hks : (backToKw pos (keywordEach [⟨some "start", .Constant (.int k0) j pc, pk⟩] X.env)).filterMap (·.1) = [Str.ofString "start"] := by rfl)
    (hpl : ((backTo pos (starEach [a] X.env)).any (·.1) || (backToKw pos (keywordEach [⟨some "start", .Constant (.int k0) j pc, pk⟩] X.env)).any (·.1.isNone)) = false := by rfl) :
    PI X (.Tuple elts kk tpos) (.Call (.Name "enumerate" p) [a] [⟨some "start", .Constant (.int k0) j pc, pk⟩] pos) (tI G X.K E (iEnum k0 fa)) := by
  refine ⟨fun pins s σ H R I t => ?_⟩
  have ha1 : PA X [a] (tCons (tE G X.K E fa) tNil) := pa_cons ha pa_nil hs
  have hk1 : PK X [⟨some "start", .Constant (.int k0) j pc, pk⟩] (tCons (tC (.int k0)) tNil) := pk_cons pe_int pk_nil
  refine wpAny_Call_Name_kw (ld_blt I hg hm boot_enumerate ?_)
  refine PySem.W.callWith_of (P := fun _ => True) hpl (fun _ _ => ⟨Keeper.machine, .inr (.inl rfl), PySem.W.Looks.of_pure rfl⟩) (PyProof.Rows.evalArgs_kw2 hall (thn (ha1.run pos pins s σ H (fun vs H1 => ∃ v, vs = [v] ∧ ∃ m1 h1 d src, RelH G X.K m1 h1 H1 ∧ RelD X.K m1 h1.length H1 d v ∧ srcOf d h1 = some src ∧ ∀ J, ItRel G X.K m1 h1 H1 J (.enm k0 src) → R J H1) I ?_) ?_) hs)
  · obtain ⟨m, r, h, rh, rs, o⟩ := toEnum t
    refine ⟨m, r, h, rh, rs, ?_⟩
    cases z : fa r h with
    | stuck => rw [z] at o; exact o
    | exc c fs h1 => rw [z] at o; exact o
    | ok d h1 => rw [z] at o; exact fun m1 H1 v p1 d1 => ⟨v, rfl, o m1 H1 v p1 d1⟩
  · rintro us s1 ⟨vs, H1, I1, r1, v, rfl, m1, h1, d, src, rh, rd, e, q⟩
    obtain ⟨u, rfl, ru⟩ := Vals.one r1
    refine thn (hk1.run pos pins s1 σ H1 (fun zs H2 => zs = [.int k0] ∧ H2 = H1) I1 ⟨rfl, rfl⟩) ?_
    rintro ws s2 ⟨zs, H2, I2, rz, rfl, rfl⟩
    obtain ⟨u2, rfl, ru2⟩ := Vals.one rz
    obtain ⟨tk, rfl⟩ := ru2
    refine ⟨trivial, ?_⟩
    rw [hks]
    exact en_run I2 rh rd ru e q _ fun o Hh Q B hH k => enum_begins_start B hH h0 h1' (fun h' a b _ c => k h' a b c)
end
end Py

set_option Elab.async false
set_option linter.all false
set_option maxRecDepth 100000
namespace Py
open PySem PySem.Spec PyProof.Rows L2
/-- the law's promise: True at every script of at most n ints -/
def spLaw (n : Nat) (K : PySem.W.Frag) (T : List (Addr × Str)) : Sp := fun vs H Q _ => LamX.Tabs T H ∧ ∃ (a : Addr) (ns : List Int), vs = [.ref a] ∧ SqF K H a (ns.map V.int) ∧ ns.length ≤ n ∧ ∀ H', Q (.bl true) H'
theorem law_of {n : Nat} {P : Program} {w : World} {K : PySem.W.Frag} {mg : Str → Option Value} {base : Heap} {k : Nat} {f : Addr} {fd : FuncData} {ps : List Str} {G : Gam} {cf : CF} (F : FnG P w K mg base CX0 k f fd ps (spF G K cf)) (hT : ∀ ns : List Int, ns.length ≤ n → ∃ h', cf [.scr ns] [] = .ok (.bl true) h') :
    FnG P w K mg base CX0 k f fd ps (spLaw n K G.tabs) := by
  have imp : ∀ vs H Q E, spLaw n K G.tabs vs H Q E → spF G K cf vs H Q E := by
    rintro vs H Q E ⟨tab, a, ns, rfl, hs, hl, q⟩
    obtain ⟨h', e⟩ := hT ns hl
    refine ⟨fun _ => 0, [], [.scr ns], ⟨fun k o z => by simp at z, fun i j hi => absurd hi (by simp), tab⟩, .cons (.scr hs) .nil, ?_⟩
    rw [e]
    intro m' H' v p d
    cases d
    exact q H'
  exact ⟨fun vs H Q E h => F.len vs H Q E (imp _ _ _ _ h), fun A outer s H args us vs Q E g r e b v h => F.run A outer s H args us vs Q E g r e b v (imp _ _ _ _ h)⟩
end Py

set_option Elab.async false
set_option linter.all false
set_option maxRecDepth 100000
namespace Py
open PySem PySem.Spec PyProof.Rows L2
section
variable {X : Cx} {G : Gam} {E : XK} {a b : Expr} {fa fb : EX} {pos : Pos} {rest : List Expr}
/-! ### bools alone -/
theorem yB (ha : PE X a (tE G X.K E fa)) (hs : ∀ whole, isTrue a X.env whole = (do let v ← whole; standAt a.pos; holding [v] (truthy v)) := by intro _; rfl) : PT X a (tT G X.K E (eB fa)) := by
  refine PT_mono (pt_val ha hs) ?_
  rintro σ H Q ⟨m, r, h, rh, rs, o⟩
  refine ⟨m, r, h, rh, rs, ?_⟩
  rcases OutT.bindR o with ⟨x, h1, e, o⟩ | ⟨c, fs, h1, e, o⟩
  · rw [e]
    intro m1 H1 v p d
    cases d with
    | bl k =>
      obtain ⟨b, e, o⟩ := o
      cases e
      exact ⟨_, rfl, o m1 H1 p⟩
    | _ => exact o.elim
  · rw [e]; exact o
theorem xAndB (ha : PE X a (tE G X.K E fa)) (hb : PE X (.BoolOp .And (b :: rest) pos) (tE G X.K E fb)) : PE X (.BoolOp .And (a :: b :: rest) pos) (tE G X.K E (eAndB fa fb)) := by
  refine PE_mono (pe_and ha hb) ?_
  rintro σ H Q ⟨m, r, h, rh, rs, o⟩
  refine ⟨m, r, h, rh, rs, ?_⟩
  rcases Out.bindR o with ⟨x, h1, e, o⟩ | ⟨c, fs, h1, e, o⟩
  · rw [e]
    intro m1 H1 v p d
    cases d with
    | bl k =>
      refine ⟨k, rfl, ?_⟩
      cases k with
      | true => exact iteT ⟨m1, r, h1, p.rel, p.s rs, Out.later p o⟩
      | false => exact iteF (o m1 H1 _ p (.bl false))
    | _ => exact o.elim
  · rw [e]; exact o
theorem xOrB (ha : PE X a (tE G X.K E fa)) (hb : PE X (.BoolOp .Or (b :: rest) pos) (tE G X.K E fb)) : PE X (.BoolOp .Or (a :: b :: rest) pos) (tE G X.K E (eOrB fa fb)) := by
  refine PE_mono (pe_or ha hb) ?_
  rintro σ H Q ⟨m, r, h, rh, rs, o⟩
  refine ⟨m, r, h, rh, rs, ?_⟩
  rcases Out.bindR o with ⟨x, h1, e, o⟩ | ⟨c, fs, h1, e, o⟩
  · rw [e]
    intro m1 H1 v p d
    cases d with
    | bl k =>
      refine ⟨k, rfl, ?_⟩
      cases k with
      | false => exact iteF ⟨m1, r, h1, p.rel, p.s rs, Out.later p o⟩
      | true => exact iteT (o m1 H1 _ p (.bl true))
    | _ => exact o.elim
  · rw [e]; exact o
theorem xNotB (ha : PE X a (tE G X.K E fa)) : PE X (.UnaryOp .Not a pos) (tE G X.K E (eNotB fa)) := by
  refine PE_mono (pe_not ha) ?_
  rintro σ H Q ⟨m, r, h, rh, rs, o⟩
  refine ⟨m, r, h, rh, rs, ?_⟩
  rcases Out.bindR o with ⟨x, h1, e, o⟩ | ⟨c, fs, h1, e, o⟩
  · rw [e]
    intro m1 H1 v p d
    cases d with
    | bl k => exact ⟨k, rfl, o m1 H1 _ p (.bl _)⟩
    | _ => exact o.elim
  · rw [e]; exact o
theorem xNeg (ha : PE X a (tE G X.K E fa)) : PE X (.UnaryOp .USub a pos) (tE G X.K E (e1 oNeg fa)) := by
  refine PE_mono (pe_un un_neg ha) ?_
  rintro σ H Q ⟨m, r, h, rh, rs, o⟩
  refine ⟨m, r, h, rh, rs, ?_⟩
  rcases Out.bindR o with ⟨x, h1, e, o⟩ | ⟨c, fs, h1, e, o⟩
  · rw [e]
    intro m1 H1 v p d
    cases d with
    | int i => exact ⟨i, rfl, o m1 H1 _ p (.int _)⟩
    | _ => exact o.elim
  · rw [e]; exact o
/-! ### tests of a comprehension -/
theorem ptsNil : PTs X [] (tT G X.K E (eC (.bl true))) := by
  refine ⟨fun pins s σ H Q I t => ?_⟩
  obtain ⟨m, r, h, rh, rs, b, e, o⟩ := t
  cases e
  exact pts_nil.run pins s σ H Q I (o m H (Post.refl rh))
end
/-! ### binding -/
section
variable {K : PySem.W.Frag} {x qual : Str} {params : Arguments} {body : List Stmt} {scope : Scope} {dvs : List V} {kws : List (Str × V)} {f : Addr} {fd : FuncData} {ps : List Str}
theorem bnd_of {n : Nat} {ds : List Value} {dd : List D} {dv : List V} (hb : Binds K fd ps ds) (hv : Vals dv ds) (hd : ∀ m N H, RelDs K m N H dd dv) (hn : n + ds.length = ps.length) : Bnd K fd ps n [] (fun xs _ => xs ++ dd) := by
  intro s us ws vs zs kin r1 r2 h1 h2
  have hw : ws = [] := List.eq_nil_of_length_eq_zero h2
  subst hw
  refine ⟨us ++ ds, vs ++ dv, r1.append hv, hb s us kin (by rw [List.length_append, h1]; exact hn), ?_⟩
  intro m N H xs es q1 q2
  exact q1.append (hd m N H)
/-- every parameter is written, none by name -/
theorem bnd_plain {n : Nat} (F : FunD K x qual params body scope [] kws f fd) (hn : ps.length = n)
    (h : ∀ (kV doc pm : Value) (an : Option Addr) (cdv ct : Value) (us : List Value), us.length = ps.length → bindArgs (PySem.W.fnOf x qual params body scope .none kV doc pm an cdv ct) ⟨us, []⟩ = pure (ps.zip us)) : Bnd K fd ps n [] bd0 := by
  intro s us ws vs zs kin r1 r2 h1 h2
  have hw : ws = [] := List.eq_nil_of_length_eq_zero h2
  subst hw
  exact ⟨us, vs, r1, F.bindsA h s us (h1.trans hn.symm), fun m N H xs es q1 q2 => q1⟩
/-- by name, no defaults: g arranges them -/
theorem bnd_kw {n : Nat} {ks : List Str} (g : {α : Type} → List α → List α → List α) (F : FunD K x qual params body scope [] kws f fd)
    (hV : ∀ {vs zs : List V} {us ws : List Value}, Vals vs us → Vals zs ws → us.length = n → ws.length = ks.length → Vals (g vs zs) (g us ws))
    (hD : ∀ {m : Nat → Addr} {N : Nat} {H : Hp} {vs zs : List V} {us ws : List D}, RelDs K m N H us vs → RelDs K m N H ws zs → us.length = n → ws.length = ks.length → RelDs K m N H (g us ws) (g vs zs))
    (h : ∀ (kV doc pm : Value) (an : Option Addr) (cdv ct : Value) (us ws : List Value), us.length = n → ws.length = ks.length → bindArgs (PySem.W.fnOf x qual params body scope .none kV doc pm an cdv ct) ⟨us, ks.zip ws⟩ = pure (ps.zip (g us ws))) : Bnd K fd ps n ks (fun a b => g a b) := by
  obtain ⟨oc, od, dV, kV, doc, pm, an, cdv, ct, osl, rfl, lk, hcd, hD0, hK⟩ := F.ex
  rcases hD0 with ⟨_, rfl⟩ | ⟨e, _⟩
  · intro s us ws vs zs kin r1 r2 h1 h2
    refine ⟨g us ws, g vs zs, hV r1 r2 h1 h2, .of_eq (h kV doc pm an cdv ct us ws h1 h2), ?_⟩
    intro m N H xs es q1 q2
    exact hD q1 q2 (by rw [q1.length, r1.length, h1]) (by rw [q2.length, r2.length, h2])
  · exact absurd rfl e
/-- a def by its body, from its facts -/
theorem fnG_D {G : Gam} {CX : CXT} {P : Program} {w : World} {mg : Str → Option Value} {base : Heap} {k : Nat} {N : List Str} {b : SX} {n kk : Nat} (F : FunD K x qual params body scope dvs kws f fd) (S : FnScope N ps scope) (hn : ps.length = n) (hk : N.length - ps.length = kk)
    (hbody : ∀ (cdv : Value) (A : Around) (outer : List Env) (s : Shared) (H : Hp) (E : XK), A.guards = some [] → Room k (A.deeper (envOfC qual scope s.heap.objs.size f cdv)) →
      PSs (cxOf CX P w K mg base N qual scope f cdv A outer s H E) body (tS G K E b)) : FnG P w K mg base CX (k + 1) f fd ps (spF G K (runF n kk b)) := by
  obtain ⟨oc, od, dV, kV, doc, pm, an, cdv, ct, osl, rfl, lk, hcd, _, _⟩ := F.ex
  exact fnG_of lk hcd S hn hk fun A outer s H E hg hr => hbody cdv A outer s H E hg hr
theorem hu64 {k : Nat} {A : Around} (r : Room k A) : A.units + 64 < cLine := r.units
theorem hu70 {k : Nat} {A : Around} (r : Room k A) : A.units + 70 < cLine := by have := r.un; omega
theorem passes0 {X : Cx} {E : XK} : Passes CX0 X E := fun _ _ _ _ _ _ _ h => h.elim
end
end Py

set_option Elab.async false
set_option linter.all false
set_option maxRecDepth 100000
/-! Own layer: repr of whole numbers. -/
namespace Py
open PySem PySem.Spec PyProof.Rows L2
section
variable {X : Cx} {G : Gam} {E : XK}
theorem rep_okB (hg : X.A.guards = some []) (hu : X.A.units + 70 < cLine) : CallR X (.builtin "repr") (rA G X.K E bRep) := by
  intro pins s σ H xs us Q I r ⟨m, h, ds, rh, rd, o⟩
  have gen : bRep ds h = bRepr ds h → wpAny (model X.prog X.w) X.A (call (.builtin "repr") us) (EP X pins σ Q) X.xe s := fun e => repr_okB hg hu pins s σ H xs us Q I r ⟨m, h, ds, rh, rd, e ▸ o⟩
  cases rd with
  | nil => exact gen rfl
  | @cons d v ds vs a b =>
    cases b with
    | cons _ _ => exact gen (by cases d <;> rfl)
    | nil =>
      cases a with
      | int i =>
        by_cases c : i.natAbs.log2 < 1920
        · refine SkE.call_repr_int pins s σ H _ us Q I r ⟨i, rfl, c, ?_⟩
          have e : bRep [.int i] h = .ok (.str (toString i)) h := if_pos c
          rw [e] at o
          exact o m H _ (Post.refl rh) (.str _)
        · have e : bRep [.int i] h = .stuck := if_neg c
          rw [e] at o; exact o.elim
      | _ => exact gen rfl
def isBv (b : Bool) : V → Bool
  | .bl c => c == b
  | _ => false
def tIsB (b : Bool) (ta : TE) : TE := fun σ H Q => ta σ H fun x H1 => ((∃ c, x = .bl c) ∨ x = .non ∨ (∃ i, x = .int i) ∨ (∃ i, x = .str i) ∨ ∃ i, x = .ref i) ∧ Q (.bl (isBv b x)) H1
variable {a : Expr} {fa : EX} {pos : Pos}
/-! ### list(range(a, b)) -/
end
section
variable {K : PySem.W.Frag} {x qual : Str} {params : Arguments} {body : List Stmt} {scope : Scope} {dvs : List V} {kws : List (Str × V)} {f : Addr} {fd : FuncData} {ps : List Str}
end
end Py

set_option Elab.async false
set_option linter.all false
set_option maxRecDepth 100000
/-! Own layer: isinstance of own classes, == by an own __eq__. -/
namespace Py
open PySem PySem.Spec PyProof.Rows L2
/-- what isinstance asks of an own class -/
structure ClsI (K : PySem.W.Frag) (C : Addr) : Prop where
  cl : Cls K C
  ha : PySem.W.findIn K (.ref C) "__class__" = some (some (.builtin "object.__class__"))
  hn : PySem.W.specialIn K (.builtin "object.__class__") "__get__" = some (some (.builtin "getset_descriptor.__get__"))
  htk : PySem.W.takesIn K (.builtin "object.__class__") = some true
  hm : PySem.W.mroIn K C (.type "object") = some true
section
variable {X : Cx} {G : Gam} {E : XK} {CX : CXT}
theorem tyX_ins {m : Nat → Addr} {h : LH} {H : Hp} {n c : Nat} {fs : List (Nat × D)} (rh : RelH G X.K m h H) (z : h[n]? = some (.ins c fs)) (ci : ClsI X.K (G.cl c)) : TyX X.K H (.ref (m n)) (.ref (G.cl c)) := by
  obtain ⟨dx, vs, e1, _⟩ := rh.obj n _ z
  exact .base (.ins e1 ci.cl ci.ha ci.hn ci.htk ci.hm)
variable {a : Expr} {fa : EX} {pos : Pos}
theorem xIsO {p p' : Pos} {tn : Str} {C : Addr} {f : Nat → Option Bool} (hg : Gl X "isinstance") (hm : X.mg "isinstance" = none) (hgt : Gl X tn) (hmt : X.mg tn = some (.ref C)) (hf : ∀ c b, f c = some b → ClsI X.K (G.cl c) ∧ PySem.W.kitOne X.K (.ref (G.cl c)) (.ref C) = some b)
    (hk : ∀ k : Kd, PySem.W.kitOne X.K (.type k.nm) (.ref C) = some false) (ha : PE X a (tE G X.K E fa)) (hdb : (tn == ("__debug__" : Str)) = false := by decide)
    (s1 : starEach [a, .Name tn p'] X.env = (false, eval a X.env) :: starEach [.Name tn p'] X.env := by rfl) (s2 : starEach [.Name tn p'] X.env = (false, eval (.Name tn p') X.env) :: starEach [] X.env := by rfl) (hpl : (backTo pos (starEach [.Name tn p'] X.env)).any (·.1) = false := by rfl) :
    PE X (.Call (.Name "isinstance" p) [a, .Name tn p'] [] pos) (tE G X.K E (e1 (oIsO f) fa)) := by
  refine PE_mono (pe_callB call_isi hg hm (by decide +kernel) (pa_cons ha (pa_cons (pe_glob (v := .ref C) hgt hmt rfl hdb) pa_nil s2) s1) (by decide) (by decide) s1 hpl) ?_
  rintro σ H Q ⟨m, r, h, rh, rs, o⟩
  refine ⟨m, r, h, rh, rs, ?_⟩
  rcases Out.bindR o with ⟨d, h1, e, o⟩ | ⟨c, fs, h1, e, o⟩
  · rw [e]
    intro m1 H1 v p1 d1
    have kd : ∀ k, kindD d h1 = some k → oIsO f d h1 = .ok (.bl false) h1 → rIsi X.K [v, V.ref C] H1 Q := by
      intro k z e2
      rw [e2] at o
      exact ⟨v, .ref C, _, _, _, rfl, .own _, ty_ok p1.rel d1 z, hk k, o m1 H1 _ p1 (.bl _)⟩
    cases d1 with
    | non => exact kd _ rfl rfl
    | bl _ => exact kd _ rfl rfl
    | int _ => exact kd _ rfl rfl
    | str _ => exact kd _ rfl rfl
    | tup _ _ => exact kd _ rfl rfl
    | scr _ => exact kd _ rfl rfl
    | fn _ => exact o.elim
    | @ref n hn =>
      cases z : h1[n]? with
      | none => simp only [oIsO, z] at o; exact o.elim
      | some ob =>
        cases ob with
        | lst xs => exact kd .list (by simp only [kindD, z]) (by simp only [oIsO, z])
        | dct kv => exact kd .dict (by simp only [kindD, z]) (by simp only [oIsO, z])
        | ins c fs =>
          simp only [oIsO, z] at o
          cases q : f c with
          | none => simp only [q] at o; exact o.elim
          | some b =>
            simp only [q] at o
            obtain ⟨ci, ck⟩ := hf c b q
            exact ⟨_, .ref C, _, _, _, rfl, .own _, tyX_ins p1.rel z ci, ck, o m1 H1 _ p1 (.bl _)⟩
  · rw [e]; exact o
def isTyV : Value → Bool
  | .type _ => true
  | _ => false
theorem noref {C : Addr} : ∀ {l : List Value}, l.all isTyV = true → l.contains (.ref C) = false
  | [], _ => rfl
  | v :: l, h => by
    rw [List.all_cons, Bool.and_eq_true] at h
    rw [List.contains_cons, noref h.2, Bool.or_false]
    cases v with
    | type T => rfl
    | _ => exact Bool.noConfusion h.1
theorem nf_ty {K : PySem.W.Frag} {C : Addr} (k : Kd) : PySem.W.notFirst K C (.type k.nm) = true := by
  have e : (fastBuiltinMro k.nm).map (·.all isTyV) = some true := by cases k <;> decide +kernel
  obtain ⟨l, e1, e2⟩ := Option.map_eq_some_iff.mp e
  unfold PySem.W.notFirst PySem.W.subIn
  simp only [e1, Option.map_some, noref e2]
  simp
theorem kit_own {K : PySem.W.Frag} {C : Addr} (h : ((PySem.W.clsIn K C).isSome && PySem.W.typeIn K (.ref C) == some (.type "type")) = true) (k : Kd) : PySem.W.kitOne K (.type k.nm) (.ref C) = some false := by
  have e : (fastBuiltinMro k.nm).map (·.all isTyV) = some true := by cases k <;> decide +kernel
  obtain ⟨l, e1, e2⟩ := Option.map_eq_some_iff.mp e
  have ne : (Value.type k.nm == Value.ref C) = false := rfl
  unfold PySem.W.kitOne PySem.W.kitCls PySem.W.subIn
  simp only [ne, Bool.false_eq_true, if_false, h, if_true, e1, Option.map_some, noref e2]
theorem kit_same {K : PySem.W.Frag} {C : Addr} : PySem.W.kitOne K (.ref C) (.ref C) = some true := by
  unfold PySem.W.kitOne
  simp
theorem eqO_ok {k c : Nat} {f : Addr} {fd : FuncData} {ps : List Str} {cf : CF} (F : FnG X.prog X.w X.K X.mg X.base CX k f fd ps (spF G X.K cf)) (hg : X.A.guards = some []) (hr : Room k X.A) (hx : Passes CX X E) (hb : Bnd X.K fd ps 2 [] bd0)
    (hs : PySem.W.findIn X.K (.ref (G.cl c)) "__eq__" = some (some (.ref f))) (hf : PySem.W.isFn X.K (.ref f) = true) (ci : ClsI X.K (G.cl c)) (hu : X.A.units + 64 < cLine) : OpR X (compareOp .Eq) (r2 G X.K E (oEqO c cf false)) := by
  intro pins s σ H x y v u Q I rx ry ⟨m, h, dx, dy, rh, d1, d2, o⟩
  have gen : oEqO c cf false dx dy h = oEq false dx dy h → wpAny (model X.prog X.w) X.A (compareOp .Eq v u) (EP X pins σ Q) X.xe s := fun e => eq_ok hu pins s σ H x y v u Q I rx ry ⟨m, h, dx, dy, rh, d1, d2, e ▸ o⟩
  cases d1 with
  | @ref n hn =>
    cases z : h[n]? with
    | none => exact gen (by simp only [oEqO, z])
    | some ob =>
      cases ob with
      | lst xs => exact gen (by simp only [oEqO, z])
      | dct kv => exact gen (by simp only [oEqO, z])
      | ins c' fs =>
        simp only [oEqO, z] at o
        by_cases hc : c' = c ∧ rightOk c dy h = true
        · rw [if_pos hc] at o
          obtain ⟨rfl, hro⟩ := hc
          obtain ⟨dx', vs, e1, rf⟩ := rh.obj n _ z
          obtain rfl : v = Value.ref (m n) := rx
          obtain ⟨mA, O1, _⟩ := ins_get I.hok e1
          obtain ⟨od, J, _⟩ := O1.look
          obtain ⟨mm, Fr1⟩ := I.fr
          have hty : ∃ t, TyX X.K H y t ∧ PySem.W.notFirst X.K (G.cl c') t = true := by
            have kd : ∀ kk, kindD dy h = some kk → ∃ t, TyX X.K H y t ∧ PySem.W.notFirst X.K (G.cl c') t = true := fun kk zz => ⟨_, ty_ok rh d2 zz, nf_ty kk⟩
            cases d2 with
            | non => exact kd _ rfl
            | bl _ => exact kd _ rfl
            | int _ => exact kd _ rfl
            | str _ => exact kd _ rfl
            | tup _ _ => exact kd _ rfl
            | scr _ => exact kd _ rfl
            | fn _ => exact absurd hro (by simp [rightOk])
            | @ref n2 hn2 =>
              cases z2 : h[n2]? with
              | none => simp only [rightOk, z2] at hro; cases hro
              | some ob2 =>
                cases ob2 with
                | lst xs => exact kd .list (by simp only [kindD, z2])
                | dct kv => exact kd .dict (by simp only [kindD, z2])
                | ins c2 fs2 =>
                  simp only [rightOk, z2] at hro
                  have : c2 = c' := by simpa using hro
                  subst this
                  exact ⟨_, tyX_ins rh z2 ci, by simp [PySem.W.notFirst]⟩
          obtain ⟨t, ty, hnf⟩ := hty
          obtain ⟨Pk, kx, pk, _⟩ := kit_of I ry ty
          refine PySem.W.cmp_K (op := .Eq) (by omega) Fr1 I.ok.mod.kin J (kx.ty _ _ I.kIn pk) hnf hs hf ?_
          obtain ⟨us2, vs2, q1, q2, q3⟩ := hb s [.ref (m n), u] [] [.ref (m n), y] [] I.kIn (.cons rfl (.cons ry .nil)) .nil rfl rfl
          refine thn (runG F hg hr hx I q2 q1 (Q := fun w H2 => ∃ b, w = .bl b ∧ Q (.bl b) H2) ⟨m, h, _, rh, q3 _ _ _ _ _ (.cons (.ref hn) (.cons d2 .nil)) .nil, ?_⟩) ?_
          · rcases Out.bindR o with ⟨w, h2, e, o⟩ | ⟨cc, fs2, h2, e, o⟩
            · show Out _ _ _ _ _ _ _ (cf [.ref n, dy] h)
              rw [e]
              intro m2 H2 w2 p2 d2
              cases d2 with
              | bl b => exact ⟨b, rfl, o m2 H2 _ p2 (.bl _)⟩
              | _ => exact o.elim
            · show Out _ _ _ _ _ _ _ (cf [.ref n, dy] h)
              rw [e]; exact o
          · rintro w s2 ⟨w2, H2, I2, rw2, b, rfl, q⟩
            obtain rfl : w = Value.bool b := rw2
            exact ⟨.bl b, H2, I2, rfl, q⟩
        · rw [if_neg hc] at o; exact o.elim
  | _ => exact gen rfl
end
end Py

set_option Elab.async false
set_option linter.all false
set_option maxRecDepth 100000
/-! Own layer: != where __eq__ is own and __ne__ is object's. -/
namespace Py
open PySem PySem.Spec PyProof.Rows L2 PySem.W
open Builtin
section
variable {prog : Program} {w : World} {A : Around} {E : Value → Shared → Prop} {s : Shared} {K : Frag} {x C L f : Addr} {h₀ : Heap} {m : Str → Option Value} {ox : Obj} {od : Option Obj} {b tb : Value}
end
section
variable {X : Cx} {G : Gam} {E : XK} {CX : CXT}
end
end Py

set_option Elab.async false
set_option linter.all false
set_option maxRecDepth 100000
/-! Own layer: pop(i), extend, reverse of lists. -/
namespace Py
open PySem PySem.Spec PyProof.Rows L2
section
variable {X : Cx} {G : Gam} {E : XK} {o a : Expr} {fo : EX} {fas : AX} {apos cpos : Pos}
theorem RelDs.erase {K : PySem.W.Frag} {m : Nat → Addr} {N : Nat} {H : Hp} : ∀ {xs : List D} {vs : List V} (k : Nat), RelDs K m N H xs vs → RelDs K m N H (xs.eraseIdx k) (vs.eraseIdx k)
  | _, _, _, .nil => .nil
  | _, _, 0, .cons _ r => r
  | _, _, k + 1, .cons h r => .cons h (RelDs.erase k r)
theorem xExtend (ho : PE X o (tE G X.K E fo)) (ha : PA X [a] (tA G X.K E fas))
    (hbase : attributeBase o "extend" X.env (eval o X.env) = eval o X.env := by rfl)
    (hfew : ((backTo cpos (starEach [a] X.env)).all (fun x => !x.1) && (backToKw cpos (keywordEach [] X.env)).all (fun x => x.1.isSome)
      && decide ([a].length + ([] : List Keyword).length + (if ([] : List Keyword).isEmpty then 0 else 1) < 30)) = true := by rfl)
    (hline : (apos.endLine == cpos.line) = true := by rfl) (hs : starEach [a] X.env = (false, eval a X.env) :: starEach [] X.env := by rfl) (hplain : (backTo cpos (starEach [] X.env)).any (·.1) = false := by rfl) :
    PE X (.Call (.Attribute o "extend" apos) [a] [] cpos) (tE G X.K E (eBM mExtend fo fas)) := by
  refine PE_mono (pe_bm PySem.F.plainAttrs_list PySem.F.slot_list_extend PySem.F.type_list_extend mt_extend ho ha hbase hfew hline hs hplain) ?_
  intro σ H Q t
  refine toBM (fun m h H x v ds vs Q rh rd rds o => ?_) t
  cases rds with
  | nil => exact o.elim
  | @cons d w ds ws a1 b1 =>
    cases b1 with
    | cons _ _ => exact o.elim
    | nil =>
      simp only [mExtend] at o
      cases zl : lstD d h with
      | none => simp only [zl] at o; exact o.elim
      | some zs =>
        simp only [zl] at o
        obtain ⟨nb, vb, rfl, hnb, rfl, eb1, eb2, rvb⟩ := lstD_ok rh a1 zl
        obtain ⟨n, xs, us, d', ys, rfl, e1, rv, ef, q⟩ := onL_ok rh rd o
        by_cases hl : xs.length + zs.length ≤ sizeLine
        · rw [if_pos hl] at ef
          cases ef
          exact ⟨m n, _, us, vb, rfl, rfl, e1, eb2, by rw [← rv.length, ← rvb.length]; exact hl, q _ _ .non (rv.append rvb)⟩
        · rw [if_neg hl] at ef; cases ef
end
end Py

set_option Elab.async false
set_option linter.all false
set_option maxRecDepth 100000
/-! Own layer: dicts with texts and whole numbers as keys. -/
namespace Py
open PySem PySem.Spec PyProof.Rows L2
section
variable {K : PySem.W.Frag} {m : Nat → Addr} {N : Nat} {H : Hp}
theorem RelKs.length : ∀ {ks : List (Ky × D)} {vs : List (L2.Key × V)}, RelKs K m N H ks vs → ks.length = vs.length
  | _, _, .nil => rfl
  | _, _, .cons _ r => by simp [RelKs.length r]
theorem valD_pos {p : Ky × D} {r : List (Ky × D)} {k : Ky} (e : p.1 = k) : valD (p :: r) k = some p.2 := by simp [valD, List.find?_cons, e]
theorem valD_neg {p : Ky × D} {r : List (Ky × D)} {k : Ky} (e : ¬ p.1 = k) : valD (p :: r) k = valD r k := by simp [valD, List.find?_cons, e]
theorem RelKs.val (k : Ky) : ∀ {ks : List (Ky × D)} {vs : List (L2.Key × V)}, RelKs K m N H ks vs → (valD ks k = none ∧ valV vs k = none) ∨ ∃ d v, valD ks k = some d ∧ valV vs k = some v ∧ RelD K m N H d v
  | _, _, .nil => .inl ⟨rfl, rfl⟩
  | _, _, .cons (k := j) (d := d) (v := v) h r => by
    by_cases e : j = k
    · exact .inr ⟨d, v, valD_pos e, valV_pos e, h⟩
    · rw [valD_neg (p := (j, d)) e, valV_neg (p := (j, v)) e]
      exact RelKs.val k r
theorem RelKs.any (k : Ky) : ∀ {ks : List (Ky × D)} {vs : List (L2.Key × V)}, RelKs K m N H ks vs → (ks.any fun kv => decide (kv.1 = k)) = vs.any fun kv => decide (kv.1 = k)
  | _, _, .nil => rfl
  | _, _, .cons _ r => by rw [List.any_cons, List.any_cons, RelKs.any k r]
theorem RelKs.snoc {k : Ky} {d : D} {v : V} (h : RelD K m N H d v) : ∀ {ks : List (Ky × D)} {vs : List (L2.Key × V)}, RelKs K m N H ks vs → RelKs K m N H (ks ++ [(k, d)]) (vs ++ [(k, v)])
  | _, _, .nil => .cons h .nil
  | _, _, .cons a r => .cons a (RelKs.snoc h r)
theorem RelKs.repl {k : Ky} {d : D} {v : V} (h : RelD K m N H d v) : ∀ {ks : List (Ky × D)} {vs : List (L2.Key × V)}, RelKs K m N H ks vs → RelKs K m N H (ks.map fun kv => if kv.1 = k then (kv.1, d) else kv) (vs.map fun kv => if kv.1 = k then (kv.1, v) else kv)
  | _, _, .nil => .nil
  | _, _, .cons (k := j) a r => by
    rw [List.map_cons, List.map_cons]
    by_cases e : j = k
    · simp only [if_pos e]; exact .cons h (RelKs.repl h r)
    · simp only [if_neg e]; exact .cons a (RelKs.repl h r)
theorem RelKs.put {ks : List (Ky × D)} {vs : List (L2.Key × V)} {k : Ky} {d : D} {v : V} (r : RelKs K m N H ks vs) (h : RelD K m N H d v) : RelKs K m N H (putD ks k d) (putK vs k v) := by
  unfold putD putK
  rw [r.any k]
  split
  · exact r.repl h
  · exact r.snoc h
theorem RelKs.merge : ∀ {more : List (Ky × D)} {ms : List (L2.Key × V)} {ks : List (Ky × D)} {vs : List (L2.Key × V)}, RelKs K m N H more ms → RelKs K m N H ks vs → RelKs K m N H (mergeD ks more) (mergeK vs ms)
  | _, _, _, _, .nil, r => r
  | (k, d) :: more, (_, v) :: ms, ks, vs, .cons h q, r => RelKs.merge (more := more) (ms := ms) (ks := putD ks k d) (vs := putK vs k v) q (r.put h)
theorem keyD_ok {d : D} {v : V} {k : Ky} (r : RelD K m N H d v) (e : keyD d = some k) : v = kV k := by
  cases r with
  | int i => cases e; rfl
  | str x => cases e; rfl
  | _ => cases e
end
section
variable {X : Cx} {G : Gam} {E : XK}
theorem dctD_ok {m : Nat → Addr} {h : LH} {H : Hp} {d : D} {v : V} {ks : List (Ky × D)} (rh : RelH G X.K m h H) (rd : RelD X.K m h.length H d v) (e : dctD d h = some ks) :
    ∃ n vs, d = .ref n ∧ n < h.length ∧ v = .ref (m n) ∧ h[n]? = some (.dct ks) ∧ H (m n) = some (.dK vs) ∧ RelKs X.K m h.length H ks vs := by
  cases rd with
  | @ref n hn =>
    cases q : h[n]? with
    | none => simp only [dctD, q] at e; cases e
    | some ob =>
      cases ob with
      | ins c fs => simp only [dctD, q] at e; cases e
      | lst xs => simp only [dctD, q] at e; cases e
      | dct kv =>
        simp only [dctD, q] at e
        cases e
        obtain ⟨vs, e1, rv⟩ := rh.obj n _ q
        exact ⟨n, vs, rfl, hn, rfl, q, e1, rv⟩
  | _ => cases e
theorem toOpW {f : D → D → LH → R D} {fa fb : EX} {W : V → V → Hp → VK → Prop} (hw : ∀ x y H Q, r2 G X.K E f x y H Q → W x y H Q) {σ : L2.St} {H : Hp} {Q : VK} (t : tE G X.K E (e2 f fa fb) σ H Q) : tE G X.K E fa σ H (fun x H1 => tE G X.K E fb σ H1 fun y H2 => W x y H2 Q) := by
  obtain ⟨m, r, h, rh, rs, o⟩ := t
  refine ⟨m, r, h, rh, rs, ?_⟩
  rcases Out.bindR o with ⟨x, h1, e, o⟩ | ⟨c, fs, h1, e, o⟩
  · rw [e]
    intro m1 H1 v p1 d1
    refine ⟨m1, r, h1, p1.rel, p1.s rs, ?_⟩
    rcases Out.bindR o with ⟨y, h2, e, o⟩ | ⟨c, fs, h2, e, o⟩
    · rw [e]
      intro m2 H2 w p2 d2
      exact hw _ _ _ _ ⟨m2, h2, x, y, p2.rel, p2.d d1, d2, Out.later (p1.trans p2) o⟩
    · rw [e]; exact OutX.later p1 o
  · rw [e]; exact o
variable {o i e value : Expr} {fo fi fe : EX} {pos pos' tpos : Pos}
/-- d[y] -/
theorem xDg (hu : X.A.units + 1 < cLine) (ho : PE X o (tE G X.K E fo)) (hi : PE X i (tE G X.K E fi)) (hs : NoSl i := by exact fun _ _ => rfl) : PE X (.Subscript o i pos) (tE G X.K E (e2 oDg fo fi)) := by
  refine PE_mono (pe_dget hu ho hi hs) fun σ H Q t => toOpW (W := fun x y H2 Q => ∃ a v, x = .ref a ∧ DGet H2 a y (some v) ∧ Q v H2) ?_ t
  rintro x y H Q ⟨m, h, dx, dy, rh, d1, d2, o⟩
  unfold oDg at o
  cases q : dctD dx h with
  | none => simp only [q] at o; exact o.elim
  | some ks =>
    cases q2 : keyD dy with
    | none => simp only [q, q2] at o; exact o.elim
    | some k =>
      simp only [q, q2] at o
      obtain ⟨n, vs, rfl, hn, rfl, e1, e2, rk⟩ := dctD_ok rh d1 q
      have ey := keyD_ok d2 q2
      subst ey
      rcases rk.val k with ⟨z, _⟩ | ⟨d, v, z, zv, rd⟩
      · rw [z] at o; exact o.elim
      · rw [z] at o
        exact ⟨_, v, rfl, .inl ⟨vs, k, .inl e2, rfl, zv.symm⟩, o m H _ (Post.refl rh) rd⟩
/-- d[y] = v -/
theorem zDput (hu : X.A.units + 1 < cLine) (ho : PE X o (tE G X.K E fo)) (hi : PE X i (tE G X.K E fi)) (hv : PE X value (tE G X.K E fe)) (hs : swapsWith value (some (.Subscript o i pos')) pos.line X.env = pure false := by rfl) :
    PS X (.Assign [.Subscript o i pos'] value pos) (tS G X.K E (sDput fo fi fe)) := by
  refine PS_mono (ps_dput hu ho hi hv hs) ?_
  rintro Z σ H ⟨m, r, h, rh, rs, o⟩
  refine ⟨m, r, h, rh, rs, ?_⟩
  rcases OutS.toR o with ⟨d, h1, e, o⟩ | ⟨c, fs, h1, e, o⟩
  · rw [e]
    intro m1 H1 v p1 d1
    refine ⟨m1, r, h1, p1.rel, p1.s rs, ?_⟩
    rcases OutS.toR o with ⟨x, h2, e, o⟩ | ⟨c, fs, h2, e, o⟩
    · rw [e]
      intro m2 H2 xv p2 d2
      refine ⟨m2, r, h2, p2.rel, p2.s (p1.s rs), ?_⟩
      rcases OutS.toR o with ⟨y, h3, e, o⟩ | ⟨c, fs, h3, e, o⟩
      · rw [e]
        intro m3 H3 yv p3 d3
        have pp := p1.trans (p2.trans p3)
        have o := OutS.later pp o
        have d1 := (p2.trans p3).d d1
        have d2 := p3.d d2
        cases d2 with
        | @ref n hn =>
          cases q2 : keyD y with
          | none => simp only [q2] at o; exact o.elim
          | some k =>
            cases q : h3[n]? with
            | none => simp only [q2, q] at o; exact o.elim
            | some ob =>
              cases ob with
              | ins c fs => simp only [q2, q] at o; exact o.elim
              | lst xs => simp only [q2, q] at o; exact o.elim
              | dct ks =>
                simp only [q2, q] at o
                by_cases hl : ks.length < sizeLine
                · rw [if_pos hl] at o
                  obtain ⟨vs, e1, rk⟩ := p3.rel.obj n _ q
                  have ey := keyD_ok d3 q2
                  subst ey
                  have tk : TK X.K H3 (upd H3 (m3 n) (.dK (putK vs k v))) := TK.upd_mut e1 (fun _ z => nomatch z) (fun _ _ z => nomatch z)
                  have p := p3.rel.upd (u := .dK (putK vs k v)) (o := .dct (putD ks k d)) q e1 (fun _ z => nomatch z) (fun _ _ z => nomatch z) ⟨_, upd_same, (rk.put d1).mono (fun _ _ => rfl) (Nat.le_refl _) tk⟩
                  exact ⟨m3 n, _, rfl, .inl ⟨vs, k, e1, rfl, by rw [← rk.length]; exact hl, rfl⟩, o m3 _ σ p (p.s (pp.s rs))⟩
                · rw [if_neg hl] at o; exact o.elim
        | _ => exact o.elim
      · rw [e]; exact OutX.later (p1.trans p2) o
    · rw [e]; exact OutX.later p1 o
  · rw [e]; exact o
/-! ### displays -/
theorem out_dct {m : Nat → Addr} {h : LH} {H : Hp} {Q : VK} {ks : List (Ky × D)} {vs : List (L2.Key × V)} (rh : RelH G X.K m h H) (rd : RelKs X.K m h.length H ks vs) (o : Out G X.K E m h.length H Q (.ok (.ref h.length) (h ++ [.dct ks]))) (p : Addr) (hp : H p = none) : Q (.ref p) (upd H p (.dK vs)) := by
  have q := rh.new (o := .dct ks) (u := .dK vs) hp (fun m' ag e => ⟨vs, upd_same, rd.mono ag (Nat.le_succ _) (TK.upd_new hp)⟩)
  have z : RelD X.K (ext m h.length p) (h ++ [O.dct ks]).length (upd H p (.dK vs)) (.ref h.length) (.ref (ext m h.length p h.length)) := .ref (by simp)
  rw [ext_self] at z
  exact o _ _ _ q z
theorem xDnew : PE X (.Dict [] [] pos) (tE G X.K E eDnew) := PE_mono pe_dnewK fun σ H Q ⟨m, r, h, rh, rs, o⟩ p hp => out_dct rh .nil o p hp
def OutD (G : Gam) (K : PySem.W.Frag) (E : XK) (m : Nat → Addr) (N : Nat) (H : Hp) (Q : List (L2.Key × V) → Hp → Prop) : R (List (Ky × D)) → Prop
  | .ok d h' => ∀ m' H' v, Post G K m N H m' h' H' → RelKs K m' h'.length H' d v → Q v H'
  | .exc c fs h' => OutX G K E m N H c fs h'
  | .stuck => False
theorem OutD.bindR {α : Type} {K : PySem.W.Frag} {m : Nat → Addr} {N : Nat} {H : Hp} {r : R α} {f : α → LH → R (List (Ky × D))} {Q : List (L2.Key × V) → Hp → Prop} (o : OutD G K E m N H Q (r.bind f)) :
    (∃ a h1, r = .ok a h1 ∧ OutD G K E m N H Q (f a h1)) ∨ ∃ c fs h1, r = .exc c fs h1 ∧ OutX G K E m N H c fs h1 := by
  cases r with
  | ok a h1 => exact .inl ⟨a, h1, rfl, o⟩
  | exc c fs h1 => exact .inr ⟨c, fs, h1, rfl, o⟩
  | stuck => exact False.elim o
theorem OutD.later {K : PySem.W.Frag} {m m1 : Nat → Addr} {N : Nat} {H H1 : Hp} {h1 : LH} {Q : List (L2.Key × V) → Hp → Prop} {r : R (List (Ky × D))} (a : Post G K m N H m1 h1 H1) (o : OutD G K E m N H Q r) : OutD G K E m1 h1.length H1 Q r := by
  cases r with
  | ok d h' => exact fun m' H' v p e => o m' H' v (a.trans p) e
  | exc c fs h' => exact OutX.later a o
  | stuck => exact o
theorem pairs_ok : ∀ (ps : List (EX × EX)) (m : Nat → Addr) (r : LS) (h : LH) (σ : L2.St) (H : Hp) (Q : List (L2.Key × V) → Hp → Prop) (Q' : List (V × V) → Hp → Prop), RelH G X.K m h H → RelS X.K m h.length H r σ → OutD G X.K E m h.length H Q (pairsX ps r h) →
    (∀ kvs H1, Q kvs H1 → Q' (kvs.map fun kv => (kV kv.1, kv.2)) H1) → tPairs (ps.map fun p => (tE G X.K E p.1, tE G X.K E p.2)) σ H Q'
  | [], m, r, h, σ, H, Q, Q', rh, rs, o, hq => hq [] H (o m H [] (Post.refl rh) .nil)
  | (fa, fb) :: ps, m, r, h, σ, H, Q, Q', rh, rs, o, hq => by
    refine ⟨m, r, h, rh, rs, ?_⟩
    rcases OutD.bindR o with ⟨x, h1, e, o⟩ | ⟨c, fs, h1, e, o⟩
    · simp only [e]
      intro m1 H1 v p1 d1
      refine ⟨m1, r, h1, p1.rel, p1.s rs, ?_⟩
      rcases OutD.bindR o with ⟨y, h2, e, o⟩ | ⟨c, fs, h2, e, o⟩
      · simp only [e]
        intro m2 H2 w p2 d2
        cases q : keyD x with
        | none => simp only [q] at o; exact o.elim
        | some k =>
          simp only [q] at o
          have pp := p1.trans p2
          have o := OutD.later pp o
          have ek := keyD_ok (p2.d d1) q
          subst ek
          refine pairs_ok ps m2 r h2 σ H2 (fun kvs H3 => Q ((k, w) :: kvs) H3) _ p2.rel (p2.s (p1.s rs)) ?_ (fun kvs H3 z => hq _ _ z)
          rcases OutD.bindR o with ⟨kvs, h3, e, o⟩ | ⟨c, fs, h3, e, o⟩
          · rw [e]
            intro m3 H3 vs p3 rk
            exact o m3 H3 _ p3 (.cons (p3.d d2) rk)
          · rw [e]; exact o
      · simp only [e]; exact OutX.later p1 o
    · simp only [e]; exact o
theorem ppNil : PPs X pos [] [] (([] : List (EX × EX)).map fun p => (tE G X.K E p.1, tE G X.K E p.2)) := pps_nil
theorem ppCons {k v : Expr} {ks : List (Option Expr)} {vs : List Expr} {fa fb : EX} {ps : List (EX × EX)} (hk : PE X k (tE G X.K E fa)) (hv : PE X v (tE G X.K E fb)) (hr : PPs X pos ks vs (ps.map fun p => (tE G X.K E p.1, tE G X.K E p.2))) :
    PPs X pos (some k :: ks) (v :: vs) (((fa, fb) :: ps).map fun p => (tE G X.K E p.1, tE G X.K E p.2)) := pps_cons hk hv hr
theorem xDisp {keys : List (Option Expr)} {values : List Expr} {ps : List (EX × EX)} (hp : PPs X pos keys values (ps.map fun p => (tE G X.K E p.1, tE G X.K E p.2))) (hall : keys.all (·.isSome) = true := by rfl) (hl : keys.length = values.length := by rfl) (h0 : keys ≠ [] := by exact fun z => nomatch z)
    (h15 : keys.length ≤ 15 := by decide) : PE X (.Dict keys values pos) (tE G X.K E (eDisp ps)) := by
  refine PE_mono (pe_disp hp hall hl h0 h15) ?_
  rintro σ H Q ⟨m, r, h, rh, rs, o⟩ p hp0
  have q0 := rh.new (o := .dct []) (u := .dK []) hp0 (fun m' ag e => ⟨[], upd_same, .nil⟩)
  have o := Out.later q0 o
  have hm : ext m h.length p h.length = p := ext_self _ _ _
  refine pairs_ok ps _ r (h ++ [.dct []]) σ _ (fun kvs H2 => H2 p = some (.dK []) ∧ kvs.length ≤ 15 ∧ Q (.ref p) (upd H2 p (.dK (mergeK [] kvs)))) _ q0.rel (q0.s rs) ?_ (fun kvs H1 z => ⟨z.1, kvs, rfl, z.2.1, z.2.2⟩)
  unfold eDisp at o
  rcases Out.bindR o with ⟨kvs, h1, e, o⟩ | ⟨c, fs, h1, e, o⟩
  · rw [e]
    intro m1 H1 vs p1 rk
    have o := Out.later p1 o
    have el : m1 h.length = p := by rw [p1.agr h.length (by simp), hm]
    split at o
    · rename_i z
      split at o
      · rename_i hl15
        obtain ⟨ws, e1, rw0⟩ := p1.rel.obj _ _ z
        rw [el] at e1
        cases rw0
        refine ⟨e1, by rw [← rk.length]; exact hl15, ?_⟩
        have e1' : H1 (m1 h.length) = some (.dK []) := by rw [el]; exact e1
        have tk : TK X.K H1 (upd H1 (m1 h.length) (.dK (mergeK [] vs))) := TK.upd_mut e1' (fun _ z => nomatch z) (fun _ _ z => nomatch z)
        have pq := p1.rel.upd (u := .dK (mergeK [] vs)) (o := .dct (mergeD [] kvs)) z e1' (fun _ z => nomatch z) (fun _ _ z => nomatch z) ⟨_, upd_same, (RelKs.merge rk .nil).mono (fun _ _ => rfl) (Nat.le_refl _) tk⟩
        rw [el] at pq
        have zr : RelD X.K m1 (h1.set h.length (.dct (mergeD [] kvs))).length (upd H1 p (.dK (mergeK [] vs))) (.ref h.length) (.ref (m1 h.length)) := .ref (by rw [List.length_set]; exact (List.getElem?_eq_some_iff.mp z).1)
        rw [el] at zr
        exact o _ _ _ pq zr
      · exact o.elim
    · exact o.elim
  · rw [e]; exact o
end
end Py

set_option Elab.async false
set_option linter.all false
set_option maxRecDepth 100000
/-! Own layer: properties, t.index(x), defs as values, x in a tuple of data. -/
namespace Py
open PySem PySem.Spec PyProof.Rows L2
section
variable {X : Cx} {G : Gam} {E : XK} {CX : CXT}
/-- o.p, a property: its getter's call -/
theorem xProp {k c : Nat} {p f : Addr} {fd : FuncData} {ps : List Str} {cf : CF} {mn : Str} {o : Expr} {fo : EX} {pos : Pos} (hn : NotF G mn) (he : PE X o (tE G X.K E fo)) (cc : Cls X.K (G.cl c)) (hp : PropOf X.K (G.cl c) mn p f)
    (F : FnG X.prog X.w X.K X.mg X.base CX k f fd ps (spF G X.K cf)) (hg : X.A.guards = some []) (hr : Room (k + 1) X.A) (hx : Passes CX X.nox E) (hb : Bnd X.K fd ps 1 [] bd0)
    (hab : attributeBase o mn X.env (eval o X.env) = eval o X.env := by rfl) : PE X (.Attribute o mn pos) (tE G X.K E (eMeth c (opF 1 0 bd0 cf) fo aNil aNil)) := by
  refine ⟨fun pins s σ H Q I h => ?_⟩
  refine attr_of hab (thn (he.run pins s σ H _ I (toMeth hn h)) ?_)
  rintro u s1 ⟨x, H1, I1, rx, a, dx, fs, ex, ea, l, q⟩
  subst ex
  obtain rfl : u = Value.ref a := rx
  obtain ⟨m, h0, ds, es, rh, d1, d2, o1⟩ := noK (noK q)
  obtain ⟨mA, O, _, _, _, _⟩ := ins_get I1.hok ea
  obtain ⟨od, J, _⟩ := O.look
  obtain ⟨rest, hrec⟩ := hp.rec_
  have I2 := I1.tok (s1.toks + 1)
  have hc : (PySem.W.clsIn X.K (G.cl c)).isSome = true := by
    obtain ⟨cd, hc, _⟩ := PySem.W.any_some cc.hd
    rw [hc]; rfl
  unfold opF at o1
  by_cases hl : ds.length = 1 ∧ es.length = 0
  · rw [if_pos hl] at o1
    obtain ⟨us2, vs2, q1, q2, q3⟩ := hb { s1 with toks := s1.toks + 1 } [.ref a] [] [.ref a] [] I2.kIn (.cons rfl .nil) .nil rfl rfl
    have d3 := q3 _ _ _ _ _ d1 (show RelDs X.K m h0.length H1 [] [] from .nil)
    have e0 : bd0 ds es = ds := rfl
    rw [e0] at o1
    have e1 : bd0 ds ([] : List D) = ds := rfl
    rw [e1] at d3
    refine PySem.W.get_bind I1.kIn J (PySem.W.plainGet_of (cc.get mn)).1 (PySem.W.findObj_data hc hp.at_ hp.get hp.tak) (PySem.W.plainGet_of (cc.get mn)).2 (wpAny_call (PySem.W.prop_get (s := { s1 with toks := s1.toks + 1 }) I1.kIn hrec ?_))
    refine codeAny_mono (F.run X.A.in1 X.stack { s1 with toks := s1.toks + 1 } H1 ⟨[.ref a], []⟩ us2 vs2 Q E hg hr.in1 I2.env0.in1 q2 q1 ⟨m, h0, ds, rh, d3, o1⟩) ?_
    intro r s' hq
    cases r with
    | error er => exact False.elim (hx pins σ H1 _ er s' (I2.wish _) hq)
    | ok fl =>
      cases fl with
      | ret u =>
        obtain ⟨v, H', I3, rv, q3⟩ := I2.after hq
        show wpAny _ _ (handedOut u) _ _ _
        rw [PySem.W.handedOut_of (handed_of rv)]
        exact wpAny_pure ⟨v, H', I3, rv, q3⟩
      | next => exact False.elim hq
      | brk => exact False.elim hq
      | cont => exact False.elim hq
  · rw [if_neg hl] at o1; exact o1.elim
/-! ### t.index(x) -/
theorem tup_is {pins : List (Addr × Obj)} {σ : L2.St} {H : Hp} {s : Shared} {a : Addr} {vs : List V} (I : L2.Inv X pins σ H s) (h : SqT X.K H a vs) (x : Xc X.K H a) : s.TypeIs (.ref a) "tuple" ∧ ∀ b, Value.ref a = .ref b → ∃ ob, s.heap.get? b = some ob ∧ ob.dict = none := by
  obtain ⟨its, _, pl, _⟩ := I.tuple h
  refine ⟨pl.typeIs, fun b e => ?_⟩
  cases e
  rcases x with ⟨o, u, e, hd⟩ | ⟨o, e, hd⟩
  · obtain ⟨e1, _⟩ := I.hok a _ e
    exact ⟨o, e1, hd⟩
  · exact ⟨o, I.kIn a o e, hd⟩
def tTM (K : PySem.W.Frag) (r : V → List V → Hp → VK → Prop) (to : TE) (t : TA) : TE := fun σ H Q => to σ H fun x H1 => (∃ a vs, x = .ref a ∧ SqT K H1 a vs ∧ Xc K H1 a) ∧ t σ H1 fun xs H2 => r x xs H2 Q
theorem pe_tm {o e : Expr} {es : List Expr} {to : TE} {t : TA} {name : Str} {apos cpos : Pos} {id : String} {r : V → List V → Hp → VK → Prop} (pa : PlainAttrs "tuple") (slot : Slot "tuple" name id) (hty : typeOf (.builtin id) = pure (.type "method_descriptor")) (hm : MtR X id r) (ho : PE X o to) (ha : PA X (e :: es) t)
    (hbase : attributeBase o name X.env (eval o X.env) = eval o X.env := by rfl)
    (hfew : ((backTo cpos (starEach (e :: es) X.env)).all (fun x => !x.1) && (backToKw cpos (keywordEach [] X.env)).all (fun x => x.1.isSome)
      && decide ((e :: es).length + ([] : List Keyword).length + (if ([] : List Keyword).isEmpty then 0 else 1) < 30)) = true := by rfl)
    (hline : (apos.endLine == cpos.line) = true := by rfl) (hs : starEach (e :: es) X.env = (false, eval e X.env) :: starEach es X.env := by rfl) (hplain : (backTo cpos (starEach es X.env)).any (·.1) = false := by rfl) :
    PE X (.Call (.Attribute o name apos) (e :: es) [] cpos) (tTM X.K r to t) := by
  refine ⟨fun pins s σ H Q I h => ?_⟩
  refine wpAny_Call_method_late hbase hfew hline rfl (thn (ho.run pins s σ H _ I h) ?_)
  rintro v s1 ⟨x, H1, I1, r1, ⟨a, vs, ex, hq, hx⟩, q1⟩
  subst ex
  obtain rfl : v = Value.ref a := r1
  obtain ⟨h1, h2⟩ := tup_is I1 hq hx
  refine ⟨"tuple", id, pa, slot, hty, h1, h2, ?_⟩
  have hA := ha.run cpos pins s1 σ H1 _ I1 q1
  rw [hs] at hA ⊢
  refine Calls.callWith_builtin (by show (false || (backTo cpos (starEach es X.env)).any (·.1)) = false; rw [hplain] <;> rfl) (Calls.evalArgs_plain ?_)
  refine thn hA ?_
  rintro us s2 ⟨vs2, H2, I2, r2, q2⟩
  exact hm pins s2 σ H2 (.ref a) vs2 _ us Q I2 rfl r2 q2
theorem strs_ok {m : Nat → Addr} {N : Nat} {H : Hp} : ∀ {xs : List D} {vs : List V} {ys : List Str}, RelDs X.K m N H xs vs → strsD xs = some ys → vs = ys.map V.str
  | _, _, _, .nil, e => by cases e; rfl
  | _, _, ys, .cons (d := d) (ds := ds) a r, e => by
    cases a <;> try (cases e; done)
    rename_i x
    simp only [strsD] at e
    cases q : strsD ds with
    | none => rw [q] at e; cases e
    | some zs =>
      rw [q] at e
      cases e
      rw [List.map_cons, strs_ok r q]
theorem findIdx_spec {z : Str} : ∀ {ys : List Str} {j : Nat}, ys.findIdx? (fun y => decide (y = z)) = some j → ys[j]? = some z ∧ ∀ m, m < j → ys[m]? ≠ some z := by
  intro ys j e
  rw [List.findIdx?_eq_some_iff_getElem] at e
  obtain ⟨h, h1, h2⟩ := e
  refine ⟨by rw [List.getElem?_eq_getElem h]; simpa using h1, fun m hm w => ?_⟩
  have := h2 m hm
  rw [List.getElem?_eq_getElem (by omega)] at w
  simp at this w
  exact this w
theorem xTupIx {o a : Expr} {fo : EX} {fas : AX} {apos cpos : Pos} (ho : PE X o (tE G X.K E fo)) (ha : PA X [a] (tA G X.K E fas))
    (hbase : attributeBase o "index" X.env (eval o X.env) = eval o X.env := by rfl)
    (hfew : ((backTo cpos (starEach [a] X.env)).all (fun x => !x.1) && (backToKw cpos (keywordEach [] X.env)).all (fun x => x.1.isSome)
      && decide ([a].length + ([] : List Keyword).length + (if ([] : List Keyword).isEmpty then 0 else 1) < 30)) = true := by rfl)
    (hline : (apos.endLine == cpos.line) = true := by rfl) (hs : starEach [a] X.env = (false, eval a X.env) :: starEach [] X.env := by rfl) (hplain : (backTo cpos (starEach [] X.env)).any (·.1) = false := by rfl) :
    PE X (.Call (.Attribute o "index" apos) [a] [] cpos) (tE G X.K E (eTM mTupIx fo fas)) := by
  refine PE_mono (pe_tm PySem.F.plainAttrs_tuple PySem.F.slot_tuple_index PySem.F.type_tuple_index mt_tup_index ho ha hbase hfew hline hs hplain) ?_
  rintro σ H Q ⟨m, r, h, rh, rs, o⟩
  refine ⟨m, r, h, rh, rs, ?_⟩
  rcases Out.bindR o with ⟨x, h1, e, o⟩ | ⟨c, fs, h1, e, o⟩
  · rw [e]
    intro m1 H1 v p1 d1
    cases d1 with
    | @tup a xs vs ht rds =>
      simp only at o
      cases q : strsD xs with
      | none => simp only [q] at o; exact o.elim
      | some ys =>
        simp only [q, Option.isSome_some, if_true] at o
        have ev := strs_ok rds q
        have hx : Xc X.K H1 a := by
          rcases ht.x with hx | ⟨i, us, e2⟩
          · exact hx
          · subst ev
            cases ys with
            | nil => cases e2
            | cons y ys => cases e2
        subst ev
        refine ⟨⟨a, _, rfl, ht.sq, hx⟩, m1, r, h1, p1.rel, p1.s rs, ?_⟩
        rcases Out.bindR o with ⟨ds, h2, e, o⟩ | ⟨c, fs, h2, e, o⟩
        · rw [e]
          intro m2 H2 zs p2 d2
          have o := Out.later (p1.trans p2) o
          cases d2 with
          | nil => exact o.elim
          | cons d3 d4 =>
            cases d4 with
            | cons _ _ => cases d3 <;> exact o.elim
            | nil =>
              cases d3 with
              | str z =>
                simp only [mTupIx, q] at o
                cases q2 : ys.findIdx? (fun y => decide (y = z)) with
                | none => simp only [q2] at o; exact o.elim
                | some j =>
                  simp only [q2] at o
                  obtain ⟨e5, e6⟩ := findIdx_spec q2
                  exact ⟨a, ys, z, j, rfl, rfl, p2.tk.t _ _ ht.sq, e5, e6, o m2 H2 _ (Post.refl p2.rel) (.int _)⟩
              | _ => exact o.elim
        · rw [e]; exact OutX.later p1 o
    | _ => exact o.elim
  · rw [e]; exact o
/-! ### defs as values -/
/-- what a table of defs is worth -/
def TabG (X : Cx) (G : Gam) (E : XK) (tab : Str → Option KF) : Prop := ∀ n op, tab n = some op → ∃ f : Addr, X.mg n = some (.ref f) ∧ PySem.W.keepIn X.K (.ref f) = true ∧ CallG X G E (.ref f) [] op
/-! ### x in a list or a tuple of data -/
theorem inDp_ok (hu : X.A.units + 70 < cLine) : OpR X (compareOp .In) (r2 G X.K E (oInDp false)) := by
  intro pins s σ H x y v u Q I rx ry ⟨m, h, dx, dy, rh, d1, d2, o⟩
  unfold oInDp at o
  cases q1 : deep h 60 dx with
  | none => simp only [q1] at o; exact o.elim
  | some a =>
    cases q2 : deep h 60 dy with
    | none => simp only [q1, q2] at o; exact o.elim
    | some b =>
      cases q3 : itemsP b with
      | none => simp only [q1, q2, q3] at o; exact o.elim
      | some bs =>
        simp only [q1, q2, q3] at o
        by_cases hs : (SeqAt.shaped a && SeqAt.shaped b) = true
        · rw [if_pos hs] at o
          rw [Bool.and_eq_true] at hs
          obtain ⟨as, r1⟩ := Dp.reads I a x v (deep_ok rh _ _ _ _ d1 q1) rx
          obtain ⟨cs, r2⟩ := Dp.reads I b y u (deep_ok rh _ _ _ _ d2 q2) ry
          have fin : EP X pins σ Q (.bool (bs.any fun z => PyData.eqv z a)) s := ⟨.bl _, H, I, rfl, o m H _ (Post.refl rh) (.bl _)⟩
          cases b with
          | list xs => cases q3; exact SeqAt.in_list_reads r2 r1 (by have := SeqAt.canLay_of_shaped hs.2; simpa only [PyData.canLay0] using this) (SeqAt.canLay_of_shaped hs.1) (room_in_shaped hs.1 (by omega)) fin
          | tuple xs => cases q3; exact SeqAt.in_tuple_reads r2 r1 (by have := SeqAt.canLay_of_shaped hs.2; simpa only [PyData.canLay0] using this) (SeqAt.canLay_of_shaped hs.1) (room_in_shaped hs.1 (by omega)) fin
          | _ => cases q3
        · rw [if_neg hs] at o; exact o.elim
theorem hu1_of {n : Nat} (h : n + 70 < cLine) : n + 1 < cLine := by omega
end
end Py

set_option Elab.async false
set_option linter.all false
set_option maxRecDepth 100000
/-! Own layer: x.split(sep). -/
namespace Py
open PySem PySem.Spec PyProof.Rows L2
/-- what x.split(sep) gives -/
def splL (a b : Str) (h : LH) : R D := if (b.length == 0) = false ∧ a.length + 2 ≤ sizeLine then .ok (.ref h.length) (h ++ [.lst ((Txt.split a b).map D.str)]) else .stuck
def oSpl : D → D → LH → R D
  | .str a, .str b, h => splL a b h
  | _, _, _ => .stuck
def eSpl (o i : EX) : EX := fun r h => (o r h).bind fun x h1 => match x with
  | .str a => (i r h1).bind fun y h2 => oSpl (.str a) y h2
  | _ => .stuck
/-- repr(x), of None too -/
def bRepN : List D → LH → R D
  | [.non], h => .ok (.str "None") h
  | xs, h => bRep xs h
section
variable {X : Cx} {G : Gam} {E : XK} {CX : CXT}
theorem repN_ok (hg : X.A.guards = some []) (hu : X.A.units + 70 < cLine) : CallR X (.builtin "repr") (rA G X.K E bRepN) := by
  intro pins s σ H xs us Q I r ⟨m, h, ds, rh, rd, o⟩
  have gen : bRepN ds h = bRep ds h → wpAny (model X.prog X.w) X.A (call (.builtin "repr") us) (EP X pins σ Q) X.xe s := fun e => rep_okB hg hu pins s σ H xs us Q I r ⟨m, h, ds, rh, rd, e ▸ o⟩
  cases rd with
  | nil => exact gen rfl
  | @cons d v ds vs a b =>
    cases b with
    | cons _ _ => exact gen (by cases d <;> rfl)
    | nil =>
      cases a with
      | non =>
        obtain ⟨u, rfl, t⟩ := Vals.one r
        cases t
        exact PySem.P.repr_of_none ⟨.str _, H, I.tok _, ⟨_, rfl⟩, o m H _ (Post.refl rh) (.str _)⟩
      | _ => exact gen rfl
theorem rel_strs {K : PySem.W.Frag} {m : Nat → Addr} {N : Nat} {H : Hp} : ∀ ys : List Str, RelDs K m N H (ys.map D.str) (ys.map V.str)
  | [] => .nil
  | y :: ys => .cons (.str _) (rel_strs ys)
theorem xSplit {o e : Expr} {fo fi : EX} {apos pos : Pos} (ho : PE X o (tE G X.K E fo)) (he : PE X e (tE G X.K E fi)) (hs : starEach [e] X.env = [(false, eval e X.env)] := by rfl)
    (hbase : attributeBase o "split" X.env (eval o X.env) = eval o X.env := by rfl) (hline : (apos.endLine == pos.line) = true := by rfl) : PE X (.Call (.Attribute o "split" apos) [e] [] pos) (tE G X.K E (eSpl fo fi)) := by
  refine PE_mono (pe_split ho he hs hbase hline) ?_
  rintro σ H Q ⟨m, r, h, rh, rs, o⟩
  refine ⟨m, r, h, rh, rs, ?_⟩
  rcases Out.bindR o with ⟨x, h1, e, o⟩ | ⟨c, fs, h1, e, o⟩
  · rw [e]
    intro m1 H1 v p1 d1
    cases d1 with
    | str a =>
      refine ⟨⟨a, rfl⟩, m1, r, h1, p1.rel, p1.s rs, ?_⟩
      simp only at o
      rcases Out.bindR o with ⟨y, h2, e, o⟩ | ⟨c, fs, h2, e, o⟩
      · rw [e]
        intro m2 H2 w p2 d2
        have o := Out.later (p1.trans p2) o
        cases d2 with
        | str b =>
          simp only [oSpl, splL] at o
          by_cases c : (b.length == 0) = false ∧ a.length + 2 ≤ sizeLine
          · rw [if_pos c] at o
            refine ⟨a, b, rfl, rfl, c.1, c.2, ?_⟩
            intro p hp
            exact out_lst p2.rel (rel_strs _) o p hp
          · rw [if_neg c] at o; exact o.elim
        | _ => exact o.elim
      · rw [e]; exact OutX.later p1 o
    | _ => exact o.elim
  · rw [e]; exact o
end
end Py

set_option Elab.async false
set_option linter.all false
set_option maxRecDepth 100000
set_option maxHeartbeats 2000000
/-! Own layer: repr of data with dicts in it. -/
namespace Py
open PySem PySem.Spec PyProof.Rows L2
def kyP : Ky → PyData
  | .inl i => .int i
  | .inr x => .str x
/-- data as a whole, dicts too -/
def deepK (h : LH) : Nat → D → Option PyData
  | _, .non => some .none
  | _, .bl b => some (.bool b)
  | _, .int i => some (.int i)
  | _, .str x => some (.str x)
  | _, .scr _ => none
  | _, .fn _ => none
  | 0, _ => none
  | n + 1, .tup xs => (mapO (deepK h n) xs).map .tuple
  | n + 1, .ref k => match h[k]? with
    | some (.lst xs) => (mapO (deepK h n) xs).map .list
    | some (.dct kvs) => (mapO (deepK h n) (kvs.map Prod.snd)).map fun ys => .dict ((kvs.map fun p => kyP p.1).zip ys)
    | _ => none
def showK (a : PyData) : Bool := a.showable && decide (a.depth ≤ 64) && decide (a.shown.length ≤ sizeLine)
/-- repr(x) of any data -/
def bRepK : List D → LH → R D
  | [.ref n], h => (match deepK h 60 (.ref n) with
    | some a => if showK a = true then .ok (.str a.shown) h else .stuck
    | none => .stuck)
  | [.tup xs], h => (match deepK h 60 (.tup xs) with
    | some a => if showK a = true then .ok (.str a.shown) h else .stuck
    | none => .stuck)
  | [.str x], h => if (reprText x).length ≤ sizeLine then .ok (.str (reprText x)) h else .stuck
  | [.bl b], h => .ok (.str (if b then "True" else "False")) h
  | xs, h => bRepN xs h
/-- a value that is read and shown -/
def Rd3 (P : Program) (w : World) (hp : Heap) (u : Value) (x : PyData) : Prop :=
  ∃ as bs, Reads hp u x as ∧ ReadAtMost hp x.depth bs ∧ ReprK P w bs hp x.depth u x.shown ∧ ∀ a, u = .ref a → ∃ T idr, ShowsBy P w hp a x T idr
def Rd3s (P : Program) (w : World) (hp : Heap) (us : List Value) (ys : List PyData) : Prop :=
  ∃ as bs, ReadsAll hp us ys as ∧ ReadAtMost hp (PyData.depthAll ys) bs ∧ ReprAllK P w bs hp (PyData.depthAll ys) us (PyData.shownAll ys)
section
variable {P : Program} {w : World} {hp : Heap}
theorem rd3_nil : Rd3s P w hp [] [] := ⟨[], [], .nil, (fun _ z => nomatch z), .nil⟩
theorem rd3_cons {u : Value} {x : PyData} {us : List Value} {ys : List PyData} (a : Rd3 P w hp u x) (b : Rd3s P w hp us ys) : Rd3s P w hp (u :: us) (x :: ys) := by
  obtain ⟨a1, b1, r1, m1, k1, _⟩ := a
  obtain ⟨a2, b2, r2, m2, k2⟩ := b
  refine ⟨_, b1 ++ b2, .cons r1 r2, ?_, ?_⟩
  · simp only [PyData.depthAll]
    exact (m1.mono (Nat.le_max_left _ _)).append (m2.mono (Nat.le_max_right _ _))
  · simp only [PyData.depthAll, PyData.shownAll]
    exact .cons ((k1.more fun b z => List.mem_append.mpr (.inl z)).level_le (Nat.le_max_left _ _)) (k2.more_le (fun b z => List.mem_append.mpr (.inr z)) (Nat.le_max_right _ _))
theorem rd3_flat {u : Value} {x : PyData} {t : Str} (r : Reads hp u x []) (s : ReprIs P w u t) (e : x.shown = t) (n : ∀ a, u ≠ .ref a) : Rd3 P w hp u x :=
  ⟨[], [], r, (fun _ z => nomatch z), by rw [e]; exact .of_is s _ _ _, fun a z => absurd z (n a)⟩
theorem rd3_lst {a : Addr} {o : Obj} {us : List Value} {n : Nat} {ys : List PyData} (g : hp.get? a = some o) (c : o.cls = .type "list") (d : o.data = .seq us.toArray n) (z : (PyData.list ys).shown.length ≤ sizeLine) (r : Rd3s P w hp us ys) : Rd3 P w hp (.ref a) (.list ys) := by
  obtain ⟨as, bs, r, m, k⟩ := r
  have q : Reads hp (.ref a) (.list ys) (a :: as) := .list g c d (by simpa using r)
  have na : a ∉ bs := not_mem_of_deeper q (by simp only [PyData.depth]; exact Nat.lt_succ_self _) m
  have z2 : (listText (PyData.shownAll ys)).length ≤ sizeLine := by simpa only [PyData.shown] using z
  refine ⟨_, a :: bs, q, ReadAtMost.cons q (by simp only [PyData.depth]; exact Nat.le_succ _) m, ?_, ?_⟩
  · simp only [PyData.depth, PyData.shown]
    cases us with
    | nil =>
      cases r
      simp only [PyData.shownAll, listText_nil]
      exact .listEmpty g c d
    | cons x l => exact .list g c d na (by simpa using k.length_eq) fun i y e => k.item i y (by simpa using e)
  · rintro b e
    cases e
    refine ⟨"list", "list.__repr__", F.slot_list_repr.toG, F.slot_list_str, F.slot_list_format, fun s kp => ⟨o, kp _ _ g, c⟩, fun A E s Q hg hu kp hQ => ?_⟩
    simp only [PyData.depth] at hu
    simp only [PyData.shown] at hQ
    cases us with
    | nil =>
      cases r
      simp only [PyData.shownAll, listText_nil] at hQ
      exact call_list_repr_empty ⟨o, kp _ _ g, c⟩ (kp _ _ g) d (hQ s.heap _ _ fun _ _ e => e)
    | cons x l => exact call_list_reprK g c d na (by simpa using k.length_eq) (fun i y e => k.item i y (by simpa using e)) hg (fun b _ => Clear.nil b) hu kp hQ z2
theorem rd3_tup {a : Addr} {o : Obj} {us : List Value} {n : Nat} {ys : List PyData} (g : hp.get? a = some o) (c : o.cls = .type "tuple") (d : o.data = .seq us.toArray n) (z : (PyData.tuple ys).shown.length ≤ sizeLine) (r : Rd3s P w hp us ys) : Rd3 P w hp (.ref a) (.tuple ys) := by
  obtain ⟨as, bs, r, m, k⟩ := r
  have q : Reads hp (.ref a) (.tuple ys) as := .tuple g c d (by simpa using r)
  have na : a ∉ bs := not_mem_of_deeper q (by simp only [PyData.depth]; exact Nat.lt_succ_self _) m
  have z2 : (tupleText (PyData.shownAll ys)).length ≤ sizeLine := by simpa only [PyData.shown] using z
  refine ⟨_, a :: bs, q, ReadAtMost.cons q (by simp only [PyData.depth]; exact Nat.le_succ _) m, ?_, ?_⟩
  · simp only [PyData.depth, PyData.shown]
    exact .tuple g c d na (by simpa using k)
  · rintro b e
    cases e
    refine ⟨"tuple", "tuple.__repr__", F.slot_tuple_repr, F.slot_tuple_str, F.slot_tuple_format, fun s kp => ⟨o, kp _ _ g, c⟩, fun A E s Q hg hu kp hQ => ?_⟩
    simp only [PyData.depth] at hu
    simp only [PyData.shown] at hQ
    exact call_tuple_reprK g c d na (by simpa using k) hg (fun b _ => Clear.nil b) hu kp hQ z2
theorem rd3_dct {a : Addr} {o : Obj} {es : Array DictEntry} {n : Nat} {kvs : List (PyData × PyData)} (g : hp.get? a = some o) (c : o.cls = .type "dict") (d : o.data = .dict es n) (sm : (a == sysModules) = false) (z : (PyData.dict kvs).shown.length ≤ sizeLine)
    (r1 : Rd3s P w hp (es.toList.map (·.key)) (kvs.map (·.1))) (r2 : Rd3s P w hp (es.toList.map (·.val)) (kvs.map (·.2))) : Rd3 P w hp (.ref a) (.dict kvs) := by
  obtain ⟨as1, bs1, r1, m1, k1⟩ := r1
  obtain ⟨as2, bs2, r2, m2, k2⟩ := r2
  have q : Reads hp (.ref a) (.dict kvs) (a :: as1 ++ as2) := .dict g c d r1 r2
  have m : ReadAtMost hp (PyData.depthKv kvs) (bs1 ++ bs2) := (m1.mono (PyData.depthAll_keys_le kvs)).append (m2.mono (PyData.depthAll_vals_le kvs))
  have na : a ∉ bs1 ++ bs2 := not_mem_of_deeper q (by simp only [PyData.depth]; exact Nat.lt_succ_self _) m
  have z2 : (dictText (PyData.shownKv kvs)).length ≤ sizeLine := by simpa only [PyData.shown] using z
  have en := ReprEntriesK.of_two es.toList _ _ (k1.more_le (fun b z => List.mem_append.mpr (.inl z)) (PyData.depthAll_keys_le kvs)) (k2.more_le (fun b z => List.mem_append.mpr (.inr z)) (PyData.depthAll_vals_le kvs))
  rw [← PyData.shownKv_eq] at en
  refine ⟨_, a :: (bs1 ++ bs2), q, ReadAtMost.cons q (by simp only [PyData.depth]; exact Nat.le_succ _) m, ?_, ?_⟩
  · simp only [PyData.depth, PyData.shown]
    exact .dict g c d sm na en
  · rintro b e
    cases e
    refine ⟨"dict", "dict.__repr__", F.slot_dict_repr, F.slot_dict_str, F.slot_dict_format, fun s kp => ⟨o, kp _ _ g, c⟩, fun A E s Q hg hu kp hQ => ?_⟩
    simp only [PyData.depth] at hu
    simp only [PyData.shown] at hQ
    exact call_dict_reprK g c d sm na en hg (fun b _ => Clear.nil b) hu kp hQ z2
end
theorem rel_snd {K : PySem.W.Frag} {m : Nat → Addr} {N : Nat} {H : Hp} : ∀ {kvs : List (Ky × D)} {vs : List (L2.Key × V)}, RelKs K m N H kvs vs → RelDs K m N H (kvs.map Prod.snd) (vs.map Prod.snd)
  | _, _, .nil => .nil
  | _, _, .cons a r => .cons a (rel_snd r)
theorem rel_keys {K : PySem.W.Frag} {m : Nat → Addr} {N : Nat} {H : Hp} : ∀ {kvs : List (Ky × D)} {vs : List (L2.Key × V)}, RelKs K m N H kvs vs → kvs.map Prod.fst = vs.map Prod.fst
  | _, _, .nil => rfl
  | _, _, .cons a r => by rw [List.map_cons, List.map_cons, rel_keys r]
theorem kv_snd : ∀ {vs : List (L2.Key × V)} {ws : List (L2.Key × Value)}, KV vs ws → vs.map Prod.fst = ws.map Prod.fst ∧ Vals (vs.map Prod.snd) (ws.map Prod.snd)
  | _, _, .nil => ⟨rfl, .nil⟩
  | _, _, .cons a r => by
    obtain ⟨e, v⟩ := kv_snd r
    exact ⟨by rw [List.map_cons, List.map_cons, e, a.1], .cons a.2 v⟩
theorem pairs_val {P : Program} {w : World} : ∀ {es : List DictEntry} {ws : List (L2.Key × Value)}, PySem.Pairs (mixKind P w) es ws → es.map (·.val) = ws.map Prod.snd
  | _, _, .nil => rfl
  | _, _, .cons _ e r => by rw [List.map_cons, List.map_cons, e, pairs_val r]
theorem pairs_key {P : Program} {w : World} {hp : Heap} : ∀ {es : List DictEntry} {ws : List (L2.Key × Value)}, PySem.Pairs (mixKind P w) es ws → PyData.showableAll (ws.map fun p => kyP p.1) = true → (∀ t ∈ PyData.shownAll (ws.map fun p => kyP p.1), t.length ≤ sizeLine) → Rd3s P w hp (es.map (·.key)) (ws.map fun p => kyP p.1)
  | _, _, .nil, _, _ => rd3_nil
  | _, _, .cons (e := e) (kv := kv) k _ r, s, z => by
    simp only [List.map_cons, PyData.showableAll, Bool.and_eq_true] at s
    simp only [List.map_cons, PyData.shownAll] at z
    refine rd3_cons ?_ (pairs_key r s.2 fun t m => z t (List.mem_cons_of_mem _ m))
    have k : keyIs kv.1 e.key = true := k
    obtain ⟨q, val⟩ := kv
    have s1 := s.1
    have z1 := z _ (List.mem_cons_self ..)
    clear s z
    rcases keyIs_shape k with ⟨i, t, e1, e2⟩ | ⟨x, t, e1, e2⟩
    · dsimp only at e1 s1 z1 ⊢
      subst e1
      rw [e2]
      exact rd3_flat (.int i t) (ReprIs.int t (by simpa [kyP, PyData.showable] using s1)) rfl fun a z => nomatch z
    · dsimp only at e1 s1 z1 ⊢
      subst e1
      rw [e2]
      exact rd3_flat (.str x t) (ReprIs.str x t (by simpa only [kyP, PyData.shown] using z1)) rfl fun a z => nomatch z
section
variable {X : Cx} {G : Gam} {E : XK} {pins : List (Addr × Obj)} {σ : L2.St} {H : Hp} {s : Shared} {m : Nat → Addr} {h : LH}
theorem rd3s_of {f : D → Option PyData} (ih : ∀ (d : D) (v : V) (u : Value) (x : PyData), RelD X.K m h.length H d v → RelV v u → f d = some x → x.showable = true → x.shown.length ≤ sizeLine → Rd3 X.prog X.w s.heap u x) :
    ∀ {xs : List D} {vs : List V} {us : List Value} {ys : List PyData}, RelDs X.K m h.length H xs vs → Vals vs us → mapO f xs = some ys → PyData.showableAll ys = true → (∀ t ∈ PyData.shownAll ys, t.length ≤ sizeLine) → Rd3s X.prog X.w s.heap us ys
  | _, _, _, _, .nil, r, e, _, _ => by cases e; cases r; exact rd3_nil
  | _, _, _, ys, .cons (d := d) (ds := ds) a r, rv, e, sh, z => by
    cases rv with
    | cons r1 r2 =>
      simp only [mapO] at e
      cases q1 : f d with
      | none => simp only [q1] at e; cases e
      | some x =>
        cases q2 : mapO f ds with
        | none => simp only [q1, q2] at e; cases e
        | some zs =>
          simp only [q1, q2] at e
          cases e
          simp only [PyData.showableAll, Bool.and_eq_true] at sh
          simp only [PyData.shownAll] at z
          exact rd3_cons (ih _ _ _ _ a r1 q1 sh.1 (z _ (List.mem_cons_self ..))) (rd3s_of ih r r2 q2 sh.2 fun t mm => z t (List.mem_cons_of_mem _ mm))
theorem mapO_len {α β : Type} {f : α → Option β} : ∀ {xs : List α} {ys : List β}, mapO f xs = some ys → ys.length = xs.length
  | [], _, e => by cases e; rfl
  | a :: r, ys, e => by
    simp only [mapO] at e
    cases q1 : f a with
    | none => simp only [q1] at e; cases e
    | some x =>
      cases q2 : mapO f r with
      | none => simp only [q1, q2] at e; cases e
      | some zs =>
        simp only [q1, q2] at e
        cases e
        simp [mapO_len q2]
theorem zip_fst {α β : Type} {xs : List α} {ys : List β} (e : ys.length = xs.length) : (xs.zip ys).map Prod.fst = xs := List.map_fst_zip (by omega)
theorem zip_snd {α β : Type} {xs : List α} {ys : List β} (e : ys.length = xs.length) : (xs.zip ys).map Prod.snd = ys := List.map_snd_zip (by omega)
theorem rd3_of (rh : RelH G X.K m h H) (I : L2.Inv X pins σ H s) : ∀ (n : Nat) (d : D) (v : V) (u : Value) (x : PyData), RelD X.K m h.length H d v → RelV v u → deepK h n d = some x → x.showable = true → x.shown.length ≤ sizeLine → Rd3 X.prog X.w s.heap u x
  | n, _, _, u, x, .non, r, e, _, _ => by cases n <;> (cases e; cases r; exact rd3_flat .none .none rfl fun a z => nomatch z)
  | n, _, _, u, x, .bl b, r, e, _, _ => by cases n <;> (cases e; cases r; exact rd3_flat (.bool b) (.bool b) rfl fun a z => nomatch z)
  | n, _, _, u, x, .int i, r, e, sh, _ => by cases n <;> (cases e; obtain ⟨t, rfl⟩ := r; exact rd3_flat (.int i t) (ReprIs.int t (by simpa [PyData.showable] using sh)) rfl fun a z => nomatch z)
  | n, _, _, u, x, .str y, r, e, _, z => by cases n <;> (cases e; obtain ⟨t, rfl⟩ := r; exact rd3_flat (.str y t) (ReprIs.str y t (by simpa only [PyData.shown] using z)) rfl fun a z => nomatch z)
  | n, _, _, u, x, .scr hs, r, e, _, _ => by cases n <;> cases e
  | n, _, _, u, x, .fn _, r, e, _, _ => by cases n <;> cases e
  | 0, _, _, u, x, .tup _ _, r, e, _, _ => by cases e
  | 0, _, _, u, x, .ref _, r, e, _, _ => by cases e
  | n + 1, .tup xs, _, u, x, .tup ht rs, r, e, sh, z => by
    simp only [deepK] at e
    cases q : mapO (deepK h n) xs with
    | none => simp only [q] at e; cases e
    | some ys =>
      simp only [q] at e
      cases e
      cases r
      obtain ⟨its, rv, ⟨o, ho, hc, k, hd⟩, _⟩ := I.tuple ht.sq
      exact rd3_tup ho hc hd z (rd3s_of (rd3_of rh I n) rs rv q (by simpa [PyData.showable] using sh) fun t mm => Nat.le_trans (tupleText_mem_le mm) (by simpa only [PyData.shown] using z))
  | n + 1, .ref k, _, u, x, .ref hk, r, e, sh, z => by
    simp only [deepK] at e
    cases y : h[k]? with
    | none => simp only [y] at e; cases e
    | some ob =>
      cases ob with
      | ins c fs => simp only [y] at e; cases e
      | lst xs =>
        simp only [y] at e
        cases q : mapO (deepK h n) xs with
        | none => simp only [q] at e; cases e
        | some ys =>
          simp only [q] at e
          cases e
          cases r
          obtain ⟨vs, e1, rs⟩ := lst_at rh y
          obtain ⟨its, rv, ⟨o, j, ho, hc, _, hd⟩, _⟩ := I.list (SqL.of e1)
          exact rd3_lst ho hc hd z (rd3s_of (rd3_of rh I n) rs rv q (by simpa [PyData.showable] using sh) fun t mm => Nat.le_trans (listText_mem_le mm) (by simpa only [PyData.shown] using z))
      | dct kvs =>
        simp only [y] at e
        cases q : mapO (deepK h n) (kvs.map Prod.snd) with
        | none => simp only [q] at e; cases e
        | some ys =>
          simp only [q] at e
          cases e
          cases r
          obtain ⟨vs, e1, rs⟩ := rh.obj k _ y
          obtain ⟨_, sm, ws, kv, o, es, ep, g, cc, dd, _, ps, _⟩ := I.hok _ _ e1
          obtain ⟨e2, vv⟩ := kv_snd kv
          have ek : (kvs.map fun p => kyP p.1) = ws.map fun p => kyP p.1 := by
            have a1 : (kvs.map fun p => kyP p.1) = (kvs.map Prod.fst).map kyP := by simp
            have a2 : (ws.map fun p => kyP p.1) = (ws.map Prod.fst).map kyP := by simp
            rw [a1, a2, rel_keys rs, e2]
          have len : ys.length = (kvs.map fun p => kyP p.1).length := by simpa using mapO_len q
          have z2 : (dictText (PyData.shownKv ((kvs.map fun p => kyP p.1).zip ys))).length ≤ sizeLine := by simpa only [PyData.shown] using z
          obtain ⟨s1, s2⟩ := PyData.showableKv_split _ (by simpa [PyData.showable] using sh)
          have t1 := fun t mm => let ⟨p, hp, hl⟩ := PyData.shownKv_key_le ((kvs.map fun p => kyP p.1).zip ys) t mm; Nat.le_trans hl (Nat.le_trans (dictText_mem_le hp) z2)
          have t2 := fun t mm => let ⟨p, hp, hl⟩ := PyData.shownKv_val_le ((kvs.map fun p => kyP p.1).zip ys) t mm; Nat.le_trans hl (Nat.le_trans (dictText_mem_le hp) z2)
          refine rd3_dct g cc.1 dd sm z ?_ ?_
          · rw [zip_fst len] at s1 t1 ⊢
            rw [ek] at s1 t1 ⊢
            exact pairs_key ps s1 t1
          · rw [zip_snd len] at s2 t2 ⊢
            rw [pairs_val ps]
            exact rd3s_of (rd3_of rh I n) (rel_snd rs) vv q s2 t2
theorem reprK_run {u : Value} {x : PyData} {Q : VK} (hg : X.A.guards = some []) (hu : X.A.units + 70 < cLine) (I : L2.Inv X pins σ H s) (rd : Rd3 X.prog X.w s.heap u x) (hr : ∃ p, u = .ref p) (hs : showK x = true) (q : Q (.str x.shown) H) :
    wpAny (model X.prog X.w) X.A (call (.builtin "repr") [u]) (EP X pins σ Q) X.xe s := by
  simp only [showK, Bool.and_eq_true, decide_eq_true_eq] at hs
  obtain ⟨⟨h1, h3⟩, h4⟩ := hs
  obtain ⟨p, rfl⟩ := hr
  obtain ⟨_, _, _, _, _, sh⟩ := rd
  obtain ⟨T, idr, S⟩ := sh p rfl
  refine call_repr_slot (by omega) (S.typeIs s fun _ _ e => e) S.slotRepr (S.call X.A.in1 _ s _ hg (by show X.A.units + 1 + x.depth < cLine; omega) (fun _ _ e => e) fun h' t tk kp => ⟨_, _, rfl, ?_⟩)
  exact ⟨.str x.shown, H, I.kept (t' := tk) kp, ⟨t, rfl⟩, q⟩
theorem repK_ok (hg : X.A.guards = some []) (hu : X.A.units + 70 < cLine) : CallR X (.builtin "repr") (rA G X.K E bRepK) := by
  intro pins s σ H xs us Q I r ⟨m, h, ds, rh, rd, o⟩
  have gen : bRepK ds h = bRepN ds h → wpAny (model X.prog X.w) X.A (call (.builtin "repr") us) (EP X pins σ Q) X.xe s := fun e => repN_ok hg hu pins s σ H xs us Q I r ⟨m, h, ds, rh, rd, e ▸ o⟩
  cases rd with
  | nil => exact gen rfl
  | @cons d v ds vs a b =>
    cases b with
    | cons _ _ => exact gen (by cases d <;> rfl)
    | nil =>
      have key : RelD X.K m h.length H d v → (∃ p, v = .ref p) → bRepK [d] h = (match deepK h 60 d with
          | some a => if showK a = true then .ok (.str a.shown) h else .stuck
          | none => .stuck) → wpAny (model X.prog X.w) X.A (call (.builtin "repr") us) (EP X pins σ Q) X.xe s := by
        intro a hv e
        rw [e] at o
        cases q : deepK h 60 d with
        | none => simp only [q] at o; exact o.elim
        | some x =>
          simp only [q] at o
          by_cases hs : showK x = true
          · rw [if_pos hs] at o
            obtain ⟨u, rfl, ru⟩ := Vals.one r
            have hs2 := hs
            simp only [showK, Bool.and_eq_true, decide_eq_true_eq] at hs2
            obtain ⟨p, rfl⟩ := hv
            exact reprK_run hg hu I (rd3_of rh I 60 _ _ _ _ a ru q hs2.1.1 hs2.2) ⟨p, ru⟩ hs (o m H _ (Post.refl rh) (.str _))
          · rw [if_neg hs] at o; exact o.elim
      cases a with
      | non => exact gen rfl
      | int _ => exact gen rfl
      | scr _ => exact gen rfl
      | fn _ => exact gen rfl
      | @ref n hn => exact key (.ref hn) ⟨_, rfl⟩ rfl
      | @tup p xs vs ht rs => exact key (.tup ht rs) ⟨_, rfl⟩ rfl
      | bl b =>
        obtain ⟨u, rfl, ru⟩ := Vals.one r
        obtain rfl : u = Value.bool b := ru
        exact PySem.P.repr_of_bool ⟨.str _, H, I.tok _, ⟨_, rfl⟩, o m H _ (Post.refl rh) (.str _)⟩
      | str x =>
        obtain ⟨u, rfl, ru⟩ := Vals.one r
        obtain ⟨tk, rfl⟩ := (show ∃ tk, u = Value.str x tk from ru)
        simp only [bRepK] at o
        by_cases hl : (reprText x).length ≤ sizeLine
        · rw [if_pos hl] at o
          exact PySem.P.repr_of_str ⟨.str _, H, I.tok _, ⟨_, rfl⟩, o m H _ (Post.refl rh) (.str _)⟩ hl
        · rw [if_neg hl] at o; exact o.elim
end
end Py

set_option Elab.async false
set_option linter.all false
set_option maxRecDepth 100000
/-! Own layer: dict(list(d.items()) + [(k, v), ..]). -/
namespace Py
open PySem PySem.Spec PyProof.Rows L2
def pairD : D → Option (Ky × D)
  | .tup [a, b] => (keyD a).map fun k => (k, b)
  | _ => none
def pairsL : List D → Option (List (Ky × D))
  | [] => some []
  | x :: xs => match pairD x, pairsL xs with
    | some p, some ps => some (p :: ps)
    | _, _ => none
def plusD (ks : List (Ky × D)) : D → LH → R D
  | .ref n, h => (match h[n]? with
    | some (.lst xs) => (match pairsL xs with
      | some ps => if ks.length + xs.length ≤ sizeLine then .ok (.ref h.length) (h ++ [.dct (mergeD [] (ks ++ ps))]) else .stuck
      | none => .stuck)
    | _ => .stuck)
  | _, _ => .stuck
/-- dict(list(o.items()) + l) -/
def eDictPlus (fo fl : EX) : EX := fun r h => (fo r h).bind fun x h1 => match dctD x h1 with
  | some ks => (fl r h1).bind fun y h2 => plusD ks y h2
  | none => .stuck
section
variable {G : Gam} {K : PySem.W.Frag} {m : Nat → Addr} {N : Nat} {h : LH} {H H' : Hp}
theorem TK.grow (k : ∀ b o, H b = some o → H' b = some o) : TK K H H' := by
  refine ⟨fun a vs h => ?_, fun a vs h => ?_, fun a h => ?_⟩
  · rcases h with (h | ⟨u, h⟩) | h
    · exact .inl (.inl (k _ _ h))
    · exact .inl (.inr ⟨u, k _ _ h⟩)
    · exact .inr h
  · rcases h with ⟨u, h⟩ | h
    · exact .inl ⟨u, k _ _ h⟩
    · exact .inr h
  · rcases h with ⟨u, w, h, e⟩ | h
    · exact .inl ⟨u, w, k _ _ h, e⟩
    · exact .inr h
theorem RelH.grow (r : RelH G K m h H) (k : ∀ b o, H b = some o → H' b = some o) : Post G K m h.length H m h H' := by
  have tk : TK K H H' := TK.grow k
  refine ⟨fun _ _ => rfl, Nat.le_refl _, tk, ⟨fun n o e => ?_, r.inj, r.tab.ext k⟩, fun i h1 h2 => absurd h2 (Nat.not_lt.mpr h1), fun a o e _ _ => k a o e⟩
  obtain ⟨u, hu⟩ := (r.obj n o e).isThere
  exact (r.obj n o e).mono (fun _ _ => rfl) (Nat.le_refl _) tk (by rw [hu, k _ _ hu])
theorem RelKs.app : ∀ {as bs : List (Ky × D)} {vs ws : List (L2.Key × V)}, RelKs K m N H as vs → RelKs K m N H bs ws → RelKs K m N H (as ++ bs) (vs ++ ws)
  | _, _, _, _, .nil, r => r
  | _, _, _, _, .cons a r, q => .cons a (RelKs.app r q)
theorem paired_app {α β : Type} {F : α → β → Prop} : ∀ {xs xs2 : List α} {ys ys2 : List β}, Paired F xs ys → Paired F xs2 ys2 → Paired F (xs ++ xs2) (ys ++ ys2)
  | _, _, _, _, .nil, q => q
  | _, _, _, _, .cons a r, q => .cons a (paired_app r q)
theorem paired_to {α β : Type} {F F' : α → β → Prop} (i : ∀ a b, F a b → F' a b) : ∀ {xs : List α} {ys : List β}, Paired F xs ys → Paired F' xs ys
  | _, _, .nil => .nil
  | _, _, .cons a r => .cons (i _ _ a) (paired_to i r)
theorem pairsL_ok : ∀ {xs : List D} {ws : List V} {ps : List (Ky × D)}, RelDs K m N H xs ws → pairsL xs = some ps → ∃ (ts : List Addr) (vs : List (L2.Key × V)), ws = ts.map V.ref ∧ Paired (fun p kv => SqT K H p [kV kv.1, kv.2]) ts vs ∧ RelKs K m N H ps vs
  | _, _, _, .nil, e => by cases e; exact ⟨[], [], rfl, .nil, .nil⟩
  | _, _, _, .cons (d := d) (ds := ds) a r, e => by
    simp only [pairsL] at e
    cases q1 : pairD d with
    | none => simp only [q1] at e; cases e
    | some p =>
      cases q2 : pairsL ds with
      | none => simp only [q1, q2] at e; cases e
      | some ps =>
        simp only [q1, q2] at e
        cases e
        obtain ⟨ts, vs, rfl, e2, e3⟩ := pairsL_ok r q2
        cases a with
        | @tup a xs us ht rds =>
          cases rds with
          | nil => cases q1
          | cons r1 rds =>
            cases rds with
            | nil => cases q1
            | cons r2 rds =>
              cases rds with
              | cons _ _ => cases q1
              | nil =>
                rename_i d1 v1 d2 v2
                simp only [pairD] at q1
                cases q3 : keyD d1 with
                | none => rw [q3] at q1; cases q1
                | some k =>
                  rw [q3] at q1
                  cases q1
                  have e4 := keyD_ok r1 q3
                  subst e4
                  exact ⟨a :: ts, (k, v2) :: vs, rfl, .cons ht.sq e2, .cons r2 e3⟩
        | _ => cases q1
end
section
variable {X : Cx} {G : Gam} {E : XK} {CX : CXT}
theorem xDictPlus {o l : Expr} {fo fl : EX} {p1 p2 apos cpos pos2 pos3 pos4 : Pos} (hc : X.calm = true) (ho : PE X o (tE G X.K E fo)) (hl : PE X l (tE G X.K E fl))
    (hg : Gl X "list") (hm : X.mg "list" = none) (hv : bootBuiltins "list" = some (.type "list")) (hg2 : Gl X "dict") (hm2 : X.mg "dict" = none) (hv2 : bootBuiltins "dict" = some (.type "dict"))
    (hbase : attributeBase o "items" X.env (eval o X.env) = eval o X.env := by rfl) (hline : (apos.endLine == cpos.line) = true := by rfl)
    (hs : starEach [.Call (.Attribute o "items" apos) [] [] cpos] X.env = (false, eval (.Call (.Attribute o "items" apos) [] [] cpos) X.env) :: starEach [] X.env := by rfl)
    (hs2 : starEach [.BinOp (.Call (.Name "list" p2) [.Call (.Attribute o "items" apos) [] [] cpos] [] pos2) .Add l pos3] X.env = (false, eval (.BinOp (.Call (.Name "list" p2) [.Call (.Attribute o "items" apos) [] [] cpos] [] pos2) .Add l pos3) X.env) :: starEach [] X.env := by rfl)
    (hpl : (backTo pos4 (starEach [] X.env)).any (·.1) = false := by rfl) :
    PE X (.Call (.Name "dict" p1) [.BinOp (.Call (.Name "list" p2) [.Call (.Attribute o "items" apos) [] [] cpos] [] pos2) .Add l pos3] [] pos4) (tE G X.K E (eDictPlus fo fl)) := by
  refine PE_mono (pe_callTy (call_dictP hc) hg2 hm2 hv2 (pa_cons (pe_op op_cat (LiI.pe_listItems hc ho hg hm hv hbase hline hs) hl) pa_nil hs2) (by decide) (by decide) hs2 hpl) ?_
  rintro σ H Q ⟨m, r, h, rh, rs, o⟩
  refine ⟨m, r, h, rh, rs, ?_⟩
  rcases Out.bindR o with ⟨x, h1, e, o⟩ | ⟨c, fs, h1, e, o⟩
  · rw [e]
    intro m1 H1 v p1 d1
    cases q : dctD x h1 with
    | none => simp only [q] at o; exact o.elim
    | some ks =>
      simp only [q] at o
      obtain ⟨n, vs, rfl, hn, rfl, e1, e2, rk⟩ := dctD_ok p1.rel d1 q
      refine ⟨m1 n, vs, rfl, e2, ?_⟩
      intro H2 p ts k hp hts hpn hl2 hpair
      have g := p1.rel.grow k
      refine ⟨m1, r, h1, g.rel, g.s (p1.s rs), ?_⟩
      rcases Out.bindR o with ⟨y, h2, e, o⟩ | ⟨c, fs, h2, e, o⟩
      · rw [e]
        intro m2 H3 w p2 d2
        have o := Out.later ((p1.trans g).trans p2) o
        cases d2 with
        | @ref n2 hn2 =>
          simp only [plusD] at o
          cases q2 : h2[n2]? with
          | none => simp only [q2] at o; exact o.elim
          | some ob =>
            cases ob with
            | lst xs =>
              simp only [q2] at o
              cases q3 : pairsL xs with
              | none => simp only [q3] at o; exact o.elim
              | some ps =>
                simp only [q3] at o
                by_cases hz : ks.length + xs.length ≤ sizeLine
                · rw [if_pos hz] at o
                  obtain ⟨ws, w1, w2⟩ := p2.rel.obj n2 _ q2
                  obtain ⟨ts2, vs2, rfl, w3, w4⟩ := pairsL_ok w2 q3
                  have f : H3 p = some (.lst (ts.map V.ref)) := p2.fr p _ hl2 (fun _ z => nomatch z) (fun i hi => p1.rel.ne hi hp)
                  have lts : ts.length = ks.length := by rw [RelKs.length rk]; exact Paired.length hpair
                  have lxs : ts2.length = xs.length := by have := w2.length; simpa using this.symm
                  refine ⟨p, m2 n2, _, _, rfl, rfl, f, w1, by simp only [List.length_map]; omega, ?_⟩
                  intro p4 hp4
                  have g4 := p2.rel.newT (u := .lst (ts.map V.ref ++ ts2.map V.ref)) hp4
                  refine ⟨p4, ts ++ ts2, vs ++ vs2, rfl, .inl (.inl (by rw [List.map_append]; exact upd_same)), ?_, ?_⟩
                  · refine paired_app (paired_to (fun a b z => ?_) hpair) (paired_to (fun a b z => g4.tk.t _ _ z) w3)
                    exact g4.tk.t _ _ (p2.tk.t _ _ (.inl (.inl z)))
                  · intro p5 hp5
                    have o := Out.later g4 o
                    have rk4 := rk.mono ((g.trans p2).trans g4).agr ((g.trans p2).trans g4).len ((g.trans p2).trans g4).tk
                    have w5 := w4.mono g4.agr g4.len g4.tk
                    exact out_dct g4.rel (RelKs.merge (rk4.app w5) .nil) o p5 hp5
                · rw [if_neg hz] at o; exact o.elim
            | _ => simp only [q2] at o; exact o.elim
        | _ => exact o.elim
      · rw [e]; exact OutX.later (p1.trans g) o
  · rw [e]; exact o
end
end Py
namespace Py
open PySem PySem.Spec PyProof.Rows L2
/-! ### d.update(e) -/
def oUpd : D → D → LH → R D
  | .ref n, .ref k, h => (match h[n]?, h[k]? with
    | some (.dct ks), some (.dct ms) => if n ≠ k ∧ ks.length + ms.length ≤ sizeLine then .ok .non (h.set n (.dct (mergeD ks ms))) else .stuck
    | _, _ => .stuck)
  | _, _, _ => .stuck
def eUpd (o i : EX) : EX := fun r h => (o r h).bind fun x h1 => match dctD x h1 with
  | some _ => (i r h1).bind fun y h2 => oUpd x y h2
  | none => .stuck
def rUpd : V → List V → Hp → VK → Prop := fun x xs H Q => ∃ (a b : Addr) (kvs more : List (L2.Key × V)), x = .ref a ∧ xs = [.ref b] ∧ a ≠ b ∧ H a = some (.dK kvs) ∧ H b = some (.dK more) ∧ kvs.length + more.length ≤ sizeLine ∧ Q .non (upd H a (.dK (mergeK kvs more)))
section
variable {X : Cx} {G : Gam} {E : XK} {CX : CXT}
end
end Py

set_option Elab.async false
set_option linter.all false
set_option maxRecDepth 100000
/-! Own layer: [*d.values(), ..]. -/
namespace Py
open PySem PySem.Spec PyProof.Rows L2
def aStarV (fo : EX) (fa : AX) : AX := fun r h => (fo r h).bind fun x h1 => match dctD x h1 with
  | some ks => (fa r h1).bind fun ds h2 => .ok (ks.map (·.2) ++ ds) h2
  | none => .stuck
def tStarV (to : TE) (t : TA) : TA := fun σ H Q => to σ H fun x H1 => ∃ (d : Addr) (kvs : List (L2.Key × V)), x = .ref d ∧ H1 d = some (.dK kvs) ∧ t σ H1 fun ys H2 => Q (kvs.map (·.2) ++ ys) H2
section
variable {X : Cx} {G : Gam} {E : XK} {CX : CXT}
theorem vals_kv : ∀ {kvs : List (L2.Key × V)} {vs : List (L2.Key × Value)}, KV kvs vs → Vals (kvs.map (·.2)) (vs.map (·.2)) := by
  intro kvs vs r
  unfold KV at r
  induction r with
  | nil => exact .nil
  | cons h t ih => exact .cons h.2 ih
theorem items_kv {vs : List (L2.Key × Value)} {acc : Array Value} (h : ItemsOf (fun i v => ∃ k, vs[i]? = some (k, v)) acc vs.length) : acc.toList = vs.map (·.2) := by
  obtain ⟨h1, h2⟩ := h
  apply List.ext_getElem?
  intro i
  rw [List.getElem?_map]
  by_cases c : i < acc.size
  · have e : acc[i]? = some acc[i] := Array.getElem?_eq_getElem c
    obtain ⟨k, hk⟩ := h2 i _ e
    rw [hk, Array.getElem?_toList, e]; rfl
  · rw [List.getElem?_eq_none (by simpa using c), List.getElem?_eq_none (by omega)]; rfl
theorem pa_starVals {o : Expr} {es : List Expr} {to : TE} {t : TA} {apos cpos p : Pos} (hc : X.calm = true) (ho : PE X o to) (hr : PA X es t)
    (hbase : attributeBase o "values" X.env (eval o X.env) = eval o X.env := by rfl) (hline : (apos.endLine == cpos.line) = true := by rfl)
    (hs : starEach (.Starred (.Call (.Attribute o "values" apos) [] [] cpos) p :: es) X.env = (true, eval (.Call (.Attribute o "values" apos) [] [] cpos) X.env) :: starEach es X.env := by rfl) :
    PA X (.Starred (.Call (.Attribute o "values" apos) [] [] cpos) p :: es) (tStarV to t) := by
  refine ⟨fun pos pins s σ H Q I h => ?_⟩
  refine PySem.W.items_star (wpAny_Call_method (T := "dict") (id := "dict.values") hbase rfl hline F.plainAttrs_dict F.slot_dict_values F.type_dict_values (thn (ho.run pins s σ H _ I h) fun u s1 ⟨x, H1, I1, rx, d, kvs, ex, hd, q⟩ => ?_)) hs
  subst ex
  obtain rfl : u = Value.ref d := rx
  obtain ⟨hz, hs0, vs, kv, hdo⟩ := I1.hok d _ hd
  obtain ⟨ep, hat⟩ := hdo.dictAt
  have lk : kvs.length = vs.length := kv.length
  have I2 : Inv X pins σ H1 { s1 with heap := s1.heap.push { cls := .type "dict_values", data := .fields #[.ref d] } } := I1.kept (t' := s1.toks) fun b ob q => Heap.get?_push_of_some _ q
  refine ⟨hdo.typeIs, hdo.mapOf.noDict, ?_⟩
  show wpAny _ _ (callWith cpos (.builtin "dict.values") [.ref d] [] []) _ X.xe s1
  refine method_meetsIn F.slot_dict_values F.entry_dict_values rfl (PySem.evalArgs_none ⟨rfl, hdo.typeIs, F.args_dict_values_1 _, _, meets_dict_values (mixKind X.prog X.w) d hs0, ⟨vs, hdo⟩, ?_⟩)
  have hv : (s1.heap.push { cls := .type "dict_values", data := .fields #[.ref d] }).IsValuesView s1.heap.objs.size d := ⟨_, Heap.get?_push_size _ rfl, rfl, rfl⟩
  have hT : Shared.TypeIs { s1 with heap := s1.heap.push { cls := .type "dict_values", data := .fields #[.ref d] } } (.ref s1.heap.objs.size) "dict_values" := ⟨_, Heap.get?_push_size _ rfl, rfl⟩
  unfold PySem.W.StarOf notIterableAtAll
  refine wpAny_bind (wpAny_specialOf hT PySem.F.slot_dict_values_iter.lookup (wpAny_pure ⟨rfl, ?_⟩))
  refine PySem.W.kdu_collect (PySem.W.kdl_values (knd := mixKind X.prog X.w) (kvs := vs) (r := s1.heap.objs.size) (d := d) (ep := ep)) (I1.ok.hd hc) ⟨hv, hat.push _⟩ (by omega) fun h' tk acc hk hacc => ?_
  exact thn (hr.run pos pins _ σ H1 _ (I2.kept (t' := tk) hk) q) fun ws s3 ⟨ys, H3, I3, r3, q3⟩ => ⟨kvs.map (·.2) ++ ys, H3, I3, by rw [items_kv hacc]; exact (vals_kv kv).append r3, q3⟩
theorem RelKs.vals {K : PySem.W.Frag} {m : Nat → Addr} {N : Nat} {H : Hp} : ∀ {ks : List (Ky × D)} {vs : List (L2.Key × V)}, RelKs K m N H ks vs → RelDs K m N H (ks.map (·.2)) (vs.map (·.2))
  | _, _, .nil => .nil
  | _, _, .cons a r => .cons a (RelKs.vals r)
theorem relds_app {K : PySem.W.Frag} {m : Nat → Addr} {N : Nat} {H : Hp} : ∀ {as bs : List D} {vs ws : List V}, RelDs K m N H as vs → RelDs K m N H bs ws → RelDs K m N H (as ++ bs) (vs ++ ws)
  | _, _, _, _, .nil, r => r
  | _, _, _, _, .cons a r, q => .cons a (relds_app r q)
theorem xaStarV {o : Expr} {es : List Expr} {fo : EX} {fs : AX} {apos cpos p : Pos} (hc : X.calm = true) (ho : PE X o (tE G X.K E fo)) (hr : PA X es (tA G X.K E fs))
    (hbase : attributeBase o "values" X.env (eval o X.env) = eval o X.env := by rfl) (hline : (apos.endLine == cpos.line) = true := by rfl)
    (hs : starEach (.Starred (.Call (.Attribute o "values" apos) [] [] cpos) p :: es) X.env = (true, eval (.Call (.Attribute o "values" apos) [] [] cpos) X.env) :: starEach es X.env := by rfl) :
    PA X (.Starred (.Call (.Attribute o "values" apos) [] [] cpos) p :: es) (tA G X.K E (aStarV fo fs)) :=
  PA_mono (pa_starVals hc ho hr hbase hline hs) fun σ H Q ⟨m, r, h, rh, rs, o⟩ => by
    refine ⟨m, r, h, rh, rs, ?_⟩
    rcases OutA.bindR o with ⟨x, h1, e, o⟩ | ⟨c, fs, h1, e, o⟩
    · rw [e]
      intro m1 H1 v p1 d1
      cases q : dctD x h1 with
      | none => simp only [q] at o; exact o.elim
      | some ks =>
        simp only [q] at o
        obtain ⟨n, vs, rfl, hn, rfl, e1, e2, rk⟩ := dctD_ok p1.rel d1 q
        refine ⟨m1 n, vs, rfl, e2, m1, r, h1, p1.rel, p1.s rs, ?_⟩
        rcases OutA.bindR o with ⟨ds, h2, e, o⟩ | ⟨c, fs, h2, e, o⟩
        · rw [e]
          intro m2 H2 ws p2 d2
          exact o m2 H2 _ (p1.trans p2) (relds_app (p2.ds (RelKs.vals rk)) d2)
        · rw [e]; exact OutX.later p1 o
    · rw [e]; exact o
end
end Py

set_option Elab.async false
set_option linter.all false
set_option maxRecDepth 100000
/-! Own layer: range(a, b, -1). -/
namespace Py
open PySem PySem.Spec PyProof.Rows L2
def rangeDn (a b : Int) : List D := (List.range (a - b).toNat).map fun k => .int (a + (k : Nat) * (-1))
def iRngD (a b c : EX) : IX := fun r h => (a r h).bind fun d h1 => (b r h1).bind fun e h2 => (c r h2).bind fun f h3 => match d, e, f with
  | .int i, .int j, .int k => if small62 i = true ∧ small62 j = true ∧ k = -1 then .ok (.its (rangeDn i j)) h3 else .stuck
  | _, _, _ => .stuck
section
variable {X : Cx} {G : Gam} {E : XK} {tg : Expr}
end
end Py

set_option Elab.async false
set_option linter.all false
set_option maxRecDepth 100000
set_option maxHeartbeats 3000000
/-! Own layer: exceptions of the program's own classes, over any built-in base. -/
namespace Py
open PySem L2 PySem.Spec PyProof.Rows
/-- what is asked of the built-in class under an own one -/
structure BaseX (tl : List Value) (newId : String) : Prop where
  ok : ∃ B initId, ExcBaseFacts B newId initId tl ∧ PySem.StoreFacts B tl "object.__setattr__" "object"
theorem base_VE : BaseX [.type "ValueError", .type "Exception", .type "BaseException", .type "object"] "ValueError.__new__" := ⟨_, _, PySem.F.excBase_ValueError, PySem.F.store_ValueError⟩
theorem base_RT : BaseX [.type "RuntimeError", .type "Exception", .type "BaseException", .type "object"] "RuntimeError.__new__" := ⟨_, _, PySem.F.excBase_RuntimeError, PySem.F.store_RuntimeError⟩
/-- an own class of errors -/
structure ExC (K : PySem.W.Frag) (C : Addr) : Prop where
  base : ∃ tl newId, BaseX tl newId ∧ PySem.W.excInitIn K C tl newId = true ∧ PySem.W.excOver K C tl = true
  dict : PySem.W.hasDictIn K C = true
  put : PySem.W.findIn K (.ref C) "__setattr__" = some (some (.builtin "object.__setattr__"))
  sub : PySem.W.subIn K (.ref C) (.type "BaseException") = some true
  typ : PySem.W.typeIn K (.ref C) = some (.type "type")
  keeps : PySem.W.keepIn K (.ref C) = true
section
open PySem.Builtin PySem.Builtin.ObjectAttr
variable {prog : Program} {w : World} {A : Around} {R : Result → Shared → Prop} {hp : Heap} {g : Array GenState} {d : Drawn} {t : Nat} {os : OsState}
/-- the first field of an exception that has no dict -/
theorem osa_first {K : PySem.W.Frag} {nm : Str} {tok : Tok} {val : Value} {x C t1 : Addr} (T : ExC K C) (X : K.In hp)
    (hx : hp.get? x = some ({ cls := .ref C, dict := none, data := .fields #[.ref t1, .none, .none, .none, .bool false, .none] } : Obj)) (ha : PySem.W.takerIn K C nm = some none)
    (go : ∀ h' tk' dx, (∀ b o, b ≠ x → hp.get? b = some o → h'.get? b = some o) → hp.objs.size ≤ dx → dx ≠ x →
      h'.get? x = some ({ cls := .ref C, dict := some dx, data := .fields #[.ref t1, .none, .none, .none, .bool false, .none] } : Obj) →
      h'.Ns1 dx (fun y => if y = nm then some val else none) → R (.ok (.ret .none)) ⟨h', g, d, tk', os⟩) :
    codeAny (model prog w) A (.call (.builtin "object.__setattr__") ⟨[.ref x, .str nm tok, val], []⟩) R ⟨hp, g, d, t, os⟩ := by
  obtain ⟨tl, newId, ⟨B, initId, F, SF⟩, _, ho⟩ := T.base
  refine PySem.W.osa_openX (od := none) SF X ⟨hx, rfl, rfl, trivial⟩ ho ha fun b => ?_
  obtain ⟨cd, hc, hd⟩ := PySem.W.any_some T.dict
  have ne : x ≠ hp.objs.size := Nat.ne_of_lt (Heap.lt_size hx)
  refine wpAny_bind (wpAny_pure (wpAny_bind (PySem.W.instanceDict_exc hx (PySem.W.looks_clsIn X hc) hd ?_)))
  show wpAny _ _ (storeInDict hp.objs.size (.str nm tok) nm val) _ _ _
  refine PySem.HandSPX.store_in_new ?_ fun h' tk' hn sb => ?_
  · exact ⟨_, #[], _, (Heap.get?_update_ne _ _ _ _ ne.symm).trans (Heap.get?_push_at rfl rfl), rfl, fun e he => absurd he (by simp), fun _ => rfl⟩
  · refine go h' tk' hp.objs.size (fun b o nb e => ?_) (Nat.le_refl _) ne.symm ?_ hn
    · have l : b ≠ hp.objs.size := Nat.ne_of_lt (Heap.lt_size e)
      exact (sb.2 b l).trans ((Heap.get?_update_ne _ _ _ _ nb).trans (Heap.get?_push_of_some _ e))
    · exact (sb.2 x ne).trans (Heap.get?_update_self _ (Heap.get?_push_of_some _ hx) rfl)
/-- a further field -/
theorem osa_later {K : PySem.W.Frag} {nm : Str} {tok : Tok} {val : Value} {x C t1 dx : Addr} {was : Str → Option Value} {few : List Str} (T : ExC K C) (X : K.In hp)
    (hx : hp.get? x = some ({ cls := .ref C, dict := some dx, data := .fields #[.ref t1, .none, .none, .none, .bool false, .none] } : Obj)) (hns : hp.Ns1 dx was) (hw : Within was few) (hz : few.length ≤ 1000) (ha : PySem.W.takerIn K C nm = some none)
    (go : ∀ h' tk', (∀ b o, b ≠ dx → hp.get? b = some o → h'.get? b = some o) → h'.Ns1 dx (fun y => if y = nm then some val else was y) → R (.ok (.ret .none)) ⟨h', g, d, tk', os⟩) :
    codeAny (model prog w) A (.call (.builtin "object.__setattr__") ⟨[.ref x, .str nm tok, val], []⟩) R ⟨hp, g, d, t, os⟩ := by
  obtain ⟨oD, esD, epD, hoD, _, _⟩ := hns.count hw
  obtain ⟨tl, newId, ⟨B, initId, F, SF⟩, _, ho⟩ := T.base
  refine PySem.W.osa_openX (od := some oD) SF X ⟨hx, rfl, rfl, hoD⟩ ho ha fun b => ?_
  obtain ⟨cd, hc, hd⟩ := PySem.W.any_some T.dict
  refine wpAny_bind (wpAny_pure (wpAny_bind (wpAny_bind (wpAny_loadPart hx (wpAny_bind ((PySem.W.looks_clsIn X hc).here ?_))))))
  rw [hd]
  apply wpAny_pure (a := some dx)
  show wpAny _ _ (storeInDict dx (.str nm tok) nm val) _ _ _
  refine PySem.OEX.store_in_old hns hw hz fun h' tk' hn sb => ?_
  exact go h' tk' (fun b o nb e => (sb.2 b nb).trans e) hn
end
end Py

set_option Elab.async false
set_option linter.all false
set_option maxRecDepth 100000
set_option maxHeartbeats 3000000
/-! Own layer: self.f = v of an exception that is being made; such a def; the making; raise. -/
namespace Py
open PySem L2 PySem.Spec PyProof.Rows
section
variable {X : Cx} {pins : List (Addr × Obj)} {σ : L2.St} {H : Hp} {s : Shared} {a C dx : Addr} {f : Str} {y : V} {u : Value} {ff : List (Str × V)} {Q : Unit → Shared → Prop} {E : Value → Shared → Prop} {A : Around}
theorem setx_new (T : ExC X.K C) (I : Inv X pins σ H s) (e : H a = some (exo a C none)) (ht : PySem.W.takerIn X.K C f = some none) (ry : RelV y u)
    (goal : ∀ dx s', H dx = none → dx ≠ a → Inv X pins σ (upd (upd H dx (exd dx [(f, y)])) a (exo a C (some dx))) s' → Q () s') : wpAny (model X.prog X.w) A (setAttr (.ref a) f u) Q E s := by
  obtain ⟨tq, hx0⟩ := exo_at I.hok e
  obtain ⟨hp0, g, d, t, os⟩ := s
  refine PySem.W.set_plain I.kIn (ox := { cls := .ref C, dict := none, data := .fields #[.ref tq, .none, .none, .none, .bool false, .none] }) (od := none) ⟨hx0, rfl, rfl, trivial⟩ T.put (osa_first T I.kIn hx0 ht fun h' tk' dx k dn dne hx hn => ?_)
  have fresh : H dx = none := I.hok.fresh dn
  have offA : ∀ {b : Addr}, H b = none → b ≠ a := by intro b n z; rw [z, e] at n; exact nomatch n
  have offD : ∀ {b : Addr} {o : Obj}, hp0.get? b = some o → b ≠ dx := fun q => Nat.ne_of_lt (Nat.lt_of_lt_of_le (Heap.lt_size q) dn)
  have offK : ∀ {b : Addr} {o : HO}, H b = some o → b ≠ dx := by intro b o q z; rw [z, fresh] at q; exact nomatch q
  have offE : ∀ {b : Addr} {o : HO}, H b = some o → exo a C none ≠ o → b ≠ a := by intro b o q n z; rw [z, e] at q; exact n (Option.some.inj q)
  have same : ∀ {b : Addr}, b ≠ a → b ≠ dx → upd (upd H dx (exd dx [(f, y)])) a (exo a C (some dx)) b = H b := fun n1 n2 => by rw [upd_ne n1, upd_ne n2]
  refine goal dx _ fresh dne (I.un (t' := tk') (h' := h') ?_ fun b o q => ?_)
  · constructor
    · exact fun b o q n _ _ => k b o (offA n) q
    · exact fun b o q n _ _ => ⟨o.slots, k b o (offA n) q⟩
    · exact fun b o q n _ => by rw [same (offA n) (offD q)]; exact n
    · intro b o q _
      rcases Decidable.em (b = a) with z | z
      · exact ⟨_, by rw [z]; exact hx⟩
      · exact ⟨o, k b o z q⟩
    · exact fun b xs q => by rw [same (offE q exo_tup) (offK q)]; exact q
    · exact fun b o v q => by rw [same (offE q exo_frz) (offK q)]; exact q
    · exact fun b ps q => ⟨#[], by rw [same (offE q exo_tbl) (offK q), q]; simp⟩
  · rcases Decidable.em (b = a) with z | z
    · subst z; rw [upd_same] at q; cases q; exact exo_ok hx
    · rw [upd_ne z] at q
      rcases Decidable.em (b = dx) with z2 | z2
      · subst z2; rw [upd_same] at q; cases q
        exact exd_ok hn (relO_put (fs := []) ry fun _ => True.intro)
      · rw [upd_ne z2] at q
        refine (I.hok b o q).stay (fun c v hc w => k c v ?_ w) (fun c hc => ?_) (fun c xs hc => ?_)
        · rcases hc with hc | hc
          · rw [hc]; exact z
          · exact offE hc exo_own
        · rw [same (offE hc exo_own) (offK hc)]; exact hc
        · rw [same (offE hc exo_tup) (offK hc)]; exact hc
theorem setx_old (T : ExC X.K C) (I : Inv X pins σ H s) (e : H a = some (exo a C (some dx))) (eD : H dx = some (exd dx ff)) (hl : ff.length ≤ 900) (ht : PySem.W.takerIn X.K C f = some none) (ry : RelV y u)
    (goal : ∀ s', Inv X pins σ (upd H dx (exd dx ((f, y) :: ff))) s' → Q () s') : wpAny (model X.prog X.w) A (setAttr (.ref a) f u) Q E s := by
  obtain ⟨tq, hx0⟩ := exo_at I.hok e
  obtain ⟨mW, nsx, rl⟩ := exd_at I.hok eD
  have win := within_of rl
  obtain ⟨hp0, g, d, t, os⟩ := s
  obtain ⟨od0, _, _, hd0, _, _⟩ := nsx.count win
  refine PySem.W.set_plain I.kIn (ox := { cls := .ref C, dict := some dx, data := .fields #[.ref tq, .none, .none, .none, .bool false, .none] }) (od := some od0) ⟨hx0, rfl, rfl, hd0⟩ T.put
    (osa_later T I.kIn hx0 nsx win (by rw [List.length_map]; omega) ht fun h' tk' k hn => ?_)
  refine goal _ (I.write (t' := tk') (x := dx) (e := dx) (o := exd dx ((f, y) :: ff)) (by rw [eD]; exact True.intro) (.inl rfl) k ?_ (exd_ok hn (relO_put ry rl)))
  obtain ⟨o, _, _, z, _⟩ := hn
  exact ⟨o, z⟩
end
/-- self.f = e, self an exception that is being made -/
def tXset (K : PySem.W.Frag) (f : Str) (to te : TE) : TS := fun D σ H => te σ H fun y H1 => to σ H1 fun x Hb => ∃ a C : Addr, x = .ref a ∧ ExC K C ∧ PySem.W.takerIn K C f = some none ∧
  ((Hb a = some (exo a C none) ∧ ∀ dx, Hb dx = none → dx ≠ a → D.nx σ (upd (upd Hb dx (exd dx [(f, y)])) a (exo a C (some dx)))) ∨
    ∃ (dx : Addr) (ff : List (Str × V)), Hb a = some (exo a C (some dx)) ∧ Hb dx = some (exd dx ff) ∧ ff.length ≤ 900 ∧ D.nx σ (upd Hb dx (exd dx ((f, y) :: ff))))
theorem ps_xset {X : Cx} {o e : Expr} {to te : TE} {f : Str} {p' pos : Pos} (hx0 : PE X o to) (sh : PE X e te) (hs : swapsWith e (some (.Attribute o f p')) pos.line X.env = pure false := by rfl) : PS X (.Assign [.Attribute o f p'] e pos) (tXset X.K f to te) := by
  refine ⟨fun pins s σ H D I goal => plainObj_wpAny_Assign_Attribute (thn (sh.run pins s σ H _ I goal) fun v s1 ⟨y, H1, I1, r1, q1⟩ => thn (hx0.run pins s1 σ H1 _ I1 q1) fun u s2 ⟨x, Hb, I2, rv2, a, C, ex, T, ht, q⟩ => ?_) hs⟩
  subst ex
  obtain rfl : u = Value.ref a := rv2
  rcases q with ⟨eA, q⟩ | ⟨dx, ff, eA, eD, hl, q⟩
  · exact setx_new T I2 eA ht r1 fun dx s' n ne J => ⟨σ, _, J, q dx n ne⟩
  · exact setx_old T I2 eA eD hl ht r1 fun s' J => ⟨σ, _, J, q⟩
/-! ### def __init__(self, v): self.f = v -/
def spX1 (K : PySem.W.Frag) (f : Str) : Sp := fun vs H Q _ => ∃ (a C : Addr) (y : V), vs = [.ref a, y] ∧ ExC K C ∧ PySem.W.takerIn K C f = some none ∧ H a = some (exo a C none) ∧ ∀ dx, H dx = none → dx ≠ a → Q .non (upd (upd H dx (exd dx [(f, y)])) a (exo a C (some dx)))
theorem fn_x1 {P : Program} {w : World} {K : PySem.W.Frag} {mg : Str → Option Value} {base : Heap} {qual : Str} {params : Arguments} {scope : Scope} {dvs : List V} {kws : List (Str × V)} {fa : Addr} {fd : FuncData} {f sn vn : Str} {p1 p2 p' pos : Pos}
    (F : FunD K "__init__" qual params [.Assign [.Attribute (.Name sn p1) f p'] (.Name vn p2) pos] scope dvs kws fa fd) (S : FnScope [sn, vn] [sn, vn] scope) (v1 : Vis scope sn) (v2 : Vis scope vn)
    (d1 : (sn == ("__debug__" : Str)) = false := by decide) (d2 : (vn == ("__debug__" : Str)) = false := by decide) (c1 : (sn == ("__classdict__" : Str)) = false := by decide) (c2 : (vn == ("__classdict__" : Str)) = false := by decide) :
    FnOk P w K mg base CX0 1 fa fd [sn, vn] (spX1 K f) := by
  obtain ⟨oc, od, dV, kv, doc, pm, an, cdv, ct, sl, rfl, lk, hcd, _, _⟩ := F.ex
  refine fn_of (N := [sn, vn]) lk hcd S (fun vs H Q E ⟨a, C, y, e, _⟩ => by rw [e]; rfl) fun A outer s H vs Q E hr hsp => ?_
  obtain ⟨a, C, y, rfl, T, ht, eA, q⟩ := hsp
  refine ⟨_, pss_one (ps_xset (pe_var (i := 0) rfl v1 d1 c1) (pe_var (i := 1) rfl v2 d2 c2)), ?_⟩
  exact ⟨y, rfl, .ref a, rfl, a, C, rfl, T, ht, .inl ⟨eA, q⟩⟩
/-! ### the making -/
def tMkX (C : Addr) (sp : Sp) (ta : TA) : L2.St → Hp → XK → Prop := fun σ H Q => ta σ H fun vs H1 => vs.length ≤ 1000 ∧ ∀ a, H1 a = none → sp (.ref a :: vs) (upd H1 a (exo a C none))
  (fun v Hb => v = .non ∧ ∃ (d : Addr) (ff : List (Str × V)), Hb a = some (exo a C (some d)) ∧ Hb d = some (exd d ff) ∧ H1 d = none ∧ Q (.ref C) (some d) (upd (del Hb a) d (.xd ff))) (fun _ _ _ => False)
theorem pmk_x {X : Cx} {x : Str} {C fI : Addr} {k : Nat} {fd : FuncData} {ps : List Str} {sp : Sp} {e : Expr} {es : List Expr} {ta : TA} {p pos : Pos} (T : ExC X.K C) (ini : PySem.W.findIn X.K (.ref C) "__init__" = some (some (.ref fI))) (tI : PySem.W.typeIn X.K (.ref fI) = some (.type "function"))
    (F1 : FnOk X.prog X.w X.K X.mg X.base CX0 k fI fd ps sp) (hr : Room (k + 1) X.A) (hb : Binds X.K fd ps []) (gl : Gl X x) (gm : X.mg x = some (.ref C)) (ha : PA X (e :: es) ta)
    (ndb : (x == ("__debug__" : Str)) = false := by decide) (sh : starEach (e :: es) X.env = (false, eval e X.env) :: starEach es X.env := by rfl) (pl : (backTo pos (starEach es X.env)).any (·.1) = false := by rfl) :
    PMk X (.Call (.Name x p) (e :: es) [] pos) (tMkX C sp ta) := by
  intro pins s σ H Q I goal
  obtain ⟨tl, newId, ⟨B, initId, FB, _⟩, hin, _⟩ := T.base
  refine wpAny_Call_Name_kw (ld_glob I gl gm ?_ ndb)
  refine PySem.W.callWith_K (h₀ := X.base) I.ok.mod.kin T.keeps (thn (ha.run pos pins s σ H _ I goal) fun uu s1 ⟨vs, H1, I1, r1, hz, q1⟩ => ⟨I1.kIn, ?_⟩) sh pl
  show wpAny _ _ (call (.ref C) uu) _ _ _
  obtain ⟨hp0, g, dn0, tk, os⟩ := s1
  obtain ⟨nm, N, qn, bs, bm, hdct, sn, sub, ab, col, dd, k0, k1, k2, k3, k5, hC, hbm⟩ := PySem.W.excInit_of I1.kIn hin
  have hn : H1 (hp0.objs.size + 1) = none := I1.hok.fresh (Nat.le_succ _)
  have hy := q1 (hp0.objs.size + 1) hn
  have kp : ∀ b o, hp0.get? b = some o → ((hp0.push (PySem.W.kdv_tup uu)).push (PySem.HandSPX.excO C hp0.objs.size)).get? b = some o := fun b o e => Heap.get?_push_of_some _ (Heap.get?_push_of_some _ e)
  have got : ((hp0.push (PySem.W.kdv_tup uu)).push (PySem.HandSPX.excO C hp0.objs.size)).get? (hp0.objs.size + 1) = some (PySem.HandSPX.excO C hp0.objs.size) := by heap_get
  have I2 := I1.laid (t' := tk) (a := hp0.objs.size + 1) (o := exo (hp0.objs.size + 1) C none) kp (Nat.le_succ _) (exo_ok got)
  have rv2 : Vals (V.ref (hp0.objs.size + 1) :: vs) (Value.ref (hp0.objs.size + 1) :: uu) := .cons rfl r1
  have hl : (Value.ref (hp0.objs.size + 1) :: uu).length = ps.length := by
    rw [← rv2.length]; exact F1.len _ _ _ _ hy
  have fewus : uu.length ≤ sizeLine := by
    rw [← Paired.length r1, sizeLine_eq]; omega
  have hb2 := hb _ (Value.ref (hp0.objs.size + 1) :: uu) I2.kIn (by rw [List.append_nil]; exact hl)
  rw [List.append_nil] at hb2
  refine wpAny_call (PySem.HandSPX.call_own FB hbm hC (PySem.W.looks_findIn I1.kIn ini) (fun self => PySem.W.bind_fn I1.kIn self tI) fewus
    (codeAny_mono (F1.run _ X.stack _ _ ⟨Value.ref (hp0.objs.size + 1) :: uu, []⟩ (Value.ref (hp0.objs.size + 1) :: uu) _ _ (fun _ _ _ => False) (hr.make C uu []) (I2.env0.make C uu []) hb2 rv2 hy) fun r s' hz' => ?_))
  cases r with
  | error er => exact (show False from hz').elim
  | ok fl =>
    cases fl with
    | ret u =>
      obtain ⟨v, Hb, os2, bare2, un2, hok2, rv, ev, d, ff, eA, eD, hd1, q2⟩ := hz'
      subst ev
      obtain ⟨hb2, gg2, d2, t2, o'⟩ := s'
      exact ⟨rv, mk_end (raises_own T.sub T.typ) I1 (Nat.le_succ _) kp un2 hok2 os2 bare2 eA eD hd1 q2⟩
    | next => exact False.elim hz'
    | brk => exact False.elim hz'
    | cont => exact False.elim hz'
end Py

set_option Elab.async false
set_option linter.all false
set_option maxRecDepth 100000
set_option maxHeartbeats 3000000
/-! Own layer: raise; what may leave a def; try with several clauses. -/
namespace Py
open PySem L2 PySem.Spec PyProof.Rows
/-! ### raise -/
def sRaise1 (c i : Nat) (fa : EX) : SX := fun r h => (fa r h).to fun d h1 => .exc c [(i, d)] h1
def sRaise0 (c : Nat) : SX := fun _ h => .exc c [] h
section
variable {X : Cx} {G : Gam} {E : XK} {ee : Expr} {fa : EX} {x : Str} {p pos rpos : Pos}
theorem zRaise1 {c i : Nat} {fI : Addr} {k : Nat} {fd : FuncData} {sn vn : Str} (hc : X.calm = true) (tk : Takes X (fun cls d _ H => E cls d H)) (T : ExC X.K (G.cl c)) (hi : i < G.top) (ht : PySem.W.takerIn X.K (G.cl c) (G.nm i) = some none)
    (iC : PySem.W.findIn X.K (.ref (G.cl c)) "__init__" = some (some (.ref fI))) (tI : PySem.W.typeIn X.K (.ref fI) = some (.type "function")) (F1 : FnOk X.prog X.w X.K X.mg X.base CX0 k fI fd [sn, vn] (spX1 X.K (G.nm i)))
    (hr : Room (k + 1) X.A) (bod : Binds X.K fd [sn, vn] []) (gl : Gl X x) (hmm : X.mg x = some (.ref (G.cl c))) (ha : PE X ee (tE G X.K E fa))
    (hdb : (x == ("__debug__" : Str)) = false := by decide) (hx : starEach [ee] X.env = [(false, eval ee X.env)] := by rfl) :
    PS X (.Raise (some (.Call (.Name x p) [ee] [] pos)) none rpos) (tS G X.K E (sRaise1 c i fa)) := by
  refine PS_mono (ps_raise hc tk (pmk_x T iC tI F1 hr bod gl hmm (pa_cons ha pa_nil hx) hdb hx)) ?_
  rintro Z σ H ⟨m, r, h, rh, rs, o⟩
  refine ⟨m, r, h, rh, rs, ?_⟩
  rcases OutS.toR o with ⟨d, h1, ee, o⟩ | ⟨c', fs, h1, ee, o⟩
  · rw [ee]
    intro m1 H1 v p1 d1
    refine ⟨by simp, fun a na => ⟨a, G.cl c, v, rfl, T, ht, upd_same, fun dx n ne => ?_⟩⟩
    have nd : H1 dx = none := by rw [upd_ne ne] at n; exact n
    refine ⟨rfl, dx, [(G.nm i, v)], upd_same, by rw [upd_ne ne, upd_same], nd, ?_⟩
    have eq : upd (del (upd (upd (upd H1 a (exo a (G.cl c) none)) dx (exd dx [(G.nm i, v)])) a (exo a (G.cl c) (some dx))) a) dx (.xd [(G.nm i, v)]) = upd H1 dx (.xd [(G.nm i, v)]) := by
      funext b
      rcases Decidable.em (b = dx) with z | z
      · rw [z, upd_same, upd_same]
      · rw [upd_ne z, upd_ne z]
        rcases Decidable.em (b = a) with z2 | z2
        · rw [z2, del_same, na]
        · rw [del_ne z2, upd_ne z2, upd_ne z, upd_ne z2]
    rw [eq]
    exact o m1 _ (some dx) (p1.trans (p1.rel.newT nd)) (.inr ⟨dx, _, rfl, upd_same, .cons hi (d1.mono (fun _ _ => rfl) (Nat.le_refl _) (TK.upd_new nd)) .nil⟩)
  · rw [ee]; exact o
/-- an own class without own __init__, made of nothing -/
theorem pmk_x0 {C : Addr} {tl : List Value} {newId : String} (B : BaseX tl newId) (q : PySem.W.excIn X.K C tl newId = true) (gm : X.mg x = some (.ref C)) (kC : PySem.W.keepIn X.K (.ref C) = true) (r : Raises X (.ref C)) (gl : Gl X x)
    (hdb : (x == ("__debug__" : Str)) = false := by decide) : PMk X (.Call (.Name x p) [] [] pos) (fun _ H Q => Q (.ref C) none H) := by
  intro pins s σ H Q I h
  obtain ⟨BN, initId, FB, _⟩ := B.ok
  refine wpAny_Call_Name_kw (ld_glob I gl gm ?_ hdb)
  refine PySem.W.callWith_K0 (first := []) I.kIn kC ?_
  show wpAny _ _ (call (.ref C) []) _ _ _
  obtain ⟨bm, N, nm, qn, bs, hdct, sn, sub, ab, col, dd, k0, k1, k2, k3, k5, mN, hC, hN, hni, T⟩ := exc_obj I.kIn q
  refine wpAny_call_exc_subT FB T hC hN hni (fun h' ee hmm => ?_) (by show 0 ≤ sizeLine; exact Nat.zero_le _)
  exact mk_of I hmm r h (I.hok.gone hmm.new)
theorem zRaise0 {c : Nat} {tl : List Value} {newId : String} (hc : X.calm = true) (tk : Takes X (fun cls d _ H => E cls d H)) (B : BaseX tl newId) (q : PySem.W.excIn X.K (G.cl c) tl newId = true)
    (kC : PySem.W.keepIn X.K (.ref (G.cl c)) = true) (sC : PySem.W.subIn X.K (.ref (G.cl c)) (.type "BaseException") = some true) (tC : PySem.W.typeIn X.K (.ref (G.cl c)) = some (.type "type")) (gl : Gl X x) (hmm : X.mg x = some (.ref (G.cl c)))
    (hdb : (x == ("__debug__" : Str)) = false := by decide) : PS X (.Raise (some (.Call (.Name x p) [] [] pos)) none rpos) (tS G X.K E (sRaise0 c)) := by
  refine PS_mono (ps_raise hc tk (pmk_x0 B q hmm kC (raises_own sC tC) gl hdb)) ?_
  rintro Z σ H ⟨m, r, h, rh, rs, o⟩
  exact o m H none (Post.refl rh) (.inl ⟨rfl, rfl⟩)
end
/-! ### a def that may let an error out -/
theorem takes_cx {P : Program} {w : World} {K : PySem.W.Frag} {mg : Str → Option Value} {base : Heap} {N : List Str} {qual : Str} {scope : Scope} {f : Addr} {cdv : Value} {A : Around} {outer : List Env} {s : Shared} {H : Hp} {E : XK} :
    Takes (cxOf (L2.CX P w) P w K mg base N qual scope f cdv A outer s H E) (fun cls d _ H' => E cls d H') := takes_of rfl rfl rfl rfl
theorem passesX {X : Cx} {E : XK} (tk : Takes X (fun cls d _ H => E cls d H)) : Passes (L2.CX X.prog X.w) X E := passes_call tk fun _ _ _ _ h => h
/-! ### try: several clauses, with names or not; all that comes is caught -/
def endAt (Z : Ends) : Option Nat → Ends
  | none => Z
  | some i => { nx := fun σ' H' => Z.nx (σ'.set i none) H', rt := Z.rt, bk := fun σ' H' => Z.bk (σ'.set i none) H', ct := fun σ' H' => Z.ct (σ'.set i none) H' }
def setAt (σ : L2.St) : Option Nat → Addr → L2.St
  | none, _ => σ
  | some i, a => σ.set i (some (.ref a))
abbrev Cl := Value × Option Nat × (Addr → Value → Option Addr → TS)
def wCls (K : PySem.W.Frag) (Z : Ends) : List Cl → WX
  | [] => fun _ _ _ _ => False
  | (c, oi, ts) :: l => fun cls d σ H => ∃ b, PySem.W.exmOne K cls c = some b ∧ (b = true → ∀ a, H a = none → ts a cls d (endAt Z oi) (setAt σ oi a) H) ∧ (b = false → wCls K Z l cls d σ H)
inductive ClsOk (X : Cx) : List ExceptHandler → List Cl → Prop
  | nil : ClsOk X [] []
  | plain {x : Str} {c : Value} {ts : Addr → Value → Option Addr → TS} {b₀ : Stmt} {suite : List Stmt} {np pos' : Pos} {cls' : List ExceptHandler} {l : List Cl} (hc : Names X x c)
      (hsu : ∀ (a : Addr) (ob : Obj) (cls : Value) (d : Option Addr) (pn : List (Addr × Obj)), Zc cls d ob → (∃ vs, ob.data = .fields vs) → PSs (X.suite a ((a, ob) :: pn)) (b₀ :: suite) (ts a cls d)) (r : ClsOk X cls' l) :
      ClsOk X (.ExceptHandler (some (.Name x np)) none (b₀ :: suite) pos' :: cls') ((c, none, ts) :: l)
  | named {x n : Str} {i : Nat} {c : Value} {ts : Addr → Value → Option Addr → TS} {b₀ : Stmt} {suite : List Stmt} {np pos' : Pos} {cls' : List ExceptHandler} {l : List Cl} (hN : X.N.Nodup) (hi : X.N[i]? = some n) (hln : X.env.kindOf n = some .local) (hc : Names X x c)
      (hsu : ∀ (a : Addr) (ob : Obj) (cls : Value) (d : Option Addr) (pn : List (Addr × Obj)), Zc cls d ob → (∃ vs, ob.data = .fields vs) → PSs (X.suite a ((a, ob) :: pn)) (b₀ :: suite) (ts a cls d)) (r : ClsOk X cls' l) :
      ClsOk X (.ExceptHandler (some (.Name x np)) (some n) (b₀ :: suite) pos' :: cls') ((c, some i, ts) :: l)
section
variable {X : Cx} {body : List Stmt} {h₀ : ExceptHandler} {cls' : List ExceptHandler} {l : List Cl} {pos : Pos} {tb : WX → TS}
/-- the clauses, met by an exception that stands on the ground -/
theorem met {B : Heap} {a : Addr} {cls : Value} {d : Option Addr} {pins : List (Addr × Obj)} {σ : L2.St} {H : Hp} {Z : Ends} {s : Shared} (ok : X.Ok) (hs : X.stack = X.env :: X.outer) (hf : X.env.frame = some X.env.locals)
    (back : ∀ {h4 : Heap}, HandSPX.FlyingZ B (X.env :: X.outer) a (Zc cls d) h4 → s.heap.UpToSlots h4 → Inv X pins σ H { s with heap := h4 }) (fly : HandSPX.FlyingZ B (X.env :: X.outer) a (Zc cls d) s.heap) (na : H a = none) (nL : a ≠ X.env.locals) (nF : a ∉ X.fs) :
    ∀ {cls' : List ExceptHandler} {l : List Cl}, ClsOk X cls' l → wCls X.K Z l cls d σ H → wpAny (model X.prog X.w) X.A (handleBy (.ref a) X.env cls') (SP X pins Z) X.xe s := by
  have J0 : Inv X pins σ H s := back fly (fun b o ee n => ⟨o.slots, ee⟩)
  obtain ⟨ob, vs, hx, hz, hd⟩ := fly.there
  have S0 := J0.suite hx hd na nL nF
  have LT : PySem.W.Looks (model X.prog X.w) s.heap (typeOf (.ref a)) cls := fun A Q E s k q => wpAny_typeOf_ref (k _ _ hx) (by rw [hz.1]; exact q)
  have test : ∀ {x : Str} {np : Pos} {c : Value} {Q : Value → Shared → Prop} {E : Value → Shared → Prop}, Names X x c → Q c s → wpAny (model X.prog X.w) (X.A.mark (some (.ref a))) (eval (.Name x np) X.env) Q E s := by
    intro x np c Q E hc q
    obtain ⟨gl, ndb, hmm | ⟨hmm, hvv, nnn⟩⟩ := hc
    · exact ld_glob (X := X.suite a ((a, ob) :: (X.pn ++ pins))) S0 gl hmm q ndb
    · exact ld_blt (X := X.suite a ((a, ob) :: (X.pn ++ pins))) S0 gl hmm hvv q nnn ndb
  intro cls' l hk
  induction hk with
  | nil => exact fun w => w.elim
  | @plain x c ts b₀ suite np pos' cls' l hc hsu r ih =>
    rintro ⟨b, bod, yes, no⟩
    refine wpAny_handleBy_cons (codeAny_handlers_test (test hc ((PySem.W.exm_one (M := model X.prog X.w) J0.kIn LT bod).here ?_))) (by intro q; cases q)
    cases b with
    | false => exact ih (no rfl)
    | true =>
      refine codeAny_handlers_suite (HandSPX.lands_againZ fly fun h4 fly4 ut4 => ?_)
      obtain ⟨ob4, ws4, hx4, hc4, hd4'⟩ := fly4.there
      have S4 := (back fly4 ut4).suite hx4 hd4' na nL nF
      refine wpAny_mono ((hsu a ob4 cls d (X.pn ++ pins) hc4 ⟨_, hd4'⟩).run [] _ _ H _ S4 (yes rfl a na)) (fun f s6 hsp => ?_) (fun _ _ z => z.elim)
      cases f with
      | ret u => obtain ⟨v6, σ6, H6, S6, r6, q6⟩ := hsp; exact ⟨_, _, _, S6.unsuite ok, r6, q6⟩
      | next => obtain ⟨σ6, H6, S6, q6⟩ := hsp; exact ⟨_, _, S6.unsuite ok, q6⟩
      | brk => obtain ⟨σ6, H6, S6, q6⟩ := hsp; exact ⟨_, _, S6.unsuite ok, q6⟩
      | cont => obtain ⟨σ6, H6, S6, q6⟩ := hsp; exact ⟨_, _, S6.unsuite ok, q6⟩
  | @named x n i c ts b₀ suite np pos' cls' l hN hi hln hc hsu r ih =>
    rintro ⟨b, bod, yes, no⟩
    refine wpAny_handleBy_cons (codeAny_handlers_test (test hc ((PySem.W.exm_one (M := model X.prog X.w) J0.kIn LT bod).here ?_))) (by intro q; cases q)
    cases b with
    | false => exact ih (no rfl)
    | true =>
      refine codeAny_handlers_suite_as (HandSPX.lands_againZ fly fun h4 fly4 ut4 => ?_)
      obtain ⟨ob4, ws4, hx4, hc4, hd4'⟩ := fly4.there
      have S4 := (back fly4 ut4).suite hx4 hd4' na nL nF
      refine store_ok (X := X.suite a ((a, ob4) :: (X.pn ++ pins))) (v := .ref a) S4 hN hi (.inl hln) rfl (fun s5 S5 => ?_) (.inr hln)
      refine wpAny_mono ((hsu a ob4 cls d (X.pn ++ pins) hc4 ⟨_, hd4'⟩).run [] s5 _ H _ S5 (yes rfl a na)) (fun f s6 hsp => ?_) (fun _ _ z => z.elim)
      have gone : ∀ {σ6 : L2.St} {H6 : Hp} {Q : Shared → Prop}, Inv (X.suite a ((a, ob4) :: (X.pn ++ pins))) [] σ6 H6 s6 → (∀ s7, Inv X pins (σ6.set i none) H6 s7 → Q s7) →
          wpAny (model X.prog X.w) X.A (do bindName X.env n .none; unbindBehindTheSuite X.env n pos') (fun _ s7 => Q s7) X.xe s6 := fun S6 hq => gone_ok (S6.unsuite ok) hN hi hln hq
      cases f with
      | ret u => obtain ⟨v6, σ6, H6, S6, r6, q6⟩ := hsp; exact gone S6 fun s7 J7 => ⟨_, _, _, J7, r6, q6⟩
      | next => obtain ⟨σ6, H6, S6, q6⟩ := hsp; exact gone S6 fun s7 J7 => ⟨_, _, J7, q6⟩
      | brk => obtain ⟨σ6, H6, S6, q6⟩ := hsp; exact gone S6 fun s7 J7 => ⟨_, _, J7, q6⟩
      | cont => obtain ⟨σ6, H6, S6, q6⟩ := hsp; exact gone S6 fun s7 J7 => ⟨_, _, J7, q6⟩
theorem ps_tryA (hs : X.stack = X.env :: X.outer) (hf : X.env.frame = some X.env.locals)
    (bod : ∀ (W : WX) (pn : List (Addr × Obj)) (xz : Value → Shared → Prop), Takes (X.tr pn xz) W → PassesOwn (model X.prog X.w) X.A X.env xz → PSs (X.tr pn xz) body (tb W))
    (hh : ClsOk X (h₀ :: cls') l) : PS X (.Try body (h₀ :: cls') [] [] pos) (fun Z σ H => tb (wCls X.K Z l) Z σ H) := by
  refine ⟨fun pins s σ H Z I h => ?_⟩
  have ok := I.ok
  have fr0 : X.A.frames = some (X.env :: X.outer) := by rw [ok.frames, hs]
  refine wpAny_Try_except ?_
  refine wpAny_mono ((bod (wCls X.K Z l) (X.pn ++ pins) (fun ee s₁ => wpAny (model X.prog X.w) X.A (noteFrame ee X.env) (fun _ s₂ => wpAny (model X.prog X.w) X.A (setFlight ee none) (fun _ s₃ =>
    wpAny (model X.prog X.w) X.A (handleBy ee X.env (h₀ :: cls')) (SP X pins Z) X.xe s₃) X.xe s₂) X.xe s₁) (fun u s' xx => ?_) PassesOwn.looking).run [] s σ H Z (I.toTry _) h) (fun f s1 hsp => ?_) (fun ee s1 hx => hx)
  · obtain ⟨a, B, sI, pins', σ', H', cls, d, rfl, J', nb, up, sk, na, os, ag, w⟩ := xx
    have J1 : Inv X pins σ' H' sI := J'.ofTry ok
    have sk' : Sky B (X.env :: X.outer) a (Zc cls d) X.env.locals s'.heap := by rw [← hs]; exact sk
    change wpAny _ X.A (noteFrame (.ref a) X.env) _ _ _
    refine Sky.land Zc.steady fr0 hf sk' fun h3 fly3 ut3 => ?_
    obtain ⟨ob3, vs3, hx3, hc3, hd3'⟩ := fly3.there
    have offF : a ∉ frs (X.env :: X.outer) := fun hmm => by
      obtain ⟨_, o', e', hnf⟩ := fly3.2.2.1.mem hmm
      rw [hx3] at e'; cases e'
      exact hnf _ hd3'
    refine met (B := B) (s := { s' with heap := h3 }) ok hs hf (fun {h4} fly4 ut4 => J1.landed nb fly4.1 ((up.trans ut3).trans ut4) os ag) fly3 na ?_ ?_ hh w
    · exact fun z => offF (List.mem_filterMap.mpr ⟨X.env, List.mem_cons_self, by rw [hf, z]⟩)
    · intro hmm
      obtain ⟨ee, hx, q⟩ := List.mem_filterMap.mp hmm
      exact offF (List.mem_filterMap.mpr ⟨ee, List.mem_cons_of_mem _ hx, q⟩)
  · cases f with
    | ret u => obtain ⟨v, σ', H', J', r, q⟩ := hsp; exact ⟨v, σ', H', J'.ofTry ok, r, q⟩
    | next => obtain ⟨σ', H', J', q⟩ := hsp; exact wpAny_execs_nil ⟨σ', H', J'.ofTry ok, q⟩
    | brk => obtain ⟨σ', H', J', q⟩ := hsp; exact ⟨σ', H', J'.ofTry ok, q⟩
    | cont => obtain ⟨σ', H', J', q⟩ := hsp; exact ⟨σ', H', J'.ofTry ok, q⟩
end
end Py

set_option Elab.async false
set_option linter.all false
set_option maxRecDepth 100000
set_option maxHeartbeats 3000000
/-! Own layer: try in the plain world, and its soundness; what a clause's suite reads of its exception. -/
namespace Py
open PySem L2 PySem.Spec PyProof.Rows
/-- a clause: which classes it takes, the slot of its name, its suite -/
abbrev Hd := (Nat → Option Bool) × Option Nat × (Nat → List (Nat × D) → SX)
def wipe (r : LS) : Option Nat → LS
  | none => r
  | some i => r.set i none
def wipeF (oi : Option Nat) : F → F
  | .nx r h => .nx (wipe r oi) h
  | .bk r h => .bk (wipe r oi) h
  | .ct r h => .ct (wipe r oi) h
  | .rt d h => .rt d h
  | _ => .stuck
def hdl : List Hd → Nat → List (Nat × D) → SX
  | [], _, _ => fun _ _ => .stuck
  | (mt, oi, b) :: l, c, fs => fun r h => match mt c with
    | some true => wipeF oi (b c fs (wipe r oi) h)
    | some false => hdl l c fs r h
    | none => .stuck
def sTry (b : SX) (l : List Hd) : SX := fun r h => match b r h with
  | .exc c fs h1 => hdl l c fs r h1
  | f => f
theorem RelS.wipe1 {K : PySem.W.Frag} {m : Nat → Addr} {N : Nat} {H : Hp} : ∀ {r : LS} {σ : L2.St} (i : Nat) (v : Option V), RelS K m N H r σ → RelS K m N H (r.set i none) (σ.set i v)
  | _, _, _, _, .nil => .nil
  | _, _, 0, _, .no q => .no q
  | _, _, 0, _, .yes _ q => .no q
  | _, _, i + 1, v, .no q => .no (RelS.wipe1 i v q)
  | _, _, i + 1, v, .yes d q => .yes d (RelS.wipe1 i v q)
theorem RelS.len {K : PySem.W.Frag} {m : Nat → Addr} {N : Nat} {H : Hp} : ∀ {r : LS} {σ : L2.St}, RelS K m N H r σ → r.length = σ.length
  | _, _, .nil => rfl
  | _, _, .no q => by simp [RelS.len q]
  | _, _, .yes _ q => by simp [RelS.len q]
section
variable {G : Gam} {K : PySem.W.Frag} {m m' : Nat → Addr} {N : Nat} {H H' : Hp} {h h' : LH}
theorem RelO.notX {a : Addr} {o : O} (r : RelO G K m N H a o) {vs : List (Str × V)} (e : H a = some (.xd vs)) : False := by
  cases o with
  | lst xs => obtain ⟨ws, h1, _⟩ := r; rw [e] at h1; exact nomatch h1
  | ins c fs => obtain ⟨dx, ws, h1, _⟩ := r; rw [e] at h1; exact nomatch h1
  | dct kv => obtain ⟨ws, h1, _⟩ := r; rw [e] at h1; exact nomatch h1
theorem ExcAt.on {fs : List (Nat × D)} {od : Option Addr} (rh : RelH G K m h H) (p : Post G K m h.length H m' h' H') (x : ExcAt G K m h.length H fs od) : ExcAt G K m' h'.length H' fs od := by
  rcases x with x | ⟨a, vs, rfl, e, r⟩
  · exact .inl x
  · refine .inr ⟨a, vs, rfl, p.fr a _ e (fun _ z => nomatch z) fun i l z => ?_, r.mono p.agr p.len p.tk⟩
    have := rh.obj i _ (List.getElem?_eq_getElem l)
    rw [z] at this
    exact this.notX e
end
/-- what a clause's suite is worth: a the exception, cls its class, d its dict -/
def tHd (G : Gam) (K : PySem.W.Frag) (mt : Nat → Option Bool) (oi : Option Nat) (b : Nat → List (Nat × D) → SX) : Addr → Value → Option Addr → TS := fun a cls d Z σ H =>
  ∃ c fs m r h, cls = .ref (G.cl c) ∧ mt c = some true ∧ RelH G K m h H ∧ RelS K m h.length H r σ ∧ ExcAt G K m h.length H fs d ∧ (∀ i, oi = some i → i < σ.length → σ[i]? = some (some (.ref a))) ∧ OutS G K (fun _ _ _ => False) m h.length H Z (b c fs r h)
def clOf (G : Gam) (K : PySem.W.Frag) (p : Value × Hd) : Cl := (p.1, p.2.2.1, tHd G K p.2.1 p.2.2.1 p.2.2.2)
section
variable {X : Cx} {G : Gam} {E : XK}
theorem out_wipe {K : PySem.W.Frag} {m : Nat → Addr} {N : Nat} {H : Hp} {Z : Ends} {oi : Option Nat} {f : F} (o : OutS G K E m N H Z (wipeF oi f)) : OutS G K (fun _ _ _ => False) m N H (endAt Z oi) f := by
  cases f with
  | nx r h' =>
    cases oi with
    | none => exact o
    | some i => exact fun m' H' s p q => o m' H' _ p (q.wipe1 i none)
  | rt d h' => cases oi <;> exact o
  | bk r h' =>
    cases oi with
    | none => exact o
    | some i => exact fun m' H' s p q => o m' H' _ p (q.wipe1 i none)
  | ct r h' =>
    cases oi with
    | none => exact o
    | some i => exact fun m' H' s p q => o m' H' _ p (q.wipe1 i none)
  | exc c fs h' => exact o.elim
  | stuck => exact o
/-! ### suites -/
variable {a : Addr} {oe : Obj} {cls : Value} {d : Option Addr} {pn : List (Addr × Obj)}
theorem hd_plain {suite : List Stmt} {mt : Nat → Option Bool} {oi : Option Nat} {b : SX} (hb : PSs (X.suite a ((a, oe) :: pn)) suite (tS G X.K (fun _ _ _ => False) b)) :
    PSs (X.suite a ((a, oe) :: pn)) suite (tHd G X.K mt oi (fun _ _ => b) a cls d) :=
  PSs_mono hb fun Z σ H ⟨c, fs, m, r, h, _, _, rh, rs, _, _, o⟩ => ⟨m, r, h, rh, rs, o⟩
/-- an expression of a suite, the exception's fields at hand -/
def tJ (G : Gam) (K : PySem.W.Frag) (c i : Nat) (fs : List (Nat × D)) (f : EX) (a : Addr) (cls : Value) (d : Option Addr) : TE := fun σ H Q =>
  ∃ m r h, cls = .ref (G.cl c) ∧ RelH G K m h H ∧ RelS K m h.length H r σ ∧ ExcAt G K m h.length H fs d ∧ (i < σ.length → σ[i]? = some (some (.ref a))) ∧ Out G K (fun _ _ _ => False) m h.length H Q (f r h)
def eXf (k : Nat) (fs : List (Nat × D)) : EX := fun _ h => match getA k fs with
  | some x => .ok x h
  | none => .stuck
theorem jLift {e : Expr} {f : EX} {c i : Nat} {fs : List (Nat × D)} (he : PE X e (tE G X.K (fun _ _ _ => False) f)) : PE X e (tJ G X.K c i fs f a cls d) :=
  PE_mono he fun σ H Q ⟨m, r, h, _, rh, rs, _, _, o⟩ => ⟨m, r, h, rh, rs, o⟩
/-- e.f -/
theorem jFld {c i k : Nat} {fs : List (Nat × D)} {n : Str} {p1 pos : Pos} (T : XfC X.K (G.cl c)) (hk : k < G.top) (hno : PySem.W.findIn X.K (.ref (G.cl c)) (G.nm k) = some none) (hz : Zc cls d oe) (hf : ∃ vs, oe.data = .fields vs) (hi : X.N[i]? = some n) (hln : Vis X.env.scope n)
    (h1 : (n == ("__debug__" : Str)) = false := by decide) (h2 : (n == ("__classdict__" : Str)) = false := by decide) (hb : attributeBase (.Name n p1) (G.nm k) X.env (eval (.Name n p1) X.env) = eval (.Name n p1) X.env := by rfl) :
    PE (X.suite a ((a, oe) :: pn)) (.Attribute (.Name n p1) (G.nm k) pos) (tJ G X.K c i fs (eXf k fs) a cls d) := by
  have base := pe_xf (X := X) (a := a) (pos := pos) (pn := pn) T hno hz hf (pe_var (X := X.suite a ((a, oe) :: pn)) (pos := p1) hi hln h1 h2) hb
  refine ⟨fun pins s σ H Q I t => base.run pins s σ H Q I ?_⟩
  obtain ⟨m, r, h, ec, rh, rs, ex, sl, o⟩ := t
  have il : i < σ.length := by rw [I.len]; exact (List.getElem?_eq_some_iff.mp hi).1
  refine ⟨.ref a, sl il, rfl, ec, ?_⟩
  unfold eXf at o
  cases g : getA k fs with
  | none => rw [g] at o; exact o.elim
  | some x =>
    rw [g] at o
    rcases ex with ⟨rfl, rfl⟩ | ⟨dd, vs, rfl, e, rf⟩
    · exact nomatch g
    · obtain ⟨v, l, rd⟩ := rf.get hk g
      exact ⟨dd, vs, v, rfl, e, l, o m H v (Post.refl rh) rd⟩
/-- a test of a suite -/
def tJT (G : Gam) (K : PySem.W.Frag) (c i : Nat) (fs : List (Nat × D)) (f : EX) (a : Addr) (cls : Value) (d : Option Addr) : TT := fun σ H Q =>
  ∃ m r h, cls = .ref (G.cl c) ∧ RelH G K m h H ∧ RelS K m h.length H r σ ∧ ExcAt G K m h.length H fs d ∧ (i < σ.length → σ[i]? = some (some (.ref a))) ∧ OutT G K (fun _ _ _ => False) m h.length H Q (f r h)
/-! ### the body of a try: one call that may let an error out -/
def CallS (X : Cx) (G : Gam) (E : L2.St → XK) (fv : Value) (op : KF) : Prop :=
  ∀ (pins : List (Addr × Obj)) (s : Shared) (σ : L2.St) (H : Hp) (us : List Value) (vs : List V) (Q : VK), Inv X pins σ H s → Vals vs us →
    (∃ m h ds, RelH G X.K m h H ∧ RelDs X.K m h.length H ds vs ∧ Out G X.K (E σ) m h.length H Q (op ds [] h)) → wpAny (model X.prog X.w) X.A (call fv us) (EP X pins σ Q) X.xe s
end
end Py

set_option Elab.async false
set_option linter.all false
set_option maxRecDepth 100000
set_option maxHeartbeats 3000000
/-! Own layer: small things for the printed texts. -/
namespace Py
open PySem L2 PySem.Spec PyProof.Rows
section
variable {X : Cx} {G : Gam} {E : XK}
/-- the clauses' classes -/
def HM (X : Cx) (G : Gam) (l : List (Value × Hd)) : Prop := ∀ p ∈ l, ∀ c k, p.2.1 c = some k → PySem.W.exmOne X.K (.ref (G.cl c)) p.1 = some k
theorem hm_nil : HM X G [] := fun _ z => nomatch z
theorem hm_cons {p : Value × Hd} {l : List (Value × Hd)} (a : ∀ c k, p.2.1 c = some k → PySem.W.exmOne X.K (.ref (G.cl c)) p.1 = some k) (r : HM X G l) : HM X G (p :: l) := fun q m => by
  rcases List.mem_cons.mp m with rfl | m
  · exact a
  · exact r q m
end
theorem binds_x {K : PySem.W.Frag} {x qual : Str} {params : Arguments} {body : List Stmt} {scope : Scope} {kws : List (Str × V)} {f : Addr} {fd : FuncData} {ps : List Str} (F : FunD K x qual params body scope [] kws f fd)
    (h : ∀ (kV doc pm : Value) (an : Option Addr) (cdv ct : Value) (us : List Value), us.length = ps.length → bindArgs (PySem.W.fnOf x qual params body scope .none kV doc pm an cdv ct) ⟨us, []⟩ = pure (ps.zip us)) : Binds K fd ps [] := fun s us _ hl => by
  rw [List.append_nil] at hl ⊢
  exact F.bindsA h s us hl
end Py

set_option Elab.async false
set_option linter.all false
set_option maxRecDepth 100000
set_option maxHeartbeats 4000000
/-! Own layer: what a clause's suite says of its error: its classes, its fields in lists. -/
namespace Py
open PySem L2 PySem.Spec PyProof.Rows PySem.Calls PySem.W
section
variable {prog : Program} {w : World} {A : Around} {E : Value → Shared → Prop} {s : Shared} {K : Frag} {x D : Addr} {ox : Obj} {od : Option Obj}
theorem look_bind {C : Addr} {n : Str} {a g : Value} (e0 : (clsIn K C).isSome = true) (e1 : findIn K (.ref C) n = some (some a)) (e2 : specialIn K a "__get__" = some (some g)) (e3 : takesIn K a = some true) : findObj K C od n = some (.bind g a) := by
  cases z : clsIn K C with
  | none => rw [z] at e0; exact nomatch e0
  | some cd => unfold findObj; rw [z, Option.bind_some, e1, Option.bind_some]; simp [e2, e3]
/-- e.__class__, e an error with a dict or without -/
theorem class_of (C : ExcC K D) (kin : K.In s.heap) (at_ : InstAt s.heap x ox D od) {Q : Option Value → Shared → Prop} (q : Q (some (.ref D)) { s with toks := s.toks + 1 }) : wpAny (model prog w) A (getAttr? (.ref x) "__class__") Q E s := by
  have some_ : (clsIn K D).isSome = true := by obtain ⟨cd, e, _⟩ := any_some C.hd; rw [e] <;> rfl
  have fnd : findObj K D od "__class__" = some (.bind (.builtin "getset_descriptor.__get__") (.builtin "object.__class__")) := look_bind some_ C.ha C.hn C.ht
  obtain ⟨hp, g, d, t, os⟩ := s
  have l0 := at_.type (M := model prog w)
  have l1 := looks_findIn (M := model prog w) kin C.hg; have l2 := looks_findIn (M := model prog w) kin C.hk
  have l3 := looks_find (M := model prog w) kin at_ fnd
  have isx : Looks (model prog w) hp (isInstance (.ref x) (.type "BaseException")) true := Looks.andThen l0 (looks_subIn kin C.hs)
  have n2 : (Value.builtin "BaseException.__getattribute__" == Value.builtin "object.__getattribute__") = false := by decide +kernel
  have n1 : (onTheHeap (Value.ref D) && Value.builtin "BaseException.__getattribute__" == Value.builtin "object.__getattribute__") = false := by rw [n2] <;> rfl
  have n0 : (false && onTheHeap (Value.builtin "BaseException.__getattribute__")) = false := rfl
  unfold getAttr?
  unfold getAttrBy?; unfold getAttrBy
  refine wpAny_bind (wpAny_mkText (wpAny_bind (wpAny_attempt (wpAny_holding (wpAny_bind (l0.at (wpAny_bind (l1.at ?_))))))))
  change wpAny _ _ (if (onTheHeap (Value.ref D) && Value.builtin "BaseException.__getattribute__" == Value.builtin "object.__getattribute__") = true then _ else _) _ _ _
  rw [n1, if_neg Bool.false_ne_true]
  unfold getAttrByItsOwn
  unfold hookBefore; refine wpAny_bind ?_
  rw [if_pos (show onTheHeap (Value.ref D) = true from rfl)]; refine l2.at (wpAny_bind (wpAny_attempt (wpAny_holding ?_)))
  unfold callGetattribute; rw [n0, if_neg Bool.false_ne_true]
  unfold boundAndCalled; rw [PySem.F.excAttr_ValueError.ga.bind (.ref x)]
  refine wpAny_bind (wpAny_pure ?_)
  change wpAny _ _ (call (.builtin "BaseException.__getattribute__") [.ref x, .str "__class__" t]) _ _ _
  refine wpAny_call (codeAny_call_builtin PySem.F.excAttr_ValueError.ga.plain PySem.F.entry_bexc_ga (@check_slot (model prog w) _ _ ⟨hp, g, d, t + 1, os⟩ "BaseException.__getattribute__" "BaseException" "__getattribute__" (.ref x) [.str "__class__" t] [] _ (by decide +kernel) (by decide +kernel) isx (PySem.F.args_bexc_ga (.ref x) (.str "__class__" t)) ?_))
  unfold Builtin.«object.__getattribute__»
  refine wpAny_bind (wpAny_of_eq (a := ((Value.ref x : Value), [Value.str "__class__" t])) (by first | rfl | (simp only [slotArgs]; rfl)) (wpAny_bind (wpAny_pure (wpAny_bind (l0.at (wpAny_bind (l3.at ?_)))))))
  change wpAny _ _ (holding [Value.builtin "object.__class__"] (call (.builtin "getset_descriptor.__get__") [.builtin "object.__class__", .ref x, .ref D]) >>= ret) _ _ _
  refine wpAny_bind (wpAny_holding (wpAny_call (class_get (s := ⟨hp, g, d, t + 1, os⟩) (ox := ox) (od := od) kin at_ C.hm (wpAny_pure ?_))))
  change wpAny _ _ (handedOut (.ref D)) _ _ _
  rw [handedOut_of (v := .ref D) rfl]
  first
    | exact wpAny_pure (wpAny_pure q)
    | exact wpAny_pure q
    | exact wpAny_pure (wpAny_bind (wpAny_pure (wpAny_pure q)))
theorem isE_kit (C : ExcC K D) : KitX K (.ref x) (.ref D) (fun h => ∃ od, InstAt h x ox D od) where
  ty := fun _ _ _ ⟨_, i⟩ => i.type
  it := fun _ _ kin _ => by
    obtain ⟨cd, e, _⟩ := any_some C.hd
    unfold clsIn at e
    split at e
    · rename_i at_
      intro A' Q' E' s' k q
      unfold isType loadHead
      exact wpAny_bind (wpAny_loadPart (k _ _ (kin _ _ at_)) (wpAny_pure q))
    · exact nomatch e
  ne := fun h tp dd its n sl kin at_ => by
    obtain ⟨cd, e, _⟩ := any_some C.hd
    refine Bool.eq_false_iff.mpr fun z => ?_
    have z2 : D = tp := Value.ref.inj (beq_iff_eq.mp z)
    subst z2
    unfold clsIn at e
    split at e
    · rename_i at2
      exact nomatch (kin _ _ at2).symm.trans at_
    · exact nomatch e
  ca := fun kin ⟨_, i⟩ q => class_of C kin i q
end
/-- isinstance(e, c): e the error of the suite -/
def rIs (K : Frag) (D a : Addr) (d : Option Addr) : List V → Hp → VK → Prop := fun xs H Q =>
  ∃ (c : V) (cv : Value) (b : Bool), xs = [.ref a, c] ∧ (∀ u, RelV c u → u = cv) ∧ kitOne K (.ref D) cv = some b ∧ (∀ dx, d = some dx → ∃ fs, H dx = some (.xd fs)) ∧ Q (.bl b) H
theorem is_ok {X : Cx} {a D : Addr} {oe : Obj} {d : Option Addr} {pn : List (Addr × Obj)} (C : ExcC X.K D) (hz : Zc (.ref D) d oe) (hf : ∃ vs, oe.data = .fields vs) : CallR (X.suite a ((a, oe) :: pn)) (.builtin "isinstance") (rIs X.K D a d) := by
  intro pins s σ H xs us Q I r ⟨c, cv, b, e0, e1, e2, e3, q⟩
  subst e0
  obtain ⟨u, us, rx, r2, rfl⟩ : ∃ u us', RelV (.ref a) u ∧ Vals [c] us' ∧ us = u :: us' := by cases r with | cons p q => exact ⟨_, _, p, q, rfl⟩
  obtain ⟨u2, rfl, rt⟩ := vals1 r2
  cases (show u = Value.ref a from rx)
  cases e1 _ rt
  obtain ⟨get, _⟩ := I.pin (a, oe) (List.mem_append.mpr (.inl List.mem_cons_self))
  obtain ⟨vs, hv⟩ := hf
  have here : ∃ od, InstAt s.heap a oe D od := by
    obtain ⟨oc, dict, data, sl⟩ := oe
    obtain ⟨c1, c2⟩ := hz
    dsimp only at c1 c2 hv
    subst c1 c2 hv
    cases dict with
    | none => exact ⟨none, get, rfl, rfl, True.intro⟩
    | some dx =>
      obtain ⟨fs, e⟩ := e3 dx rfl
      obtain ⟨mA, ⟨ob, es, ep, e4, _⟩, _⟩ := I.hok dx _ e
      exact ⟨some ob, get, rfl, rfl, e4⟩
  exact kia_one (isE_kit C) I.kIn here e2 (fun z => nomatch z) fun tk => ⟨.bl b, H, I.kept (t' := tk) fun _ _ z => z, rfl, q⟩
section
variable {X : Cx} {G : Gam} {a : Addr} {oe : Obj} {cls : Value} {d : Option Addr} {pn : List (Addr × Obj)} {c i : Nat} {fs : List (Nat × D)}
/-- a caught error's class, by the class that stands second -/
theorem jIs {p p1 p2 pos : Pos} {n y : Str} {cv : V} {vv : Value} {b : Bool} (C : ExcC X.K (G.cl c)) (hz : Zc cls d oe) (hf : ∃ vs, oe.data = .fields vs) (hi : X.N[i]? = some n) (hln : Vis X.env.scope n) (hg : Gl X "isinstance") (hm : X.mg "isinstance" = none)
    (h2 : PE (X.suite a ((a, oe) :: pn)) (.Name y p2) (fun _ H Q => Q cv H)) (hv : ∀ u, RelV cv u → u = vv) (hk : kitOne X.K (.ref (G.cl c)) vv = some b) (d1 : (n == ("__debug__" : Str)) = false := by decide) (d2 : (n == ("__classdict__" : Str)) = false := by decide)
    (s1 : starEach [.Name n p1, .Name y p2] X.env = (false, eval (.Name n p1) X.env) :: starEach [.Name y p2] X.env := by rfl) (s2 : starEach [.Name y p2] X.env = (false, eval (.Name y p2) X.env) :: starEach [] X.env := by rfl) (hpl : (backTo pos (starEach [.Name y p2] X.env)).any (·.1) = false := by rfl) :
    PE (X.suite a ((a, oe) :: pn)) (.Call (.Name "isinstance" p) [.Name n p1, .Name y p2] [] pos) (tJ G X.K c i fs (eC (.bl b)) a cls d) := by
  have run : PE (X.suite a ((a, oe) :: pn)) (.Call (.Name "isinstance" p) [.Name n p1, .Name y p2] [] pos) (fun σ H Q => σ[i]? = some (some (.ref a)) ∧ cls = .ref (G.cl c) ∧ (∀ dx, d = some dx → ∃ fs, H dx = some (.xd fs)) ∧ Q (.bl b) H) := by
    refine ⟨fun pins s σ H Q I ⟨sl, ec, hd, q⟩ => ?_⟩
    subst ec
    have base := pe_callB (p := p) (pos := pos) (X := X.suite a ((a, oe) :: pn)) (is_ok (X := X) (pn := pn) C hz hf) hg hm (by decide +kernel) (pa_cons (pe_var (X := X.suite a ((a, oe) :: pn)) (pos := p1) hi hln d1 d2) (pa_cons h2 pa_nil s2) s1) (by decide) (by decide) s1 hpl
    exact base.run pins s σ H Q I ⟨.ref a, sl, cv, vv, b, rfl, hv, hk, hd, q⟩
  refine ⟨fun pins s σ H Q I ⟨m, r, h, ec, rh, rs, ex, sl, o⟩ => run.run pins s σ H Q I ⟨sl ?_, ec, fun dx e => ?_, o m H _ (Post.refl rh) (.bl b)⟩⟩
  · rw [I.len]; exact (List.getElem?_eq_some_iff.mp hi).1
  · rcases ex with ⟨_, e2⟩ | ⟨a2, vs, e2, e3, _⟩
    · rw [e] at e2; exact nomatch e2
    · rw [e] at e2; cases e2; exact ⟨vs, e3⟩
/-- arguments -/
def tJA (G : Gam) (K : PySem.W.Frag) (c i : Nat) (fs : List (Nat × D)) (f : AX) (a : Addr) (cls : Value) (d : Option Addr) : TA := fun σ H Q =>
  ∃ m r h, cls = .ref (G.cl c) ∧ RelH G K m h H ∧ RelS K m h.length H r σ ∧ ExcAt G K m h.length H fs d ∧ (i < σ.length → σ[i]? = some (some (.ref a))) ∧ OutA G K (fun _ _ _ => False) m h.length H Q (f r h)
theorem jaNil : PA (X.suite a ((a, oe) :: pn)) [] (tJA G X.K c i fs aNil a cls d) := PA_mono pa_nil fun σ H Q ⟨m, r, h, ec, rh, rs, ex, sl, o⟩ => o m H [] (Post.refl rh) .nil
theorem jaCons {e : Expr} {es : List Expr} {f : EX} {g : AX} (he : PE (X.suite a ((a, oe) :: pn)) e (tJ G X.K c i fs f a cls d)) (hr : PA (X.suite a ((a, oe) :: pn)) es (tJA G X.K c i fs g a cls d)) (hs : starEach (e :: es) X.env = (false, eval e X.env) :: starEach es X.env := by rfl) :
    PA (X.suite a ((a, oe) :: pn)) (e :: es) (tJA G X.K c i fs (aCons f g) a cls d) :=
  PA_mono (pa_cons he hr hs) fun σ H Q ⟨m, r, h, ec, rh, rs, ex, sl, o⟩ => by
    refine ⟨m, r, h, ec, rh, rs, ex, sl, ?_⟩
    rcases OutA.bindR o with ⟨x, h1, e, o⟩ | ⟨c', fs', h1, e, o⟩
    · rw [e]
      intro m1 H1 v p1 d1
      refine ⟨m1, r, h1, ec, p1.rel, p1.s rs, ex.on rh p1, sl, ?_⟩
      rcases OutA.bindR o with ⟨y, h2, e, o⟩ | ⟨c', fs', h2, e, o⟩
      · rw [e]
        intro m2 H2 w p2 d2
        exact o m2 H2 _ (p1.trans p2) (.cons (p2.d d1) d2)
      · rw [e]; exact OutX.later p1 o
    · rw [e]; exact o
theorem toJA {op : List D → LH → R D} {f : AX} {rd : List V → Hp → VK → Prop} (hr : ∀ xs H Q, rA G X.K (fun _ _ _ => False) op xs H Q → rd xs H Q) {σ : L2.St} {H : Hp} {Q : VK} (t : tJ G X.K c i fs (eA op f) a cls d σ H Q) : tJA G X.K c i fs f a cls d σ H (fun vs H1 => rd vs H1 Q) := by
  obtain ⟨m, r, h, ec, rh, rs, ex, sl, o⟩ := t
  refine ⟨m, r, h, ec, rh, rs, ex, sl, ?_⟩
  rcases Out.bindR o with ⟨x, h1, e, o⟩ | ⟨c', fs', h1, e, o⟩
  · rw [e]
    intro m1 H1 v p1 d1
    exact hr _ _ _ ⟨m1, h1, x, p1.rel, d1, Out.later p1 o⟩
  · rw [e]; exact o
theorem jLst {es : List Expr} {g : AX} {pos : Pos} (h : PA (X.suite a ((a, oe) :: pn)) es (tJA G X.K c i fs g a cls d)) : PE (X.suite a ((a, oe) :: pn)) (.List es pos) (tJ G X.K c i fs (eLst g) a cls d) :=
  PE_mono (pe_lst h) fun σ H Q t => toJA (rd := fun xs H1 Q => xs.length ≤ sizeLine ∧ ∀ p, H1 p = none → Q (.ref p) (upd H1 p (.lst xs))) (fun xs H Q ⟨m, h, ds, rh, rd, o⟩ => by
    by_cases hz : ds.length ≤ sizeLine
    · simp only [if_pos hz] at o
      refine ⟨by rw [← rd.length]; exact hz, fun p hp => ?_⟩
      have q := rh.new (o := .lst ds) (u := .lst xs) hp (fun m' ag e => ⟨xs, upd_same, rd.mono ag (Nat.le_succ _) (TK.upd_new hp)⟩)
      have z : RelD X.K (ext m h.length p) (h ++ [O.lst ds]).length (upd H p (.lst xs)) (.ref h.length) (.ref (ext m h.length p h.length)) := .ref (by simp)
      rw [ext_self] at z
      exact o _ _ _ q z
    · simp only [if_neg hz] at o; exact False.elim o) t
theorem jOne {e : Expr} {op : BoolOp} {f : EX} {pos : Pos} (h : PE (X.suite a ((a, oe) :: pn)) e (tJ G X.K c i fs f a cls d)) : PE (X.suite a ((a, oe) :: pn)) (.BoolOp op [e] pos) (tJ G X.K c i fs f a cls d) := pe_one h
theorem jAnd {x y : Expr} {ys : List Expr} {f g : EX} {pos : Pos} (ha : PE (X.suite a ((a, oe) :: pn)) x (tJ G X.K c i fs f a cls d)) (hb : PE (X.suite a ((a, oe) :: pn)) (.BoolOp .And (y :: ys) pos) (tJ G X.K c i fs g a cls d)) :
    PE (X.suite a ((a, oe) :: pn)) (.BoolOp .And (x :: y :: ys) pos) (tJ G X.K c i fs (eAndB f g) a cls d) := by
  refine PE_mono (pe_and ha hb) ?_
  rintro σ H Q ⟨m, r, h, ec, rh, rs, ex, sl, o⟩
  refine ⟨m, r, h, ec, rh, rs, ex, sl, ?_⟩
  rcases Out.bindR o with ⟨x, h1, e, o⟩ | ⟨c', fs', h1, e, o⟩
  · rw [e]
    intro m1 H1 v p d
    cases d with
    | bl k =>
      refine ⟨k, rfl, ?_⟩
      cases k with
      | true => exact iteT ⟨m1, r, h1, ec, p.rel, p.s rs, ex.on rh p, sl, Out.later p o⟩
      | false => exact iteF (o m1 H1 _ p (.bl false))
    | _ => exact o.elim
  · rw [e]; exact o
/-- return e: the suite of a clause -/
theorem hd_ret {e : Expr} {mt : Nat → Option Bool} {i : Nat} {fe : Nat → List (Nat × D) → EX} {pos : Pos} (hk : ∀ c fs, mt c = some true → PE (X.suite a ((a, oe) :: pn)) e (tJ G X.K c i fs (fe c fs) a cls d)) :
    PSs (X.suite a ((a, oe) :: pn)) [.Return (some e) pos] (tHd G X.K mt (some i) (fun c fs => sRet (fe c fs)) a cls d) := by
  refine ⟨fun pins s σ H Z I ⟨c, fs, m, r, h, ec, ek, rh, rs, ex, sl, o⟩ => ?_⟩
  refine (pss_one (ps_ret (hk c fs ek))).run pins s σ H Z I ⟨m, r, h, ec, rh, rs, ex, sl i rfl, ?_⟩
  rcases OutS.toR o with ⟨x, h1, e, o⟩ | ⟨c', fs', h1, e, o⟩
  · rw [e]; exact o
  · rw [e]; exact o
end
end Py

set_option Elab.async false
set_option linter.all false
set_option maxRecDepth 100000
set_option maxHeartbeats 3000000
/-! The end of a law whose defs make lambdas: tables of code objects. -/
namespace Py
open PySem L2 PySem.Spec PyProof.Rows
/-- the law's call, tables at hand -/
theorem law_endT {P : Program} {w : World} {K : PySem.W.Frag} {mg mb : Str → Option Value} {k : Nat} {fa a : Addr} {cs : List (Addr × Addr)} {fd : FuncData} {x : Str} {sp : Sp} {s1 : Shared} {vs : List Value} {ns : List Int}
    (kin : K.In s1.heap) (gl : s1.heap.Ns mainGlobals mg) (bl : s1.heap.Ns builtinsNs mb) (bb : ∀ y : Str, y ≠ "__name__" → mb y = bootBuiltins y) (lim : s1.heap.NoLimit) (g0 : s1.gens = #[])
    (tz : ∀ p ∈ cs, s1.heap.get? p.2 = some { cls := .none, data := .fields #[] }) (tn : ∀ p ∈ cs, K.lookup p.2 = none) (tc : ∀ p ∈ cs, PySem.W.CodeHd s1.heap p.1 p.2)
    (bmn : ∃ (bm : Addr) (ob : Obj), mg "__builtins__" = some (.ref bm) ∧ bm ≠ builtinsNs ∧ s1.heap.get? bm = some ob ∧ ob.cls = .type "module" ∧ ob.dict = some builtinsNs ∧ ob.data = .plain)
    (la : s1.heap.get? a = some { cls := .type "list", data := .seq vs.toArray }) (isn : IntsAre vs ns) (few : ns.length ≤ sizeLine) (room : Room k callerA)
    (F : ∀ base : Heap, K.In base → base.Ns mainGlobals mg → (∀ p ∈ cs, LamX.TabB base mg p.1 p.2) → FnG P w K mg base CX0 k fa fd [x] sp) (bnd : ∀ (s : Shared) (u : Value), BindsTo s fd ⟨[u], []⟩ [(x, u)])
    (hsp : ∀ H : Hp, (∀ p ∈ cs, H p.2 = some (.tbl #[])) → SqF K H a (ns.map V.int) → sp [.ref a] H (fun v _ => v = .bl true) fun _ _ _ => False) :
    codeAny (model P w) callerA (.call (.ref fa) ⟨[.ref a], []⟩) (fun r s' => r = .ok (.ret (.bool true)) ∧ OldK s1.heap s'.heap ∧ s'.os = s1.os ∧ AllBare s'.gens) s1 := by
  have rv : Vals (ns.map V.int) vs := vals_of_ints isn
  have lenV := isn.length
  obtain ⟨tabs, et⟩ : ∃ tabs : List Addr, tabs = cs.map (·.2) := ⟨_, rfl⟩
  have memT : ∀ p ∈ cs, p.2 ∈ tabs := fun p m => by rw [et]; exact List.mem_map_of_mem m
  have ofT : ∀ b ∈ tabs, ∃ p ∈ cs, p.2 = b := fun b m => by rw [et] at m; exact List.mem_map.mp m
  have zT : ∀ b ∈ tabs, s1.heap.get? b = some { cls := .none, data := .fields #[] } := fun b m => by
    obtain ⟨p, hp, rfl⟩ := ofT b m
    exact tz p hp
  have aT : a ∉ tabs := fun z => by
    have q := zT a z
    rw [la] at q
    exact nomatch congrArg Obj.data (Option.some.inj q)
  obtain ⟨ob, eo⟩ : ∃ ob : Obj, ob = { cls := .type "list", data := .seq vs.toArray } := ⟨_, rfl⟩
  rw [← eo] at la
  obtain ⟨H, eH⟩ : ∃ H : Hp, H = fun b => if b ∈ tabs then some (.tbl #[]) else if b = a ∧ K.lookup a = none then some (.frz ob (.lst (ns.map V.int))) else none := ⟨_, rfl⟩
  have hT : ∀ b ∈ tabs, H b = some (.tbl #[]) := fun b m => by rw [eH]; exact if_pos m
  have look : ∀ b u, H b = some u → (b ∈ tabs ∧ u = .tbl #[]) ∨ (b = a ∧ K.lookup a = none ∧ u = .frz ob (.lst (ns.map V.int))) := fun b u e => by
    rw [eH] at e
    by_cases m : b ∈ tabs
    · have e : some (HO.tbl #[]) = some u := (if_pos m).symm.trans e
      exact .inl ⟨m, (Option.some.inj e).symm⟩
    · have e := (if_neg m).symm.trans e
      by_cases c : b = a ∧ K.lookup a = none
      · have e := (if_pos c).symm.trans e
        exact .inr ⟨c.1, c.2, (Option.some.inj e).symm⟩
      · exact nomatch (if_neg c).symm.trans e
  have sq : SqF K H a (ns.map V.int) := by
    cases q : K.lookup a with
    | none => exact .inl ⟨ob, by rw [eH]; show (if a ∈ tabs then _ else _) = _; rw [if_neg aT, if_pos ⟨rfl, q⟩]⟩
    | some o =>
      have e := kin a o q
      rw [la, eo] at e
      cases e
      refine .inr ⟨_, vs.toArray, _, q, rfl, rfl, rfl, ?_, ?_⟩
      · rw [List.size_toArray, lenV]; exact few
      · simpa using rv
  have hok : HOk P w H s1.heap := fun b u e => by
    rcases look b u e with ⟨m, rfl⟩ | ⟨rfl, _, rfl⟩
    · exact zT b m
    · exact ⟨la, by rw [List.length_map]; exact few, vs, _, rv, by rw [la, eo]⟩
  have off : ∀ {b : Addr} {o : Obj}, s1.heap.get? b = some o → (∀ us n, o.data ≠ .seq us n) → o.data ≠ .fields #[] → H b = none := fun {b o} e n1 n2 => by
    cases q : H b with
    | none => rfl
    | some u =>
      rcases look b u q with ⟨m, _⟩ | ⟨rfl, _, _⟩
      · rw [zT b m] at e; cases e; exact absurd rfl n2
      · rw [la, eo] at e; cases e; exact absurd rfl (n1 _ _)
  have at_ : ∀ {b : Addr} {o : Obj}, s1.heap.get? b = some o → (∀ us n, o.data ≠ .seq us n) → o.data ≠ .fields #[] → (hidT s1.heap H).get? b = some o := fun e n1 n2 => hidT_get e (off e n1 n2)
  have nsK : ∀ {b : Addr} {m : Str → Option Value}, s1.heap.Ns b m → (hidT s1.heap H).Ns b m := fun {b m} ⟨o, es, ep, e, d, r⟩ =>
    ⟨o, es, ep, at_ e (fun us n z => by rw [d] at z; exact nomatch z) (fun z => by rw [d] at z; exact nomatch z), d, r⟩
  have kb : K.In (hidT s1.heap H) := fun b o e => hidT_get (kin b o e) (by
    cases q : H b with
    | none => rfl
    | some u =>
      exfalso
      rcases look b u q with ⟨m, _⟩ | ⟨rfl, z, _⟩
      · obtain ⟨p, hp, rfl⟩ := ofT b m
        rw [tn p hp] at e; exact nomatch e
      · rw [z] at e; exact nomatch e)
  have mod : Mod K mg (hidT s1.heap H) := by
    obtain ⟨mc, l1, l2⟩ := lim
    exact ⟨kb, nsK gl, ⟨mb, nsK bl, bb⟩, ⟨mc, nsK l1, l2⟩⟩
  have TB : ∀ p ∈ cs, LamX.TabB (hidT s1.heap H) mg p.1 p.2 := fun p hp => by
    refine ⟨?_, ?_, fun z => ?_⟩
    · obtain ⟨o, us, file, tf, flags, tg, inF, text, tt, c1, c2, c3, c4, c5⟩ := tc p hp
      refine ⟨o, us, file, tf, flags, tg, inF, text, tt, at_ c1 (fun us n z => ?_) (fun z => ?_), c2, c3, c4, c5⟩
      · rw [c3] at z; exact nomatch z
      · rw [c3] at z; cases z; simp at c4
    · obtain ⟨bm, o, b1, b2, b3, b4, b5, b6⟩ := bmn
      refine ⟨bm, o, b1, b2, fun z => ?_, fun z => ?_, at_ b3 (fun us n z => ?_) (fun z => ?_), b4, b5, b6⟩
      · obtain ⟨o', es, ep, e, d, _⟩ := gl
        rw [z, e] at b3; cases b3
        rw [d] at b6; exact nomatch b6
      · rw [z, tz p hp] at b3; cases b3; exact nomatch b6
      · rw [b6] at z; exact nomatch z
      · rw [b6] at z; exact nomatch z
    · obtain ⟨o, es, ep, e, d, _⟩ := gl
      rw [z, tz p hp] at e; cases e
      exact nomatch d
  have e0 : Env0 P w K mg (hidT s1.heap H) callerA [] s1 H :=
    ⟨rfl, mod, fun b o e => of_hidT e, Nat.le_of_eq (hidT_size _ _), trivial, fun b m => absurd (show b ∈ ([] : List Addr) from m) (by simp), hok, .of_eq g0⟩
  refine codeAny_mono ((F _ kb (nsK gl) TB).run callerA [] s1 H ⟨[.ref a], []⟩ [.ref a] [.ref a] _ _ rfl room e0 (bnd s1 (.ref a)) (.cons rfl .nil) (hsp H (fun p hp => hT _ (memT p hp)) sq)) fun r s' z => ?_
  cases r with
  | error e => exact False.elim z
  | ok fl =>
    cases fl with
    | next => exact z.elim
    | brk => exact z.elim
    | cont => exact z.elim
    | ret u =>
      obtain ⟨v, H', os, bare, un, hok', r', q⟩ := z
      subst q
      cases (show u = Value.bool true from r')
      have same : ∀ b o, b ∉ tabs → s1.heap.get? b = some o → s'.heap.get? b = some o := fun b o nb e => by
        cases q : H b with
        | none => exact un.keep b o e q (fun z => absurd (show b ∈ ([] : List Addr) from z) (by simp)) (by simp)
        | some u =>
          rcases look b u q with ⟨m, _⟩ | ⟨_, _, rfl⟩
          · exact absurd m nb
          · obtain ⟨e1, _⟩ := hok b _ q
            obtain ⟨e2, _⟩ := hok' b _ (un.frzs b _ _ q)
            rw [e] at e1; cases e1
            exact e2
      have more : ∀ p ∈ cs, ∃ us : Array Value, s'.heap.get? p.2 = some { cls := .none, data := .fields us } := fun p hp => by
        obtain ⟨us, z⟩ := un.tbls p.2 #[] (hT _ (memT p hp))
        exact ⟨_, hok' p.2 _ z⟩
      refine ⟨rfl, ⟨fun b o e => ?_, fun b o e => ?_⟩, os, bare⟩
      · by_cases m : b ∈ tabs
        · obtain ⟨p, hp, rfl⟩ := ofT b m
          obtain ⟨us, z⟩ := more p hp
          rw [tz p hp] at e; cases e
          exact .inr (.inl ⟨((tc p hp).tab (tz p hp)).isCodeTable, rfl, #[], us, rfl, by rw [Array.empty_append]; exact z⟩)
        · exact .inl (same b o m e)
      · by_cases m : b ∈ tabs
        · obtain ⟨p, hp, rfl⟩ := ofT b m
          obtain ⟨us, z⟩ := more p hp
          exact ⟨_, z⟩
        · exact ⟨o, same b o m e⟩
/-- the goal that k_head leaves, tables at hand -/
theorem walk_gT {l : PySem.W.OpenLaw} {n k : Nat} {q : Program} {loose : List Str} {XP : (Str → Option Value) → Heap → Prop} {YP : World → Heap → Prop} {d : DefRec} {K : Params → PySem.W.Frag} {x : Str}
    (hn : l.most = some n) (hn2 : n ≤ sizeLine) (hdf : d.params.defaults = []) (hr : Room k callerA) (hY : ∀ (w : World) (h : Heap), YP w h → (K w.params).In h)
    (F : ∀ (w : World) (mg : Str → Option Value) (fa : Addr) (h : Heap), (K w.params).In h → h.Ns mainGlobals mg → mg d.name = some (.ref fa) →
      (∀ (e : DefRec) (y : Str) (c P : Addr), (recsOf q).find? (fun e => e.name == y) = some e → PySem.W.tabIn (K w.params) y = some (c, P) → PySem.W.CodeHd h c P ∧ h.get? P = some { cls := .none, data := .fields #[] }) →
      ∃ (fd : FuncData) (cs : List (Addr × Addr)) (tabs : List (Addr × Str)), (∀ (s : Shared) (u : Value), BindsTo s fd ⟨[u], []⟩ [(x, u)]) ∧
        (∀ p ∈ cs, (PySem.W.CodeHd h p.1 p.2 ∧ h.get? p.2 = some { cls := .none, data := .fields #[] }) ∧ (K w.params).lookup p.2 = none) ∧ (∀ H : Hp, (∀ p ∈ cs, H p.2 = some (.tbl #[])) → LamX.Tabs tabs H) ∧
        ∀ base : Heap, (K w.params).In base → base.Ns mainGlobals mg → (∀ p ∈ cs, LamX.TabB base mg p.1 p.2) → FnG l.prog w (K w.params) mg base CX0 k fa fd [x] (spLaw n (K w.params) tabs)) :
    PySem.W.WalkO q loose XP YP l.row.toRowW d [] (fun f vs => PySem.call f vs) := by
  refine Att.attach_call hn hdf ?_
  intro w s0 s1 mg mb fa o pm cd doc a vs ns G Y ho hd hcd hmg hobj hints hlen hg
  have kin := hY w _ Y
  obtain ⟨fd, cs, tabs, hb, hcs, hT, hF⟩ := F w mg fa _ kin G.T.g hmg fun e y c P h1 h2 => PySem.W.tab_of G.T kin h1 h2
  exact law_endT kin G.T.g G.T.b G.T.builtins G.T.nolimit hg (fun p m => (hcs p m).1.2) (fun p m => (hcs p m).2) (fun p m => (hcs p m).1.1) G.T.bmain hobj hints (Nat.le_trans hlen hn2) hr hF hb
    fun H hH hS => ⟨hT H hH, a, ns, rfl, hS, hlen, fun _ => rfl⟩
theorem tabs_of {cs : List (Addr × Addr)} {tabs : List (Addr × Str)} {H : Hp} (h : ∀ t ∈ tabs, ∃ p ∈ cs, p.2 = t.1) (z : ∀ p ∈ cs, H p.2 = some (.tbl #[])) : LamX.Tabs tabs H := fun t m => by
  obtain ⟨p, hp, e⟩ := h t m
  exact LamX.TabS.nil (by rw [← e]; exact z p hp)
end Py

set_option Elab.async false
set_option linter.all false
set_option maxRecDepth 100000
set_option maxHeartbeats 3000000
/-! Own layer: a lambda without parameters, handed to a def that calls it within a try. -/
namespace Py
open PySem L2 PySem.Spec PyProof.Rows LamX
section
variable {G : Gam} {K : PySem.W.Frag} {m m1 : Nat → Addr} {N : Nat} {h h1 : LH} {H H1 : Hp}
theorem RelO.noExt {a : Addr} {o : O} (r : RelO G K m N H a o) {c : Addr} {q : Str} (e : H c = some (CodeO c q)) : a ≠ c := fun z => by
  subst z
  cases o with
  | lst xs => obtain ⟨_, e1, _⟩ := r; rw [e] at e1; exact nomatch e1
  | ins c fs => obtain ⟨_, _, e1, _⟩ := r; rw [e] at e1; exact nomatch e1
  | dct kv => obtain ⟨_, e1, _⟩ := r; rw [e] at e1; exact nomatch e1
/-- code objects stay -/
theorem Post.code (a : Post G K m h.length H m1 h1 H1) (r : RelH G K m h H) {c : Addr} {q : Str} (e : H c = some (CodeO c q)) : H1 c = some (CodeO c q) :=
  a.fr c _ e (fun ps => codeO_ne ps) fun i hi => (r.obj i _ (List.getElem?_eq_getElem hi)).noExt e
theorem TK.growN (k : ExtN H H1) : TK K H H1 := by
  refine ⟨fun a vs q => ?_, fun a vs q => ?_, fun a q => ?_⟩
  · rcases q with (q | ⟨u, q⟩) | q
    · exact .inl (.inl (k _ _ q fun ps z => nomatch z))
    · exact .inl (.inr ⟨u, k _ _ q fun ps z => nomatch z⟩)
    · exact .inr q
  · rcases q with ⟨u, q⟩ | q
    · exact .inl ⟨u, k _ _ q fun ps z => nomatch z⟩
    · exact .inr q
  · rcases q with ⟨u, w, q, e⟩ | q
    · exact .inl ⟨u, w, k _ _ q (fun ps z => nomatch z), e⟩
    · exact .inr q
theorem RelH.growN (r : RelH G K m h H) (k : ExtN H H1) (t : Tabs G.tabs H1) : Post G K m h.length H m h H1 := by
  have tk : TK K H H1 := TK.growN k
  refine ⟨fun _ _ => rfl, Nat.le_refl _, tk, ⟨fun n o e => ?_, r.inj, t⟩, fun i h1 h2 => absurd h2 (Nat.not_lt.mpr h1), fun a o e nt _ => k a o e nt⟩
  have ob := r.obj n o e
  obtain ⟨u, hu⟩ := ob.isThere
  exact ob.mono (fun _ _ => rfl) (Nat.le_refl _) tk (by rw [hu]; exact k _ _ hu fun ps z => ob.noTbl ps (by rw [hu, z]))
end
/-! ### a(), in the def that got the lambda -/
section
variable {X : Cx} {pins : List (Addr × Obj)} {σ : L2.St} {H : Hp} {s : Shared}
theorem act_x {G : Gam} {th : EX} {Ng : List Str} {qg : Str} {sg : Scope} {g f c' : Addr} {cdg pm ctv : Value} {ps : Arguments} {body : Expr} {scope : Scope} {k i : Nat} {a : Str} {pn : List (Addr × Obj)} {xe : Value → Shared → Prop} {W : WX} {Eg : XK} {p1 p2 : Pos}
    (I : Inv X pins σ H s) (L : LamS X.env.scope scope) (fo : s.heap.get? f = some (PySem.W.kla_obj "<lambda>" (X.env.qual ++ "<lambda>") ps body scope (cloFrom X.env.cells scope.names []) pm c' ctv)) (fn : H f = none) (ff : f ∉ frs X.stack)
    (bnd : bindArgs (PySem.W.kla_fn "<lambda>" (X.env.qual ++ "<lambda>") ps body scope (cloFrom X.env.cells scope.names []) pm (.ref c') ctv) ⟨[], []⟩ = pure [])
    (tk : Takes ((cxOf CX0 X.prog X.w X.K X.mg X.base Ng qg sg g cdg X.A X.stack s H Eg).tr pn xe) W) (gd : X.A.guards = some []) (room : Room (k + 1) (X.A.deeper (envOfC qg sg s.heap.objs.size g cdg)))
    (bod : ∀ (A : Around) (outer : List Env) (s : Shared) (H : Hp) (E : XK), A.guards = some [] → Room k (A.deeper (lamEnv X scope s.heap.objs.size f c')) → PE (lamCx X A outer s H E scope f c') body (tE G X.K E th))
    (at_ : Ng[i]? = some a) (vi : Vis sg a) (d1 : (a == ("__debug__" : Str)) = false := by decide) (d2 : (a == ("__classdict__" : Str)) = false := by decide) :
    PE ((cxOf CX0 X.prog X.w X.K X.mg X.base Ng qg sg g cdg X.A X.stack s H Eg).tr pn xe) (.Call (.Name a p1) [] [] p2)
      (fun σZ HZ Q => σZ[i]? = some (some (.ref f)) ∧ HZ c' = some (CodeO c' (X.env.qual ++ "<lambda>")) ∧ tE G X.K (WE W σZ) th σ HZ Q) := by
  refine ⟨fun pz sz σZ HZ Q IZ ⟨slot, code, t⟩ => ?_⟩
  refine wpAny_Call_Name_kw (thn ((pe_var (pos := p1) (i := i) at_ vi d1 d2).run pz sz σZ HZ (fun v H1 => v = .ref f ∧ H1 = HZ) IZ ⟨.ref f, slot, rfl, rfl⟩) ?_)
  rintro u s1 ⟨v, H1, I1, r1, rfl, rfl⟩
  cases (show u = Value.ref f from r1)
  have obj1 := I1.base.keep f _ fo fn ff (fun z => nomatch (show f ∈ ([] : List Addr) from z))
  refine PySem.W.callWith_F0 ⟨_, _, _, _, obj1⟩ ?_
  have un : Un (frs X.stack) [] H H1 s.heap s1.heap := I1.base
  obtain ⟨⟨oc, us, tt, co1, co2, co3⟩, _, _⟩ := I1.hok c' _ code
  have run : codeAny (model X.prog X.w) (X.A.deeper (envOfC qg sg s.heap.objs.size g cdg)) (.call (.ref f) ⟨[], []⟩) (CR (L2.CX X.prog X.w) (envOfC qg sg s.heap.objs.size g cdg :: X.stack) X.prog X.w H1 s1 Q (WE W σZ)) s1 := by
    refine PySem.W.kla_callFunE room.depth obj1 rfl L.co L.gen rfl ⟨c', oc, us, tt, rfl, co1, co2, co3⟩ ?_
    rw [bnd]
    refine wpAny_pure (wpAny_newFunctionEnv (fun y hy => (L.own y hy).2) (fun y hy => nomatch hy) (fun h₁ names sub => ⟨I1.nolimit.fresh _ sub, ?_⟩) L.kind)
    have kept : ∀ b o, s1.heap.get? b = some o → h₁.get? b = some o := fun b o e => sub.extBut b o (Nat.ne_of_lt (Heap.lt_size e)) (Heap.get?_push_of_some _ e)
    have J : Inv (lamCx X (X.A.deeper (envOfC qg sg s.heap.objs.size g cdg)) (envOfC qg sg s.heap.objs.size g cdg :: X.stack) s1 H1 (WE W σZ) scope f c') [] σ H1 { s1 with heap := h₁, toks := s1.toks + ([] : List (Str × Value)).length } := lam_start2 I L I1.env0 room.hd un names kept
    refine PySem.W.kla_codeExpr (wpAny_mono ((bod (X.A.deeper (envOfC qg sg s.heap.objs.size g cdg)) _ s1 H1 _ gd (room.deeper _)).run [] _ _ H1 Q J t) ?_ (fun _ _ z => z))
    rintro v s' ⟨w', H', J', rv, q⟩
    exact ⟨w', H', J'.os, J'.bare, J'.base, J'.hok, rv, q⟩
  refine wpAny_call (codeAny_mono run ?_)
  intro r s' z
  cases r with
  | error e => exact passAt tk σZ pz H1 s1 e s' I1 z
  | ok fl =>
    cases fl with
    | ret u => exact I1.after z
    | next => exact z.elim
    | brk => exact z.elim
    | cont => exact z.elim
end
/-! ### the def that calls it -/
/-- told: f the lambda, c' its code object, σ0 the maker's locals, th what the lambda computes -/
def tB (G : Gam) (K : PySem.W.Frag) (f c' : Addr) (q : Str) (σ0 : L2.St) (th : EX) (E : XK) (b : (LH → R D) → SX) : TS := fun Z σ H =>
  ∃ m h r0 r, RelH G K m h H ∧ RelS K m h.length H r0 σ0 ∧ RelS K m h.length H r σ ∧ σ[0]? = some (some (.ref f)) ∧ H c' = some (CodeO c' q) ∧ OutS G K E m h.length H Z (b (th r0) r h)
/-- what the call of the lambda is worth there -/
def tZ (G : Gam) (K : PySem.W.Frag) (f c' : Addr) (q : Str) (σ0 : L2.St) (th : EX) (E : L2.St → XK) : TE := fun σ H Q => σ[0]? = some (some (.ref f)) ∧ H c' = some (CodeO c' q) ∧ tE G K (E σ) th σ0 H Q
def Act (Y : Cx) (G : Gam) (f c' : Addr) (q : Str) (σ0 : L2.St) (th : EX) (a : Str) (W : WX) : Prop := ∀ p1 p2 : Pos, PE Y (.Call (.Name a p1) [] [] p2) (tZ G Y.K f c' q σ0 th (WE W))
section
variable {X : Cx} {G : Gam} {E : XK} {f c' : Addr} {q a : Str} {σ0 : L2.St} {th : EX} {W : WX}
/-- return a() -/
def lRet : (LH → R D) → SX := fun k => sRet fun _ h => k h
/-- a() alone -/
def lE : (LH → R D) → SX := fun k => sE fun _ h => k h
/-- x = a() -/
def lAsg (g : GX) : (LH → R D) → SX := fun k => sAsg (fun _ h => k h) g
end
/-! ### the try around it -/
def lTry (b : (LH → R D) → SX) (l : List Hd) : (LH → R D) → SX := fun k => sTry (b k) l
def lSeq (b : (LH → R D) → SX) (g : SX) : (LH → R D) → SX := fun k => sSeq (b k) g
section
variable {X : Cx} {G : Gam} {E : XK}
/-- a try's outcome, seen from its body -/
theorem try_out {K : PySem.W.Frag} {b : SX} {l : List (Value × Hd)} {m : Nat → Addr} {h : LH} {H : Hp} {r : LS} {σ : L2.St} {Z : Ends} (hm : ∀ p ∈ l, ∀ c k, p.2.1 c = some k → PySem.W.exmOne K (.ref (G.cl c)) p.1 = some k)
    (rs : RelS K m h.length H r σ) (o : OutS G K E m h.length H Z (sTry b (l.map (·.2)) r h)) : OutS G K (WE (wCls K Z (l.map (clOf G K))) σ) m h.length H Z (b r h) := by
  unfold sTry at o
  cases q : b r h with
  | nx r1 h1 => rw [q] at o; exact o
  | rt d h1 => rw [q] at o; exact o
  | bk r1 h1 => rw [q] at o; exact o
  | ct r1 h1 => rw [q] at o; exact o
  | stuck => rw [q] at o; exact o
  | exc c fs h1 =>
    rw [q] at o
    intro m' H' od p ex
    have o' : OutS G K E m' h1.length H' Z (hdl (l.map (·.2)) c fs r h1) := OutS.later p o
    have rs' := p.s rs
    have rel := p.rel
    clear o q rs p
    show wCls K Z (l.map (clOf G K)) (.ref (G.cl c)) od σ H'
    induction l with
    | nil => exact o'
    | cons pp l ih =>
      obtain ⟨cv, mt, oi, bb⟩ := pp
      have one := hm _ (List.mem_cons_self ..)
      have o2 : OutS G K E m' h1.length H' Z (match mt c with | some true => wipeF oi (bb c fs (wipe r oi) h1) | some false => hdl (l.map (·.2)) c fs r h1 | none => .stuck) := o'
      cases k : mt c with
      | none => rw [k] at o2; exact o2.elim
      | some yes =>
        rw [k] at o2
        cases yes with
        | false => exact ⟨false, one c _ k, (fun z => nomatch z), fun _ => ih (fun p hp => hm p (List.mem_cons_of_mem _ hp)) o2⟩
        | true =>
          refine ⟨true, one c _ k, fun _ a na => ⟨c, fs, m', wipe r oi, h1, rfl, k, rel, ?_, ex, ?_, out_wipe o2⟩, (fun z => nomatch z)⟩
          · cases oi with
            | none => exact rs'
            | some i => exact rs'.wipe1 i _
          · intro i e
            cases e
            intro lt
            have lt : i < (σ.set i (some (.ref a))).length := lt
            rw [List.length_set] at lt
            exact List.getElem?_set_self lt
variable {f c' : Addr} {q a : Str} {σ0 : L2.St} {th : EX}
theorem lTry_ok {b : (LH → R D) → SX} {body : List Stmt} {h₀ : ExceptHandler} {hds : List ExceptHandler} {pos : Pos} {l : List (Value × Hd)} (hs : X.stack = X.env :: X.outer) (hf : X.env.frame = some X.env.locals)
    (ac : ∀ (W : WX) (pn : List (Addr × Obj)) (xe : Value → Shared → Prop), Takes (X.tr pn xe) W → Act (X.tr pn xe) G f c' q σ0 th a W)
    (hb : ∀ (W : WX) (pn : List (Addr × Obj)) (xe : Value → Shared → Prop), Act (X.tr pn xe) G f c' q σ0 th a W → PSs (X.tr pn xe) body (fun Z σ H => tB G X.K f c' q σ0 th (WE W σ) b Z σ H))
    (hh : ClsOk X (h₀ :: hds) (l.map (clOf G X.K))) (hm : ∀ p ∈ l, ∀ c k, p.2.1 c = some k → PySem.W.exmOne X.K (.ref (G.cl c)) p.1 = some k) :
    PS X (.Try body (h₀ :: hds) [] [] pos) (tB G X.K f c' q σ0 th E (lTry b (l.map (·.2)))) := by
  refine PS_mono (ps_tryA (tb := fun W Z σ H => tB G X.K f c' q σ0 th (WE W σ) b Z σ H) hs hf (fun W pn xe tk _ => hb W pn xe (ac W pn xe tk)) hh) ?_
  rintro Z σ H ⟨m, h, r0, r, rh, rs0, rs, sl, co, o⟩
  exact ⟨m, h, r0, r, rh, rs0, rs, sl, co, try_out hm rs o⟩
theorem lSeq_ok {st : Stmt} {sts : List Stmt} {b : (LH → R D) → SX} {g : SX} (h1 : PS X st (tB G X.K f c' q σ0 th E b)) (h2 : PSs X sts (tS G X.K E g)) : PSs X (st :: sts) (tB G X.K f c' q σ0 th E (lSeq b g)) :=
  PSs_mono (pss_cons h1 h2) fun Z σ H ⟨m, h, r0, r, rh, rs0, rs, sl, co, o⟩ => by
    refine ⟨m, h, r0, r, rh, rs0, rs, sl, co, ?_⟩
    have o : OutS G X.K E m h.length H Z (sSeq (b (th r0)) g r h) := o
    unfold sSeq at o
    cases z : b (th r0) r h with
    | nx r1 h1 =>
      rw [z] at o
      intro m1 H1 s1 p1 q1
      exact ⟨m1, r1, h1, p1.rel, q1, OutS.later p1 o⟩
    | rt d h1 => rw [z] at o; exact o
    | bk r1 h1 => rw [z] at o; exact o
    | ct r1 h1 => rw [z] at o; exact o
    | exc c fs h1 => rw [z] at o; exact o
    | stuck => rw [z] at o; exact o
end
/-! ### the call of such a def -/
/-- its body, wherever it is called -/
def Told (G : Gam) (P : Program) (w : World) (K : PySem.W.Frag) (mg : Str → Option Value) (base : Heap) (k : Nat) (N : List Str) (x : Str) (sg : Scope) (g : Addr) (bg : List Stmt) (a : Str) (b : (LH → R D) → SX) : Prop :=
  ∀ (cdv : Value) (A : Around) (outer : List Env) (s : Shared) (H : Hp) (f c' : Addr) (q : Str) (σ0 : L2.St) (th : EX), A.guards = some [] → Room k (A.deeper (envOfC x sg s.heap.objs.size g cdv)) →
    (∀ (W : WX) (pn : List (Addr × Obj)) (xe : Value → Shared → Prop), Takes ((cxOf CX0 P w K mg base N x sg g cdv A outer s H E0).nox.tr pn xe) W → Act ((cxOf CX0 P w K mg base N x sg g cdv A outer s H E0).nox.tr pn xe) G f c' q σ0 th a W) →
    PSs (cxOf CX0 P w K mg base N x sg g cdv A outer s H E0).nox bg (tB G K f c' q σ0 th E0 b)
theorem Told.up {G : Gam} {P : Program} {w : World} {K : PySem.W.Frag} {mg : Str → Option Value} {base : Heap} {j k : Nat} {N : List Str} {x : Str} {sg : Scope} {g : Addr} {bg : List Stmt} {a : Str} {b : (LH → R D) → SX} (T : Told G P w K mg base j N x sg g bg a b) (l : j ≤ k) : Told G P w K mg base k N x sg g bg a b :=
  fun cdv A outer s H f c' q σ0 th hg hr => T cdv A outer s H f c' q σ0 th hg (hr.mono l)
theorem takesL {X : Cx} {A : Around} {outer : List Env} {s : Shared} {H : Hp} {E : XK} {scope : Scope} {f c' : Addr} : Takes (lamCx X A outer s H E scope f c') (fun cls d _ H => E cls d H) := takes_of rfl rfl rfl rfl
def eTold (n : Nat) (b : (LH → R D) → SX) (th : EX) : EX := fun r h => match b (th r) (List.replicate n none) h with
  | .nx _ h1 => .ok .non h1
  | .rt d h1 => .ok d h1
  | _ => .stuck
/-- a def whose code object is known -/
def FunM (K : PySem.W.Frag) (x qual : Str) (params : Arguments) (body : List Stmt) (scope : Scope) (c f : Addr) (fd : FuncData) : Prop :=
  ∃ (oc : Value) (od : Option Addr) (kV doc pm : Value) (an : Option Addr) (ct : Value) (osl : Array (Option Value)),
    fd = PySem.W.fnOf x qual params body scope .none kV doc pm an (.ref c) ct ∧ K.lookup f = some ⟨oc, od, .func fd, osl⟩ ∧ PySem.W.codeIn K (.ref c) qual = true
theorem fnG_M {G : Gam} {CX : CXT} {P : Program} {w : World} {K : PySem.W.Frag} {mg : Str → Option Value} {base : Heap} {k : Nat} {x qual : Str} {params : Arguments} {body : List Stmt} {scope : Scope} {c f : Addr} {fd : FuncData} {N ps : List Str} {b : SX} {n kk : Nat}
    (F : FunM K x qual params body scope c f fd) (S : FnScope N ps scope) (hn : ps.length = n) (hk : N.length - ps.length = kk)
    (hbody : ∀ (A : Around) (outer : List Env) (s : Shared) (H : Hp) (E : XK), A.guards = some [] → Room k (A.deeper (envOfC qual scope s.heap.objs.size f (.ref c))) →
      PSs (cxOf CX P w K mg base N qual scope f (.ref c) A outer s H E) body (tS G K E b)) : FnG P w K mg base CX (k + 1) f fd ps (spF G K (runF n kk b)) := by
  obtain ⟨oc, od, kV, doc, pm, an, ct, osl, rfl, lk, hcd⟩ := F
  exact fnG_of lk hcd S hn hk hbody
section
variable {X : Cx} {G : Gam} {E : XK}
theorem xTold {x a : Str} {g c P : Addr} {k n : Nat} {fd : FuncData} {pg : Arguments} {bg : List Stmt} {sg : Scope} {Ng : List Str} {b : (LH → R D) → SX} {ps : Arguments} {body : Expr} {scope : Scope} {th : EX} {p lpos pos : Pos}
    (F : FunD X.K x x pg bg sg [] [] g fd) (S : FnScope Ng [a] sg) (hn : Ng.length = n + 1) (at0 : Ng[0]? = some a) (vi : Vis sg a)
    (bn : ∀ (kV doc pm : Value) (an : Option Addr) (cdv ct : Value) (us : List Value), us.length = 1 → bindArgs (PySem.W.fnOf x x pg bg sg .none kV doc pm an cdv ct) ⟨us, []⟩ = pure (([a] : List Str).zip us))
    (T : Told G X.prog X.w X.K X.mg X.base (k + 1) Ng x sg g bg a b) (gl : Gl X x) (hm : X.mg x = some (.ref g)) (TB : TabB X.base X.mg c P) (hc : X.env.code = .ref c) (inT : (P, X.env.qual ++ "<lambda>") ∈ G.tabs) (un : ∀ p ∈ G.tabs, p.1 = P → p.2 = X.env.qual ++ "<lambda>")
    (gd : X.A.guards = some []) (room : Room (k + 2) X.A) (L : LamS X.env.scope scope) (nd : defaultsOf ps X.env = ([], []))
    (lb : ∀ (q : Str) (cl : List (Str × Addr)) (pm cv ctv : Value), bindArgs (PySem.W.kla_fn "<lambda>" q ps body scope cl pm cv ctv) ⟨[], []⟩ = pure [])
    (bod : ∀ (f c' : Addr) (A : Around) (outer : List Env) (s : Shared) (H : Hp) (E : XK), A.guards = some [] → Room k (A.deeper (lamEnv X scope s.heap.objs.size f c')) → PE (lamCx X A outer s H E scope f c') body (tE G X.K E th))
    (d0 : (x == ("__debug__" : Str)) = false := by decide) (d1 : (a == ("__debug__" : Str)) = false := by decide) (d2 : (a == ("__classdict__" : Str)) = false := by decide) :
    PE X (.Call (.Name x p) [.Lambda ps body scope lpos] [] pos) (tE G X.K E (eTold (n + 1) b th)) := by
  refine ⟨fun pins s σ H Q I ⟨m, r, h, rh, rs, o⟩ => ?_⟩
  obtain ⟨oc, od, dV, kV, doc, pm, an, cdv, ct, osl, rfl, lk, hcd, dfl, _⟩ := F.ex
  have dz : dV = .none := by
    rcases dfl with ⟨_, e⟩ | ⟨e, _⟩
    · exact e
    · exact absurd rfl e
  subst dz
  refine wpAny_Call_Name_kw (ld_glob I gl hm ?_ d0)
  refine PySem.W.callWith_K (h₀ := X.base) I.ok.mod.kin F.kp ?_ (by rfl) (by rfl)
  show wpAny _ _ (spliced ((false, eval (.Lambda ps body scope lpos) X.env) :: backTo pos (starEach [] X.env))) _ _ s
  refine Calls.spliced_cons (lam_make2 I TB hc inT un rh.tab nd (L.has I.ok) fun f c' pm' ctv H1 s1 I1 grow T1 fo fn ff code => ?_)
  refine Calls.spliced_nil ⟨I1.kIn, ?_⟩
  have p1 := rh.growN grow T1
  have run : codeAny (model X.prog X.w) X.A (.call (.ref g) ⟨[.ref f], []⟩) (CR CX0 X.stack X.prog X.w H1 s1 Q E0) s1 := by
    refine run_ofS (N := Ng) (ps := [a]) (us := [.ref f]) (vs := [.ref f]) lk hcd S room I1.env0 ((F.bindsA (ps := [a]) bn) s1 [.ref f] rfl) (.cons rfl .nil) rfl fun room' => ?_
    refine ⟨_, (T cdv X.A X.stack s1 H1 f c' (X.env.qual ++ "<lambda>") σ th gd room' fun W pn xe tk p1 p2 => ?_).nox, ?_⟩
    · exact act_x (i := 0) (Eg := E0) I1 L fo fn ff (lb _ _ _ _ _) tk gd room' (fun A outer s H E g r => bod f c' A outer s H E g r) at0 vi d1 d2
    · have e1 : L2.start Ng [.ref f] = some (.ref f) :: List.replicate n none := by
        unfold L2.start
        rw [hn] <;> rfl
      rw [e1]
      refine ⟨m, h, r, List.replicate (n + 1) none, p1.rel, p1.s rs, .no (RelS.of n .nil), rfl, code, ?_⟩
      have o := Out.later p1 o
      unfold eTold at o
      cases z : b (th r) (List.replicate (n + 1) none) h with
      | nx r1 h1 => rw [z] at o; exact fun m' H' s p _ => o m' H' _ p .non
      | rt d h1 => rw [z] at o; exact o
      | bk r1 h1 => rw [z] at o; exact o.elim
      | ct r1 h1 => rw [z] at o; exact o.elim
      | exc c fs h1 => rw [z] at o; exact o.elim
      | stuck => rw [z] at o; exact o.elim
  refine wpAny_call (codeAny_mono run ?_)
  intro r s' z
  cases r with
  | error e => exact (show False from z).elim
  | ok fl =>
    cases fl with
    | ret u => exact I1.after z
    | next => exact z.elim
    | brk => exact z.elim
    | cont => exact z.elim
end
end Py

set_option Elab.async false
set_option linter.all false
set_option maxRecDepth 100000
set_option maxHeartbeats 4000000
/-! Own layer: lists with own instances compared (all found equal); isinstance of an own instance; calls that might raise but do not. -/
namespace GQ
open PySem PySem.SeqAt
open AutoSeq1 (wpAny_loadPart')
open MeetsSeq MeetsSeq2 MeetsSeq3 SeqRoads2
section
variable {prog : Program} {w : World} {A : Around} {R : Result → Shared → Prop}
end
section
variable {prog : Program} {w : World} {A : Around} {E : Value → Shared → Prop} {s : Shared}
end
end GQ
namespace Py
open PySem PySem.Spec PyProof.Rows L2
/-! ### == of lists with own instances -/
def sameF : D → D → Bool
  | .non, .non => true
  | .bl a, .bl b => a == b
  | .int a, .int b => decide (a = b)
  | .str a, .str b => decide (a = b)
  | _, _ => false
def eqItm (c : Nat) (cf : CF) (x y : D) (h : LH) : Option LH := if sameF x y = true then some h else match x, y with
  | .ref a, .ref b => if a = b then some h else (match h[a]?, h[b]? with
    | some (.ins c1 _), some (.ins c2 _) => if c1 = c ∧ c2 = c then (match cf [.ref a, .ref b] h with
      | .ok (.bl true) h1 => some h1
      | _ => none) else none
    | _, _ => none)
  | _, _ => none
def twoL (n k N : Nat) (h : LH) : Option (List D × List D) := match h[n]?, h[k]? with
  | some (.lst xs), some (.lst ys) => if xs.length = N ∧ ys.length = N then some (xs, ys) else none
  | _, _ => none
def eqLoop (c : Nat) (cf : CF) (n k N : Nat) : Nat → Nat → LH → Option LH
  | 0, _, h => (twoL n k N h).map fun _ => h
  | f + 1, i, h => (twoL n k N h).bind fun p => match p.1[i]?, p.2[i]? with
    | some x, some y => (eqItm c cf x y h).bind fun h1 => eqLoop c cf n k N f (i + 1) h1
    | _, _ => none
def oEqL (c : Nat) (cf : CF) (neg : Bool) : D → D → LH → R D
  | .ref n, .ref k, h => (match h[n]? with
    | some (.lst xs) => (match eqLoop c cf n k xs.length xs.length 0 h with
      | some h1 => .ok (.bl (!neg)) h1
      | none => .stuck)
    | _ => .stuck)
  | _, _, _ => .stuck
section
variable {X : Cx} {G : Gam} {E : XK} {CX : CXT}
/-! ### calls that might raise, but do not -/
def nxK (op : KF) : KF := fun ds es h => match op ds es h with
  | .exc _ _ _ => .stuck
  | r => r
/-! ### isinstance(x, (t1, t2)), x perhaps an own instance -/
def oIsiO (c : Nat) (ks : List Kd) : D → LH → R D := fun d h => match kindD d h with
  | some k => .ok (.bl (ks.any fun t => k.is t)) h
  | none => (match d with
    | .ref n => (match h[n]? with
      | some (.ins c' _) => if c' = c then .ok (.bl false) h else .stuck
      | _ => .stuck)
    | _ => .stuck)
variable {a : Expr} {fa : EX} {pos : Pos}
end
end Py

set_option Elab.async false
set_option linter.all false
set_option maxRecDepth 100000
set_option maxHeartbeats 3000000
/-! Own layer: return [x, a()]. -/
namespace Py
open PySem L2 PySem.Spec PyProof.Rows LamX
section
variable {X : Cx} {G : Gam} {f c' : Addr} {q a : Str} {σ0 : L2.St} {th : EX} {W : WX}
def lMade (x : Str) : (LH → R D) → SX := fun k => sRet (eLst (aCons (eC (.str x)) (aCons (fun _ h => k h) aNil)))
end
end Py

set_option Elab.async false
set_option linter.all false
set_option maxRecDepth 100000
set_option maxHeartbeats 3000000
/-! Own layer: return [x, isinstance(a(), t)]. -/
namespace Py
open PySem L2 PySem.Spec PyProof.Rows LamX
section
variable {X : Cx} {G : Gam} {f c' : Addr} {q a : Str} {σ0 : L2.St} {th : EX} {W : WX}
theorem isiZ {p p' pos p1 p2 : Pos} {tn : Str} (k : Kd) (ac : Act X G f c' q σ0 th a W) (hk : k ≠ .non) (hg : Gl X "isinstance") (hm : X.mg "isinstance" = none) (hgt : Gl X tn) (hmt : X.mg tn = none) (hvt : bootBuiltins tn = some (.type k.nm)) (hn : tn ≠ "__name__" := by decide) (hdb : (tn == ("__debug__" : Str)) = false := by decide)
    (s1 : starEach [.Call (.Name a p1) [] [] p2, .Name tn p'] X.env = (false, eval (.Call (.Name a p1) [] [] p2) X.env) :: starEach [.Name tn p'] X.env := by rfl) (s2 : starEach [.Name tn p'] X.env = (false, eval (.Name tn p') X.env) :: starEach [] X.env := by rfl) (hpl : (backTo pos (starEach [.Name tn p'] X.env)).any (·.1) = false := by rfl) :
    PE X (.Call (.Name "isinstance" p) [.Call (.Name a p1) [] [] p2, .Name tn p'] [] pos) (tZ G X.K f c' q σ0 (eIsi [k] th) (WE W)) := by
  refine PE_mono (pe_callB call_isi hg hm (by decide +kernel) (pa_cons (ac p1 p2) (pa_cons (pe_bltn (v := .ty k.nm) hgt hmt hvt rfl hn hdb) pa_nil s2) s1) (by decide) (by decide) s1 hpl) ?_
  rintro σ H Q ⟨sl, co, m, r, h, rh, rs, o⟩
  refine ⟨sl, co, m, r, h, rh, rs, ?_⟩
  rcases Out.bindR o with ⟨d, h1, e, o⟩ | ⟨c, fs, h1, e, o⟩
  · rw [e]
    intro m1 H1 v p1 d1
    cases z : kindD d h1 with
    | none => simp only [z] at o; exact o.elim
    | some kd =>
      simp only [z] at o
      have e1 := kit_ok X.K kd k hk
      refine ⟨v, .ty k.nm, _, _, _, rfl, .ty _, ty_ok p1.rel d1 z, e1, ?_⟩
      have y := o m1 H1 _ p1 (.bl _)
      simpa using y
  · rw [e]; exact o
def isiK (k : Kd) (t : LH → R D) : LH → R D := fun h => (t h).bind fun d h1 => match kindD d h1 with
  | some x => .ok (.bl (([k] : List Kd).any fun t => x.is t)) h1
  | none => .stuck
def lMadeIs (x : Str) (kd : Kd) : (LH → R D) → SX := fun k => sRet (eLst (aCons (eC (.str x)) (aCons (fun _ h => isiK kd k h) aNil)))
theorem lMadeIs_ok {x : Str} {kd : Kd} {ce ae : Expr} {pos lp : Pos} (he : PE X ae (tZ G X.K f c' q σ0 (eIsi [kd] th) (WE W))) (hc : PE X ce (tE G X.K E0 (eC (.str x)))) (h1 : starEach [ce, ae] X.env = (false, eval ce X.env) :: starEach [ae] X.env := by rfl)
    (h2 : starEach [ae] X.env = (false, eval ae X.env) :: starEach [] X.env := by rfl) :
    PSs X [.Return (some (.List [ce, ae] lp)) pos] (fun Z σ H => tB G X.K f c' q σ0 th (WE W σ) (lMadeIs x kd) Z σ H) := by
  refine PSs_mono (pss_one (ps_ret (pe_lst (pa_cons hc (pa_cons he pa_nil h2) h1)))) ?_
  rintro Z σ H ⟨m, h, r0, r, rh, rs0, rs, sl, co, o⟩
  refine ⟨m, r, h, rh, rs, ?_⟩
  intro m1 H1 v pA dA
  refine ⟨sl, pA.code rh co, m1, r0, h, pA.rel, pA.s rs0, ?_⟩
  have o : OutS G X.K (WE W σ) m h.length H Z (((aCons (eC (.str x)) (aCons (fun _ h => eIsi [kd] th r0 h) aNil) r h).bind fun xs h => if xs.length ≤ sizeLine then R.ok (D.ref h.length) (h ++ [.lst xs]) else .stuck).to fun d h1 => .rt d h1) := o
  cases z : eIsi [kd] th r0 h with
  | stuck => simp only [aCons, eC, R.bind_ok, z, R.bind_stuck] at o; exact o.elim
  | exc c fs h' =>
    simp only [aCons, eC, R.bind_ok, z, R.bind_exc] at o
    exact OutX.later pA o
  | ok d h2 =>
    simp only [aCons, aNil, eC, R.bind_ok, z] at o
    rw [if_pos (show [D.str x, d].length ≤ sizeLine by show 2 ≤ sizeLine; decide)] at o
    intro m2 H2 w pB dB
    refine ⟨by show 2 ≤ sizeLine; decide, fun p hp => ?_⟩
    have pC := pB.rel.new (o := .lst [.str x, d]) (u := .lst [v, w]) hp (fun m' ag e => ⟨_, upd_same, .cons ((pB.d dA).mono ag (Nat.le_succ _) (TK.upd_new hp)) (.cons (dB.mono ag (Nat.le_succ _) (TK.upd_new hp)) .nil)⟩)
    have y : RelD X.K (ext m2 h2.length p) (h2 ++ [O.lst [.str x, d]]).length (upd H2 p (.lst [v, w])) (.ref h2.length) (.ref (ext m2 h2.length p h2.length)) := .ref (by simp)
    rw [ext_self] at y
    exact o _ _ _ ((pA.trans pB).trans pC) y
end
end Py

set_option Elab.async false
set_option linter.all false
set_option maxRecDepth 100000
/-! Own layer: weakest preconditions of the combinators. -/
namespace Ev
open Py PySem
abbrev EP := Nat → List (Nat × D) → LH → Prop
def noE : EP := fun _ _ _ => False
def WP {α : Type} (r : R α) (Q : α → LH → Prop) (E : EP) : Prop := match r with
  | .ok a h => Q a h
  | .exc c fs h => E c fs h
  | .stuck => False
abbrev NP := LS → LH → Prop
def WF (f : F) (N : NP) (T : D → LH → Prop) (B C : NP) (E : EP) : Prop := match f with
  | .nx r h => N r h
  | .rt d h => T d h
  | .bk r h => B r h
  | .ct r h => C r h
  | .exc c fs h => E c fs h
  | .stuck => False
def noN : NP := fun _ _ => False

section base
variable {α β : Type} {E E' : EP} {Q Q' : α → LH → Prop}
theorem wp_bind {r : R α} {f : α → LH → R β} {Q : β → LH → Prop} (q : WP r (fun a h => WP (f a h) Q E) E) : WP (r.bind f) Q E := by
  cases r <;> exact q
theorem wf_to {r : R α} {f : α → LH → F} {N : NP} {T : D → LH → Prop} {B C : NP} (q : WP r (fun a h => WF (f a h) N T B C E) E) : WF (r.to f) N T B C E := by
  cases r <;> exact q
theorem wp_use {r : R α} (p : WP r Q' E') (q : ∀ a h, Q' a h → Q a h) (e : ∀ c fs h, E' c fs h → E c fs h) : WP r Q E := by
  cases r with
  | ok a h => exact q _ _ p
  | exc c fs h => exact e _ _ _ p
  | stuck => exact p
theorem wp_use0 {r : R α} (p : WP r Q' noE) (q : ∀ a h, Q' a h → Q a h) : WP r Q E := wp_use p q (fun _ _ _ z => z.elim)
theorem wp_eq {r : R α} {Q : α → LH → Prop} (p : WP r Q noE) : ∃ a h, r = .ok a h ∧ Q a h := by
  cases r with
  | ok a h => exact ⟨a, h, rfl, p⟩
  | exc c fs h => exact p.elim
  | stuck => exact p.elim
theorem wf_use {f : F} {N N' : NP} {T T' : D → LH → Prop} {B B' C C' : NP} (p : WF f N' T' B' C' E') (n : ∀ r h, N' r h → N r h) (t : ∀ d h, T' d h → T d h) (b : ∀ r h, B' r h → B r h) (c : ∀ r h, C' r h → C r h) (e : ∀ c fs h, E' c fs h → E c fs h) : WF f N T B C E := by
  cases f with
  | nx r h => exact n _ _ p
  | rt r h => exact t _ _ p
  | bk r h => exact b _ _ p
  | ct r h => exact c _ _ p
  | exc k fs h => exact e _ _ _ p
  | stuck => exact p
end base

/-! truth -/
def Tr (x : D) (h : LH) (P : Bool → Prop) : Prop := match truth x h with
  | some k => P k
  | none => False
def Br (b : Bool) (P P' : Prop) : Prop := match b with
  | true => P
  | false => P'
theorem br_t {b : Bool} {P P' : Prop} (e : b = true) (p : P) : Br b P P' := by subst e; exact p
theorem br_f {b : Bool} {P P' : Prop} (e : b = false) (p : P') : Br b P P' := by subst e; exact p
theorem br_s {b : Bool} {P P' : Prop} (p : b = true → P) (p' : b = false → P') : Br b P P' := by
  cases b
  · exact p' rfl
  · exact p rfl
theorem br_d {c : Prop} [Decidable c] {P P' : Prop} (p : c → P) (p' : ¬ c → P') : Br (decide c) P P' := br_s (fun e => p (of_decide_eq_true e)) (fun e => p' (of_decide_eq_false e))
theorem br_dt {c : Prop} [Decidable c] {P P' : Prop} (e : c) (p : P) : Br (decide c) P P' := br_t (decide_eq_true e) p
theorem br_df {c : Prop} [Decidable c] {P P' : Prop} (e : ¬ c) (p : P') : Br (decide c) P P' := br_f (decide_eq_false e) p
theorem br_nt {b : Bool} {P P' : Prop} (p : Br b P' P) : Br (!b) P P' := by cases b <;> exact p
theorem tr_bl {b : Bool} {h : LH} {P : Bool → Prop} (p : P b) : Tr (.bl b) h P := p
/-- what is wanted by the way -/
def Need (c P : Prop) : Prop := c ∧ P
theorem need {c P : Prop} (e : c) (p : P) : Need c P := ⟨e, p⟩
def IntAt (x : D) (P : Int → Prop) : Prop := ∃ i, x = .int i ∧ P i
theorem intat {i : Int} {P : Int → Prop} (p : P i) : IntAt (.int i) P := ⟨i, rfl, p⟩
def StrAt (x : D) (P : Str → Prop) : Prop := ∃ i, x = .str i ∧ P i
theorem strat {i : Str} {P : Str → Prop} (p : P i) : StrAt (.str i) P := ⟨i, rfl, p⟩
def NonAt (x : D) (P : Prop) : Prop := x = .non ∧ P
theorem nonat {P : Prop} (p : P) : NonAt .non P := ⟨rfl, p⟩

section ex
variable {E : EP} {Q : D → LH → Prop} {r : LS} {h : LH}
theorem wp_eV {i : Nat} {d : D} (e : r[i]? = some (some d)) (q : Q d h) : WP (eV i r h) Q E := by
  unfold eV; rw [e]; exact q
theorem wp_eC {d : D} (q : Q d h) : WP (eC d r h) Q E := q
theorem wp_e1 {op : D → LH → R D} {a : EX} (q : WP (a r h) (fun x h1 => WP (op x h1) Q E) E) : WP (e1 op a r h) Q E := wp_bind q
theorem wp_e2 {op : D → D → LH → R D} {a b : EX} (q : WP (a r h) (fun x h1 => WP (b r h1) (fun y h2 => WP (op x y h2) Q E) E) E) : WP (e2 op a b r h) Q E :=
  wp_bind (wp_use q (fun _ _ z => wp_bind z) (fun _ _ _ z => z))
theorem wp_aNil {Q : List D → LH → Prop} (q : Q [] h) : WP (aNil r h) Q E := q
theorem wp_aCons {a : EX} {b : AX} {Q : List D → LH → Prop} (q : WP (a r h) (fun x h1 => WP (b r h1) (fun xs h2 => Q (x :: xs) h2) E) E) : WP (aCons a b r h) Q E :=
  wp_bind (wp_use q (fun _ _ z => wp_bind z) (fun _ _ _ z => z))
theorem wp_eA {op : List D → LH → R D} {a : AX} (q : WP (a r h) (fun x h1 => WP (op x h1) Q E) E) : WP (eA op a r h) Q E := wp_bind q
theorem wp_truth {x : D} {h1 : LH} {R1 R2 : R D} (q : Tr x h1 fun k => Br k (WP R1 Q E) (WP R2 Q E)) : WP (match truth x h1 with | some true => R1 | some false => R2 | none => .stuck) Q E := by
  unfold Tr at q
  match e : truth x h1 with
  | some true => rw [e] at q; exact q
  | some false => rw [e] at q; exact q
  | none => rw [e] at q; exact q
theorem wp_eAnd {a b : EX} (q : WP (a r h) (fun x h1 => Tr x h1 fun k => Br k (WP (b r h1) Q E) (Q x h1)) E) : WP (eAnd a b r h) Q E :=
  wp_bind (wp_use q (fun x h1 z => wp_truth (R1 := b r h1) (R2 := .ok x h1) z) (fun _ _ _ z => z))
theorem wp_eOr {a b : EX} (q : WP (a r h) (fun x h1 => Tr x h1 fun k => Br k (Q x h1) (WP (b r h1) Q E)) E) : WP (eOr a b r h) Q E :=
  wp_bind (wp_use q (fun x h1 z => wp_truth (R2 := b r h1) (R1 := .ok x h1) z) (fun _ _ _ z => z))
theorem wp_eIf {t a b : EX} (q : WP (t r h) (fun x h1 => Tr x h1 fun k => Br k (WP (a r h1) Q E) (WP (b r h1) Q E)) E) : WP (eIf t a b r h) Q E :=
  wp_bind (wp_use q (fun x h1 z => wp_truth (R2 := b r h1) (R1 := a r h1) z) (fun _ _ _ z => z))
theorem wp_eNot {a : EX} (q : WP (a r h) (fun x h1 => Tr x h1 fun k => Q (.bl (!k)) h1) E) : WP (eNot a r h) Q E := by
  refine wp_bind (wp_use q (fun x h1 z => ?_) (fun _ _ _ z => z))
  unfold Tr at z
  match e : truth x h1 with
  | some k => rw [e] at z; exact z
  | none => rw [e] at z; exact z.elim
/-- what is a bool -/
def IsB (x : D) (P : Bool → Prop) : Prop := match x with
  | .bl b => P b
  | _ => False
theorem isb {b : Bool} {P : Bool → Prop} (p : P b) : IsB (.bl b) P := p
theorem wp_eB {a : EX} (q : WP (a r h) (fun x h1 => IsB x fun b => Q (.bl b) h1) E) : WP (eB a r h) Q E :=
  wp_bind (wp_use q (fun x h1 z => by cases x <;> exact z) (fun _ _ _ z => z))
theorem wp_eNotB {a : EX} (q : WP (a r h) (fun x h1 => IsB x fun b => Q (.bl (!b)) h1) E) : WP (eNotB a r h) Q E :=
  wp_bind (wp_use q (fun x h1 z => by cases x <;> exact z) (fun _ _ _ z => z))
theorem wp_eAndB {a b : EX} (q : WP (a r h) (fun x h1 => IsB x fun k => Br k (WP (b r h1) Q E) (Q (.bl false) h1)) E) : WP (eAndB a b r h) Q E :=
  wp_bind (wp_use q (fun x h1 z => by
    cases x with
    | bl k => cases k <;> exact z
    | _ => exact z) (fun _ _ _ z => z))
theorem wp_eOrB {a b : EX} (q : WP (a r h) (fun x h1 => IsB x fun k => Br k (Q (.bl true) h1) (WP (b r h1) Q E)) E) : WP (eOrB a b r h) Q E :=
  wp_bind (wp_use q (fun x h1 z => by
    cases x with
    | bl k => cases k <;> exact z
    | _ => exact z) (fun _ _ _ z => z))
/-! ints -/
theorem wp_ite {α : Type} {Q : α → LH → Prop} {a : α} {c : Prop} [Decidable c] (e : c) (q : Q a h) : WP (if c then .ok a h else .stuck) Q E := by
  rw [if_pos e]; exact q
variable {i j : Int}
theorem wp_add (q : Q (.int (i + j)) h) : WP (oAdd (.int i) (.int j) h) Q E := q
theorem wp_addT {xs ys : List D} (e : xs.length + ys.length ≤ sizeLine) (q : Q (.tup (xs ++ ys)) h) : WP (oAdd (.tup xs) (.tup ys) h) Q E := by
  exact wp_ite e q
theorem wp_addS {x y : Str} (e : x.length + y.length ≤ sizeLine) (q : Q (.str (x ++ y)) h) : WP (oAdd (.str x) (.str y) h) Q E := by
  exact wp_ite e q
theorem wp_sub (q : Q (.int (i - j)) h) : WP (oSub (.int i) (.int j) h) Q E := q
theorem wp_mul (e : (-(2 ^ 64) < i ∧ i < 2 ^ 64) ∨ (-(2 ^ 64) < j ∧ j < 2 ^ 64)) (q : Q (.int (i * j)) h) : WP (oMul (.int i) (.int j) h) Q E := by
  have : (small i || small j) = true := by
    unfold small
    simpa only [Bool.or_eq_true, Bool.and_eq_true, decide_eq_true_eq] using e
  show WP (if (small i || small j) = true then R.ok (D.int (i * j)) h else R.stuck) Q E
  rw [if_pos this]; exact q
theorem wp_mod (e : 0 < j) (q : Q (.int (i % j)) h) : WP (oMod (.int i) (.int j) h) Q E := by
  exact wp_ite e q
theorem wp_div (e : 0 < j ∧ j < 1073741824) (q : Q (.int (i / j)) h) : WP (oDiv (.int i) (.int j) h) Q E := by
  exact wp_ite e q
theorem wp_pow (e : 0 ≤ j ∧ j ≤ 1000000 ∧ i.natAbs < 2 ^ 64) (q : Q (.int (i ^ j.toNat)) h) : WP (oPow (.int i) (.int j) h) Q E := by
  exact wp_ite e q
theorem wp_lt (q : Q (.bl (decide (i < j))) h) : WP (oLt (.int i) (.int j) h) Q E := q
theorem wp_le (q : Q (.bl (decide (i ≤ j))) h) : WP (oLe (.int i) (.int j) h) Q E := q
theorem wp_gt (q : Q (.bl (decide (j < i))) h) : WP (oGt (.int i) (.int j) h) Q E := q
theorem wp_ge (q : Q (.bl (decide (j ≤ i))) h) : WP (oGe (.int i) (.int j) h) Q E := q
theorem wp_eqI (q : Q (.bl (decide (i = j))) h) : WP (oEq false (.int i) (.int j) h) Q E := q
theorem wp_neI (q : Q (.bl (!decide (i = j))) h) : WP (oEq true (.int i) (.int j) h) Q E := q
theorem wp_eqS {x y : Str} (q : Q (.bl (decide (x = y))) h) : WP (oEq false (.str x) (.str y) h) Q E := q
theorem wp_neS {x y : Str} (q : Q (.bl (!decide (x = y))) h) : WP (oEq true (.str x) (.str y) h) Q E := q
theorem wp_neg (q : Q (.int (-i)) h) : WP (oNeg (.int i) h) Q E := q
theorem wp_isN {neg : Bool} (q : Q (.bl (!neg)) h) : WP (oIsN neg .non h) Q E := q
theorem wp_isNI {neg : Bool} (q : Q (.bl neg) h) : WP (oIsN neg (.int i) h) Q E := q
theorem wp_bMax (q : Q (.int (if j > i then j else i)) h) : WP (bMax [.int i, .int j] h) Q E := q
theorem wp_bMin (q : Q (.int (if j < i then j else i)) h) : WP (bMin [.int i, .int j] h) Q E := q
theorem wp_bAbs (q : Q (.int (if i < 0 then -i else i)) h) : WP (bAbs [.int i] h) Q E := q
theorem wp_bInt (q : Q (.int i) h) : WP (bInt [.int i] h) Q E := q
theorem wp_bDivmod (e : 0 < j ∧ j < 1073741824) (q : Q (.tup [.int (i / j), .int (i % j)]) h) : WP (bDivmod [.int i, .int j] h) Q E := by
  exact wp_ite e q
/-! lists -/
/-- the heap h1 behind the heap h: what stood there stands, but at the places of W -/
def Ext (W : List Nat) (h h1 : LH) : Prop := h.length ≤ h1.length ∧ ∀ n, n < h.length → n ∉ W → h1[n]? = h[n]?
theorem Ext.rfl' {W : List Nat} {h : LH} : Ext W h h := ⟨Nat.le_refl _, fun _ _ _ => rfl⟩
theorem lt_of_at {n : Nat} {o : O} {h : LH} (e : h[n]? = some o) : n < h.length := by
  rcases Nat.lt_or_ge n h.length with z | z
  · exact z
  · rw [List.getElem?_eq_none z] at e; exact nomatch e
theorem Ext.get {W : List Nat} {h h1 : LH} (x : Ext W h h1) {n : Nat} {o : O} (e : h[n]? = some o) (k : n ∉ W) : h1[n]? = some o := by
  rw [x.2 n (lt_of_at e) k]; exact e
theorem Ext.get0 {h h1 : LH} (x : Ext [] h h1) {n : Nat} {o : O} (e : h[n]? = some o) : h1[n]? = some o := x.get e (fun z => nomatch z)
theorem Ext.get1 {p : Nat} {h h1 : LH} (x : Ext [p] h h1) {n : Nat} {o : O} (e : h[n]? = some o) (k : n ≠ p) : h1[n]? = some o := x.get e (fun z => by simp at z; exact k z)
theorem Ext.trans {W : List Nat} {h h1 h2 : LH} (x : Ext W h h1) (y : Ext W h1 h2) : Ext W h h2 :=
  ⟨Nat.le_trans x.1 y.1, fun n a b => by rw [y.2 n (Nat.lt_of_lt_of_le a x.1) b, x.2 n a b]⟩
theorem Ext.wide {W W' : List Nat} {h h1 : LH} (x : Ext W h h1) (w : ∀ n, n < h.length → n ∈ W → n ∈ W') : Ext W' h h1 := ⟨x.1, fun n a b => x.2 n a (fun z => b (w n a z))⟩
theorem Ext.w0 {W : List Nat} {h h1 : LH} (x : Ext [] h h1) : Ext W h h1 := x.wide (fun _ _ z => nomatch z)
theorem ext_push {h : LH} {o : O} {W : List Nat} : Ext W h (h ++ [o]) := ⟨by simp, fun n a _ => by rw [List.getElem?_append_left a]⟩
theorem ext_set {h : LH} {n : Nat} {o : O} : Ext [n] h (h.set n o) := ⟨by simp, fun k a b => by
  rw [List.getElem?_set_ne (fun z => b (by simp [z]))]⟩
theorem at_push {h : LH} {o : O} : (h ++ [o])[h.length]? = some o := by simp
theorem at_set {h : LH} {n : Nat} {o o' : O} (e : h[n]? = some o') : (h.set n o)[n]? = some o := by
  rw [List.getElem?_set_self (lt_of_at e)]
/-- a new thing, in a heap of its own name -/
theorem wp_new {o : O} (q : ∀ n h1, h.length ≤ n → Ext [] h h1 → h1[n]? = some o → Q (.ref n) h1) : Q (.ref h.length) (h ++ [o]) := q _ _ (Nat.le_refl _) ext_push at_push
theorem wp_eTup {a : AX} (q : WP (a r h) (fun xs h1 => Need (xs.length ≤ sizeLine) (Q (.tup xs) h1)) E) : WP (eTup a r h) Q E :=
  wp_eA (wp_use q (fun xs h1 z => by simp only [if_pos z.1]; exact z.2) (fun _ _ _ z => z))
theorem wp_eLst {a : AX} (q : WP (a r h) (fun xs h1 => Need (xs.length ≤ sizeLine) (∀ n h2, h1.length ≤ n → Ext [] h1 h2 → h2[n]? = some (.lst xs) → Q (.ref n) h2)) E) : WP (eLst a r h) Q E :=
  wp_eA (wp_use q (fun xs h1 z => by simp only [if_pos z.1]; exact wp_new z.2) (fun _ _ _ z => z))
theorem wp_addL {n k : Nat} {xs ys : List D} (e1 : h[n]? = some (.lst xs)) (e2 : h[k]? = some (.lst ys)) (e : xs.length + ys.length ≤ sizeLine) (q : ∀ n h1, h.length ≤ n → Ext [] h h1 → h1[n]? = some (.lst (xs ++ ys)) → Q (.ref n) h1) : WP (oAdd (.ref n) (.ref k) h) Q E := by
  simp only [oAdd, e1, e2, if_pos e]; exact wp_new q
theorem wp_mulL {n : Nat} {k : Int} {xs : List D} (e1 : h[n]? = some (.lst xs)) (e : xs.length * k.toNat ≤ sizeLine ∧ -(2 ^ 63) ≤ k ∧ k < 2 ^ 63) (q : ∀ n h1, h.length ≤ n → Ext [] h h1 → h1[n]? = some (.lst (List.replicate k.toNat xs).flatten) → Q (.ref n) h1) : WP (oMul (.ref n) (.int k) h) Q E := by
  simp only [oMul, e1, if_pos e]; exact wp_new q
theorem seq_lst {n : Nat} {xs : List D} (e : h[n]? = some (.lst xs)) : seqD (.ref n) h = some xs := by simp only [seqD, e]
theorem seq_tup {xs : List D} : seqD (.tup xs) h = some xs := rfl
theorem seq_scr {ns : List Int} : seqD (.scr ns) h = some (ns.map .int) := rfl
theorem wp_ix {x : D} {xs : List D} {d : D} (e : seqD x h = some xs) (k : L2.atI xs i = some d) (q : Q d h) : WP (oIx x (.int i) h) Q E := by
  unfold oIx; simp only [e, k]; exact q
theorem wp_in {x y : D} {xs : List D} {neg : Bool} (e : seqD y h = some xs) (k : (flatD x && xs.all flatD) = true) (q : Q (.bl (if neg then !(xs.any fun z => eqF z x) else xs.any fun z => eqF z x)) h) : WP (oIn neg x y h) Q E := by
  unfold oIn; simp only [e, if_pos k]; exact q
theorem wp_len {x : D} {xs : List D} (e : seqD x h = some xs) (q : Q (.int (xs.length : Nat)) h) : WP (bLen [x] h) Q E := by
  cases x with
  | str s => exact nomatch e
  | _ => unfold bLen; simp only [e]; exact q
theorem wp_bList {x : D} {xs : List D} (e : seqD x h = some xs) (q : ∀ n h1, h.length ≤ n → Ext [] h h1 → h1[n]? = some (.lst xs) → Q (.ref n) h1) : WP (bList [x] h) Q E := by
  unfold bList; simp only [e]; exact wp_new q
theorem wp_bTuple {x : D} {xs : List D} (e : seqD x h = some xs) (q : Q (.tup xs) h) : WP (bTuple [x] h) Q E := by
  unfold bTuple; simp only [e]; exact q
theorem intsD_map (ns : List Int) : intsD (ns.map .int) = some ns := by
  induction ns with
  | nil => rfl
  | cons a r ih => simp [intsD, ih]
theorem boolsD_map (ns : List Bool) : boolsD (ns.map .bl) = some ns := by
  induction ns with
  | nil => rfl
  | cons a r ih => simp [boolsD, ih]
theorem wp_sorted {x : D} {ns : List Int} (e : seqD x h = some (ns.map .int)) (k : ns.length < 64) (q : ∀ n h1, h.length ≤ n → Ext [] h h1 → h1[n]? = some (.lst ((sortI ns).map .int)) → Q (.ref n) h1) : WP (bSorted [x] h) Q E := by
  unfold bSorted; simp only [e, Option.bind_some, intsD_map, if_pos k]; exact wp_new q
theorem wp_bAll {n : Nat} {bs : List Bool} (e : h[n]? = some (.lst (bs.map .bl))) (q : Q (.bl (bs.all id)) h) : WP (bAll [.ref n] h) Q E := by
  unfold bAll lstD; simp only [e, Option.bind_some, boolsD_map]; exact q
theorem wp_listR {a b : EX} (q : WP (a r h) (fun x h1 => WP (b r h1) (fun y h2 => IntAt x fun i => IntAt y fun j => Need ((-(2 ^ 62) ≤ i ∧ i < 2 ^ 62) ∧ (-(2 ^ 62) ≤ j ∧ j < 2 ^ 62) ∧ j - i ≤ 1000000) (∀ n h3, h2.length ≤ n → Ext [] h2 h3 → h3[n]? = some (.lst (rangeL i j)) → Q (.ref n) h3)) E) E) : WP (eListR a b r h) Q E :=
  wp_bind (wp_use q (fun x h1 z => wp_bind (wp_use z (fun y h2 w => by
    obtain ⟨i, rfl, j, rfl, ⟨k1, k2, k3⟩, q⟩ := w
    have : small62 i = true ∧ small62 j = true ∧ j - i ≤ 1000000 := by
      unfold small62; simp only [Bool.and_eq_true, decide_eq_true_eq]; exact ⟨k1, k2, k3⟩
    simp only [if_pos this]; exact wp_new q) (fun _ _ _ z => z))) (fun _ _ _ z => z))
/-! fields -/
theorem wp_fld {c i n : Nat} {o : EX} {d : D} {fs : List (Nat × D)} (q : WP (o r h) (fun x h1 => ∃ n fs d, x = .ref n ∧ h1[n]? = some (.ins c fs) ∧ getA i fs = some d ∧ Q d h1) E) : WP (eFld c i o r h) Q E :=
  wp_e1 (wp_use q (fun x h1 z => by
    obtain ⟨n, fs, d, rfl, e, g, q⟩ := z
    simp only [e, if_pos, g]; exact q) (fun _ _ _ z => z))
end ex
end Ev

set_option Elab.async false
set_option linter.all false
set_option maxRecDepth 100000
namespace Ev
open Py PySem
section ex
variable {E : EP} {Q : D → LH → Prop} {r : LS} {h : LH}
def FdAt (c i : Nat) (x : D) (h : LH) (P : D → Prop) : Prop := ∃ n fs d, x = .ref n ∧ h[n]? = some (.ins c fs) ∧ getA i fs = some d ∧ P d
theorem fdat {c i n : Nat} {fs : List (Nat × D)} {d : D} {P : D → Prop} (e : h[n]? = some (.ins c fs)) (g : getA i fs = some d) (p : P d) : FdAt c i (.ref n) h P := ⟨n, fs, d, rfl, e, g, p⟩
theorem wp_eFld {c i : Nat} {o : EX} (q : WP (o r h) (fun x h1 => FdAt c i x h1 fun d => Q d h1) E) : WP (eFld c i o r h) Q E := wp_fld (n := 0) (d := .non) (fs := []) q
theorem wp_eCall {op : KF} {a k : AX} (q : WP (a r h) (fun ds h1 => WP (k r h1) (fun es h2 => WP (op ds es h2) Q E) E) E) : WP (eCall op a k r h) Q E :=
  wp_bind (wp_use q (fun _ _ z => wp_bind z) (fun _ _ _ z => z))
theorem wp_opF {n k : Nat} {bd : List D → List D → List D} {cf : CF} {ds es xs : List D} (l : ds.length = n ∧ es.length = k) (e : bd ds es = xs) (q : WP (cf xs h) Q E) : WP (opF n k bd cf ds es h) Q E := by
  subst e; unfold opF; rw [if_pos l]; exact q
theorem wp_opF0 {n k : Nat} {cf : CF} {ds es : List D} (l : ds.length = n ∧ es.length = k) (q : WP (cf ds h) Q E) : WP (opF n k bd0 cf ds es h) Q E := wp_opF l rfl q
/-- a new instance -/
theorem wp_opM {c n k : Nat} {bd : List D → List D → List D} {cf : CF} {ds es : List D} (l : ds.length = n ∧ es.length = k) (q : ∀ p h1, h.length ≤ p → Ext [] h h1 → h1[p]? = some (.ins c []) → WP (cf (bd (.ref p :: ds) es) h1) (fun v h2 => NonAt v (Q (.ref p) h2)) E) : WP (opM c n k bd cf ds es h) Q E := by
  unfold opM; rw [if_pos l]
  exact wp_bind (wp_use (q _ _ (Nat.le_refl _) ext_push at_push) (fun v h2 z => by obtain ⟨rfl, z⟩ := z; exact z) (fun _ _ _ z => z))
def InsAt (c : Nat) (x : D) (h : LH) (P : Nat → Prop) : Prop := ∃ n fs, x = .ref n ∧ h[n]? = some (.ins c fs) ∧ P n
theorem insat {c n : Nat} {fs : List (Nat × D)} {P : Nat → Prop} (e : h[n]? = some (.ins c fs)) (p : P n) : InsAt c (.ref n) h P := ⟨n, fs, rfl, e, p⟩
theorem wp_eMeth {c : Nat} {op : KF} {o : EX} {a k : AX} (q : WP (o r h) (fun x h1 => InsAt c x h1 fun n => WP (a r h1) (fun ds h2 => WP (k r h2) (fun es h3 => WP (op (.ref n :: ds) es h3) Q E) E) E) E) : WP (eMeth c op o a k r h) Q E :=
  wp_bind (wp_use q (fun x h1 z => by
    obtain ⟨n, fs, rfl, e, z⟩ := z
    simp only [e, if_pos]
    exact wp_bind (wp_use z (fun _ _ z => wp_bind z) (fun _ _ _ z => z))) (fun _ _ _ z => z))
theorem wp_runF {n k : Nat} {b : SX} {ds : List D} {r0 : LS} (l : ds.length = n) (e : ds.map some ++ List.replicate k none = r0) (q : WF (b r0 h) (fun _ h' => Q .non h') Q noN noN E) : WP (runF n k b ds h) Q E := by
  subst e
  unfold runF; rw [if_pos l]
  revert q
  cases b (ds.map some ++ List.replicate k none) h with
  | nx r h => exact fun z => z
  | rt r h => exact fun z => z
  | bk r h => exact fun z => z.elim
  | ct r h => exact fun z => z.elim
  | exc k fs h => exact fun z => z
  | stuck => exact fun z => z
theorem wp_chain {op op' : D → D → LH → R D} {a b c : EX} (q : WP (a r h) (fun x h1 => WP (b r h1) (fun y h2 => WP (op x y h2) (fun z h3 => IsB z fun k => Br k (WP (c r h3) (fun w h4 => WP (op' y w h4) Q E) E) (Q (.bl false) h3)) E) E) E) : WP (eChain op op' a b c r h) Q E :=
  wp_bind (wp_use q (fun x h1 z => wp_bind (wp_use z (fun y h2 z => wp_bind (wp_use z (fun v h3 z => by
    cases v with
    | bl k => cases k with
      | true => exact wp_bind z
      | false => exact z
    | _ => exact z.elim) (fun _ _ _ z => z))) (fun _ _ _ z => z))) (fun _ _ _ z => z))
/-! slices -/
def PIs (P : Option Int → LH → Prop) (d : D) (h : LH) : Prop := ∃ i, d = .int i ∧ P (some i) h
theorem pis {P : Option Int → LH → Prop} {i : Int} (p : P (some i) h) : PIs P (.int i) h := ⟨i, rfl, p⟩
theorem wp_pNo {P : Option Int → LH → Prop} (p : P none h) : WP (pNo r h) P E := p
theorem wp_pSome {P : Option Int → LH → Prop} {a : EX} (p : WP (a r h) (PIs P) E) : WP (pSome a r h) P E :=
  wp_bind (wp_use p (fun x h1 z => by obtain ⟨i, rfl, z⟩ := z; exact z) (fun _ _ _ z => z))
def SlAt (x : D) (l u : Option Int) (h : LH) (Q : D → LH → Prop) : Prop := WP (match x with
  | .tup xs => .ok (.tup (cutD xs l u)) h
  | .ref n => (match h[n]? with
    | some (.lst xs) => .ok (.ref h.length) (h ++ [.lst (cutD xs l u)])
    | _ => .stuck)
  | _ => .stuck) Q noE
theorem slat_tup {xs : List D} {l u : Option Int} (q : Q (.tup (cutD xs l u)) h) : SlAt (.tup xs) l u h Q := q
theorem slat_lst {n : Nat} {xs : List D} {l u : Option Int} (e : h[n]? = some (.lst xs)) (q : ∀ n h1, h.length ≤ n → Ext [] h h1 → h1[n]? = some (.lst (cutD xs l u)) → Q (.ref n) h1) : SlAt (.ref n) l u h Q := by
  unfold SlAt; simp only [e]; exact wp_new q
theorem wp_eSl {a : EX} {lo hi : PX} (q : WP (a r h) (fun x h1 => WP (lo r h1) (fun l h2 => WP (hi r h2) (fun u h3 => SlAt x l u h3 Q) E) E) E) : WP (eSl a lo hi r h) Q E :=
  wp_bind (wp_use q (fun _ _ z => wp_bind (wp_use z (fun _ _ z => wp_bind (wp_use z (fun _ _ z => wp_use z (fun _ _ z => z) (fun _ _ _ z => z.elim)) (fun _ _ _ z => z))) (fun _ _ _ z => z))) (fun _ _ _ z => z))
/-! methods of lists -/
def LstAt (x : D) (h : LH) (P : Nat → Prop) : Prop := ∃ n xs, x = .ref n ∧ h[n]? = some (.lst xs) ∧ P n
theorem lstat {n : Nat} {xs : List D} {P : Nat → Prop} (e : h[n]? = some (.lst xs)) (p : P n) : LstAt (.ref n) h P := ⟨n, xs, rfl, e, p⟩
theorem wp_eBM {op : D → List D → LH → R D} {o : EX} {a : AX} (q : WP (o r h) (fun x h1 => LstAt x h1 fun n => WP (a r h1) (fun ds h2 => WP (op (.ref n) ds h2) Q E) E) E) : WP (eBM op o a r h) Q E :=
  wp_bind (wp_use q (fun x h1 z => by
    obtain ⟨n, xs, rfl, e, z⟩ := z
    simp only [lstD, e]
    exact wp_bind z) (fun _ _ _ z => z))
theorem wp_append {n : Nat} {xs : List D} {y : D} (e : h[n]? = some (.lst xs)) (l : xs.length < sizeLine) (q : ∀ h1, Ext [n] h h1 → h1[n]? = some (.lst (xs ++ [y])) → Q .non h1) : WP (mAppend (.ref n) [y] h) Q E := by
  simp only [mAppend, onL, e, if_pos l]; exact q _ ext_set (at_set e)
theorem wp_clear {n : Nat} {xs : List D} (e : h[n]? = some (.lst xs)) (q : ∀ h1, Ext [n] h h1 → h1[n]? = some (.lst []) → Q .non h1) : WP (mClear (.ref n) [] h) Q E := by
  simp only [mClear, onL, e]; exact q _ ext_set (at_set e)
/-! kinds -/
def KdAt (d : D) (h : LH) (P : Kd → Prop) : Prop := ∃ k, kindD d h = some k ∧ P k
theorem kd_int {i : Int} {P : Kd → Prop} (p : P .int) : KdAt (.int i) h P := ⟨_, rfl, p⟩
theorem kd_bl {i : Bool} {P : Kd → Prop} (p : P .bool) : KdAt (.bl i) h P := ⟨_, rfl, p⟩
theorem kd_str {i : Str} {P : Kd → Prop} (p : P .str) : KdAt (.str i) h P := ⟨_, rfl, p⟩
theorem kd_non {P : Kd → Prop} (p : P .non) : KdAt .non h P := ⟨_, rfl, p⟩
theorem kd_tup {xs : List D} {P : Kd → Prop} (p : P .tuple) : KdAt (.tup xs) h P := ⟨_, rfl, p⟩
theorem kd_lst {n : Nat} {xs : List D} {P : Kd → Prop} (e : h[n]? = some (.lst xs)) (p : P .list) : KdAt (.ref n) h P := ⟨_, by simp only [kindD, e], p⟩
theorem wp_eIsi {ks : List Kd} {a : EX} (q : WP (a r h) (fun d h1 => KdAt d h1 fun k => Q (.bl (ks.any fun t => k.is t)) h1) E) : WP (eIsi ks a r h) Q E :=
  wp_e1 (wp_use q (fun x h1 z => by obtain ⟨k, e, z⟩ := z; simp only [e]; exact z) (fun _ _ _ z => z))
theorem kind_lst {n : Nat} {xs : List D} (e : h[n]? = some (.lst xs)) : kindD (.ref n) h = some .list := by simp only [kindD, e]
/-! own len and repr -/
theorem wp_lenO {c n : Nat} {cf : CF} {fs : List (Nat × D)} (e : h[n]? = some (.ins c fs)) (q : WP (cf [.ref n] h) (fun v h1 => IntAt v fun k => Need (0 ≤ k ∧ k < 2 ^ 63) (Q (.int k) h1)) E) : WP (bLenO c cf [.ref n] h) Q E := by
  simp only [bLenO, e, if_pos]
  exact wp_bind (wp_use q (fun v h1 z => by obtain ⟨k, rfl, l, z⟩ := z; simp only [if_pos l]; exact z) (fun _ _ _ z => z))
theorem wp_reprO {c n : Nat} {cf : CF} {fs : List (Nat × D)} (e : h[n]? = some (.ins c fs)) (q : WP (cf [.ref n] h) (fun v h1 => StrAt v fun x => Q (.str x) h1) E) : WP (bReprO c cf [.ref n] h) Q E := by
  simp only [bReprO, e, if_pos]
  exact wp_bind (wp_use q (fun v h1 z => by obtain ⟨k, rfl, z⟩ := z; exact z) (fun _ _ _ z => z))
theorem wp_eFmt {a : EX} (q : WP (a r h) (fun d h1 => ∃ x, fmtD d h1 = some x ∧ Q (.str x) h1) E) : WP (eFmt a r h) Q E :=
  wp_e1 (wp_use q (fun x h1 z => by obtain ⟨k, e, z⟩ := z; simp only [e]; exact z) (fun _ _ _ z => z))
def JGo (as : List EX) (acc : Str) (r : LS) (h : LH) (Q : D → LH → Prop) (E : EP) : Prop := WP (jGo as acc r h) Q E
theorem wp_eJoin {as : List EX} (q : JGo as Str.empty r h Q E) : WP (eJoin as r h) Q E := q
theorem jgo_nil {acc : Str} (q : Q (.str acc) h) : JGo [] acc r h Q E := q
theorem jgo_cons {a : EX} {as : List EX} {acc : Str} (q : WP (a r h) (fun d h1 => StrAt d fun x => Need ((acc ++ x).length ≤ sizeLine) (JGo as (acc ++ x) r h1 Q E)) E) : JGo (a :: as) acc r h Q E :=
  wp_bind (wp_use q (fun d h1 z => by obtain ⟨x, rfl, l, z⟩ := z; simp only [if_pos l]; exact z) (fun _ _ _ z => z))
theorem wp_eqD {x y : D} {a b : PyData} {neg : Bool} (e : deep h 60 x = some a) (e' : deep h 60 y = some b) (s : (SeqAt.shaped a && SeqAt.shaped b) = true) (q : Q (.bl (if neg then !PyData.eqv a b else PyData.eqv a b)) h) : WP (oEqD neg x y h) Q E := by
  simp only [oEqD, e, e', if_pos s]; exact q
theorem wp_eqR {n k : Nat} {a b : PyData} {neg : Bool} (e : deep h 60 (.ref n) = some a) (e' : deep h 60 (.ref k) = some b) (s : (SeqAt.shaped a && SeqAt.shaped b) = true) (q : Q (.bl (if neg then !PyData.eqv a b else PyData.eqv a b)) h) : WP (oEq neg (.ref n) (.ref k) h) Q E := wp_eqD e e' s q
theorem wp_eqT {n k : List D} {a b : PyData} {neg : Bool} (e : deep h 60 (.tup n) = some a) (e' : deep h 60 (.tup k) = some b) (s : (SeqAt.shaped a && SeqAt.shaped b) = true) (q : Q (.bl (if neg then !PyData.eqv a b else PyData.eqv a b)) h) : WP (oEq neg (.tup n) (.tup k) h) Q E := wp_eqD e e' s q
end ex
/-! statements -/
section st
variable {E : EP} {N B C : NP} {T : D → LH → Prop} {r : LS} {h : LH}
theorem wf_nil (q : N r h) : WF (sNil r h) N T B C E := q
theorem wf_seq {a b : SX} (q : WF (a r h) (fun r1 h1 => WF (b r1 h1) N T B C E) T B C E) : WF (sSeq a b r h) N T B C E := by
  unfold sSeq
  revert q
  cases a r h <;> exact fun z => z
theorem wf_E {a : EX} (q : WP (a r h) (fun _ h1 => N r h1) E) : WF (sE a r h) N T B C E := wf_to q
theorem wf_Ret {a : EX} (q : WP (a r h) T E) : WF (sRet a r h) N T B C E := wf_to q
theorem wf_If {t : EX} {a b : SX} (q : WP (t r h) (fun x h1 => Tr x h1 fun k => Br k (WF (a r h1) N T B C E) (WF (b r h1) N T B C E)) E) : WF (sIf t a b r h) N T B C E :=
  wf_to (wp_use q (fun x h1 z => by
    unfold Tr at z
    match e : truth x h1 with
    | some true => rw [e] at z; exact z
    | some false => rw [e] at z; exact z
    | none => rw [e] at z; exact z) (fun _ _ _ z => z))
theorem wf_Asg {a : EX} {g : GX} (q : WP (a r h) (fun d h1 => WF (g d r h1) N T B C E) E) : WF (sAsg a g r h) N T B C E := wf_to q
theorem wf_gN {i : Nat} {d : D} {r' : LS} (e : r.set i (some d) = r') (q : N r' h) : WF (gN i d r h) N T B C E := by subst e; exact q
theorem wf_gT {n : Nat} {gs : GXs} {xs : List D} (l : xs.length = n) (q : WF (gs xs r h) N T B C E) : WF (gT n gs (.tup xs) r h) N T B C E := by
  simp only [gT, if_pos l]; exact q
theorem wf_gsNil (q : N r h) : WF (gsNil [] r h) N T B C E := q
theorem wf_gsCons {g : GX} {gs : GXs} {d : D} {ds : List D} (q : WF (g d r h) (fun r1 h1 => WF (gs ds r1 h1) N T B C E) T B C E) : WF (gsCons g gs (d :: ds) r h) N T B C E := by
  unfold gsCons
  revert q
  cases e : g d r h <;> simp only [e] <;> exact fun z => z
def SubAt (d x y : D) (r : LS) (h : LH) (N : NP) : Prop := ∃ n k xs j, x = .ref n ∧ y = .int k ∧ h[n]? = some (.lst xs) ∧ L2.ixN xs.length k = some j ∧ ∀ h1, Ext [n] h h1 → h1[n]? = some (.lst (xs.set j d)) → N r h1
theorem subat {n j : Nat} {k : Int} {xs : List D} {d : D} (e : h[n]? = some (.lst xs)) (l : L2.ixN xs.length k = some j) (q : ∀ h1, Ext [n] h h1 → h1[n]? = some (.lst (xs.set j d)) → N r h1) : SubAt d (.ref n) (.int k) r h N := ⟨n, k, xs, j, rfl, rfl, e, l, q⟩
theorem wf_gSub {o i : EX} {d : D} (q : WP (o r h) (fun x h1 => WP (i r h1) (fun y h2 => SubAt d x y r h2 N) E) E) : WF (gSub o i d r h) N T B C E :=
  wf_to (wp_use q (fun x h1 z => wf_to (wp_use z (fun y h2 z => by
    obtain ⟨n, k, xs, j, rfl, rfl, e, l, q⟩ := z
    simp only [e, l]; exact q _ ext_set (at_set e)) (fun _ _ _ z => z))) (fun _ _ _ z => z))
def FldAt (c i : Nat) (d x : D) (r : LS) (h : LH) (N : NP) : Prop := ∃ n fs, x = .ref n ∧ h[n]? = some (.ins c fs) ∧ fs.length < 1000 ∧ ∀ h1, Ext [n] h h1 → h1[n]? = some (.ins c (putA i d fs)) → N r h1
theorem fldat {c i n : Nat} {d : D} {fs fs' : List (Nat × D)} (e : h[n]? = some (.ins c fs)) (l : fs.length < 1000) (p : putA i d fs = fs') (q : ∀ h1, Ext [n] h h1 → h1[n]? = some (.ins c fs') → N r h1) : FldAt c i d (.ref n) r h N := by subst p; exact ⟨n, fs, rfl, e, l, q⟩
theorem wf_sFld {c i : Nat} {o e : EX} (q : WP (e r h) (fun d h1 => WP (o r h1) (fun x h2 => FldAt c i d x r h2 N) E) E) : WF (sFld c i o e r h) N T B C E :=
  wf_to (wp_use q (fun x h1 z => wf_to (wp_use z (fun y h2 z => by
    obtain ⟨n, fs, rfl, e, l, q⟩ := z
    simp only [e, if_pos (And.intro rfl l)]
    rw [if_pos ⟨trivial, l⟩]
    exact q _ ext_set (at_set e)) (fun _ _ _ z => z))) (fun _ _ _ z => z))
def ParAt (i j : Nat) (ds : List D) (r : LS) (h : LH) (N : NP) : Prop := ∃ x y, ds = [x, y] ∧ N ((r.set i (some x)).set j (some y)) h
theorem parat {i j : Nat} {x y : D} {r' : LS} (e : (r.set i (some x)).set j (some y) = r') (q : N r' h) : ParAt i j [x, y] r h N := by subst e; exact ⟨x, y, rfl, q⟩
theorem wf_sPar {i j : Nat} {a : AX} (q : WP (a r h) (fun ds h1 => ParAt i j ds r h1 N) E) : WF (sPar i j a r h) N T B C E :=
  wf_to (wp_use q (fun x h1 z => by obtain ⟨x, y, rfl, z⟩ := z; exact z) (fun _ _ _ z => z))
/-! loops -/
def SrcAt (x : D) (h : LH) (P : Src → Prop) : Prop := ∃ s, srcOf x h = some s ∧ P s
theorem srcat_tup {xs : List D} {P : Src → Prop} (p : P (.its xs)) : SrcAt (.tup xs) h P := ⟨_, rfl, p⟩
theorem srcat_scr {ns : List Int} {P : Src → Prop} (p : P (.its (ns.map .int))) : SrcAt (.scr ns) h P := ⟨_, rfl, p⟩
theorem srcat_lst {n : Nat} {xs : List D} {P : Src → Prop} (e : h[n]? = some (.lst xs)) (p : P (.lst n)) : SrcAt (.ref n) h P := ⟨.lst n, by simp only [srcOf, e], p⟩
theorem wp_iSeq {a : EX} {P : Src → LH → Prop} (q : WP (a r h) (fun x h1 => SrcAt x h1 fun s => P s h1) E) : WP (iSeq a r h) P E :=
  wp_bind (wp_use q (fun x h1 z => by obtain ⟨s, e, z⟩ := z; simp only [e]; exact z) (fun _ _ _ z => z))
theorem wp_iEnum {a : EX} {k : Int} {P : Src → LH → Prop} (q : WP (a r h) (fun x h1 => SrcAt x h1 fun s => P (.enm k s) h1) E) : WP (iEnum k a r h) P E :=
  wp_bind (wp_use q (fun x h1 z => by obtain ⟨s, e, z⟩ := z; simp only [e]; exact z) (fun _ _ _ z => z))
theorem wp_iRng1 {a : EX} {P : Src → LH → Prop} (q : WP (a r h) (fun x h1 => IntAt x fun j => Need (-(2 ^ 62) ≤ j ∧ j < 2 ^ 62) (P (.its (rangeL 0 j)) h1)) E) : WP (iRng1 a r h) P E :=
  wp_bind (wp_use q (fun x h1 z => by
    obtain ⟨j, rfl, l, z⟩ := z
    have : small62 j = true := by unfold small62; simpa only [Bool.and_eq_true, decide_eq_true_eq] using l
    simp only [if_pos this]; exact z) (fun _ _ _ z => z))
theorem wp_iRng2 {a b : EX} {P : Src → LH → Prop} (q : WP (a r h) (fun x h1 => WP (b r h1) (fun y h2 => IntAt x fun i => IntAt y fun j => Need ((-(2 ^ 62) ≤ i ∧ i < 2 ^ 62) ∧ (-(2 ^ 62) ≤ j ∧ j < 2 ^ 62)) (P (.its (rangeL i j)) h2)) E) E) : WP (iRng2 a b r h) P E :=
  wp_bind (wp_use q (fun x h1 z => wp_bind (wp_use z (fun y h2 z => by
    obtain ⟨i, rfl, j, rfl, ⟨l1, l2⟩, z⟩ := z
    have : small62 i = true ∧ small62 j = true := by
      unfold small62; simp only [Bool.and_eq_true, decide_eq_true_eq]; exact ⟨l1, l2⟩
    simp only [if_pos this]; exact z) (fun _ _ _ z => z))) (fun _ _ _ z => z))
theorem wf_sFor {it : IX} {g : GX} {b : SX} (q : WP (it r h) (fun s h1 => WF (forX s g b fuelN 0 r h1) N T B C E) E) : WF (sFor it g b r h) N T B C E := wf_to q
/-- a loop by an invariant of the turns done -/
theorem wf_loop {s : Src} {g : GX} {b : SX} (item : Nat → D) (len : Nat) (Inv : Nat → LS → LH → Prop) (hl : len < 1000000) (i0 : Inv 0 r h)
    (ie : ∀ r h, Inv len r h → srcAt s h len = some none ∧ N r h)
    (is : ∀ i r h, i < len → Inv i r h → srcAt s h i = some (some (item i)) ∧ WF (g (item i) r h) (fun r1 h1 => WF (b r1 h1) (Inv (i + 1)) T N (Inv (i + 1)) E) (fun _ _ => False) noN noN noE) :
    WF (forX s g b fuelN 0 r h) N T B C E := by
  have main : ∀ k i r h, i + k = len → Inv i r h → ∀ f, k < f → WF (forX s g b f i r h) N T B C E := by
    intro k
    induction k with
    | zero =>
      intro i r h e hi f hf
      obtain ⟨f, rfl⟩ : ∃ f', f = f' + 1 := ⟨f - 1, by omega⟩
      have : i = len := by omega
      subst this
      obtain ⟨e1, e2⟩ := ie _ _ hi
      unfold forX; rw [e1]; exact e2
    | succ k ih =>
      intro i r h e hi f hf
      obtain ⟨f, rfl⟩ : ∃ f', f = f' + 1 := ⟨f - 1, by omega⟩
      obtain ⟨e1, e2⟩ := is i r h (by omega) hi
      unfold forX; rw [e1]
      revert e2
      simp only
      cases g (item i) r h with
      | nx r1 h1 =>
        simp only
        intro e2
        have e2 : WF (b r1 h1) (Inv (i + 1)) T N (Inv (i + 1)) E := e2
        revert e2
        cases b r1 h1 with
        | nx r2 h2 => exact fun z => ih (i + 1) _ _ (by omega) z f (by omega)
        | ct r2 h2 => exact fun z => ih (i + 1) _ _ (by omega) z f (by omega)
        | bk r2 h2 => exact fun z => z
        | rt d h2 => exact fun z => z
        | exc c fs h2 => exact fun z => z
        | stuck => exact fun z => z
      | rt d h1 => exact fun z => z.elim
      | bk d h1 => exact fun z => z.elim
      | ct d h1 => exact fun z => z.elim
      | exc c fs h1 => exact fun z => z.elim
      | stuck => exact fun z => z.elim
  exact main len 0 r h (by omega) i0 _ (by unfold fuelN; omega)
/-- a while loop, by an invariant and a number that goes down -/
theorem wf_while {t : EX} {b : SX} (m : Nat) (Inv : Nat → LS → LH → Prop) (hm : m < 1000000) (i0 : Inv m r h)
    (is : ∀ m r h, Inv m r h → WP (t r h) (fun x h1 => Tr x h1 fun k => Br k (WF (b r h1) (fun r2 h2 => ∃ m' < m, Inv m' r2 h2) T N (fun r2 h2 => ∃ m' < m, Inv m' r2 h2) E) (N r h1)) E) :
    WF (sWhile t b r h) N T B C E := by
  have main : ∀ m, ∀ r h, Inv m r h → ∀ f, m < f → WF (whileX t b f r h) N T B C E := by
    intro m
    induction m using Nat.strongRecOn with
    | ind m ih =>
      intro r h hi f hf
      obtain ⟨f, rfl⟩ : ∃ f', f = f' + 1 := ⟨f - 1, by omega⟩
      unfold whileX
      refine wf_to (wp_use (is m r h hi) (fun x h1 z => ?_) (fun _ _ _ z => z))
      unfold Tr at z
      match e : truth x h1 with
      | some false => rw [e] at z; exact z
      | none => rw [e] at z; exact z
      | some true =>
        rw [e] at z
        have z : WF (b r h1) (fun r2 h2 => ∃ m' < m, Inv m' r2 h2) T N (fun r2 h2 => ∃ m' < m, Inv m' r2 h2) E := z
        revert z
        simp only
        cases b r h1 with
        | nx r2 h2 => exact fun ⟨m', l, z⟩ => ih m' l _ _ z f (by omega)
        | ct r2 h2 => exact fun ⟨m', l, z⟩ => ih m' l _ _ z f (by omega)
        | bk r2 h2 => exact fun z => z
        | rt d h2 => exact fun z => z
        | exc c fs h2 => exact fun z => z
        | stuck => exact fun z => z
  exact main m r h i0 _ (by unfold fuelN; omega)
/-- a new list, then Q -/
def NewL (Q : D → LH → Prop) : List D → LH → Prop := fun acc h2 => ∀ n h3, h2.length ≤ n → Ext [] h2 h3 → h3[n]? = some (.lst acc) → Q (.ref n) h3
/-- a comprehension by an invariant -/
theorem wp_eComp {Q : D → LH → Prop} {vs : List Nat} {it : IX} {t e : EX} {r' : LS} (ew : wipeL r vs = r') (q : WP (it r h) (fun s h1 => WP (compX s vs t e fuelN 0 [] r' h1) (NewL Q) E) E) : WP (eComp vs it t e r h) Q E := by
  subst ew
  exact wp_bind (wp_use q (fun s h1 z => wp_bind (wp_use z (fun acc h2 z => wp_new z) (fun _ _ _ z => z))) (fun _ _ _ z => z))
theorem wp_comp {Q : List D → LH → Prop} {s : Src} {vs : List Nat} {t e : EX} (item : Nat → D) (len : Nat) (Inv : Nat → List D → LH → Prop) (hl : len < 1000000) (i0 : Inv 0 [] h)
    (ie : ∀ acc h, Inv len acc h → srcAt s h len = some none ∧ Q acc h)
    (is : ∀ i acc h, i < len → Inv i acc h → srcAt s h i = some (some (item i)) ∧ ∃ r1, tgt vs (item i) r = some r1 ∧ WP (t r1 h) (fun x h2 => Tr x h2 fun k => Br k (WP (e r1 h2) (fun y h3 => Need (acc.length < sizeLine) (Inv (i + 1) (acc ++ [y]) h3)) noE) (Inv (i + 1) acc h2)) noE) :
    WP (compX s vs t e fuelN 0 [] r h) Q E := by
  have main : ∀ k i acc h, i + k = len → Inv i acc h → ∀ f, k < f → WP (compX s vs t e f i acc r h) Q E := by
    intro k
    induction k with
    | zero =>
      intro i acc h e0 hi f hf
      obtain ⟨f, rfl⟩ : ∃ f', f = f' + 1 := ⟨f - 1, by omega⟩
      have : i = len := by omega
      subst this
      obtain ⟨e1, e2⟩ := ie _ _ hi
      unfold compX; rw [e1]; exact e2
    | succ k ih =>
      intro i acc h e0 hi f hf
      obtain ⟨f, rfl⟩ : ∃ f', f = f' + 1 := ⟨f - 1, by omega⟩
      obtain ⟨e1, r1, e2, q⟩ := is i acc h (by omega) hi
      unfold compX; rw [e1]; simp only [e2]
      obtain ⟨x, h2, et, q⟩ := wp_eq q
      simp only [et]
      unfold Tr at q
      match e3 : truth x h2 with
      | none => rw [e3] at q; exact q.elim
      | some false => rw [e3] at q; exact ih (i + 1) _ _ (by omega) q f (by omega)
      | some true =>
        rw [e3] at q
        obtain ⟨y, h3, ee, l, q⟩ := wp_eq q
        simp only [ee, if_pos l]
        exact ih (i + 1) _ _ (by omega) q f (by omega)
  exact main len 0 [] h (by omega) i0 _ (by unfold fuelN; omega)
theorem src_lst {n i : Nat} {xs : List D} (e : h[n]? = some (.lst xs)) : srcAt (.lst n) h i = some xs[i]? := by simp only [srcAt, e]
end st
end Ev

set_option Elab.async false
set_option linter.all false
set_option maxRecDepth 100000
namespace Ev
open Py PySem
/-! sequences: a tuple or a list -/
def SeqOf (x : D) (h : LH) (xs : List D) : Prop := x = .tup xs ∨ ∃ n, x = .ref n ∧ h[n]? = some (.lst xs)
theorem SeqOf.ext {x : D} {h h1 : LH} {xs : List D} (s : SeqOf x h xs) (e : Ext [] h h1) : SeqOf x h1 xs := by
  rcases s with rfl | ⟨n, rfl, a⟩
  · exact .inl rfl
  · exact .inr ⟨n, rfl, e.get0 a⟩
theorem SeqOf.seq {x : D} {h : LH} {xs : List D} (s : SeqOf x h xs) : seqD x h = some xs := by
  rcases s with rfl | ⟨n, rfl, a⟩
  · rfl
  · exact seq_lst a
theorem SeqOf.kd {x : D} {h : LH} {xs : List D} (s : SeqOf x h xs) : kindD x h = some .tuple ∨ kindD x h = some .list := by
  rcases s with rfl | ⟨n, rfl, a⟩
  · exact .inl rfl
  · exact .inr (by simp only [kindD, a])
/-- a source that stays, with the items xs -/
def Gives (s : Src) (h : LH) (xs : List D) : Prop := ∀ h1, Ext [] h h1 → ∀ i, srcAt s h1 i = some xs[i]?
theorem SeqOf.src {x : D} {h : LH} {xs : List D} (s : SeqOf x h xs) {P : Src → Prop} (p : ∀ s, Gives s h xs → P s) : SrcAt x h P := by
  rcases s with rfl | ⟨n, rfl, a⟩
  · exact srcat_tup (p _ fun _ _ _ => rfl)
  · exact srcat_lst a (p _ fun h1 e i => src_lst (e.get0 a))
theorem gives_its {h : LH} {xs : List D} : Gives (.its xs) h xs := fun _ _ _ => rfl
theorem gives_lst {h : LH} {n : Nat} {xs : List D} (a : h[n]? = some (.lst xs)) : Gives (.lst n) h xs := fun h1 e i => src_lst (e.get0 a)
def enumD (k : Int) (xs : List D) : List D := (xs.zipIdx).map fun p => .tup [.int (k + (p.2 : Nat)), p.1]
theorem enumD_at {k : Int} {xs : List D} {i : Nat} : (enumD k xs)[i]? = xs[i]?.map fun d => .tup [.int (k + (i : Nat)), d] := by
  unfold enumD
  rw [List.getElem?_map, List.getElem?_zipIdx]
  cases xs[i]? <;> simp
theorem enumD_len {k : Int} {xs : List D} : (enumD k xs).length = xs.length := by simp [enumD]
theorem gives_enm {s : Src} {h : LH} {k : Int} {xs : List D} (g : Gives s h xs) : Gives (.enm k s) h (enumD k xs) := fun h1 e i => by
  show (srcAt s h1 i).map _ = _
  rw [g h1 e i, enumD_at]; rfl
theorem Gives.ext {s : Src} {h h1 : LH} {xs : List D} (g : Gives s h xs) (e : Ext [] h h1) : Gives s h1 xs := fun h2 e2 i => g h2 (e.trans e2) i
/-- a loop over the items xs -/
theorem wf_forL {E : EP} {N B C : NP} {T : D → LH → Prop} {r : LS} {h : LH} {s : Src} {g : GX} {b : SX} (xs : List D) (hl : xs.length < 1000000) (Inv : Nat → LS → LH → Prop) (gv : ∀ i r h, Inv i r h → srcAt s h i = some xs[i]?) (i0 : Inv 0 r h)
    (ie : ∀ r h, Inv xs.length r h → N r h)
    (is : ∀ i d r h, xs[i]? = some d → Inv i r h → WF (g d r h) (fun r1 h1 => WF (b r1 h1) (Inv (i + 1)) T N (Inv (i + 1)) E) (fun _ _ => False) noN noN noE) :
    WF (forX s g b fuelN 0 r h) N T B C E := by
  refine wf_loop (fun i => xs.getD i .non) xs.length Inv hl i0 (fun r h z => ⟨?_, ie r h z⟩) (fun i r h l z => ?_)
  · rw [gv _ _ h z]; simp
  · have e : xs[i]? = some xs[i] := List.getElem?_eq_getElem l
    have e' : xs.getD i .non = xs[i] := by simp [List.getD, e]
    rw [e']
    exact ⟨by rw [gv _ _ h z, e], is i _ r h e z⟩
theorem rangeL_len {a b : Int} : (rangeL a b).length = (b - a).toNat := by simp [rangeL]
theorem rangeL_at {a b : Int} {i : Nat} {d : D} (e : (rangeL a b)[i]? = some d) : i < (b - a).toNat ∧ d = .int (a + (i : Nat)) := by
  unfold rangeL at e
  rw [List.getElem?_map] at e
  rcases Nat.lt_or_ge i (b - a).toNat with l | l
  · rw [List.getElem?_range l] at e
    exact ⟨l, by simpa using e.symm⟩
  · rw [List.getElem?_eq_none (by simpa using l)] at e; exact nomatch e
/-- for _ in range(a, a + n) -/
theorem wf_forR {E : EP} {N B C : NP} {T : D → LH → Prop} {r : LS} {h : LH} {g : GX} {b : SX} {a z : Int} (n : Nat) (hl : n < 1000000) (hn : (z - a).toNat = n) (Inv : Nat → LS → LH → Prop) (i0 : Inv 0 r h)
    (ie : ∀ r h, Inv n r h → N r h)
    (is : ∀ i r h, i < n → Inv i r h → WF (g (.int (a + (i : Nat))) r h) (fun r1 h1 => WF (b r1 h1) (Inv (i + 1)) T N (Inv (i + 1)) E) (fun _ _ => False) noN noN noE) :
    WF (forX (.its (rangeL a z)) g b fuelN 0 r h) N T B C E := by
  refine wf_forL (rangeL a z) (by rw [rangeL_len]; omega) Inv (fun _ _ _ _ => rfl) i0 (fun r h q => ?_) (fun i d r h e q => ?_)
  · rw [rangeL_len, hn] at q; exact ie r h q
  · obtain ⟨l, rfl⟩ := rangeL_at e
    exact is i r h (by omega) q
/-- a comprehension over a source that stays; test and item are told by functions of the item -/
theorem wp_compL {E : EP} {r : LS} {h : LH} {s : Src} {vs : List Nat} {t e : EX} (xs : List D) (p : D → Bool) (v : D → D) (gv : Gives s h xs) (hl : xs.length < 1000000)
    (is : ∀ d h1, d ∈ xs → Ext [] h h1 → ∃ r1, tgt vs d r = some r1 ∧ WP (t r1 h1) (fun x h2 => Tr x h2 fun k => k = p d ∧ Ext [] h1 h2 ∧ (p d = true → WP (e r1 h2) (fun y h3 => y = v d ∧ Ext [] h2 h3) noE)) noE) :
    WP (compX s vs t e fuelN 0 [] r h) (fun acc h1 => acc = (xs.filter p).map v ∧ Ext [] h h1) E := by
  refine wp_comp (fun i => xs.getD i .non) xs.length (fun i acc h1 => acc = ((xs.take i).filter p).map v ∧ Ext [] h h1) hl ⟨by simp, Ext.rfl'⟩ (fun acc h1 z => ⟨?_, ?_⟩) (fun i acc h1 l z => ?_)
  · rw [gv h1 z.2]; simp
  · refine ⟨?_, z.2⟩
    rw [z.1, List.take_of_length_le (Nat.le_refl _)]
  · have e1 : xs[i]? = some xs[i] := List.getElem?_eq_getElem l
    have e' : xs.getD i .non = xs[i] := by simp [List.getD, e1]
    rw [e']
    refine ⟨by rw [gv h1 z.2, e1], ?_⟩
    obtain ⟨r1, et, q⟩ := is xs[i] h1 (List.getElem_mem l) z.2
    refine ⟨r1, et, wp_use q (fun x h2 q => ?_) (fun _ _ _ z => z)⟩
    have tk : xs.take (i + 1) = xs.take i ++ [xs[i]] := by rw [List.take_succ, e1]; rfl
    unfold Tr at q ⊢
    match e3 : truth x h2 with
    | none => rw [e3] at q; exact q
    | some k =>
      rw [e3] at q
      obtain ⟨rfl, x2, q⟩ := q
      show Br (p xs[i]) _ _
      refine br_s (fun c => ?_) (fun c => ?_)
      · refine wp_use (q c) (fun y h3 q => ?_) (fun _ _ _ z => z)
        obtain ⟨rfl, x3⟩ := q
        refine ⟨?_, ?_, (z.2.trans x2).trans x3⟩
        · rw [z.1, List.length_map]
          refine Nat.lt_of_le_of_lt (List.length_filter_le _ _) ?_
          rw [List.length_take]; unfold sizeLine; omega
        · rw [z.1, tk, List.filter_append, List.map_append]; simp [c]
      · refine ⟨?_, z.2.trans x2⟩
        rw [z.1, tk, List.filter_append, List.map_append]; simp [c]
theorem Ext.via {W W' : List Nat} {h h1 h2 : LH} (x : Ext W h h1) (y : Ext W' h1 h2) (w : ∀ n, n < h.length → n ∈ W' → n ∈ W) : Ext W h h2 :=
  ⟨Nat.le_trans x.1 y.1, fun n a b => by rw [y.2 n (Nat.lt_of_lt_of_le a x.1) (fun z => b (w n a z)), x.2 n a b]⟩
theorem Ext.new {W : List Nat} {h h1 h2 : LH} {n : Nat} (x : Ext W h h1) (y : Ext [n] h1 h2) (w : h.length ≤ n) : Ext W h h2 :=
  x.via y (fun k a b => by simp at b; omega)
theorem Ext.then0 {W : List Nat} {h h1 h2 : LH} (x : Ext W h h1) (y : Ext [] h1 h2) : Ext W h h2 := x.via y (fun _ _ z => nomatch z)
theorem wp_powN {i j : Int} {m : Nat} {h : LH} {Q : D → LH → Prop} {E : EP} (em : j.toNat = m) (e : 0 ≤ j ∧ j ≤ 1000000) (e' : i.natAbs < 2 ^ 64) (q : Q (.int (i ^ m)) h) : WP (oPow (.int i) (.int j) h) Q E := by
  subst em; exact wp_pow ⟨e.1, e.2, e'⟩ q
/-! lists of numbers -/
def iD (ks : List Nat) : List D := ks.map fun (k : Nat) => .int (k : Int)
theorem iD_len {ks : List Nat} : (iD ks).length = ks.length := by simp [iD]
theorem iD_at {ks : List Nat} {i : Nat} : (iD ks)[i]? = ks[i]?.map fun (k : Nat) => .int (k : Int) := by simp [iD]
theorem iD_app {xs ys : List Nat} : iD (xs ++ ys) = iD xs ++ iD ys := by simp [iD]
theorem iD_mem {ks : List Nat} {d : D} (m : d ∈ iD ks) : ∃ k ∈ ks, d = .int (k : Int) := by
  obtain ⟨k, a, b⟩ := List.mem_map.1 m; exact ⟨k, a, b.symm⟩
theorem iD_flat {ks : List Nat} : (iD ks).all flatD = true := by
  rw [List.all_eq_true]; intro d m; obtain ⟨k, _, rfl⟩ := iD_mem m; rfl
theorem iD_has {ks : List Nat} {k : Nat} : ((iD ks).any fun z => eqF z (.int (k : Int))) = decide (k ∈ ks) := by
  rw [Bool.eq_iff_iff, List.any_eq_true, decide_eq_true_eq]
  constructor
  · rintro ⟨d, m, e⟩
    obtain ⟨j, a, rfl⟩ := iD_mem m
    have : (j : Int) = k := by simpa [eqF] using e
    have : j = k := by omega
    exact this ▸ a
  · exact fun m => ⟨.int k, List.mem_map.2 ⟨k, m, rfl⟩, by simp [eqF]⟩
theorem iD_filter {ks : List Nat} {p : D → Bool} : (iD ks).filter p = iD (ks.filter fun k => p (.int (k : Int))) := by
  simp [iD, List.filter_map]; rfl
theorem wp_inN {x : D} {h : LH} {ks : List Nat} {k : Nat} {neg : Bool} {Q : D → LH → Prop} {E : EP} (e : seqD x h = some (iD ks)) (q : Q (.bl (if neg then !decide (k ∈ ks) else decide (k ∈ ks))) h) : WP (oIn neg (.int (k : Int)) x h) Q E := by
  refine wp_in e ?_ ?_
  · rw [iD_flat]; rfl
  · rw [iD_has]; exact q
theorem wp_ixN {x : D} {h : LH} {xs : List D} {k : Nat} {d : D} {Q : D → LH → Prop} {E : EP} (e : seqD x h = some xs) (a : xs[k]? = some d) (q : Q d h) : WP (oIx x (.int (k : Int)) h) Q E :=
  wp_ix e (L2.atI_nat a) q
theorem wp_ixS {x : D} {h : LH} {ns : List Int} {k : Nat} {i : Int} {Q : D → LH → Prop} {E : EP} (e : seqD x h = some (ns.map .int)) (a : ns[k]? = some i) (q : Q (.int i) h) : WP (oIx x (.int (k : Int)) h) Q E :=
  wp_ix e (L2.atI_nat (by rw [List.getElem?_map, a]; rfl)) q
end Ev

set_option Elab.async false
set_option linter.all false
set_option maxRecDepth 100000
/-! Own layer: texts of data, lengths; equality of data. -/
namespace Ev
open Py PySem
mutual
/-- at most so long a text -/
def room : PyData → Nat
  | .none => 4
  | .bool _ => 5
  | .int _ => 20
  | .str x => (reprText x).length
  | .list xs => 2 + roomAll xs
  | .tuple xs => 3 + roomAll xs
  | .dict _ => 0
def roomAll : List PyData → Nat
  | [] => 0
  | x :: xs => room x + 2 + roomAll xs
end
mutual
/-- whole numbers below 10 ** 18, no dicts -/
def tame : PyData → Bool
  | .int i => decide (i.natAbs < 10 ^ 18)
  | .none | .bool _ | .str _ => true
  | .list xs => tameAll xs
  | .tuple xs => tameAll xs
  | .dict _ => false
def tameAll : List PyData → Bool
  | [] => true
  | x :: xs => tame x && tameAll xs
end
theorem tf_len : ∀ (ts : List Str) (k : Nat) (acc : Str), (textFrom k acc ts).length ≤ acc.length + (ts.map fun t => t.length + 2).sum
  | [], k, acc => by simp [textFrom]
  | t :: ts, k, acc => by
    have := tf_len ts (k + 1) (acc ++ (if k > 0 then ", " else "" : String) ++ t)
    have e : (acc ++ (if k > 0 then ", " else "" : String) ++ t).length = acc.length + (if k > 0 then 2 else 0) + t.length := by
      rw [Str.length_append, Str.length_append]
      split <;> rfl
    rw [e] at this
    simp only [textFrom, List.map_cons, List.sum_cons]
    have : (if k > 0 then 2 else 0 : Nat) ≤ 2 := by split <;> omega
    omega
theorem join_len : ∀ (ts : List Str), (Str.join ", " ts).length ≤ (ts.map fun t => t.length + 2).sum
  | [] => by simp [Str.join, Str.empty, Str.length]
  | [x] => by simp [Str.join]
  | x :: y :: r => by
    have := join_len (y :: r)
    have e : (Str.join ", " (x :: y :: r)).length = x.length + 2 + (Str.join ", " (y :: r)).length := by
      rw [Str.join, Str.length_append, Str.length_append]; rfl
      intro z; exact nomatch z
    rw [e]
    simp only [List.map_cons, List.sum_cons] at this ⊢
    omega
mutual
theorem shown_len : ∀ d : PyData, tame d = true → d.shown.length ≤ room d
  | .none, _ => by rw [PyData.shown]; decide
  | .bool true, _ => by rw [PyData.shown]; decide
  | .bool false, _ => by rw [PyData.shown]; decide
  | .int i, t => by
    rw [PyData.shown, room]
    have t : i.natAbs < 10 ^ 18 := by simpa [tame] using t
    have e := int_text_length_le10 (k := 18) (by decide) t
    have : (Str.ofString (toString i)).length = (toString i).length := by rw [ofString_length]
    show (Str.ofString (toString i)).length ≤ 20
    omega
  | .str x, _ => by rw [PyData.shown, room]; exact Nat.le_refl _
  | .list xs, t => by
    rw [PyData.shown, room]
    have t : tameAll xs = true := by simpa [tame] using t
    have := shownAll_len xs t
    have h1 := tf_len (PyData.shownAll xs) 0 "["
    unfold listText
    rw [Str.length_append]
    have e1 : ("[" : Str).length = 1 := by decide
    have e2 : ("]" : Str).length = 1 := by decide
    omega
  | .tuple xs, t => by
    rw [PyData.shown, room]
    have t : tameAll xs = true := by simpa [tame] using t
    have := shownAll_len xs t
    have h1 := join_len (PyData.shownAll xs)
    unfold tupleText
    rw [Str.length_append, Str.length_append]
    have e1 : ("(" : Str).length = 1 := by decide
    have e2 : ((if (PyData.shownAll xs).length == 1 then ",)" else ")" : String) : Str).length ≤ 2 := by split <;> decide
    omega
  | .dict kvs, t => by simp [tame] at t
theorem shownAll_len : ∀ xs : List PyData, tameAll xs = true → ((PyData.shownAll xs).map fun t => t.length + 2).sum ≤ roomAll xs
  | [], _ => by rw [PyData.shownAll]; simp
  | x :: xs, t => by
    have t : tame x = true ∧ tameAll xs = true := by simpa [tameAll] using t
    have h1 := shown_len x t.1
    have h2 := shownAll_len xs t.2
    rw [PyData.shownAll, roomAll]
    simp only [List.map_cons, List.sum_cons]
    omega
end
mutual
theorem tame_show : ∀ d : PyData, tame d = true → d.showable = true ∧ d.hasDict = false
  | .none, _ => ⟨by simp [PyData.showable], by simp [PyData.hasDict]⟩
  | .bool _, _ => ⟨by simp [PyData.showable], by simp [PyData.hasDict]⟩
  | .str _, _ => ⟨by simp [PyData.showable], by simp [PyData.hasDict]⟩
  | .int i, t => by
    have t : i.natAbs < 10 ^ 18 := by simpa [tame] using t
    refine ⟨?_, by simp [PyData.hasDict]⟩
    rw [PyData.showable, decide_eq_true_eq]
    rcases Nat.eq_zero_or_pos i.natAbs with z | z
    · rw [z]; decide
    · have : i.natAbs.log2 < 60 := (Nat.log2_lt (by omega)).2 (Nat.lt_trans t (by decide))
      omega
  | .list xs, t => by
    have := tameAll_show xs (by simpa [tame] using t)
    exact ⟨by rw [PyData.showable]; exact this.1, by rw [PyData.hasDict]; exact this.2⟩
  | .tuple xs, t => by
    have := tameAll_show xs (by simpa [tame] using t)
    exact ⟨by rw [PyData.showable]; exact this.1, by rw [PyData.hasDict]; exact this.2⟩
  | .dict kvs, t => by simp [tame] at t
theorem tameAll_show : ∀ xs : List PyData, tameAll xs = true → PyData.showableAll xs = true ∧ PyData.hasDictAll xs = false
  | [], _ => ⟨by simp [PyData.showableAll], by simp [PyData.hasDictAll]⟩
  | x :: xs, t => by
    have t : tame x = true ∧ tameAll xs = true := by simpa [tameAll] using t
    have h1 := tame_show x t.1
    have h2 := tameAll_show xs t.2
    exact ⟨by rw [PyData.showableAll, h1.1, h2.1]; rfl, by rw [PyData.hasDictAll, h1.2, h2.2]; rfl⟩
end
/-! lists of numbers -/
def pN (ks : List Nat) : List PyData := ks.map fun (k : Nat) => .int (k : Int)
theorem mapO_nats {h : LH} {n : Nat} : ∀ ks : List Nat, mapO (deep h n) (iD ks) = some (pN ks)
  | [] => rfl
  | k :: ks => by
    have := mapO_nats (h := h) (n := n) ks
    show mapO (deep h n) (.int (k : Int) :: iD ks) = some (.int (k : Int) :: pN ks)
    have e : deep h n (.int (k : Int)) = some (.int (k : Int)) := by cases n <;> rfl
    rw [mapO, e, this]
theorem deep_list {h : LH} {m n : Nat} {xs : List D} {ds : List PyData} (e : h[n]? = some (.lst xs)) (q : mapO (deep h m) xs = some ds) : deep h (m + 1) (.ref n) = some (.list ds) := by
  rw [deep, e]; simp only [q]; rfl
theorem deep_tup {h : LH} {m : Nat} {xs : List D} {ds : List PyData} (q : mapO (deep h m) xs = some ds) : deep h (m + 1) (.tup xs) = some (.tuple ds) := by
  rw [deep, q]; rfl
theorem mapO_nil {α β : Type} {f : α → Option β} : mapO f [] = some [] := rfl
theorem mapO_cons {α β : Type} {f : α → Option β} {a : α} {r : List α} {b : β} {bs : List β} (e : f a = some b) (q : mapO f r = some bs) : mapO f (a :: r) = some (b :: bs) := by
  rw [mapO, e, q]
theorem depth_nats : ∀ {ks : List Nat}, PyData.depthAll (pN ks) = 0
  | [] => rfl
  | k :: ks => by
    have := depth_nats (ks := ks)
    show PyData.depthAll (.int (k : Int) :: pN ks) = _
    rw [PyData.depthAll, this, PyData.depth]; rfl
theorem lay_nats : ∀ {ks : List Nat}, PyData.canLayAll0 (pN ks) = true
  | [] => rfl
  | k :: ks => by
    have := lay_nats (ks := ks)
    show PyData.canLayAll0 (.int (k : Int) :: pN ks) = _
    rw [PyData.canLayAll0, this, PyData.canLay0]; rfl
theorem eqv_pN : ∀ {ks js : List Nat}, PyData.eqvAll (pN ks) (pN js) = decide (ks = js)
  | [], [] => by simp [pN, PyData.eqvAll]
  | [], _ :: _ => by simp [pN, PyData.eqvAll]
  | _ :: _, [] => by simp [pN, PyData.eqvAll]
  | k :: ks, j :: js => by
    have := eqv_pN (ks := ks) (js := js)
    show PyData.eqvAll (.int (k : Int) :: pN ks) (.int (j : Int) :: pN js) = _
    rw [PyData.eqvAll, this, PyData.eqv]
    rw [Bool.eq_iff_iff]; simp; intro _; omega
/-- small numbers -/
def Small (m : Nat) (ks : List Nat) : Prop := ks.length ≤ m ∧ ∀ k ∈ ks, k < 10 ^ 18
theorem shaped_natsT {ks : List Nat} : SeqAt.shaped (.tuple (pN ks)) = true := by
  unfold SeqAt.shaped; rw [PyData.canLay0, lay_nats, PyData.depth, depth_nats]; rfl
theorem eqv_natsT {ks js : List Nat} : PyData.eqv (.tuple (pN ks)) (.tuple (pN js)) = decide (ks = js) := by rw [PyData.eqv]; exact eqv_pN
theorem Small.up {m m' : Nat} {ks : List Nat} (s : Small m ks) (l : m ≤ m') : Small m' ks := ⟨Nat.le_trans s.1 l, s.2⟩
theorem SeqOf.ext1 {x : D} {h h1 : LH} {xs : List D} {p c : Nat} {fs : List (Nat × D)} (s : SeqOf x h xs) (a : h[p]? = some (.ins c fs)) (e : Ext [p] h h1) : SeqOf x h1 xs := by
  rcases s with rfl | ⟨n, rfl, b⟩
  · exact .inl rfl
  · refine .inr ⟨n, rfl, e.get1 b (fun z => ?_)⟩
    subst z; rw [a] at b; exact nomatch b
section
variable {E : EP} {Q : D → LH → Prop} {h : LH}
theorem wp_eqNT {ks js : List Nat} {neg : Bool} (q : Q (.bl (if neg then !decide (ks = js) else decide (ks = js))) h) : WP (oEq neg (.tup (iD ks)) (.tup (iD js)) h) Q E := by
  refine wp_eqT (deep_tup (mapO_nats _)) (deep_tup (mapO_nats _)) (by rw [shaped_natsT, shaped_natsT]; rfl) ?_
  rw [eqv_natsT]; exact q
/-- flat data -/
def datF : D → PyData
  | .non => .none
  | .bl b => .bool b
  | .int i => .int i
  | .str x => .str x
  | _ => .none
/-- flat data with a short text -/
def Mild (x : D) : Prop := flatD x = true ∧ tame (datF x) = true ∧ room (datF x) ≤ 50
end
end Ev

set_option Elab.async false
set_option linter.all false
set_option maxRecDepth 100000
/-! Plain trees: parents, ways, children. No program here. -/
namespace Ev
structure Ups (ks : List Nat) (m : Nat) : Prop where
  len : ks.length ≤ m
  up : ∀ j k : Nat, ks[j]? = some k → k ≤ j
theorem Ups.push {ks : List Nat} {m k : Nat} (U : Ups ks m) (l : ks.length < m) (e : k ≤ ks.length) : Ups (ks ++ [k]) m := by
  refine ⟨by simp; omega, fun j k' z => ?_⟩
  rw [List.getElem?_append] at z
  split at z
  · exact U.up _ _ z
  · rename_i c
    have : j = ks.length := by
      rcases Nat.lt_or_ge j (ks.length + 1) with y | y
      · omega
      · rw [List.getElem?_eq_none (by simp; omega)] at z; exact nomatch z
    subst this
    simp at z; omega
theorem Ups.mono {ks : List Nat} {m m' : Nat} (U : Ups ks m) (l : m ≤ m') : Ups ks m' := ⟨Nat.le_trans U.len l, U.up⟩
theorem Ups.nil {m : Nat} : Ups [] m := ⟨by simp, fun j k e => by simp at e⟩
theorem Ups.mem {ks : List Nat} {m k : Nat} (U : Ups ks m) (e : k ∈ ks) : k < ks.length := by
  obtain ⟨j, l, rfl⟩ := List.mem_iff_getElem.1 e
  have := U.up j _ (List.getElem?_eq_getElem l)
  omega
theorem Ups.take {ks : List Nat} {m i : Nat} (U : Ups ks m) : Ups (ks.take i) m := by
  refine ⟨by rw [List.length_take]; have := U.len; omega, fun j k e => ?_⟩
  rw [List.getElem?_take] at e
  split at e
  · exact U.up _ _ e
  · exact nomatch e
/-! children -/
def kidsN (ks : List Nat) (g : Nat) : List Nat := ((ks.zipIdx).filter fun p => p.1 == g).map fun p => p.2 + 1
theorem kids_mem {ks : List Nat} {g c : Nat} : c ∈ kidsN ks g ↔ ∃ j, c = j + 1 ∧ ks[j]? = some g := by
  unfold kidsN
  rw [List.mem_map]
  constructor
  · rintro ⟨⟨a, j⟩, m, rfl⟩
    rw [List.mem_filter, List.mem_zipIdx_iff_getElem?] at m
    refine ⟨j, rfl, ?_⟩
    rw [m.1]
    have : a = g := by simpa using m.2
    rw [this]
  · rintro ⟨j, rfl, e⟩
    refine ⟨(g, j), ?_, rfl⟩
    rw [List.mem_filter, List.mem_zipIdx_iff_getElem?]
    exact ⟨e, by simp⟩
/-! struck groups -/
structure SOk (ks ss : List Nat) : Prop where
  rng : ∀ s ∈ ss, 0 < s ∧ s ≤ ks.length
  nd : ss.Nodup
  cl : ∀ s ∈ ss, ∀ c ∈ kidsN ks s, c ∈ ss
theorem SOk.nil {ks : List Nat} : SOk ks [] := ⟨(fun _ z => nomatch z), List.nodup_nil, (fun _ z => nomatch z)⟩
theorem SOk.push {ks ss : List Nat} {g : Nat} (S : SOk ks ss) (l : 0 < g ∧ g ≤ ks.length) (n : g ∉ ss) (c : ∀ c ∈ kidsN ks g, c ∈ ss) : SOk ks (ss ++ [g]) := by
  refine ⟨fun s m => ?_, ?_, fun s m z y => ?_⟩
  · rcases List.mem_append.1 m with m | m
    · exact S.rng s m
    · simp at m; subst m; exact l
  · rw [List.nodup_append]; exact ⟨S.nd, by simp, fun a b c d e => by simp at d; subst d; subst e; exact n b⟩
  · rcases List.mem_append.1 m with m | m
    · exact List.mem_append_left _ (S.cl s m z y)
    · simp at m; subst m; exact List.mem_append_left _ (c z y)
theorem nodup_len : ∀ {n : Nat} {ss : List Nat}, ss.Nodup → (∀ s ∈ ss, s < n) → ss.length ≤ n
  | 0, [], _, _ => Nat.le_refl _
  | 0, s :: ss, _, l => absurd (l s (by simp)) (by omega)
  | n + 1, ss, d, l => by
    have := nodup_len (n := n) (d.erase n) (fun s m => by
      have h1 := l s (List.mem_of_mem_erase m)
      have h2 : s ≠ n := fun e => by subst e; exact (List.Nodup.mem_erase_iff d).1 m |>.1 rfl
      omega)
    rw [List.length_erase] at this
    split at this <;> omega
theorem SOk.len {ks ss : List Nat} (S : SOk ks ss) : ss.length ≤ ks.length := by
  have d : (ss.map fun s => s - 1).Nodup := by
    rw [List.nodup_iff_pairwise_ne, List.pairwise_map]
    refine List.Pairwise.imp_of_mem ?_ (List.nodup_iff_pairwise_ne.1 S.nd)
    intro a b ma mb ne
    have := S.rng a ma; have := S.rng b mb; omega
  have := nodup_len (n := ks.length) d (fun s m => by
    obtain ⟨a, ma, rfl⟩ := List.mem_map.1 m
    have := S.rng a ma; omega)
  simpa using this
theorem SOk.grow {ks ss : List Nat} {k : Nat} (S : SOk ks ss) (n : k ∉ ss) : SOk (ks ++ [k]) ss := by
  refine ⟨fun s m => by have := S.rng s m; simp; omega, S.nd, fun s m c z => ?_⟩
  obtain ⟨j, rfl, e⟩ := kids_mem.1 z
  rw [List.getElem?_append] at e
  split at e
  · exact S.cl s m _ (kids_mem.2 ⟨j, rfl, e⟩)
  · have : s = k := by
      rcases Nat.eq_zero_or_pos (j - ks.length) with y | y
      · rw [y] at e; simpa using e.symm
      · rw [List.getElem?_eq_none (by simp; omega)] at e; exact nomatch e
    subst this; exact absurd m n
/-! sorted -/
def insN (a : Nat) : List Nat → List Nat
  | [] => [a]
  | b :: r => if a ≤ b then a :: b :: r else b :: insN a r
def sortN : List Nat → List Nat
  | [] => []
  | a :: r => insN a (sortN r)
theorem insI_nat (a : Nat) : ∀ r : List Nat, Py.insI (a : Int) (r.map fun (k : Nat) => (k : Int)) = (insN a r).map fun (k : Nat) => (k : Int)
  | [] => rfl
  | b :: r => by
    show (if (a : Int) ≤ (b : Int) then _ else _) = _
    unfold insN
    by_cases c : a ≤ b
    · rw [if_pos (by omega), if_pos c]; rfl
    · rw [if_neg (by omega), if_neg c, insI_nat a r]; rfl
theorem sortI_nat : ∀ r : List Nat, Py.sortI (r.map fun (k : Nat) => (k : Int)) = (sortN r).map fun (k : Nat) => (k : Int)
  | [] => rfl
  | a :: r => by
    show Py.insI (a : Int) (Py.sortI (r.map fun (k : Nat) => (k : Int))) = _
    rw [sortI_nat r, insI_nat]; rfl
/-! ways -/
def wayF (ks : List Nat) : Nat → Nat → List Nat
  | _, 0 => [0]
  | 0, g + 1 => [g + 1]
  | f + 1, g + 1 => (g + 1) :: wayF ks f (ks.getD g 0)
def wayN (ks : List Nat) (g : Nat) : List Nat := wayF ks g g
theorem way_0 {ks : List Nat} : wayN ks 0 = [0] := rfl
theorem wayF_up {ks : List Nat} {m : Nat} (U : Ups ks m) : ∀ f g, g ≤ f → g ≤ ks.length → wayF ks f g = wayF ks g g
  | 0, g, l, _ => by have : g = 0 := by omega
                     subst this; rfl
  | f + 1, 0, _, _ => rfl
  | f + 1, g + 1, l, l2 => by
    have e : ks[g]? = some (ks[g]'(by omega)) := List.getElem?_eq_getElem (by omega)
    have e' : ks.getD g 0 = ks[g]'(by omega) := by simp [List.getD, e]
    have := U.up g _ e
    show (g + 1) :: wayF ks f (ks.getD g 0) = (g + 1) :: wayF ks g (ks.getD g 0)
    rw [e', wayF_up U f _ (by omega) (by omega)]
    rcases Nat.lt_or_ge g f with z | z
    · rw [wayF_up U g _ (by omega) (by omega)]
    · have : f = g := by omega
      subst this
      rw [wayF_up U f _ (by omega) (by omega)]
theorem way_s {ks : List Nat} {m g p : Nat} (U : Ups ks m) (e : ks[g]? = some p) : wayN ks (g + 1) = (g + 1) :: wayN ks p := by
  have l : g < ks.length := by
    rcases Nat.lt_or_ge g ks.length with z | z
    · exact z
    · rw [List.getElem?_eq_none z] at e; exact nomatch e
  have := U.up g p e
  show (g + 1) :: wayF ks g (ks.getD g 0) = (g + 1) :: wayF ks p p
  have e' : ks.getD g 0 = p := by simp [List.getD, e]
  rw [e', wayF_up U g p this (by omega)]
/-- by the parents -/
theorem way_ind {ks : List Nat} {m : Nat} (U : Ups ks m) {P : Nat → Prop} (z : P 0) (s : ∀ g p, ks[g]? = some p → p ≤ g → P p → P (g + 1)) : ∀ g, g ≤ ks.length → P g := by
  intro g
  induction g using Nat.strongRecOn with
  | ind g ih =>
    intro l
    match g, ih, l with
    | 0, _, _ => exact z
    | g + 1, ih, l =>
      have e : ks[g]? = some (ks[g]'(by omega)) := List.getElem?_eq_getElem (by omega)
      have := U.up g _ e
      exact s g _ e this (ih _ (by omega) (by omega))
theorem way_len {ks : List Nat} {m : Nat} (U : Ups ks m) : ∀ g, g ≤ ks.length → (wayN ks g).length ≤ g + 1 := by
  refine way_ind U (by rw [way_0]; simp) ?_
  intro g p e l ih
  rw [way_s U e]; simp; omega
def comN (ks : List Nat) (g s : Nat) : List Nat := (wayN ks g).filter fun x => decide (x ∈ wayN ks s)
def apN (ks : List Nat) (g s : Nat) : List Nat := (wayN ks g).filter fun x => !decide (x ∈ wayN ks s)
/-- below: seen is behind group on its way -/
def belN (ks : List Nat) (g s : Nat) : Bool := decide (s ∈ (wayN ks g).tail)
def zoneN (ks : List Nat) (g s : Nat) : Nat := if g = s then 2 else if s ∈ wayN ks g then 1 else 3
end Ev

set_option Elab.async false
set_option linter.all false
set_option maxRecDepth 100000
/-! Comprehensions over whole numbers, all and any. -/
namespace Ev
open Py PySem
section
variable {E : EP} {Q : D → LH → Prop} {r : LS} {h : LH} {s : Src} {vs : List Nat} {t e : EX}
theorem wp_filN {js : List Nat} (p : Nat → Bool) (v : Nat → D) (gv : Gives s h (iD js)) (hl : js.length < 1000000)
    (is : ∀ k ∈ js, ∀ h1, Ext [] h h1 → ∃ r1, tgt vs (.int (k : Int)) r = some r1 ∧ WP (t r1 h1) (fun x h2 => Tr x h2 fun b => b = p k ∧ Ext [] h1 h2 ∧ (p k = true → WP (e r1 h2) (fun y h3 => y = v k ∧ Ext [] h2 h3) noE)) noE)
    (q : ∀ n h2, h.length ≤ n → Ext [] h h2 → h2[n]? = some (.lst ((js.filter p).map v)) → Q (.ref n) h2) :
    WP (compX s vs t e fuelN 0 [] r h) (NewL Q) E := by
  refine wp_use0 (wp_compL (iD js) (fun d => match d with | .int i => p i.toNat | _ => false) (fun d => match d with | .int i => v i.toNat | _ => .non) gv (by rw [iD_len]; exact hl) ?_) ?_
  · intro d h1 m x1
    obtain ⟨k, mk, rfl⟩ := iD_mem m
    obtain ⟨r1, e1, w⟩ := is k mk h1 x1
    exact ⟨r1, e1, by simpa using w⟩
  · rintro acc h1 ⟨rfl, x1⟩ n h2 l2 x2 a2
    refine q n h2 (Nat.le_trans x1.1 l2) (x1.trans x2) ?_
    rw [a2, iD_filter]
    simp only [iD, List.map_map, Int.toNat_natCast]
    rfl
theorem wp_mapN {js : List Nat} (v : Nat → D) (gv : Gives s h (iD js)) (hl : js.length < 1000000)
    (is : ∀ k ∈ js, ∀ h1, Ext [] h h1 → ∃ r1, tgt vs (.int (k : Int)) r = some r1 ∧ WP (e r1 h1) (fun y h3 => y = v k ∧ Ext [] h1 h3) noE)
    (q : ∀ n h2, h.length ≤ n → Ext [] h h2 → h2[n]? = some (.lst (js.map v)) → Q (.ref n) h2) :
    WP (compX s vs (eC (.bl true)) e fuelN 0 [] r h) (NewL Q) E := by
  refine wp_filN (fun _ => true) v gv hl ?_ ?_
  · intro k m h1 x1
    obtain ⟨r1, e1, w⟩ := is k m h1 x1
    exact ⟨r1, e1, wp_eC ⟨rfl, Ext.rfl', fun _ => w⟩⟩
  · intro n h2 l x a
    rw [List.filter_eq_self.2 (fun _ _ => rfl)] at a
    exact q n h2 l x a
theorem gives_range {m : Nat} : Gives (.its (rangeL 0 (m : Int))) h (iD (List.range m)) := by
  have e : rangeL 0 (m : Int) = iD (List.range m) := by unfold rangeL iD; simp
  rw [e]; exact gives_its
theorem wp_allT {α : Type} {n : Nat} {js : List α} (e : h[n]? = some (.lst (js.map fun _ => D.bl true))) (q : Q (.bl true) h) : WP (bAll [.ref n] h) Q E := by
  refine wp_bAll (bs := js.map fun _ => true) (by rw [e]; simp) ?_
  have : ((js.map fun _ => true).all id) = true := by simp
  rw [this]; exact q
end
section
variable {E : EP} {N B C : NP} {T : D → LH → Prop} {Q : D → LH → Prop} {r : LS} {h : LH}
def ParAt3 (i j l : Nat) (ds : List D) (r : LS) (h : LH) (N : NP) : Prop := ∃ x y z, ds = [x, y, z] ∧ N (((r.set i (some x)).set j (some y)).set l (some z)) h
theorem parat3 {i j l : Nat} {x y z : D} {r' : LS} (e : ((r.set i (some x)).set j (some y)).set l (some z) = r') (q : N r' h) : ParAt3 i j l [x, y, z] r h N := by subst e; exact ⟨x, y, z, rfl, q⟩
theorem wf_sPar3 {i j l : Nat} {a : AX} (q : WP (a r h) (fun ds h1 => ParAt3 i j l ds r h1 N) E) : WF (sPar3 i j l a r h) N T B C E :=
  wf_to (wp_use q (fun x h1 z => by obtain ⟨x, y, z, rfl, w⟩ := z; exact w) (fun _ _ _ z => z))
theorem wp_isBB {b c : Bool} (q : Q (.bl (c == b)) h) : WP (oIsB b (.bl c) h) Q E := q
def RvAt (x : D) (h : LH) (Q : D → LH → Prop) : Prop := ∃ n xs, x = .ref n ∧ h[n]? = some (.lst xs) ∧ ∀ k h1, h.length ≤ k → Ext [] h h1 → h1[k]? = some (.lst xs.reverse) → Q (.ref k) h1
theorem rvat {n : Nat} {xs : List D} (e : h[n]? = some (.lst xs)) (q : ∀ k h1, h.length ≤ k → Ext [] h h1 → h1[k]? = some (.lst xs.reverse) → Q (.ref k) h1) : RvAt (.ref n) h Q := ⟨n, xs, rfl, e, q⟩
theorem wp_eRev {a : EX} (q : WP (a r h) (fun x h1 => RvAt x h1 Q) E) : WP (eRev a r h) Q E :=
  wp_e1 (wp_use q (fun x h1 z => by
    obtain ⟨n, xs, rfl, e, q⟩ := z
    simp only [lstD, e]; exact wp_new q) (fun _ _ _ z => z))
/-- x is shown as d -/
def Shw (h : LH) (x : D) (d : PyData) : Prop := deep h 59 x = some d ∧ tame d = true ∧ room d ≤ 8000 ∧ d.depth ≤ 10
inductive Shs (h : LH) : List D → List PyData → Prop
  | nil : Shs h [] []
  | cons {x : D} {d : PyData} {xs : List D} {ds : List PyData} : Shw h x d → Shs h xs ds → Shs h (x :: xs) (d :: ds)
theorem Shs.all {xs : List D} {ds : List PyData} (s : Shs h xs ds) : mapO (deep h 59) xs = some ds ∧ tameAll ds = true ∧ roomAll ds ≤ 8002 * xs.length ∧ PyData.depthAll ds ≤ 10 := by
  induction s with
  | nil => exact ⟨rfl, rfl, by simp [roomAll], by simp [PyData.depthAll]⟩
  | cons a b ih =>
    obtain ⟨a1, a2, a3, a4⟩ := a
    obtain ⟨i1, i2, i3, i4⟩ := ih
    refine ⟨mapO_cons a1 i1, by rw [tameAll, a2, i2]; rfl, by rw [roomAll, List.length_cons]; omega, by rw [PyData.depthAll]; omega⟩
/-- the parent of g, None of the top -/
def upD (ks : List Nat) (g : Nat) : D := ((D.non :: iD ks)[g]?).getD .non
theorem upD_s {ks : List Nat} {g p : Nat} (e : ks[g]? = some p) : upD ks (g + 1) = .int (p : Int) := by
  unfold upD; rw [List.getElem?_cons_succ, iD_at, e]; rfl
def upP (ks : List Nat) (g : Nat) : PyData := datF (upD ks g)
end
end Ev

set_option Elab.async false
set_option linter.all false
set_option maxRecDepth 100000
/-! own ==, isinstance of own classes, pop(i), extend, reverse. -/
namespace Ev
open Py PySem
section
variable {E : EP} {Q : D → LH → Prop} {h : LH}
theorem wp_isO {f : Nat → Option Bool} {n c : Nat} {fs : List (Nat × D)} {b : Bool} (e : h[n]? = some (.ins c fs)) (k : f c = some b) (q : Q (.bl b) h) : WP (oIsO f (.ref n) h) Q E := by
  simp only [oIsO, e, k]; exact q
theorem wp_eqO {c n : Nat} {cf : CF} {y : D} {fs : List (Nat × D)} (e : h[n]? = some (.ins c fs)) (r : rightOk c y h = true) (q : WP (cf [.ref n, y] h) (fun v h1 => IsB v fun b => Q (.bl b) h1) E) : WP (oEqO c cf false (.ref n) y h) Q E := by
  simp only [oEqO, e]
  rw [if_pos ⟨trivial, r⟩]
  refine wp_bind (wp_use q (fun v h1 z => ?_) (fun _ _ _ z => z))
  cases v with
  | bl b => exact z
  | _ => exact z.elim
theorem wp_extend {n k : Nat} {xs ys : List D} (e : h[n]? = some (.lst xs)) (e' : h[k]? = some (.lst ys)) (l : xs.length + ys.length ≤ sizeLine) (q : ∀ h1, Ext [n] h h1 → h1[n]? = some (.lst (xs ++ ys)) → Q .non h1) : WP (mExtend (.ref n) [.ref k] h) Q E := by
  simp only [mExtend, lstD, e', onL, e, if_pos l]; exact q _ ext_set (at_set e)
end
end Ev

set_option Elab.async false
set_option linter.all false
set_option maxRecDepth 100000
/-! Words, rows of words; dicts: rules of weakest preconditions. -/
namespace Py
open PySem
abbrev W := Fin 20
def wd (c : W) : Str := match c.val with
  | 0 => "look"
  | 1 => "add"
  | 2 => "try"
  | 3 => "live"
  | 4 => "home"
  | 5 => "off"
  | 6 => "end"
  | 7 => "set"
  | 8 => "both"
  | 9 => "undo"
  | 10 => "leave"
  | 11 => "wait"
  | 12 => "take"
  | 13 => "give"
  | 14 => "move"
  | 15 => "lift"
  | 16 => "settle"
  | 17 => "fail"
  | 18 => "fails"
  | _ => "shared"
def rowD (cs : List W) : List D := cs.map fun c => .str (wd c)
end Py
namespace Ev
open Py PySem
theorem wd_inj : ∀ a b : W, wd a = wd b → a = b := by decide +kernel
theorem wd_eq {a b : W} : decide (wd a = wd b) = decide (a = b) := by
  rw [Bool.eq_iff_iff, decide_eq_true_eq, decide_eq_true_eq]
  exact ⟨wd_inj a b, fun e => by rw [e]⟩
theorem row_len {cs : List W} : (rowD cs).length = cs.length := by simp [rowD]
theorem row_at {cs : List W} {i : Nat} : (rowD cs)[i]? = cs[i]?.map fun c => .str (wd c) := by simp [rowD]
theorem row_app {as bs : List W} : rowD (as ++ bs) = rowD as ++ rowD bs := by simp [rowD]
theorem row_mem {cs : List W} {d : D} (m : d ∈ rowD cs) : ∃ c ∈ cs, d = .str (wd c) := by
  obtain ⟨c, a, b⟩ := List.mem_map.1 m; exact ⟨c, a, b.symm⟩
theorem row_flat {cs : List W} : (rowD cs).all flatD = true := by
  rw [List.all_eq_true]; intro d m; obtain ⟨k, _, rfl⟩ := row_mem m; rfl
theorem row_has {cs : List W} {c : W} : ((rowD cs).any fun z => eqF z (.str (wd c))) = decide (c ∈ cs) := by
  rw [Bool.eq_iff_iff, List.any_eq_true, decide_eq_true_eq]
  constructor
  · rintro ⟨d, m, e⟩
    obtain ⟨j, a, rfl⟩ := row_mem m
    have : wd j = wd c := by simpa [eqF] using e
    rw [← wd_inj _ _ this]; exact a
  · exact fun m => ⟨.str (wd c), List.mem_map.2 ⟨c, m, rfl⟩, by simp [eqF]⟩
theorem row_take {cs : List W} {i : Nat} : (rowD cs).take i = rowD (cs.take i) := by simp [rowD, List.map_take]
def rowP (cs : List W) : List PyData := cs.map fun c => .str (wd c)
theorem strOk_wd : ∀ c : W, PyData.canLay0 (.str (wd c)) = true := by decide +kernel
section
variable {E : EP} {Q : D → LH → Prop} {r : LS} {h : LH}
theorem wp_inW {c : W} {cs : List W} (q : Q (.bl (decide (c ∈ cs))) h) : WP (oIn false (.str (wd c)) (.tup (rowD cs)) h) Q E := by
  refine wp_in rfl ?_ ?_
  · rw [row_flat]; rfl
  · rw [row_has]; exact q
theorem wp_ninW {c : W} {cs : List W} (q : Q (.bl (!decide (c ∈ cs))) h) : WP (oIn true (.str (wd c)) (.tup (rowD cs)) h) Q E := by
  refine wp_in rfl ?_ ?_
  · rw [row_flat]; rfl
  · rw [row_has]; exact q
theorem wp_eqW {a b : W} (q : Q (.bl (decide (a = b))) h) : WP (oEq false (.str (wd a)) (.str (wd b)) h) Q E := by
  refine wp_eqS ?_; rw [wd_eq]; exact q
theorem wp_neW {a b : W} (q : Q (.bl (!decide (a = b))) h) : WP (oEq true (.str (wd a)) (.str (wd b)) h) Q E := by
  refine wp_neS ?_; rw [wd_eq]; exact q
theorem mapO_row {n : Nat} : ∀ cs : List W, mapO (deep h n) (rowD cs) = some (rowP cs)
  | [] => rfl
  | c :: cs => by
    refine mapO_cons (a := .str (wd c)) (b := .str (wd c)) ?_ (mapO_row cs)
    cases n <;> rfl
theorem lay_row : ∀ cs : List W, PyData.canLayAll0 (rowP cs) = true
  | [] => rfl
  | c :: cs => by
    show (PyData.canLay0 (.str (wd c)) && PyData.canLayAll0 (rowP cs)) = true
    rw [strOk_wd, lay_row cs]; rfl
theorem depth_row : ∀ cs : List W, PyData.depthAll (rowP cs) = 0
  | [] => by simp [rowP, PyData.depthAll]
  | c :: cs => by
    have := depth_row cs
    simp only [rowP, List.map_cons, PyData.depthAll, PyData.depth] at this ⊢
    rw [this]; rfl
theorem shaped_row {cs : List W} : SeqAt.shaped (.tuple (rowP cs)) = true := by
  unfold SeqAt.shaped; rw [PyData.canLay0, lay_row, PyData.depth, depth_row]; rfl
theorem eqv_row : ∀ {as bs : List W}, PyData.eqvAll (rowP as) (rowP bs) = decide (as = bs)
  | [], [] => by simp [rowP, PyData.eqvAll]
  | [], _ :: _ => by simp [rowP, PyData.eqvAll]
  | _ :: _, [] => by simp [rowP, PyData.eqvAll]
  | a :: as, b :: bs => by
    have ih := eqv_row (as := as) (bs := bs)
    simp only [rowP, List.map_cons, PyData.eqvAll, PyData.eqv] at ih ⊢
    rw [ih]
    have : (wd a == wd b) = decide (a = b) := by rw [← wd_eq]; rfl
    rw [this, Bool.eq_iff_iff]
    simp
theorem wp_eqRow {as bs : List W} (q : Q (.bl (decide (as = bs))) h) : WP (oEq false (.tup (rowD as)) (.tup (rowD bs)) h) Q E := by
  refine wp_eqT (deep_tup (mapO_row _)) (deep_tup (mapO_row _)) (by rw [shaped_row, shaped_row]; rfl) ?_
  rw [PyData.eqv, eqv_row]; exact q
theorem wp_neRow {as bs : List W} (q : Q (.bl (!decide (as = bs))) h) : WP (oEq true (.tup (rowD as)) (.tup (rowD bs)) h) Q E := by
  refine wp_eqT (deep_tup (mapO_row _)) (deep_tup (mapO_row _)) (by rw [shaped_row, shaped_row]; rfl) ?_
  rw [PyData.eqv, eqv_row]; exact q
/-- the row is empty -/
theorem wp_eqRow0 {as : List W} (q : Q (.bl (decide (as = []))) h) : WP (oEq false (.tup (rowD as)) (.tup []) h) Q E := wp_eqRow (bs := []) q
theorem wp_neRow0 {as : List W} (q : Q (.bl (!decide (as = []))) h) : WP (oEq true (.tup (rowD as)) (.tup []) h) Q E := wp_neRow (bs := []) q
theorem wp_eqB0 {a b : Bool} {neg : Bool} (q : Q (.bl (if neg then !(a == b) else (a == b))) h) : WP (oEq neg (.bl a) (.bl b) h) Q E := by
  refine wp_eqD (x := .bl a) (y := .bl b) (a := .bool a) (b := .bool b) rfl rfl ?_ ?_
  · unfold SeqAt.shaped; simp only [PyData.canLay0, PyData.depth]; rfl
  · simp only [PyData.eqv]; exact q
theorem wp_eqB {a b : Bool} (q : Q (.bl (a == b)) h) : WP (oEq false (.bl a) (.bl b) h) Q E := wp_eqB0 q
theorem wp_neB {a b : Bool} (q : Q (.bl (!(a == b))) h) : WP (oEq true (.bl a) (.bl b) h) Q E := wp_eqB0 q
theorem br_kt {ks : List Kd} {k : Kd} {P P' : Prop} (e : (ks.any fun t => k.is t) = true) (p : P) : Br (ks.any fun t => k.is t) P P' := br_t e p
theorem br_kf {ks : List Kd} {k : Kd} {P P' : Prop} (e : (ks.any fun t => k.is t) = false) (p : P') : Br (ks.any fun t => k.is t) P P' := br_f e p
theorem qb {b b' : Bool} (q : Q (.bl b) h) (e : b = b') : Q (.bl b') h := e ▸ q
/-- a comprehension over a source of f's values -/
theorem wp_compF {α : Type} {s : Src} {vs : List Nat} {t e : EX} (f : α → D) (js : List α) (p : α → Bool) (v : α → D) (gv : Gives s h (js.map f)) (hl : js.length < 1000000)
    (is : ∀ a ∈ js, ∀ h1, Ext [] h h1 → ∃ r1, tgt vs (f a) r = some r1 ∧ WP (t r1 h1) (fun x h2 => Tr x h2 fun k => k = p a ∧ Ext [] h1 h2 ∧ (p a = true → WP (e r1 h2) (fun y h3 => y = v a ∧ Ext [] h2 h3) noE)) noE)
    (q : ∀ n h2, h.length ≤ n → Ext [] h h2 → h2[n]? = some (.lst ((js.filter p).map v)) → Q (.ref n) h2) :
    WP (compX s vs t e fuelN 0 [] r h) (NewL Q) E := by
  refine wp_comp (fun i => (js.map f).getD i .non) js.length (fun i acc h1 => acc = ((js.take i).filter p).map v ∧ Ext [] h h1) hl ⟨by simp, Ext.rfl'⟩ (fun acc h1 z => ⟨?_, ?_⟩) (fun i acc h1 l z => ?_)
  · rw [gv h1 z.2, List.getElem?_eq_none (by simp)]
  · intro n h2 l2 x2 a2
    refine q n h2 (Nat.le_trans z.2.1 l2) (z.2.trans x2) ?_
    rw [a2, z.1, List.take_of_length_le (Nat.le_refl _)]
  · have e1 : js[i]? = some js[i] := List.getElem?_eq_getElem l
    have e0 : (js.map f)[i]? = some (f js[i]) := by rw [List.getElem?_map, e1]; rfl
    have e' : (js.map f).getD i .non = f js[i] := by simp [List.getD, e0]
    rw [e']
    refine ⟨by rw [gv h1 z.2, e0], ?_⟩
    obtain ⟨r1, et, q⟩ := is js[i] (List.getElem_mem l) h1 z.2
    refine ⟨r1, et, wp_use q (fun x h2 q => ?_) (fun _ _ _ z => z)⟩
    have tk : js.take (i + 1) = js.take i ++ [js[i]] := by rw [List.take_succ, e1]; rfl
    unfold Tr at q ⊢
    match e3 : truth x h2 with
    | none => rw [e3] at q; exact q
    | some k =>
      rw [e3] at q
      obtain ⟨rfl, x2, q⟩ := q
      show Br (p js[i]) _ _
      refine br_s (fun c => ?_) (fun c => ?_)
      · refine wp_use (q c) (fun y h3 q => ?_) (fun _ _ _ z => z)
        obtain ⟨rfl, x3⟩ := q
        refine ⟨?_, ?_, (z.2.trans x2).trans x3⟩
        · rw [z.1, List.length_map]
          refine Nat.lt_of_le_of_lt (List.length_filter_le _ _) ?_
          rw [List.length_take]; unfold sizeLine; omega
        · rw [z.1, tk, List.filter_append, List.map_append]; simp [c]
      · refine ⟨?_, z.2.trans x2⟩
        rw [z.1, tk, List.filter_append, List.map_append]; simp [c]
/-- .. that takes all -/
theorem wp_mapF {α : Type} {s : Src} {vs : List Nat} {e : EX} (f : α → D) (js : List α) (v : α → D) (gv : Gives s h (js.map f)) (hl : js.length < 1000000)
    (is : ∀ a ∈ js, ∀ h1, Ext [] h h1 → ∃ r1, tgt vs (f a) r = some r1 ∧ WP (e r1 h1) (fun y h3 => y = v a ∧ Ext [] h1 h3) noE)
    (q : ∀ n h2, h.length ≤ n → Ext [] h h2 → h2[n]? = some (.lst (js.map v)) → Q (.ref n) h2) :
    WP (compX s vs (eC (.bl true)) e fuelN 0 [] r h) (NewL Q) E := by
  refine wp_compF f js (fun _ => true) v gv hl ?_ ?_
  · intro a m h1 x1
    obtain ⟨r1, e1, w⟩ := is a m h1 x1
    exact ⟨r1, e1, wp_eC ⟨rfl, Ext.rfl', fun _ => w⟩⟩
  · intro n h2 l x a
    rw [List.filter_eq_self.2 (fun _ _ => rfl)] at a
    exact q n h2 l x a
/-! t.index(x) -/
def TupAt (x : D) (P : List D → Prop) : Prop := ∃ xs, x = .tup xs ∧ (strsD xs).isSome = true ∧ P xs
theorem strs_row : ∀ cs : List W, strsD (rowD cs) = some (cs.map wd)
  | [] => rfl
  | c :: cs => by
    show (strsD (rowD cs)).map (wd c :: ·) = _
    rw [strs_row cs]; rfl
theorem tupat {cs : List W} {P : List D → Prop} (p : P (rowD cs)) : TupAt (.tup (rowD cs)) P := ⟨_, rfl, by rw [strs_row]; rfl, p⟩
theorem wp_eTM {op : D → List D → LH → R D} {o : EX} {a : AX} (q : WP (o r h) (fun x h1 => TupAt x fun xs => WP (a r h1) (fun ds h2 => WP (op (.tup xs) ds h2) Q E) E) E) : WP (eTM op o a r h) Q E :=
  wp_bind (wp_use q (fun x h1 z => by
    obtain ⟨xs, rfl, e, z⟩ := z
    simp only [if_pos e]; exact wp_bind z) (fun _ _ _ z => z))
theorem find_row {c : W} : ∀ {cs : List W}, (cs.map wd).findIdx? (fun y => decide (y = wd c)) = if c ∈ cs then some (cs.idxOf c) else none
  | [] => by simp
  | a :: cs => by
    have ih := find_row (c := c) (cs := cs)
    rw [List.map_cons, List.findIdx?_cons, wd_eq]
    by_cases e : a = c
    · subst e; simp
    · have e2 : ¬ c = a := fun z => e z.symm
      rw [decide_eq_false e]
      simp only [Bool.false_eq_true, if_false, List.mem_cons, e2, false_or]
      rw [ih]
      by_cases m : c ∈ cs
      · simp only [if_pos m, Option.map_some, List.idxOf_cons]
        have : (a == c) = false := by simpa using e
        rw [this]; rfl
      · simp only [if_neg m, Option.map_none]
theorem wp_tupIx {c : W} {cs : List W} (m : c ∈ cs) (q : Q (.int (cs.idxOf c : Nat)) h) : WP (mTupIx (.tup (rowD cs)) [.str (wd c)] h) Q E := by
  simp only [mTupIx, strs_row, find_row, if_pos m]; exact q
theorem atI_last0 {xs : List D} {d : D} (e : xs.getLast? = some d) : L2.atI xs (-1) = some d := by
  have ne : xs ≠ [] := fun z => by subst z; exact nomatch e
  have l : 0 < xs.length := List.length_pos_iff.2 ne
  unfold L2.atI L2.ixN
  rw [if_neg (by omega), if_pos (by omega)]
  have : (-1 + (xs.length : Int)).toNat = xs.length - 1 := by omega
  rw [this, Option.bind_some, ← List.getLast?_eq_getElem?]; exact e
theorem row_last {cs : List W} {c : W} (e : cs.getLast? = some c) : (rowD cs).getLast? = some (.str (wd c)) := by
  unfold rowD; rw [List.getLast?_map, e]; rfl
theorem row_head {cs : List W} {c : W} (e : cs.head? = some c) : (rowD cs)[0]? = some (.str (wd c)) := by
  rw [row_at]; cases cs with
  | nil => exact nomatch e
  | cons a r => simp at e; subst e; rfl
theorem some_last {cs : List W} {c : W} (m : c ∈ cs) : ∃ d, cs.getLast? = some d := by
  cases e : cs.getLast? with
  | some d => exact ⟨d, rfl⟩
  | none => rw [List.getLast?_eq_none_iff] at e; subst e; exact nomatch m
theorem some_head {cs : List W} (m : ¬ cs = []) : ∃ d, cs.head? = some d := by
  cases cs with
  | nil => exact absurd rfl m
  | cons a r => exact ⟨a, rfl⟩
theorem wp_lastW {c : W} {cs : List W} (m : c ∈ cs) (q : ∀ d, cs.getLast? = some d → Q (.str (wd d)) h) : WP (oIx (.tup (rowD cs)) (.int (-1)) h) Q E := by
  obtain ⟨d, e⟩ := some_last m
  exact wp_ix rfl (atI_last0 (row_last e)) (q d e)
theorem wp_headW {cs : List W} (m : ¬ cs = []) (q : ∀ d, cs.head? = some d → Q (.str (wd d)) h) : WP (oIx (.tup (rowD cs)) (.int 0) h) Q E := by
  obtain ⟨d, e⟩ := some_head m
  exact wp_ix (i := ((0 : Nat) : Int)) rfl (L2.atI_nat (row_head e)) (q d e)
/-! dicts -/
theorem valD_put (kvs : List (Ky × D)) (k j : Ky) (v : D) : valD (putD kvs k v) j = if j = k then some v else valD kvs j := by
  have snoc : ∀ kvs : List (Ky × D), (kvs.any fun kv => decide (kv.1 = k)) = false → valD (kvs ++ [(k, v)]) j = if j = k then some v else valD kvs j := by
    intro kvs
    induction kvs with
    | nil => intro _; by_cases e : k = j <;> simp [valD, List.find?_cons, e, eq_comm]
    | cons p r ih =>
      intro a
      rw [List.any_cons, Bool.or_eq_false_iff] at a
      have ih := ih a.2
      have n : ¬ p.1 = k := by simpa using a.1
      by_cases e : p.1 = j
      · have : ¬ j = k := fun z => n (e.trans z)
        simp [valD, List.find?_cons, e, this]
      · have : valD (p :: (r ++ [(k, v)])) j = valD (r ++ [(k, v)]) j := by simp [valD, List.find?_cons, e]
        rw [List.cons_append, this, ih]
        have : valD (p :: r) j = valD r j := by simp [valD, List.find?_cons, e]
        rw [this]
  have rep : ∀ kvs : List (Ky × D), (kvs.any fun kv => decide (kv.1 = k)) = true → valD (kvs.map fun kv => if kv.1 = k then (kv.1, v) else kv) j = if j = k then some v else valD kvs j := by
    intro kvs
    induction kvs with
    | nil => intro a; simp at a
    | cons p r ih =>
      intro a
      by_cases n : p.1 = k
      · by_cases e : k = j
        · subst e; simp [valD, List.find?_cons, n]
        · have e' : ¬ j = k := fun z => e z.symm
          have e2 : ¬ p.1 = j := fun z => e (n.symm.trans z)
          rw [List.map_cons, if_pos n, if_neg e']
          have t1 : valD ((p.1, v) :: r.map fun kv => if kv.1 = k then (kv.1, v) else kv) j = valD (r.map fun kv => if kv.1 = k then (kv.1, v) else kv) j := by simp [valD, List.find?_cons, e2]
          have t2 : valD (p :: r) j = valD r j := by simp [valD, List.find?_cons, e2]
          rw [t1, t2]
          by_cases b : (r.any fun kv => decide (kv.1 = k)) = true
          · rw [ih b, if_neg e']
          · have : (r.map fun kv => if kv.1 = k then (kv.1, v) else kv) = r := by
              rw [List.map_congr_left (g := id)]
              · simp
              · intro kv m
                have : ¬ kv.1 = k := fun z => b (List.any_eq_true.2 ⟨kv, m, by simpa using z⟩)
                simp [this]
            rw [this]
      · rw [List.any_cons, decide_eq_false n, Bool.false_or] at a
        have ih := ih a
        rw [List.map_cons, if_neg n]
        by_cases e : p.1 = j
        · have : ¬ j = k := fun z => n (e.trans z)
          simp [valD, List.find?_cons, e, this]
        · have t1 : valD (p :: r.map fun kv => if kv.1 = k then (kv.1, v) else kv) j = valD (r.map fun kv => if kv.1 = k then (kv.1, v) else kv) j := by simp [valD, List.find?_cons, e]
          have t2 : valD (p :: r) j = valD r j := by simp [valD, List.find?_cons, e]
          rw [t1, t2, ih]
  unfold putD
  split
  · rename_i a; exact rep kvs a
  · rename_i a; exact snoc kvs (Bool.eq_false_iff.mpr a)
theorem len_put (kvs : List (Ky × D)) (k : Ky) (v : D) : (putD kvs k v).length ≤ kvs.length + 1 := by
  unfold putD
  split
  · simp
  · simp
theorem len_merge : ∀ (more kvs : List (Ky × D)), (mergeD kvs more).length ≤ kvs.length + more.length
  | [], kvs => by show kvs.length ≤ _; simp
  | p :: more, kvs => by
    have h1 := len_merge more (putD kvs p.1 p.2)
    have h2 := len_put kvs p.1 p.2
    show (mergeD (putD kvs p.1 p.2) more).length ≤ _
    rw [List.length_cons]; omega
theorem len_merge0 (kvs : List (Ky × D)) : (mergeD [] kvs).length ≤ kvs.length := by
  have := len_merge kvs []; simpa using this
theorem wp_dg {n : Nat} {x : Str} {kvs : List (Ky × D)} {d : D} (e : h[n]? = some (.dct kvs)) (k : valD kvs (.inr x) = some d) (q : Q d h) : WP (oDg (.ref n) (.str x) h) Q E := by
  simp only [oDg, dctD, e, keyD, k]; exact q
theorem wp_bDict {n : Nat} {kvs : List (Ky × D)} (e : h[n]? = some (.dct kvs)) (q : ∀ n h1, h.length ≤ n → Ext [] h h1 → h1[n]? = some (.dct kvs) → Q (.ref n) h1) : WP (bDict [.ref n] h) Q E := by
  simp only [bDict, dctD, e]; exact wp_new q
theorem wp_eDnew (q : ∀ n h1, h.length ≤ n → Ext [] h h1 → h1[n]? = some (.dct []) → Q (.ref n) h1) : WP (eDnew r h) Q E := wp_new q
def Pairs (ps : List (EX × EX)) (r : LS) (h : LH) (P : List (Ky × D) → LH → Prop) (E : EP) : Prop := WP (pairsX ps r h) P E
def KeyAt (x : D) (P : Ky → Prop) : Prop := ∃ k, keyD x = some k ∧ P k
theorem keyat_s {x : Str} {P : Ky → Prop} (p : P (.inr x)) : KeyAt (.str x) P := ⟨_, rfl, p⟩
theorem pairs_nil {P : List (Ky × D) → LH → Prop} (p : P [] h) : Pairs [] r h P E := p
theorem pairs_cons {a b : EX} {ps : List (EX × EX)} {P : List (Ky × D) → LH → Prop} (p : WP (a r h) (fun x h1 => WP (b r h1) (fun y h2 => KeyAt x fun k => Pairs ps r h2 (fun kvs h3 => P ((k, y) :: kvs) h3) E) E) E) : Pairs ((a, b) :: ps) r h P E :=
  wp_bind (wp_use p (fun x h1 z => wp_bind (wp_use z (fun y h2 z => by
    obtain ⟨k, e, z⟩ := z
    simp only [e]; exact wp_bind z) (fun _ _ _ z => z))) (fun _ _ _ z => z))
theorem wp_eDisp {ps : List (EX × EX)} (q : ∀ n h0, h.length ≤ n → Ext [] h h0 → h0[n]? = some (.dct []) → Pairs ps r h0 (fun kvs h1 => Need (kvs.length ≤ 15) (h1[n]? = some (.dct []) ∧ ∀ h2, Ext [n] h1 h2 → h2[n]? = some (.dct (mergeD [] kvs)) → (mergeD [] kvs).length ≤ kvs.length → Q (.ref n) h2)) E) : WP (eDisp ps r h) Q E := by
  have q0 := q h.length (h ++ [.dct []]) (Nat.le_refl _) ext_push at_push
  unfold Pairs at q0
  refine wp_bind (wp_use q0 (fun kvs h1 z => ?_) (fun _ _ _ z => z))
  obtain ⟨l, e, q⟩ := z
  simp only [e, if_pos l]
  exact q _ ext_set (at_set e) (len_merge0 kvs)
def DputAt (d x y : D) (r : LS) (h : LH) (N : NP) : Prop := ∃ n s kvs, x = .ref n ∧ y = .str s ∧ h[n]? = some (.dct kvs) ∧ kvs.length < sizeLine ∧ ∀ h1, Ext [n] h h1 → h1[n]? = some (.dct (putD kvs (.inr s) d)) → (putD kvs (.inr s) d).length ≤ kvs.length + 1 → N r h1
theorem lt_line {n : Nat} (l : n ≤ 10000) : n < sizeLine := by unfold sizeLine; omega
theorem dputat {n : Nat} {s : Str} {kvs : List (Ky × D)} {d : D} {N : NP} (e : h[n]? = some (.dct kvs)) (l : kvs.length < sizeLine) (q : ∀ h1, Ext [n] h h1 → h1[n]? = some (.dct (putD kvs (.inr s) d)) → (putD kvs (.inr s) d).length ≤ kvs.length + 1 → N r h1) : DputAt d (.ref n) (.str s) r h N := ⟨n, s, kvs, rfl, rfl, e, l, q⟩
theorem wf_sDput {o i e : EX} {N B C : NP} {T : D → LH → Prop} (q : WP (e r h) (fun d h1 => WP (o r h1) (fun x h2 => WP (i r h2) (fun y h3 => DputAt d x y r h3 N) E) E) E) : WF (sDput o i e r h) N T B C E :=
  wf_to (wp_use q (fun d h1 z => wf_to (wp_use z (fun x h2 z => wf_to (wp_use z (fun y h3 z => by
    obtain ⟨n, s, kvs, rfl, rfl, e, l, q⟩ := z
    simp only [keyD, e, if_pos l]; exact q _ ext_set (at_set e) (len_put _ _ _)) (fun _ _ _ z => z))) (fun _ _ _ z => z))) (fun _ _ _ z => z))
/-! defs as values -/
def FnAt (x : D) (P : Str → Prop) : Prop := ∃ n, x = .fn n ∧ P n
theorem fnat {n : Str} {P : Str → Prop} (p : P n) : FnAt (.fn n) P := ⟨n, rfl, p⟩
theorem wp_eCallV {tab : Str → Option KF} {o : EX} {a : AX} (q : WP (o r h) (fun x h1 => FnAt x fun n => ∃ op, tab n = some op ∧ WP (a r h1) (fun ds h2 => WP (op ds [] h2) Q E) E) E) : WP (eCallV tab o a r h) Q E :=
  wp_bind (wp_use q (fun x h1 z => by
    obtain ⟨n, rfl, op, e, z⟩ := z
    simp only [e]; exact wp_bind z) (fun _ _ _ z => z))
end
end Ev

set_option Elab.async false
set_option linter.all false
set_option maxRecDepth 100000
/-! Rules for dict(list(d.items()) + l), d.update(e), [*d.values(), ..], range(a, b, -1), x.split(sep). -/
namespace Ev
open Py PySem
section
variable {E : EP} {Q : D → LH → Prop} {h : LH} {r : LS}
def DctAt (x : D) (h : LH) (P : List (Ky × D) → Prop) : Prop := ∃ ks, dctD x h = some ks ∧ P ks
theorem dctat {n : Nat} {ks : List (Ky × D)} {P : List (Ky × D) → Prop} (e : h[n]? = some (.dct ks)) (p : P ks) : DctAt (.ref n) h P := ⟨ks, by simp only [dctD, e], p⟩
theorem wp_eDictPlus {fo fl : EX} (q : WP (fo r h) (fun x h1 => DctAt x h1 fun ks => WP (fl r h1) (fun y h2 => WP (plusD ks y h2) Q E) E) E) : WP (eDictPlus fo fl r h) Q E :=
  wp_bind (wp_use q (fun x h1 z => by
    obtain ⟨ks, e, z⟩ := z
    simp only [e]; exact wp_bind z) (fun _ _ _ z => z))
theorem wp_plusD {ks ps : List (Ky × D)} {n : Nat} {xs : List D} (e : h[n]? = some (.lst xs)) (g : pairsL xs = some ps) (l : ks.length + xs.length ≤ sizeLine) (q : ∀ k h1, h.length ≤ k → Ext [] h h1 → h1[k]? = some (.dct (mergeD [] (ks ++ ps))) → Q (.ref k) h1) : WP (plusD ks (.ref n) h) Q E := by
  simp only [plusD, e, g, if_pos l]; exact wp_new q
theorem wp_aStarV {fo : EX} {fa : AX} {Q : List D → LH → Prop} (q : WP (fo r h) (fun x h1 => DctAt x h1 fun ks => WP (fa r h1) (fun ds h2 => Q (ks.map (·.2) ++ ds) h2) E) E) : WP (aStarV fo fa r h) Q E :=
  wp_bind (wp_use q (fun x h1 z => by
    obtain ⟨ks, e, z⟩ := z
    simp only [e]
    exact wp_bind (wp_use z (fun _ _ z => z) (fun _ _ _ z => z))) (fun _ _ _ z => z))
theorem wp_eSpl {o i : EX} (q : WP (o r h) (fun x h1 => StrAt x fun a => WP (i r h1) (fun y h2 => WP (oSpl (.str a) y h2) Q E) E) E) : WP (eSpl o i r h) Q E :=
  wp_bind (wp_use q (fun x h1 z => by
    obtain ⟨a, rfl, z⟩ := z
    exact wp_bind z) (fun _ _ _ z => z))
theorem wp_oSpl {a b : Str} (l : (b.length == 0) = false ∧ a.length + 2 ≤ sizeLine) (q : ∀ n h1, h.length ≤ n → Ext [] h h1 → h1[n]? = some (.lst ((Txt.split a b).map D.str)) → Q (.ref n) h1) : WP (oSpl (.str a) (.str b) h) Q E := by
  show WP (splL a b h) Q E
  unfold splL; rw [if_pos l]; exact wp_new q
end
end Ev

set_option Elab.async false
set_option linter.all false
set_option maxRecDepth 100000
/-! Rules for raise, try, an error's field. -/
namespace Ev
open Py PySem
section
variable {E : EP} {Q : D → LH → Prop} {h : LH} {r : LS} {N B C : NP} {T : D → LH → Prop}
theorem wf_Raise1 {c i : Nat} {fa : EX} (q : WP (fa r h) (fun d h1 => E c [(i, d)] h1) E) : WF (sRaise1 c i fa r h) N T B C E := wf_to q
theorem wf_Raise0 {c : Nat} (q : E c [] h) : WF (sRaise0 c r h) N T B C E := q
theorem wf_Try {b : SX} {l : List Hd} (q : WF (b r h) N T B C (fun c fs h1 => WF (hdl l c fs r h1) N T B C E)) : WF (sTry b l r h) N T B C E := by
  unfold sTry
  cases z : b r h with
  | nx r1 h1 => rw [z] at q; exact q
  | rt d h1 => rw [z] at q; exact q
  | bk r1 h1 => rw [z] at q; exact q
  | ct r1 h1 => rw [z] at q; exact q
  | exc c fs h1 => rw [z] at q; exact q
  | stuck => rw [z] at q; exact q
theorem wf_hdlT {mt : Nat → Option Bool} {oi : Option Nat} {b : Nat → List (Nat × D) → SX} {l : List Hd} {c : Nat} {fs : List (Nat × D)} (e : mt c = some true) (q : WF (b c fs (wipe r oi) h) (fun r' h' => N (wipe r' oi) h') T (fun r' h' => B (wipe r' oi) h') (fun r' h' => C (wipe r' oi) h') noE) : WF (hdl ((mt, oi, b) :: l) c fs r h) N T B C E := by
  unfold hdl
  rw [e]
  show WF (wipeF oi (b c fs (wipe r oi) h)) N T B C E
  cases z : b c fs (wipe r oi) h with
  | nx r1 h1 => rw [z] at q; exact q
  | rt d h1 => rw [z] at q; exact q
  | bk r1 h1 => rw [z] at q; exact q
  | ct r1 h1 => rw [z] at q; exact q
  | exc c fs h1 => rw [z] at q; exact q.elim
  | stuck => rw [z] at q; exact q
theorem wf_hdlF {mt : Nat → Option Bool} {oi : Option Nat} {b : Nat → List (Nat × D) → SX} {l : List Hd} {c : Nat} {fs : List (Nat × D)} (e : mt c = some false) (q : WF (hdl l c fs r h) N T B C E) : WF (hdl ((mt, oi, b) :: l) c fs r h) N T B C E := by
  unfold hdl
  rw [e]
  exact q
theorem wp_eXf {k : Nat} {fs : List (Nat × D)} {x : D} (e : getA k fs = some x) (q : Q x h) : WP (eXf k fs r h) Q E := by
  unfold eXf
  rw [e]
  exact q
theorem wipe_n : wipe r none = r := rfl
theorem wipe_s {i : Nat} : wipe r (some i) = r.set i none := rfl
end
end Ev

set_option Elab.async false
set_option linter.all false
set_option maxRecDepth 100000
/-! Rules for a lambda handed to a def. -/
namespace Ev
open Py PySem
section
variable {E : EP} {Q : D → LH → Prop} {h : LH} {r : LS} {N B C : NP} {T : D → LH → Prop}
theorem wp_eTold {n : Nat} {b : (LH → R D) → SX} {th : EX} (q : WF (b (th r) (List.replicate n none) h) (fun _ h1 => Q .non h1) Q noN noN noE) : WP (eTold n b th r h) Q E := by
  unfold eTold
  cases z : b (th r) (List.replicate n none) h with
  | nx r1 h1 => rw [z] at q; exact q
  | rt d h1 => rw [z] at q; exact q
  | bk r1 h1 => rw [z] at q; exact q.elim
  | ct r1 h1 => rw [z] at q; exact q.elim
  | exc c fs h1 => rw [z] at q; exact q.elim
  | stuck => rw [z] at q; exact q
theorem wf_lSeq {b : (LH → R D) → SX} {g : SX} {k : LH → R D} (q : WF (sSeq (b k) g r h) N T B C E) : WF (lSeq b g k r h) N T B C E := q
theorem wf_lTry {b : (LH → R D) → SX} {l : List Hd} {k : LH → R D} (q : WF (b k r h) N T B C (fun c fs h1 => WF (hdl l c fs r h1) N T B C E)) : WF (lTry b l k r h) N T B C E := wf_Try q
end
end Ev

set_option Elab.async false
set_option linter.all false
set_option maxRecDepth 100000
/-! Rules: isinstance of what may be an own instance, repr of None, calls that might raise, lists with own instances compared, a lambda's value in a list. -/
namespace Ev
open Py PySem
section
variable {E : EP} {Q : D → LH → Prop} {h : LH} {r : LS} {N B C : NP} {T : D → LH → Prop}
theorem wp_isiO {c : Nat} {ks : List Kd} {d : D} {k : Kd} (e : kindD d h = some k) (q : Q (.bl (ks.any fun t => k.is t)) h) : WP (oIsiO c ks d h) Q E := by
  simp only [oIsiO, e]; exact q
theorem keyat_i {i : Int} {P : Ky → Prop} (p : P (.inl i)) : KeyAt (.int i) P := ⟨_, rfl, p⟩
end
end Ev

set_option Elab.async false
set_option linter.all false
set_option maxRecDepth 100000
/-! Rules: repr of data with dicts, isinstance of what a lambda gives. -/
namespace Ev
open Py PySem
section
variable {E : EP} {Q : D → LH → Prop} {h : LH} {r : LS} {N B C : NP} {T : D → LH → Prop}
theorem wf_lMadeIs {x : Str} {kd : Kd} {k : LH → R D} (q : WP (k h) (fun d h1 => ∃ y, kindD d h1 = some y ∧ ∀ n h2, h1.length ≤ n → Ext [] h1 h2 → h2[n]? = some (.lst [.str x, .bl (([kd] : List Kd).any fun t => y.is t)]) → T (.ref n) h2) E) : WF (lMadeIs x kd k r h) N T B C E := by
  unfold lMadeIs
  refine wf_Ret (wp_eLst (wp_aCons (wp_eC (wp_aCons ?_))))
  show WP (isiK kd k h) _ E
  unfold isiK
  refine wp_bind (wp_use q (fun d h1 z => ?_) (fun _ _ _ z => z))
  obtain ⟨y, e, z⟩ := z
  have key : ∀ Q' : D → LH → Prop, Q' (.bl (([kd] : List Kd).any fun t => y.is t)) h1 → WP (match kindD d h1 with | some x => R.ok (D.bl (([kd] : List Kd).any fun t => x.is t)) h1 | none => R.stuck) Q' E := by
    intro Q' z
    rw [e]; exact z
  refine key _ ?_
  refine wp_aNil ?_
  exact need (by show 2 ≤ sizeLine; decide) z
theorem wp_repK {n : Nat} {a : PyData} (e : deepK h 60 (.ref n) = some a) (s : showK a = true) (q : Q (.str a.shown) h) : WP (bRepK [.ref n] h) Q E := by
  simp only [bRepK, e, if_pos s]; exact q
theorem deepK_flat {n : Nat} {d : D} {a : PyData} (f : flatD d = true) (e : datF d = a) : deepK h n d = some a := by
  subst e
  cases d with
  | non => cases n <;> rfl
  | bl b => cases n <;> rfl
  | int i => cases n <;> rfl
  | str x => cases n <;> rfl
  | _ => exact nomatch f
theorem deepK_list {m n : Nat} {xs : List D} {ds : List PyData} (e : h[n]? = some (.lst xs)) (q : mapO (deepK h m) xs = some ds) : deepK h (m + 1) (.ref n) = some (.list ds) := by
  rw [deepK, e]; simp only [q]; rfl
theorem deepK_tup {m : Nat} {xs : List D} {ds : List PyData} (q : mapO (deepK h m) xs = some ds) : deepK h (m + 1) (.tup xs) = some (.tuple ds) := by
  rw [deepK, q]; rfl
theorem deepK_dct {m n : Nat} {kvs : List (Ky × D)} {ds : List PyData} (e : h[n]? = some (.dct kvs)) (q : mapO (deepK h m) (kvs.map Prod.snd) = some ds) : deepK h (m + 1) (.ref n) = some (.dict ((kvs.map fun p => kyP p.1).zip ds)) := by
  rw [deepK, e]; simp only [q]; rfl
theorem sum_le {k : Nat} : ∀ {ts : List Str}, (∀ t ∈ ts, t.length ≤ k) → (ts.map fun t => t.length + 2).sum ≤ ts.length * (k + 2)
  | [], _ => by simp
  | t :: ts, l => by
    have a := l t (List.mem_cons_self ..)
    have b := sum_le (ts := ts) fun x m => l x (List.mem_cons_of_mem _ m)
    simp only [List.map_cons, List.sum_cons, List.length_cons, Nat.succ_mul]
    omega
theorem all_len : ∀ {xs : List PyData}, (PyData.shownAll xs).length = xs.length
  | [] => by rw [PyData.shownAll]; rfl
  | x :: xs => by rw [PyData.shownAll, List.length_cons, List.length_cons, all_len]
/-- a text that is not long -/
structure Brief (k m : Nat) (a : PyData) : Prop where
  show_ : a.showable = true
  deep_ : a.depth ≤ k
  len_ : a.shown.length ≤ m
theorem Brief.up {k m k' m' : Nat} {a : PyData} (b : Brief k m a) (hk : k ≤ k' := by decide) (hm : m ≤ m' := by decide) : Brief k' m' a := ⟨b.1, Nat.le_trans b.2 hk, Nat.le_trans b.3 hm⟩
theorem brief_all {k m : Nat} : ∀ {xs : List PyData}, (∀ x ∈ xs, Brief k m x) → PyData.showableAll xs = true ∧ PyData.depthAll xs ≤ k ∧ ∀ t ∈ PyData.shownAll xs, t.length ≤ m
  | [], _ => ⟨by rw [PyData.showableAll], by rw [PyData.depthAll]; exact Nat.zero_le _, by rw [PyData.shownAll]; simp⟩
  | x :: xs, l => by
    obtain ⟨a1, a2, a3⟩ := brief_all (xs := xs) fun y m => l y (List.mem_cons_of_mem _ m)
    have b := l x (List.mem_cons_self ..)
    refine ⟨by rw [PyData.showableAll, b.1, a1]; rfl, by rw [PyData.depthAll]; have := b.2; omega, ?_⟩
    rw [PyData.shownAll]
    intro t mt
    rcases List.mem_cons.1 mt with rfl | mt
    · exact b.3
    · exact a3 t mt
theorem brief_list {k m : Nat} {xs : List PyData} (l : ∀ x ∈ xs, Brief k m x) : Brief (k + 1) (2 + xs.length * (m + 2)) (.list xs) := by
  obtain ⟨a1, a2, a3⟩ := brief_all l
  refine ⟨by rw [PyData.showable]; exact a1, by rw [PyData.depth]; omega, ?_⟩
  have h1 := tf_len (PyData.shownAll xs) 0 "["
  have h2 := sum_le a3
  rw [all_len] at h2
  rw [PyData.shown]
  unfold listText
  rw [Str.length_append]
  have e1 : ("[" : Str).length = 1 := by decide
  have e2 : ("]" : Str).length = 1 := by decide
  omega
theorem showK_of {k m : Nat} {a : PyData} (b : Brief k m a) (hk : k ≤ 64 := by decide) (hm : m ≤ sizeLine := by decide) : showK a = true := by
  unfold showK
  rw [b.1, decide_eq_true (Nat.le_trans b.2 hk), decide_eq_true (Nat.le_trans b.3 hm)]; rfl
theorem brief_int {i : Int} (l : i.natAbs < 10 ^ 40) : Brief 0 43 (.int i) := by
  refine ⟨?_, by rw [PyData.depth]; exact Nat.le_refl _, ?_⟩
  · rw [PyData.showable, decide_eq_true_eq]
    rcases Nat.eq_zero_or_pos i.natAbs with z | z
    · rw [z]; decide
    · have : i.natAbs.log2 < 140 := (Nat.log2_lt (by omega)).2 (Nat.lt_trans l (by decide))
      omega
  · rw [PyData.shown]
    have e := int_text_length_le10 (k := 40) (by decide) l
    have : (Str.ofString (toString i)).length = (toString i).length := by rw [ofString_length]
    show (Str.ofString (toString i)).length ≤ 43
    omega
/-! lists of lists -/
def Conts (h : LH) (n : Nat) : List Nat → List (List D) → Prop
  | [], [] => True
  | m :: ms, L :: Ls => (m ≠ n ∧ h[m]? = some (.lst L)) ∧ Conts h n ms Ls
  | _, _ => False
theorem Conts.ext {h1 : LH} {n : Nat} (x : Ext [n] h h1) : ∀ {ms : List Nat} {Ls : List (List D)}, Conts h n ms Ls → Conts h1 n ms Ls
  | [], [], _ => True.intro
  | m :: ms, L :: Ls, z => ⟨⟨z.1.1, x.get1 z.1.2 z.1.1⟩, Conts.ext x z.2⟩
  | [], _ :: _, z => z.elim
  | _ :: _, [], z => z.elim
theorem Conts.ext0 {h1 : LH} {n : Nat} (x : Ext [] h h1) : ∀ {ms : List Nat} {Ls : List (List D)}, Conts h n ms Ls → Conts h1 n ms Ls
  | [], [], _ => True.intro
  | m :: ms, L :: Ls, z => ⟨⟨z.1.1, x.get0 z.1.2⟩, Conts.ext0 x z.2⟩
  | [], _ :: _, z => z.elim
  | _ :: _, [], z => z.elim
theorem Conts.snoc {n m : Nat} {L : List D} (a : m ≠ n) (b : h[m]? = some (.lst L)) : ∀ {ms : List Nat} {Ls : List (List D)}, Conts h n ms Ls → Conts h n (ms ++ [m]) (Ls ++ [L])
  | [], [], _ => ⟨⟨a, b⟩, True.intro⟩
  | _ :: ms, _ :: Ls, z => ⟨z.1, Conts.snoc a b z.2⟩
  | [], _ :: _, z => z.elim
  | _ :: _, [], z => z.elim
theorem Conts.len {n : Nat} : ∀ {ms : List Nat} {Ls : List (List D)}, Conts h n ms Ls → ms.length = Ls.length
  | [], [], _ => rfl
  | _ :: ms, _ :: Ls, z => by simp [Conts.len z.2]
  | [], _ :: _, z => z.elim
  | _ :: _, [], z => z.elim
theorem Conts.deepK {n k : Nat} : ∀ {ms : List Nat} {Ls : List (List D)} {ds : List (List PyData)}, Conts h n ms Ls → mapO (mapO (deepK h k)) Ls = some ds → mapO (Py.deepK h (k + 1)) (ms.map D.ref) = some (ds.map PyData.list)
  | [], [], _, _, e => by cases e; rfl
  | m :: ms, L :: Ls, ds, z, e => by
    simp only [mapO] at e
    cases q1 : mapO (Py.deepK h k) L with
    | none => simp only [q1] at e; cases e
    | some x =>
      cases q2 : mapO (mapO (Py.deepK h k)) Ls with
      | none => simp only [q1, q2] at e; cases e
      | some zs =>
        simp only [q1, q2] at e
        cases e
        exact mapO_cons (deepK_list z.1.2 q1) (Conts.deepK z.2 q2)
  | [], _ :: _, _, z, _ => z.elim
  | _ :: _, [], _, z, _ => z.elim
theorem Conts.deep {n k : Nat} : ∀ {ms : List Nat} {Ls : List (List D)} {ds : List (List PyData)}, Conts h n ms Ls → mapO (mapO (deep h k)) Ls = some ds → mapO (Py.deep h (k + 1)) (ms.map D.ref) = some (ds.map PyData.list)
  | [], [], _, _, e => by cases e; rfl
  | m :: ms, L :: Ls, ds, z, e => by
    simp only [mapO] at e
    cases q1 : mapO (Py.deep h k) L with
    | none => simp only [q1] at e; cases e
    | some x =>
      cases q2 : mapO (mapO (Py.deep h k)) Ls with
      | none => simp only [q1, q2] at e; cases e
      | some zs =>
        simp only [q1, q2] at e
        cases e
        exact mapO_cons (deep_list z.1.2 q1) (Conts.deep z.2 q2)
  | [], _ :: _, _, z, _ => z.elim
  | _ :: _, [], _, z, _ => z.elim
/-- a list of lists -/
structure Tolds (h : LH) (n : Nat) (ms : List Nat) (Ls : List (List D)) : Prop where
  lst : h[n]? = some (.lst (ms.map D.ref))
  all : Conts h n ms Ls
theorem Tolds.ext0 {h1 : LH} {n : Nat} {ms : List Nat} {Ls : List (List D)} (t : Tolds h n ms Ls) (x : Ext [] h h1) : Tolds h1 n ms Ls := ⟨x.get0 t.lst, t.all.ext0 x⟩
/-- one list more behind a list of lists -/
theorem push_w {n : Nat} {ms : List Nat} {Ls : List (List D)} {L : List D} {X o : EX} (t : Tolds h n ms Ls) (ho : o r h = .ok (.ref n) h) (few : ms.length < 1000)
    (hx : WP (X r h) (fun d h1 => ∃ m, d = .ref m ∧ h.length ≤ m ∧ h1[m]? = some (.lst L) ∧ Ext [] h h1) noE) (q : ∀ h1 m, Ext [n] h h1 → Tolds h1 n (ms ++ [m]) (Ls ++ [L]) → Q .non h1) : WP (eBM mAppend o (aCons X aNil) r h) Q E := by
  have nl := lt_of_at t.lst
  refine wp_eBM ?_
  rw [ho]
  have t0 := t.lst
  refine ⟨n, ms.map D.ref, rfl, t0, ?_⟩
  refine wp_aCons (wp_use0 hx ?_)
  rintro d h1 ⟨m, rfl, lm, a, x⟩
  refine wp_aNil ?_
  refine wp_append (x.get0 t.lst) (by rw [List.length_map]; unfold sizeLine; omega) ?_
  intro h2 x2 a2
  have mn : m ≠ n := by omega
  refine q h2 m (x.w0.trans x2) ⟨by rw [a2, List.map_append]; rfl, ?_⟩
  exact Conts.snoc mn (x2.get1 a mn) ((t.all.ext0 x).ext x2)
end
end Ev

set_option Elab.async false
set_option linter.all false
set_option maxRecDepth 100000
set_option maxHeartbeats 4000000
namespace Lw
open PySem PySem.Spec PyProof.Rows L2 Py
def top (i : Nat) : Stmt := PySem.Challenge.pw_chargeways_k29_plans_refused.main.body.getD i (.Pass ⟨0, 0, 0, 0⟩)
abbrev s__law_draw : Stmt := top 76
abbrev s__law_ups : Stmt := top 78
abbrev s__law_pick : Stmt := top 77
abbrev s__law_menu : Stmt := top 79
abbrev s__law_rules : Stmt := top 80
abbrev s_is_list : Stmt := top 4
abbrev s_is_integer : Stmt := top 2
abbrev s_is_count : Stmt := top 3
abbrev s_want_room : Stmt := top 69
abbrev s_want_parents : Stmt := top 70
abbrev s_children_of : Stmt := top 71
abbrev s_want_struck : Stmt := top 72
abbrev s_Tree___init__ : Stmt := inClass (top 73) 0
abbrev s_are_words : Stmt := top 44
abbrev s_are_tests_ahead : Stmt := top 46
abbrev s_is_take : Stmt := top 47
abbrev s_is_behind : Stmt := top 45
abbrev s_is_give : Stmt := top 48
abbrev s_is_move : Stmt := top 49
abbrev s_is_lift : Stmt := top 50
abbrev s_is_row : Stmt := top 51
abbrev s_want_word : Stmt := top 54
abbrev s_are_holds : Stmt := top 52
abbrev s_holds_in_sequence : Stmt := top 55
abbrev s_want_batch : Stmt := top 56
abbrev s_Book___init__ : Stmt := inClass (top 57) 1
abbrev s__law_book : Stmt := top 81
abbrev s__law_told : Stmt := top 82
abbrev s_Tree___len__ : Stmt := inClass (top 73) 1
abbrev s_Tree_want_group : Stmt := inClass (top 73) 2
abbrev s_Tree_way : Stmt := inClass (top 73) 7
abbrev s_want_kind : Stmt := top 53
abbrev s_Book_row : Stmt := inClass (top 57) 7
abbrev s_along : Stmt := top 59
abbrev s_take_plan : Stmt := top 60
abbrev s_give_plan : Stmt := top 61
abbrev s_settle_plan : Stmt := top 65
abbrev s_Book_shared : Stmt := inClass (top 57) 3
abbrev s_Tree_apart : Stmt := inClass (top 73) 14
abbrev s_move_ways : Stmt := top 62
abbrev s_move_plan : Stmt := top 63
abbrev s_Tree_parent : Stmt := inClass (top 73) 5
abbrev s_lift_plan : Stmt := top 64
abbrev s__law_spots_let : Stmt := top 85
abbrev s__law_odd : Stmt := top 83
abbrev s__law_spots_refused : Stmt := top 84
abbrev s_Book_others : Stmt := inClass (top 57) 11
abbrev s_Book___eq__ : Stmt := inClass (top 57) 13
abbrev s_Tree___eq__ : Stmt := inClass (top 73) 17
abbrev s__law_right : Stmt := top 86
abbrev s__law_pot : Stmt := top 75
abbrev s_law : Stmt := top 87
abbrev s_InvalidGroup___init__ : Stmt := inClass (top 7) 0
def ar_Book___init___take_give_move_lift_fails_shared_holds_batch_settles {α : Type} : List α → List α → List α
  | [s], [x0, x1, x2, x3, x4, x5, x6, x7, x8] => [s, x0, x1, x2, x3, x4, x5, x6, x7, x8]
  | _, _ => []
def ar_give_plan_home_tree_book {α : Type} : List α → List α → List α
  | [], [x0, x1, x2] => [x2, x1, x0]
  | _, _ => []
def ar_lift_plan_book_tree_home {α : Type} : List α → List α → List α
  | [], [x0, x1, x2] => [x0, x1, x2]
  | _, _ => []
def ar_move_plan_home_target_tree_book {α : Type} : List α → List α → List α
  | [], [x0, x1, x2, x3] => [x3, x2, x0, x1]
  | _, _ => []
def ar_move_plan_target_home_tree_book {α : Type} : List α → List α → List α
  | [], [x0, x1, x2, x3] => [x3, x2, x1, x0]
  | _, _ => []
def ar_settle_plan_group_tree {α : Type} : List α → List α → List α
  | [], [x0, x1] => [x1, x0]
  | _, _ => []
def ar_take_plan_group_book_tree {α : Type} : List α → List α → List α
  | [], [x0, x1, x2] => [x1, x2, x0]
  | _, _ => []
/-! ### the program as combinators -/
abbrev k_FAILS : D := (.tup (rowD [9, 10, 11]))
abbrev k_GIVE_WORDS : D := (.tup (rowD [4, 5, 6]))
abbrev k_HOLDING : D := (.tup (rowD [12, 13, 14, 15]))
abbrev k_LIFTS : D := (.tup [(.tup []), (.tup (rowD [7])), (.tup (rowD [5])), (.tup (rowD [7, 5])), (.tup (rowD [5, 7])), (.tup (rowD [8]))])
abbrev k_MOVE_WORDS : D := (.tup (rowD [4, 0, 1, 2, 7, 5]))
abbrev k_TAKE_WORDS : D := (.tup (rowD [0, 1, 2, 3]))
abbrev k_TESTS : D := (.tup (rowD [0, 2]))
def is0 : Nat → Option Bool
  | 0 => some true
  | _ => none
def is1 : Nat → Option Bool
  | 1 => some true
  | _ => none
def mt_InvalidGroup : Nat → Option Bool
  | 2 => some false
  | 3 => some true
  | _ => none
theorem mt_InvalidGroup_one : ∀ c, mt_InvalidGroup c = some true → c = 3 := by
  intro c e
  unfold mt_InvalidGroup at e
  split at e <;> first | rfl | exact nomatch e
def mt_IsTop : Nat → Option Bool
  | 2 => some true
  | 3 => some false
  | _ => none
def b__law_draw : SX := (sSeq (sIf (e2 oGt (e2 oIx (eV 0) (eC (.int 0))) (eC (.int 0))) (sSeq (sAsg (eA bDivmod (aCons (e2 oIx (eV 0) (eC (.int 0))) (aCons (eV 1) aNil))) (gT 2 (gsCons (Py.gSub (eV 0) (eC (.int 0))) (gsCons (gN 2) gsNil)))) (sSeq (sRet (eV 2)) sNil)) sNil) (sSeq (sAsg (e2 oMod (eA bInt (aCons (e2 oAdd (e2 oMul (e2 oIx (eV 0) (eC (.int 1))) (eC (.int 40009))) (eC (.int 17011))) aNil)) (eC (.int 2147483549))) (Py.gSub (eV 0) (eC (.int 1)))) (sSeq (sRet (e2 oMod (eA bInt (aCons (e2 oDiv (e2 oMod (eA bInt (aCons (e2 oMul (e2 oIx (eV 0) (eC (.int 1))) (e2 oIx (eV 0) (eC (.int 1)))) aNil)) (eC (.int 2147483587))) (eC (.int 11))) aNil)) (eV 1))) sNil)))
def f__law_draw : CF := runF 2 1 b__law_draw
def b__law_ups : SX := (sSeq (sAsg (eLst (aCons (eC .non) aNil)) (gN 2)) (sSeq (sFor (Py.iRng1 (eCall (opF 2 0 bd0 f__law_draw) (aCons (eV 0) (aCons (e2 oAdd (eV 1) (eC (.int 1))) aNil)) aNil)) (gN 3) (sSeq (sE (eBM mAppend (eV 2) (aCons (eCall (opF 2 0 bd0 f__law_draw) (aCons (eV 0) (aCons (eA bLen (aCons (eV 2) aNil)) aNil)) aNil) aNil))) sNil)) (sSeq (sRet (eV 2)) sNil)))
def f__law_ups : CF := runF 2 2 b__law_ups
def b__law_pick : SX := (sSeq (sRet (e2 oIx (eV 1) (eCall (opF 2 0 bd0 f__law_draw) (aCons (eV 0) (aCons (eA bLen (aCons (eV 1) aNil)) aNil)) aNil))) sNil)
def f__law_pick : CF := runF 2 0 b__law_pick
def b__law_menu : SX := (sSeq (sAsg (eDisp [((eC (.str (wd 12))), (eC (.str "try live,look add live,add look live,add live,live add,look live add")))]) (gN 1)) (sSeq (Py.sDput (eV 1) (eC (.str (wd 13))) (eC (.str "home off end,home end off,end home off,home end,end home,end"))) (sSeq (Py.sDput (eV 1) (eC (.str (wd 14))) (eC (.str "home try set off,home look add set off,home off add set,home set add off,"))) (sSeq (Py.sDput (eV 1) (eC (.str (wd 14))) (e2 oAdd (e2 oDg (eV 1) (eC (.str (wd 14)))) (eC (.str "home add look set off,home set,home try off set,home look set off add,")))) (sSeq (Py.sDput (eV 1) (eC (.str (wd 14))) (e2 oAdd (e2 oDg (eV 1) (eC (.str (wd 14)))) (eC (.str "home add set,home look set,home set add,try home set off,set home off,")))) (sSeq (Py.sDput (eV 1) (eC (.str (wd 14))) (e2 oAdd (e2 oDg (eV 1) (eC (.str (wd 14)))) (eC (.str "add home off set,set,look set,set add,try set home")))) (sSeq (Py.sDput (eV 1) (eC (.str (wd 15))) (eC (.str "both,set off,off set,set,off,"))) (sSeq (sRet (eComp [2] (iSeq (eSpl (e2 oDg (eV 1) (eV 0)) (eC (.str ",")))) (eC (.bl true)) (eIf (e2 (oEq true) (eV 2) (eC (.str ""))) (eA bTuple (aCons (eSpl (eV 2) (eC (.str " "))) aNil)) (eTup aNil)))) sNil))))))))
def f__law_menu : CF := runF 1 2 b__law_menu
def b__law_rules : SX := (sSeq (sAsg (eDisp [((eC (.str (wd 18))), (eCall (opF 2 0 bd0 f__law_pick) (aCons (eV 0) (aCons (eLst (aCons (eC (.str (wd 9))) (aCons (eC (.str (wd 9))) (aCons (eC (.str (wd 10))) (aCons (eC (.str (wd 11))) aNil))))) aNil)) aNil)), ((eC (.str (wd 19))), (e2 (oEq false) (eCall (opF 2 0 bd0 f__law_draw) (aCons (eV 0) (aCons (eC (.int 2)) aNil)) aNil) (eC (.int 0))))]) (gN 3)) (sSeq (Py.sDput (eV 3) (eC (.str "batch")) (eIf (e2 (oEq false) (eCall (opF 2 0 bd0 f__law_draw) (aCons (eV 0) (aCons (eC (.int 2)) aNil)) aNil) (eC (.int 0))) (eC (.int 1)) (e2 oAdd (eC (.int 1)) (eCall (opF 2 0 bd0 f__law_draw) (aCons (eV 0) (aCons (eV 2) aNil)) aNil)))) (sSeq (Py.sDput (eV 3) (eC (.str "settles")) (e2 (oEq false) (eCall (opF 2 0 bd0 f__law_draw) (aCons (eV 0) (aCons (eC (.int 2)) aNil)) aNil) (eC (.int 0)))) (sSeq (Py.sDput (eV 3) (eC (.str "holds")) (eA bTuple (aCons (eComp [4] (iSeq (eLst (aCons (eC (.str (wd 12))) (aCons (eC (.str (wd 13))) (aCons (eC (.str (wd 14))) (aCons (eC (.str (wd 15))) aNil)))))) (e2 oGt (eCall (opF 2 0 bd0 f__law_draw) (aCons (eV 0) (aCons (eC (.int 3)) aNil)) aNil) (eC (.int 0))) (eV 4)) aNil))) (sSeq (Py.sDput (eV 3) (eC (.str (wd 12))) (eCall (opF 2 0 bd0 f__law_pick) (aCons (eV 0) (aCons (eSl (eCall (opF 1 0 bd0 f__law_menu) (aCons (eC (.str (wd 12))) aNil) aNil) pNo (pSome (e2 oAdd (eC (.int 4)) (e2 oMul (eC (.int 2)) (eA bInt (aCons (e2 (oEq false) (e2 oDg (eV 3) (eC (.str "batch"))) (eC (.int 1))) aNil)))))) aNil)) aNil)) (sSeq (Py.sDput (eV 3) (eC (.str (wd 13))) (eCall (opF 2 0 bd0 f__law_pick) (aCons (eV 0) (aCons (eSl (eCall (opF 1 0 bd0 f__law_menu) (aCons (eC (.str (wd 13))) aNil) aNil) pNo (pSome (e2 oAdd (eC (.int 1)) (e2 oMul (eC (.int 5)) (eCall (opF 2 0 bd0 f__law_draw) (aCons (eV 0) (aCons (eC (.int 2)) aNil)) aNil))))) aNil)) aNil)) (sSeq (Py.sDput (eV 3) (eC (.str (wd 15))) (eCall (opF 2 0 bd0 f__law_pick) (aCons (eV 0) (aCons (eSl (eCall (opF 1 0 bd0 f__law_menu) (aCons (eC (.str (wd 15))) aNil) aNil) pNo (pSome (e2 oAdd (eC (.int 1)) (e2 oMul (eC (.int 5)) (eCall (opF 2 0 bd0 f__law_draw) (aCons (eV 0) (aCons (eC (.int 2)) aNil)) aNil))))) aNil)) aNil)) (sSeq (Py.sDput (eV 3) (eC (.str (wd 14))) (eTup aNil)) (sSeq (sIf (e2 oGt (eV 1) (eC (.int 0))) (sSeq (Py.sDput (eV 3) (eC (.str (wd 14))) (eCall (opF 2 0 bd0 f__law_pick) (aCons (eV 0) (aCons (eSl (eCall (opF 1 0 bd0 f__law_menu) (aCons (eC (.str (wd 14))) aNil) aNil) pNo (pSome (eIf (eAnd (e2 (oEq false) (eV 1) (eC (.int 2))) (eB (e2 oDg (eV 3) (eC (.str (wd 19)))))) (eC (.int 18)) (eC (.int 11))))) aNil)) aNil)) sNil) sNil) (sSeq (sRet (eV 3)) sNil))))))))))
def f__law_rules : CF := runF 3 2 b__law_rules
def b_is_list : SX := (sSeq (sRet (eIsi [.list, .tuple] (eV 0))) sNil)
def f_is_list : CF := runF 1 0 b_is_list
def b_is_integer : SX := (sSeq (sRet (eAndB (eIsi [.int] (eV 0)) (eNotB (eIsi [.bool] (eV 0))))) sNil)
def f_is_integer : CF := runF 1 0 b_is_integer
def b_is_count : SX := (sSeq (sRet (eAndB (eCall (opF 1 0 bd0 f_is_integer) (aCons (eV 0) aNil) aNil) (e2 oGe (eV 0) (eC (.int 0))))) sNil)
def f_is_count : CF := runF 1 0 b_is_count
def b_want_room : SX := (sSeq (sIf (e2 oGt (eV 0) (eC (.int 200))) (sSeq (fun _ _ => .stuck) sNil) sNil) sNil)
def f_want_room : CF := runF 1 0 b_want_room
def b_want_parents : SX := (sSeq (sIf (eNot (eB (eCall (opF 1 0 bd0 f_is_list) (aCons (eV 0) aNil) aNil))) (sSeq (fun _ _ => .stuck) sNil) sNil) (sSeq (sFor (Py.iEnum 0 (eV 0)) (gT 2 (gsCons (gN 1) (gsCons (gN 2) gsNil))) (sSeq (sIf (eOr (eNot (eB (eCall (opF 1 0 bd0 f_is_count) (aCons (eV 2) aNil) aNil))) (e2 oGt (eV 2) (eV 1))) (sSeq (fun _ _ => .stuck) sNil) sNil) sNil)) (sSeq (sE (eCall (opF 1 0 bd0 f_want_room) (aCons (e2 oAdd (eA bLen (aCons (eV 0) aNil)) (eC (.int 1))) aNil) aNil)) sNil)))
def f_want_parents : CF := runF 1 2 b_want_parents
def b_children_of : SX := (sSeq (sRet (eComp [2, 3] (Py.iEnum 1 (eV 0)) (e2 (oEq false) (eV 3) (eV 1)) (eV 2))) sNil)
def f_children_of : CF := runF 2 2 b_children_of
def b_want_struck : SX := (sSeq (sIf (eNot (eB (eCall (opF 1 0 bd0 f_is_list) (aCons (eV 1) aNil) aNil))) (sSeq (fun _ _ => .stuck) sNil) sNil) (sSeq (sFor (Py.iEnum 0 (eV 1)) (gT 2 (gsCons (gN 2) (gsCons (gN 3) gsNil))) (sSeq (sIf (eOr (eNot (eB (eCall (opF 1 0 bd0 f_is_integer) (aCons (eV 3) aNil) aNil))) (eOr (eNot (eChain oLt oLe (eC (.int 0)) (eV 3) (eA bLen (aCons (eV 0) aNil)))) (e2 (oIn false) (eV 3) (eSl (eV 1) pNo (pSome (eV 2)))))) (sSeq (fun _ _ => .stuck) sNil) sNil) sNil)) (sSeq (sFor (Py.iEnum 0 (eV 1)) (gT 2 (gsCons (gN 2) (gsCons (gN 3) gsNil))) (sSeq (sIf (eNot (eB (eA bAll (aCons (eComp [4] (iSeq (eCall (opF 2 0 bd0 f_children_of) (aCons (eV 0) (aCons (eV 3) aNil)) aNil)) (eC (.bl true)) (e2 (oIn false) (eV 4) (eV 1))) aNil)))) (sSeq (fun _ _ => .stuck) sNil) sNil) sNil)) sNil)))
def f_want_struck : CF := runF 2 3 b_want_struck
def b_Tree___init__ : SX := (sSeq (sE (eCall (opF 1 0 bd0 f_want_parents) (aCons (eV 1) aNil) aNil)) (sSeq (sE (eCall (opF 2 0 bd0 f_want_struck) (aCons (eV 1) (aCons (eV 2) aNil)) aNil)) (sSeq (Py.sFld 0 0 (eV 0) (eA bTuple (aCons (eV 1) aNil))) (sSeq (Py.sFld 0 1 (eV 0) (eA bTuple (aCons (eA bSorted (aCons (eV 2) aNil)) aNil))) sNil))))
def f_Tree___init__ : CF := runF 3 0 b_Tree___init__
def b_are_words : SX := (sSeq (sIf (eOr (eNot (eB (eIsi [.tuple] (eV 0)))) (eNot (eB (eA bAll (aCons (eComp [3] (iSeq (eV 0)) (eC (.bl true)) (eAndB (eIsi [.str] (eV 3)) (e2 (oIn false) (eV 3) (eV 1)))) aNil))))) (sSeq (sRet (eC (.bl false))) sNil) sNil) (sSeq (sRet (eA bAll (aCons (eComp [2, 3] (Py.iEnum 0 (eV 0)) (eC (.bl true)) (e2 (oIn true) (eV 3) (eSl (eV 0) pNo (pSome (eV 2))))) aNil))) sNil))
def f_are_words : CF := runF 2 2 b_are_words
def b_are_tests_ahead : SX := (sSeq (sRet (eOrB (e2 (oIn true) (eV 1) (eV 0)) (eA bAll (aCons (eComp [2] (iSeq (eC k_TESTS)) (e2 (oIn false) (eV 2) (eV 0)) (e2 oLt (eTM mTupIx (eV 0) (aCons (eV 2) aNil)) (eTM mTupIx (eV 0) (aCons (eV 1) aNil)))) aNil)))) sNil)
def f_are_tests_ahead : CF := runF 2 1 b_are_tests_ahead
def b_is_take : SX := (sSeq (sIf (eOr (eNot (eB (eCall (opF 2 0 bd0 f_are_words) (aCons (eV 0) (aCons (eC k_TAKE_WORDS) aNil)) aNil))) (eOr (e2 (oIn true) (eC (.str (wd 3))) (eV 0)) (eNot (eB (eCall (opF 2 0 bd0 f_are_tests_ahead) (aCons (eV 0) (aCons (eC (.str (wd 3))) aNil)) aNil))))) (sSeq (sRet (eC (.bl false))) sNil) sNil) (sSeq (sRet (eIf (e2 (oIn true) (eC (.str (wd 2))) (eV 0)) (e2 (oIn false) (eC (.str (wd 1))) (eV 0)) (eAndB (e2 (oIn true) (eC (.str (wd 0))) (eV 0)) (e2 (oIn true) (eC (.str (wd 1))) (eV 0))))) sNil))
def f_is_take : CF := runF 1 0 b_is_take
def b_is_behind : SX := (sSeq (sRet (eOrB (e2 (oIn true) (eV 1) (eV 0)) (eAndB (e2 (oIn false) (eV 2) (eV 0)) (e2 oLt (eTM mTupIx (eV 0) (aCons (eV 2) aNil)) (eTM mTupIx (eV 0) (aCons (eV 1) aNil)))))) sNil)
def f_is_behind : CF := runF 3 0 b_is_behind
def b_is_give : SX := (sSeq (sRet (eAndB (eCall (opF 2 0 bd0 f_are_words) (aCons (eV 0) (aCons (eC k_GIVE_WORDS) aNil)) aNil) (eAndB (e2 (oIn false) (eC (.str (wd 6))) (eV 0)) (eCall (opF 3 0 bd0 f_is_behind) (aCons (eV 0) (aCons (eC (.str (wd 5))) (aCons (eC (.str (wd 4))) aNil))) aNil)))) sNil)
def f_is_give : CF := runF 1 0 b_is_give
def b_is_move : SX := (sSeq (sIf (eNot (eB (eCall (opF 2 0 bd0 f_are_words) (aCons (eV 0) (aCons (eC k_MOVE_WORDS) aNil)) aNil))) (sSeq (sRet (eC (.bl false))) sNil) sNil) (sSeq (sIf (e2 (oEq false) (eA bLen (aCons (eV 0) aNil)) (eC (.int 0))) (sSeq (sRet (eC (.bl true))) sNil) sNil) (sSeq (sIf (eOr (e2 (oIn true) (eC (.str (wd 7))) (eV 0)) (eAnd (e2 (oIn false) (eC (.str (wd 2))) (eV 0)) (eOr (e2 (oIn false) (eC (.str (wd 0))) (eV 0)) (e2 (oIn false) (eC (.str (wd 1))) (eV 0))))) (sSeq (sRet (eC (.bl false))) sNil) sNil) (sSeq (sRet (eAndB (eCall (opF 3 0 bd0 f_is_behind) (aCons (eV 0) (aCons (eC (.str (wd 5))) (aCons (eC (.str (wd 4))) aNil))) aNil) (eAndB (eCall (opF 2 0 bd0 f_are_tests_ahead) (aCons (eV 0) (aCons (eC (.str (wd 7))) aNil)) aNil) (eCall (opF 2 0 bd0 f_are_tests_ahead) (aCons (eV 0) (aCons (eC (.str (wd 5))) aNil)) aNil)))) sNil))))
def f_is_move : CF := runF 1 0 b_is_move
def b_is_lift : SX := (sSeq (sRet (eAndB (eCall (opF 2 0 bd0 f_are_words) (aCons (eV 0) (aCons (eTup (aCons (eC (.str (wd 7))) (aCons (eC (.str (wd 5))) (aCons (eC (.str (wd 8))) aNil)))) aNil)) aNil) (e2 (oInDp false) (eV 0) (eC k_LIFTS)))) sNil)
def f_is_lift : CF := runF 1 0 b_is_lift
def b_is_row : SX := (sSeq (sIf (e2 (oEq false) (eV 0) (eC (.str (wd 12)))) (sSeq (sRet (eCall (opF 1 0 bd0 f_is_take) (aCons (eV 1) aNil) aNil)) sNil) sNil) (sSeq (sIf (e2 (oEq false) (eV 0) (eC (.str (wd 13)))) (sSeq (sRet (eCall (opF 1 0 bd0 f_is_give) (aCons (eV 1) aNil) aNil)) sNil) sNil) (sSeq (sRet (eIf (e2 (oEq false) (eV 0) (eC (.str (wd 14)))) (eCall (opF 1 0 bd0 f_is_move) (aCons (eV 1) aNil) aNil) (eCall (opF 1 0 bd0 f_is_lift) (aCons (eV 1) aNil) aNil))) sNil)))
def f_is_row : CF := runF 2 0 b_is_row
def b_want_word : SX := (sSeq (sIf (eNot (eB (eV 2))) (sSeq (fun _ _ => .stuck) sNil) sNil) sNil)
def f_want_word : CF := runF 3 0 b_want_word
def b_are_holds : SX := (sSeq (sRet (eAndB (eIsi [.list, .tuple] (eV 0)) (eCall (opF 2 0 bd0 f_are_words) (aCons (eA bTuple (aCons (eV 0) aNil)) (aCons (eC k_HOLDING) aNil)) aNil))) sNil)
def f_are_holds : CF := runF 1 0 b_are_holds
def b_holds_in_sequence : SX := (sSeq (sIf (eNot (eB (eCall (opF 1 0 bd0 f_are_holds) (aCons (eV 0) aNil) aNil))) (sSeq (fun _ _ => .stuck) sNil) sNil) (sSeq (sRet (eA bTuple (aCons (eComp [1] (iSeq (eC k_HOLDING)) (e2 (oIn false) (eV 1) (eV 0)) (eV 1)) aNil))) sNil))
def f_holds_in_sequence : CF := runF 1 1 b_holds_in_sequence
def b_want_batch : SX := (sSeq (sIf (eOr (eNot (eB (eCall (opF 1 0 bd0 f_is_integer) (aCons (eV 0) aNil) aNil))) (eNot (eChain oLe oLe (eC (.int 1)) (eV 0) (eC (.int 50))))) (sSeq (fun _ _ => .stuck) sNil) sNil) sNil)
def f_want_batch : CF := runF 1 0 b_want_batch
def b_Book___init__ : SX := (sSeq (Py.sFld 1 2 (eV 0) (eDisp [((eC (.str (wd 12))), (eV 1)), ((eC (.str (wd 13))), (eV 2)), ((eC (.str (wd 14))), (eV 3)), ((eC (.str (wd 15))), (eV 4))])) (sSeq (sFor (iSeq (eC k_HOLDING)) (gN 10) (sSeq (sIf (eNot (eB (eCall (opF 2 0 bd0 f_is_row) (aCons (eV 10) (aCons (e2 oDg (eFld 1 2 (eV 0)) (eV 10)) aNil)) aNil))) (sSeq (fun _ _ => .stuck) sNil) sNil) sNil)) (sSeq (sE (eCall (opF 3 0 bd0 f_want_word) (aCons (eC (.str (wd 18))) (aCons (eV 5) (aCons (eAndB (eIsi [.str] (eV 5)) (e2 (oIn false) (eV 5) (eC k_FAILS))) aNil))) aNil)) (sSeq (sE (eCall (opF 3 0 bd0 f_want_word) (aCons (eC (.str (wd 19))) (aCons (eV 6) (aCons (eIsi [.bool] (eV 6)) aNil))) aNil)) (sSeq (Py.sFld 1 3 (eV 0) (eV 5)) (sSeq (Py.sFld 1 4 (eV 0) (eV 6)) (sSeq (Py.sFld 1 5 (eV 0) (eCall (opF 1 0 bd0 f_holds_in_sequence) (aCons (eV 7) aNil) aNil)) (sSeq (sE (eCall (opF 1 0 bd0 f_want_batch) (aCons (eV 8) aNil) aNil)) (sSeq (sE (eCall (opF 3 0 bd0 f_want_word) (aCons (eC (.str "settles")) (aCons (eV 9) (aCons (eIsi [.bool] (eV 9)) aNil))) aNil)) (sSeq (Py.sFld 1 6 (eV 0) (eV 8)) (sSeq (Py.sFld 1 7 (eV 0) (eV 9)) (sSeq (sIf (eAnd (e2 oGt (eV 8) (eC (.int 1))) (e2 (oEq true) (e2 oIx (eV 1) (e1 oNeg (eC (.int 1)))) (eC (.str (wd 3))))) (sSeq (fun _ _ => .stuck) sNil) sNil) (sSeq (sIf (eAnd (eNot (eB (eV 6))) (eAnd (e2 (oEq true) (eV 3) (eTup aNil)) (e2 (oEq true) (e2 oIx (eV 3) (eC (.int 0))) (eC (.str (wd 4)))))) (sSeq (fun _ _ => .stuck) sNil) sNil) sNil)))))))))))))
def f_Book___init__ : CF := runF 10 1 b_Book___init__
def b__law_book : SX := (sSeq (sRet (eCall (opM 1 0 9 (fun a b => ar_Book___init___take_give_move_lift_fails_shared_holds_batch_settles a b) f_Book___init__) aNil (aCons (e2 oDg (eV 0) (eC (.str (wd 12)))) (aCons (e2 oDg (eV 0) (eC (.str (wd 13)))) (aCons (e2 oDg (eV 0) (eC (.str (wd 14)))) (aCons (e2 oDg (eV 0) (eC (.str (wd 15)))) (aCons (e2 oDg (eV 0) (eC (.str (wd 18)))) (aCons (e2 oDg (eV 0) (eC (.str (wd 19)))) (aCons (e2 oDg (eV 0) (eC (.str "holds"))) (aCons (e2 oDg (eV 0) (eC (.str "batch"))) (aCons (e2 oDg (eV 0) (eC (.str "settles"))) aNil))))))))))) sNil)
def f__law_book : CF := runF 1 0 b__law_book
def b__law_told : (LH → R D) → SX := (lSeq (lTry (lMadeIs "made" .list) [(mt_InvalidGroup, (some 1), fun _ fs => sRet (eLst (aCons (eC (.str "spot")) (aCons (eXf 8 fs) (aCons (eAndB (eC (.bl true)) (eC (.bl true))) aNil))))), (mt_IsTop, none, fun _ _ => (sSeq (sRet (eLst (aCons (eC (.str "top")) aNil))) sNil))]) sNil)
def b_Tree___len__ : SX := (sSeq (sRet (eA bLen (aCons (e2 oAdd (eTup (aCons (eC .non) aNil)) (eFld 0 0 (eV 0))) aNil))) sNil)
def f_Tree___len__ : CF := runF 1 0 b_Tree___len__
def b_Tree_want_group : SX := (sSeq (sIf (eOr (eNot (eB (eCall (opF 1 0 bd0 f_is_count) (aCons (eV 1) aNil) aNil))) (e2 oGe (eV 1) (eA (bLenO 0 f_Tree___len__) (aCons (eV 0) aNil)))) (sSeq (sRaise1 3 8 (eV 1)) sNil) sNil) sNil)
def f_Tree_want_group : CF := runF 2 0 b_Tree_want_group
def b_Tree_way : SX := (sSeq (sE (eMeth 0 (opF 2 0 bd0 f_Tree_want_group) (eV 0) (aCons (eV 1) aNil) aNil)) (sSeq (sAsg (eLst (aCons (eV 1) aNil)) (gN 2)) (sSeq (sWhile (e2 oGt (e2 oIx (eV 2) (e1 oNeg (eC (.int 1)))) (eC (.int 0))) (sSeq (sE (eBM mAppend (eV 2) (aCons (e2 oIx (eFld 0 0 (eV 0)) (e2 oSub (e2 oIx (eV 2) (e1 oNeg (eC (.int 1)))) (eC (.int 1)))) aNil))) sNil)) (sSeq (sRet (eV 2)) sNil))))
def f_Tree_way : CF := runF 2 1 b_Tree_way
def b_want_kind : SX := (sSeq (sIf (eOr (eNot (eB (eIsi [.str] (eV 0)))) (e2 (oIn true) (eV 0) (eC k_HOLDING))) (sSeq (fun _ _ => .stuck) sNil) sNil) sNil)
def f_want_kind : CF := runF 1 0 b_want_kind
def b_Book_row : SX := (sSeq (sE (eCall (opF 1 0 bd0 f_want_kind) (aCons (eV 1) aNil) aNil)) (sSeq (sRet (e2 oDg (eFld 1 2 (eV 0)) (eV 1))) sNil))
def f_Book_row : CF := runF 2 0 b_Book_row
def b_along : SX := (sSeq (sRet (eComp [2] (iSeq (eV 1)) (eC (.bl true)) (eTup (aCons (eV 0) (aCons (eV 2) aNil))))) sNil)
def f_along : CF := runF 2 1 b_along
def b_take_plan : SX := (sSeq (sPar 4 5 (aCons (eMeth 0 (opF 2 0 bd0 f_Tree_way) (eV 1) (aCons (eV 2) aNil) aNil) (aCons (eLst aNil) aNil))) (sSeq (sFor (iSeq (eMeth 1 (opF 2 0 bd0 f_Book_row) (eV 0) (aCons (eC (.str (wd 12))) aNil) aNil)) (gN 3) (sSeq (sE (eBM mExtend (eV 5) (aCons (eIf (e2 (oEq false) (eV 3) (eC (.str (wd 3)))) (eLst (aCons (eTup (aCons (eV 3) (aCons (eC .non) aNil))) aNil)) (eCall (opF 2 0 bd0 f_along) (aCons (eV 3) (aCons (eV 4) aNil)) aNil)) aNil))) sNil)) (sSeq (sRet (eV 5)) sNil)))
def f_take_plan : CF := runF 3 3 b_take_plan
def b_give_plan : SX := (sSeq (sPar 4 5 (aCons (eMeth 0 (opF 2 0 bd0 f_Tree_way) (eV 1) (aCons (eV 2) aNil) aNil) (aCons (eLst aNil) aNil))) (sSeq (sFor (iSeq (eMeth 1 (opF 2 0 bd0 f_Book_row) (eV 0) (aCons (eC (.str (wd 13))) aNil) aNil)) (gN 3) (sSeq (sE (eBM mExtend (eV 5) (aCons (eIf (e2 (oEq false) (eV 3) (eC (.str (wd 5)))) (eCall (opF 2 0 bd0 f_along) (aCons (eV 3) (aCons (eV 4) aNil)) aNil) (eLst (aCons (eTup (aCons (eV 3) (aCons (eC .non) aNil))) aNil))) aNil))) sNil)) (sSeq (sRet (eV 5)) sNil)))
def f_give_plan : CF := runF 3 3 b_give_plan
def b_settle_plan : SX := (sSeq (sRet (eCall (opF 2 0 bd0 f_along) (aCons (eC (.str (wd 5))) (aCons (eMeth 0 (opF 2 0 bd0 f_Tree_way) (eV 0) (aCons (eV 1) aNil) aNil) aNil)) aNil)) sNil)
def f_settle_plan : CF := runF 2 0 b_settle_plan
def b_Book_shared : SX := (sSeq (sRet (eFld 1 4 (eV 0))) sNil)
def f_Book_shared : CF := runF 1 0 b_Book_shared
def b_Tree_apart : SX := (sSeq (sAsg (eTup (aCons (eMeth 0 (opF 2 0 bd0 f_Tree_way) (eV 0) (aCons (eV 1) aNil) aNil) (aCons (eMeth 0 (opF 2 0 bd0 f_Tree_way) (eV 0) (aCons (eV 2) aNil) aNil) aNil))) (gT 2 (gsCons (gN 3) (gsCons (gN 4) gsNil)))) (sSeq (sRet (eComp [5] (iSeq (eV 3)) (e2 (oIn true) (eV 5) (eV 4)) (eV 5))) sNil))
def f_Tree_apart : CF := runF 3 3 b_Tree_apart
def b_move_ways : SX := (sSeq (sIf (eB (eMeth 1 (opF 1 0 bd0 f_Book_shared) (eV 0) aNil aNil)) (sSeq (sRet (eTup (aCons (eMeth 0 (opF 2 0 bd0 f_Tree_way) (eV 1) (aCons (eV 2) aNil) aNil) (aCons (eMeth 0 (opF 2 0 bd0 f_Tree_way) (eV 1) (aCons (eV 3) aNil) aNil) aNil)))) sNil) sNil) (sSeq (sRet (eTup (aCons (eMeth 0 (opF 3 0 bd0 f_Tree_apart) (eV 1) (aCons (eV 2) (aCons (eV 3) aNil)) aNil) (aCons (eMeth 0 (opF 3 0 bd0 f_Tree_apart) (eV 1) (aCons (eV 3) (aCons (eV 2) aNil)) aNil) aNil)))) sNil))
def f_move_ways : CF := runF 4 0 b_move_ways
def b_move_plan : SX := (sSeq (sAsg (eCall (opF 4 0 bd0 f_move_ways) (aCons (eV 0) (aCons (eV 1) (aCons (eV 2) (aCons (eV 3) aNil)))) aNil) (gT 2 (gsCons (gN 6) (gsCons (gN 7) gsNil)))) (sSeq (sAsg (eLst aNil) (gN 4)) (sSeq (sFor (iSeq (eMeth 1 (opF 2 0 bd0 f_Book_row) (eV 0) (aCons (eC (.str (wd 14))) aNil) aNil)) (gN 5) (sSeq (sIf (e2 (oEq false) (eV 5) (eC (.str (wd 5)))) (sSeq (sE (eBM mExtend (eV 4) (aCons (eCall (opF 2 0 bd0 f_along) (aCons (eV 5) (aCons (eV 6) aNil)) aNil) aNil))) sNil) (sSeq (sIf (e2 (oIn false) (eV 5) (eTup (aCons (eC (.str (wd 4))) (aCons (eC (.str (wd 7))) aNil)))) (sSeq (sE (eBM mAppend (eV 4) (aCons (eTup (aCons (eV 5) (aCons (eC .non) aNil))) aNil))) sNil) (sSeq (sE (eBM mExtend (eV 4) (aCons (eCall (opF 2 0 bd0 f_along) (aCons (eV 5) (aCons (eV 7) aNil)) aNil) aNil))) sNil)) sNil)) sNil)) (sSeq (sRet (eV 4)) sNil))))
def f_move_plan : CF := runF 4 4 b_move_plan
def b_Tree_parent : SX := (sSeq (sE (eMeth 0 (opF 2 0 bd0 f_Tree_want_group) (eV 0) (aCons (eV 1) aNil) aNil)) (sSeq (sRet (eIf (e2 (oEq false) (eV 1) (eC (.int 0))) (eC .non) (e2 oIx (eFld 0 0 (eV 0)) (e2 oSub (eV 1) (eC (.int 1)))))) sNil))
def f_Tree_parent : CF := runF 2 0 b_Tree_parent
def b_lift_plan : SX := (sSeq (sIf (e1 (oIsN false) (eMeth 0 (opF 2 0 bd0 f_Tree_parent) (eV 1) (aCons (eV 2) aNil) aNil)) (sSeq (sRaise0 2) sNil) sNil) (sSeq (sRet (eComp [3] (iSeq (eMeth 1 (opF 2 0 bd0 f_Book_row) (eV 0) (aCons (eC (.str (wd 15))) aNil) aNil)) (eC (.bl true)) (eTup (aCons (eV 3) (aCons (eIf (e2 (oIn false) (eV 3) (eTup (aCons (eC (.str (wd 5))) (aCons (eC (.str (wd 8))) aNil)))) (eV 2) (eC .non)) aNil))))) sNil))
def f_lift_plan : CF := runF 3 1 b_lift_plan
def b__law_spots_let : SX := (sSeq (sFor (iSeq (eLst (aCons (eC (.int 0)) (aCons (eA bMin (aCons (eC (.int 1)) (aCons (e2 oSub (eV 2) (eC (.int 1))) aNil))) (aCons (e2 oSub (eV 2) (eC (.int 1))) (aCons (e2 oDiv (eV 2) (eC (.int 2))) aNil)))))) (gN 3) (sSeq (sAsg (eLst (aCons (eTold 2 b__law_told (eCall (opF 3 0 bd0 f_take_plan) (aCons (eV 0) (aCons (eV 1) (aCons (eV 3) aNil))) aNil)) aNil)) (gN 4)) (sSeq (sE (eBM mAppend (eV 4) (aCons (eTold 2 b__law_told (eCall (opF 3 0 bd0 f_give_plan) (aCons (eV 0) (aCons (eV 1) (aCons (eV 3) aNil))) aNil)) aNil))) (sSeq (sE (eBM mAppend (eV 4) (aCons (eTold 2 b__law_told (eCall (opF 2 0 bd0 f_settle_plan) (aCons (eV 1) (aCons (eV 3) aNil)) aNil)) aNil))) (sSeq (sE (eBM mAppend (eV 4) (aCons (eTold 2 b__law_told (eCall (opF 4 0 bd0 f_move_plan) (aCons (eV 0) (aCons (eV 1) (aCons (eV 3) (aCons (e2 oSub (eV 2) (eC (.int 1))) aNil)))) aNil)) aNil))) (sSeq (sE (eBM mAppend (eV 4) (aCons (eTold 2 b__law_told (eCall (opF 4 0 bd0 f_move_plan) (aCons (eV 0) (aCons (eV 1) (aCons (eC (.int 0)) (aCons (eV 3) aNil)))) aNil)) aNil))) (sSeq (sE (eBM mAppend (eV 4) (aCons (eTold 2 b__law_told (eCall (opF 3 0 bd0 f_lift_plan) (aCons (eV 0) (aCons (eV 1) (aCons (eV 3) aNil))) aNil)) aNil))) (sSeq (sIf (e2 (oEq true) (eV 4) (e2 oAdd (e2 oMul (eLst (aCons (eLst (aCons (eC (.str "made")) (aCons (eC (.bl true)) aNil))) aNil)) (eC (.int 5))) (eLst (aCons (eIf (e2 (oEq false) (eV 3) (eC (.int 0))) (eLst (aCons (eC (.str "top")) aNil)) (eLst (aCons (eC (.str "made")) (aCons (eC (.bl true)) aNil)))) aNil)))) (sSeq (sRet (eC (.bl false))) sNil) sNil) sNil)))))))) (sSeq (sRet (eC (.bl true))) sNil))
def f__law_spots_let : CF := runF 3 2 b__law_spots_let
def b__law_odd : SX := (sSeq (sAsg (eLst (aCons (eV 1) (aCons (e2 oAdd (eV 1) (eC (.int 1))) (aCons (e1 oNeg (eC (.int 1))) (aCons (e2 oSub (eC (.int 0)) (eV 1)) (aCons (e2 oPow (eC (.int 10)) (eC (.int 30))) (aCons (e2 oSub (e2 oSub (eC (.int 0)) (e2 oPow (eC (.int 10)) (eC (.int 30)))) (eC (.int 1))) aNil))))))) (gN 2)) (sSeq (sAsg (eLst (aCons (eC .non) (aCons (eC (.bl true)) (aCons (eC (.bl false)) (aCons (eC (.str "")) (aCons (eC (.str "0")) (aCons (eC (.str "top")) (aCons (eTup aNil) (aCons (eTup (aCons (eC (.int 0)) aNil)) (aCons (eLst (aCons (eC (.int 0)) aNil)) (aCons (eLst aNil) (aCons eDnew (aCons (eDisp [((eC (.int 0)), (eC (.int 1)))]) aNil))))))))))))) (gN 3)) (sSeq (sRet (eCall (opF 2 0 bd0 f__law_pick) (aCons (eV 0) (aCons (e2 oAdd (eV 2) (eV 3)) aNil)) aNil)) sNil)))
def f__law_odd : CF := runF 2 2 b__law_odd
def b__law_spots_refused : SX := (sSeq (sAsg (eTup (aCons (eCall (opF 2 0 bd0 f__law_odd) (aCons (eV 0) (aCons (eV 3) aNil)) aNil) (aCons (eCall (opF 2 0 bd0 f__law_odd) (aCons (eV 0) (aCons (eV 3) aNil)) aNil) (aCons (eCall (opF 2 0 bd0 f__law_draw) (aCons (eV 0) (aCons (eV 3) aNil)) aNil) aNil)))) (gT 3 (gsCons (gN 5) (gsCons (gN 6) (gsCons (gN 7) gsNil))))) (sSeq (sAsg (eLst (aCons (eTold 2 b__law_told (eCall (opF 3 0 bd0 f_take_plan) (aCons (eV 1) (aCons (eV 2) (aCons (eV 5) aNil))) aNil)) aNil)) (gN 4)) (sSeq (sE (eBM mAppend (eV 4) (aCons (eTold 2 b__law_told (eCall (opF 0 3 (fun a b => ar_take_plan_group_book_tree a b) f_take_plan) aNil (aCons (eV 5) (aCons (eV 1) (aCons (eV 2) aNil))))) aNil))) (sSeq (sE (eBM mAppend (eV 4) (aCons (eTold 2 b__law_told (eCall (opF 3 0 bd0 f_give_plan) (aCons (eV 1) (aCons (eV 2) (aCons (eV 5) aNil))) aNil)) aNil))) (sSeq (sE (eBM mAppend (eV 4) (aCons (eTold 2 b__law_told (eCall (opF 0 3 (fun a b => ar_give_plan_home_tree_book a b) f_give_plan) aNil (aCons (eV 5) (aCons (eV 2) (aCons (eV 1) aNil))))) aNil))) (sSeq (sE (eBM mAppend (eV 4) (aCons (eTold 2 b__law_told (eCall (opF 3 0 bd0 f_lift_plan) (aCons (eV 1) (aCons (eV 2) (aCons (eV 5) aNil))) aNil)) aNil))) (sSeq (sE (eBM mAppend (eV 4) (aCons (eTold 2 b__law_told (eCall (opF 0 3 (fun a b => ar_lift_plan_book_tree_home a b) f_lift_plan) aNil (aCons (eV 1) (aCons (eV 2) (aCons (eV 5) aNil))))) aNil))) (sSeq (sE (eBM mAppend (eV 4) (aCons (eTold 2 b__law_told (eCall (opF 2 0 bd0 f_settle_plan) (aCons (eV 2) (aCons (eV 5) aNil)) aNil)) aNil))) (sSeq (sE (eBM mAppend (eV 4) (aCons (eTold 2 b__law_told (eCall (opF 0 2 (fun a b => ar_settle_plan_group_tree a b) f_settle_plan) aNil (aCons (eV 5) (aCons (eV 2) aNil)))) aNil))) (sSeq (sE (eBM mAppend (eV 4) (aCons (eTold 2 b__law_told (eCall (opF 4 0 bd0 f_move_plan) (aCons (eV 1) (aCons (eV 2) (aCons (eV 5) (aCons (eV 6) aNil)))) aNil)) aNil))) (sSeq (sE (eBM mAppend (eV 4) (aCons (eTold 2 b__law_told (eCall (opF 4 0 bd0 f_move_plan) (aCons (eV 1) (aCons (eV 2) (aCons (eV 5) (aCons (eV 7) aNil)))) aNil)) aNil))) (sSeq (sE (eBM mAppend (eV 4) (aCons (eTold 2 b__law_told (eCall (opF 0 4 (fun a b => ar_move_plan_target_home_tree_book a b) f_move_plan) aNil (aCons (eV 6) (aCons (eV 5) (aCons (eV 2) (aCons (eV 1) aNil)))))) aNil))) (sSeq (sE (eBM mAppend (eV 4) (aCons (eTold 2 b__law_told (eCall (opF 4 0 bd0 f_move_plan) (aCons (eV 1) (aCons (eV 2) (aCons (eV 7) (aCons (eV 5) aNil)))) aNil)) aNil))) (sSeq (sE (eBM mAppend (eV 4) (aCons (eTold 2 b__law_told (eCall (opF 0 4 (fun a b => ar_move_plan_home_target_tree_book a b) f_move_plan) aNil (aCons (eV 7) (aCons (eV 5) (aCons (eV 2) (aCons (eV 1) aNil)))))) aNil))) (sSeq (sRet (e2 (oEq false) (eA bRepK (aCons (eV 4) aNil)) (eA bRepK (aCons (e2 oMul (eLst (aCons (eLst (aCons (eC (.str "spot")) (aCons (eV 5) (aCons (eC (.bl true)) aNil)))) aNil)) (eC (.int 13))) aNil)))) sNil)))))))))))))))
def f__law_spots_refused : CF := runF 4 4 b__law_spots_refused
def b_Book_others : SX := (sSeq (sRet (eLst (aStarV (eFld 1 2 (eV 0)) (aCons (eFld 1 3 (eV 0)) (aCons (eFld 1 4 (eV 0)) (aCons (eFld 1 6 (eV 0)) (aCons (eFld 1 7 (eV 0)) aNil))))))) sNil)
def f_Book_others : CF := runF 1 0 b_Book_others
def b_Book___eq__ : SX := (sSeq (sRet (eAndB (e1 (oIsO is1) (eV 1)) (eAndB (e2 (oEq false) (eMeth 1 (opF 1 0 bd0 f_Book_others) (eV 0) aNil aNil) (eMeth 1 (opF 1 0 bd0 f_Book_others) (eV 1) aNil aNil)) (e2 (oEq false) (eFld 1 5 (eV 0)) (eFld 1 5 (eV 1)))))) sNil)
def f_Book___eq__ : CF := runF 2 0 b_Book___eq__
def b_Tree___eq__ : SX := (sSeq (sIf (eNot (eB (e1 (oIsO is0) (eV 1)))) (sSeq (sRet (eC (.bl false))) sNil) sNil) (sSeq (sRet (eAndB (e2 (oEq false) (eFld 0 0 (eV 0)) (eFld 0 0 (eV 1))) (e2 (oEq false) (eFld 0 1 (eV 0)) (eFld 0 1 (eV 1))))) sNil))
def f_Tree___eq__ : CF := runF 2 0 b_Tree___eq__
def b__law_right : SX := (sSeq (sAsg (eCall (opF 2 0 bd0 f__law_ups) (aCons (eV 0) (aCons (eC (.int 7)) aNil)) aNil) (gN 1)) (sSeq (sPar 4 5 (aCons (eA bLen (aCons (eV 1) aNil)) (aCons (eCall (opF 3 0 bd0 f__law_rules) (aCons (eV 0) (aCons (eCall (opF 2 0 bd0 f__law_draw) (aCons (eV 0) (aCons (eC (.int 3)) aNil)) aNil) (aCons (eC (.int 50)) aNil))) aNil) aNil))) (sSeq (sIf (e2 (oEq false) (eCall (opF 2 0 bd0 f__law_draw) (aCons (eV 0) (aCons (eC (.int 3)) aNil)) aNil) (eC (.int 0))) (sSeq (sAsg (eDictPlus (eV 5) (eLst (aCons (eTup (aCons (eC (.str (wd 14))) (aCons (eTup aNil) aNil))) (aCons (eTup (aCons (eC (.str (wd 15))) (aCons (eTup aNil) aNil))) aNil)))) (gN 5)) sNil) sNil) (sSeq (sAsg (eIf (eAnd (e2 oGt (eV 4) (eC (.int 1))) (e2 (oEq false) (eCall (opF 2 0 bd0 f__law_draw) (aCons (eV 0) (aCons (eC (.int 2)) aNil)) aNil) (eC (.int 0)))) (eLst (aCons (e2 oSub (eV 4) (eC (.int 1))) aNil)) (eLst aNil)) (gN 2)) (sSeq (sPar 6 7 (aCons (eCall (opF 1 0 bd0 f__law_book) (aCons (eV 5) aNil) aNil) (aCons (eCall (opM 0 2 0 (fun xs _ => xs ++ []) f_Tree___init__) (aCons (eSl (eV 1) (pSome (eC (.int 1))) pNo) (aCons (eV 2) aNil)) aNil) aNil))) (sSeq (sIf (eNot (eB (eCall (opF 3 0 bd0 f__law_spots_let) (aCons (eV 6) (aCons (eV 7) (aCons (eV 4) aNil))) aNil))) (sSeq (sRet (eC (.bl false))) sNil) sNil) (sSeq (sFor (Py.iRng1 (eC (.int 6))) (gN 3) (sSeq (sIf (eNot (eB (eCall (opF 4 0 bd0 f__law_spots_refused) (aCons (eV 0) (aCons (eV 6) (aCons (eV 7) (aCons (eV 4) aNil)))) aNil))) (sSeq (sRet (eC (.bl false))) sNil) sNil) sNil)) (sSeq (sRet (eAndB (eCall (opF 3 0 bd0 f__law_spots_let) (aCons (eV 6) (aCons (eV 7) (aCons (eV 4) aNil))) aNil) (eAndB (e2 (oEqO 1 f_Book___eq__ false) (eV 6) (eCall (opF 1 0 bd0 f__law_book) (aCons (eV 5) aNil) aNil)) (e2 (oEqO 0 f_Tree___eq__ false) (eV 7) (eCall (opM 0 2 0 (fun xs _ => xs ++ []) f_Tree___init__) (aCons (eSl (eV 1) (pSome (eC (.int 1))) pNo) (aCons (eV 2) aNil)) aNil))))) sNil))))))))
def f__law_right : CF := runF 1 7 b__law_right
def b__law_pot : SX := (sSeq (sAsg (e2 oAdd (e2 oMul (eC (.int 17)) (eV 1)) (eC (.int 11))) (gN 2)) (sSeq (sIf (e2 oLt (eV 1) (eA bLen (aCons (eV 0) aNil))) (sSeq (sAsg (eA bAbs (aCons (e2 oIx (eV 0) (eV 1)) aNil)) (gN 2)) sNil) sNil) (sSeq (sRet (eLst (aCons (eA bMax (aCons (eC (.int 0)) (aCons (e2 oSub (eV 2) (e2 oPow (eC (.int 10)) (eC (.int 18)))) aNil))) (aCons (e2 oAdd (e2 oMod (e2 oMul (eA bInt (aCons (e2 oAdd (e2 oMod (eA bInt (aCons (eV 2) aNil)) (eC (.int 2147483543))) (eC (.int 7))) aNil)) (e2 oPow (e2 oAdd (e2 oMul (eC (.int 2)) (eV 1)) (eC (.int 3))) (eC (.int 3)))) (eC (.int 2147483489))) (eC (.int 1))) aNil)))) sNil)))
def f__law_pot : CF := runF 2 1 b__law_pot
def b_law : SX := (sSeq (sRet (eA bAll (aCons (eComp [1] (Py.iRng1 (eA bMax (aCons (eC (.int 1)) (aCons (eA bMin (aCons (eA bLen (aCons (eV 0) aNil)) (aCons (eC (.int 4)) aNil))) aNil)))) (eC (.bl true)) (eCall (opF 1 0 bd0 f__law_right) (aCons (eCall (opF 2 0 bd0 f__law_pot) (aCons (eV 0) (aCons (eV 1) aNil)) aNil) aNil) aNil)) aNil))) sNil)
def f_law : CF := runF 1 1 b_law
/-! ### names -/
def nmF : Nat → Str
  | 0 => "own_parents"
  | 1 => "own_struck"
  | 2 => "own_rows"
  | 3 => "own_fails"
  | 4 => "own_shared"
  | 5 => "own_holds"
  | 6 => "own_batch"
  | 7 => "own_settles"
  | 8 => "value"
  | _ => ""
theorem nm_inj : ∀ i, i < 9 → ∀ j, j < 9 → nmF i = nmF j → i = j := by decide +kernel
def mkG (C_Tree C_Book C_IsTop C_InvalidGroup C_WayError c__law_spots_let_ P__law_spots_let_ c__law_spots_refused_ P__law_spots_refused_ : Addr) : Gam := ⟨fun i => match i with | 0 => C_Tree | 1 => C_Book | 2 => C_IsTop | 3 => C_InvalidGroup | _ => 0, nmF, 9, fun i j hi hj e => nm_inj i hi j hj e, [(P__law_spots_let_, ("_law_spots_let" ++ ".<locals>.") ++ "<lambda>"), (P__law_spots_refused_, ("_law_spots_refused" ++ ".<locals>.") ++ "<lambda>")]⟩
structure Bx (base : Heap) (mg : Str → Option Value) (C_Tree C_Book C_IsTop C_InvalidGroup C_WayError c__law_spots_let_ P__law_spots_let_ c__law_spots_refused_ P__law_spots_refused_ : Addr) : Prop where
  b__law_spots_let : LamX.TabB base mg c__law_spots_let_ P__law_spots_let_
  b__law_spots_refused : LamX.TabB base mg c__law_spots_refused_ P__law_spots_refused_
theorem is1_ok {K : PySem.W.Frag} {C_Tree C_Book C_IsTop C_InvalidGroup C_WayError c__law_spots_let_ P__law_spots_let_ c__law_spots_refused_ P__law_spots_refused_ : Addr} (ci : ClsI K C_Book) : ∀ c b, is1 c = some b → ClsI K ((mkG C_Tree C_Book C_IsTop C_InvalidGroup C_WayError c__law_spots_let_ P__law_spots_let_ c__law_spots_refused_ P__law_spots_refused_).cl c) ∧ PySem.W.kitOne K (.ref ((mkG C_Tree C_Book C_IsTop C_InvalidGroup C_WayError c__law_spots_let_ P__law_spots_let_ c__law_spots_refused_ P__law_spots_refused_).cl c)) (.ref C_Book) = some b := fun c b h => by
  unfold is1 at h
  split at h
  · cases h; exact ⟨ci, kit_same⟩
  · exact nomatch h
theorem is0_ok {K : PySem.W.Frag} {C_Tree C_Book C_IsTop C_InvalidGroup C_WayError c__law_spots_let_ P__law_spots_let_ c__law_spots_refused_ P__law_spots_refused_ : Addr} (ci : ClsI K C_Tree) : ∀ c b, is0 c = some b → ClsI K ((mkG C_Tree C_Book C_IsTop C_InvalidGroup C_WayError c__law_spots_let_ P__law_spots_let_ c__law_spots_refused_ P__law_spots_refused_).cl c) ∧ PySem.W.kitOne K (.ref ((mkG C_Tree C_Book C_IsTop C_InvalidGroup C_WayError c__law_spots_let_ P__law_spots_let_ c__law_spots_refused_ P__law_spots_refused_).cl c)) (.ref C_Tree) = some b := fun c b h => by
  unfold is0 at h
  split at h
  · cases h; exact ⟨ci, kit_same⟩
  · exact nomatch h
theorem nf_apart (C_Tree C_Book C_IsTop C_InvalidGroup C_WayError c__law_spots_let_ P__law_spots_let_ c__law_spots_refused_ P__law_spots_refused_ : Addr) : NotF (mkG C_Tree C_Book C_IsTop C_InvalidGroup C_WayError c__law_spots_let_ P__law_spots_let_ c__law_spots_refused_ P__law_spots_refused_) "apart" := (by decide +kernel : ∀ i, i < 9 → nmF i ≠ "apart")
theorem nf_others (C_Tree C_Book C_IsTop C_InvalidGroup C_WayError c__law_spots_let_ P__law_spots_let_ c__law_spots_refused_ P__law_spots_refused_ : Addr) : NotF (mkG C_Tree C_Book C_IsTop C_InvalidGroup C_WayError c__law_spots_let_ P__law_spots_let_ c__law_spots_refused_ P__law_spots_refused_) "others" := (by decide +kernel : ∀ i, i < 9 → nmF i ≠ "others")
theorem nf_parent (C_Tree C_Book C_IsTop C_InvalidGroup C_WayError c__law_spots_let_ P__law_spots_let_ c__law_spots_refused_ P__law_spots_refused_ : Addr) : NotF (mkG C_Tree C_Book C_IsTop C_InvalidGroup C_WayError c__law_spots_let_ P__law_spots_let_ c__law_spots_refused_ P__law_spots_refused_) "parent" := (by decide +kernel : ∀ i, i < 9 → nmF i ≠ "parent")
theorem nf_row (C_Tree C_Book C_IsTop C_InvalidGroup C_WayError c__law_spots_let_ P__law_spots_let_ c__law_spots_refused_ P__law_spots_refused_ : Addr) : NotF (mkG C_Tree C_Book C_IsTop C_InvalidGroup C_WayError c__law_spots_let_ P__law_spots_let_ c__law_spots_refused_ P__law_spots_refused_) "row" := (by decide +kernel : ∀ i, i < 9 → nmF i ≠ "row")
theorem nf_shared (C_Tree C_Book C_IsTop C_InvalidGroup C_WayError c__law_spots_let_ P__law_spots_let_ c__law_spots_refused_ P__law_spots_refused_ : Addr) : NotF (mkG C_Tree C_Book C_IsTop C_InvalidGroup C_WayError c__law_spots_let_ P__law_spots_let_ c__law_spots_refused_ P__law_spots_refused_) "shared" := (by decide +kernel : ∀ i, i < 9 → nmF i ≠ "shared")
theorem nf_want_group (C_Tree C_Book C_IsTop C_InvalidGroup C_WayError c__law_spots_let_ P__law_spots_let_ c__law_spots_refused_ P__law_spots_refused_ : Addr) : NotF (mkG C_Tree C_Book C_IsTop C_InvalidGroup C_WayError c__law_spots_let_ P__law_spots_let_ c__law_spots_refused_ P__law_spots_refused_) "want_group" := (by decide +kernel : ∀ i, i < 9 → nmF i ≠ "want_group")
theorem nf_way (C_Tree C_Book C_IsTop C_InvalidGroup C_WayError c__law_spots_let_ P__law_spots_let_ c__law_spots_refused_ P__law_spots_refused_ : Addr) : NotF (mkG C_Tree C_Book C_IsTop C_InvalidGroup C_WayError c__law_spots_let_ P__law_spots_let_ c__law_spots_refused_ P__law_spots_refused_) "way" := (by decide +kernel : ∀ i, i < 9 → nmF i ≠ "way")
theorem sc__law_draw : FnScope ["_law_pot_here", "_law_sides", "_law_digit"] ["_law_pot_here", "_law_sides"] (defScope s__law_draw) := ⟨rfl, rfl, rfl, by decide +kernel, rfl, by decide +kernel, by decide +kernel⟩
theorem sc__law_ups : FnScope ["_law_pot_here", "_law_most", "_law_found", "_law_turn"] ["_law_pot_here", "_law_most"] (defScope s__law_ups) := ⟨rfl, rfl, rfl, by decide +kernel, rfl, by decide +kernel, by decide +kernel⟩
theorem sc__law_pick : FnScope ["_law_pot_here", "_law_some"] ["_law_pot_here", "_law_some"] (defScope s__law_pick) := ⟨rfl, rfl, rfl, by decide +kernel, rfl, by decide +kernel, by decide +kernel⟩
theorem sc__law_menu : FnScope ["_law_sort", "_law_some", "_law_near"] ["_law_sort"] (defScope s__law_menu) := ⟨rfl, rfl, rfl, by decide +kernel, rfl, by decide +kernel, by decide +kernel⟩
theorem sc__law_rules : FnScope ["_law_pot_here", "_law_way", "_law_most", "_law_found", "_law_sort"] ["_law_pot_here", "_law_way", "_law_most"] (defScope s__law_rules) := ⟨rfl, rfl, rfl, by decide +kernel, rfl, by decide +kernel, by decide +kernel⟩
theorem sc_is_list : FnScope ["value"] ["value"] (defScope s_is_list) := ⟨rfl, rfl, rfl, by decide +kernel, rfl, by decide +kernel, by decide +kernel⟩
theorem sc_is_integer : FnScope ["value"] ["value"] (defScope s_is_integer) := ⟨rfl, rfl, rfl, by decide +kernel, rfl, by decide +kernel, by decide +kernel⟩
theorem sc_is_count : FnScope ["value"] ["value"] (defScope s_is_count) := ⟨rfl, rfl, rfl, by decide +kernel, rfl, by decide +kernel, by decide +kernel⟩
theorem sc_want_room : FnScope ["many"] ["many"] (defScope s_want_room) := ⟨rfl, rfl, rfl, by decide +kernel, rfl, by decide +kernel, by decide +kernel⟩
theorem sc_want_parents : FnScope ["value", "position", "parent"] ["value"] (defScope s_want_parents) := ⟨rfl, rfl, rfl, by decide +kernel, rfl, by decide +kernel, by decide +kernel⟩
theorem sc_children_of : FnScope ["parents", "group", "child", "parent"] ["parents", "group"] (defScope s_children_of) := ⟨rfl, rfl, rfl, by decide +kernel, rfl, by decide +kernel, by decide +kernel⟩
theorem sc_want_struck : FnScope ["parents", "value", "position", "group", "child"] ["parents", "value"] (defScope s_want_struck) := ⟨rfl, rfl, rfl, by decide +kernel, rfl, by decide +kernel, by decide +kernel⟩
theorem sc_Tree___init__ : FnScope ["self", "parents", "struck"] ["self", "parents", "struck"] (defScope s_Tree___init__) := ⟨rfl, rfl, rfl, by decide +kernel, rfl, by decide +kernel, by decide +kernel⟩
theorem sc_are_words : FnScope ["value", "known", "place", "word"] ["value", "known"] (defScope s_are_words) := ⟨rfl, rfl, rfl, by decide +kernel, rfl, by decide +kernel, by decide +kernel⟩
theorem sc_are_tests_ahead : FnScope ["row", "word", "test"] ["row", "word"] (defScope s_are_tests_ahead) := ⟨rfl, rfl, rfl, by decide +kernel, rfl, by decide +kernel, by decide +kernel⟩
theorem sc_is_take : FnScope ["value"] ["value"] (defScope s_is_take) := ⟨rfl, rfl, rfl, by decide +kernel, rfl, by decide +kernel, by decide +kernel⟩
theorem sc_is_behind : FnScope ["row", "word", "other"] ["row", "word", "other"] (defScope s_is_behind) := ⟨rfl, rfl, rfl, by decide +kernel, rfl, by decide +kernel, by decide +kernel⟩
theorem sc_is_give : FnScope ["value"] ["value"] (defScope s_is_give) := ⟨rfl, rfl, rfl, by decide +kernel, rfl, by decide +kernel, by decide +kernel⟩
theorem sc_is_move : FnScope ["value"] ["value"] (defScope s_is_move) := ⟨rfl, rfl, rfl, by decide +kernel, rfl, by decide +kernel, by decide +kernel⟩
theorem sc_is_lift : FnScope ["value"] ["value"] (defScope s_is_lift) := ⟨rfl, rfl, rfl, by decide +kernel, rfl, by decide +kernel, by decide +kernel⟩
theorem sc_is_row : FnScope ["kind", "value"] ["kind", "value"] (defScope s_is_row) := ⟨rfl, rfl, rfl, by decide +kernel, rfl, by decide +kernel, by decide +kernel⟩
theorem sc_want_word : FnScope ["name", "value", "is_right"] ["name", "value", "is_right"] (defScope s_want_word) := ⟨rfl, rfl, rfl, by decide +kernel, rfl, by decide +kernel, by decide +kernel⟩
theorem sc_are_holds : FnScope ["value"] ["value"] (defScope s_are_holds) := ⟨rfl, rfl, rfl, by decide +kernel, rfl, by decide +kernel, by decide +kernel⟩
theorem sc_holds_in_sequence : FnScope ["holds", "kind"] ["holds"] (defScope s_holds_in_sequence) := ⟨rfl, rfl, rfl, by decide +kernel, rfl, by decide +kernel, by decide +kernel⟩
theorem sc_want_batch : FnScope ["value"] ["value"] (defScope s_want_batch) := ⟨rfl, rfl, rfl, by decide +kernel, rfl, by decide +kernel, by decide +kernel⟩
theorem sc_Book___init__ : FnScope ["self", "take", "give", "move", "lift", "fails", "shared", "holds", "batch", "settles", "kind"] ["self", "take", "give", "move", "lift", "fails", "shared", "holds", "batch", "settles"] (defScope s_Book___init__) := ⟨rfl, rfl, rfl, by decide +kernel, rfl, by decide +kernel, by decide +kernel⟩
theorem sc__law_book : FnScope ["_law_rules_here"] ["_law_rules_here"] (defScope s__law_book) := ⟨rfl, rfl, rfl, by decide +kernel, rfl, by decide +kernel, by decide +kernel⟩
theorem sc__law_told : FnScope ["_law_deed", "e"] ["_law_deed"] (defScope s__law_told) := ⟨rfl, rfl, rfl, by decide +kernel, rfl, by decide +kernel, by decide +kernel⟩
theorem sc_Tree___len__ : FnScope ["self"] ["self"] (defScope s_Tree___len__) := ⟨rfl, rfl, rfl, by decide +kernel, rfl, by decide +kernel, by decide +kernel⟩
theorem sc_Tree_want_group : FnScope ["self", "value"] ["self", "value"] (defScope s_Tree_want_group) := ⟨rfl, rfl, rfl, by decide +kernel, rfl, by decide +kernel, by decide +kernel⟩
theorem sc_Tree_way : FnScope ["self", "group", "found"] ["self", "group"] (defScope s_Tree_way) := ⟨rfl, rfl, rfl, by decide +kernel, rfl, by decide +kernel, by decide +kernel⟩
theorem sc_want_kind : FnScope ["value"] ["value"] (defScope s_want_kind) := ⟨rfl, rfl, rfl, by decide +kernel, rfl, by decide +kernel, by decide +kernel⟩
theorem sc_Book_row : FnScope ["self", "kind"] ["self", "kind"] (defScope s_Book_row) := ⟨rfl, rfl, rfl, by decide +kernel, rfl, by decide +kernel, by decide +kernel⟩
theorem sc_along : FnScope ["word", "way", "group"] ["word", "way"] (defScope s_along) := ⟨rfl, rfl, rfl, by decide +kernel, rfl, by decide +kernel, by decide +kernel⟩
theorem sc_take_plan : FnScope ["book", "tree", "group", "word", "way", "found"] ["book", "tree", "group"] (defScope s_take_plan) := ⟨rfl, rfl, rfl, by decide +kernel, rfl, by decide +kernel, by decide +kernel⟩
theorem sc_give_plan : FnScope ["book", "tree", "home", "word", "way", "found"] ["book", "tree", "home"] (defScope s_give_plan) := ⟨rfl, rfl, rfl, by decide +kernel, rfl, by decide +kernel, by decide +kernel⟩
theorem sc_settle_plan : FnScope ["tree", "group"] ["tree", "group"] (defScope s_settle_plan) := ⟨rfl, rfl, rfl, by decide +kernel, rfl, by decide +kernel, by decide +kernel⟩
theorem sc_Book_shared : FnScope ["self"] ["self"] (defScope s_Book_shared) := ⟨rfl, rfl, rfl, by decide +kernel, rfl, by decide +kernel, by decide +kernel⟩
theorem sc_Tree_apart : FnScope ["self", "group", "seen", "way", "other", "one"] ["self", "group", "seen"] (defScope s_Tree_apart) := ⟨rfl, rfl, rfl, by decide +kernel, rfl, by decide +kernel, by decide +kernel⟩
theorem sc_move_ways : FnScope ["book", "tree", "home", "target"] ["book", "tree", "home", "target"] (defScope s_move_ways) := ⟨rfl, rfl, rfl, by decide +kernel, rfl, by decide +kernel, by decide +kernel⟩
theorem sc_move_plan : FnScope ["book", "tree", "home", "target", "found", "word", "home_way", "target_way"] ["book", "tree", "home", "target"] (defScope s_move_plan) := ⟨rfl, rfl, rfl, by decide +kernel, rfl, by decide +kernel, by decide +kernel⟩
theorem sc_Tree_parent : FnScope ["self", "group"] ["self", "group"] (defScope s_Tree_parent) := ⟨rfl, rfl, rfl, by decide +kernel, rfl, by decide +kernel, by decide +kernel⟩
theorem sc_lift_plan : FnScope ["book", "tree", "home", "word"] ["book", "tree", "home"] (defScope s_lift_plan) := ⟨rfl, rfl, rfl, by decide +kernel, rfl, by decide +kernel, by decide +kernel⟩
theorem sc__law_spots_let : FnScope ["_law_made", "_law_wood", "_law_many", "_law_spot", "_law_told_here"] ["_law_made", "_law_wood", "_law_many"] (defScope s__law_spots_let) := ⟨rfl, rfl, rfl, by decide +kernel, rfl, by decide +kernel, by decide +kernel⟩
theorem sc__law_odd : FnScope ["_law_pot_here", "_law_many", "_law_near", "_law_odd_here"] ["_law_pot_here", "_law_many"] (defScope s__law_odd) := ⟨rfl, rfl, rfl, by decide +kernel, rfl, by decide +kernel, by decide +kernel⟩
theorem sc__law_spots_refused : FnScope ["_law_pot_here", "_law_made", "_law_wood", "_law_many", "_law_told_here", "_law_odd_here", "_law_worse", "_law_spot"] ["_law_pot_here", "_law_made", "_law_wood", "_law_many"] (defScope s__law_spots_refused) := ⟨rfl, rfl, rfl, by decide +kernel, rfl, by decide +kernel, by decide +kernel⟩
theorem sc_Book_others : FnScope ["self"] ["self"] (defScope s_Book_others) := ⟨rfl, rfl, rfl, by decide +kernel, rfl, by decide +kernel, by decide +kernel⟩
theorem sc_Book___eq__ : FnScope ["self", "other"] ["self", "other"] (defScope s_Book___eq__) := ⟨rfl, rfl, rfl, by decide +kernel, rfl, by decide +kernel, by decide +kernel⟩
theorem sc_Tree___eq__ : FnScope ["self", "other"] ["self", "other"] (defScope s_Tree___eq__) := ⟨rfl, rfl, rfl, by decide +kernel, rfl, by decide +kernel, by decide +kernel⟩
theorem sc__law_right : FnScope ["_law_pot_here", "_law_ups_here", "_law_struck_ones", "_law_turn", "_law_many", "_law_rules_here", "_law_made", "_law_wood"] ["_law_pot_here"] (defScope s__law_right) := ⟨rfl, rfl, rfl, by decide +kernel, rfl, by decide +kernel, by decide +kernel⟩
theorem sc__law_pot : FnScope ["_law_script", "_law_k", "_law_cell"] ["_law_script", "_law_k"] (defScope s__law_pot) := ⟨rfl, rfl, rfl, by decide +kernel, rfl, by decide +kernel, by decide +kernel⟩
theorem sc_law : FnScope ["_law_script", "_law_k"] ["_law_script"] (defScope s_law) := ⟨rfl, rfl, rfl, by decide +kernel, rfl, by decide +kernel, by decide +kernel⟩
theorem sc_InvalidGroup___init__ : FnScope ["self", "value"] ["self", "value"] (defScope s_InvalidGroup___init__) := ⟨rfl, rfl, rfl, by decide +kernel, rfl, by decide +kernel, by decide +kernel⟩
theorem ck_of {K : PySem.W.Frag} {C : Addr} (h2 : PySem.W.isClsIn K C = true) (h3 : PySem.W.typeIn K (.ref C) = some (.type "type")) : ((PySem.W.clsIn K C).isSome && PySem.W.typeIn K (.ref C) == some (.type "type")) = true := by
  have h2' : (PySem.W.clsIn K C).isSome = true := h2
  rw [h2', h3] <;> rfl
/-! ### what the top has written -/
structure Tx (K : PySem.W.Frag) (mg : Str → Option Value) (C_Tree C_Book C_IsTop C_InvalidGroup C_WayError c__law_spots_let_ P__law_spots_let_ c__law_spots_refused_ P__law_spots_refused_ : Addr) : Prop where
  cls_Tree : Cls K C_Tree
  mg_Tree : mg "Tree" = some (.ref C_Tree)
  ci_Tree : ClsI K C_Tree
  ck_Tree : ((PySem.W.clsIn K C_Tree).isSome && PySem.W.typeIn K (.ref C_Tree) == some (.type "type")) = true
  ne_Tree : PySem.W.findIn K (.ref C_Tree) "__ne__" = some (some (.builtin "object.__ne__"))
  cls_Book : Cls K C_Book
  mg_Book : mg "Book" = some (.ref C_Book)
  ci_Book : ClsI K C_Book
  ck_Book : ((PySem.W.clsIn K C_Book).isSome && PySem.W.typeIn K (.ref C_Book) == some (.type "type")) = true
  ne_Book : PySem.W.findIn K (.ref C_Book) "__ne__" = some (some (.builtin "object.__ne__"))
  mg_IsTop : mg "IsTop" = some (.ref C_IsTop)
  xq_IsTop : PySem.W.excIn K C_IsTop [.type "RuntimeError", .type "Exception", .type "BaseException", .type "object"] "RuntimeError.__new__" = true
  xk_IsTop : PySem.W.keepIn K (.ref C_IsTop) = true
  xs_IsTop : PySem.W.subIn K (.ref C_IsTop) (.type "BaseException") = some true
  xt_IsTop : PySem.W.typeIn K (.ref C_IsTop) = some (.type "type")
  mg_InvalidGroup : mg "InvalidGroup" = some (.ref C_InvalidGroup)
  x_InvalidGroup : ExC K C_InvalidGroup
  xh_InvalidGroup : PySem.W.takerIn K C_InvalidGroup "value" = some none
  xl_InvalidGroup : XfC K C_InvalidGroup
  xn_InvalidGroup : PySem.W.findIn K (.ref C_InvalidGroup) "value" = some none
  xm_IsTop_InvalidGroup : PySem.W.exmOne K (.ref C_IsTop) (.ref C_InvalidGroup) = some false
  xm_IsTop_IsTop : PySem.W.exmOne K (.ref C_IsTop) (.ref C_IsTop) = some true
  xm_InvalidGroup_InvalidGroup : PySem.W.exmOne K (.ref C_InvalidGroup) (.ref C_InvalidGroup) = some true
  xm_InvalidGroup_IsTop : PySem.W.exmOne K (.ref C_InvalidGroup) (.ref C_IsTop) = some false
  F_InvalidGroup___init__ : ∃ f fd, FunD K "__init__" "InvalidGroup.__init__" (defArgs s_InvalidGroup___init__) (defBody s_InvalidGroup___init__) (defScope s_InvalidGroup___init__) [] [] f fd ∧ PySem.W.findIn K (.ref C_InvalidGroup) "__init__" = some (some (.ref f)) ∧ PySem.W.typeIn K (.ref f) = some (.type "function")
  mg_WayError : mg "WayError" = some (.ref C_WayError)
  ec_InvalidGroup : ExcC K C_InvalidGroup
  is_InvalidGroup_ValueError : PySem.W.kitOne K (.ref C_InvalidGroup) (.type "ValueError") = some true
  is_InvalidGroup_WayError : PySem.W.kitOne K (.ref C_InvalidGroup) (.ref C_WayError) = some true
  dt__law_spots_refused__law_spots_let : P__law_spots_refused_ ≠ P__law_spots_let_
  na_own_parents : NoAttr K C_Tree "own_parents"
  na_own_struck : NoAttr K C_Tree "own_struck"
  na_own_rows : NoAttr K C_Book "own_rows"
  na_own_fails : NoAttr K C_Book "own_fails"
  na_own_shared : NoAttr K C_Book "own_shared"
  na_own_holds : NoAttr K C_Book "own_holds"
  na_own_batch : NoAttr K C_Book "own_batch"
  na_own_settles : NoAttr K C_Book "own_settles"
  F__law_draw : ∃ f fd, FunD K "_law_draw" "_law_draw" (defArgs s__law_draw) (defBody s__law_draw) (defScope s__law_draw) [] [] f fd ∧ mg "_law_draw" = some (.ref f)
  F__law_ups : ∃ f fd, FunD K "_law_ups" "_law_ups" (defArgs s__law_ups) (defBody s__law_ups) (defScope s__law_ups) [] [] f fd ∧ mg "_law_ups" = some (.ref f)
  F__law_pick : ∃ f fd, FunD K "_law_pick" "_law_pick" (defArgs s__law_pick) (defBody s__law_pick) (defScope s__law_pick) [] [] f fd ∧ mg "_law_pick" = some (.ref f)
  F__law_menu : ∃ f fd, FunD K "_law_menu" "_law_menu" (defArgs s__law_menu) (defBody s__law_menu) (defScope s__law_menu) [] [] f fd ∧ mg "_law_menu" = some (.ref f)
  F__law_rules : ∃ f fd, FunD K "_law_rules" "_law_rules" (defArgs s__law_rules) (defBody s__law_rules) (defScope s__law_rules) [] [] f fd ∧ mg "_law_rules" = some (.ref f)
  F_is_list : ∃ f fd, FunD K "is_list" "is_list" (defArgs s_is_list) (defBody s_is_list) (defScope s_is_list) [] [] f fd ∧ mg "is_list" = some (.ref f)
  F_is_integer : ∃ f fd, FunD K "is_integer" "is_integer" (defArgs s_is_integer) (defBody s_is_integer) (defScope s_is_integer) [] [] f fd ∧ mg "is_integer" = some (.ref f)
  F_is_count : ∃ f fd, FunD K "is_count" "is_count" (defArgs s_is_count) (defBody s_is_count) (defScope s_is_count) [] [] f fd ∧ mg "is_count" = some (.ref f)
  F_want_room : ∃ f fd, FunD K "want_room" "want_room" (defArgs s_want_room) (defBody s_want_room) (defScope s_want_room) [] [] f fd ∧ mg "want_room" = some (.ref f)
  F_want_parents : ∃ f fd, FunD K "want_parents" "want_parents" (defArgs s_want_parents) (defBody s_want_parents) (defScope s_want_parents) [] [] f fd ∧ mg "want_parents" = some (.ref f)
  F_children_of : ∃ f fd, FunD K "children_of" "children_of" (defArgs s_children_of) (defBody s_children_of) (defScope s_children_of) [] [] f fd ∧ mg "children_of" = some (.ref f)
  F_want_struck : ∃ f fd, FunD K "want_struck" "want_struck" (defArgs s_want_struck) (defBody s_want_struck) (defScope s_want_struck) [] [] f fd ∧ mg "want_struck" = some (.ref f)
  F_Tree___init__ : ∃ f fd z0_Tree___init__ z1_Tree___init__, FunD K "__init__" "Tree.__init__" (defArgs s_Tree___init__) (defBody s_Tree___init__) (defScope s_Tree___init__) [V.ref z0_Tree___init__, V.ref z1_Tree___init__] [] f fd ∧ Mk K C_Tree f ∧ (∀ m N H, RelD K m N H (.tup []) (.ref z0_Tree___init__)) ∧ (∀ m N H, RelD K m N H (.tup []) (.ref z1_Tree___init__))
  F_are_words : ∃ f fd, FunD K "are_words" "are_words" (defArgs s_are_words) (defBody s_are_words) (defScope s_are_words) [] [] f fd ∧ mg "are_words" = some (.ref f)
  F_are_tests_ahead : ∃ f fd, FunD K "are_tests_ahead" "are_tests_ahead" (defArgs s_are_tests_ahead) (defBody s_are_tests_ahead) (defScope s_are_tests_ahead) [] [] f fd ∧ mg "are_tests_ahead" = some (.ref f)
  F_is_take : ∃ f fd, FunD K "is_take" "is_take" (defArgs s_is_take) (defBody s_is_take) (defScope s_is_take) [] [] f fd ∧ mg "is_take" = some (.ref f)
  F_is_behind : ∃ f fd, FunD K "is_behind" "is_behind" (defArgs s_is_behind) (defBody s_is_behind) (defScope s_is_behind) [] [] f fd ∧ mg "is_behind" = some (.ref f)
  F_is_give : ∃ f fd, FunD K "is_give" "is_give" (defArgs s_is_give) (defBody s_is_give) (defScope s_is_give) [] [] f fd ∧ mg "is_give" = some (.ref f)
  F_is_move : ∃ f fd, FunD K "is_move" "is_move" (defArgs s_is_move) (defBody s_is_move) (defScope s_is_move) [] [] f fd ∧ mg "is_move" = some (.ref f)
  F_is_lift : ∃ f fd, FunD K "is_lift" "is_lift" (defArgs s_is_lift) (defBody s_is_lift) (defScope s_is_lift) [] [] f fd ∧ mg "is_lift" = some (.ref f)
  F_is_row : ∃ f fd, FunD K "is_row" "is_row" (defArgs s_is_row) (defBody s_is_row) (defScope s_is_row) [] [] f fd ∧ mg "is_row" = some (.ref f)
  F_want_word : ∃ f fd, FunD K "want_word" "want_word" (defArgs s_want_word) (defBody s_want_word) (defScope s_want_word) [] [] f fd ∧ mg "want_word" = some (.ref f)
  F_are_holds : ∃ f fd, FunD K "are_holds" "are_holds" (defArgs s_are_holds) (defBody s_are_holds) (defScope s_are_holds) [] [] f fd ∧ mg "are_holds" = some (.ref f)
  F_holds_in_sequence : ∃ f fd, FunD K "holds_in_sequence" "holds_in_sequence" (defArgs s_holds_in_sequence) (defBody s_holds_in_sequence) (defScope s_holds_in_sequence) [] [] f fd ∧ mg "holds_in_sequence" = some (.ref f)
  F_want_batch : ∃ f fd, FunD K "want_batch" "want_batch" (defArgs s_want_batch) (defBody s_want_batch) (defScope s_want_batch) [] [] f fd ∧ mg "want_batch" = some (.ref f)
  F_Book___init__ : ∃ f fd, FunD K "__init__" "Book.__init__" (defArgs s_Book___init__) (defBody s_Book___init__) (defScope s_Book___init__) [] [] f fd ∧ Mk K C_Book f
  F__law_book : ∃ f fd, FunD K "_law_book" "_law_book" (defArgs s__law_book) (defBody s__law_book) (defScope s__law_book) [] [] f fd ∧ mg "_law_book" = some (.ref f)
  F__law_told : ∃ f fd, FunD K "_law_told" "_law_told" (defArgs s__law_told) (defBody s__law_told) (defScope s__law_told) [] [] f fd ∧ mg "_law_told" = some (.ref f)
  F_Tree___len__ : ∃ f fd, FunD K "__len__" "Tree.__len__" (defArgs s_Tree___len__) (defBody s_Tree___len__) (defScope s_Tree___len__) [] [] f fd ∧ Meth K C_Tree "__len__" f
  F_Tree_want_group : ∃ f fd, FunD K "want_group" "Tree.want_group" (defArgs s_Tree_want_group) (defBody s_Tree_want_group) (defScope s_Tree_want_group) [] [] f fd ∧ Meth K C_Tree "want_group" f
  F_Tree_way : ∃ f fd, FunD K "way" "Tree.way" (defArgs s_Tree_way) (defBody s_Tree_way) (defScope s_Tree_way) [] [] f fd ∧ Meth K C_Tree "way" f
  F_want_kind : ∃ f fd, FunD K "want_kind" "want_kind" (defArgs s_want_kind) (defBody s_want_kind) (defScope s_want_kind) [] [] f fd ∧ mg "want_kind" = some (.ref f)
  F_Book_row : ∃ f fd, FunD K "row" "Book.row" (defArgs s_Book_row) (defBody s_Book_row) (defScope s_Book_row) [] [] f fd ∧ Meth K C_Book "row" f
  F_along : ∃ f fd, FunD K "along" "along" (defArgs s_along) (defBody s_along) (defScope s_along) [] [] f fd ∧ mg "along" = some (.ref f)
  F_take_plan : ∃ f fd, FunD K "take_plan" "take_plan" (defArgs s_take_plan) (defBody s_take_plan) (defScope s_take_plan) [] [] f fd ∧ mg "take_plan" = some (.ref f)
  F_give_plan : ∃ f fd, FunD K "give_plan" "give_plan" (defArgs s_give_plan) (defBody s_give_plan) (defScope s_give_plan) [] [] f fd ∧ mg "give_plan" = some (.ref f)
  F_settle_plan : ∃ f fd, FunD K "settle_plan" "settle_plan" (defArgs s_settle_plan) (defBody s_settle_plan) (defScope s_settle_plan) [] [] f fd ∧ mg "settle_plan" = some (.ref f)
  F_Book_shared : ∃ f fd p, FunD K "shared" "Book.shared" (defArgs s_Book_shared) (defBody s_Book_shared) (defScope s_Book_shared) [] [] f fd ∧ PropOf K C_Book "shared" p f
  F_Tree_apart : ∃ f fd, FunD K "apart" "Tree.apart" (defArgs s_Tree_apart) (defBody s_Tree_apart) (defScope s_Tree_apart) [] [] f fd ∧ Meth K C_Tree "apart" f
  F_move_ways : ∃ f fd, FunD K "move_ways" "move_ways" (defArgs s_move_ways) (defBody s_move_ways) (defScope s_move_ways) [] [] f fd ∧ mg "move_ways" = some (.ref f)
  F_move_plan : ∃ f fd, FunD K "move_plan" "move_plan" (defArgs s_move_plan) (defBody s_move_plan) (defScope s_move_plan) [] [] f fd ∧ mg "move_plan" = some (.ref f)
  F_Tree_parent : ∃ f fd, FunD K "parent" "Tree.parent" (defArgs s_Tree_parent) (defBody s_Tree_parent) (defScope s_Tree_parent) [] [] f fd ∧ Meth K C_Tree "parent" f
  F_lift_plan : ∃ f fd, FunD K "lift_plan" "lift_plan" (defArgs s_lift_plan) (defBody s_lift_plan) (defScope s_lift_plan) [] [] f fd ∧ mg "lift_plan" = some (.ref f)
  F__law_spots_let : ∃ f fd, FunD K "_law_spots_let" "_law_spots_let" (defArgs s__law_spots_let) (defBody s__law_spots_let) (defScope s__law_spots_let) [] [] f fd ∧ mg "_law_spots_let" = some (.ref f) ∧ FunM K "_law_spots_let" "_law_spots_let" (defArgs s__law_spots_let) (defBody s__law_spots_let) (defScope s__law_spots_let) c__law_spots_let_ f fd
  F__law_odd : ∃ f fd, FunD K "_law_odd" "_law_odd" (defArgs s__law_odd) (defBody s__law_odd) (defScope s__law_odd) [] [] f fd ∧ mg "_law_odd" = some (.ref f)
  F__law_spots_refused : ∃ f fd, FunD K "_law_spots_refused" "_law_spots_refused" (defArgs s__law_spots_refused) (defBody s__law_spots_refused) (defScope s__law_spots_refused) [] [] f fd ∧ mg "_law_spots_refused" = some (.ref f) ∧ FunM K "_law_spots_refused" "_law_spots_refused" (defArgs s__law_spots_refused) (defBody s__law_spots_refused) (defScope s__law_spots_refused) c__law_spots_refused_ f fd
  F_Book_others : ∃ f fd, FunD K "others" "Book.others" (defArgs s_Book_others) (defBody s_Book_others) (defScope s_Book_others) [] [] f fd ∧ Meth K C_Book "others" f
  F_Book___eq__ : ∃ f fd, FunD K "__eq__" "Book.__eq__" (defArgs s_Book___eq__) (defBody s_Book___eq__) (defScope s_Book___eq__) [] [] f fd ∧ Meth K C_Book "__eq__" f
  F_Tree___eq__ : ∃ f fd, FunD K "__eq__" "Tree.__eq__" (defArgs s_Tree___eq__) (defBody s_Tree___eq__) (defScope s_Tree___eq__) [] [] f fd ∧ Meth K C_Tree "__eq__" f
  F__law_right : ∃ f fd, FunD K "_law_right" "_law_right" (defArgs s__law_right) (defBody s__law_right) (defScope s__law_right) [] [] f fd ∧ mg "_law_right" = some (.ref f)
  F__law_pot : ∃ f fd, FunD K "_law_pot" "_law_pot" (defArgs s__law_pot) (defBody s__law_pot) (defScope s__law_pot) [] [] f fd ∧ mg "_law_pot" = some (.ref f)
  F_law : ∃ f fd, FunD K "law" "law" (defArgs s_law) (defBody s_law) (defScope s_law) [] [] f fd ∧ mg "law" = some (.ref f)
  b_ValueError : mg "ValueError" = none
  b_abs : mg "abs" = none
  b_all : mg "all" = none
  b_bool : mg "bool" = none
  b_dict : mg "dict" = none
  b_divmod : mg "divmod" = none
  b_enumerate : mg "enumerate" = none
  b_int : mg "int" = none
  b_isinstance : mg "isinstance" = none
  b_len : mg "len" = none
  b_list : mg "list" = none
  b_max : mg "max" = none
  b_min : mg "min" = none
  b_range : mg "range" = none
  b_repr : mg "repr" = none
  b_sorted : mg "sorted" = none
  b_str : mg "str" = none
  b_tuple : mg "tuple" = none
  g_ADD : ∃ t, mg "ADD" = some (.str "add" t)
  g_BOTH : ∃ t, mg "BOTH" = some (.str "both" t)
  g_END : ∃ t, mg "END" = some (.str "end" t)
  g_FAILS : ∃ a, mg "FAILS" = some (.ref a) ∧ ∀ m N H, RelD K m N H k_FAILS (.ref a)
  g_GIVE : ∃ t, mg "GIVE" = some (.str "give" t)
  g_GIVE_WORDS : ∃ a, mg "GIVE_WORDS" = some (.ref a) ∧ ∀ m N H, RelD K m N H k_GIVE_WORDS (.ref a)
  g_GREATEST_BATCH : ∃ t, mg "GREATEST_BATCH" = some (.int 50 t)
  g_HOLDING : ∃ a, mg "HOLDING" = some (.ref a) ∧ ∀ m N H, RelD K m N H k_HOLDING (.ref a)
  g_HOME : ∃ t, mg "HOME" = some (.str "home" t)
  g_LIFT : ∃ t, mg "LIFT" = some (.str "lift" t)
  g_LIFTS : ∃ a, mg "LIFTS" = some (.ref a) ∧ ∀ m N H, RelD K m N H k_LIFTS (.ref a)
  g_LIVE : ∃ t, mg "LIVE" = some (.str "live" t)
  g_LOOK : ∃ t, mg "LOOK" = some (.str "look" t)
  g_MOST_GROUPS : ∃ t, mg "MOST_GROUPS" = some (.int 200 t)
  g_MOVE : ∃ t, mg "MOVE" = some (.str "move" t)
  g_MOVE_WORDS : ∃ a, mg "MOVE_WORDS" = some (.ref a) ∧ ∀ m N H, RelD K m N H k_MOVE_WORDS (.ref a)
  g_OFF : ∃ t, mg "OFF" = some (.str "off" t)
  g_SET : ∃ t, mg "SET" = some (.str "set" t)
  g_TAKE : ∃ t, mg "TAKE" = some (.str "take" t)
  g_TAKE_WORDS : ∃ a, mg "TAKE_WORDS" = some (.ref a) ∧ ∀ m N H, RelD K m N H k_TAKE_WORDS (.ref a)
  g_TESTS : ∃ a, mg "TESTS" = some (.ref a) ∧ ∀ m N H, RelD K m N H k_TESTS (.ref a)
  g_TOP : ∃ t, mg "TOP" = some (.int 0 t)
  g_TRY : ∃ t, mg "TRY" = some (.str "try" t)
theorem mt_InvalidGroup_ok {K : PySem.W.Frag} {mg : Str → Option Value} {C_Tree C_Book C_IsTop C_InvalidGroup C_WayError c__law_spots_let_ P__law_spots_let_ c__law_spots_refused_ P__law_spots_refused_ : Addr} (T : Tx K mg C_Tree C_Book C_IsTop C_InvalidGroup C_WayError c__law_spots_let_ P__law_spots_let_ c__law_spots_refused_ P__law_spots_refused_) : ∀ c k, mt_InvalidGroup c = some k → PySem.W.exmOne K (.ref ((mkG C_Tree C_Book C_IsTop C_InvalidGroup C_WayError c__law_spots_let_ P__law_spots_let_ c__law_spots_refused_ P__law_spots_refused_).cl c)) (.ref C_InvalidGroup) = some k := by
  intro c k e
  unfold mt_InvalidGroup at e
  split at e <;> first | (cases e; first | exact T.xm_IsTop_InvalidGroup | exact T.xm_InvalidGroup_InvalidGroup) | exact nomatch e
theorem mt_IsTop_ok {K : PySem.W.Frag} {mg : Str → Option Value} {C_Tree C_Book C_IsTop C_InvalidGroup C_WayError c__law_spots_let_ P__law_spots_let_ c__law_spots_refused_ P__law_spots_refused_ : Addr} (T : Tx K mg C_Tree C_Book C_IsTop C_InvalidGroup C_WayError c__law_spots_let_ P__law_spots_let_ c__law_spots_refused_ P__law_spots_refused_) : ∀ c k, mt_IsTop c = some k → PySem.W.exmOne K (.ref ((mkG C_Tree C_Book C_IsTop C_InvalidGroup C_WayError c__law_spots_let_ P__law_spots_let_ c__law_spots_refused_ P__law_spots_refused_).cl c)) (.ref C_IsTop) = some k := by
  intro c k e
  unfold mt_IsTop at e
  split at e <;> first | (cases e; first | exact T.xm_IsTop_IsTop | exact T.xm_InvalidGroup_IsTop) | exact nomatch e
/-! ### how arguments bind -/
section
variable {K : PySem.W.Frag}
theorem bd__law_draw {f : Addr} {fd : FuncData} (F : FunD K "_law_draw" "_law_draw" (defArgs s__law_draw) (defBody s__law_draw) (defScope s__law_draw) [] [] f fd) : Bnd K fd ["_law_pot_here", "_law_sides"] 2 [] bd0 := bnd_plain F rfl fun _ _ _ _ _ _ us hl => match us, hl with | [_, _], _ => rfl
theorem bd__law_ups {f : Addr} {fd : FuncData} (F : FunD K "_law_ups" "_law_ups" (defArgs s__law_ups) (defBody s__law_ups) (defScope s__law_ups) [] [] f fd) : Bnd K fd ["_law_pot_here", "_law_most"] 2 [] bd0 := bnd_plain F rfl fun _ _ _ _ _ _ us hl => match us, hl with | [_, _], _ => rfl
theorem bd__law_pick {f : Addr} {fd : FuncData} (F : FunD K "_law_pick" "_law_pick" (defArgs s__law_pick) (defBody s__law_pick) (defScope s__law_pick) [] [] f fd) : Bnd K fd ["_law_pot_here", "_law_some"] 2 [] bd0 := bnd_plain F rfl fun _ _ _ _ _ _ us hl => match us, hl with | [_, _], _ => rfl
theorem bd__law_menu {f : Addr} {fd : FuncData} (F : FunD K "_law_menu" "_law_menu" (defArgs s__law_menu) (defBody s__law_menu) (defScope s__law_menu) [] [] f fd) : Bnd K fd ["_law_sort"] 1 [] bd0 := bnd_plain F rfl fun _ _ _ _ _ _ us hl => match us, hl with | [_], _ => rfl
theorem bd__law_rules {f : Addr} {fd : FuncData} (F : FunD K "_law_rules" "_law_rules" (defArgs s__law_rules) (defBody s__law_rules) (defScope s__law_rules) [] [] f fd) : Bnd K fd ["_law_pot_here", "_law_way", "_law_most"] 3 [] bd0 := bnd_plain F rfl fun _ _ _ _ _ _ us hl => match us, hl with | [_, _, _], _ => rfl
theorem bd_is_list {f : Addr} {fd : FuncData} (F : FunD K "is_list" "is_list" (defArgs s_is_list) (defBody s_is_list) (defScope s_is_list) [] [] f fd) : Bnd K fd ["value"] 1 [] bd0 := bnd_plain F rfl fun _ _ _ _ _ _ us hl => match us, hl with | [_], _ => rfl
theorem bd_is_integer {f : Addr} {fd : FuncData} (F : FunD K "is_integer" "is_integer" (defArgs s_is_integer) (defBody s_is_integer) (defScope s_is_integer) [] [] f fd) : Bnd K fd ["value"] 1 [] bd0 := bnd_plain F rfl fun _ _ _ _ _ _ us hl => match us, hl with | [_], _ => rfl
theorem bd_is_count {f : Addr} {fd : FuncData} (F : FunD K "is_count" "is_count" (defArgs s_is_count) (defBody s_is_count) (defScope s_is_count) [] [] f fd) : Bnd K fd ["value"] 1 [] bd0 := bnd_plain F rfl fun _ _ _ _ _ _ us hl => match us, hl with | [_], _ => rfl
theorem bd_want_room {f : Addr} {fd : FuncData} (F : FunD K "want_room" "want_room" (defArgs s_want_room) (defBody s_want_room) (defScope s_want_room) [] [] f fd) : Bnd K fd ["many"] 1 [] bd0 := bnd_plain F rfl fun _ _ _ _ _ _ us hl => match us, hl with | [_], _ => rfl
theorem bd_want_parents {f : Addr} {fd : FuncData} (F : FunD K "want_parents" "want_parents" (defArgs s_want_parents) (defBody s_want_parents) (defScope s_want_parents) [] [] f fd) : Bnd K fd ["value"] 1 [] bd0 := bnd_plain F rfl fun _ _ _ _ _ _ us hl => match us, hl with | [_], _ => rfl
theorem bd_children_of {f : Addr} {fd : FuncData} (F : FunD K "children_of" "children_of" (defArgs s_children_of) (defBody s_children_of) (defScope s_children_of) [] [] f fd) : Bnd K fd ["parents", "group"] 2 [] bd0 := bnd_plain F rfl fun _ _ _ _ _ _ us hl => match us, hl with | [_, _], _ => rfl
theorem bd_want_struck {f : Addr} {fd : FuncData} (F : FunD K "want_struck" "want_struck" (defArgs s_want_struck) (defBody s_want_struck) (defScope s_want_struck) [] [] f fd) : Bnd K fd ["parents", "value"] 2 [] bd0 := bnd_plain F rfl fun _ _ _ _ _ _ us hl => match us, hl with | [_, _], _ => rfl
theorem bd_are_words {f : Addr} {fd : FuncData} (F : FunD K "are_words" "are_words" (defArgs s_are_words) (defBody s_are_words) (defScope s_are_words) [] [] f fd) : Bnd K fd ["value", "known"] 2 [] bd0 := bnd_plain F rfl fun _ _ _ _ _ _ us hl => match us, hl with | [_, _], _ => rfl
theorem bd_are_tests_ahead {f : Addr} {fd : FuncData} (F : FunD K "are_tests_ahead" "are_tests_ahead" (defArgs s_are_tests_ahead) (defBody s_are_tests_ahead) (defScope s_are_tests_ahead) [] [] f fd) : Bnd K fd ["row", "word"] 2 [] bd0 := bnd_plain F rfl fun _ _ _ _ _ _ us hl => match us, hl with | [_, _], _ => rfl
theorem bd_is_take {f : Addr} {fd : FuncData} (F : FunD K "is_take" "is_take" (defArgs s_is_take) (defBody s_is_take) (defScope s_is_take) [] [] f fd) : Bnd K fd ["value"] 1 [] bd0 := bnd_plain F rfl fun _ _ _ _ _ _ us hl => match us, hl with | [_], _ => rfl
theorem bd_is_behind {f : Addr} {fd : FuncData} (F : FunD K "is_behind" "is_behind" (defArgs s_is_behind) (defBody s_is_behind) (defScope s_is_behind) [] [] f fd) : Bnd K fd ["row", "word", "other"] 3 [] bd0 := bnd_plain F rfl fun _ _ _ _ _ _ us hl => match us, hl with | [_, _, _], _ => rfl
theorem bd_is_give {f : Addr} {fd : FuncData} (F : FunD K "is_give" "is_give" (defArgs s_is_give) (defBody s_is_give) (defScope s_is_give) [] [] f fd) : Bnd K fd ["value"] 1 [] bd0 := bnd_plain F rfl fun _ _ _ _ _ _ us hl => match us, hl with | [_], _ => rfl
theorem bd_is_move {f : Addr} {fd : FuncData} (F : FunD K "is_move" "is_move" (defArgs s_is_move) (defBody s_is_move) (defScope s_is_move) [] [] f fd) : Bnd K fd ["value"] 1 [] bd0 := bnd_plain F rfl fun _ _ _ _ _ _ us hl => match us, hl with | [_], _ => rfl
theorem bd_is_lift {f : Addr} {fd : FuncData} (F : FunD K "is_lift" "is_lift" (defArgs s_is_lift) (defBody s_is_lift) (defScope s_is_lift) [] [] f fd) : Bnd K fd ["value"] 1 [] bd0 := bnd_plain F rfl fun _ _ _ _ _ _ us hl => match us, hl with | [_], _ => rfl
theorem bd_is_row {f : Addr} {fd : FuncData} (F : FunD K "is_row" "is_row" (defArgs s_is_row) (defBody s_is_row) (defScope s_is_row) [] [] f fd) : Bnd K fd ["kind", "value"] 2 [] bd0 := bnd_plain F rfl fun _ _ _ _ _ _ us hl => match us, hl with | [_, _], _ => rfl
theorem bd_want_word {f : Addr} {fd : FuncData} (F : FunD K "want_word" "want_word" (defArgs s_want_word) (defBody s_want_word) (defScope s_want_word) [] [] f fd) : Bnd K fd ["name", "value", "is_right"] 3 [] bd0 := bnd_plain F rfl fun _ _ _ _ _ _ us hl => match us, hl with | [_, _, _], _ => rfl
theorem bd_are_holds {f : Addr} {fd : FuncData} (F : FunD K "are_holds" "are_holds" (defArgs s_are_holds) (defBody s_are_holds) (defScope s_are_holds) [] [] f fd) : Bnd K fd ["value"] 1 [] bd0 := bnd_plain F rfl fun _ _ _ _ _ _ us hl => match us, hl with | [_], _ => rfl
theorem bd_holds_in_sequence {f : Addr} {fd : FuncData} (F : FunD K "holds_in_sequence" "holds_in_sequence" (defArgs s_holds_in_sequence) (defBody s_holds_in_sequence) (defScope s_holds_in_sequence) [] [] f fd) : Bnd K fd ["holds"] 1 [] bd0 := bnd_plain F rfl fun _ _ _ _ _ _ us hl => match us, hl with | [_], _ => rfl
theorem bd_want_batch {f : Addr} {fd : FuncData} (F : FunD K "want_batch" "want_batch" (defArgs s_want_batch) (defBody s_want_batch) (defScope s_want_batch) [] [] f fd) : Bnd K fd ["value"] 1 [] bd0 := bnd_plain F rfl fun _ _ _ _ _ _ us hl => match us, hl with | [_], _ => rfl
theorem bd__law_book {f : Addr} {fd : FuncData} (F : FunD K "_law_book" "_law_book" (defArgs s__law_book) (defBody s__law_book) (defScope s__law_book) [] [] f fd) : Bnd K fd ["_law_rules_here"] 1 [] bd0 := bnd_plain F rfl fun _ _ _ _ _ _ us hl => match us, hl with | [_], _ => rfl
theorem bd__law_told {f : Addr} {fd : FuncData} (F : FunD K "_law_told" "_law_told" (defArgs s__law_told) (defBody s__law_told) (defScope s__law_told) [] [] f fd) : Bnd K fd ["_law_deed"] 1 [] bd0 := bnd_plain F rfl fun _ _ _ _ _ _ us hl => match us, hl with | [_], _ => rfl
theorem bd_Tree___len__ {f : Addr} {fd : FuncData} (F : FunD K "__len__" "Tree.__len__" (defArgs s_Tree___len__) (defBody s_Tree___len__) (defScope s_Tree___len__) [] [] f fd) : Bnd K fd ["self"] 1 [] bd0 := bnd_plain F rfl fun _ _ _ _ _ _ us hl => match us, hl with | [_], _ => rfl
theorem bd_Tree_want_group {f : Addr} {fd : FuncData} (F : FunD K "want_group" "Tree.want_group" (defArgs s_Tree_want_group) (defBody s_Tree_want_group) (defScope s_Tree_want_group) [] [] f fd) : Bnd K fd ["self", "value"] 2 [] bd0 := bnd_plain F rfl fun _ _ _ _ _ _ us hl => match us, hl with | [_, _], _ => rfl
theorem bd_Tree_way {f : Addr} {fd : FuncData} (F : FunD K "way" "Tree.way" (defArgs s_Tree_way) (defBody s_Tree_way) (defScope s_Tree_way) [] [] f fd) : Bnd K fd ["self", "group"] 2 [] bd0 := bnd_plain F rfl fun _ _ _ _ _ _ us hl => match us, hl with | [_, _], _ => rfl
theorem bd_want_kind {f : Addr} {fd : FuncData} (F : FunD K "want_kind" "want_kind" (defArgs s_want_kind) (defBody s_want_kind) (defScope s_want_kind) [] [] f fd) : Bnd K fd ["value"] 1 [] bd0 := bnd_plain F rfl fun _ _ _ _ _ _ us hl => match us, hl with | [_], _ => rfl
theorem bd_Book_row {f : Addr} {fd : FuncData} (F : FunD K "row" "Book.row" (defArgs s_Book_row) (defBody s_Book_row) (defScope s_Book_row) [] [] f fd) : Bnd K fd ["self", "kind"] 2 [] bd0 := bnd_plain F rfl fun _ _ _ _ _ _ us hl => match us, hl with | [_, _], _ => rfl
theorem bd_along {f : Addr} {fd : FuncData} (F : FunD K "along" "along" (defArgs s_along) (defBody s_along) (defScope s_along) [] [] f fd) : Bnd K fd ["word", "way"] 2 [] bd0 := bnd_plain F rfl fun _ _ _ _ _ _ us hl => match us, hl with | [_, _], _ => rfl
theorem bd_take_plan {f : Addr} {fd : FuncData} (F : FunD K "take_plan" "take_plan" (defArgs s_take_plan) (defBody s_take_plan) (defScope s_take_plan) [] [] f fd) : Bnd K fd ["book", "tree", "group"] 3 [] bd0 := bnd_plain F rfl fun _ _ _ _ _ _ us hl => match us, hl with | [_, _, _], _ => rfl
theorem bd_give_plan {f : Addr} {fd : FuncData} (F : FunD K "give_plan" "give_plan" (defArgs s_give_plan) (defBody s_give_plan) (defScope s_give_plan) [] [] f fd) : Bnd K fd ["book", "tree", "home"] 3 [] bd0 := bnd_plain F rfl fun _ _ _ _ _ _ us hl => match us, hl with | [_, _, _], _ => rfl
theorem bd_settle_plan {f : Addr} {fd : FuncData} (F : FunD K "settle_plan" "settle_plan" (defArgs s_settle_plan) (defBody s_settle_plan) (defScope s_settle_plan) [] [] f fd) : Bnd K fd ["tree", "group"] 2 [] bd0 := bnd_plain F rfl fun _ _ _ _ _ _ us hl => match us, hl with | [_, _], _ => rfl
theorem bd_Book_shared {f : Addr} {fd : FuncData} (F : FunD K "shared" "Book.shared" (defArgs s_Book_shared) (defBody s_Book_shared) (defScope s_Book_shared) [] [] f fd) : Bnd K fd ["self"] 1 [] bd0 := bnd_plain F rfl fun _ _ _ _ _ _ us hl => match us, hl with | [_], _ => rfl
theorem bd_Tree_apart {f : Addr} {fd : FuncData} (F : FunD K "apart" "Tree.apart" (defArgs s_Tree_apart) (defBody s_Tree_apart) (defScope s_Tree_apart) [] [] f fd) : Bnd K fd ["self", "group", "seen"] 3 [] bd0 := bnd_plain F rfl fun _ _ _ _ _ _ us hl => match us, hl with | [_, _, _], _ => rfl
theorem bd_move_ways {f : Addr} {fd : FuncData} (F : FunD K "move_ways" "move_ways" (defArgs s_move_ways) (defBody s_move_ways) (defScope s_move_ways) [] [] f fd) : Bnd K fd ["book", "tree", "home", "target"] 4 [] bd0 := bnd_plain F rfl fun _ _ _ _ _ _ us hl => match us, hl with | [_, _, _, _], _ => rfl
theorem bd_move_plan {f : Addr} {fd : FuncData} (F : FunD K "move_plan" "move_plan" (defArgs s_move_plan) (defBody s_move_plan) (defScope s_move_plan) [] [] f fd) : Bnd K fd ["book", "tree", "home", "target"] 4 [] bd0 := bnd_plain F rfl fun _ _ _ _ _ _ us hl => match us, hl with | [_, _, _, _], _ => rfl
theorem bd_Tree_parent {f : Addr} {fd : FuncData} (F : FunD K "parent" "Tree.parent" (defArgs s_Tree_parent) (defBody s_Tree_parent) (defScope s_Tree_parent) [] [] f fd) : Bnd K fd ["self", "group"] 2 [] bd0 := bnd_plain F rfl fun _ _ _ _ _ _ us hl => match us, hl with | [_, _], _ => rfl
theorem bd_lift_plan {f : Addr} {fd : FuncData} (F : FunD K "lift_plan" "lift_plan" (defArgs s_lift_plan) (defBody s_lift_plan) (defScope s_lift_plan) [] [] f fd) : Bnd K fd ["book", "tree", "home"] 3 [] bd0 := bnd_plain F rfl fun _ _ _ _ _ _ us hl => match us, hl with | [_, _, _], _ => rfl
theorem bd__law_spots_let {f : Addr} {fd : FuncData} (F : FunD K "_law_spots_let" "_law_spots_let" (defArgs s__law_spots_let) (defBody s__law_spots_let) (defScope s__law_spots_let) [] [] f fd) : Bnd K fd ["_law_made", "_law_wood", "_law_many"] 3 [] bd0 := bnd_plain F rfl fun _ _ _ _ _ _ us hl => match us, hl with | [_, _, _], _ => rfl
theorem bd__law_odd {f : Addr} {fd : FuncData} (F : FunD K "_law_odd" "_law_odd" (defArgs s__law_odd) (defBody s__law_odd) (defScope s__law_odd) [] [] f fd) : Bnd K fd ["_law_pot_here", "_law_many"] 2 [] bd0 := bnd_plain F rfl fun _ _ _ _ _ _ us hl => match us, hl with | [_, _], _ => rfl
theorem bd__law_spots_refused {f : Addr} {fd : FuncData} (F : FunD K "_law_spots_refused" "_law_spots_refused" (defArgs s__law_spots_refused) (defBody s__law_spots_refused) (defScope s__law_spots_refused) [] [] f fd) : Bnd K fd ["_law_pot_here", "_law_made", "_law_wood", "_law_many"] 4 [] bd0 := bnd_plain F rfl fun _ _ _ _ _ _ us hl => match us, hl with | [_, _, _, _], _ => rfl
theorem bd_Book_others {f : Addr} {fd : FuncData} (F : FunD K "others" "Book.others" (defArgs s_Book_others) (defBody s_Book_others) (defScope s_Book_others) [] [] f fd) : Bnd K fd ["self"] 1 [] bd0 := bnd_plain F rfl fun _ _ _ _ _ _ us hl => match us, hl with | [_], _ => rfl
theorem bd_Book___eq__ {f : Addr} {fd : FuncData} (F : FunD K "__eq__" "Book.__eq__" (defArgs s_Book___eq__) (defBody s_Book___eq__) (defScope s_Book___eq__) [] [] f fd) : Bnd K fd ["self", "other"] 2 [] bd0 := bnd_plain F rfl fun _ _ _ _ _ _ us hl => match us, hl with | [_, _], _ => rfl
theorem bd_Tree___eq__ {f : Addr} {fd : FuncData} (F : FunD K "__eq__" "Tree.__eq__" (defArgs s_Tree___eq__) (defBody s_Tree___eq__) (defScope s_Tree___eq__) [] [] f fd) : Bnd K fd ["self", "other"] 2 [] bd0 := bnd_plain F rfl fun _ _ _ _ _ _ us hl => match us, hl with | [_, _], _ => rfl
theorem bd__law_right {f : Addr} {fd : FuncData} (F : FunD K "_law_right" "_law_right" (defArgs s__law_right) (defBody s__law_right) (defScope s__law_right) [] [] f fd) : Bnd K fd ["_law_pot_here"] 1 [] bd0 := bnd_plain F rfl fun _ _ _ _ _ _ us hl => match us, hl with | [_], _ => rfl
theorem bd__law_pot {f : Addr} {fd : FuncData} (F : FunD K "_law_pot" "_law_pot" (defArgs s__law_pot) (defBody s__law_pot) (defScope s__law_pot) [] [] f fd) : Bnd K fd ["_law_script", "_law_k"] 2 [] bd0 := bnd_plain F rfl fun _ _ _ _ _ _ us hl => match us, hl with | [_, _], _ => rfl
theorem b_Book___init___take_give_move_lift_fails_shared_holds_batch_settles {f : Addr} {fd : FuncData} (F : FunD K "__init__" "Book.__init__" (defArgs s_Book___init__) (defBody s_Book___init__) (defScope s_Book___init__) [] [] f fd) : Bnd K fd ["self", "take", "give", "move", "lift", "fails", "shared", "holds", "batch", "settles"] 1 ["take", "give", "move", "lift", "fails", "shared", "holds", "batch", "settles"] (fun a b => ar_Book___init___take_give_move_lift_fails_shared_holds_batch_settles a b) := by
  refine bnd_kw (fun {α} => ar_Book___init___take_give_move_lift_fails_shared_holds_batch_settles (α := α)) F ?_ ?_ ?_
  · intro vs zs us ws r1 r2 h1 h2
    cases r1 with
    | nil => simp at h1
    | cons s r1 =>
      cases r1 with
      | cons _ _ => simp at h1
      | nil =>
        cases r2 with
        | nil => simp at h2
        | cons x0 r2 =>
          cases r2 with
          | nil => simp at h2
          | cons x1 r2 =>
            cases r2 with
            | nil => simp at h2
            | cons x2 r2 =>
              cases r2 with
              | nil => simp at h2
              | cons x3 r2 =>
                cases r2 with
                | nil => simp at h2
                | cons x4 r2 =>
                  cases r2 with
                  | nil => simp at h2
                  | cons x5 r2 =>
                    cases r2 with
                    | nil => simp at h2
                    | cons x6 r2 =>
                      cases r2 with
                      | nil => simp at h2
                      | cons x7 r2 =>
                        cases r2 with
                        | nil => simp at h2
                        | cons x8 r2 =>
                          cases r2 with
                          | cons _ _ => simp at h2
                          | nil => exact (.cons s (.cons x0 (.cons x1 (.cons x2 (.cons x3 (.cons x4 (.cons x5 (.cons x6 (.cons x7 (.cons x8 .nil))))))))))
  · intro m N H vs zs us ws r1 r2 h1 h2
    cases r1 with
    | nil => simp at h1
    | cons s r1 =>
      cases r1 with
      | cons _ _ => simp at h1
      | nil =>
        cases r2 with
        | nil => simp at h2
        | cons x0 r2 =>
          cases r2 with
          | nil => simp at h2
          | cons x1 r2 =>
            cases r2 with
            | nil => simp at h2
            | cons x2 r2 =>
              cases r2 with
              | nil => simp at h2
              | cons x3 r2 =>
                cases r2 with
                | nil => simp at h2
                | cons x4 r2 =>
                  cases r2 with
                  | nil => simp at h2
                  | cons x5 r2 =>
                    cases r2 with
                    | nil => simp at h2
                    | cons x6 r2 =>
                      cases r2 with
                      | nil => simp at h2
                      | cons x7 r2 =>
                        cases r2 with
                        | nil => simp at h2
                        | cons x8 r2 =>
                          cases r2 with
                          | cons _ _ => simp at h2
                          | nil => exact (.cons s (.cons x0 (.cons x1 (.cons x2 (.cons x3 (.cons x4 (.cons x5 (.cons x6 (.cons x7 (.cons x8 .nil))))))))))
  · intro kV doc pm an cdv ct us ws h1 h2
    match us, ws, h1, h2 with
    | [_], [_, _, _, _, _, _, _, _, _], _, _ => rfl
theorem b_give_plan_home_tree_book {f : Addr} {fd : FuncData} (F : FunD K "give_plan" "give_plan" (defArgs s_give_plan) (defBody s_give_plan) (defScope s_give_plan) [] [] f fd) : Bnd K fd ["book", "tree", "home"] 0 ["home", "tree", "book"] (fun a b => ar_give_plan_home_tree_book a b) := by
  refine bnd_kw (fun {α} => ar_give_plan_home_tree_book (α := α)) F ?_ ?_ ?_
  · intro vs zs us ws r1 r2 h1 h2
    cases r1 with
    | cons _ _ => simp at h1
    | nil =>
      cases r2 with
      | nil => simp at h2
      | cons x0 r2 =>
        cases r2 with
        | nil => simp at h2
        | cons x1 r2 =>
          cases r2 with
          | nil => simp at h2
          | cons x2 r2 =>
            cases r2 with
            | cons _ _ => simp at h2
            | nil => exact (.cons x2 (.cons x1 (.cons x0 .nil)))
  · intro m N H vs zs us ws r1 r2 h1 h2
    cases r1 with
    | cons _ _ => simp at h1
    | nil =>
      cases r2 with
      | nil => simp at h2
      | cons x0 r2 =>
        cases r2 with
        | nil => simp at h2
        | cons x1 r2 =>
          cases r2 with
          | nil => simp at h2
          | cons x2 r2 =>
            cases r2 with
            | cons _ _ => simp at h2
            | nil => exact (.cons x2 (.cons x1 (.cons x0 .nil)))
  · intro kV doc pm an cdv ct us ws h1 h2
    match us, ws, h1, h2 with
    | [], [_, _, _], _, _ => rfl
theorem b_lift_plan_book_tree_home {f : Addr} {fd : FuncData} (F : FunD K "lift_plan" "lift_plan" (defArgs s_lift_plan) (defBody s_lift_plan) (defScope s_lift_plan) [] [] f fd) : Bnd K fd ["book", "tree", "home"] 0 ["book", "tree", "home"] (fun a b => ar_lift_plan_book_tree_home a b) := by
  refine bnd_kw (fun {α} => ar_lift_plan_book_tree_home (α := α)) F ?_ ?_ ?_
  · intro vs zs us ws r1 r2 h1 h2
    cases r1 with
    | cons _ _ => simp at h1
    | nil =>
      cases r2 with
      | nil => simp at h2
      | cons x0 r2 =>
        cases r2 with
        | nil => simp at h2
        | cons x1 r2 =>
          cases r2 with
          | nil => simp at h2
          | cons x2 r2 =>
            cases r2 with
            | cons _ _ => simp at h2
            | nil => exact (.cons x0 (.cons x1 (.cons x2 .nil)))
  · intro m N H vs zs us ws r1 r2 h1 h2
    cases r1 with
    | cons _ _ => simp at h1
    | nil =>
      cases r2 with
      | nil => simp at h2
      | cons x0 r2 =>
        cases r2 with
        | nil => simp at h2
        | cons x1 r2 =>
          cases r2 with
          | nil => simp at h2
          | cons x2 r2 =>
            cases r2 with
            | cons _ _ => simp at h2
            | nil => exact (.cons x0 (.cons x1 (.cons x2 .nil)))
  · intro kV doc pm an cdv ct us ws h1 h2
    match us, ws, h1, h2 with
    | [], [_, _, _], _, _ => rfl
theorem b_move_plan_home_target_tree_book {f : Addr} {fd : FuncData} (F : FunD K "move_plan" "move_plan" (defArgs s_move_plan) (defBody s_move_plan) (defScope s_move_plan) [] [] f fd) : Bnd K fd ["book", "tree", "home", "target"] 0 ["home", "target", "tree", "book"] (fun a b => ar_move_plan_home_target_tree_book a b) := by
  refine bnd_kw (fun {α} => ar_move_plan_home_target_tree_book (α := α)) F ?_ ?_ ?_
  · intro vs zs us ws r1 r2 h1 h2
    cases r1 with
    | cons _ _ => simp at h1
    | nil =>
      cases r2 with
      | nil => simp at h2
      | cons x0 r2 =>
        cases r2 with
        | nil => simp at h2
        | cons x1 r2 =>
          cases r2 with
          | nil => simp at h2
          | cons x2 r2 =>
            cases r2 with
            | nil => simp at h2
            | cons x3 r2 =>
              cases r2 with
              | cons _ _ => simp at h2
              | nil => exact (.cons x3 (.cons x2 (.cons x0 (.cons x1 .nil))))
  · intro m N H vs zs us ws r1 r2 h1 h2
    cases r1 with
    | cons _ _ => simp at h1
    | nil =>
      cases r2 with
      | nil => simp at h2
      | cons x0 r2 =>
        cases r2 with
        | nil => simp at h2
        | cons x1 r2 =>
          cases r2 with
          | nil => simp at h2
          | cons x2 r2 =>
            cases r2 with
            | nil => simp at h2
            | cons x3 r2 =>
              cases r2 with
              | cons _ _ => simp at h2
              | nil => exact (.cons x3 (.cons x2 (.cons x0 (.cons x1 .nil))))
  · intro kV doc pm an cdv ct us ws h1 h2
    match us, ws, h1, h2 with
    | [], [_, _, _, _], _, _ => rfl
theorem b_move_plan_target_home_tree_book {f : Addr} {fd : FuncData} (F : FunD K "move_plan" "move_plan" (defArgs s_move_plan) (defBody s_move_plan) (defScope s_move_plan) [] [] f fd) : Bnd K fd ["book", "tree", "home", "target"] 0 ["target", "home", "tree", "book"] (fun a b => ar_move_plan_target_home_tree_book a b) := by
  refine bnd_kw (fun {α} => ar_move_plan_target_home_tree_book (α := α)) F ?_ ?_ ?_
  · intro vs zs us ws r1 r2 h1 h2
    cases r1 with
    | cons _ _ => simp at h1
    | nil =>
      cases r2 with
      | nil => simp at h2
      | cons x0 r2 =>
        cases r2 with
        | nil => simp at h2
        | cons x1 r2 =>
          cases r2 with
          | nil => simp at h2
          | cons x2 r2 =>
            cases r2 with
            | nil => simp at h2
            | cons x3 r2 =>
              cases r2 with
              | cons _ _ => simp at h2
              | nil => exact (.cons x3 (.cons x2 (.cons x1 (.cons x0 .nil))))
  · intro m N H vs zs us ws r1 r2 h1 h2
    cases r1 with
    | cons _ _ => simp at h1
    | nil =>
      cases r2 with
      | nil => simp at h2
      | cons x0 r2 =>
        cases r2 with
        | nil => simp at h2
        | cons x1 r2 =>
          cases r2 with
          | nil => simp at h2
          | cons x2 r2 =>
            cases r2 with
            | nil => simp at h2
            | cons x3 r2 =>
              cases r2 with
              | cons _ _ => simp at h2
              | nil => exact (.cons x3 (.cons x2 (.cons x1 (.cons x0 .nil))))
  · intro kV doc pm an cdv ct us ws h1 h2
    match us, ws, h1, h2 with
    | [], [_, _, _, _], _, _ => rfl
theorem b_settle_plan_group_tree {f : Addr} {fd : FuncData} (F : FunD K "settle_plan" "settle_plan" (defArgs s_settle_plan) (defBody s_settle_plan) (defScope s_settle_plan) [] [] f fd) : Bnd K fd ["tree", "group"] 0 ["group", "tree"] (fun a b => ar_settle_plan_group_tree a b) := by
  refine bnd_kw (fun {α} => ar_settle_plan_group_tree (α := α)) F ?_ ?_ ?_
  · intro vs zs us ws r1 r2 h1 h2
    cases r1 with
    | cons _ _ => simp at h1
    | nil =>
      cases r2 with
      | nil => simp at h2
      | cons x0 r2 =>
        cases r2 with
        | nil => simp at h2
        | cons x1 r2 =>
          cases r2 with
          | cons _ _ => simp at h2
          | nil => exact (.cons x1 (.cons x0 .nil))
  · intro m N H vs zs us ws r1 r2 h1 h2
    cases r1 with
    | cons _ _ => simp at h1
    | nil =>
      cases r2 with
      | nil => simp at h2
      | cons x0 r2 =>
        cases r2 with
        | nil => simp at h2
        | cons x1 r2 =>
          cases r2 with
          | cons _ _ => simp at h2
          | nil => exact (.cons x1 (.cons x0 .nil))
  · intro kV doc pm an cdv ct us ws h1 h2
    match us, ws, h1, h2 with
    | [], [_, _], _, _ => rfl
theorem b_take_plan_group_book_tree {f : Addr} {fd : FuncData} (F : FunD K "take_plan" "take_plan" (defArgs s_take_plan) (defBody s_take_plan) (defScope s_take_plan) [] [] f fd) : Bnd K fd ["book", "tree", "group"] 0 ["group", "book", "tree"] (fun a b => ar_take_plan_group_book_tree a b) := by
  refine bnd_kw (fun {α} => ar_take_plan_group_book_tree (α := α)) F ?_ ?_ ?_
  · intro vs zs us ws r1 r2 h1 h2
    cases r1 with
    | cons _ _ => simp at h1
    | nil =>
      cases r2 with
      | nil => simp at h2
      | cons x0 r2 =>
        cases r2 with
        | nil => simp at h2
        | cons x1 r2 =>
          cases r2 with
          | nil => simp at h2
          | cons x2 r2 =>
            cases r2 with
            | cons _ _ => simp at h2
            | nil => exact (.cons x1 (.cons x2 (.cons x0 .nil)))
  · intro m N H vs zs us ws r1 r2 h1 h2
    cases r1 with
    | cons _ _ => simp at h1
    | nil =>
      cases r2 with
      | nil => simp at h2
      | cons x0 r2 =>
        cases r2 with
        | nil => simp at h2
        | cons x1 r2 =>
          cases r2 with
          | nil => simp at h2
          | cons x2 r2 =>
            cases r2 with
            | cons _ _ => simp at h2
            | nil => exact (.cons x1 (.cons x2 (.cons x0 .nil)))
  · intro kV doc pm an cdv ct us ws h1 h2
    match us, ws, h1, h2 with
    | [], [_, _, _], _, _ => rfl
theorem b_Tree___init___2 {f z0 z1 : Addr} {fd : FuncData} (F : FunD K "__init__" "Tree.__init__" (defArgs s_Tree___init__) (defBody s_Tree___init__) (defScope s_Tree___init__) [V.ref z0, V.ref z1] [] f fd) (r0 : ∀ m N H, RelD K m N H (.tup []) (.ref z0)) (r1 : ∀ m N H, RelD K m N H (.tup []) (.ref z1)) : Bnd K fd ["self", "parents", "struck"] 3 [] (fun xs _ => xs ++ []) := by
  obtain ⟨ds, hv, hb⟩ := F.binds1 (ps := ["self", "parents", "struck"]) 3 2 (by simp) rfl fun T kV doc pm an cdv ct us its h1 h2 => match us, its, h1, h2 with | [_, _, _], [_, _], _, _ => ⟨_, rfl, rfl⟩
  refine bnd_of hb hv (fun m N H => .nil) ?_
  have e : ds.length = 0 := by rw [← hv.length]; rfl
  rw [e]; rfl
end
/-! ### the promises -/
section
variable {P : Program} {w : World} {K : PySem.W.Frag} {mg : Str → Option Value} {base : Heap} {C_Tree C_Book C_IsTop C_InvalidGroup C_WayError c__law_spots_let_ P__law_spots_let_ c__law_spots_refused_ P__law_spots_refused_ : Addr}
theorem in__law_spots_let : (P__law_spots_let_, ((("_law_spots_let" : Str) ++ (".<locals>." : Str)) ++ ("<lambda>" : Str))) ∈ (mkG C_Tree C_Book C_IsTop C_InvalidGroup C_WayError c__law_spots_let_ P__law_spots_let_ c__law_spots_refused_ P__law_spots_refused_).tabs := .head _
theorem un__law_spots_let (T : Tx K mg C_Tree C_Book C_IsTop C_InvalidGroup C_WayError c__law_spots_let_ P__law_spots_let_ c__law_spots_refused_ P__law_spots_refused_) : ∀ p ∈ (mkG C_Tree C_Book C_IsTop C_InvalidGroup C_WayError c__law_spots_let_ P__law_spots_let_ c__law_spots_refused_ P__law_spots_refused_).tabs, p.1 = P__law_spots_let_ → p.2 = (("_law_spots_let" : Str) ++ (".<locals>." : Str)) ++ ("<lambda>" : Str) := by
  intro p m e
  rcases List.mem_cons.mp m with z | m
  · rw [z]
  rcases List.mem_cons.mp m with z | m
  · rw [z] at e; exact absurd e T.dt__law_spots_refused__law_spots_let
  exact nomatch m
theorem in__law_spots_refused : (P__law_spots_refused_, ((("_law_spots_refused" : Str) ++ (".<locals>." : Str)) ++ ("<lambda>" : Str))) ∈ (mkG C_Tree C_Book C_IsTop C_InvalidGroup C_WayError c__law_spots_let_ P__law_spots_let_ c__law_spots_refused_ P__law_spots_refused_).tabs := .tail _ (.head _)
theorem un__law_spots_refused (T : Tx K mg C_Tree C_Book C_IsTop C_InvalidGroup C_WayError c__law_spots_let_ P__law_spots_let_ c__law_spots_refused_ P__law_spots_refused_) : ∀ p ∈ (mkG C_Tree C_Book C_IsTop C_InvalidGroup C_WayError c__law_spots_let_ P__law_spots_let_ c__law_spots_refused_ P__law_spots_refused_).tabs, p.1 = P__law_spots_refused_ → p.2 = (("_law_spots_refused" : Str) ++ (".<locals>." : Str)) ++ ("<lambda>" : Str) := by
  intro p m e
  rcases List.mem_cons.mp m with z | m
  · rw [z] at e; exact absurd e.symm T.dt__law_spots_refused__law_spots_let
  rcases List.mem_cons.mp m with z | m
  · rw [z]
  exact nomatch m
theorem ok__law_draw (T : Tx K mg C_Tree C_Book C_IsTop C_InvalidGroup C_WayError c__law_spots_let_ P__law_spots_let_ c__law_spots_refused_ P__law_spots_refused_)  (B : Bx base mg C_Tree C_Book C_IsTop C_InvalidGroup C_WayError c__law_spots_let_ P__law_spots_let_ c__law_spots_refused_ P__law_spots_refused_) {f : Addr} {fd : FuncData} (F : FunD K "_law_draw" "_law_draw" (defArgs s__law_draw) (defBody s__law_draw) (defScope s__law_draw) [] [] f fd) : FnG P w K mg base CX0 1 f fd ["_law_pot_here", "_law_sides"] (spF (mkG C_Tree C_Book C_IsTop C_InvalidGroup C_WayError c__law_spots_let_ P__law_spots_let_ c__law_spots_refused_ P__law_spots_refused_) K f__law_draw) := by
  refine fnG_D F sc__law_draw rfl rfl fun cdv A outer s H E hg hr => PSs.nox ?_
  have hu := hu64 hr
  have hu7 := hu70 hr
  exact (zCons (zIf (yCmp gt_ok isB_gt (xIx (xV 0) xInt) xInt (nomark _)) (zCons (zAsg (ng_tup (ngs_cons ng_sub (ngs_cons ng_name ngs_nil))) (bltn divmod_okB rfl T.b_divmod (by decide +kernel) (xaCons (xIx (xV 0) xInt) (xaCons (xV 1) xaNil))) (gT_ok rfl (gsCons_ok (gSub_ok (xV 0) xInt) (gsCons_ok (gName_ok (i := 2) sc__law_draw.nd rfl (Or.inl rfl)) gsNil_ok))))
    (zCons (zRet (xV 2))
    zNil)) zNil)
    (zCons (zAsg ng_sub (x2 mod_ok (bltnT int_okB rfl T.b_int (by decide +kernel) (xaCons (x2 add_ok (x2 mul_ok (xIx (xV 0) xInt) xInt) xInt) xaNil)) xInt) (gSub_ok (xV 0) xInt))
    (zCons (zRet (x2 mod_ok (bltnT int_okB rfl T.b_int (by decide +kernel) (xaCons (x2 div_ok (x2 mod_ok (bltnT int_okB rfl T.b_int (by decide +kernel) (xaCons (x2 mul_ok (xIx (xV 0) xInt) (xIx (xV 0) xInt)) xaNil)) xInt) xInt) xaNil)) (xV 1)))
    zNil)))
theorem ok__law_ups (T : Tx K mg C_Tree C_Book C_IsTop C_InvalidGroup C_WayError c__law_spots_let_ P__law_spots_let_ c__law_spots_refused_ P__law_spots_refused_)  (B : Bx base mg C_Tree C_Book C_IsTop C_InvalidGroup C_WayError c__law_spots_let_ P__law_spots_let_ c__law_spots_refused_ P__law_spots_refused_) {f : Addr} {fd : FuncData} (F : FunD K "_law_ups" "_law_ups" (defArgs s__law_ups) (defBody s__law_ups) (defScope s__law_ups) [] [] f fd) : FnG P w K mg base CX0 2 f fd ["_law_pot_here", "_law_most"] (spF (mkG C_Tree C_Book C_IsTop C_InvalidGroup C_WayError c__law_spots_let_ P__law_spots_let_ c__law_spots_refused_ P__law_spots_refused_) K f__law_ups) := by
  obtain ⟨a__law_draw, d__law_draw, F__law_draw, m__law_draw⟩ := T.F__law_draw
  have b__law_draw := bd__law_draw F__law_draw
  have k__law_draw := F__law_draw.kp
  have g__law_draw := ok__law_draw (P := P) (w := w) (base := base) T B F__law_draw
  refine fnG_D F sc__law_ups rfl rfl fun cdv A outer s H E hg hr => PSs.nox ?_
  have hu := hu64 hr
  have hu7 := hu70 hr
  exact (zCons (zSet (i := 2) sc__law_ups.nd rfl (Or.inl rfl) (xLst (xaCons xNon xaNil)))
    (zCons (zFor PassesOwn.never rfl (iRng1_ok rfl T.b_range (xCall (cg_fn g__law_draw hg (hr.mono (by decide)) passes0 b__law_draw) rfl m__law_draw k__law_draw (xaCons (xV 0) (xaCons (x2 add_ok (xV 1) xInt) xaNil)))) (gName_ok (i := 3) sc__law_ups.nd rfl (Or.inl rfl)) (zCons (zE (xAppend (xV 2) (xaCons (xCall (cg_fn g__law_draw hg (hr.mono (by decide)) passes0 b__law_draw) rfl m__law_draw k__law_draw (xaCons (xV 0) (xaCons (bltn len_okB rfl T.b_len (by decide +kernel) (xaCons (xV 2) xaNil)) xaNil))) xaNil)))
    zNil))
    (zCons (zRet (xV 2))
    zNil)))
theorem ok__law_pick (T : Tx K mg C_Tree C_Book C_IsTop C_InvalidGroup C_WayError c__law_spots_let_ P__law_spots_let_ c__law_spots_refused_ P__law_spots_refused_)  (B : Bx base mg C_Tree C_Book C_IsTop C_InvalidGroup C_WayError c__law_spots_let_ P__law_spots_let_ c__law_spots_refused_ P__law_spots_refused_) {f : Addr} {fd : FuncData} (F : FunD K "_law_pick" "_law_pick" (defArgs s__law_pick) (defBody s__law_pick) (defScope s__law_pick) [] [] f fd) : FnG P w K mg base CX0 2 f fd ["_law_pot_here", "_law_some"] (spF (mkG C_Tree C_Book C_IsTop C_InvalidGroup C_WayError c__law_spots_let_ P__law_spots_let_ c__law_spots_refused_ P__law_spots_refused_) K f__law_pick) := by
  obtain ⟨a__law_draw, d__law_draw, F__law_draw, m__law_draw⟩ := T.F__law_draw
  have b__law_draw := bd__law_draw F__law_draw
  have k__law_draw := F__law_draw.kp
  have g__law_draw := ok__law_draw (P := P) (w := w) (base := base) T B F__law_draw
  refine fnG_D F sc__law_pick rfl rfl fun cdv A outer s H E hg hr => PSs.nox ?_
  have hu := hu64 hr
  have hu7 := hu70 hr
  exact (zCons (zRet (xIx (xV 1) (xCall (cg_fn g__law_draw hg (hr.mono (by decide)) passes0 b__law_draw) rfl m__law_draw k__law_draw (xaCons (xV 0) (xaCons (bltn len_okB rfl T.b_len (by decide +kernel) (xaCons (xV 1) xaNil)) xaNil)))))
    zNil)
theorem ok__law_menu (T : Tx K mg C_Tree C_Book C_IsTop C_InvalidGroup C_WayError c__law_spots_let_ P__law_spots_let_ c__law_spots_refused_ P__law_spots_refused_)  (B : Bx base mg C_Tree C_Book C_IsTop C_InvalidGroup C_WayError c__law_spots_let_ P__law_spots_let_ c__law_spots_refused_ P__law_spots_refused_) {f : Addr} {fd : FuncData} (F : FunD K "_law_menu" "_law_menu" (defArgs s__law_menu) (defBody s__law_menu) (defScope s__law_menu) [] [] f fd) : FnG P w K mg base CX0 1 f fd ["_law_sort"] (spF (mkG C_Tree C_Book C_IsTop C_InvalidGroup C_WayError c__law_spots_let_ P__law_spots_let_ c__law_spots_refused_ P__law_spots_refused_) K f__law_menu) := by
  refine fnG_D F sc__law_menu rfl rfl fun cdv A outer s H E hg hr => PSs.nox ?_
  have hu := hu64 hr
  have hu7 := hu70 hr
  exact (zCons (zSet (i := 1) sc__law_menu.nd rfl (Or.inl rfl) (xDisp (ppCons xStr xStr ppNil)))
    (zCons (zDput (hu1_of hu7) (xV 1) xStr xStr)
    (zCons (zDput (hu1_of hu7) (xV 1) xStr xStr)
    (zCons (zDput (hu1_of hu7) (xV 1) xStr (x2 add_ok (xDg (hu1_of hu7) (xV 1) xStr) xStr))
    (zCons (zDput (hu1_of hu7) (xV 1) xStr (x2 add_ok (xDg (hu1_of hu7) (xV 1) xStr) xStr))
    (zCons (zDput (hu1_of hu7) (xV 1) xStr (x2 add_ok (xDg (hu1_of hu7) (xV 1) xStr) xStr))
    (zCons (zDput (hu1_of hu7) (xV 1) xStr xStr)
    (zCons (zRet (xComp rfl sc__law_menu.nd (iSeq_ok (xSplit (xDg (hu1_of hu7) (xV 1) (xV 0)) xStr)) (blkOk_by (N := ["_law_sort", "_law_some", "_law_near"]) (sc := defScope s__law_menu) (own := [("_law_near", 2)]) (by decide +kernel)) rfl (tg1 2) (fun _ _ _ _ _ => pg_name (i := 2) sc__law_menu.nd rfl (Or.inl rfl)) (fun _ _ _ _ _ => ptsNil) (fun _ _ _ _ _ => (xIf (yCmp (ne_ok hu) (isB_eq true) (xV 2) xStr (nomark _)) (bltnT tuple_okB rfl T.b_tuple (by decide +kernel) (xaCons (xSplit (xV 2) xStr) xaNil)) (xTup xaNil)))))
    zNil))))))))
theorem ok__law_rules (T : Tx K mg C_Tree C_Book C_IsTop C_InvalidGroup C_WayError c__law_spots_let_ P__law_spots_let_ c__law_spots_refused_ P__law_spots_refused_)  (B : Bx base mg C_Tree C_Book C_IsTop C_InvalidGroup C_WayError c__law_spots_let_ P__law_spots_let_ c__law_spots_refused_ P__law_spots_refused_) {f : Addr} {fd : FuncData} (F : FunD K "_law_rules" "_law_rules" (defArgs s__law_rules) (defBody s__law_rules) (defScope s__law_rules) [] [] f fd) : FnG P w K mg base CX0 3 f fd ["_law_pot_here", "_law_way", "_law_most"] (spF (mkG C_Tree C_Book C_IsTop C_InvalidGroup C_WayError c__law_spots_let_ P__law_spots_let_ c__law_spots_refused_ P__law_spots_refused_) K f__law_rules) := by
  obtain ⟨a__law_pick, d__law_pick, F__law_pick, m__law_pick⟩ := T.F__law_pick
  have b__law_pick := bd__law_pick F__law_pick
  have k__law_pick := F__law_pick.kp
  have g__law_pick := ok__law_pick (P := P) (w := w) (base := base) T B F__law_pick
  obtain ⟨a__law_draw, d__law_draw, F__law_draw, m__law_draw⟩ := T.F__law_draw
  have b__law_draw := bd__law_draw F__law_draw
  have k__law_draw := F__law_draw.kp
  have g__law_draw := ok__law_draw (P := P) (w := w) (base := base) T B F__law_draw
  obtain ⟨a__law_menu, d__law_menu, F__law_menu, m__law_menu⟩ := T.F__law_menu
  have b__law_menu := bd__law_menu F__law_menu
  have k__law_menu := F__law_menu.kp
  have g__law_menu := ok__law_menu (P := P) (w := w) (base := base) T B F__law_menu
  refine fnG_D F sc__law_rules rfl rfl fun cdv A outer s H E hg hr => PSs.nox ?_
  have hu := hu64 hr
  have hu7 := hu70 hr
  exact (zCons (zSet (i := 3) sc__law_rules.nd rfl (Or.inl rfl) (xDisp (ppCons xStr (xCall (cg_fn g__law_pick hg (hr.mono (by decide)) passes0 b__law_pick) rfl m__law_pick k__law_pick (xaCons (xV 0) (xaCons (xLst (xaCons xStr (xaCons xStr (xaCons xStr (xaCons xStr xaNil))))) xaNil))) (ppCons xStr (xCmp (eq_ok hu) (xCall (cg_fn g__law_draw hg (hr.mono (by decide)) passes0 b__law_draw) rfl m__law_draw k__law_draw (xaCons (xV 0) (xaCons xInt xaNil))) xInt (nomark _)) ppNil))))
    (zCons (zDput (hu1_of hu7) (xV 3) xStr (xIf (yCmp (eq_ok hu) (isB_eq false) (xCall (cg_fn g__law_draw hg (hr.mono (by decide)) passes0 b__law_draw) rfl m__law_draw k__law_draw (xaCons (xV 0) (xaCons xInt xaNil))) xInt (nomark _)) xInt (x2 add_ok xInt (xCall (cg_fn g__law_draw hg (hr.mono (by decide)) passes0 b__law_draw) rfl m__law_draw k__law_draw (xaCons (xV 0) (xaCons (xV 2) xaNil))))))
    (zCons (zDput (hu1_of hu7) (xV 3) xStr (xCmp (eq_ok hu) (xCall (cg_fn g__law_draw hg (hr.mono (by decide)) passes0 b__law_draw) rfl m__law_draw k__law_draw (xaCons (xV 0) (xaCons xInt xaNil))) xInt (nomark _)))
    (zCons (zDput (hu1_of hu7) (xV 3) xStr (bltnT tuple_okB rfl T.b_tuple (by decide +kernel) (xaCons (xComp rfl sc__law_rules.nd (iSeq_ok (xLst (xaCons xStr (xaCons xStr (xaCons xStr (xaCons xStr xaNil)))))) (blkOk_by (N := ["_law_pot_here", "_law_way", "_law_most", "_law_found", "_law_sort"]) (sc := defScope s__law_rules) (own := [("_law_sort", 4)]) (by decide +kernel)) rfl (tg1 4) (fun _ _ _ _ _ => pg_name (i := 4) sc__law_rules.nd rfl (Or.inl rfl)) (fun _ _ _ _ _ => pts_one (yCmp gt_ok isB_gt (xCall (cg_fn g__law_draw hg (hr.mono (by decide)) passes0 b__law_draw) rfl m__law_draw k__law_draw (xaCons (xV 0) (xaCons xInt xaNil))) xInt (nomark _))) (fun _ _ _ _ _ => (xV 4))) xaNil)))
    (zCons (zDput (hu1_of hu7) (xV 3) xStr (xCall (cg_fn g__law_pick hg (hr.mono (by decide)) passes0 b__law_pick) rfl m__law_pick k__law_pick (xaCons (xV 0) (xaCons (xSl (xCall (cg_fn g__law_menu hg (hr.mono (by decide)) passes0 b__law_menu) rfl m__law_menu k__law_menu (xaCons xStr xaNil)) pNo_ok (pSome_ok (x2 add_ok xInt (x2 mul_ok xInt (bltnT int_okB rfl T.b_int (by decide +kernel) (xaCons (xCmp (eq_ok hu) (xDg (hu1_of hu7) (xV 3) xStr) xInt (nomark _)) xaNil)))))) xaNil))))
    (zCons (zDput (hu1_of hu7) (xV 3) xStr (xCall (cg_fn g__law_pick hg (hr.mono (by decide)) passes0 b__law_pick) rfl m__law_pick k__law_pick (xaCons (xV 0) (xaCons (xSl (xCall (cg_fn g__law_menu hg (hr.mono (by decide)) passes0 b__law_menu) rfl m__law_menu k__law_menu (xaCons xStr xaNil)) pNo_ok (pSome_ok (x2 add_ok xInt (x2 mul_ok xInt (xCall (cg_fn g__law_draw hg (hr.mono (by decide)) passes0 b__law_draw) rfl m__law_draw k__law_draw (xaCons (xV 0) (xaCons xInt xaNil))))))) xaNil))))
    (zCons (zDput (hu1_of hu7) (xV 3) xStr (xCall (cg_fn g__law_pick hg (hr.mono (by decide)) passes0 b__law_pick) rfl m__law_pick k__law_pick (xaCons (xV 0) (xaCons (xSl (xCall (cg_fn g__law_menu hg (hr.mono (by decide)) passes0 b__law_menu) rfl m__law_menu k__law_menu (xaCons xStr xaNil)) pNo_ok (pSome_ok (x2 add_ok xInt (x2 mul_ok xInt (xCall (cg_fn g__law_draw hg (hr.mono (by decide)) passes0 b__law_draw) rfl m__law_draw k__law_draw (xaCons (xV 0) (xaCons xInt xaNil))))))) xaNil))))
    (zCons (zDput (hu1_of hu7) (xV 3) xStr (xTup xaNil))
    (zCons (zIf (yCmp gt_ok isB_gt (xV 1) xInt (nomark _)) (zCons (zDput (hu1_of hu7) (xV 3) xStr (xCall (cg_fn g__law_pick hg (hr.mono (by decide)) passes0 b__law_pick) rfl m__law_pick k__law_pick (xaCons (xV 0) (xaCons (xSl (xCall (cg_fn g__law_menu hg (hr.mono (by decide)) passes0 b__law_menu) rfl m__law_menu k__law_menu (xaCons xStr xaNil)) pNo_ok (pSome_ok (xIf (PW.pt (wAnd (yCmp (eq_ok hu) (isB_eq false) (xV 1) xInt (nomark _)) (wOne (yB (xDg (hu1_of hu7) (xV 3) xStr))))) xInt xInt))) xaNil))))
    zNil) zNil)
    (zCons (zRet (xV 3))
    zNil))))))))))
theorem ok_is_list (T : Tx K mg C_Tree C_Book C_IsTop C_InvalidGroup C_WayError c__law_spots_let_ P__law_spots_let_ c__law_spots_refused_ P__law_spots_refused_)  (B : Bx base mg C_Tree C_Book C_IsTop C_InvalidGroup C_WayError c__law_spots_let_ P__law_spots_let_ c__law_spots_refused_ P__law_spots_refused_) {f : Addr} {fd : FuncData} (F : FunD K "is_list" "is_list" (defArgs s_is_list) (defBody s_is_list) (defScope s_is_list) [] [] f fd) : FnG P w K mg base CX0 1 f fd ["value"] (spF (mkG C_Tree C_Book C_IsTop C_InvalidGroup C_WayError c__law_spots_let_ P__law_spots_let_ c__law_spots_refused_ P__law_spots_refused_) K f_is_list) := by
  refine fnG_D F sc_is_list rfl rfl fun cdv A outer s H E hg hr => PSs.nox ?_
  have hu := hu64 hr
  have hu7 := hu70 hr
  exact (zCons (zRet (xIsi2 .list .tuple (fun z => nomatch z) (fun z => nomatch z) rfl T.b_isinstance rfl T.b_list (by decide +kernel) rfl T.b_tuple (by decide +kernel) (xV 0)))
    zNil)
theorem ok_is_integer (T : Tx K mg C_Tree C_Book C_IsTop C_InvalidGroup C_WayError c__law_spots_let_ P__law_spots_let_ c__law_spots_refused_ P__law_spots_refused_)  (B : Bx base mg C_Tree C_Book C_IsTop C_InvalidGroup C_WayError c__law_spots_let_ P__law_spots_let_ c__law_spots_refused_ P__law_spots_refused_) {f : Addr} {fd : FuncData} (F : FunD K "is_integer" "is_integer" (defArgs s_is_integer) (defBody s_is_integer) (defScope s_is_integer) [] [] f fd) : FnG P w K mg base CX0 1 f fd ["value"] (spF (mkG C_Tree C_Book C_IsTop C_InvalidGroup C_WayError c__law_spots_let_ P__law_spots_let_ c__law_spots_refused_ P__law_spots_refused_) K f_is_integer) := by
  refine fnG_D F sc_is_integer rfl rfl fun cdv A outer s H E hg hr => PSs.nox ?_
  have hu := hu64 hr
  have hu7 := hu70 hr
  exact (zCons (zRet (xAndB (xIsi1 .int (fun z => nomatch z) rfl T.b_isinstance rfl T.b_int (by decide +kernel) (xV 0)) (xOne (xNotB (xIsi1 .bool (fun z => nomatch z) rfl T.b_isinstance rfl T.b_bool (by decide +kernel) (xV 0))))))
    zNil)
theorem ok_is_count (T : Tx K mg C_Tree C_Book C_IsTop C_InvalidGroup C_WayError c__law_spots_let_ P__law_spots_let_ c__law_spots_refused_ P__law_spots_refused_)  (B : Bx base mg C_Tree C_Book C_IsTop C_InvalidGroup C_WayError c__law_spots_let_ P__law_spots_let_ c__law_spots_refused_ P__law_spots_refused_) {f : Addr} {fd : FuncData} (F : FunD K "is_count" "is_count" (defArgs s_is_count) (defBody s_is_count) (defScope s_is_count) [] [] f fd) : FnG P w K mg base CX0 2 f fd ["value"] (spF (mkG C_Tree C_Book C_IsTop C_InvalidGroup C_WayError c__law_spots_let_ P__law_spots_let_ c__law_spots_refused_ P__law_spots_refused_) K f_is_count) := by
  obtain ⟨a_is_integer, d_is_integer, F_is_integer, m_is_integer⟩ := T.F_is_integer
  have b_is_integer := bd_is_integer F_is_integer
  have k_is_integer := F_is_integer.kp
  have g_is_integer := ok_is_integer (P := P) (w := w) (base := base) T B F_is_integer
  refine fnG_D F sc_is_count rfl rfl fun cdv A outer s H E hg hr => PSs.nox ?_
  have hu := hu64 hr
  have hu7 := hu70 hr
  exact (zCons (zRet (xAndB (xCall (cg_fn g_is_integer hg (hr.mono (by decide)) passes0 b_is_integer) rfl m_is_integer k_is_integer (xaCons (xV 0) xaNil)) (xOne (xCmp ge_ok (xV 0) xInt (nomark _)))))
    zNil)
theorem ok_want_room (T : Tx K mg C_Tree C_Book C_IsTop C_InvalidGroup C_WayError c__law_spots_let_ P__law_spots_let_ c__law_spots_refused_ P__law_spots_refused_)  (B : Bx base mg C_Tree C_Book C_IsTop C_InvalidGroup C_WayError c__law_spots_let_ P__law_spots_let_ c__law_spots_refused_ P__law_spots_refused_) {f : Addr} {fd : FuncData} (F : FunD K "want_room" "want_room" (defArgs s_want_room) (defBody s_want_room) (defScope s_want_room) [] [] f fd) : FnG P w K mg base CX0 1 f fd ["many"] (spF (mkG C_Tree C_Book C_IsTop C_InvalidGroup C_WayError c__law_spots_let_ P__law_spots_let_ c__law_spots_refused_ P__law_spots_refused_) K f_want_room) := by
  obtain ⟨t_MOST_GROUPS, c_MOST_GROUPS⟩ := T.g_MOST_GROUPS
  refine fnG_D F sc_want_room rfl rfl fun cdv A outer s H E hg hr => PSs.nox ?_
  have hu := hu64 hr
  have hu7 := hu70 hr
  exact (zCons (zIf (yCmp gt_ok isB_gt (xV 0) (xGlob (v := .int 200) rfl c_MOST_GROUPS ⟨_, rfl⟩ (fun _ _ _ => .int _)) (nomark _)) (zCons zNever
    zNil) zNil)
    zNil)
theorem ok_want_parents (T : Tx K mg C_Tree C_Book C_IsTop C_InvalidGroup C_WayError c__law_spots_let_ P__law_spots_let_ c__law_spots_refused_ P__law_spots_refused_)  (B : Bx base mg C_Tree C_Book C_IsTop C_InvalidGroup C_WayError c__law_spots_let_ P__law_spots_let_ c__law_spots_refused_ P__law_spots_refused_) {f : Addr} {fd : FuncData} (F : FunD K "want_parents" "want_parents" (defArgs s_want_parents) (defBody s_want_parents) (defScope s_want_parents) [] [] f fd) : FnG P w K mg base CX0 3 f fd ["value"] (spF (mkG C_Tree C_Book C_IsTop C_InvalidGroup C_WayError c__law_spots_let_ P__law_spots_let_ c__law_spots_refused_ P__law_spots_refused_) K f_want_parents) := by
  obtain ⟨a_is_list, d_is_list, F_is_list, m_is_list⟩ := T.F_is_list
  have b_is_list := bd_is_list F_is_list
  have k_is_list := F_is_list.kp
  have g_is_list := ok_is_list (P := P) (w := w) (base := base) T B F_is_list
  obtain ⟨a_is_count, d_is_count, F_is_count, m_is_count⟩ := T.F_is_count
  have b_is_count := bd_is_count F_is_count
  have k_is_count := F_is_count.kp
  have g_is_count := ok_is_count (P := P) (w := w) (base := base) T B F_is_count
  obtain ⟨a_want_room, d_want_room, F_want_room, m_want_room⟩ := T.F_want_room
  have b_want_room := bd_want_room F_want_room
  have k_want_room := F_want_room.kp
  have g_want_room := ok_want_room (P := P) (w := w) (base := base) T B F_want_room
  refine fnG_D F sc_want_parents rfl rfl fun cdv A outer s H E hg hr => PSs.nox ?_
  have hu := hu64 hr
  have hu7 := hu70 hr
  exact (zCons (zIf (yNot (yB (xCall (cg_fn g_is_list hg (hr.mono (by decide)) passes0 b_is_list) rfl m_is_list k_is_list (xaCons (xV 0) xaNil)))) (zCons zNever
    zNil) zNil)
    (zCons (zFor PassesOwn.never rfl (iEnum_ok rfl T.b_enumerate (xV 0)) (gT_ok rfl (gsCons_ok (gName_ok (i := 1) sc_want_parents.nd rfl (Or.inl rfl)) (gsCons_ok (gName_ok (i := 2) sc_want_parents.nd rfl (Or.inl rfl)) gsNil_ok))) (zCons (zIf (PW.pt (wOr (yNot (yB (xCall (cg_fn g_is_count hg (hr.mono (by decide)) passes0 b_is_count) rfl m_is_count k_is_count (xaCons (xV 2) xaNil)))) (wOneO (yCmp gt_ok isB_gt (xV 2) (xV 1) (nomark _))))) (zCons zNever
    zNil) zNil)
    zNil))
    (zCons (zE (xCall (cg_fn g_want_room hg (hr.mono (by decide)) passes0 b_want_room) rfl m_want_room k_want_room (xaCons (x2 add_ok (bltn len_okB rfl T.b_len (by decide +kernel) (xaCons (xV 0) xaNil)) xInt) xaNil)))
    zNil)))
theorem ok_children_of (T : Tx K mg C_Tree C_Book C_IsTop C_InvalidGroup C_WayError c__law_spots_let_ P__law_spots_let_ c__law_spots_refused_ P__law_spots_refused_)  (B : Bx base mg C_Tree C_Book C_IsTop C_InvalidGroup C_WayError c__law_spots_let_ P__law_spots_let_ c__law_spots_refused_ P__law_spots_refused_) {f : Addr} {fd : FuncData} (F : FunD K "children_of" "children_of" (defArgs s_children_of) (defBody s_children_of) (defScope s_children_of) [] [] f fd) : FnG P w K mg base CX0 1 f fd ["parents", "group"] (spF (mkG C_Tree C_Book C_IsTop C_InvalidGroup C_WayError c__law_spots_let_ P__law_spots_let_ c__law_spots_refused_ P__law_spots_refused_) K f_children_of) := by
  refine fnG_D F sc_children_of rfl rfl fun cdv A outer s H E hg hr => PSs.nox ?_
  have hu := hu64 hr
  have hu7 := hu70 hr
  exact (zCons (zRet (xComp rfl sc_children_of.nd (iEnumK_ok (by decide) (by decide) rfl T.b_enumerate (xV 0)) (blkOk_by (N := ["parents", "group", "child", "parent"]) (sc := defScope s_children_of) (own := [("child", 2), ("parent", 3)]) (by decide +kernel)) rfl (tg2 2 3 (by decide)) (fun _ _ _ _ _ => pg_tup rfl (pgs_cons (pg_name (i := 2) sc_children_of.nd rfl (Or.inl rfl)) (pgs_cons (pg_name (i := 3) sc_children_of.nd rfl (Or.inl rfl)) pgs_nil))) (fun _ _ _ _ _ => pts_one (yCmp (eq_ok hu) (isB_eq false) (xV 3) (xV 1) (nomark _))) (fun _ _ _ _ _ => (xV 2))))
    zNil)
theorem ok_want_struck (T : Tx K mg C_Tree C_Book C_IsTop C_InvalidGroup C_WayError c__law_spots_let_ P__law_spots_let_ c__law_spots_refused_ P__law_spots_refused_)  (B : Bx base mg C_Tree C_Book C_IsTop C_InvalidGroup C_WayError c__law_spots_let_ P__law_spots_let_ c__law_spots_refused_ P__law_spots_refused_) {f : Addr} {fd : FuncData} (F : FunD K "want_struck" "want_struck" (defArgs s_want_struck) (defBody s_want_struck) (defScope s_want_struck) [] [] f fd) : FnG P w K mg base CX0 2 f fd ["parents", "value"] (spF (mkG C_Tree C_Book C_IsTop C_InvalidGroup C_WayError c__law_spots_let_ P__law_spots_let_ c__law_spots_refused_ P__law_spots_refused_) K f_want_struck) := by
  obtain ⟨a_is_list, d_is_list, F_is_list, m_is_list⟩ := T.F_is_list
  have b_is_list := bd_is_list F_is_list
  have k_is_list := F_is_list.kp
  have g_is_list := ok_is_list (P := P) (w := w) (base := base) T B F_is_list
  obtain ⟨a_is_integer, d_is_integer, F_is_integer, m_is_integer⟩ := T.F_is_integer
  have b_is_integer := bd_is_integer F_is_integer
  have k_is_integer := F_is_integer.kp
  have g_is_integer := ok_is_integer (P := P) (w := w) (base := base) T B F_is_integer
  obtain ⟨a_children_of, d_children_of, F_children_of, m_children_of⟩ := T.F_children_of
  have b_children_of := bd_children_of F_children_of
  have k_children_of := F_children_of.kp
  have g_children_of := ok_children_of (P := P) (w := w) (base := base) T B F_children_of
  obtain ⟨t_TOP, c_TOP⟩ := T.g_TOP
  refine fnG_D F sc_want_struck rfl rfl fun cdv A outer s H E hg hr => PSs.nox ?_
  have hu := hu64 hr
  have hu7 := hu70 hr
  exact (zCons (zIf (yNot (yB (xCall (cg_fn g_is_list hg (hr.mono (by decide)) passes0 b_is_list) rfl m_is_list k_is_list (xaCons (xV 1) xaNil)))) (zCons zNever
    zNil) zNil)
    (zCons (zFor PassesOwn.never rfl (iEnum_ok rfl T.b_enumerate (xV 1)) (gT_ok rfl (gsCons_ok (gName_ok (i := 2) sc_want_struck.nd rfl (Or.inl rfl)) (gsCons_ok (gName_ok (i := 3) sc_want_struck.nd rfl (Or.inl rfl)) gsNil_ok))) (zCons (zIf (PW.pt (wOr (yNot (yB (xCall (cg_fn g_is_integer hg (hr.mono (by decide)) passes0 b_is_integer) rfl m_is_integer k_is_integer (xaCons (xV 3) xaNil)))) (wOr (yNot (yChain lt_ok le_ok isB_le (xGlob (v := .int 0) rfl c_TOP ⟨_, rfl⟩ (fun _ _ _ => .int _)) (xV 3) (bltn len_okB rfl T.b_len (by decide +kernel) (xaCons (xV 0) xaNil)))) (wOneO (yCmp in_ok (isB_in false) (xV 3) (xSl (xV 1) pNo_ok (pSome_ok (xV 2))) rfl))))) (zCons zNever
    zNil) zNil)
    zNil))
    (zCons (zFor PassesOwn.never rfl (iEnum_ok rfl T.b_enumerate (xV 1)) (gT_ok rfl (gsCons_ok (gName_ok (i := 2) sc_want_struck.nd rfl (Or.inl rfl)) (gsCons_ok (gName_ok (i := 3) sc_want_struck.nd rfl (Or.inl rfl)) gsNil_ok))) (zCons (zIf (yNot (yB (bltn (all_okB rfl) rfl T.b_all (by decide +kernel) (xaCons (xComp rfl sc_want_struck.nd (iSeq_ok (xCall (cg_fn g_children_of hg (hr.mono (by decide)) passes0 b_children_of) rfl m_children_of k_children_of (xaCons (xV 0) (xaCons (xV 3) xaNil)))) (blkOk_by (N := ["parents", "value", "position", "group", "child"]) (sc := defScope s_want_struck) (own := [("child", 4)]) (by decide +kernel)) rfl (tg1 4) (fun _ _ _ _ _ => pg_name (i := 4) sc_want_struck.nd rfl (Or.inl rfl)) (fun _ _ _ _ _ => ptsNil) (fun _ _ _ _ _ => (xCmp in_ok (xV 4) (xV 1) rfl))) xaNil)))) (zCons zNever
    zNil) zNil)
    zNil))
    zNil)))
theorem ok_Tree___init__ (T : Tx K mg C_Tree C_Book C_IsTop C_InvalidGroup C_WayError c__law_spots_let_ P__law_spots_let_ c__law_spots_refused_ P__law_spots_refused_)  (B : Bx base mg C_Tree C_Book C_IsTop C_InvalidGroup C_WayError c__law_spots_let_ P__law_spots_let_ c__law_spots_refused_ P__law_spots_refused_) {f z0 z1 : Addr} {fd : FuncData} (F : FunD K "__init__" "Tree.__init__" (defArgs s_Tree___init__) (defBody s_Tree___init__) (defScope s_Tree___init__) [V.ref z0, V.ref z1] [] f fd) : FnG P w K mg base CX0 4 f fd ["self", "parents", "struck"] (spF (mkG C_Tree C_Book C_IsTop C_InvalidGroup C_WayError c__law_spots_let_ P__law_spots_let_ c__law_spots_refused_ P__law_spots_refused_) K f_Tree___init__) := by
  obtain ⟨a_want_parents, d_want_parents, F_want_parents, m_want_parents⟩ := T.F_want_parents
  have b_want_parents := bd_want_parents F_want_parents
  have k_want_parents := F_want_parents.kp
  have g_want_parents := ok_want_parents (P := P) (w := w) (base := base) T B F_want_parents
  obtain ⟨a_want_struck, d_want_struck, F_want_struck, m_want_struck⟩ := T.F_want_struck
  have b_want_struck := bd_want_struck F_want_struck
  have k_want_struck := F_want_struck.kp
  have g_want_struck := ok_want_struck (P := P) (w := w) (base := base) T B F_want_struck
  refine fnG_D F sc_Tree___init__ rfl rfl fun cdv A outer s H E hg hr => PSs.nox ?_
  have hu := hu64 hr
  have hu7 := hu70 hr
  exact (zCons (zE (xCall (cg_fn g_want_parents hg (hr.mono (by decide)) passes0 b_want_parents) rfl m_want_parents k_want_parents (xaCons (xV 1) xaNil)))
    (zCons (zE (xCall (cg_fn g_want_struck hg (hr.mono (by decide)) passes0 b_want_struck) rfl m_want_struck k_want_struck (xaCons (xV 1) (xaCons (xV 2) xaNil))))
    (zCons (zFld (c := 0) (i := 0) (by show 0 < 9; decide) T.cls_Tree T.na_own_parents (xV 0) (bltnT tuple_okB rfl T.b_tuple (by decide +kernel) (xaCons (xV 1) xaNil)))
    (zCons (zFld (c := 0) (i := 1) (by show 1 < 9; decide) T.cls_Tree T.na_own_struck (xV 0) (bltnT tuple_okB rfl T.b_tuple (by decide +kernel) (xaCons (bltn sorted_okB rfl T.b_sorted (by decide +kernel) (xaCons (xV 2) xaNil)) xaNil)))
    zNil))))
theorem ok_are_words (T : Tx K mg C_Tree C_Book C_IsTop C_InvalidGroup C_WayError c__law_spots_let_ P__law_spots_let_ c__law_spots_refused_ P__law_spots_refused_)  (B : Bx base mg C_Tree C_Book C_IsTop C_InvalidGroup C_WayError c__law_spots_let_ P__law_spots_let_ c__law_spots_refused_ P__law_spots_refused_) {f : Addr} {fd : FuncData} (F : FunD K "are_words" "are_words" (defArgs s_are_words) (defBody s_are_words) (defScope s_are_words) [] [] f fd) : FnG P w K mg base CX0 1 f fd ["value", "known"] (spF (mkG C_Tree C_Book C_IsTop C_InvalidGroup C_WayError c__law_spots_let_ P__law_spots_let_ c__law_spots_refused_ P__law_spots_refused_) K f_are_words) := by
  refine fnG_D F sc_are_words rfl rfl fun cdv A outer s H E hg hr => PSs.nox ?_
  have hu := hu64 hr
  have hu7 := hu70 hr
  exact (zCons (zIf (PW.pt (wOr (yNot (yB (xIsi1 .tuple (fun z => nomatch z) rfl T.b_isinstance rfl T.b_tuple (by decide +kernel) (xV 0)))) (wOneO (yNot (yB (bltn (all_okB rfl) rfl T.b_all (by decide +kernel) (xaCons (xComp rfl sc_are_words.nd (iSeq_ok (xV 0)) (blkOk_by (N := ["value", "known", "place", "word"]) (sc := defScope s_are_words) (own := [("word", 3)]) (by decide +kernel)) rfl (tg1 3) (fun _ _ _ _ _ => pg_name (i := 3) sc_are_words.nd rfl (Or.inl rfl)) (fun _ _ _ _ _ => ptsNil) (fun _ _ _ _ _ => (xAndB (xIsi1 .str (fun z => nomatch z) rfl T.b_isinstance rfl T.b_str (by decide +kernel) (xV 3)) (xOne (xCmp in_ok (xV 3) (xV 1) rfl))))) xaNil))))))) (zCons (zRet xBl)
    zNil) zNil)
    (zCons (zRet (bltn (all_okB rfl) rfl T.b_all (by decide +kernel) (xaCons (xComp rfl sc_are_words.nd (iEnum_ok rfl T.b_enumerate (xV 0)) (blkOk_by (N := ["value", "known", "place", "word"]) (sc := defScope s_are_words) (own := [("place", 2), ("word", 3)]) (by decide +kernel)) rfl (tg2 2 3 (by decide)) (fun _ _ _ _ _ => pg_tup rfl (pgs_cons (pg_name (i := 2) sc_are_words.nd rfl (Or.inl rfl)) (pgs_cons (pg_name (i := 3) sc_are_words.nd rfl (Or.inl rfl)) pgs_nil))) (fun _ _ _ _ _ => ptsNil) (fun _ _ _ _ _ => (xCmp notin_ok (xV 3) (xSl (xV 0) pNo_ok (pSome_ok (xV 2))) rfl))) xaNil)))
    zNil))
theorem ok_are_tests_ahead (T : Tx K mg C_Tree C_Book C_IsTop C_InvalidGroup C_WayError c__law_spots_let_ P__law_spots_let_ c__law_spots_refused_ P__law_spots_refused_)  (B : Bx base mg C_Tree C_Book C_IsTop C_InvalidGroup C_WayError c__law_spots_let_ P__law_spots_let_ c__law_spots_refused_ P__law_spots_refused_) {f : Addr} {fd : FuncData} (F : FunD K "are_tests_ahead" "are_tests_ahead" (defArgs s_are_tests_ahead) (defBody s_are_tests_ahead) (defScope s_are_tests_ahead) [] [] f fd) : FnG P w K mg base CX0 1 f fd ["row", "word"] (spF (mkG C_Tree C_Book C_IsTop C_InvalidGroup C_WayError c__law_spots_let_ P__law_spots_let_ c__law_spots_refused_ P__law_spots_refused_) K f_are_tests_ahead) := by
  obtain ⟨a_TESTS, c_TESTS, r_TESTS⟩ := T.g_TESTS
  refine fnG_D F sc_are_tests_ahead rfl rfl fun cdv A outer s H E hg hr => PSs.nox ?_
  have hu := hu64 hr
  have hu7 := hu70 hr
  exact (zCons (zRet (xOrB (xCmp notin_ok (xV 1) (xV 0) rfl) (xOne (bltn (all_okB rfl) rfl T.b_all (by decide +kernel) (xaCons (xComp rfl sc_are_tests_ahead.nd (iSeq_ok (xGlob (v := .ref a_TESTS) rfl c_TESTS rfl r_TESTS)) (blkOk_by (N := ["row", "word", "test"]) (sc := defScope s_are_tests_ahead) (own := [("test", 2)]) (by decide +kernel)) rfl (tg1 2) (fun _ _ _ _ _ => pg_name (i := 2) sc_are_tests_ahead.nd rfl (Or.inl rfl)) (fun _ _ _ _ _ => pts_one (yCmp in_ok (isB_in false) (xV 2) (xV 0) rfl)) (fun _ _ _ _ _ => (xCmp lt_ok (xTupIx (xV 0) (xaCons (xV 2) xaNil)) (xTupIx (xV 0) (xaCons (xV 1) xaNil)) (nomark _)))) xaNil)))))
    zNil)
theorem ok_is_take (T : Tx K mg C_Tree C_Book C_IsTop C_InvalidGroup C_WayError c__law_spots_let_ P__law_spots_let_ c__law_spots_refused_ P__law_spots_refused_)  (B : Bx base mg C_Tree C_Book C_IsTop C_InvalidGroup C_WayError c__law_spots_let_ P__law_spots_let_ c__law_spots_refused_ P__law_spots_refused_) {f : Addr} {fd : FuncData} (F : FunD K "is_take" "is_take" (defArgs s_is_take) (defBody s_is_take) (defScope s_is_take) [] [] f fd) : FnG P w K mg base CX0 2 f fd ["value"] (spF (mkG C_Tree C_Book C_IsTop C_InvalidGroup C_WayError c__law_spots_let_ P__law_spots_let_ c__law_spots_refused_ P__law_spots_refused_) K f_is_take) := by
  obtain ⟨a_are_words, d_are_words, F_are_words, m_are_words⟩ := T.F_are_words
  have b_are_words := bd_are_words F_are_words
  have k_are_words := F_are_words.kp
  have g_are_words := ok_are_words (P := P) (w := w) (base := base) T B F_are_words
  obtain ⟨a_are_tests_ahead, d_are_tests_ahead, F_are_tests_ahead, m_are_tests_ahead⟩ := T.F_are_tests_ahead
  have b_are_tests_ahead := bd_are_tests_ahead F_are_tests_ahead
  have k_are_tests_ahead := F_are_tests_ahead.kp
  have g_are_tests_ahead := ok_are_tests_ahead (P := P) (w := w) (base := base) T B F_are_tests_ahead
  obtain ⟨t_ADD, c_ADD⟩ := T.g_ADD
  obtain ⟨t_LIVE, c_LIVE⟩ := T.g_LIVE
  obtain ⟨t_LOOK, c_LOOK⟩ := T.g_LOOK
  obtain ⟨a_TAKE_WORDS, c_TAKE_WORDS, r_TAKE_WORDS⟩ := T.g_TAKE_WORDS
  obtain ⟨t_TRY, c_TRY⟩ := T.g_TRY
  refine fnG_D F sc_is_take rfl rfl fun cdv A outer s H E hg hr => PSs.nox ?_
  have hu := hu64 hr
  have hu7 := hu70 hr
  exact (zCons (zIf (PW.pt (wOr (yNot (yB (xCall (cg_fn g_are_words hg (hr.mono (by decide)) passes0 b_are_words) rfl m_are_words k_are_words (xaCons (xV 0) (xaCons (xGlob (v := .ref a_TAKE_WORDS) rfl c_TAKE_WORDS rfl r_TAKE_WORDS) xaNil))))) (wOr (yCmp notin_ok (isB_in true) (xGlob (v := .str "live") rfl c_LIVE ⟨_, rfl⟩ (fun _ _ _ => .str _)) (xV 0) rfl) (wOneO (yNot (yB (xCall (cg_fn g_are_tests_ahead hg (hr.mono (by decide)) passes0 b_are_tests_ahead) rfl m_are_tests_ahead k_are_tests_ahead (xaCons (xV 0) (xaCons (xGlob (v := .str "live") rfl c_LIVE ⟨_, rfl⟩ (fun _ _ _ => .str _)) xaNil))))))))) (zCons (zRet xBl)
    zNil) zNil)
    (zCons (zRet (xIf (yCmp notin_ok (isB_in true) (xGlob (v := .str "try") rfl c_TRY ⟨_, rfl⟩ (fun _ _ _ => .str _)) (xV 0) rfl) (xCmp in_ok (xGlob (v := .str "add") rfl c_ADD ⟨_, rfl⟩ (fun _ _ _ => .str _)) (xV 0) rfl) (xAndB (xCmp notin_ok (xGlob (v := .str "look") rfl c_LOOK ⟨_, rfl⟩ (fun _ _ _ => .str _)) (xV 0) rfl) (xOne (xCmp notin_ok (xGlob (v := .str "add") rfl c_ADD ⟨_, rfl⟩ (fun _ _ _ => .str _)) (xV 0) rfl)))))
    zNil))
theorem ok_is_behind (T : Tx K mg C_Tree C_Book C_IsTop C_InvalidGroup C_WayError c__law_spots_let_ P__law_spots_let_ c__law_spots_refused_ P__law_spots_refused_)  (B : Bx base mg C_Tree C_Book C_IsTop C_InvalidGroup C_WayError c__law_spots_let_ P__law_spots_let_ c__law_spots_refused_ P__law_spots_refused_) {f : Addr} {fd : FuncData} (F : FunD K "is_behind" "is_behind" (defArgs s_is_behind) (defBody s_is_behind) (defScope s_is_behind) [] [] f fd) : FnG P w K mg base CX0 1 f fd ["row", "word", "other"] (spF (mkG C_Tree C_Book C_IsTop C_InvalidGroup C_WayError c__law_spots_let_ P__law_spots_let_ c__law_spots_refused_ P__law_spots_refused_) K f_is_behind) := by
  refine fnG_D F sc_is_behind rfl rfl fun cdv A outer s H E hg hr => PSs.nox ?_
  have hu := hu64 hr
  have hu7 := hu70 hr
  exact (zCons (zRet (xOrB (xCmp notin_ok (xV 1) (xV 0) rfl) (xOne (xAndB (xCmp in_ok (xV 2) (xV 0) rfl) (xOne (xCmp lt_ok (xTupIx (xV 0) (xaCons (xV 2) xaNil)) (xTupIx (xV 0) (xaCons (xV 1) xaNil)) (nomark _)))))))
    zNil)
theorem ok_is_give (T : Tx K mg C_Tree C_Book C_IsTop C_InvalidGroup C_WayError c__law_spots_let_ P__law_spots_let_ c__law_spots_refused_ P__law_spots_refused_)  (B : Bx base mg C_Tree C_Book C_IsTop C_InvalidGroup C_WayError c__law_spots_let_ P__law_spots_let_ c__law_spots_refused_ P__law_spots_refused_) {f : Addr} {fd : FuncData} (F : FunD K "is_give" "is_give" (defArgs s_is_give) (defBody s_is_give) (defScope s_is_give) [] [] f fd) : FnG P w K mg base CX0 2 f fd ["value"] (spF (mkG C_Tree C_Book C_IsTop C_InvalidGroup C_WayError c__law_spots_let_ P__law_spots_let_ c__law_spots_refused_ P__law_spots_refused_) K f_is_give) := by
  obtain ⟨a_are_words, d_are_words, F_are_words, m_are_words⟩ := T.F_are_words
  have b_are_words := bd_are_words F_are_words
  have k_are_words := F_are_words.kp
  have g_are_words := ok_are_words (P := P) (w := w) (base := base) T B F_are_words
  obtain ⟨a_is_behind, d_is_behind, F_is_behind, m_is_behind⟩ := T.F_is_behind
  have b_is_behind := bd_is_behind F_is_behind
  have k_is_behind := F_is_behind.kp
  have g_is_behind := ok_is_behind (P := P) (w := w) (base := base) T B F_is_behind
  obtain ⟨t_END, c_END⟩ := T.g_END
  obtain ⟨a_GIVE_WORDS, c_GIVE_WORDS, r_GIVE_WORDS⟩ := T.g_GIVE_WORDS
  obtain ⟨t_HOME, c_HOME⟩ := T.g_HOME
  obtain ⟨t_OFF, c_OFF⟩ := T.g_OFF
  refine fnG_D F sc_is_give rfl rfl fun cdv A outer s H E hg hr => PSs.nox ?_
  have hu := hu64 hr
  have hu7 := hu70 hr
  exact (zCons (zRet (xAndB (xCall (cg_fn g_are_words hg (hr.mono (by decide)) passes0 b_are_words) rfl m_are_words k_are_words (xaCons (xV 0) (xaCons (xGlob (v := .ref a_GIVE_WORDS) rfl c_GIVE_WORDS rfl r_GIVE_WORDS) xaNil))) (xAndB (xCmp in_ok (xGlob (v := .str "end") rfl c_END ⟨_, rfl⟩ (fun _ _ _ => .str _)) (xV 0) rfl) (xOne (xCall (cg_fn g_is_behind hg (hr.mono (by decide)) passes0 b_is_behind) rfl m_is_behind k_is_behind (xaCons (xV 0) (xaCons (xGlob (v := .str "off") rfl c_OFF ⟨_, rfl⟩ (fun _ _ _ => .str _)) (xaCons (xGlob (v := .str "home") rfl c_HOME ⟨_, rfl⟩ (fun _ _ _ => .str _)) xaNil))))))))
    zNil)
theorem ok_is_move (T : Tx K mg C_Tree C_Book C_IsTop C_InvalidGroup C_WayError c__law_spots_let_ P__law_spots_let_ c__law_spots_refused_ P__law_spots_refused_)  (B : Bx base mg C_Tree C_Book C_IsTop C_InvalidGroup C_WayError c__law_spots_let_ P__law_spots_let_ c__law_spots_refused_ P__law_spots_refused_) {f : Addr} {fd : FuncData} (F : FunD K "is_move" "is_move" (defArgs s_is_move) (defBody s_is_move) (defScope s_is_move) [] [] f fd) : FnG P w K mg base CX0 2 f fd ["value"] (spF (mkG C_Tree C_Book C_IsTop C_InvalidGroup C_WayError c__law_spots_let_ P__law_spots_let_ c__law_spots_refused_ P__law_spots_refused_) K f_is_move) := by
  obtain ⟨a_are_words, d_are_words, F_are_words, m_are_words⟩ := T.F_are_words
  have b_are_words := bd_are_words F_are_words
  have k_are_words := F_are_words.kp
  have g_are_words := ok_are_words (P := P) (w := w) (base := base) T B F_are_words
  obtain ⟨a_is_behind, d_is_behind, F_is_behind, m_is_behind⟩ := T.F_is_behind
  have b_is_behind := bd_is_behind F_is_behind
  have k_is_behind := F_is_behind.kp
  have g_is_behind := ok_is_behind (P := P) (w := w) (base := base) T B F_is_behind
  obtain ⟨a_are_tests_ahead, d_are_tests_ahead, F_are_tests_ahead, m_are_tests_ahead⟩ := T.F_are_tests_ahead
  have b_are_tests_ahead := bd_are_tests_ahead F_are_tests_ahead
  have k_are_tests_ahead := F_are_tests_ahead.kp
  have g_are_tests_ahead := ok_are_tests_ahead (P := P) (w := w) (base := base) T B F_are_tests_ahead
  obtain ⟨t_ADD, c_ADD⟩ := T.g_ADD
  obtain ⟨t_HOME, c_HOME⟩ := T.g_HOME
  obtain ⟨t_LOOK, c_LOOK⟩ := T.g_LOOK
  obtain ⟨a_MOVE_WORDS, c_MOVE_WORDS, r_MOVE_WORDS⟩ := T.g_MOVE_WORDS
  obtain ⟨t_OFF, c_OFF⟩ := T.g_OFF
  obtain ⟨t_SET, c_SET⟩ := T.g_SET
  obtain ⟨t_TRY, c_TRY⟩ := T.g_TRY
  refine fnG_D F sc_is_move rfl rfl fun cdv A outer s H E hg hr => PSs.nox ?_
  have hu := hu64 hr
  have hu7 := hu70 hr
  exact (zCons (zIf (yNot (yB (xCall (cg_fn g_are_words hg (hr.mono (by decide)) passes0 b_are_words) rfl m_are_words k_are_words (xaCons (xV 0) (xaCons (xGlob (v := .ref a_MOVE_WORDS) rfl c_MOVE_WORDS rfl r_MOVE_WORDS) xaNil))))) (zCons (zRet xBl)
    zNil) zNil)
    (zCons (zIf (yCmp (eq_ok hu) (isB_eq false) (bltn len_okB rfl T.b_len (by decide +kernel) (xaCons (xV 0) xaNil)) xInt (nomark _)) (zCons (zRet xBl)
    zNil) zNil)
    (zCons (zIf (PW.pt (wOr (yCmp notin_ok (isB_in true) (xGlob (v := .str "set") rfl c_SET ⟨_, rfl⟩ (fun _ _ _ => .str _)) (xV 0) rfl) (wOneO (PW.pt (wAnd (yCmp in_ok (isB_in false) (xGlob (v := .str "try") rfl c_TRY ⟨_, rfl⟩ (fun _ _ _ => .str _)) (xV 0) rfl) (wOne (PW.pt (wOr (yCmp in_ok (isB_in false) (xGlob (v := .str "look") rfl c_LOOK ⟨_, rfl⟩ (fun _ _ _ => .str _)) (xV 0) rfl) (wOneO (yCmp in_ok (isB_in false) (xGlob (v := .str "add") rfl c_ADD ⟨_, rfl⟩ (fun _ _ _ => .str _)) (xV 0) rfl)))))))))) (zCons (zRet xBl)
    zNil) zNil)
    (zCons (zRet (xAndB (xCall (cg_fn g_is_behind hg (hr.mono (by decide)) passes0 b_is_behind) rfl m_is_behind k_is_behind (xaCons (xV 0) (xaCons (xGlob (v := .str "off") rfl c_OFF ⟨_, rfl⟩ (fun _ _ _ => .str _)) (xaCons (xGlob (v := .str "home") rfl c_HOME ⟨_, rfl⟩ (fun _ _ _ => .str _)) xaNil)))) (xAndB (xCall (cg_fn g_are_tests_ahead hg (hr.mono (by decide)) passes0 b_are_tests_ahead) rfl m_are_tests_ahead k_are_tests_ahead (xaCons (xV 0) (xaCons (xGlob (v := .str "set") rfl c_SET ⟨_, rfl⟩ (fun _ _ _ => .str _)) xaNil))) (xOne (xCall (cg_fn g_are_tests_ahead hg (hr.mono (by decide)) passes0 b_are_tests_ahead) rfl m_are_tests_ahead k_are_tests_ahead (xaCons (xV 0) (xaCons (xGlob (v := .str "off") rfl c_OFF ⟨_, rfl⟩ (fun _ _ _ => .str _)) xaNil)))))))
    zNil))))
theorem ok_is_lift (T : Tx K mg C_Tree C_Book C_IsTop C_InvalidGroup C_WayError c__law_spots_let_ P__law_spots_let_ c__law_spots_refused_ P__law_spots_refused_)  (B : Bx base mg C_Tree C_Book C_IsTop C_InvalidGroup C_WayError c__law_spots_let_ P__law_spots_let_ c__law_spots_refused_ P__law_spots_refused_) {f : Addr} {fd : FuncData} (F : FunD K "is_lift" "is_lift" (defArgs s_is_lift) (defBody s_is_lift) (defScope s_is_lift) [] [] f fd) : FnG P w K mg base CX0 2 f fd ["value"] (spF (mkG C_Tree C_Book C_IsTop C_InvalidGroup C_WayError c__law_spots_let_ P__law_spots_let_ c__law_spots_refused_ P__law_spots_refused_) K f_is_lift) := by
  obtain ⟨a_are_words, d_are_words, F_are_words, m_are_words⟩ := T.F_are_words
  have b_are_words := bd_are_words F_are_words
  have k_are_words := F_are_words.kp
  have g_are_words := ok_are_words (P := P) (w := w) (base := base) T B F_are_words
  obtain ⟨t_BOTH, c_BOTH⟩ := T.g_BOTH
  obtain ⟨a_LIFTS, c_LIFTS, r_LIFTS⟩ := T.g_LIFTS
  obtain ⟨t_OFF, c_OFF⟩ := T.g_OFF
  obtain ⟨t_SET, c_SET⟩ := T.g_SET
  refine fnG_D F sc_is_lift rfl rfl fun cdv A outer s H E hg hr => PSs.nox ?_
  have hu := hu64 hr
  have hu7 := hu70 hr
  exact (zCons (zRet (xAndB (xCall (cg_fn g_are_words hg (hr.mono (by decide)) passes0 b_are_words) rfl m_are_words k_are_words (xaCons (xV 0) (xaCons (xTup (xaCons (xGlob (v := .str "set") rfl c_SET ⟨_, rfl⟩ (fun _ _ _ => .str _)) (xaCons (xGlob (v := .str "off") rfl c_OFF ⟨_, rfl⟩ (fun _ _ _ => .str _)) (xaCons (xGlob (v := .str "both") rfl c_BOTH ⟨_, rfl⟩ (fun _ _ _ => .str _)) xaNil)))) xaNil))) (xOne (xCmp (inDp_ok hu7) (xV 0) (xGlob (v := .ref a_LIFTS) rfl c_LIFTS rfl r_LIFTS) rfl))))
    zNil)
theorem ok_is_row (T : Tx K mg C_Tree C_Book C_IsTop C_InvalidGroup C_WayError c__law_spots_let_ P__law_spots_let_ c__law_spots_refused_ P__law_spots_refused_)  (B : Bx base mg C_Tree C_Book C_IsTop C_InvalidGroup C_WayError c__law_spots_let_ P__law_spots_let_ c__law_spots_refused_ P__law_spots_refused_) {f : Addr} {fd : FuncData} (F : FunD K "is_row" "is_row" (defArgs s_is_row) (defBody s_is_row) (defScope s_is_row) [] [] f fd) : FnG P w K mg base CX0 3 f fd ["kind", "value"] (spF (mkG C_Tree C_Book C_IsTop C_InvalidGroup C_WayError c__law_spots_let_ P__law_spots_let_ c__law_spots_refused_ P__law_spots_refused_) K f_is_row) := by
  obtain ⟨a_is_take, d_is_take, F_is_take, m_is_take⟩ := T.F_is_take
  have b_is_take := bd_is_take F_is_take
  have k_is_take := F_is_take.kp
  have g_is_take := ok_is_take (P := P) (w := w) (base := base) T B F_is_take
  obtain ⟨a_is_give, d_is_give, F_is_give, m_is_give⟩ := T.F_is_give
  have b_is_give := bd_is_give F_is_give
  have k_is_give := F_is_give.kp
  have g_is_give := ok_is_give (P := P) (w := w) (base := base) T B F_is_give
  obtain ⟨a_is_move, d_is_move, F_is_move, m_is_move⟩ := T.F_is_move
  have b_is_move := bd_is_move F_is_move
  have k_is_move := F_is_move.kp
  have g_is_move := ok_is_move (P := P) (w := w) (base := base) T B F_is_move
  obtain ⟨a_is_lift, d_is_lift, F_is_lift, m_is_lift⟩ := T.F_is_lift
  have b_is_lift := bd_is_lift F_is_lift
  have k_is_lift := F_is_lift.kp
  have g_is_lift := ok_is_lift (P := P) (w := w) (base := base) T B F_is_lift
  obtain ⟨t_GIVE, c_GIVE⟩ := T.g_GIVE
  obtain ⟨t_MOVE, c_MOVE⟩ := T.g_MOVE
  obtain ⟨t_TAKE, c_TAKE⟩ := T.g_TAKE
  refine fnG_D F sc_is_row rfl rfl fun cdv A outer s H E hg hr => PSs.nox ?_
  have hu := hu64 hr
  have hu7 := hu70 hr
  exact (zCons (zIf (yCmp (eq_ok hu) (isB_eq false) (xV 0) (xGlob (v := .str "take") rfl c_TAKE ⟨_, rfl⟩ (fun _ _ _ => .str _)) (nomark _)) (zCons (zRet (xCall (cg_fn g_is_take hg (hr.mono (by decide)) passes0 b_is_take) rfl m_is_take k_is_take (xaCons (xV 1) xaNil)))
    zNil) zNil)
    (zCons (zIf (yCmp (eq_ok hu) (isB_eq false) (xV 0) (xGlob (v := .str "give") rfl c_GIVE ⟨_, rfl⟩ (fun _ _ _ => .str _)) (nomark _)) (zCons (zRet (xCall (cg_fn g_is_give hg (hr.mono (by decide)) passes0 b_is_give) rfl m_is_give k_is_give (xaCons (xV 1) xaNil)))
    zNil) zNil)
    (zCons (zRet (xIf (yCmp (eq_ok hu) (isB_eq false) (xV 0) (xGlob (v := .str "move") rfl c_MOVE ⟨_, rfl⟩ (fun _ _ _ => .str _)) (nomark _)) (xCall (cg_fn g_is_move hg (hr.mono (by decide)) passes0 b_is_move) rfl m_is_move k_is_move (xaCons (xV 1) xaNil)) (xCall (cg_fn g_is_lift hg (hr.mono (by decide)) passes0 b_is_lift) rfl m_is_lift k_is_lift (xaCons (xV 1) xaNil))))
    zNil)))
theorem ok_want_word (T : Tx K mg C_Tree C_Book C_IsTop C_InvalidGroup C_WayError c__law_spots_let_ P__law_spots_let_ c__law_spots_refused_ P__law_spots_refused_)  (B : Bx base mg C_Tree C_Book C_IsTop C_InvalidGroup C_WayError c__law_spots_let_ P__law_spots_let_ c__law_spots_refused_ P__law_spots_refused_) {f : Addr} {fd : FuncData} (F : FunD K "want_word" "want_word" (defArgs s_want_word) (defBody s_want_word) (defScope s_want_word) [] [] f fd) : FnG P w K mg base CX0 1 f fd ["name", "value", "is_right"] (spF (mkG C_Tree C_Book C_IsTop C_InvalidGroup C_WayError c__law_spots_let_ P__law_spots_let_ c__law_spots_refused_ P__law_spots_refused_) K f_want_word) := by
  refine fnG_D F sc_want_word rfl rfl fun cdv A outer s H E hg hr => PSs.nox ?_
  have hu := hu64 hr
  have hu7 := hu70 hr
  exact (zCons (zIf (yNot (yB (xV 2))) (zCons zNever
    zNil) zNil)
    zNil)
theorem ok_are_holds (T : Tx K mg C_Tree C_Book C_IsTop C_InvalidGroup C_WayError c__law_spots_let_ P__law_spots_let_ c__law_spots_refused_ P__law_spots_refused_)  (B : Bx base mg C_Tree C_Book C_IsTop C_InvalidGroup C_WayError c__law_spots_let_ P__law_spots_let_ c__law_spots_refused_ P__law_spots_refused_) {f : Addr} {fd : FuncData} (F : FunD K "are_holds" "are_holds" (defArgs s_are_holds) (defBody s_are_holds) (defScope s_are_holds) [] [] f fd) : FnG P w K mg base CX0 2 f fd ["value"] (spF (mkG C_Tree C_Book C_IsTop C_InvalidGroup C_WayError c__law_spots_let_ P__law_spots_let_ c__law_spots_refused_ P__law_spots_refused_) K f_are_holds) := by
  obtain ⟨a_are_words, d_are_words, F_are_words, m_are_words⟩ := T.F_are_words
  have b_are_words := bd_are_words F_are_words
  have k_are_words := F_are_words.kp
  have g_are_words := ok_are_words (P := P) (w := w) (base := base) T B F_are_words
  obtain ⟨a_HOLDING, c_HOLDING, r_HOLDING⟩ := T.g_HOLDING
  refine fnG_D F sc_are_holds rfl rfl fun cdv A outer s H E hg hr => PSs.nox ?_
  have hu := hu64 hr
  have hu7 := hu70 hr
  exact (zCons (zRet (xAndB (xIsi2 .list .tuple (fun z => nomatch z) (fun z => nomatch z) rfl T.b_isinstance rfl T.b_list (by decide +kernel) rfl T.b_tuple (by decide +kernel) (xV 0)) (xOne (xCall (cg_fn g_are_words hg (hr.mono (by decide)) passes0 b_are_words) rfl m_are_words k_are_words (xaCons (bltnT tuple_okB rfl T.b_tuple (by decide +kernel) (xaCons (xV 0) xaNil)) (xaCons (xGlob (v := .ref a_HOLDING) rfl c_HOLDING rfl r_HOLDING) xaNil))))))
    zNil)
theorem ok_holds_in_sequence (T : Tx K mg C_Tree C_Book C_IsTop C_InvalidGroup C_WayError c__law_spots_let_ P__law_spots_let_ c__law_spots_refused_ P__law_spots_refused_)  (B : Bx base mg C_Tree C_Book C_IsTop C_InvalidGroup C_WayError c__law_spots_let_ P__law_spots_let_ c__law_spots_refused_ P__law_spots_refused_) {f : Addr} {fd : FuncData} (F : FunD K "holds_in_sequence" "holds_in_sequence" (defArgs s_holds_in_sequence) (defBody s_holds_in_sequence) (defScope s_holds_in_sequence) [] [] f fd) : FnG P w K mg base CX0 3 f fd ["holds"] (spF (mkG C_Tree C_Book C_IsTop C_InvalidGroup C_WayError c__law_spots_let_ P__law_spots_let_ c__law_spots_refused_ P__law_spots_refused_) K f_holds_in_sequence) := by
  obtain ⟨a_are_holds, d_are_holds, F_are_holds, m_are_holds⟩ := T.F_are_holds
  have b_are_holds := bd_are_holds F_are_holds
  have k_are_holds := F_are_holds.kp
  have g_are_holds := ok_are_holds (P := P) (w := w) (base := base) T B F_are_holds
  obtain ⟨a_HOLDING, c_HOLDING, r_HOLDING⟩ := T.g_HOLDING
  refine fnG_D F sc_holds_in_sequence rfl rfl fun cdv A outer s H E hg hr => PSs.nox ?_
  have hu := hu64 hr
  have hu7 := hu70 hr
  exact (zCons (zIf (yNot (yB (xCall (cg_fn g_are_holds hg (hr.mono (by decide)) passes0 b_are_holds) rfl m_are_holds k_are_holds (xaCons (xV 0) xaNil)))) (zCons zNever
    zNil) zNil)
    (zCons (zRet (bltnT tuple_okB rfl T.b_tuple (by decide +kernel) (xaCons (xComp rfl sc_holds_in_sequence.nd (iSeq_ok (xGlob (v := .ref a_HOLDING) rfl c_HOLDING rfl r_HOLDING)) (blkOk_by (N := ["holds", "kind"]) (sc := defScope s_holds_in_sequence) (own := [("kind", 1)]) (by decide +kernel)) rfl (tg1 1) (fun _ _ _ _ _ => pg_name (i := 1) sc_holds_in_sequence.nd rfl (Or.inl rfl)) (fun _ _ _ _ _ => pts_one (yCmp in_ok (isB_in false) (xV 1) (xV 0) rfl)) (fun _ _ _ _ _ => (xV 1))) xaNil)))
    zNil))
theorem ok_want_batch (T : Tx K mg C_Tree C_Book C_IsTop C_InvalidGroup C_WayError c__law_spots_let_ P__law_spots_let_ c__law_spots_refused_ P__law_spots_refused_)  (B : Bx base mg C_Tree C_Book C_IsTop C_InvalidGroup C_WayError c__law_spots_let_ P__law_spots_let_ c__law_spots_refused_ P__law_spots_refused_) {f : Addr} {fd : FuncData} (F : FunD K "want_batch" "want_batch" (defArgs s_want_batch) (defBody s_want_batch) (defScope s_want_batch) [] [] f fd) : FnG P w K mg base CX0 2 f fd ["value"] (spF (mkG C_Tree C_Book C_IsTop C_InvalidGroup C_WayError c__law_spots_let_ P__law_spots_let_ c__law_spots_refused_ P__law_spots_refused_) K f_want_batch) := by
  obtain ⟨a_is_integer, d_is_integer, F_is_integer, m_is_integer⟩ := T.F_is_integer
  have b_is_integer := bd_is_integer F_is_integer
  have k_is_integer := F_is_integer.kp
  have g_is_integer := ok_is_integer (P := P) (w := w) (base := base) T B F_is_integer
  obtain ⟨t_GREATEST_BATCH, c_GREATEST_BATCH⟩ := T.g_GREATEST_BATCH
  refine fnG_D F sc_want_batch rfl rfl fun cdv A outer s H E hg hr => PSs.nox ?_
  have hu := hu64 hr
  have hu7 := hu70 hr
  exact (zCons (zIf (PW.pt (wOr (yNot (yB (xCall (cg_fn g_is_integer hg (hr.mono (by decide)) passes0 b_is_integer) rfl m_is_integer k_is_integer (xaCons (xV 0) xaNil)))) (wOneO (yNot (yChain le_ok le_ok isB_le xInt (xV 0) (xGlob (v := .int 50) rfl c_GREATEST_BATCH ⟨_, rfl⟩ (fun _ _ _ => .int _))))))) (zCons zNever
    zNil) zNil)
    zNil)
theorem ok_Book___init__ (T : Tx K mg C_Tree C_Book C_IsTop C_InvalidGroup C_WayError c__law_spots_let_ P__law_spots_let_ c__law_spots_refused_ P__law_spots_refused_)  (B : Bx base mg C_Tree C_Book C_IsTop C_InvalidGroup C_WayError c__law_spots_let_ P__law_spots_let_ c__law_spots_refused_ P__law_spots_refused_) {f : Addr} {fd : FuncData} (F : FunD K "__init__" "Book.__init__" (defArgs s_Book___init__) (defBody s_Book___init__) (defScope s_Book___init__) [] [] f fd) : FnG P w K mg base CX0 4 f fd ["self", "take", "give", "move", "lift", "fails", "shared", "holds", "batch", "settles"] (spF (mkG C_Tree C_Book C_IsTop C_InvalidGroup C_WayError c__law_spots_let_ P__law_spots_let_ c__law_spots_refused_ P__law_spots_refused_) K f_Book___init__) := by
  obtain ⟨a_is_row, d_is_row, F_is_row, m_is_row⟩ := T.F_is_row
  have b_is_row := bd_is_row F_is_row
  have k_is_row := F_is_row.kp
  have g_is_row := ok_is_row (P := P) (w := w) (base := base) T B F_is_row
  obtain ⟨a_want_word, d_want_word, F_want_word, m_want_word⟩ := T.F_want_word
  have b_want_word := bd_want_word F_want_word
  have k_want_word := F_want_word.kp
  have g_want_word := ok_want_word (P := P) (w := w) (base := base) T B F_want_word
  obtain ⟨a_holds_in_sequence, d_holds_in_sequence, F_holds_in_sequence, m_holds_in_sequence⟩ := T.F_holds_in_sequence
  have b_holds_in_sequence := bd_holds_in_sequence F_holds_in_sequence
  have k_holds_in_sequence := F_holds_in_sequence.kp
  have g_holds_in_sequence := ok_holds_in_sequence (P := P) (w := w) (base := base) T B F_holds_in_sequence
  obtain ⟨a_want_batch, d_want_batch, F_want_batch, m_want_batch⟩ := T.F_want_batch
  have b_want_batch := bd_want_batch F_want_batch
  have k_want_batch := F_want_batch.kp
  have g_want_batch := ok_want_batch (P := P) (w := w) (base := base) T B F_want_batch
  obtain ⟨a_FAILS, c_FAILS, r_FAILS⟩ := T.g_FAILS
  obtain ⟨t_GIVE, c_GIVE⟩ := T.g_GIVE
  obtain ⟨a_HOLDING, c_HOLDING, r_HOLDING⟩ := T.g_HOLDING
  obtain ⟨t_HOME, c_HOME⟩ := T.g_HOME
  obtain ⟨t_LIFT, c_LIFT⟩ := T.g_LIFT
  obtain ⟨t_LIVE, c_LIVE⟩ := T.g_LIVE
  obtain ⟨t_MOVE, c_MOVE⟩ := T.g_MOVE
  obtain ⟨t_TAKE, c_TAKE⟩ := T.g_TAKE
  refine fnG_D F sc_Book___init__ rfl rfl fun cdv A outer s H E hg hr => PSs.nox ?_
  have hu := hu64 hr
  have hu7 := hu70 hr
  exact (zCons (zFld (c := 1) (i := 2) (by show 2 < 9; decide) T.cls_Book T.na_own_rows (xV 0) (xDisp (ppCons (xGlob (v := .str "take") rfl c_TAKE ⟨_, rfl⟩ (fun _ _ _ => .str _)) (xV 1) (ppCons (xGlob (v := .str "give") rfl c_GIVE ⟨_, rfl⟩ (fun _ _ _ => .str _)) (xV 2) (ppCons (xGlob (v := .str "move") rfl c_MOVE ⟨_, rfl⟩ (fun _ _ _ => .str _)) (xV 3) (ppCons (xGlob (v := .str "lift") rfl c_LIFT ⟨_, rfl⟩ (fun _ _ _ => .str _)) (xV 4) ppNil))))))
    (zCons (zFor PassesOwn.never rfl (iSeq_ok (xGlob (v := .ref a_HOLDING) rfl c_HOLDING rfl r_HOLDING)) (gName_ok (i := 10) sc_Book___init__.nd rfl (Or.inl rfl)) (zCons (zIf (yNot (yB (xCall (cg_fn g_is_row hg (hr.mono (by decide)) passes0 b_is_row) rfl m_is_row k_is_row (xaCons (xV 10) (xaCons (xDg (hu1_of hu7) (xFld (c := 1) (i := 2) (by show 2 < 9; decide) T.cls_Book T.na_own_rows (xV 0)) (xV 10)) xaNil))))) (zCons zNever
    zNil) zNil)
    zNil))
    (zCons (zE (xCall (cg_fn g_want_word hg (hr.mono (by decide)) passes0 b_want_word) rfl m_want_word k_want_word (xaCons xStr (xaCons (xV 5) (xaCons (xAndB (xIsi1 .str (fun z => nomatch z) rfl T.b_isinstance rfl T.b_str (by decide +kernel) (xV 5)) (xOne (xCmp in_ok (xV 5) (xGlob (v := .ref a_FAILS) rfl c_FAILS rfl r_FAILS) rfl))) xaNil)))))
    (zCons (zE (xCall (cg_fn g_want_word hg (hr.mono (by decide)) passes0 b_want_word) rfl m_want_word k_want_word (xaCons xStr (xaCons (xV 6) (xaCons (xIsi1 .bool (fun z => nomatch z) rfl T.b_isinstance rfl T.b_bool (by decide +kernel) (xV 6)) xaNil)))))
    (zCons (zFld (c := 1) (i := 3) (by show 3 < 9; decide) T.cls_Book T.na_own_fails (xV 0) (xV 5))
    (zCons (zFld (c := 1) (i := 4) (by show 4 < 9; decide) T.cls_Book T.na_own_shared (xV 0) (xV 6))
    (zCons (zFld (c := 1) (i := 5) (by show 5 < 9; decide) T.cls_Book T.na_own_holds (xV 0) (xCall (cg_fn g_holds_in_sequence hg (hr.mono (by decide)) passes0 b_holds_in_sequence) rfl m_holds_in_sequence k_holds_in_sequence (xaCons (xV 7) xaNil)))
    (zCons (zE (xCall (cg_fn g_want_batch hg (hr.mono (by decide)) passes0 b_want_batch) rfl m_want_batch k_want_batch (xaCons (xV 8) xaNil)))
    (zCons (zE (xCall (cg_fn g_want_word hg (hr.mono (by decide)) passes0 b_want_word) rfl m_want_word k_want_word (xaCons xStr (xaCons (xV 9) (xaCons (xIsi1 .bool (fun z => nomatch z) rfl T.b_isinstance rfl T.b_bool (by decide +kernel) (xV 9)) xaNil)))))
    (zCons (zFld (c := 1) (i := 6) (by show 6 < 9; decide) T.cls_Book T.na_own_batch (xV 0) (xV 8))
    (zCons (zFld (c := 1) (i := 7) (by show 7 < 9; decide) T.cls_Book T.na_own_settles (xV 0) (xV 9))
    (zCons (zIf (PW.pt (wAnd (yCmp gt_ok isB_gt (xV 8) xInt (nomark _)) (wOne (yCmp (ne_ok hu) (isB_eq true) (xIx (xV 1) (xNeg xInt)) (xGlob (v := .str "live") rfl c_LIVE ⟨_, rfl⟩ (fun _ _ _ => .str _)) (nomark _))))) (zCons zNever
    zNil) zNil)
    (zCons (zIf (PW.pt (wAnd (yNot (yB (xV 6))) (wAnd (yCmp (ne_ok hu) (isB_eq true) (xV 3) (xTup xaNil) (nomark _)) (wOne (yCmp (ne_ok hu) (isB_eq true) (xIx (xV 3) xInt) (xGlob (v := .str "home") rfl c_HOME ⟨_, rfl⟩ (fun _ _ _ => .str _)) (nomark _)))))) (zCons zNever
    zNil) zNil)
    zNil)))))))))))))
theorem ok__law_book (T : Tx K mg C_Tree C_Book C_IsTop C_InvalidGroup C_WayError c__law_spots_let_ P__law_spots_let_ c__law_spots_refused_ P__law_spots_refused_)  (B : Bx base mg C_Tree C_Book C_IsTop C_InvalidGroup C_WayError c__law_spots_let_ P__law_spots_let_ c__law_spots_refused_ P__law_spots_refused_) {f : Addr} {fd : FuncData} (F : FunD K "_law_book" "_law_book" (defArgs s__law_book) (defBody s__law_book) (defScope s__law_book) [] [] f fd) : FnG P w K mg base CX0 6 f fd ["_law_rules_here"] (spF (mkG C_Tree C_Book C_IsTop C_InvalidGroup C_WayError c__law_spots_let_ P__law_spots_let_ c__law_spots_refused_ P__law_spots_refused_) K f__law_book) := by
  obtain ⟨a_Book___init__, d_Book___init__, F_Book___init__, mk_Book⟩ := T.F_Book___init__
  have k_Book___init__ := F_Book___init__.kp
  have g_Book___init__ := ok_Book___init__ (P := P) (w := w) (base := base) T B F_Book___init__
  refine fnG_D F sc__law_book rfl rfl fun cdv A outer s H E hg hr => PSs.nox ?_
  have hu := hu64 hr
  have hu7 := hu70 hr
  exact (zCons (zRet (xCall0K (cg_make (c := 1) mk_Book g_Book___init__ hg (hr.mono (by decide)) passes0 (b_Book___init___take_give_move_lift_fails_shared_holds_batch_settles F_Book___init__)) rfl T.mg_Book mk_Book.kp (kCons (xDg (hu1_of hu7) (xV 0) xStr) (kCons (xDg (hu1_of hu7) (xV 0) xStr) (kCons (xDg (hu1_of hu7) (xV 0) xStr) (kCons (xDg (hu1_of hu7) (xV 0) xStr) (kCons (xDg (hu1_of hu7) (xV 0) xStr) (kCons (xDg (hu1_of hu7) (xV 0) xStr) (kCons (xDg (hu1_of hu7) (xV 0) xStr) (kCons (xDg (hu1_of hu7) (xV 0) xStr) (kCons (xDg (hu1_of hu7) (xV 0) xStr) kNil)))))))))))
    zNil)
theorem told__law_told (T : Tx K mg C_Tree C_Book C_IsTop C_InvalidGroup C_WayError c__law_spots_let_ P__law_spots_let_ c__law_spots_refused_ P__law_spots_refused_) {g : Addr} : Told (mkG C_Tree C_Book C_IsTop C_InvalidGroup C_WayError c__law_spots_let_ P__law_spots_let_ c__law_spots_refused_ P__law_spots_refused_) P w K mg base 1 ["_law_deed", "e"] "_law_told" (defScope s__law_told) g (defBody s__law_told) "_law_deed" b__law_told := by
  intro cdv A outer s H f c' q σ0 th hg hr ac0
  have hu := hu64 hr
  have hu7 := hu70 hr
  exact (lSeq_ok (lTry_ok (l := [(.ref C_InvalidGroup, mt_InvalidGroup, (some 1), fun _ fs => sRet (eLst (aCons (eC (.str "spot")) (aCons (eXf 8 fs) (aCons (eAndB (eC (.bl true)) (eC (.bl true))) aNil))))), (.ref C_IsTop, mt_IsTop, none, fun _ _ => (sSeq (sRet (eLst (aCons (eC (.str "top")) aNil))) sNil))]) rfl rfl ac0 (fun W pn xe ac => lMadeIs_ok (isiZ .list ac (fun z => nomatch z) rfl T.b_isinstance rfl T.b_list (by decide +kernel)) xStr) (.named sc__law_told.nd rfl rfl ⟨rfl, by decide, .inl T.mg_InvalidGroup⟩ (fun a oe cls d pn hz hf => hd_ret (fe := fun _ fs => (eLst (aCons (eC (.str "spot")) (aCons (eXf 8 fs) (aCons (eAndB (eC (.bl true)) (eC (.bl true))) aNil))))) (fun c fs ek => by obtain rfl := mt_InvalidGroup_one c ek; exact (jLst (jaCons (jLift xStr) (jaCons (jFld (G := mkG _ _ _ _ _ _ _ _ _) (k := 8) T.xl_InvalidGroup (by show 8 < 9; decide) T.xn_InvalidGroup hz hf rfl (Or.inl rfl)) (jaCons (jAnd (by exact jIs (G := mkG _ _ _ _ _ _ _ _ _) (i := 1) T.ec_InvalidGroup hz hf rfl (Or.inl rfl) rfl T.b_isinstance (pe_glob (v := .ref C_WayError) rfl T.mg_WayError rfl (by decide)) (fun u (h : u = Value.ref C_WayError) => h) T.is_InvalidGroup_WayError) (jOne (by exact jIs (G := mkG _ _ _ _ _ _ _ _ _) (i := 1) T.ec_InvalidGroup hz hf rfl (Or.inl rfl) rfl T.b_isinstance (pe_bltn (v := .ty "ValueError") rfl T.b_ValueError (by decide +kernel) rfl (by decide) (by decide)) (fun u (h : u = Value.type "ValueError") => h) T.is_InvalidGroup_ValueError))) jaNil)))))) (.plain ⟨rfl, by decide, .inl T.mg_IsTop⟩ (fun _ _ _ _ _ _ _ => hd_plain ((zCons (zRet (xLst (xaCons xStr xaNil)))
    zNil))) .nil)) (hm_cons (mt_InvalidGroup_ok T) (hm_cons (mt_IsTop_ok T) hm_nil))) zNil)
theorem ok_Tree___len__ (T : Tx K mg C_Tree C_Book C_IsTop C_InvalidGroup C_WayError c__law_spots_let_ P__law_spots_let_ c__law_spots_refused_ P__law_spots_refused_)  (B : Bx base mg C_Tree C_Book C_IsTop C_InvalidGroup C_WayError c__law_spots_let_ P__law_spots_let_ c__law_spots_refused_ P__law_spots_refused_) {f : Addr} {fd : FuncData} (F : FunD K "__len__" "Tree.__len__" (defArgs s_Tree___len__) (defBody s_Tree___len__) (defScope s_Tree___len__) [] [] f fd) : FnG P w K mg base CX0 1 f fd ["self"] (spF (mkG C_Tree C_Book C_IsTop C_InvalidGroup C_WayError c__law_spots_let_ P__law_spots_let_ c__law_spots_refused_ P__law_spots_refused_) K f_Tree___len__) := by
  refine fnG_D F sc_Tree___len__ rfl rfl fun cdv A outer s H E hg hr => PSs.nox ?_
  have hu := hu64 hr
  have hu7 := hu70 hr
  exact (zCons (zRet (bltn len_okB rfl T.b_len (by decide +kernel) (xaCons (x2 add_ok (xTup (xaCons xNon xaNil)) (xFld (c := 0) (i := 0) (by show 0 < 9; decide) T.cls_Tree T.na_own_parents (xV 0))) xaNil)))
    zNil)
theorem ok_Tree_want_group (T : Tx K mg C_Tree C_Book C_IsTop C_InvalidGroup C_WayError c__law_spots_let_ P__law_spots_let_ c__law_spots_refused_ P__law_spots_refused_)  (B : Bx base mg C_Tree C_Book C_IsTop C_InvalidGroup C_WayError c__law_spots_let_ P__law_spots_let_ c__law_spots_refused_ P__law_spots_refused_) {f : Addr} {fd : FuncData} (F : FunD K "want_group" "Tree.want_group" (defArgs s_Tree_want_group) (defBody s_Tree_want_group) (defScope s_Tree_want_group) [] [] f fd) : FnG P w K mg base (L2.CX P w) 3 f fd ["self", "value"] (spF (mkG C_Tree C_Book C_IsTop C_InvalidGroup C_WayError c__law_spots_let_ P__law_spots_let_ c__law_spots_refused_ P__law_spots_refused_) K f_Tree_want_group) := by
  obtain ⟨a_is_count, d_is_count, F_is_count, m_is_count⟩ := T.F_is_count
  have b_is_count := bd_is_count F_is_count
  have k_is_count := F_is_count.kp
  have g_is_count := ok_is_count (P := P) (w := w) (base := base) T B F_is_count
  obtain ⟨a_Tree___len__, d_Tree___len__, F_Tree___len__, m_Tree___len__⟩ := T.F_Tree___len__
  have b_Tree___len__ := bd_Tree___len__ F_Tree___len__
  have k_Tree___len__ := F_Tree___len__.kp
  have g_Tree___len__ := ok_Tree___len__ (P := P) (w := w) (base := base) T B F_Tree___len__
  obtain ⟨a_InvalidGroup___init__, d_InvalidGroup___init__, F_InvalidGroup___init__, i_InvalidGroup___init__, t_InvalidGroup___init__⟩ := T.F_InvalidGroup___init__
  have fx_InvalidGroup___init__ := fn_x1 (P := P) (w := w) (mg := mg) (base := base) (f := nmF 8) F_InvalidGroup___init__ sc_InvalidGroup___init__ (Or.inl rfl) (Or.inl rfl)
  have bx_InvalidGroup___init__ := binds_x (ps := ["self", "value"]) F_InvalidGroup___init__ fun _ _ _ _ _ _ us hl => match us, hl with | [_, _], _ => rfl
  refine fnG_D F sc_Tree_want_group rfl rfl fun cdv A outer s H E hg hr => ?_
  have tk := takes_cx (P := P) (w := w) (K := K) (mg := mg) (base := base) (N := ["self", "value"]) (qual := "Tree.want_group") (scope := defScope s_Tree_want_group) (f := f) (cdv := cdv) (A := A) (outer := outer) (s := s) (H := H) (E := E)
  have hu := hu64 hr
  have hu7 := hu70 hr
  exact (zCons (zIf (PW.pt (wOr (yNot (yB (xCall (cg_fn g_is_count hg (hr.mono (by decide)) passes0 b_is_count) rfl m_is_count k_is_count (xaCons (xV 1) xaNil)))) (wOneO (yCmp ge_ok isB_ge (xV 1) (bltn (lenO_ok (c := 0) g_Tree___len__ hg (hr.mono (by decide)) passes0 b_Tree___len__ m_Tree___len__.at_ m_Tree___len__.fn) rfl T.b_len (by decide +kernel) (xaCons (xV 0) xaNil)) (nomark _))))) (zCons (zRaise1 (c := 3) (i := 8) rfl tk T.x_InvalidGroup (by show 8 < 9; decide) T.xh_InvalidGroup i_InvalidGroup___init__ t_InvalidGroup___init__ fx_InvalidGroup___init__ (hr.mono (by decide)) bx_InvalidGroup___init__ rfl T.mg_InvalidGroup (xV 1))
    zNil) zNil)
    zNil)
theorem ok_Tree_way (T : Tx K mg C_Tree C_Book C_IsTop C_InvalidGroup C_WayError c__law_spots_let_ P__law_spots_let_ c__law_spots_refused_ P__law_spots_refused_)  (B : Bx base mg C_Tree C_Book C_IsTop C_InvalidGroup C_WayError c__law_spots_let_ P__law_spots_let_ c__law_spots_refused_ P__law_spots_refused_) {f : Addr} {fd : FuncData} (F : FunD K "way" "Tree.way" (defArgs s_Tree_way) (defBody s_Tree_way) (defScope s_Tree_way) [] [] f fd) : FnG P w K mg base (L2.CX P w) 4 f fd ["self", "group"] (spF (mkG C_Tree C_Book C_IsTop C_InvalidGroup C_WayError c__law_spots_let_ P__law_spots_let_ c__law_spots_refused_ P__law_spots_refused_) K f_Tree_way) := by
  obtain ⟨a_Tree_want_group, d_Tree_want_group, F_Tree_want_group, m_Tree_want_group⟩ := T.F_Tree_want_group
  have b_Tree_want_group := bd_Tree_want_group F_Tree_want_group
  have k_Tree_want_group := F_Tree_want_group.kp
  have g_Tree_want_group := ok_Tree_want_group (P := P) (w := w) (base := base) T B F_Tree_want_group
  obtain ⟨t_TOP, c_TOP⟩ := T.g_TOP
  refine fnG_D F sc_Tree_way rfl rfl fun cdv A outer s H E hg hr => ?_
  have tk := takes_cx (P := P) (w := w) (K := K) (mg := mg) (base := base) (N := ["self", "group", "found"]) (qual := "Tree.way") (scope := defScope s_Tree_way) (f := f) (cdv := cdv) (A := A) (outer := outer) (s := s) (H := H) (E := E)
  have hu := hu64 hr
  have hu7 := hu70 hr
  exact (zCons (zE (xMeth (c := 0) (nf_want_group _ _ _ _ _ _ _ _ _) (xV 0) T.cls_Tree m_Tree_want_group (cg_fn g_Tree_want_group hg (hr.mono (by decide)) (passesX tk) b_Tree_want_group) (xaCons (xV 1) xaNil)))
    (zCons (zSet (i := 2) sc_Tree_way.nd rfl (Or.inl rfl) (xLst (xaCons (xV 1) xaNil)))
    (zCons (zWhile (passes_of rfl) (yCmp gt_ok isB_gt (xIx (xV 2) (xNeg xInt)) (xGlob (v := .int 0) rfl c_TOP ⟨_, rfl⟩ (fun _ _ _ => .int _)) (nomark _)) (zCons (zE (xAppend (xV 2) (xaCons (xIx (xFld (c := 0) (i := 0) (by show 0 < 9; decide) T.cls_Tree T.na_own_parents (xV 0)) (x2 sub_ok (xIx (xV 2) (xNeg xInt)) xInt)) xaNil)))
    zNil))
    (zCons (zRet (xV 2))
    zNil))))
theorem ok_want_kind (T : Tx K mg C_Tree C_Book C_IsTop C_InvalidGroup C_WayError c__law_spots_let_ P__law_spots_let_ c__law_spots_refused_ P__law_spots_refused_)  (B : Bx base mg C_Tree C_Book C_IsTop C_InvalidGroup C_WayError c__law_spots_let_ P__law_spots_let_ c__law_spots_refused_ P__law_spots_refused_) {f : Addr} {fd : FuncData} (F : FunD K "want_kind" "want_kind" (defArgs s_want_kind) (defBody s_want_kind) (defScope s_want_kind) [] [] f fd) : FnG P w K mg base CX0 1 f fd ["value"] (spF (mkG C_Tree C_Book C_IsTop C_InvalidGroup C_WayError c__law_spots_let_ P__law_spots_let_ c__law_spots_refused_ P__law_spots_refused_) K f_want_kind) := by
  obtain ⟨a_HOLDING, c_HOLDING, r_HOLDING⟩ := T.g_HOLDING
  refine fnG_D F sc_want_kind rfl rfl fun cdv A outer s H E hg hr => PSs.nox ?_
  have hu := hu64 hr
  have hu7 := hu70 hr
  exact (zCons (zIf (PW.pt (wOr (yNot (yB (xIsi1 .str (fun z => nomatch z) rfl T.b_isinstance rfl T.b_str (by decide +kernel) (xV 0)))) (wOneO (yCmp notin_ok (isB_in true) (xV 0) (xGlob (v := .ref a_HOLDING) rfl c_HOLDING rfl r_HOLDING) rfl)))) (zCons zNever
    zNil) zNil)
    zNil)
theorem ok_Book_row (T : Tx K mg C_Tree C_Book C_IsTop C_InvalidGroup C_WayError c__law_spots_let_ P__law_spots_let_ c__law_spots_refused_ P__law_spots_refused_)  (B : Bx base mg C_Tree C_Book C_IsTop C_InvalidGroup C_WayError c__law_spots_let_ P__law_spots_let_ c__law_spots_refused_ P__law_spots_refused_) {f : Addr} {fd : FuncData} (F : FunD K "row" "Book.row" (defArgs s_Book_row) (defBody s_Book_row) (defScope s_Book_row) [] [] f fd) : FnG P w K mg base CX0 2 f fd ["self", "kind"] (spF (mkG C_Tree C_Book C_IsTop C_InvalidGroup C_WayError c__law_spots_let_ P__law_spots_let_ c__law_spots_refused_ P__law_spots_refused_) K f_Book_row) := by
  obtain ⟨a_want_kind, d_want_kind, F_want_kind, m_want_kind⟩ := T.F_want_kind
  have b_want_kind := bd_want_kind F_want_kind
  have k_want_kind := F_want_kind.kp
  have g_want_kind := ok_want_kind (P := P) (w := w) (base := base) T B F_want_kind
  refine fnG_D F sc_Book_row rfl rfl fun cdv A outer s H E hg hr => PSs.nox ?_
  have hu := hu64 hr
  have hu7 := hu70 hr
  exact (zCons (zE (xCall (cg_fn g_want_kind hg (hr.mono (by decide)) passes0 b_want_kind) rfl m_want_kind k_want_kind (xaCons (xV 1) xaNil)))
    (zCons (zRet (xDg (hu1_of hu7) (xFld (c := 1) (i := 2) (by show 2 < 9; decide) T.cls_Book T.na_own_rows (xV 0)) (xV 1)))
    zNil))
theorem ok_along (T : Tx K mg C_Tree C_Book C_IsTop C_InvalidGroup C_WayError c__law_spots_let_ P__law_spots_let_ c__law_spots_refused_ P__law_spots_refused_)  (B : Bx base mg C_Tree C_Book C_IsTop C_InvalidGroup C_WayError c__law_spots_let_ P__law_spots_let_ c__law_spots_refused_ P__law_spots_refused_) {f : Addr} {fd : FuncData} (F : FunD K "along" "along" (defArgs s_along) (defBody s_along) (defScope s_along) [] [] f fd) : FnG P w K mg base CX0 1 f fd ["word", "way"] (spF (mkG C_Tree C_Book C_IsTop C_InvalidGroup C_WayError c__law_spots_let_ P__law_spots_let_ c__law_spots_refused_ P__law_spots_refused_) K f_along) := by
  refine fnG_D F sc_along rfl rfl fun cdv A outer s H E hg hr => PSs.nox ?_
  have hu := hu64 hr
  have hu7 := hu70 hr
  exact (zCons (zRet (xComp rfl sc_along.nd (iSeq_ok (xV 1)) (blkOk_by (N := ["word", "way", "group"]) (sc := defScope s_along) (own := [("group", 2)]) (by decide +kernel)) rfl (tg1 2) (fun _ _ _ _ _ => pg_name (i := 2) sc_along.nd rfl (Or.inl rfl)) (fun _ _ _ _ _ => ptsNil) (fun _ _ _ _ _ => (xTup (xaCons (xV 0) (xaCons (xV 2) xaNil))))))
    zNil)
theorem ok_take_plan (T : Tx K mg C_Tree C_Book C_IsTop C_InvalidGroup C_WayError c__law_spots_let_ P__law_spots_let_ c__law_spots_refused_ P__law_spots_refused_)  (B : Bx base mg C_Tree C_Book C_IsTop C_InvalidGroup C_WayError c__law_spots_let_ P__law_spots_let_ c__law_spots_refused_ P__law_spots_refused_) {f : Addr} {fd : FuncData} (F : FunD K "take_plan" "take_plan" (defArgs s_take_plan) (defBody s_take_plan) (defScope s_take_plan) [] [] f fd) : FnG P w K mg base (L2.CX P w) 5 f fd ["book", "tree", "group"] (spF (mkG C_Tree C_Book C_IsTop C_InvalidGroup C_WayError c__law_spots_let_ P__law_spots_let_ c__law_spots_refused_ P__law_spots_refused_) K f_take_plan) := by
  obtain ⟨a_Tree_way, d_Tree_way, F_Tree_way, m_Tree_way⟩ := T.F_Tree_way
  have b_Tree_way := bd_Tree_way F_Tree_way
  have k_Tree_way := F_Tree_way.kp
  have g_Tree_way := ok_Tree_way (P := P) (w := w) (base := base) T B F_Tree_way
  obtain ⟨a_Book_row, d_Book_row, F_Book_row, m_Book_row⟩ := T.F_Book_row
  have b_Book_row := bd_Book_row F_Book_row
  have k_Book_row := F_Book_row.kp
  have g_Book_row := ok_Book_row (P := P) (w := w) (base := base) T B F_Book_row
  obtain ⟨a_along, d_along, F_along, m_along⟩ := T.F_along
  have b_along := bd_along F_along
  have k_along := F_along.kp
  have g_along := ok_along (P := P) (w := w) (base := base) T B F_along
  obtain ⟨t_LIVE, c_LIVE⟩ := T.g_LIVE
  obtain ⟨t_TAKE, c_TAKE⟩ := T.g_TAKE
  refine fnG_D F sc_take_plan rfl rfl fun cdv A outer s H E hg hr => ?_
  have tk := takes_cx (P := P) (w := w) (K := K) (mg := mg) (base := base) (N := ["book", "tree", "group", "word", "way", "found"]) (qual := "take_plan") (scope := defScope s_take_plan) (f := f) (cdv := cdv) (A := A) (outer := outer) (s := s) (H := H) (E := E)
  have hu := hu64 hr
  have hu7 := hu70 hr
  exact (zCons (zPar (i := 4) (j := 5) rfl sc_take_plan.nd rfl rfl (by decide) rfl rfl (xaCons (xMeth (c := 0) (nf_way _ _ _ _ _ _ _ _ _) (xV 1) T.cls_Tree m_Tree_way (cg_fn g_Tree_way hg (hr.mono (by decide)) (passesX tk) b_Tree_way) (xaCons (xV 2) xaNil)) (xaCons (xLst xaNil) xaNil)) rfl)
    (zCons (zFor (passes_of rfl) rfl (iSeq_ok (xMeth (c := 1) (nf_row _ _ _ _ _ _ _ _ _) (xV 0) T.cls_Book m_Book_row (cg_fn g_Book_row hg (hr.mono (by decide)) passes0 b_Book_row) (xaCons (xGlob (v := .str "take") rfl c_TAKE ⟨_, rfl⟩ (fun _ _ _ => .str _)) xaNil))) (gName_ok (i := 3) sc_take_plan.nd rfl (Or.inl rfl)) (zCons (zE (xExtend (xV 5) (xaCons (xIf (yCmp (eq_ok hu) (isB_eq false) (xV 3) (xGlob (v := .str "live") rfl c_LIVE ⟨_, rfl⟩ (fun _ _ _ => .str _)) (nomark _)) (xLst (xaCons (xTup (xaCons (xV 3) (xaCons xNon xaNil))) xaNil)) (xCall (cg_fn g_along hg (hr.mono (by decide)) passes0 b_along) rfl m_along k_along (xaCons (xV 3) (xaCons (xV 4) xaNil)))) xaNil)))
    zNil))
    (zCons (zRet (xV 5))
    zNil)))
theorem ok_give_plan (T : Tx K mg C_Tree C_Book C_IsTop C_InvalidGroup C_WayError c__law_spots_let_ P__law_spots_let_ c__law_spots_refused_ P__law_spots_refused_)  (B : Bx base mg C_Tree C_Book C_IsTop C_InvalidGroup C_WayError c__law_spots_let_ P__law_spots_let_ c__law_spots_refused_ P__law_spots_refused_) {f : Addr} {fd : FuncData} (F : FunD K "give_plan" "give_plan" (defArgs s_give_plan) (defBody s_give_plan) (defScope s_give_plan) [] [] f fd) : FnG P w K mg base (L2.CX P w) 5 f fd ["book", "tree", "home"] (spF (mkG C_Tree C_Book C_IsTop C_InvalidGroup C_WayError c__law_spots_let_ P__law_spots_let_ c__law_spots_refused_ P__law_spots_refused_) K f_give_plan) := by
  obtain ⟨a_Tree_way, d_Tree_way, F_Tree_way, m_Tree_way⟩ := T.F_Tree_way
  have b_Tree_way := bd_Tree_way F_Tree_way
  have k_Tree_way := F_Tree_way.kp
  have g_Tree_way := ok_Tree_way (P := P) (w := w) (base := base) T B F_Tree_way
  obtain ⟨a_Book_row, d_Book_row, F_Book_row, m_Book_row⟩ := T.F_Book_row
  have b_Book_row := bd_Book_row F_Book_row
  have k_Book_row := F_Book_row.kp
  have g_Book_row := ok_Book_row (P := P) (w := w) (base := base) T B F_Book_row
  obtain ⟨a_along, d_along, F_along, m_along⟩ := T.F_along
  have b_along := bd_along F_along
  have k_along := F_along.kp
  have g_along := ok_along (P := P) (w := w) (base := base) T B F_along
  obtain ⟨t_GIVE, c_GIVE⟩ := T.g_GIVE
  obtain ⟨t_OFF, c_OFF⟩ := T.g_OFF
  refine fnG_D F sc_give_plan rfl rfl fun cdv A outer s H E hg hr => ?_
  have tk := takes_cx (P := P) (w := w) (K := K) (mg := mg) (base := base) (N := ["book", "tree", "home", "word", "way", "found"]) (qual := "give_plan") (scope := defScope s_give_plan) (f := f) (cdv := cdv) (A := A) (outer := outer) (s := s) (H := H) (E := E)
  have hu := hu64 hr
  have hu7 := hu70 hr
  exact (zCons (zPar (i := 4) (j := 5) rfl sc_give_plan.nd rfl rfl (by decide) rfl rfl (xaCons (xMeth (c := 0) (nf_way _ _ _ _ _ _ _ _ _) (xV 1) T.cls_Tree m_Tree_way (cg_fn g_Tree_way hg (hr.mono (by decide)) (passesX tk) b_Tree_way) (xaCons (xV 2) xaNil)) (xaCons (xLst xaNil) xaNil)) rfl)
    (zCons (zFor (passes_of rfl) rfl (iSeq_ok (xMeth (c := 1) (nf_row _ _ _ _ _ _ _ _ _) (xV 0) T.cls_Book m_Book_row (cg_fn g_Book_row hg (hr.mono (by decide)) passes0 b_Book_row) (xaCons (xGlob (v := .str "give") rfl c_GIVE ⟨_, rfl⟩ (fun _ _ _ => .str _)) xaNil))) (gName_ok (i := 3) sc_give_plan.nd rfl (Or.inl rfl)) (zCons (zE (xExtend (xV 5) (xaCons (xIf (yCmp (eq_ok hu) (isB_eq false) (xV 3) (xGlob (v := .str "off") rfl c_OFF ⟨_, rfl⟩ (fun _ _ _ => .str _)) (nomark _)) (xCall (cg_fn g_along hg (hr.mono (by decide)) passes0 b_along) rfl m_along k_along (xaCons (xV 3) (xaCons (xV 4) xaNil))) (xLst (xaCons (xTup (xaCons (xV 3) (xaCons xNon xaNil))) xaNil))) xaNil)))
    zNil))
    (zCons (zRet (xV 5))
    zNil)))
theorem ok_settle_plan (T : Tx K mg C_Tree C_Book C_IsTop C_InvalidGroup C_WayError c__law_spots_let_ P__law_spots_let_ c__law_spots_refused_ P__law_spots_refused_)  (B : Bx base mg C_Tree C_Book C_IsTop C_InvalidGroup C_WayError c__law_spots_let_ P__law_spots_let_ c__law_spots_refused_ P__law_spots_refused_) {f : Addr} {fd : FuncData} (F : FunD K "settle_plan" "settle_plan" (defArgs s_settle_plan) (defBody s_settle_plan) (defScope s_settle_plan) [] [] f fd) : FnG P w K mg base (L2.CX P w) 5 f fd ["tree", "group"] (spF (mkG C_Tree C_Book C_IsTop C_InvalidGroup C_WayError c__law_spots_let_ P__law_spots_let_ c__law_spots_refused_ P__law_spots_refused_) K f_settle_plan) := by
  obtain ⟨a_along, d_along, F_along, m_along⟩ := T.F_along
  have b_along := bd_along F_along
  have k_along := F_along.kp
  have g_along := ok_along (P := P) (w := w) (base := base) T B F_along
  obtain ⟨a_Tree_way, d_Tree_way, F_Tree_way, m_Tree_way⟩ := T.F_Tree_way
  have b_Tree_way := bd_Tree_way F_Tree_way
  have k_Tree_way := F_Tree_way.kp
  have g_Tree_way := ok_Tree_way (P := P) (w := w) (base := base) T B F_Tree_way
  obtain ⟨t_OFF, c_OFF⟩ := T.g_OFF
  refine fnG_D F sc_settle_plan rfl rfl fun cdv A outer s H E hg hr => ?_
  have tk := takes_cx (P := P) (w := w) (K := K) (mg := mg) (base := base) (N := ["tree", "group"]) (qual := "settle_plan") (scope := defScope s_settle_plan) (f := f) (cdv := cdv) (A := A) (outer := outer) (s := s) (H := H) (E := E)
  have hu := hu64 hr
  have hu7 := hu70 hr
  exact (zCons (zRet (xCall (cg_fn g_along hg (hr.mono (by decide)) passes0 b_along) rfl m_along k_along (xaCons (xGlob (v := .str "off") rfl c_OFF ⟨_, rfl⟩ (fun _ _ _ => .str _)) (xaCons (xMeth (c := 0) (nf_way _ _ _ _ _ _ _ _ _) (xV 0) T.cls_Tree m_Tree_way (cg_fn g_Tree_way hg (hr.mono (by decide)) (passesX tk) b_Tree_way) (xaCons (xV 1) xaNil)) xaNil))))
    zNil)
theorem ok_Book_shared (T : Tx K mg C_Tree C_Book C_IsTop C_InvalidGroup C_WayError c__law_spots_let_ P__law_spots_let_ c__law_spots_refused_ P__law_spots_refused_)  (B : Bx base mg C_Tree C_Book C_IsTop C_InvalidGroup C_WayError c__law_spots_let_ P__law_spots_let_ c__law_spots_refused_ P__law_spots_refused_) {f : Addr} {fd : FuncData} (F : FunD K "shared" "Book.shared" (defArgs s_Book_shared) (defBody s_Book_shared) (defScope s_Book_shared) [] [] f fd) : FnG P w K mg base CX0 1 f fd ["self"] (spF (mkG C_Tree C_Book C_IsTop C_InvalidGroup C_WayError c__law_spots_let_ P__law_spots_let_ c__law_spots_refused_ P__law_spots_refused_) K f_Book_shared) := by
  refine fnG_D F sc_Book_shared rfl rfl fun cdv A outer s H E hg hr => PSs.nox ?_
  have hu := hu64 hr
  have hu7 := hu70 hr
  exact (zCons (zRet (xFld (c := 1) (i := 4) (by show 4 < 9; decide) T.cls_Book T.na_own_shared (xV 0)))
    zNil)
theorem ok_Tree_apart (T : Tx K mg C_Tree C_Book C_IsTop C_InvalidGroup C_WayError c__law_spots_let_ P__law_spots_let_ c__law_spots_refused_ P__law_spots_refused_)  (B : Bx base mg C_Tree C_Book C_IsTop C_InvalidGroup C_WayError c__law_spots_let_ P__law_spots_let_ c__law_spots_refused_ P__law_spots_refused_) {f : Addr} {fd : FuncData} (F : FunD K "apart" "Tree.apart" (defArgs s_Tree_apart) (defBody s_Tree_apart) (defScope s_Tree_apart) [] [] f fd) : FnG P w K mg base (L2.CX P w) 5 f fd ["self", "group", "seen"] (spF (mkG C_Tree C_Book C_IsTop C_InvalidGroup C_WayError c__law_spots_let_ P__law_spots_let_ c__law_spots_refused_ P__law_spots_refused_) K f_Tree_apart) := by
  obtain ⟨a_Tree_way, d_Tree_way, F_Tree_way, m_Tree_way⟩ := T.F_Tree_way
  have b_Tree_way := bd_Tree_way F_Tree_way
  have k_Tree_way := F_Tree_way.kp
  have g_Tree_way := ok_Tree_way (P := P) (w := w) (base := base) T B F_Tree_way
  refine fnG_D F sc_Tree_apart rfl rfl fun cdv A outer s H E hg hr => ?_
  have tk := takes_cx (P := P) (w := w) (K := K) (mg := mg) (base := base) (N := ["self", "group", "seen", "way", "other", "one"]) (qual := "Tree.apart") (scope := defScope s_Tree_apart) (f := f) (cdv := cdv) (A := A) (outer := outer) (s := s) (H := H) (E := E)
  have hu := hu64 hr
  have hu7 := hu70 hr
  exact (zCons (zAsg (ng_tup (ngs_cons ng_name (ngs_cons ng_name ngs_nil))) (xTup (xaCons (xMeth (c := 0) (nf_way _ _ _ _ _ _ _ _ _) (xV 0) T.cls_Tree m_Tree_way (cg_fn g_Tree_way hg (hr.mono (by decide)) (passesX tk) b_Tree_way) (xaCons (xV 1) xaNil)) (xaCons (xMeth (c := 0) (nf_way _ _ _ _ _ _ _ _ _) (xV 0) T.cls_Tree m_Tree_way (cg_fn g_Tree_way hg (hr.mono (by decide)) (passesX tk) b_Tree_way) (xaCons (xV 2) xaNil)) xaNil))) (gT_ok rfl (gsCons_ok (gName_ok (i := 3) sc_Tree_apart.nd rfl (Or.inl rfl)) (gsCons_ok (gName_ok (i := 4) sc_Tree_apart.nd rfl (Or.inr rfl)) gsNil_ok))))
    (zCons (zRet (xComp rfl sc_Tree_apart.nd (iSeq_ok (xV 3)) (blkOk_by (N := ["self", "group", "seen", "way", "other", "one"]) (sc := defScope s_Tree_apart) (own := [("one", 5)]) (by decide +kernel)) rfl (tg1 5) (fun _ _ _ _ _ => pg_name (i := 5) sc_Tree_apart.nd rfl (Or.inl rfl)) (fun _ _ _ _ _ => pts_one (yCmp notin_ok (isB_in true) (xV 5) (xV 4) rfl)) (fun _ _ _ _ _ => (xV 5))))
    zNil))
theorem ok_move_ways (T : Tx K mg C_Tree C_Book C_IsTop C_InvalidGroup C_WayError c__law_spots_let_ P__law_spots_let_ c__law_spots_refused_ P__law_spots_refused_)  (B : Bx base mg C_Tree C_Book C_IsTop C_InvalidGroup C_WayError c__law_spots_let_ P__law_spots_let_ c__law_spots_refused_ P__law_spots_refused_) {f : Addr} {fd : FuncData} (F : FunD K "move_ways" "move_ways" (defArgs s_move_ways) (defBody s_move_ways) (defScope s_move_ways) [] [] f fd) : FnG P w K mg base (L2.CX P w) 6 f fd ["book", "tree", "home", "target"] (spF (mkG C_Tree C_Book C_IsTop C_InvalidGroup C_WayError c__law_spots_let_ P__law_spots_let_ c__law_spots_refused_ P__law_spots_refused_) K f_move_ways) := by
  obtain ⟨a_Book_shared, d_Book_shared, p_Book_shared, F_Book_shared, m_Book_shared⟩ := T.F_Book_shared
  have b_Book_shared := bd_Book_shared F_Book_shared
  have k_Book_shared := F_Book_shared.kp
  have g_Book_shared := ok_Book_shared (P := P) (w := w) (base := base) T B F_Book_shared
  obtain ⟨a_Tree_way, d_Tree_way, F_Tree_way, m_Tree_way⟩ := T.F_Tree_way
  have b_Tree_way := bd_Tree_way F_Tree_way
  have k_Tree_way := F_Tree_way.kp
  have g_Tree_way := ok_Tree_way (P := P) (w := w) (base := base) T B F_Tree_way
  obtain ⟨a_Tree_apart, d_Tree_apart, F_Tree_apart, m_Tree_apart⟩ := T.F_Tree_apart
  have b_Tree_apart := bd_Tree_apart F_Tree_apart
  have k_Tree_apart := F_Tree_apart.kp
  have g_Tree_apart := ok_Tree_apart (P := P) (w := w) (base := base) T B F_Tree_apart
  refine fnG_D F sc_move_ways rfl rfl fun cdv A outer s H E hg hr => ?_
  have tk := takes_cx (P := P) (w := w) (K := K) (mg := mg) (base := base) (N := ["book", "tree", "home", "target"]) (qual := "move_ways") (scope := defScope s_move_ways) (f := f) (cdv := cdv) (A := A) (outer := outer) (s := s) (H := H) (E := E)
  have hu := hu64 hr
  have hu7 := hu70 hr
  exact (zCons (zIf (yB (xProp (c := 1) (nf_shared _ _ _ _ _ _ _ _ _) (xV 0) T.cls_Book m_Book_shared g_Book_shared hg (hr.mono (by decide)) passes0 b_Book_shared)) (zCons (zRet (xTup (xaCons (xMeth (c := 0) (nf_way _ _ _ _ _ _ _ _ _) (xV 1) T.cls_Tree m_Tree_way (cg_fn g_Tree_way hg (hr.mono (by decide)) (passesX tk) b_Tree_way) (xaCons (xV 2) xaNil)) (xaCons (xMeth (c := 0) (nf_way _ _ _ _ _ _ _ _ _) (xV 1) T.cls_Tree m_Tree_way (cg_fn g_Tree_way hg (hr.mono (by decide)) (passesX tk) b_Tree_way) (xaCons (xV 3) xaNil)) xaNil))))
    zNil) zNil)
    (zCons (zRet (xTup (xaCons (xMeth (c := 0) (nf_apart _ _ _ _ _ _ _ _ _) (xV 1) T.cls_Tree m_Tree_apart (cg_fn g_Tree_apart hg (hr.mono (by decide)) (passesX tk) b_Tree_apart) (xaCons (xV 2) (xaCons (xV 3) xaNil))) (xaCons (xMeth (c := 0) (nf_apart _ _ _ _ _ _ _ _ _) (xV 1) T.cls_Tree m_Tree_apart (cg_fn g_Tree_apart hg (hr.mono (by decide)) (passesX tk) b_Tree_apart) (xaCons (xV 3) (xaCons (xV 2) xaNil))) xaNil))))
    zNil))
theorem ok_move_plan (T : Tx K mg C_Tree C_Book C_IsTop C_InvalidGroup C_WayError c__law_spots_let_ P__law_spots_let_ c__law_spots_refused_ P__law_spots_refused_)  (B : Bx base mg C_Tree C_Book C_IsTop C_InvalidGroup C_WayError c__law_spots_let_ P__law_spots_let_ c__law_spots_refused_ P__law_spots_refused_) {f : Addr} {fd : FuncData} (F : FunD K "move_plan" "move_plan" (defArgs s_move_plan) (defBody s_move_plan) (defScope s_move_plan) [] [] f fd) : FnG P w K mg base (L2.CX P w) 7 f fd ["book", "tree", "home", "target"] (spF (mkG C_Tree C_Book C_IsTop C_InvalidGroup C_WayError c__law_spots_let_ P__law_spots_let_ c__law_spots_refused_ P__law_spots_refused_) K f_move_plan) := by
  obtain ⟨a_move_ways, d_move_ways, F_move_ways, m_move_ways⟩ := T.F_move_ways
  have b_move_ways := bd_move_ways F_move_ways
  have k_move_ways := F_move_ways.kp
  have g_move_ways := ok_move_ways (P := P) (w := w) (base := base) T B F_move_ways
  obtain ⟨a_Book_row, d_Book_row, F_Book_row, m_Book_row⟩ := T.F_Book_row
  have b_Book_row := bd_Book_row F_Book_row
  have k_Book_row := F_Book_row.kp
  have g_Book_row := ok_Book_row (P := P) (w := w) (base := base) T B F_Book_row
  obtain ⟨a_along, d_along, F_along, m_along⟩ := T.F_along
  have b_along := bd_along F_along
  have k_along := F_along.kp
  have g_along := ok_along (P := P) (w := w) (base := base) T B F_along
  obtain ⟨t_HOME, c_HOME⟩ := T.g_HOME
  obtain ⟨t_MOVE, c_MOVE⟩ := T.g_MOVE
  obtain ⟨t_OFF, c_OFF⟩ := T.g_OFF
  obtain ⟨t_SET, c_SET⟩ := T.g_SET
  refine fnG_D F sc_move_plan rfl rfl fun cdv A outer s H E hg hr => ?_
  have tk := takes_cx (P := P) (w := w) (K := K) (mg := mg) (base := base) (N := ["book", "tree", "home", "target", "found", "word", "home_way", "target_way"]) (qual := "move_plan") (scope := defScope s_move_plan) (f := f) (cdv := cdv) (A := A) (outer := outer) (s := s) (H := H) (E := E)
  have hu := hu64 hr
  have hu7 := hu70 hr
  exact (zCons (zAsg (ng_tup (ngs_cons ng_name (ngs_cons ng_name ngs_nil))) (xCall (cg_fn g_move_ways hg (hr.mono (by decide)) (passesX tk) b_move_ways) rfl m_move_ways k_move_ways (xaCons (xV 0) (xaCons (xV 1) (xaCons (xV 2) (xaCons (xV 3) xaNil))))) (gT_ok rfl (gsCons_ok (gName_ok (i := 6) sc_move_plan.nd rfl (Or.inl rfl)) (gsCons_ok (gName_ok (i := 7) sc_move_plan.nd rfl (Or.inl rfl)) gsNil_ok))))
    (zCons (zSet (i := 4) sc_move_plan.nd rfl (Or.inl rfl) (xLst xaNil))
    (zCons (zFor (passes_of rfl) rfl (iSeq_ok (xMeth (c := 1) (nf_row _ _ _ _ _ _ _ _ _) (xV 0) T.cls_Book m_Book_row (cg_fn g_Book_row hg (hr.mono (by decide)) passes0 b_Book_row) (xaCons (xGlob (v := .str "move") rfl c_MOVE ⟨_, rfl⟩ (fun _ _ _ => .str _)) xaNil))) (gName_ok (i := 5) sc_move_plan.nd rfl (Or.inl rfl)) (zCons (zIf (yCmp (eq_ok hu) (isB_eq false) (xV 5) (xGlob (v := .str "off") rfl c_OFF ⟨_, rfl⟩ (fun _ _ _ => .str _)) (nomark _)) (zCons (zE (xExtend (xV 4) (xaCons (xCall (cg_fn g_along hg (hr.mono (by decide)) passes0 b_along) rfl m_along k_along (xaCons (xV 5) (xaCons (xV 6) xaNil))) xaNil)))
    zNil) (zCons (zIf (yCmp in_ok (isB_in false) (xV 5) (xTup (xaCons (xGlob (v := .str "home") rfl c_HOME ⟨_, rfl⟩ (fun _ _ _ => .str _)) (xaCons (xGlob (v := .str "set") rfl c_SET ⟨_, rfl⟩ (fun _ _ _ => .str _)) xaNil))) rfl) (zCons (zE (xAppend (xV 4) (xaCons (xTup (xaCons (xV 5) (xaCons xNon xaNil))) xaNil)))
    zNil) (zCons (zE (xExtend (xV 4) (xaCons (xCall (cg_fn g_along hg (hr.mono (by decide)) passes0 b_along) rfl m_along k_along (xaCons (xV 5) (xaCons (xV 7) xaNil))) xaNil)))
    zNil))
    zNil))
    zNil))
    (zCons (zRet (xV 4))
    zNil))))
theorem ok_Tree_parent (T : Tx K mg C_Tree C_Book C_IsTop C_InvalidGroup C_WayError c__law_spots_let_ P__law_spots_let_ c__law_spots_refused_ P__law_spots_refused_)  (B : Bx base mg C_Tree C_Book C_IsTop C_InvalidGroup C_WayError c__law_spots_let_ P__law_spots_let_ c__law_spots_refused_ P__law_spots_refused_) {f : Addr} {fd : FuncData} (F : FunD K "parent" "Tree.parent" (defArgs s_Tree_parent) (defBody s_Tree_parent) (defScope s_Tree_parent) [] [] f fd) : FnG P w K mg base (L2.CX P w) 4 f fd ["self", "group"] (spF (mkG C_Tree C_Book C_IsTop C_InvalidGroup C_WayError c__law_spots_let_ P__law_spots_let_ c__law_spots_refused_ P__law_spots_refused_) K f_Tree_parent) := by
  obtain ⟨a_Tree_want_group, d_Tree_want_group, F_Tree_want_group, m_Tree_want_group⟩ := T.F_Tree_want_group
  have b_Tree_want_group := bd_Tree_want_group F_Tree_want_group
  have k_Tree_want_group := F_Tree_want_group.kp
  have g_Tree_want_group := ok_Tree_want_group (P := P) (w := w) (base := base) T B F_Tree_want_group
  obtain ⟨t_TOP, c_TOP⟩ := T.g_TOP
  refine fnG_D F sc_Tree_parent rfl rfl fun cdv A outer s H E hg hr => ?_
  have tk := takes_cx (P := P) (w := w) (K := K) (mg := mg) (base := base) (N := ["self", "group"]) (qual := "Tree.parent") (scope := defScope s_Tree_parent) (f := f) (cdv := cdv) (A := A) (outer := outer) (s := s) (H := H) (E := E)
  have hu := hu64 hr
  have hu7 := hu70 hr
  exact (zCons (zE (xMeth (c := 0) (nf_want_group _ _ _ _ _ _ _ _ _) (xV 0) T.cls_Tree m_Tree_want_group (cg_fn g_Tree_want_group hg (hr.mono (by decide)) (passesX tk) b_Tree_want_group) (xaCons (xV 1) xaNil)))
    (zCons (zRet (xIf (yCmp (eq_ok hu) (isB_eq false) (xV 1) (xGlob (v := .int 0) rfl c_TOP ⟨_, rfl⟩ (fun _ _ _ => .int _)) (nomark _)) xNon (xIx (xFld (c := 0) (i := 0) (by show 0 < 9; decide) T.cls_Tree T.na_own_parents (xV 0)) (x2 sub_ok (xV 1) xInt))))
    zNil))
theorem ok_lift_plan (T : Tx K mg C_Tree C_Book C_IsTop C_InvalidGroup C_WayError c__law_spots_let_ P__law_spots_let_ c__law_spots_refused_ P__law_spots_refused_)  (B : Bx base mg C_Tree C_Book C_IsTop C_InvalidGroup C_WayError c__law_spots_let_ P__law_spots_let_ c__law_spots_refused_ P__law_spots_refused_) {f : Addr} {fd : FuncData} (F : FunD K "lift_plan" "lift_plan" (defArgs s_lift_plan) (defBody s_lift_plan) (defScope s_lift_plan) [] [] f fd) : FnG P w K mg base (L2.CX P w) 5 f fd ["book", "tree", "home"] (spF (mkG C_Tree C_Book C_IsTop C_InvalidGroup C_WayError c__law_spots_let_ P__law_spots_let_ c__law_spots_refused_ P__law_spots_refused_) K f_lift_plan) := by
  obtain ⟨a_Tree_parent, d_Tree_parent, F_Tree_parent, m_Tree_parent⟩ := T.F_Tree_parent
  have b_Tree_parent := bd_Tree_parent F_Tree_parent
  have k_Tree_parent := F_Tree_parent.kp
  have g_Tree_parent := ok_Tree_parent (P := P) (w := w) (base := base) T B F_Tree_parent
  obtain ⟨a_Book_row, d_Book_row, F_Book_row, m_Book_row⟩ := T.F_Book_row
  have b_Book_row := bd_Book_row F_Book_row
  have k_Book_row := F_Book_row.kp
  have g_Book_row := ok_Book_row (P := P) (w := w) (base := base) T B F_Book_row
  obtain ⟨t_BOTH, c_BOTH⟩ := T.g_BOTH
  obtain ⟨t_LIFT, c_LIFT⟩ := T.g_LIFT
  obtain ⟨t_OFF, c_OFF⟩ := T.g_OFF
  refine fnG_D F sc_lift_plan rfl rfl fun cdv A outer s H E hg hr => ?_
  have tk := takes_cx (P := P) (w := w) (K := K) (mg := mg) (base := base) (N := ["book", "tree", "home", "word"]) (qual := "lift_plan") (scope := defScope s_lift_plan) (f := f) (cdv := cdv) (A := A) (outer := outer) (s := s) (H := H) (E := E)
  have hu := hu64 hr
  have hu7 := hu70 hr
  exact (zCons (zIf (yIsN (xMeth (c := 0) (nf_parent _ _ _ _ _ _ _ _ _) (xV 1) T.cls_Tree m_Tree_parent (cg_fn g_Tree_parent hg (hr.mono (by decide)) (passesX tk) b_Tree_parent) (xaCons (xV 2) xaNil))) (zCons (zRaise0 (c := 2) rfl tk base_RT T.xq_IsTop T.xk_IsTop T.xs_IsTop T.xt_IsTop rfl T.mg_IsTop)
    zNil) zNil)
    (zCons (zRet (xComp rfl sc_lift_plan.nd (iSeq_ok (xMeth (c := 1) (nf_row _ _ _ _ _ _ _ _ _) (xV 0) T.cls_Book m_Book_row (cg_fn g_Book_row hg (hr.mono (by decide)) passes0 b_Book_row) (xaCons (xGlob (v := .str "lift") rfl c_LIFT ⟨_, rfl⟩ (fun _ _ _ => .str _)) xaNil))) (blkOk_by (N := ["book", "tree", "home", "word"]) (sc := defScope s_lift_plan) (own := [("word", 3)]) (by decide +kernel)) rfl (tg1 3) (fun _ _ _ _ _ => pg_name (i := 3) sc_lift_plan.nd rfl (Or.inl rfl)) (fun _ _ _ _ _ => ptsNil) (fun _ _ _ _ _ => (xTup (xaCons (xV 3) (xaCons (xIf (yCmp in_ok (isB_in false) (xV 3) (xTup (xaCons (xGlob (v := .str "off") rfl c_OFF ⟨_, rfl⟩ (fun _ _ _ => .str _)) (xaCons (xGlob (v := .str "both") rfl c_BOTH ⟨_, rfl⟩ (fun _ _ _ => .str _)) xaNil))) rfl) (xV 2) xNon) xaNil))))))
    zNil))
theorem ok__law_spots_let (T : Tx K mg C_Tree C_Book C_IsTop C_InvalidGroup C_WayError c__law_spots_let_ P__law_spots_let_ c__law_spots_refused_ P__law_spots_refused_)  (B : Bx base mg C_Tree C_Book C_IsTop C_InvalidGroup C_WayError c__law_spots_let_ P__law_spots_let_ c__law_spots_refused_ P__law_spots_refused_) {f : Addr} {fd : FuncData} (F : FunD K "_law_spots_let" "_law_spots_let" (defArgs s__law_spots_let) (defBody s__law_spots_let) (defScope s__law_spots_let) [] [] f fd) (M : FunM K "_law_spots_let" "_law_spots_let" (defArgs s__law_spots_let) (defBody s__law_spots_let) (defScope s__law_spots_let) c__law_spots_let_ f fd) : FnG P w K mg base CX0 10 f fd ["_law_made", "_law_wood", "_law_many"] (spF (mkG C_Tree C_Book C_IsTop C_InvalidGroup C_WayError c__law_spots_let_ P__law_spots_let_ c__law_spots_refused_ P__law_spots_refused_) K f__law_spots_let) := by
  obtain ⟨a__law_told, d__law_told, F__law_told, m__law_told⟩ := T.F__law_told
  have b__law_told := bd__law_told F__law_told
  have k__law_told := F__law_told.kp
  obtain ⟨a_take_plan, d_take_plan, F_take_plan, m_take_plan⟩ := T.F_take_plan
  have b_take_plan := bd_take_plan F_take_plan
  have k_take_plan := F_take_plan.kp
  have g_take_plan := ok_take_plan (P := P) (w := w) (base := base) T B F_take_plan
  obtain ⟨a_give_plan, d_give_plan, F_give_plan, m_give_plan⟩ := T.F_give_plan
  have b_give_plan := bd_give_plan F_give_plan
  have k_give_plan := F_give_plan.kp
  have g_give_plan := ok_give_plan (P := P) (w := w) (base := base) T B F_give_plan
  obtain ⟨a_settle_plan, d_settle_plan, F_settle_plan, m_settle_plan⟩ := T.F_settle_plan
  have b_settle_plan := bd_settle_plan F_settle_plan
  have k_settle_plan := F_settle_plan.kp
  have g_settle_plan := ok_settle_plan (P := P) (w := w) (base := base) T B F_settle_plan
  obtain ⟨a_move_plan, d_move_plan, F_move_plan, m_move_plan⟩ := T.F_move_plan
  have b_move_plan := bd_move_plan F_move_plan
  have k_move_plan := F_move_plan.kp
  have g_move_plan := ok_move_plan (P := P) (w := w) (base := base) T B F_move_plan
  obtain ⟨a_lift_plan, d_lift_plan, F_lift_plan, m_lift_plan⟩ := T.F_lift_plan
  have b_lift_plan := bd_lift_plan F_lift_plan
  have k_lift_plan := F_lift_plan.kp
  have g_lift_plan := ok_lift_plan (P := P) (w := w) (base := base) T B F_lift_plan
  refine fnG_M M sc__law_spots_let rfl rfl fun A outer s H E hg hr => PSs.nox ?_
  have hu := hu64 hr
  have hu7 := hu70 hr
  exact (zCons (zFor PassesOwn.never rfl (iSeq_ok (xLst (xaCons xInt (xaCons (bltn (min_okB rfl) rfl T.b_min (by decide +kernel) (xaCons xInt (xaCons (x2 sub_ok (xV 2) xInt) xaNil))) (xaCons (x2 sub_ok (xV 2) xInt) (xaCons (x2 div_ok (xV 2) xInt) xaNil)))))) (gName_ok (i := 3) sc__law_spots_let.nd rfl (Or.inr rfl)) (zCons (zSet (i := 4) sc__law_spots_let.nd rfl (Or.inl rfl) (xLst (xaCons (xTold (n := 1) (k := 5) F__law_told sc__law_told rfl rfl (Or.inl rfl) (fun _ _ _ _ _ _ us hl => match us, hl with | [_], _ => rfl) ((told__law_told T (g := a__law_told)).up (by decide)) rfl m__law_told B.b__law_spots_let rfl in__law_spots_let (un__law_spots_let T) hg (hr.mono (by decide)) (LamX.lamS_by rfl) rfl (fun _ _ _ _ _ => rfl) (fun f c' A outer s H E hg hr => by have hu := hu64 hr; have hu7 := hu70 hr; exact (xCall (cg_fn g_take_plan hg (hr.mono (by decide)) (passesX takesL) b_take_plan) rfl m_take_plan k_take_plan (xaCons (xV 0) (xaCons (xV 1) (xaCons (xV 3) xaNil)))))) xaNil)))
    (zCons (zE (xAppend (xV 4) (xaCons (xTold (n := 1) (k := 5) F__law_told sc__law_told rfl rfl (Or.inl rfl) (fun _ _ _ _ _ _ us hl => match us, hl with | [_], _ => rfl) ((told__law_told T (g := a__law_told)).up (by decide)) rfl m__law_told B.b__law_spots_let rfl in__law_spots_let (un__law_spots_let T) hg (hr.mono (by decide)) (LamX.lamS_by rfl) rfl (fun _ _ _ _ _ => rfl) (fun f c' A outer s H E hg hr => by have hu := hu64 hr; have hu7 := hu70 hr; exact (xCall (cg_fn g_give_plan hg (hr.mono (by decide)) (passesX takesL) b_give_plan) rfl m_give_plan k_give_plan (xaCons (xV 0) (xaCons (xV 1) (xaCons (xV 3) xaNil)))))) xaNil)))
    (zCons (zE (xAppend (xV 4) (xaCons (xTold (n := 1) (k := 5) F__law_told sc__law_told rfl rfl (Or.inl rfl) (fun _ _ _ _ _ _ us hl => match us, hl with | [_], _ => rfl) ((told__law_told T (g := a__law_told)).up (by decide)) rfl m__law_told B.b__law_spots_let rfl in__law_spots_let (un__law_spots_let T) hg (hr.mono (by decide)) (LamX.lamS_by rfl) rfl (fun _ _ _ _ _ => rfl) (fun f c' A outer s H E hg hr => by have hu := hu64 hr; have hu7 := hu70 hr; exact (xCall (cg_fn g_settle_plan hg (hr.mono (by decide)) (passesX takesL) b_settle_plan) rfl m_settle_plan k_settle_plan (xaCons (xV 1) (xaCons (xV 3) xaNil))))) xaNil)))
    (zCons (zE (xAppend (xV 4) (xaCons (xTold (n := 1) (k := 7) F__law_told sc__law_told rfl rfl (Or.inl rfl) (fun _ _ _ _ _ _ us hl => match us, hl with | [_], _ => rfl) ((told__law_told T (g := a__law_told)).up (by decide)) rfl m__law_told B.b__law_spots_let rfl in__law_spots_let (un__law_spots_let T) hg (hr.mono (by decide)) (LamX.lamS_by rfl) rfl (fun _ _ _ _ _ => rfl) (fun f c' A outer s H E hg hr => by have hu := hu64 hr; have hu7 := hu70 hr; exact (xCall (cg_fn g_move_plan hg (hr.mono (by decide)) (passesX takesL) b_move_plan) rfl m_move_plan k_move_plan (xaCons (xV 0) (xaCons (xV 1) (xaCons (xV 3) (xaCons (x2 sub_ok (xV 2) xInt) xaNil))))))) xaNil)))
    (zCons (zE (xAppend (xV 4) (xaCons (xTold (n := 1) (k := 7) F__law_told sc__law_told rfl rfl (Or.inl rfl) (fun _ _ _ _ _ _ us hl => match us, hl with | [_], _ => rfl) ((told__law_told T (g := a__law_told)).up (by decide)) rfl m__law_told B.b__law_spots_let rfl in__law_spots_let (un__law_spots_let T) hg (hr.mono (by decide)) (LamX.lamS_by rfl) rfl (fun _ _ _ _ _ => rfl) (fun f c' A outer s H E hg hr => by have hu := hu64 hr; have hu7 := hu70 hr; exact (xCall (cg_fn g_move_plan hg (hr.mono (by decide)) (passesX takesL) b_move_plan) rfl m_move_plan k_move_plan (xaCons (xV 0) (xaCons (xV 1) (xaCons xInt (xaCons (xV 3) xaNil))))))) xaNil)))
    (zCons (zE (xAppend (xV 4) (xaCons (xTold (n := 1) (k := 5) F__law_told sc__law_told rfl rfl (Or.inl rfl) (fun _ _ _ _ _ _ us hl => match us, hl with | [_], _ => rfl) ((told__law_told T (g := a__law_told)).up (by decide)) rfl m__law_told B.b__law_spots_let rfl in__law_spots_let (un__law_spots_let T) hg (hr.mono (by decide)) (LamX.lamS_by rfl) rfl (fun _ _ _ _ _ => rfl) (fun f c' A outer s H E hg hr => by have hu := hu64 hr; have hu7 := hu70 hr; exact (xCall (cg_fn g_lift_plan hg (hr.mono (by decide)) (passesX takesL) b_lift_plan) rfl m_lift_plan k_lift_plan (xaCons (xV 0) (xaCons (xV 1) (xaCons (xV 3) xaNil)))))) xaNil)))
    (zCons (zIf (yCmp (ne_ok hu) (isB_eq true) (xV 4) (x2 add_ok (x2 mul_ok (xLst (xaCons (xLst (xaCons xStr (xaCons xBl xaNil))) xaNil)) xInt) (xLst (xaCons (xIf (yCmp (eq_ok hu) (isB_eq false) (xV 3) xInt (nomark _)) (xLst (xaCons xStr xaNil)) (xLst (xaCons xStr (xaCons xBl xaNil)))) xaNil))) (nomark _)) (zCons (zRet xBl)
    zNil) zNil)
    zNil))))))))
    (zCons (zRet xBl)
    zNil))
theorem ok__law_odd (T : Tx K mg C_Tree C_Book C_IsTop C_InvalidGroup C_WayError c__law_spots_let_ P__law_spots_let_ c__law_spots_refused_ P__law_spots_refused_)  (B : Bx base mg C_Tree C_Book C_IsTop C_InvalidGroup C_WayError c__law_spots_let_ P__law_spots_let_ c__law_spots_refused_ P__law_spots_refused_) {f : Addr} {fd : FuncData} (F : FunD K "_law_odd" "_law_odd" (defArgs s__law_odd) (defBody s__law_odd) (defScope s__law_odd) [] [] f fd) : FnG P w K mg base CX0 3 f fd ["_law_pot_here", "_law_many"] (spF (mkG C_Tree C_Book C_IsTop C_InvalidGroup C_WayError c__law_spots_let_ P__law_spots_let_ c__law_spots_refused_ P__law_spots_refused_) K f__law_odd) := by
  obtain ⟨a__law_pick, d__law_pick, F__law_pick, m__law_pick⟩ := T.F__law_pick
  have b__law_pick := bd__law_pick F__law_pick
  have k__law_pick := F__law_pick.kp
  have g__law_pick := ok__law_pick (P := P) (w := w) (base := base) T B F__law_pick
  refine fnG_D F sc__law_odd rfl rfl fun cdv A outer s H E hg hr => PSs.nox ?_
  have hu := hu64 hr
  have hu7 := hu70 hr
  exact (zCons (zSet (i := 2) sc__law_odd.nd rfl (Or.inl rfl) (xLst (xaCons (xV 1) (xaCons (x2 add_ok (xV 1) xInt) (xaCons (xNeg xInt) (xaCons (x2 sub_ok xInt (xV 1)) (xaCons (x2 pow_ok xInt xInt) (xaCons (x2 sub_ok (x2 sub_ok xInt (x2 pow_ok xInt xInt)) xInt) xaNil))))))))
    (zCons (zSet (i := 3) sc__law_odd.nd rfl (Or.inl rfl) (xLst (xaCons xNon (xaCons xBl (xaCons xBl (xaCons xStr (xaCons xStr (xaCons xStr (xaCons (xTup xaNil) (xaCons (xTup (xaCons xInt xaNil)) (xaCons (xLst (xaCons xInt xaNil)) (xaCons (xLst xaNil) (xaCons xDnew (xaCons (xDisp (ppCons xInt xInt ppNil)) xaNil))))))))))))))
    (zCons (zRet (xCall (cg_fn g__law_pick hg (hr.mono (by decide)) passes0 b__law_pick) rfl m__law_pick k__law_pick (xaCons (xV 0) (xaCons (x2 add_ok (xV 2) (xV 3)) xaNil))))
    zNil)))
theorem ok__law_spots_refused (T : Tx K mg C_Tree C_Book C_IsTop C_InvalidGroup C_WayError c__law_spots_let_ P__law_spots_let_ c__law_spots_refused_ P__law_spots_refused_)  (B : Bx base mg C_Tree C_Book C_IsTop C_InvalidGroup C_WayError c__law_spots_let_ P__law_spots_let_ c__law_spots_refused_ P__law_spots_refused_) {f : Addr} {fd : FuncData} (F : FunD K "_law_spots_refused" "_law_spots_refused" (defArgs s__law_spots_refused) (defBody s__law_spots_refused) (defScope s__law_spots_refused) [] [] f fd) (M : FunM K "_law_spots_refused" "_law_spots_refused" (defArgs s__law_spots_refused) (defBody s__law_spots_refused) (defScope s__law_spots_refused) c__law_spots_refused_ f fd) : FnG P w K mg base CX0 10 f fd ["_law_pot_here", "_law_made", "_law_wood", "_law_many"] (spF (mkG C_Tree C_Book C_IsTop C_InvalidGroup C_WayError c__law_spots_let_ P__law_spots_let_ c__law_spots_refused_ P__law_spots_refused_) K f__law_spots_refused) := by
  obtain ⟨a__law_draw, d__law_draw, F__law_draw, m__law_draw⟩ := T.F__law_draw
  have b__law_draw := bd__law_draw F__law_draw
  have k__law_draw := F__law_draw.kp
  have g__law_draw := ok__law_draw (P := P) (w := w) (base := base) T B F__law_draw
  obtain ⟨a__law_odd, d__law_odd, F__law_odd, m__law_odd⟩ := T.F__law_odd
  have b__law_odd := bd__law_odd F__law_odd
  have k__law_odd := F__law_odd.kp
  have g__law_odd := ok__law_odd (P := P) (w := w) (base := base) T B F__law_odd
  obtain ⟨a__law_told, d__law_told, F__law_told, m__law_told⟩ := T.F__law_told
  have b__law_told := bd__law_told F__law_told
  have k__law_told := F__law_told.kp
  obtain ⟨a_take_plan, d_take_plan, F_take_plan, m_take_plan⟩ := T.F_take_plan
  have b_take_plan := bd_take_plan F_take_plan
  have k_take_plan := F_take_plan.kp
  have g_take_plan := ok_take_plan (P := P) (w := w) (base := base) T B F_take_plan
  obtain ⟨a_give_plan, d_give_plan, F_give_plan, m_give_plan⟩ := T.F_give_plan
  have b_give_plan := bd_give_plan F_give_plan
  have k_give_plan := F_give_plan.kp
  have g_give_plan := ok_give_plan (P := P) (w := w) (base := base) T B F_give_plan
  obtain ⟨a_lift_plan, d_lift_plan, F_lift_plan, m_lift_plan⟩ := T.F_lift_plan
  have b_lift_plan := bd_lift_plan F_lift_plan
  have k_lift_plan := F_lift_plan.kp
  have g_lift_plan := ok_lift_plan (P := P) (w := w) (base := base) T B F_lift_plan
  obtain ⟨a_settle_plan, d_settle_plan, F_settle_plan, m_settle_plan⟩ := T.F_settle_plan
  have b_settle_plan := bd_settle_plan F_settle_plan
  have k_settle_plan := F_settle_plan.kp
  have g_settle_plan := ok_settle_plan (P := P) (w := w) (base := base) T B F_settle_plan
  obtain ⟨a_move_plan, d_move_plan, F_move_plan, m_move_plan⟩ := T.F_move_plan
  have b_move_plan := bd_move_plan F_move_plan
  have k_move_plan := F_move_plan.kp
  have g_move_plan := ok_move_plan (P := P) (w := w) (base := base) T B F_move_plan
  refine fnG_M M sc__law_spots_refused rfl rfl fun A outer s H E hg hr => PSs.nox ?_
  have hu := hu64 hr
  have hu7 := hu70 hr
  exact (zCons (zAsg (ng_tup (ngs_cons ng_name (ngs_cons ng_name (ngs_cons ng_name ngs_nil)))) (xTup (xaCons (xCall (cg_fn g__law_odd hg (hr.mono (by decide)) passes0 b__law_odd) rfl m__law_odd k__law_odd (xaCons (xV 0) (xaCons (xV 3) xaNil))) (xaCons (xCall (cg_fn g__law_odd hg (hr.mono (by decide)) passes0 b__law_odd) rfl m__law_odd k__law_odd (xaCons (xV 0) (xaCons (xV 3) xaNil))) (xaCons (xCall (cg_fn g__law_draw hg (hr.mono (by decide)) passes0 b__law_draw) rfl m__law_draw k__law_draw (xaCons (xV 0) (xaCons (xV 3) xaNil))) xaNil)))) (gT_ok rfl (gsCons_ok (gName_ok (i := 5) sc__law_spots_refused.nd rfl (Or.inr rfl)) (gsCons_ok (gName_ok (i := 6) sc__law_spots_refused.nd rfl (Or.inr rfl)) (gsCons_ok (gName_ok (i := 7) sc__law_spots_refused.nd rfl (Or.inr rfl)) gsNil_ok)))))
    (zCons (zSet (i := 4) sc__law_spots_refused.nd rfl (Or.inl rfl) (xLst (xaCons (xTold (n := 1) (k := 5) F__law_told sc__law_told rfl rfl (Or.inl rfl) (fun _ _ _ _ _ _ us hl => match us, hl with | [_], _ => rfl) ((told__law_told T (g := a__law_told)).up (by decide)) rfl m__law_told B.b__law_spots_refused rfl in__law_spots_refused (un__law_spots_refused T) hg (hr.mono (by decide)) (LamX.lamS_by rfl) rfl (fun _ _ _ _ _ => rfl) (fun f c' A outer s H E hg hr => by have hu := hu64 hr; have hu7 := hu70 hr; exact (xCall (cg_fn g_take_plan hg (hr.mono (by decide)) (passesX takesL) b_take_plan) rfl m_take_plan k_take_plan (xaCons (xV 1) (xaCons (xV 2) (xaCons (xV 5) xaNil)))))) xaNil)))
    (zCons (zE (xAppend (xV 4) (xaCons (xTold (n := 1) (k := 5) F__law_told sc__law_told rfl rfl (Or.inl rfl) (fun _ _ _ _ _ _ us hl => match us, hl with | [_], _ => rfl) ((told__law_told T (g := a__law_told)).up (by decide)) rfl m__law_told B.b__law_spots_refused rfl in__law_spots_refused (un__law_spots_refused T) hg (hr.mono (by decide)) (LamX.lamS_by rfl) rfl (fun _ _ _ _ _ => rfl) (fun f c' A outer s H E hg hr => by have hu := hu64 hr; have hu7 := hu70 hr; exact (by refine xCall0K ?_ rfl m_take_plan k_take_plan (kCons (xV 5) (kCons (xV 1) (kCons (xV 2) kNil))); exact (cg_fn g_take_plan hg (hr.mono (by decide)) (passesX takesL) (b_take_plan_group_book_tree F_take_plan))))) xaNil)))
    (zCons (zE (xAppend (xV 4) (xaCons (xTold (n := 1) (k := 5) F__law_told sc__law_told rfl rfl (Or.inl rfl) (fun _ _ _ _ _ _ us hl => match us, hl with | [_], _ => rfl) ((told__law_told T (g := a__law_told)).up (by decide)) rfl m__law_told B.b__law_spots_refused rfl in__law_spots_refused (un__law_spots_refused T) hg (hr.mono (by decide)) (LamX.lamS_by rfl) rfl (fun _ _ _ _ _ => rfl) (fun f c' A outer s H E hg hr => by have hu := hu64 hr; have hu7 := hu70 hr; exact (xCall (cg_fn g_give_plan hg (hr.mono (by decide)) (passesX takesL) b_give_plan) rfl m_give_plan k_give_plan (xaCons (xV 1) (xaCons (xV 2) (xaCons (xV 5) xaNil)))))) xaNil)))
    (zCons (zE (xAppend (xV 4) (xaCons (xTold (n := 1) (k := 5) F__law_told sc__law_told rfl rfl (Or.inl rfl) (fun _ _ _ _ _ _ us hl => match us, hl with | [_], _ => rfl) ((told__law_told T (g := a__law_told)).up (by decide)) rfl m__law_told B.b__law_spots_refused rfl in__law_spots_refused (un__law_spots_refused T) hg (hr.mono (by decide)) (LamX.lamS_by rfl) rfl (fun _ _ _ _ _ => rfl) (fun f c' A outer s H E hg hr => by have hu := hu64 hr; have hu7 := hu70 hr; exact (by refine xCall0K ?_ rfl m_give_plan k_give_plan (kCons (xV 5) (kCons (xV 2) (kCons (xV 1) kNil))); exact (cg_fn g_give_plan hg (hr.mono (by decide)) (passesX takesL) (b_give_plan_home_tree_book F_give_plan))))) xaNil)))
    (zCons (zE (xAppend (xV 4) (xaCons (xTold (n := 1) (k := 5) F__law_told sc__law_told rfl rfl (Or.inl rfl) (fun _ _ _ _ _ _ us hl => match us, hl with | [_], _ => rfl) ((told__law_told T (g := a__law_told)).up (by decide)) rfl m__law_told B.b__law_spots_refused rfl in__law_spots_refused (un__law_spots_refused T) hg (hr.mono (by decide)) (LamX.lamS_by rfl) rfl (fun _ _ _ _ _ => rfl) (fun f c' A outer s H E hg hr => by have hu := hu64 hr; have hu7 := hu70 hr; exact (xCall (cg_fn g_lift_plan hg (hr.mono (by decide)) (passesX takesL) b_lift_plan) rfl m_lift_plan k_lift_plan (xaCons (xV 1) (xaCons (xV 2) (xaCons (xV 5) xaNil)))))) xaNil)))
    (zCons (zE (xAppend (xV 4) (xaCons (xTold (n := 1) (k := 5) F__law_told sc__law_told rfl rfl (Or.inl rfl) (fun _ _ _ _ _ _ us hl => match us, hl with | [_], _ => rfl) ((told__law_told T (g := a__law_told)).up (by decide)) rfl m__law_told B.b__law_spots_refused rfl in__law_spots_refused (un__law_spots_refused T) hg (hr.mono (by decide)) (LamX.lamS_by rfl) rfl (fun _ _ _ _ _ => rfl) (fun f c' A outer s H E hg hr => by have hu := hu64 hr; have hu7 := hu70 hr; exact (by refine xCall0K ?_ rfl m_lift_plan k_lift_plan (kCons (xV 1) (kCons (xV 2) (kCons (xV 5) kNil))); exact (cg_fn g_lift_plan hg (hr.mono (by decide)) (passesX takesL) (b_lift_plan_book_tree_home F_lift_plan))))) xaNil)))
    (zCons (zE (xAppend (xV 4) (xaCons (xTold (n := 1) (k := 5) F__law_told sc__law_told rfl rfl (Or.inl rfl) (fun _ _ _ _ _ _ us hl => match us, hl with | [_], _ => rfl) ((told__law_told T (g := a__law_told)).up (by decide)) rfl m__law_told B.b__law_spots_refused rfl in__law_spots_refused (un__law_spots_refused T) hg (hr.mono (by decide)) (LamX.lamS_by rfl) rfl (fun _ _ _ _ _ => rfl) (fun f c' A outer s H E hg hr => by have hu := hu64 hr; have hu7 := hu70 hr; exact (xCall (cg_fn g_settle_plan hg (hr.mono (by decide)) (passesX takesL) b_settle_plan) rfl m_settle_plan k_settle_plan (xaCons (xV 2) (xaCons (xV 5) xaNil))))) xaNil)))
    (zCons (zE (xAppend (xV 4) (xaCons (xTold (n := 1) (k := 5) F__law_told sc__law_told rfl rfl (Or.inl rfl) (fun _ _ _ _ _ _ us hl => match us, hl with | [_], _ => rfl) ((told__law_told T (g := a__law_told)).up (by decide)) rfl m__law_told B.b__law_spots_refused rfl in__law_spots_refused (un__law_spots_refused T) hg (hr.mono (by decide)) (LamX.lamS_by rfl) rfl (fun _ _ _ _ _ => rfl) (fun f c' A outer s H E hg hr => by have hu := hu64 hr; have hu7 := hu70 hr; exact (by refine xCall0K ?_ rfl m_settle_plan k_settle_plan (kCons (xV 5) (kCons (xV 2) kNil)); exact (cg_fn g_settle_plan hg (hr.mono (by decide)) (passesX takesL) (b_settle_plan_group_tree F_settle_plan))))) xaNil)))
    (zCons (zE (xAppend (xV 4) (xaCons (xTold (n := 1) (k := 7) F__law_told sc__law_told rfl rfl (Or.inl rfl) (fun _ _ _ _ _ _ us hl => match us, hl with | [_], _ => rfl) ((told__law_told T (g := a__law_told)).up (by decide)) rfl m__law_told B.b__law_spots_refused rfl in__law_spots_refused (un__law_spots_refused T) hg (hr.mono (by decide)) (LamX.lamS_by rfl) rfl (fun _ _ _ _ _ => rfl) (fun f c' A outer s H E hg hr => by have hu := hu64 hr; have hu7 := hu70 hr; exact (xCall (cg_fn g_move_plan hg (hr.mono (by decide)) (passesX takesL) b_move_plan) rfl m_move_plan k_move_plan (xaCons (xV 1) (xaCons (xV 2) (xaCons (xV 5) (xaCons (xV 6) xaNil))))))) xaNil)))
    (zCons (zE (xAppend (xV 4) (xaCons (xTold (n := 1) (k := 7) F__law_told sc__law_told rfl rfl (Or.inl rfl) (fun _ _ _ _ _ _ us hl => match us, hl with | [_], _ => rfl) ((told__law_told T (g := a__law_told)).up (by decide)) rfl m__law_told B.b__law_spots_refused rfl in__law_spots_refused (un__law_spots_refused T) hg (hr.mono (by decide)) (LamX.lamS_by rfl) rfl (fun _ _ _ _ _ => rfl) (fun f c' A outer s H E hg hr => by have hu := hu64 hr; have hu7 := hu70 hr; exact (xCall (cg_fn g_move_plan hg (hr.mono (by decide)) (passesX takesL) b_move_plan) rfl m_move_plan k_move_plan (xaCons (xV 1) (xaCons (xV 2) (xaCons (xV 5) (xaCons (xV 7) xaNil))))))) xaNil)))
    (zCons (zE (xAppend (xV 4) (xaCons (xTold (n := 1) (k := 7) F__law_told sc__law_told rfl rfl (Or.inl rfl) (fun _ _ _ _ _ _ us hl => match us, hl with | [_], _ => rfl) ((told__law_told T (g := a__law_told)).up (by decide)) rfl m__law_told B.b__law_spots_refused rfl in__law_spots_refused (un__law_spots_refused T) hg (hr.mono (by decide)) (LamX.lamS_by rfl) rfl (fun _ _ _ _ _ => rfl) (fun f c' A outer s H E hg hr => by have hu := hu64 hr; have hu7 := hu70 hr; exact (by refine xCall0K ?_ rfl m_move_plan k_move_plan (kCons (xV 6) (kCons (xV 5) (kCons (xV 2) (kCons (xV 1) kNil)))); exact (cg_fn g_move_plan hg (hr.mono (by decide)) (passesX takesL) (b_move_plan_target_home_tree_book F_move_plan))))) xaNil)))
    (zCons (zE (xAppend (xV 4) (xaCons (xTold (n := 1) (k := 7) F__law_told sc__law_told rfl rfl (Or.inl rfl) (fun _ _ _ _ _ _ us hl => match us, hl with | [_], _ => rfl) ((told__law_told T (g := a__law_told)).up (by decide)) rfl m__law_told B.b__law_spots_refused rfl in__law_spots_refused (un__law_spots_refused T) hg (hr.mono (by decide)) (LamX.lamS_by rfl) rfl (fun _ _ _ _ _ => rfl) (fun f c' A outer s H E hg hr => by have hu := hu64 hr; have hu7 := hu70 hr; exact (xCall (cg_fn g_move_plan hg (hr.mono (by decide)) (passesX takesL) b_move_plan) rfl m_move_plan k_move_plan (xaCons (xV 1) (xaCons (xV 2) (xaCons (xV 7) (xaCons (xV 5) xaNil))))))) xaNil)))
    (zCons (zE (xAppend (xV 4) (xaCons (xTold (n := 1) (k := 7) F__law_told sc__law_told rfl rfl (Or.inl rfl) (fun _ _ _ _ _ _ us hl => match us, hl with | [_], _ => rfl) ((told__law_told T (g := a__law_told)).up (by decide)) rfl m__law_told B.b__law_spots_refused rfl in__law_spots_refused (un__law_spots_refused T) hg (hr.mono (by decide)) (LamX.lamS_by rfl) rfl (fun _ _ _ _ _ => rfl) (fun f c' A outer s H E hg hr => by have hu := hu64 hr; have hu7 := hu70 hr; exact (by refine xCall0K ?_ rfl m_move_plan k_move_plan (kCons (xV 7) (kCons (xV 5) (kCons (xV 2) (kCons (xV 1) kNil)))); exact (cg_fn g_move_plan hg (hr.mono (by decide)) (passesX takesL) (b_move_plan_home_target_tree_book F_move_plan))))) xaNil)))
    (zCons (zRet (xCmp (eq_ok hu) (bltn (repK_ok hg hu7) rfl T.b_repr (by decide +kernel) (xaCons (xV 4) xaNil)) (bltn (repK_ok hg hu7) rfl T.b_repr (by decide +kernel) (xaCons (x2 mul_ok (xLst (xaCons (xLst (xaCons xStr (xaCons (xV 5) (xaCons xBl xaNil)))) xaNil)) xInt) xaNil)) (nomark _)))
    zNil)))))))))))))))
theorem ok_Book_others (T : Tx K mg C_Tree C_Book C_IsTop C_InvalidGroup C_WayError c__law_spots_let_ P__law_spots_let_ c__law_spots_refused_ P__law_spots_refused_)  (B : Bx base mg C_Tree C_Book C_IsTop C_InvalidGroup C_WayError c__law_spots_let_ P__law_spots_let_ c__law_spots_refused_ P__law_spots_refused_) {f : Addr} {fd : FuncData} (F : FunD K "others" "Book.others" (defArgs s_Book_others) (defBody s_Book_others) (defScope s_Book_others) [] [] f fd) : FnG P w K mg base CX0 1 f fd ["self"] (spF (mkG C_Tree C_Book C_IsTop C_InvalidGroup C_WayError c__law_spots_let_ P__law_spots_let_ c__law_spots_refused_ P__law_spots_refused_) K f_Book_others) := by
  refine fnG_D F sc_Book_others rfl rfl fun cdv A outer s H E hg hr => PSs.nox ?_
  have hu := hu64 hr
  have hu7 := hu70 hr
  exact (zCons (zRet (xLst (xaStarV rfl (xFld (c := 1) (i := 2) (by show 2 < 9; decide) T.cls_Book T.na_own_rows (xV 0)) (xaCons (xFld (c := 1) (i := 3) (by show 3 < 9; decide) T.cls_Book T.na_own_fails (xV 0)) (xaCons (xFld (c := 1) (i := 4) (by show 4 < 9; decide) T.cls_Book T.na_own_shared (xV 0)) (xaCons (xFld (c := 1) (i := 6) (by show 6 < 9; decide) T.cls_Book T.na_own_batch (xV 0)) (xaCons (xFld (c := 1) (i := 7) (by show 7 < 9; decide) T.cls_Book T.na_own_settles (xV 0)) xaNil)))))))
    zNil)
theorem ok_Book___eq__ (T : Tx K mg C_Tree C_Book C_IsTop C_InvalidGroup C_WayError c__law_spots_let_ P__law_spots_let_ c__law_spots_refused_ P__law_spots_refused_)  (B : Bx base mg C_Tree C_Book C_IsTop C_InvalidGroup C_WayError c__law_spots_let_ P__law_spots_let_ c__law_spots_refused_ P__law_spots_refused_) {f : Addr} {fd : FuncData} (F : FunD K "__eq__" "Book.__eq__" (defArgs s_Book___eq__) (defBody s_Book___eq__) (defScope s_Book___eq__) [] [] f fd) : FnG P w K mg base CX0 2 f fd ["self", "other"] (spF (mkG C_Tree C_Book C_IsTop C_InvalidGroup C_WayError c__law_spots_let_ P__law_spots_let_ c__law_spots_refused_ P__law_spots_refused_) K f_Book___eq__) := by
  obtain ⟨a_Book_others, d_Book_others, F_Book_others, m_Book_others⟩ := T.F_Book_others
  have b_Book_others := bd_Book_others F_Book_others
  have k_Book_others := F_Book_others.kp
  have g_Book_others := ok_Book_others (P := P) (w := w) (base := base) T B F_Book_others
  refine fnG_D F sc_Book___eq__ rfl rfl fun cdv A outer s H E hg hr => PSs.nox ?_
  have hu := hu64 hr
  have hu7 := hu70 hr
  exact (zCons (zRet (xAndB (xIsO (f := is1) rfl T.b_isinstance rfl T.mg_Book (fun c b h => is1_ok T.ci_Book c b h) (kit_own T.ck_Book) (xV 1)) (xAndB (xCmp (eq_ok hu) (xMeth0 (c := 1) (nf_others _ _ _ _ _ _ _ _ _) (xV 0) T.cls_Book m_Book_others (cg_fn g_Book_others hg (hr.mono (by decide)) passes0 b_Book_others)) (xMeth0 (c := 1) (nf_others _ _ _ _ _ _ _ _ _) (xV 1) T.cls_Book m_Book_others (cg_fn g_Book_others hg (hr.mono (by decide)) passes0 b_Book_others)) (nomark _)) (xOne (xCmp (eq_ok hu) (xFld (c := 1) (i := 5) (by show 5 < 9; decide) T.cls_Book T.na_own_holds (xV 0)) (xFld (c := 1) (i := 5) (by show 5 < 9; decide) T.cls_Book T.na_own_holds (xV 1)) (nomark _))))))
    zNil)
theorem ok_Tree___eq__ (T : Tx K mg C_Tree C_Book C_IsTop C_InvalidGroup C_WayError c__law_spots_let_ P__law_spots_let_ c__law_spots_refused_ P__law_spots_refused_)  (B : Bx base mg C_Tree C_Book C_IsTop C_InvalidGroup C_WayError c__law_spots_let_ P__law_spots_let_ c__law_spots_refused_ P__law_spots_refused_) {f : Addr} {fd : FuncData} (F : FunD K "__eq__" "Tree.__eq__" (defArgs s_Tree___eq__) (defBody s_Tree___eq__) (defScope s_Tree___eq__) [] [] f fd) : FnG P w K mg base CX0 1 f fd ["self", "other"] (spF (mkG C_Tree C_Book C_IsTop C_InvalidGroup C_WayError c__law_spots_let_ P__law_spots_let_ c__law_spots_refused_ P__law_spots_refused_) K f_Tree___eq__) := by
  refine fnG_D F sc_Tree___eq__ rfl rfl fun cdv A outer s H E hg hr => PSs.nox ?_
  have hu := hu64 hr
  have hu7 := hu70 hr
  exact (zCons (zIf (yNot (yB (xIsO (f := is0) rfl T.b_isinstance rfl T.mg_Tree (fun c b h => is0_ok T.ci_Tree c b h) (kit_own T.ck_Tree) (xV 1)))) (zCons (zRet xBl)
    zNil) zNil)
    (zCons (zRet (xAndB (xCmp (eq_ok hu) (xFld (c := 0) (i := 0) (by show 0 < 9; decide) T.cls_Tree T.na_own_parents (xV 0)) (xFld (c := 0) (i := 0) (by show 0 < 9; decide) T.cls_Tree T.na_own_parents (xV 1)) (nomark _)) (xOne (xCmp (eq_ok hu) (xFld (c := 0) (i := 1) (by show 1 < 9; decide) T.cls_Tree T.na_own_struck (xV 0)) (xFld (c := 0) (i := 1) (by show 1 < 9; decide) T.cls_Tree T.na_own_struck (xV 1)) (nomark _)))))
    zNil))
theorem ok__law_right (T : Tx K mg C_Tree C_Book C_IsTop C_InvalidGroup C_WayError c__law_spots_let_ P__law_spots_let_ c__law_spots_refused_ P__law_spots_refused_)  (B : Bx base mg C_Tree C_Book C_IsTop C_InvalidGroup C_WayError c__law_spots_let_ P__law_spots_let_ c__law_spots_refused_ P__law_spots_refused_) {f : Addr} {fd : FuncData} (F : FunD K "_law_right" "_law_right" (defArgs s__law_right) (defBody s__law_right) (defScope s__law_right) [] [] f fd) : FnG P w K mg base CX0 11 f fd ["_law_pot_here"] (spF (mkG C_Tree C_Book C_IsTop C_InvalidGroup C_WayError c__law_spots_let_ P__law_spots_let_ c__law_spots_refused_ P__law_spots_refused_) K f__law_right) := by
  obtain ⟨a__law_ups, d__law_ups, F__law_ups, m__law_ups⟩ := T.F__law_ups
  have b__law_ups := bd__law_ups F__law_ups
  have k__law_ups := F__law_ups.kp
  have g__law_ups := ok__law_ups (P := P) (w := w) (base := base) T B F__law_ups
  obtain ⟨a__law_rules, d__law_rules, F__law_rules, m__law_rules⟩ := T.F__law_rules
  have b__law_rules := bd__law_rules F__law_rules
  have k__law_rules := F__law_rules.kp
  have g__law_rules := ok__law_rules (P := P) (w := w) (base := base) T B F__law_rules
  obtain ⟨a__law_draw, d__law_draw, F__law_draw, m__law_draw⟩ := T.F__law_draw
  have b__law_draw := bd__law_draw F__law_draw
  have k__law_draw := F__law_draw.kp
  have g__law_draw := ok__law_draw (P := P) (w := w) (base := base) T B F__law_draw
  obtain ⟨a_Tree___init__, d_Tree___init__, z0_Tree___init__, z1_Tree___init__, F_Tree___init__, mk_Tree, r0_Tree___init__, r1_Tree___init__⟩ := T.F_Tree___init__
  have b_Tree___init___2 := b_Tree___init___2 F_Tree___init__ r0_Tree___init__ r1_Tree___init__
  have g_Tree___init__ := ok_Tree___init__ (P := P) (w := w) (base := base) T B F_Tree___init__
  obtain ⟨a__law_book, d__law_book, F__law_book, m__law_book⟩ := T.F__law_book
  have b__law_book := bd__law_book F__law_book
  have k__law_book := F__law_book.kp
  have g__law_book := ok__law_book (P := P) (w := w) (base := base) T B F__law_book
  obtain ⟨a__law_spots_let, d__law_spots_let, F__law_spots_let, m__law_spots_let, M__law_spots_let⟩ := T.F__law_spots_let
  have b__law_spots_let := bd__law_spots_let F__law_spots_let
  have k__law_spots_let := F__law_spots_let.kp
  have g__law_spots_let := ok__law_spots_let (P := P) (w := w) (base := base) T B F__law_spots_let M__law_spots_let
  obtain ⟨a__law_spots_refused, d__law_spots_refused, F__law_spots_refused, m__law_spots_refused, M__law_spots_refused⟩ := T.F__law_spots_refused
  have b__law_spots_refused := bd__law_spots_refused F__law_spots_refused
  have k__law_spots_refused := F__law_spots_refused.kp
  have g__law_spots_refused := ok__law_spots_refused (P := P) (w := w) (base := base) T B F__law_spots_refused M__law_spots_refused
  obtain ⟨a_Book___eq__, d_Book___eq__, F_Book___eq__, m_Book___eq__⟩ := T.F_Book___eq__
  have b_Book___eq__ := bd_Book___eq__ F_Book___eq__
  have k_Book___eq__ := F_Book___eq__.kp
  have g_Book___eq__ := ok_Book___eq__ (P := P) (w := w) (base := base) T B F_Book___eq__
  obtain ⟨a_Tree___eq__, d_Tree___eq__, F_Tree___eq__, m_Tree___eq__⟩ := T.F_Tree___eq__
  have b_Tree___eq__ := bd_Tree___eq__ F_Tree___eq__
  have k_Tree___eq__ := F_Tree___eq__.kp
  have g_Tree___eq__ := ok_Tree___eq__ (P := P) (w := w) (base := base) T B F_Tree___eq__
  refine fnG_D F sc__law_right rfl rfl fun cdv A outer s H E hg hr => PSs.nox ?_
  have hu := hu64 hr
  have hu7 := hu70 hr
  exact (zCons (zSet (i := 1) sc__law_right.nd rfl (Or.inl rfl) (xCall (cg_fn g__law_ups hg (hr.mono (by decide)) passes0 b__law_ups) rfl m__law_ups k__law_ups (xaCons (xV 0) (xaCons xInt xaNil))))
    (zCons (zPar (i := 4) (j := 5) rfl sc__law_right.nd rfl rfl (by decide) rfl rfl (xaCons (bltn len_okB rfl T.b_len (by decide +kernel) (xaCons (xV 1) xaNil)) (xaCons (xCall (cg_fn g__law_rules hg (hr.mono (by decide)) passes0 b__law_rules) rfl m__law_rules k__law_rules (xaCons (xV 0) (xaCons (xCall (cg_fn g__law_draw hg (hr.mono (by decide)) passes0 b__law_draw) rfl m__law_draw k__law_draw (xaCons (xV 0) (xaCons xInt xaNil))) (xaCons xInt xaNil)))) xaNil)) rfl)
    (zCons (zIf (yCmp (eq_ok hu) (isB_eq false) (xCall (cg_fn g__law_draw hg (hr.mono (by decide)) passes0 b__law_draw) rfl m__law_draw k__law_draw (xaCons (xV 0) (xaCons xInt xaNil))) xInt (nomark _)) (zCons (zSet (i := 5) sc__law_right.nd rfl (Or.inl rfl) (xDictPlus rfl (xV 5) (xLst (xaCons (xTup (xaCons xStr (xaCons (xTup xaNil) xaNil))) (xaCons (xTup (xaCons xStr (xaCons (xTup xaNil) xaNil))) xaNil))) rfl T.b_list (by decide +kernel) rfl T.b_dict (by decide +kernel)))
    zNil) zNil)
    (zCons (zSet (i := 2) sc__law_right.nd rfl (Or.inl rfl) (xIf (PW.pt (wAnd (yCmp gt_ok isB_gt (xV 4) xInt (nomark _)) (wOne (yCmp (eq_ok hu) (isB_eq false) (xCall (cg_fn g__law_draw hg (hr.mono (by decide)) passes0 b__law_draw) rfl m__law_draw k__law_draw (xaCons (xV 0) (xaCons xInt xaNil))) xInt (nomark _))))) (xLst (xaCons (x2 sub_ok (xV 4) xInt) xaNil)) (xLst xaNil)))
    (zCons (zPar (i := 6) (j := 7) rfl sc__law_right.nd rfl rfl (by decide) rfl rfl (xaCons (xCall (cg_fn g__law_book hg (hr.mono (by decide)) passes0 b__law_book) rfl m__law_book k__law_book (xaCons (xV 5) xaNil)) (xaCons (xCall (cg_make (c := 0) mk_Tree g_Tree___init__ hg (hr.mono (by decide)) passes0 b_Tree___init___2) rfl T.mg_Tree mk_Tree.kp (xaCons (xSl (xV 1) (pSome_ok xInt) pNo_ok) (xaCons (xV 2) xaNil))) xaNil)) rfl)
    (zCons (zIf (yNot (yB (xCall (cg_fn g__law_spots_let hg (hr.mono (by decide)) passes0 b__law_spots_let) rfl m__law_spots_let k__law_spots_let (xaCons (xV 6) (xaCons (xV 7) (xaCons (xV 4) xaNil)))))) (zCons (zRet xBl)
    zNil) zNil)
    (zCons (zFor PassesOwn.never rfl (iRng1_ok rfl T.b_range xInt) (gName_ok (i := 3) sc__law_right.nd rfl (Or.inl rfl)) (zCons (zIf (yNot (yB (xCall (cg_fn g__law_spots_refused hg (hr.mono (by decide)) passes0 b__law_spots_refused) rfl m__law_spots_refused k__law_spots_refused (xaCons (xV 0) (xaCons (xV 6) (xaCons (xV 7) (xaCons (xV 4) xaNil))))))) (zCons (zRet xBl)
    zNil) zNil)
    zNil))
    (zCons (zRet (xAndB (xCall (cg_fn g__law_spots_let hg (hr.mono (by decide)) passes0 b__law_spots_let) rfl m__law_spots_let k__law_spots_let (xaCons (xV 6) (xaCons (xV 7) (xaCons (xV 4) xaNil)))) (xAndB (xCmp (eqO_ok (c := 1) g_Book___eq__ hg (hr.mono (by decide)) passes0 b_Book___eq__ m_Book___eq__.at_ m_Book___eq__.fn T.ci_Book hu) (xV 6) (xCall (cg_fn g__law_book hg (hr.mono (by decide)) passes0 b__law_book) rfl m__law_book k__law_book (xaCons (xV 5) xaNil)) (nomark _)) (xOne (xCmp (eqO_ok (c := 0) g_Tree___eq__ hg (hr.mono (by decide)) passes0 b_Tree___eq__ m_Tree___eq__.at_ m_Tree___eq__.fn T.ci_Tree hu) (xV 7) (xCall (cg_make (c := 0) mk_Tree g_Tree___init__ hg (hr.mono (by decide)) passes0 b_Tree___init___2) rfl T.mg_Tree mk_Tree.kp (xaCons (xSl (xV 1) (pSome_ok xInt) pNo_ok) (xaCons (xV 2) xaNil))) (nomark _))))))
    zNil))))))))
theorem ok__law_pot (T : Tx K mg C_Tree C_Book C_IsTop C_InvalidGroup C_WayError c__law_spots_let_ P__law_spots_let_ c__law_spots_refused_ P__law_spots_refused_)  (B : Bx base mg C_Tree C_Book C_IsTop C_InvalidGroup C_WayError c__law_spots_let_ P__law_spots_let_ c__law_spots_refused_ P__law_spots_refused_) {f : Addr} {fd : FuncData} (F : FunD K "_law_pot" "_law_pot" (defArgs s__law_pot) (defBody s__law_pot) (defScope s__law_pot) [] [] f fd) : FnG P w K mg base CX0 1 f fd ["_law_script", "_law_k"] (spF (mkG C_Tree C_Book C_IsTop C_InvalidGroup C_WayError c__law_spots_let_ P__law_spots_let_ c__law_spots_refused_ P__law_spots_refused_) K f__law_pot) := by
  refine fnG_D F sc__law_pot rfl rfl fun cdv A outer s H E hg hr => PSs.nox ?_
  have hu := hu64 hr
  have hu7 := hu70 hr
  exact (zCons (zSet (i := 2) sc__law_pot.nd rfl (Or.inl rfl) (x2 add_ok (x2 mul_ok xInt (xV 1)) xInt))
    (zCons (zIf (yCmp lt_ok isB_lt (xV 1) (bltn len_okB rfl T.b_len (by decide +kernel) (xaCons (xV 0) xaNil)) (nomark _)) (zCons (zSet (i := 2) sc__law_pot.nd rfl (Or.inl rfl) (bltn abs_okB rfl T.b_abs (by decide +kernel) (xaCons (xIx (xV 0) (xV 1)) xaNil)))
    zNil) zNil)
    (zCons (zRet (xLst (xaCons (bltn (max_okB rfl) rfl T.b_max (by decide +kernel) (xaCons xInt (xaCons (x2 sub_ok (xV 2) (x2 pow_ok xInt xInt)) xaNil))) (xaCons (x2 add_ok (x2 mod_ok (x2 mul_ok (bltnT int_okB rfl T.b_int (by decide +kernel) (xaCons (x2 add_ok (x2 mod_ok (bltnT int_okB rfl T.b_int (by decide +kernel) (xaCons (xV 2) xaNil)) xInt) xInt) xaNil)) (x2 pow_ok (x2 add_ok (x2 mul_ok xInt (xV 1)) xInt) xInt)) xInt) xInt) xaNil))))
    zNil)))
theorem ok_law (T : Tx K mg C_Tree C_Book C_IsTop C_InvalidGroup C_WayError c__law_spots_let_ P__law_spots_let_ c__law_spots_refused_ P__law_spots_refused_)  (B : Bx base mg C_Tree C_Book C_IsTop C_InvalidGroup C_WayError c__law_spots_let_ P__law_spots_let_ c__law_spots_refused_ P__law_spots_refused_) {f : Addr} {fd : FuncData} (F : FunD K "law" "law" (defArgs s_law) (defBody s_law) (defScope s_law) [] [] f fd) : FnG P w K mg base CX0 12 f fd ["_law_script"] (spF (mkG C_Tree C_Book C_IsTop C_InvalidGroup C_WayError c__law_spots_let_ P__law_spots_let_ c__law_spots_refused_ P__law_spots_refused_) K f_law) := by
  obtain ⟨a__law_right, d__law_right, F__law_right, m__law_right⟩ := T.F__law_right
  have b__law_right := bd__law_right F__law_right
  have k__law_right := F__law_right.kp
  have g__law_right := ok__law_right (P := P) (w := w) (base := base) T B F__law_right
  obtain ⟨a__law_pot, d__law_pot, F__law_pot, m__law_pot⟩ := T.F__law_pot
  have b__law_pot := bd__law_pot F__law_pot
  have k__law_pot := F__law_pot.kp
  have g__law_pot := ok__law_pot (P := P) (w := w) (base := base) T B F__law_pot
  refine fnG_D F sc_law rfl rfl fun cdv A outer s H E hg hr => PSs.nox ?_
  have hu := hu64 hr
  have hu7 := hu70 hr
  exact (zCons (zRet (bltn (all_okB rfl) rfl T.b_all (by decide +kernel) (xaCons (xComp rfl sc_law.nd (iRng1_ok rfl T.b_range (bltn (max_okB rfl) rfl T.b_max (by decide +kernel) (xaCons xInt (xaCons (bltn (min_okB rfl) rfl T.b_min (by decide +kernel) (xaCons (bltn len_okB rfl T.b_len (by decide +kernel) (xaCons (xV 0) xaNil)) (xaCons xInt xaNil))) xaNil)))) (blkOk_by (N := ["_law_script", "_law_k"]) (sc := defScope s_law) (own := [("_law_k", 1)]) (by decide +kernel)) rfl (tg1 1) (fun _ _ _ _ _ => pg_name (i := 1) sc_law.nd rfl (Or.inl rfl)) (fun _ _ _ _ _ => ptsNil) (fun _ _ _ _ _ => (xCall (cg_fn g__law_right hg (hr.mono (by decide)) passes0 b__law_right) rfl m__law_right k__law_right (xaCons (xCall (cg_fn g__law_pot hg (hr.mono (by decide)) passes0 b__law_pot) rfl m__law_pot k__law_pot (xaCons (xV 0) (xaCons (xV 1) xaNil))) xaNil)))) xaNil)))
    zNil)
end
/-! ### the head -/
theorem all_mk (hT : ∀ ns : List Int, ns.length ≤ 63 → ∃ h', f_law [.scr ns] [] = .ok (.bl true) h') {l : PySem.W.OpenLaw} {w : World} {K : PySem.W.Frag} {h : Heap} {mg : Str → Option Value} {fa C_Tree C_Book C_IsTop C_InvalidGroup C_WayError c__law_spots_let_ P__law_spots_let_ c__law_spots_refused_ P__law_spots_refused_ : Addr} {f_InvalidGroup___init___ : Addr} {oc_InvalidGroup___init__ kv_InvalidGroup___init__ dc_InvalidGroup___init__ pm_InvalidGroup___init__ cd_InvalidGroup___init__ ct_InvalidGroup___init__ : Value} {od_InvalidGroup___init__ an_InvalidGroup___init__ : Option Addr} {sl_InvalidGroup___init__ : Array (Option Value)} {f__law_draw_ : Addr} {oc__law_draw kv__law_draw dc__law_draw pm__law_draw cd__law_draw ct__law_draw : Value} {od__law_draw an__law_draw : Option Addr} {sl__law_draw : Array (Option Value)} {f__law_ups_ : Addr} {oc__law_ups kv__law_ups dc__law_ups pm__law_ups cd__law_ups ct__law_ups : Value} {od__law_ups an__law_ups : Option Addr} {sl__law_ups : Array (Option Value)} {f__law_pick_ : Addr} {oc__law_pick kv__law_pick dc__law_pick pm__law_pick cd__law_pick ct__law_pick : Value} {od__law_pick an__law_pick : Option Addr} {sl__law_pick : Array (Option Value)} {f__law_menu_ : Addr} {oc__law_menu kv__law_menu dc__law_menu pm__law_menu cd__law_menu ct__law_menu : Value} {od__law_menu an__law_menu : Option Addr} {sl__law_menu : Array (Option Value)} {f__law_rules_ : Addr} {oc__law_rules kv__law_rules dc__law_rules pm__law_rules cd__law_rules ct__law_rules : Value} {od__law_rules an__law_rules : Option Addr} {sl__law_rules : Array (Option Value)} {f_is_list_ : Addr} {oc_is_list kv_is_list dc_is_list pm_is_list cd_is_list ct_is_list : Value} {od_is_list an_is_list : Option Addr} {sl_is_list : Array (Option Value)} {f_is_integer_ : Addr} {oc_is_integer kv_is_integer dc_is_integer pm_is_integer cd_is_integer ct_is_integer : Value} {od_is_integer an_is_integer : Option Addr} {sl_is_integer : Array (Option Value)} {f_is_count_ : Addr} {oc_is_count kv_is_count dc_is_count pm_is_count cd_is_count ct_is_count : Value} {od_is_count an_is_count : Option Addr} {sl_is_count : Array (Option Value)} {f_want_room_ : Addr} {oc_want_room kv_want_room dc_want_room pm_want_room cd_want_room ct_want_room : Value} {od_want_room an_want_room : Option Addr} {sl_want_room : Array (Option Value)} {f_want_parents_ : Addr} {oc_want_parents kv_want_parents dc_want_parents pm_want_parents cd_want_parents ct_want_parents : Value} {od_want_parents an_want_parents : Option Addr} {sl_want_parents : Array (Option Value)} {f_children_of_ : Addr} {oc_children_of kv_children_of dc_children_of pm_children_of cd_children_of ct_children_of : Value} {od_children_of an_children_of : Option Addr} {sl_children_of : Array (Option Value)} {f_want_struck_ : Addr} {oc_want_struck kv_want_struck dc_want_struck pm_want_struck cd_want_struck ct_want_struck : Value} {od_want_struck an_want_struck : Option Addr} {sl_want_struck : Array (Option Value)} {f_Tree___init___ : Addr} {oc_Tree___init__ kv_Tree___init__ dc_Tree___init__ pm_Tree___init__ cd_Tree___init__ ct_Tree___init__ : Value} {od_Tree___init__ an_Tree___init__ : Option Addr} {sl_Tree___init__ : Array (Option Value)} {dt_Tree___init__ z0_Tree___init__ z1_Tree___init__ : Addr} {oT_Tree___init__ : Value} {dT_Tree___init__ : Option Addr} {nT_Tree___init__ : Nat} {sT_Tree___init__ : Array (Option Value)} {n_z0_Tree___init__ : Nat} {s_z0_Tree___init__ : Array (Option Value)} {n_z1_Tree___init__ : Nat} {s_z1_Tree___init__ : Array (Option Value)} {f_are_words_ : Addr} {oc_are_words kv_are_words dc_are_words pm_are_words cd_are_words ct_are_words : Value} {od_are_words an_are_words : Option Addr} {sl_are_words : Array (Option Value)} {f_are_tests_ahead_ : Addr} {oc_are_tests_ahead kv_are_tests_ahead dc_are_tests_ahead pm_are_tests_ahead cd_are_tests_ahead ct_are_tests_ahead : Value} {od_are_tests_ahead an_are_tests_ahead : Option Addr} {sl_are_tests_ahead : Array (Option Value)} {f_is_take_ : Addr} {oc_is_take kv_is_take dc_is_take pm_is_take cd_is_take ct_is_take : Value} {od_is_take an_is_take : Option Addr} {sl_is_take : Array (Option Value)} {f_is_behind_ : Addr} {oc_is_behind kv_is_behind dc_is_behind pm_is_behind cd_is_behind ct_is_behind : Value} {od_is_behind an_is_behind : Option Addr} {sl_is_behind : Array (Option Value)} {f_is_give_ : Addr} {oc_is_give kv_is_give dc_is_give pm_is_give cd_is_give ct_is_give : Value} {od_is_give an_is_give : Option Addr} {sl_is_give : Array (Option Value)} {f_is_move_ : Addr} {oc_is_move kv_is_move dc_is_move pm_is_move cd_is_move ct_is_move : Value} {od_is_move an_is_move : Option Addr} {sl_is_move : Array (Option Value)} {f_is_lift_ : Addr} {oc_is_lift kv_is_lift dc_is_lift pm_is_lift cd_is_lift ct_is_lift : Value} {od_is_lift an_is_lift : Option Addr} {sl_is_lift : Array (Option Value)} {f_is_row_ : Addr} {oc_is_row kv_is_row dc_is_row pm_is_row cd_is_row ct_is_row : Value} {od_is_row an_is_row : Option Addr} {sl_is_row : Array (Option Value)} {f_want_word_ : Addr} {oc_want_word kv_want_word dc_want_word pm_want_word cd_want_word ct_want_word : Value} {od_want_word an_want_word : Option Addr} {sl_want_word : Array (Option Value)} {f_are_holds_ : Addr} {oc_are_holds kv_are_holds dc_are_holds pm_are_holds cd_are_holds ct_are_holds : Value} {od_are_holds an_are_holds : Option Addr} {sl_are_holds : Array (Option Value)} {f_holds_in_sequence_ : Addr} {oc_holds_in_sequence kv_holds_in_sequence dc_holds_in_sequence pm_holds_in_sequence cd_holds_in_sequence ct_holds_in_sequence : Value} {od_holds_in_sequence an_holds_in_sequence : Option Addr} {sl_holds_in_sequence : Array (Option Value)} {f_want_batch_ : Addr} {oc_want_batch kv_want_batch dc_want_batch pm_want_batch cd_want_batch ct_want_batch : Value} {od_want_batch an_want_batch : Option Addr} {sl_want_batch : Array (Option Value)} {f_Book___init___ : Addr} {oc_Book___init__ kv_Book___init__ dc_Book___init__ pm_Book___init__ cd_Book___init__ ct_Book___init__ : Value} {od_Book___init__ an_Book___init__ : Option Addr} {sl_Book___init__ : Array (Option Value)} {f__law_book_ : Addr} {oc__law_book kv__law_book dc__law_book pm__law_book cd__law_book ct__law_book : Value} {od__law_book an__law_book : Option Addr} {sl__law_book : Array (Option Value)} {f__law_told_ : Addr} {oc__law_told kv__law_told dc__law_told pm__law_told cd__law_told ct__law_told : Value} {od__law_told an__law_told : Option Addr} {sl__law_told : Array (Option Value)} {f_Tree___len___ : Addr} {oc_Tree___len__ kv_Tree___len__ dc_Tree___len__ pm_Tree___len__ cd_Tree___len__ ct_Tree___len__ : Value} {od_Tree___len__ an_Tree___len__ : Option Addr} {sl_Tree___len__ : Array (Option Value)} {f_Tree_want_group_ : Addr} {oc_Tree_want_group kv_Tree_want_group dc_Tree_want_group pm_Tree_want_group cd_Tree_want_group ct_Tree_want_group : Value} {od_Tree_want_group an_Tree_want_group : Option Addr} {sl_Tree_want_group : Array (Option Value)} {f_Tree_way_ : Addr} {oc_Tree_way kv_Tree_way dc_Tree_way pm_Tree_way cd_Tree_way ct_Tree_way : Value} {od_Tree_way an_Tree_way : Option Addr} {sl_Tree_way : Array (Option Value)} {f_want_kind_ : Addr} {oc_want_kind kv_want_kind dc_want_kind pm_want_kind cd_want_kind ct_want_kind : Value} {od_want_kind an_want_kind : Option Addr} {sl_want_kind : Array (Option Value)} {f_Book_row_ : Addr} {oc_Book_row kv_Book_row dc_Book_row pm_Book_row cd_Book_row ct_Book_row : Value} {od_Book_row an_Book_row : Option Addr} {sl_Book_row : Array (Option Value)} {f_along_ : Addr} {oc_along kv_along dc_along pm_along cd_along ct_along : Value} {od_along an_along : Option Addr} {sl_along : Array (Option Value)} {f_take_plan_ : Addr} {oc_take_plan kv_take_plan dc_take_plan pm_take_plan cd_take_plan ct_take_plan : Value} {od_take_plan an_take_plan : Option Addr} {sl_take_plan : Array (Option Value)} {f_give_plan_ : Addr} {oc_give_plan kv_give_plan dc_give_plan pm_give_plan cd_give_plan ct_give_plan : Value} {od_give_plan an_give_plan : Option Addr} {sl_give_plan : Array (Option Value)} {f_settle_plan_ : Addr} {oc_settle_plan kv_settle_plan dc_settle_plan pm_settle_plan cd_settle_plan ct_settle_plan : Value} {od_settle_plan an_settle_plan : Option Addr} {sl_settle_plan : Array (Option Value)} {f_Book_shared_ : Addr} {oc_Book_shared kv_Book_shared dc_Book_shared pm_Book_shared cd_Book_shared ct_Book_shared : Value} {od_Book_shared an_Book_shared : Option Addr} {sl_Book_shared : Array (Option Value)} {pr_Book_shared : Addr} {re_Book_shared : List Value} {f_Tree_apart_ : Addr} {oc_Tree_apart kv_Tree_apart dc_Tree_apart pm_Tree_apart cd_Tree_apart ct_Tree_apart : Value} {od_Tree_apart an_Tree_apart : Option Addr} {sl_Tree_apart : Array (Option Value)} {f_move_ways_ : Addr} {oc_move_ways kv_move_ways dc_move_ways pm_move_ways cd_move_ways ct_move_ways : Value} {od_move_ways an_move_ways : Option Addr} {sl_move_ways : Array (Option Value)} {f_move_plan_ : Addr} {oc_move_plan kv_move_plan dc_move_plan pm_move_plan cd_move_plan ct_move_plan : Value} {od_move_plan an_move_plan : Option Addr} {sl_move_plan : Array (Option Value)} {f_Tree_parent_ : Addr} {oc_Tree_parent kv_Tree_parent dc_Tree_parent pm_Tree_parent cd_Tree_parent ct_Tree_parent : Value} {od_Tree_parent an_Tree_parent : Option Addr} {sl_Tree_parent : Array (Option Value)} {f_lift_plan_ : Addr} {oc_lift_plan kv_lift_plan dc_lift_plan pm_lift_plan cd_lift_plan ct_lift_plan : Value} {od_lift_plan an_lift_plan : Option Addr} {sl_lift_plan : Array (Option Value)} {f__law_spots_let_ : Addr} {oc__law_spots_let kv__law_spots_let dc__law_spots_let pm__law_spots_let ct__law_spots_let : Value} {od__law_spots_let an__law_spots_let : Option Addr} {sl__law_spots_let : Array (Option Value)} {f__law_odd_ : Addr} {oc__law_odd kv__law_odd dc__law_odd pm__law_odd cd__law_odd ct__law_odd : Value} {od__law_odd an__law_odd : Option Addr} {sl__law_odd : Array (Option Value)} {f__law_spots_refused_ : Addr} {oc__law_spots_refused kv__law_spots_refused dc__law_spots_refused pm__law_spots_refused ct__law_spots_refused : Value} {od__law_spots_refused an__law_spots_refused : Option Addr} {sl__law_spots_refused : Array (Option Value)} {f_Book_others_ : Addr} {oc_Book_others kv_Book_others dc_Book_others pm_Book_others cd_Book_others ct_Book_others : Value} {od_Book_others an_Book_others : Option Addr} {sl_Book_others : Array (Option Value)} {f_Book___eq___ : Addr} {oc_Book___eq__ kv_Book___eq__ dc_Book___eq__ pm_Book___eq__ cd_Book___eq__ ct_Book___eq__ : Value} {od_Book___eq__ an_Book___eq__ : Option Addr} {sl_Book___eq__ : Array (Option Value)} {f_Tree___eq___ : Addr} {oc_Tree___eq__ kv_Tree___eq__ dc_Tree___eq__ pm_Tree___eq__ cd_Tree___eq__ ct_Tree___eq__ : Value} {od_Tree___eq__ an_Tree___eq__ : Option Addr} {sl_Tree___eq__ : Array (Option Value)} {f__law_right_ : Addr} {oc__law_right kv__law_right dc__law_right pm__law_right cd__law_right ct__law_right : Value} {od__law_right an__law_right : Option Addr} {sl__law_right : Array (Option Value)} {f__law_pot_ : Addr} {oc__law_pot kv__law_pot dc__law_pot pm__law_pot cd__law_pot ct__law_pot : Value} {od__law_pot an__law_pot : Option Addr} {sl__law_pot : Array (Option Value)} {f_law_ : Addr} {oc_law kv_law dc_law pm_law cd_law ct_law : Value} {od_law an_law : Option Addr} {sl_law : Array (Option Value)} {tk_ADD : Tok} {tk_BOTH : Tok} {tk_END : Tok} {ad_FAILS : Addr} {nn_FAILS : Nat} {ss_FAILS : Array (Option Value)} {kk_FAILS_0 : Tok} {kk_FAILS_1 : Tok} {kk_FAILS_2 : Tok} {tk_GIVE : Tok} {ad_GIVE_WORDS : Addr} {nn_GIVE_WORDS : Nat} {ss_GIVE_WORDS : Array (Option Value)} {kk_GIVE_WORDS_0 : Tok} {kk_GIVE_WORDS_1 : Tok} {kk_GIVE_WORDS_2 : Tok} {tk_GREATEST_BATCH : Tok} {ad_HOLDING : Addr} {nn_HOLDING : Nat} {ss_HOLDING : Array (Option Value)} {kk_HOLDING_0 : Tok} {kk_HOLDING_1 : Tok} {kk_HOLDING_2 : Tok} {kk_HOLDING_3 : Tok} {tk_HOME : Tok} {tk_LIFT : Tok} {ad_LIFTS : Addr} {nn_LIFTS : Nat} {ss_LIFTS : Array (Option Value)} {ad_LIFTS_0 : Addr} {nn_LIFTS_0 : Nat} {ss_LIFTS_0 : Array (Option Value)} {ad_LIFTS_1 : Addr} {nn_LIFTS_1 : Nat} {ss_LIFTS_1 : Array (Option Value)} {kk_LIFTS_1_0 : Tok} {ad_LIFTS_2 : Addr} {nn_LIFTS_2 : Nat} {ss_LIFTS_2 : Array (Option Value)} {kk_LIFTS_2_0 : Tok} {ad_LIFTS_3 : Addr} {nn_LIFTS_3 : Nat} {ss_LIFTS_3 : Array (Option Value)} {kk_LIFTS_3_0 : Tok} {kk_LIFTS_3_1 : Tok} {ad_LIFTS_4 : Addr} {nn_LIFTS_4 : Nat} {ss_LIFTS_4 : Array (Option Value)} {kk_LIFTS_4_0 : Tok} {kk_LIFTS_4_1 : Tok} {ad_LIFTS_5 : Addr} {nn_LIFTS_5 : Nat} {ss_LIFTS_5 : Array (Option Value)} {kk_LIFTS_5_0 : Tok} {tk_LIVE : Tok} {tk_LOOK : Tok} {tk_MOST_GROUPS : Tok} {tk_MOVE : Tok} {ad_MOVE_WORDS : Addr} {nn_MOVE_WORDS : Nat} {ss_MOVE_WORDS : Array (Option Value)} {kk_MOVE_WORDS_0 : Tok} {kk_MOVE_WORDS_1 : Tok} {kk_MOVE_WORDS_2 : Tok} {kk_MOVE_WORDS_3 : Tok} {kk_MOVE_WORDS_4 : Tok} {kk_MOVE_WORDS_5 : Tok} {tk_OFF : Tok} {tk_SET : Tok} {tk_TAKE : Tok} {ad_TAKE_WORDS : Addr} {nn_TAKE_WORDS : Nat} {ss_TAKE_WORDS : Array (Option Value)} {kk_TAKE_WORDS_0 : Tok} {kk_TAKE_WORDS_1 : Tok} {kk_TAKE_WORDS_2 : Tok} {kk_TAKE_WORDS_3 : Tok} {ad_TESTS : Addr} {nn_TESTS : Nat} {ss_TESTS : Array (Option Value)} {kk_TESTS_0 : Tok} {kk_TESTS_1 : Tok} {tk_TOP : Tok} {tk_TRY : Tok} {qq : Program} {dr__law_spots_let : DefRec} {dr__law_spots_refused : DefRec} (X : K.In h) (G : h.Ns mainGlobals mg) (hfa : mg "law" = some (.ref fa))
    (aC_Tree : PySem.W.nsIn K mainGlobals "Tree" = some (some (.ref C_Tree)))
    (pg_Tree : PySem.W.plainGet K C_Tree Str.empty = true)
    (hd_Tree : PySem.W.hasDictIn K C_Tree = true)
    (po_Tree : PySem.W.plainOver K C_Tree = true)
    (sa_Tree : PySem.W.findIn K (.ref C_Tree) "__setattr__" = some (some (.builtin "object.__setattr__")))
    (mk_Tree : PySem.W.makesIn K C_Tree = true)
    (kc_Tree : PySem.W.keepIn K (.ref C_Tree) = true)
    (ia_Tree : PySem.W.findIn K (.ref C_Tree) "__class__" = some (some (.builtin "object.__class__")))
    (ib_Tree : PySem.W.specialIn K (.builtin "object.__class__") "__get__" = some (some (.builtin "getset_descriptor.__get__")))
    (ic_Tree : PySem.W.takesIn K (.builtin "object.__class__") = some true)
    (id_Tree : PySem.W.mroIn K C_Tree (.type "object") = some true)
    (ie_Tree : PySem.W.isClsIn K C_Tree = true)
    (ig_Tree : PySem.W.typeIn K (.ref C_Tree) = some (.type "type"))
    (if_Tree : PySem.W.findIn K (.ref C_Tree) "__ne__" = some (some (.builtin "object.__ne__")))
    (aC_Book : PySem.W.nsIn K mainGlobals "Book" = some (some (.ref C_Book)))
    (pg_Book : PySem.W.plainGet K C_Book Str.empty = true)
    (hd_Book : PySem.W.hasDictIn K C_Book = true)
    (po_Book : PySem.W.plainOver K C_Book = true)
    (sa_Book : PySem.W.findIn K (.ref C_Book) "__setattr__" = some (some (.builtin "object.__setattr__")))
    (mk_Book : PySem.W.makesIn K C_Book = true)
    (kc_Book : PySem.W.keepIn K (.ref C_Book) = true)
    (ia_Book : PySem.W.findIn K (.ref C_Book) "__class__" = some (some (.builtin "object.__class__")))
    (ib_Book : PySem.W.specialIn K (.builtin "object.__class__") "__get__" = some (some (.builtin "getset_descriptor.__get__")))
    (ic_Book : PySem.W.takesIn K (.builtin "object.__class__") = some true)
    (id_Book : PySem.W.mroIn K C_Book (.type "object") = some true)
    (ie_Book : PySem.W.isClsIn K C_Book = true)
    (ig_Book : PySem.W.typeIn K (.ref C_Book) = some (.type "type"))
    (if_Book : PySem.W.findIn K (.ref C_Book) "__ne__" = some (some (.builtin "object.__ne__")))
    (aC_IsTop : PySem.W.nsIn K mainGlobals "IsTop" = some (some (.ref C_IsTop)))
    (xk_IsTop : PySem.W.keepIn K (.ref C_IsTop) = true)
    (xs_IsTop : PySem.W.subIn K (.ref C_IsTop) (.type "BaseException") = some true)
    (xt_IsTop : PySem.W.typeIn K (.ref C_IsTop) = some (.type "type"))
    (xq_IsTop : PySem.W.excIn K C_IsTop [.type "RuntimeError", .type "Exception", .type "BaseException", .type "object"] "RuntimeError.__new__" = true)
    (aC_InvalidGroup : PySem.W.nsIn K mainGlobals "InvalidGroup" = some (some (.ref C_InvalidGroup)))
    (xk_InvalidGroup : PySem.W.keepIn K (.ref C_InvalidGroup) = true)
    (xs_InvalidGroup : PySem.W.subIn K (.ref C_InvalidGroup) (.type "BaseException") = some true)
    (xt_InvalidGroup : PySem.W.typeIn K (.ref C_InvalidGroup) = some (.type "type"))
    (xa_InvalidGroup : PySem.W.excInitIn K C_InvalidGroup [.type "ValueError", .type "Exception", .type "BaseException", .type "object"] "ValueError.__new__" = true)
    (xb_InvalidGroup : PySem.W.excOver K C_InvalidGroup [.type "ValueError", .type "Exception", .type "BaseException", .type "object"] = true)
    (xc_InvalidGroup : PySem.W.hasDictIn K C_InvalidGroup = true)
    (xd_InvalidGroup : PySem.W.findIn K (.ref C_InvalidGroup) "__setattr__" = some (some (.builtin "object.__setattr__")))
    (xh_InvalidGroup : PySem.W.takerIn K C_InvalidGroup "value" = some none)
    (xe_InvalidGroup : PySem.W.findIn K (.ref C_InvalidGroup) "__getattribute__" = some (some (.builtin "BaseException.__getattribute__")))
    (xg_InvalidGroup : PySem.W.findIn K (.ref C_InvalidGroup) "__getattr__" = some none)
    (xn_InvalidGroup : PySem.W.findIn K (.ref C_InvalidGroup) "value" = some none)
    (xm_IsTop_InvalidGroup : PySem.W.exmOne K (.ref C_IsTop) (.ref C_InvalidGroup) = some false)
    (xm_IsTop_IsTop : PySem.W.exmOne K (.ref C_IsTop) (.ref C_IsTop) = some true)
    (xm_InvalidGroup_InvalidGroup : PySem.W.exmOne K (.ref C_InvalidGroup) (.ref C_InvalidGroup) = some true)
    (xm_InvalidGroup_IsTop : PySem.W.exmOne K (.ref C_InvalidGroup) (.ref C_IsTop) = some false)
    (a_InvalidGroup___init__ : PySem.W.findIn K (.ref C_InvalidGroup) "__init__" = some (some (.ref f_InvalidGroup___init___)))
    (i_InvalidGroup___init__ : PySem.W.typeIn K (.ref f_InvalidGroup___init___) = some (.type "function"))
    (l_InvalidGroup___init__ : K.lookup f_InvalidGroup___init___ = some ⟨oc_InvalidGroup___init__, od_InvalidGroup___init__, .func (PySem.W.fnOf "__init__" "InvalidGroup.__init__" (defArgs s_InvalidGroup___init__) (defBody s_InvalidGroup___init__) (defScope s_InvalidGroup___init__) .none kv_InvalidGroup___init__ dc_InvalidGroup___init__ pm_InvalidGroup___init__ an_InvalidGroup___init__ cd_InvalidGroup___init__ ct_InvalidGroup___init__), sl_InvalidGroup___init__⟩)
    (c_InvalidGroup___init__ : PySem.W.codeIn K cd_InvalidGroup___init__ "InvalidGroup.__init__" = true)
    (k_InvalidGroup___init__ : PySem.W.keepIn K (.ref f_InvalidGroup___init___) = true)
    (aC_WayError : PySem.W.nsIn K mainGlobals "WayError" = some (some (.ref C_WayError)))
    (ea_InvalidGroup : PySem.W.findIn K (.ref C_InvalidGroup) "__getattribute__" = some (some (.builtin "BaseException.__getattribute__")))
    (eb_InvalidGroup : PySem.W.findIn K (.ref C_InvalidGroup) "__getattr__" = some none)
    (es_InvalidGroup : PySem.W.subIn K (.ref C_InvalidGroup) (.type "BaseException") = some true)
    (ed_InvalidGroup : PySem.W.hasDictIn K C_InvalidGroup = true)
    (ee_InvalidGroup : PySem.W.findIn K (.ref C_InvalidGroup) "__class__" = some (some (.builtin "object.__class__")))
    (ef_InvalidGroup : PySem.W.specialIn K (.builtin "object.__class__") "__get__" = some (some (.builtin "getset_descriptor.__get__")))
    (eg_InvalidGroup : PySem.W.takesIn K (.builtin "object.__class__") = some true)
    (eh_InvalidGroup : PySem.W.mroIn K C_InvalidGroup (.type "object") = some true)
    (ki_InvalidGroup_ValueError : PySem.W.kitOne K (.ref C_InvalidGroup) (.type "ValueError") = some true)
    (ki_InvalidGroup_WayError : PySem.W.kitOne K (.ref C_InvalidGroup) (.ref C_WayError) = some true)
    (dt__law_spots_refused__law_spots_let : P__law_spots_refused_ ≠ P__law_spots_let_)
    (na_own_parents : PySem.W.findIn K (.ref C_Tree) "own_parents" = some none)
    (na_own_struck : PySem.W.findIn K (.ref C_Tree) "own_struck" = some none)
    (na_own_rows : PySem.W.findIn K (.ref C_Book) "own_rows" = some none)
    (na_own_fails : PySem.W.findIn K (.ref C_Book) "own_fails" = some none)
    (na_own_shared : PySem.W.findIn K (.ref C_Book) "own_shared" = some none)
    (na_own_holds : PySem.W.findIn K (.ref C_Book) "own_holds" = some none)
    (na_own_batch : PySem.W.findIn K (.ref C_Book) "own_batch" = some none)
    (na_own_settles : PySem.W.findIn K (.ref C_Book) "own_settles" = some none)
    (a__law_draw : PySem.W.nsIn K mainGlobals "_law_draw" = some (some (.ref f__law_draw_)))
    (l__law_draw : K.lookup f__law_draw_ = some ⟨oc__law_draw, od__law_draw, .func (PySem.W.fnOf "_law_draw" "_law_draw" (defArgs s__law_draw) (defBody s__law_draw) (defScope s__law_draw) .none kv__law_draw dc__law_draw pm__law_draw an__law_draw cd__law_draw ct__law_draw), sl__law_draw⟩)
    (c__law_draw : PySem.W.codeIn K cd__law_draw "_law_draw" = true)
    (k__law_draw : PySem.W.keepIn K (.ref f__law_draw_) = true)
    (a__law_ups : PySem.W.nsIn K mainGlobals "_law_ups" = some (some (.ref f__law_ups_)))
    (l__law_ups : K.lookup f__law_ups_ = some ⟨oc__law_ups, od__law_ups, .func (PySem.W.fnOf "_law_ups" "_law_ups" (defArgs s__law_ups) (defBody s__law_ups) (defScope s__law_ups) .none kv__law_ups dc__law_ups pm__law_ups an__law_ups cd__law_ups ct__law_ups), sl__law_ups⟩)
    (c__law_ups : PySem.W.codeIn K cd__law_ups "_law_ups" = true)
    (k__law_ups : PySem.W.keepIn K (.ref f__law_ups_) = true)
    (a__law_pick : PySem.W.nsIn K mainGlobals "_law_pick" = some (some (.ref f__law_pick_)))
    (l__law_pick : K.lookup f__law_pick_ = some ⟨oc__law_pick, od__law_pick, .func (PySem.W.fnOf "_law_pick" "_law_pick" (defArgs s__law_pick) (defBody s__law_pick) (defScope s__law_pick) .none kv__law_pick dc__law_pick pm__law_pick an__law_pick cd__law_pick ct__law_pick), sl__law_pick⟩)
    (c__law_pick : PySem.W.codeIn K cd__law_pick "_law_pick" = true)
    (k__law_pick : PySem.W.keepIn K (.ref f__law_pick_) = true)
    (a__law_menu : PySem.W.nsIn K mainGlobals "_law_menu" = some (some (.ref f__law_menu_)))
    (l__law_menu : K.lookup f__law_menu_ = some ⟨oc__law_menu, od__law_menu, .func (PySem.W.fnOf "_law_menu" "_law_menu" (defArgs s__law_menu) (defBody s__law_menu) (defScope s__law_menu) .none kv__law_menu dc__law_menu pm__law_menu an__law_menu cd__law_menu ct__law_menu), sl__law_menu⟩)
    (c__law_menu : PySem.W.codeIn K cd__law_menu "_law_menu" = true)
    (k__law_menu : PySem.W.keepIn K (.ref f__law_menu_) = true)
    (a__law_rules : PySem.W.nsIn K mainGlobals "_law_rules" = some (some (.ref f__law_rules_)))
    (l__law_rules : K.lookup f__law_rules_ = some ⟨oc__law_rules, od__law_rules, .func (PySem.W.fnOf "_law_rules" "_law_rules" (defArgs s__law_rules) (defBody s__law_rules) (defScope s__law_rules) .none kv__law_rules dc__law_rules pm__law_rules an__law_rules cd__law_rules ct__law_rules), sl__law_rules⟩)
    (c__law_rules : PySem.W.codeIn K cd__law_rules "_law_rules" = true)
    (k__law_rules : PySem.W.keepIn K (.ref f__law_rules_) = true)
    (a_is_list : PySem.W.nsIn K mainGlobals "is_list" = some (some (.ref f_is_list_)))
    (l_is_list : K.lookup f_is_list_ = some ⟨oc_is_list, od_is_list, .func (PySem.W.fnOf "is_list" "is_list" (defArgs s_is_list) (defBody s_is_list) (defScope s_is_list) .none kv_is_list dc_is_list pm_is_list an_is_list cd_is_list ct_is_list), sl_is_list⟩)
    (c_is_list : PySem.W.codeIn K cd_is_list "is_list" = true)
    (k_is_list : PySem.W.keepIn K (.ref f_is_list_) = true)
    (a_is_integer : PySem.W.nsIn K mainGlobals "is_integer" = some (some (.ref f_is_integer_)))
    (l_is_integer : K.lookup f_is_integer_ = some ⟨oc_is_integer, od_is_integer, .func (PySem.W.fnOf "is_integer" "is_integer" (defArgs s_is_integer) (defBody s_is_integer) (defScope s_is_integer) .none kv_is_integer dc_is_integer pm_is_integer an_is_integer cd_is_integer ct_is_integer), sl_is_integer⟩)
    (c_is_integer : PySem.W.codeIn K cd_is_integer "is_integer" = true)
    (k_is_integer : PySem.W.keepIn K (.ref f_is_integer_) = true)
    (a_is_count : PySem.W.nsIn K mainGlobals "is_count" = some (some (.ref f_is_count_)))
    (l_is_count : K.lookup f_is_count_ = some ⟨oc_is_count, od_is_count, .func (PySem.W.fnOf "is_count" "is_count" (defArgs s_is_count) (defBody s_is_count) (defScope s_is_count) .none kv_is_count dc_is_count pm_is_count an_is_count cd_is_count ct_is_count), sl_is_count⟩)
    (c_is_count : PySem.W.codeIn K cd_is_count "is_count" = true)
    (k_is_count : PySem.W.keepIn K (.ref f_is_count_) = true)
    (a_want_room : PySem.W.nsIn K mainGlobals "want_room" = some (some (.ref f_want_room_)))
    (l_want_room : K.lookup f_want_room_ = some ⟨oc_want_room, od_want_room, .func (PySem.W.fnOf "want_room" "want_room" (defArgs s_want_room) (defBody s_want_room) (defScope s_want_room) .none kv_want_room dc_want_room pm_want_room an_want_room cd_want_room ct_want_room), sl_want_room⟩)
    (c_want_room : PySem.W.codeIn K cd_want_room "want_room" = true)
    (k_want_room : PySem.W.keepIn K (.ref f_want_room_) = true)
    (a_want_parents : PySem.W.nsIn K mainGlobals "want_parents" = some (some (.ref f_want_parents_)))
    (l_want_parents : K.lookup f_want_parents_ = some ⟨oc_want_parents, od_want_parents, .func (PySem.W.fnOf "want_parents" "want_parents" (defArgs s_want_parents) (defBody s_want_parents) (defScope s_want_parents) .none kv_want_parents dc_want_parents pm_want_parents an_want_parents cd_want_parents ct_want_parents), sl_want_parents⟩)
    (c_want_parents : PySem.W.codeIn K cd_want_parents "want_parents" = true)
    (k_want_parents : PySem.W.keepIn K (.ref f_want_parents_) = true)
    (a_children_of : PySem.W.nsIn K mainGlobals "children_of" = some (some (.ref f_children_of_)))
    (l_children_of : K.lookup f_children_of_ = some ⟨oc_children_of, od_children_of, .func (PySem.W.fnOf "children_of" "children_of" (defArgs s_children_of) (defBody s_children_of) (defScope s_children_of) .none kv_children_of dc_children_of pm_children_of an_children_of cd_children_of ct_children_of), sl_children_of⟩)
    (c_children_of : PySem.W.codeIn K cd_children_of "children_of" = true)
    (k_children_of : PySem.W.keepIn K (.ref f_children_of_) = true)
    (a_want_struck : PySem.W.nsIn K mainGlobals "want_struck" = some (some (.ref f_want_struck_)))
    (l_want_struck : K.lookup f_want_struck_ = some ⟨oc_want_struck, od_want_struck, .func (PySem.W.fnOf "want_struck" "want_struck" (defArgs s_want_struck) (defBody s_want_struck) (defScope s_want_struck) .none kv_want_struck dc_want_struck pm_want_struck an_want_struck cd_want_struck ct_want_struck), sl_want_struck⟩)
    (c_want_struck : PySem.W.codeIn K cd_want_struck "want_struck" = true)
    (k_want_struck : PySem.W.keepIn K (.ref f_want_struck_) = true)
    (a_Tree___init__ : PySem.W.findIn K (.ref C_Tree) "__init__" = some (some (.ref f_Tree___init___)))
    (i_Tree___init__ : PySem.W.isFn K (.ref f_Tree___init___) = true)
    (l_Tree___init__ : K.lookup f_Tree___init___ = some ⟨oc_Tree___init__, od_Tree___init__, .func (PySem.W.fnOf "__init__" "Tree.__init__" (defArgs s_Tree___init__) (defBody s_Tree___init__) (defScope s_Tree___init__) (.ref dt_Tree___init__) kv_Tree___init__ dc_Tree___init__ pm_Tree___init__ an_Tree___init__ cd_Tree___init__ ct_Tree___init__), sl_Tree___init__⟩)
    (c_Tree___init__ : PySem.W.codeIn K cd_Tree___init__ "Tree.__init__" = true)
    (k_Tree___init__ : PySem.W.keepIn K (.ref f_Tree___init___) = true)
    (t_Tree___init__ : K.lookup dt_Tree___init__ = some ⟨oT_Tree___init__, dT_Tree___init__, .seq [Value.ref z0_Tree___init__, Value.ref z1_Tree___init__].toArray nT_Tree___init__, sT_Tree___init__⟩)
    (t_z0_Tree___init__ : K.lookup z0_Tree___init__ = some ⟨.type "tuple", none, .seq #[] n_z0_Tree___init__, s_z0_Tree___init__⟩)
    (t_z1_Tree___init__ : K.lookup z1_Tree___init__ = some ⟨.type "tuple", none, .seq #[] n_z1_Tree___init__, s_z1_Tree___init__⟩)
    (a_are_words : PySem.W.nsIn K mainGlobals "are_words" = some (some (.ref f_are_words_)))
    (l_are_words : K.lookup f_are_words_ = some ⟨oc_are_words, od_are_words, .func (PySem.W.fnOf "are_words" "are_words" (defArgs s_are_words) (defBody s_are_words) (defScope s_are_words) .none kv_are_words dc_are_words pm_are_words an_are_words cd_are_words ct_are_words), sl_are_words⟩)
    (c_are_words : PySem.W.codeIn K cd_are_words "are_words" = true)
    (k_are_words : PySem.W.keepIn K (.ref f_are_words_) = true)
    (a_are_tests_ahead : PySem.W.nsIn K mainGlobals "are_tests_ahead" = some (some (.ref f_are_tests_ahead_)))
    (l_are_tests_ahead : K.lookup f_are_tests_ahead_ = some ⟨oc_are_tests_ahead, od_are_tests_ahead, .func (PySem.W.fnOf "are_tests_ahead" "are_tests_ahead" (defArgs s_are_tests_ahead) (defBody s_are_tests_ahead) (defScope s_are_tests_ahead) .none kv_are_tests_ahead dc_are_tests_ahead pm_are_tests_ahead an_are_tests_ahead cd_are_tests_ahead ct_are_tests_ahead), sl_are_tests_ahead⟩)
    (c_are_tests_ahead : PySem.W.codeIn K cd_are_tests_ahead "are_tests_ahead" = true)
    (k_are_tests_ahead : PySem.W.keepIn K (.ref f_are_tests_ahead_) = true)
    (a_is_take : PySem.W.nsIn K mainGlobals "is_take" = some (some (.ref f_is_take_)))
    (l_is_take : K.lookup f_is_take_ = some ⟨oc_is_take, od_is_take, .func (PySem.W.fnOf "is_take" "is_take" (defArgs s_is_take) (defBody s_is_take) (defScope s_is_take) .none kv_is_take dc_is_take pm_is_take an_is_take cd_is_take ct_is_take), sl_is_take⟩)
    (c_is_take : PySem.W.codeIn K cd_is_take "is_take" = true)
    (k_is_take : PySem.W.keepIn K (.ref f_is_take_) = true)
    (a_is_behind : PySem.W.nsIn K mainGlobals "is_behind" = some (some (.ref f_is_behind_)))
    (l_is_behind : K.lookup f_is_behind_ = some ⟨oc_is_behind, od_is_behind, .func (PySem.W.fnOf "is_behind" "is_behind" (defArgs s_is_behind) (defBody s_is_behind) (defScope s_is_behind) .none kv_is_behind dc_is_behind pm_is_behind an_is_behind cd_is_behind ct_is_behind), sl_is_behind⟩)
    (c_is_behind : PySem.W.codeIn K cd_is_behind "is_behind" = true)
    (k_is_behind : PySem.W.keepIn K (.ref f_is_behind_) = true)
    (a_is_give : PySem.W.nsIn K mainGlobals "is_give" = some (some (.ref f_is_give_)))
    (l_is_give : K.lookup f_is_give_ = some ⟨oc_is_give, od_is_give, .func (PySem.W.fnOf "is_give" "is_give" (defArgs s_is_give) (defBody s_is_give) (defScope s_is_give) .none kv_is_give dc_is_give pm_is_give an_is_give cd_is_give ct_is_give), sl_is_give⟩)
    (c_is_give : PySem.W.codeIn K cd_is_give "is_give" = true)
    (k_is_give : PySem.W.keepIn K (.ref f_is_give_) = true)
    (a_is_move : PySem.W.nsIn K mainGlobals "is_move" = some (some (.ref f_is_move_)))
    (l_is_move : K.lookup f_is_move_ = some ⟨oc_is_move, od_is_move, .func (PySem.W.fnOf "is_move" "is_move" (defArgs s_is_move) (defBody s_is_move) (defScope s_is_move) .none kv_is_move dc_is_move pm_is_move an_is_move cd_is_move ct_is_move), sl_is_move⟩)
    (c_is_move : PySem.W.codeIn K cd_is_move "is_move" = true)
    (k_is_move : PySem.W.keepIn K (.ref f_is_move_) = true)
    (a_is_lift : PySem.W.nsIn K mainGlobals "is_lift" = some (some (.ref f_is_lift_)))
    (l_is_lift : K.lookup f_is_lift_ = some ⟨oc_is_lift, od_is_lift, .func (PySem.W.fnOf "is_lift" "is_lift" (defArgs s_is_lift) (defBody s_is_lift) (defScope s_is_lift) .none kv_is_lift dc_is_lift pm_is_lift an_is_lift cd_is_lift ct_is_lift), sl_is_lift⟩)
    (c_is_lift : PySem.W.codeIn K cd_is_lift "is_lift" = true)
    (k_is_lift : PySem.W.keepIn K (.ref f_is_lift_) = true)
    (a_is_row : PySem.W.nsIn K mainGlobals "is_row" = some (some (.ref f_is_row_)))
    (l_is_row : K.lookup f_is_row_ = some ⟨oc_is_row, od_is_row, .func (PySem.W.fnOf "is_row" "is_row" (defArgs s_is_row) (defBody s_is_row) (defScope s_is_row) .none kv_is_row dc_is_row pm_is_row an_is_row cd_is_row ct_is_row), sl_is_row⟩)
    (c_is_row : PySem.W.codeIn K cd_is_row "is_row" = true)
    (k_is_row : PySem.W.keepIn K (.ref f_is_row_) = true)
    (a_want_word : PySem.W.nsIn K mainGlobals "want_word" = some (some (.ref f_want_word_)))
    (l_want_word : K.lookup f_want_word_ = some ⟨oc_want_word, od_want_word, .func (PySem.W.fnOf "want_word" "want_word" (defArgs s_want_word) (defBody s_want_word) (defScope s_want_word) .none kv_want_word dc_want_word pm_want_word an_want_word cd_want_word ct_want_word), sl_want_word⟩)
    (c_want_word : PySem.W.codeIn K cd_want_word "want_word" = true)
    (k_want_word : PySem.W.keepIn K (.ref f_want_word_) = true)
    (a_are_holds : PySem.W.nsIn K mainGlobals "are_holds" = some (some (.ref f_are_holds_)))
    (l_are_holds : K.lookup f_are_holds_ = some ⟨oc_are_holds, od_are_holds, .func (PySem.W.fnOf "are_holds" "are_holds" (defArgs s_are_holds) (defBody s_are_holds) (defScope s_are_holds) .none kv_are_holds dc_are_holds pm_are_holds an_are_holds cd_are_holds ct_are_holds), sl_are_holds⟩)
    (c_are_holds : PySem.W.codeIn K cd_are_holds "are_holds" = true)
    (k_are_holds : PySem.W.keepIn K (.ref f_are_holds_) = true)
    (a_holds_in_sequence : PySem.W.nsIn K mainGlobals "holds_in_sequence" = some (some (.ref f_holds_in_sequence_)))
    (l_holds_in_sequence : K.lookup f_holds_in_sequence_ = some ⟨oc_holds_in_sequence, od_holds_in_sequence, .func (PySem.W.fnOf "holds_in_sequence" "holds_in_sequence" (defArgs s_holds_in_sequence) (defBody s_holds_in_sequence) (defScope s_holds_in_sequence) .none kv_holds_in_sequence dc_holds_in_sequence pm_holds_in_sequence an_holds_in_sequence cd_holds_in_sequence ct_holds_in_sequence), sl_holds_in_sequence⟩)
    (c_holds_in_sequence : PySem.W.codeIn K cd_holds_in_sequence "holds_in_sequence" = true)
    (k_holds_in_sequence : PySem.W.keepIn K (.ref f_holds_in_sequence_) = true)
    (a_want_batch : PySem.W.nsIn K mainGlobals "want_batch" = some (some (.ref f_want_batch_)))
    (l_want_batch : K.lookup f_want_batch_ = some ⟨oc_want_batch, od_want_batch, .func (PySem.W.fnOf "want_batch" "want_batch" (defArgs s_want_batch) (defBody s_want_batch) (defScope s_want_batch) .none kv_want_batch dc_want_batch pm_want_batch an_want_batch cd_want_batch ct_want_batch), sl_want_batch⟩)
    (c_want_batch : PySem.W.codeIn K cd_want_batch "want_batch" = true)
    (k_want_batch : PySem.W.keepIn K (.ref f_want_batch_) = true)
    (a_Book___init__ : PySem.W.findIn K (.ref C_Book) "__init__" = some (some (.ref f_Book___init___)))
    (i_Book___init__ : PySem.W.isFn K (.ref f_Book___init___) = true)
    (l_Book___init__ : K.lookup f_Book___init___ = some ⟨oc_Book___init__, od_Book___init__, .func (PySem.W.fnOf "__init__" "Book.__init__" (defArgs s_Book___init__) (defBody s_Book___init__) (defScope s_Book___init__) .none kv_Book___init__ dc_Book___init__ pm_Book___init__ an_Book___init__ cd_Book___init__ ct_Book___init__), sl_Book___init__⟩)
    (c_Book___init__ : PySem.W.codeIn K cd_Book___init__ "Book.__init__" = true)
    (k_Book___init__ : PySem.W.keepIn K (.ref f_Book___init___) = true)
    (a__law_book : PySem.W.nsIn K mainGlobals "_law_book" = some (some (.ref f__law_book_)))
    (l__law_book : K.lookup f__law_book_ = some ⟨oc__law_book, od__law_book, .func (PySem.W.fnOf "_law_book" "_law_book" (defArgs s__law_book) (defBody s__law_book) (defScope s__law_book) .none kv__law_book dc__law_book pm__law_book an__law_book cd__law_book ct__law_book), sl__law_book⟩)
    (c__law_book : PySem.W.codeIn K cd__law_book "_law_book" = true)
    (k__law_book : PySem.W.keepIn K (.ref f__law_book_) = true)
    (a__law_told : PySem.W.nsIn K mainGlobals "_law_told" = some (some (.ref f__law_told_)))
    (l__law_told : K.lookup f__law_told_ = some ⟨oc__law_told, od__law_told, .func (PySem.W.fnOf "_law_told" "_law_told" (defArgs s__law_told) (defBody s__law_told) (defScope s__law_told) .none kv__law_told dc__law_told pm__law_told an__law_told cd__law_told ct__law_told), sl__law_told⟩)
    (c__law_told : PySem.W.codeIn K cd__law_told "_law_told" = true)
    (k__law_told : PySem.W.keepIn K (.ref f__law_told_) = true)
    (a_Tree___len__ : PySem.W.findIn K (.ref C_Tree) "__len__" = some (some (.ref f_Tree___len___)))
    (i_Tree___len__ : PySem.W.isFn K (.ref f_Tree___len___) = true)
    (l_Tree___len__ : K.lookup f_Tree___len___ = some ⟨oc_Tree___len__, od_Tree___len__, .func (PySem.W.fnOf "__len__" "Tree.__len__" (defArgs s_Tree___len__) (defBody s_Tree___len__) (defScope s_Tree___len__) .none kv_Tree___len__ dc_Tree___len__ pm_Tree___len__ an_Tree___len__ cd_Tree___len__ ct_Tree___len__), sl_Tree___len__⟩)
    (c_Tree___len__ : PySem.W.codeIn K cd_Tree___len__ "Tree.__len__" = true)
    (k_Tree___len__ : PySem.W.keepIn K (.ref f_Tree___len___) = true)
    (a_Tree_want_group : PySem.W.findIn K (.ref C_Tree) "want_group" = some (some (.ref f_Tree_want_group_)))
    (i_Tree_want_group : PySem.W.isFn K (.ref f_Tree_want_group_) = true)
    (l_Tree_want_group : K.lookup f_Tree_want_group_ = some ⟨oc_Tree_want_group, od_Tree_want_group, .func (PySem.W.fnOf "want_group" "Tree.want_group" (defArgs s_Tree_want_group) (defBody s_Tree_want_group) (defScope s_Tree_want_group) .none kv_Tree_want_group dc_Tree_want_group pm_Tree_want_group an_Tree_want_group cd_Tree_want_group ct_Tree_want_group), sl_Tree_want_group⟩)
    (c_Tree_want_group : PySem.W.codeIn K cd_Tree_want_group "Tree.want_group" = true)
    (k_Tree_want_group : PySem.W.keepIn K (.ref f_Tree_want_group_) = true)
    (a_Tree_way : PySem.W.findIn K (.ref C_Tree) "way" = some (some (.ref f_Tree_way_)))
    (i_Tree_way : PySem.W.isFn K (.ref f_Tree_way_) = true)
    (l_Tree_way : K.lookup f_Tree_way_ = some ⟨oc_Tree_way, od_Tree_way, .func (PySem.W.fnOf "way" "Tree.way" (defArgs s_Tree_way) (defBody s_Tree_way) (defScope s_Tree_way) .none kv_Tree_way dc_Tree_way pm_Tree_way an_Tree_way cd_Tree_way ct_Tree_way), sl_Tree_way⟩)
    (c_Tree_way : PySem.W.codeIn K cd_Tree_way "Tree.way" = true)
    (k_Tree_way : PySem.W.keepIn K (.ref f_Tree_way_) = true)
    (a_want_kind : PySem.W.nsIn K mainGlobals "want_kind" = some (some (.ref f_want_kind_)))
    (l_want_kind : K.lookup f_want_kind_ = some ⟨oc_want_kind, od_want_kind, .func (PySem.W.fnOf "want_kind" "want_kind" (defArgs s_want_kind) (defBody s_want_kind) (defScope s_want_kind) .none kv_want_kind dc_want_kind pm_want_kind an_want_kind cd_want_kind ct_want_kind), sl_want_kind⟩)
    (c_want_kind : PySem.W.codeIn K cd_want_kind "want_kind" = true)
    (k_want_kind : PySem.W.keepIn K (.ref f_want_kind_) = true)
    (a_Book_row : PySem.W.findIn K (.ref C_Book) "row" = some (some (.ref f_Book_row_)))
    (i_Book_row : PySem.W.isFn K (.ref f_Book_row_) = true)
    (l_Book_row : K.lookup f_Book_row_ = some ⟨oc_Book_row, od_Book_row, .func (PySem.W.fnOf "row" "Book.row" (defArgs s_Book_row) (defBody s_Book_row) (defScope s_Book_row) .none kv_Book_row dc_Book_row pm_Book_row an_Book_row cd_Book_row ct_Book_row), sl_Book_row⟩)
    (c_Book_row : PySem.W.codeIn K cd_Book_row "Book.row" = true)
    (k_Book_row : PySem.W.keepIn K (.ref f_Book_row_) = true)
    (a_along : PySem.W.nsIn K mainGlobals "along" = some (some (.ref f_along_)))
    (l_along : K.lookup f_along_ = some ⟨oc_along, od_along, .func (PySem.W.fnOf "along" "along" (defArgs s_along) (defBody s_along) (defScope s_along) .none kv_along dc_along pm_along an_along cd_along ct_along), sl_along⟩)
    (c_along : PySem.W.codeIn K cd_along "along" = true)
    (k_along : PySem.W.keepIn K (.ref f_along_) = true)
    (a_take_plan : PySem.W.nsIn K mainGlobals "take_plan" = some (some (.ref f_take_plan_)))
    (l_take_plan : K.lookup f_take_plan_ = some ⟨oc_take_plan, od_take_plan, .func (PySem.W.fnOf "take_plan" "take_plan" (defArgs s_take_plan) (defBody s_take_plan) (defScope s_take_plan) .none kv_take_plan dc_take_plan pm_take_plan an_take_plan cd_take_plan ct_take_plan), sl_take_plan⟩)
    (c_take_plan : PySem.W.codeIn K cd_take_plan "take_plan" = true)
    (k_take_plan : PySem.W.keepIn K (.ref f_take_plan_) = true)
    (a_give_plan : PySem.W.nsIn K mainGlobals "give_plan" = some (some (.ref f_give_plan_)))
    (l_give_plan : K.lookup f_give_plan_ = some ⟨oc_give_plan, od_give_plan, .func (PySem.W.fnOf "give_plan" "give_plan" (defArgs s_give_plan) (defBody s_give_plan) (defScope s_give_plan) .none kv_give_plan dc_give_plan pm_give_plan an_give_plan cd_give_plan ct_give_plan), sl_give_plan⟩)
    (c_give_plan : PySem.W.codeIn K cd_give_plan "give_plan" = true)
    (k_give_plan : PySem.W.keepIn K (.ref f_give_plan_) = true)
    (a_settle_plan : PySem.W.nsIn K mainGlobals "settle_plan" = some (some (.ref f_settle_plan_)))
    (l_settle_plan : K.lookup f_settle_plan_ = some ⟨oc_settle_plan, od_settle_plan, .func (PySem.W.fnOf "settle_plan" "settle_plan" (defArgs s_settle_plan) (defBody s_settle_plan) (defScope s_settle_plan) .none kv_settle_plan dc_settle_plan pm_settle_plan an_settle_plan cd_settle_plan ct_settle_plan), sl_settle_plan⟩)
    (c_settle_plan : PySem.W.codeIn K cd_settle_plan "settle_plan" = true)
    (k_settle_plan : PySem.W.keepIn K (.ref f_settle_plan_) = true)
    (pa_Book_shared : PySem.W.findIn K (.ref C_Book) "shared" = some (some (.ref pr_Book_shared)))
    (pd_Book_shared : PySem.W.recIn K pr_Book_shared "property" = some (.ref f_Book_shared_ :: re_Book_shared))
    (pb_Book_shared : PySem.W.specialIn K (.ref pr_Book_shared) "__get__" = some (some (.builtin "property.__get__")))
    (pc_Book_shared : PySem.W.takesIn K (.ref pr_Book_shared) = some true)
    (l_Book_shared : K.lookup f_Book_shared_ = some ⟨oc_Book_shared, od_Book_shared, .func (PySem.W.fnOf "shared" "Book.shared" (defArgs s_Book_shared) (defBody s_Book_shared) (defScope s_Book_shared) .none kv_Book_shared dc_Book_shared pm_Book_shared an_Book_shared cd_Book_shared ct_Book_shared), sl_Book_shared⟩)
    (c_Book_shared : PySem.W.codeIn K cd_Book_shared "Book.shared" = true)
    (k_Book_shared : PySem.W.keepIn K (.ref f_Book_shared_) = true)
    (a_Tree_apart : PySem.W.findIn K (.ref C_Tree) "apart" = some (some (.ref f_Tree_apart_)))
    (i_Tree_apart : PySem.W.isFn K (.ref f_Tree_apart_) = true)
    (l_Tree_apart : K.lookup f_Tree_apart_ = some ⟨oc_Tree_apart, od_Tree_apart, .func (PySem.W.fnOf "apart" "Tree.apart" (defArgs s_Tree_apart) (defBody s_Tree_apart) (defScope s_Tree_apart) .none kv_Tree_apart dc_Tree_apart pm_Tree_apart an_Tree_apart cd_Tree_apart ct_Tree_apart), sl_Tree_apart⟩)
    (c_Tree_apart : PySem.W.codeIn K cd_Tree_apart "Tree.apart" = true)
    (k_Tree_apart : PySem.W.keepIn K (.ref f_Tree_apart_) = true)
    (a_move_ways : PySem.W.nsIn K mainGlobals "move_ways" = some (some (.ref f_move_ways_)))
    (l_move_ways : K.lookup f_move_ways_ = some ⟨oc_move_ways, od_move_ways, .func (PySem.W.fnOf "move_ways" "move_ways" (defArgs s_move_ways) (defBody s_move_ways) (defScope s_move_ways) .none kv_move_ways dc_move_ways pm_move_ways an_move_ways cd_move_ways ct_move_ways), sl_move_ways⟩)
    (c_move_ways : PySem.W.codeIn K cd_move_ways "move_ways" = true)
    (k_move_ways : PySem.W.keepIn K (.ref f_move_ways_) = true)
    (a_move_plan : PySem.W.nsIn K mainGlobals "move_plan" = some (some (.ref f_move_plan_)))
    (l_move_plan : K.lookup f_move_plan_ = some ⟨oc_move_plan, od_move_plan, .func (PySem.W.fnOf "move_plan" "move_plan" (defArgs s_move_plan) (defBody s_move_plan) (defScope s_move_plan) .none kv_move_plan dc_move_plan pm_move_plan an_move_plan cd_move_plan ct_move_plan), sl_move_plan⟩)
    (c_move_plan : PySem.W.codeIn K cd_move_plan "move_plan" = true)
    (k_move_plan : PySem.W.keepIn K (.ref f_move_plan_) = true)
    (a_Tree_parent : PySem.W.findIn K (.ref C_Tree) "parent" = some (some (.ref f_Tree_parent_)))
    (i_Tree_parent : PySem.W.isFn K (.ref f_Tree_parent_) = true)
    (l_Tree_parent : K.lookup f_Tree_parent_ = some ⟨oc_Tree_parent, od_Tree_parent, .func (PySem.W.fnOf "parent" "Tree.parent" (defArgs s_Tree_parent) (defBody s_Tree_parent) (defScope s_Tree_parent) .none kv_Tree_parent dc_Tree_parent pm_Tree_parent an_Tree_parent cd_Tree_parent ct_Tree_parent), sl_Tree_parent⟩)
    (c_Tree_parent : PySem.W.codeIn K cd_Tree_parent "Tree.parent" = true)
    (k_Tree_parent : PySem.W.keepIn K (.ref f_Tree_parent_) = true)
    (a_lift_plan : PySem.W.nsIn K mainGlobals "lift_plan" = some (some (.ref f_lift_plan_)))
    (l_lift_plan : K.lookup f_lift_plan_ = some ⟨oc_lift_plan, od_lift_plan, .func (PySem.W.fnOf "lift_plan" "lift_plan" (defArgs s_lift_plan) (defBody s_lift_plan) (defScope s_lift_plan) .none kv_lift_plan dc_lift_plan pm_lift_plan an_lift_plan cd_lift_plan ct_lift_plan), sl_lift_plan⟩)
    (c_lift_plan : PySem.W.codeIn K cd_lift_plan "lift_plan" = true)
    (k_lift_plan : PySem.W.keepIn K (.ref f_lift_plan_) = true)
    (a__law_spots_let : PySem.W.nsIn K mainGlobals "_law_spots_let" = some (some (.ref f__law_spots_let_)))
    (tb__law_spots_let : PySem.W.tabIn K "_law_spots_let" = some (c__law_spots_let_, P__law_spots_let_))
    (tn__law_spots_let : K.lookup P__law_spots_let_ = none)
    (l__law_spots_let : K.lookup f__law_spots_let_ = some ⟨oc__law_spots_let, od__law_spots_let, .func (PySem.W.fnOf "_law_spots_let" "_law_spots_let" (defArgs s__law_spots_let) (defBody s__law_spots_let) (defScope s__law_spots_let) .none kv__law_spots_let dc__law_spots_let pm__law_spots_let an__law_spots_let (.ref c__law_spots_let_) ct__law_spots_let), sl__law_spots_let⟩)
    (c__law_spots_let : PySem.W.codeIn K (.ref c__law_spots_let_) "_law_spots_let" = true)
    (k__law_spots_let : PySem.W.keepIn K (.ref f__law_spots_let_) = true)
    (a__law_odd : PySem.W.nsIn K mainGlobals "_law_odd" = some (some (.ref f__law_odd_)))
    (l__law_odd : K.lookup f__law_odd_ = some ⟨oc__law_odd, od__law_odd, .func (PySem.W.fnOf "_law_odd" "_law_odd" (defArgs s__law_odd) (defBody s__law_odd) (defScope s__law_odd) .none kv__law_odd dc__law_odd pm__law_odd an__law_odd cd__law_odd ct__law_odd), sl__law_odd⟩)
    (c__law_odd : PySem.W.codeIn K cd__law_odd "_law_odd" = true)
    (k__law_odd : PySem.W.keepIn K (.ref f__law_odd_) = true)
    (a__law_spots_refused : PySem.W.nsIn K mainGlobals "_law_spots_refused" = some (some (.ref f__law_spots_refused_)))
    (tb__law_spots_refused : PySem.W.tabIn K "_law_spots_refused" = some (c__law_spots_refused_, P__law_spots_refused_))
    (tn__law_spots_refused : K.lookup P__law_spots_refused_ = none)
    (l__law_spots_refused : K.lookup f__law_spots_refused_ = some ⟨oc__law_spots_refused, od__law_spots_refused, .func (PySem.W.fnOf "_law_spots_refused" "_law_spots_refused" (defArgs s__law_spots_refused) (defBody s__law_spots_refused) (defScope s__law_spots_refused) .none kv__law_spots_refused dc__law_spots_refused pm__law_spots_refused an__law_spots_refused (.ref c__law_spots_refused_) ct__law_spots_refused), sl__law_spots_refused⟩)
    (c__law_spots_refused : PySem.W.codeIn K (.ref c__law_spots_refused_) "_law_spots_refused" = true)
    (k__law_spots_refused : PySem.W.keepIn K (.ref f__law_spots_refused_) = true)
    (a_Book_others : PySem.W.findIn K (.ref C_Book) "others" = some (some (.ref f_Book_others_)))
    (i_Book_others : PySem.W.isFn K (.ref f_Book_others_) = true)
    (l_Book_others : K.lookup f_Book_others_ = some ⟨oc_Book_others, od_Book_others, .func (PySem.W.fnOf "others" "Book.others" (defArgs s_Book_others) (defBody s_Book_others) (defScope s_Book_others) .none kv_Book_others dc_Book_others pm_Book_others an_Book_others cd_Book_others ct_Book_others), sl_Book_others⟩)
    (c_Book_others : PySem.W.codeIn K cd_Book_others "Book.others" = true)
    (k_Book_others : PySem.W.keepIn K (.ref f_Book_others_) = true)
    (a_Book___eq__ : PySem.W.findIn K (.ref C_Book) "__eq__" = some (some (.ref f_Book___eq___)))
    (i_Book___eq__ : PySem.W.isFn K (.ref f_Book___eq___) = true)
    (l_Book___eq__ : K.lookup f_Book___eq___ = some ⟨oc_Book___eq__, od_Book___eq__, .func (PySem.W.fnOf "__eq__" "Book.__eq__" (defArgs s_Book___eq__) (defBody s_Book___eq__) (defScope s_Book___eq__) .none kv_Book___eq__ dc_Book___eq__ pm_Book___eq__ an_Book___eq__ cd_Book___eq__ ct_Book___eq__), sl_Book___eq__⟩)
    (c_Book___eq__ : PySem.W.codeIn K cd_Book___eq__ "Book.__eq__" = true)
    (k_Book___eq__ : PySem.W.keepIn K (.ref f_Book___eq___) = true)
    (a_Tree___eq__ : PySem.W.findIn K (.ref C_Tree) "__eq__" = some (some (.ref f_Tree___eq___)))
    (i_Tree___eq__ : PySem.W.isFn K (.ref f_Tree___eq___) = true)
    (l_Tree___eq__ : K.lookup f_Tree___eq___ = some ⟨oc_Tree___eq__, od_Tree___eq__, .func (PySem.W.fnOf "__eq__" "Tree.__eq__" (defArgs s_Tree___eq__) (defBody s_Tree___eq__) (defScope s_Tree___eq__) .none kv_Tree___eq__ dc_Tree___eq__ pm_Tree___eq__ an_Tree___eq__ cd_Tree___eq__ ct_Tree___eq__), sl_Tree___eq__⟩)
    (c_Tree___eq__ : PySem.W.codeIn K cd_Tree___eq__ "Tree.__eq__" = true)
    (k_Tree___eq__ : PySem.W.keepIn K (.ref f_Tree___eq___) = true)
    (a__law_right : PySem.W.nsIn K mainGlobals "_law_right" = some (some (.ref f__law_right_)))
    (l__law_right : K.lookup f__law_right_ = some ⟨oc__law_right, od__law_right, .func (PySem.W.fnOf "_law_right" "_law_right" (defArgs s__law_right) (defBody s__law_right) (defScope s__law_right) .none kv__law_right dc__law_right pm__law_right an__law_right cd__law_right ct__law_right), sl__law_right⟩)
    (c__law_right : PySem.W.codeIn K cd__law_right "_law_right" = true)
    (k__law_right : PySem.W.keepIn K (.ref f__law_right_) = true)
    (a__law_pot : PySem.W.nsIn K mainGlobals "_law_pot" = some (some (.ref f__law_pot_)))
    (l__law_pot : K.lookup f__law_pot_ = some ⟨oc__law_pot, od__law_pot, .func (PySem.W.fnOf "_law_pot" "_law_pot" (defArgs s__law_pot) (defBody s__law_pot) (defScope s__law_pot) .none kv__law_pot dc__law_pot pm__law_pot an__law_pot cd__law_pot ct__law_pot), sl__law_pot⟩)
    (c__law_pot : PySem.W.codeIn K cd__law_pot "_law_pot" = true)
    (k__law_pot : PySem.W.keepIn K (.ref f__law_pot_) = true)
    (a_law : PySem.W.nsIn K mainGlobals "law" = some (some (.ref f_law_)))
    (l_law : K.lookup f_law_ = some ⟨oc_law, od_law, .func (PySem.W.fnOf "law" "law" (defArgs s_law) (defBody s_law) (defScope s_law) .none kv_law dc_law pm_law an_law cd_law ct_law), sl_law⟩)
    (c_law : PySem.W.codeIn K cd_law "law" = true)
    (k_law : PySem.W.keepIn K (.ref f_law_) = true)
    (z_ValueError : PySem.W.nsIn K mainGlobals "ValueError" = some none)
    (z_abs : PySem.W.nsIn K mainGlobals "abs" = some none)
    (z_all : PySem.W.nsIn K mainGlobals "all" = some none)
    (z_bool : PySem.W.nsIn K mainGlobals "bool" = some none)
    (z_dict : PySem.W.nsIn K mainGlobals "dict" = some none)
    (z_divmod : PySem.W.nsIn K mainGlobals "divmod" = some none)
    (z_enumerate : PySem.W.nsIn K mainGlobals "enumerate" = some none)
    (z_int : PySem.W.nsIn K mainGlobals "int" = some none)
    (z_isinstance : PySem.W.nsIn K mainGlobals "isinstance" = some none)
    (z_len : PySem.W.nsIn K mainGlobals "len" = some none)
    (z_list : PySem.W.nsIn K mainGlobals "list" = some none)
    (z_max : PySem.W.nsIn K mainGlobals "max" = some none)
    (z_min : PySem.W.nsIn K mainGlobals "min" = some none)
    (z_range : PySem.W.nsIn K mainGlobals "range" = some none)
    (z_repr : PySem.W.nsIn K mainGlobals "repr" = some none)
    (z_sorted : PySem.W.nsIn K mainGlobals "sorted" = some none)
    (z_str : PySem.W.nsIn K mainGlobals "str" = some none)
    (z_tuple : PySem.W.nsIn K mainGlobals "tuple" = some none)
    (y_ADD : PySem.W.nsIn K mainGlobals "ADD" = some (some (.str "add" tk_ADD)))
    (y_BOTH : PySem.W.nsIn K mainGlobals "BOTH" = some (some (.str "both" tk_BOTH)))
    (y_END : PySem.W.nsIn K mainGlobals "END" = some (some (.str "end" tk_END)))
    (y_FAILS : PySem.W.nsIn K mainGlobals "FAILS" = some (some (.ref ad_FAILS)))
    (tt_FAILS : K.lookup ad_FAILS = some ⟨.type "tuple", none, .seq [(.str "undo" kk_FAILS_0), (.str "leave" kk_FAILS_1), (.str "wait" kk_FAILS_2)].toArray nn_FAILS, ss_FAILS⟩)
    (y_GIVE : PySem.W.nsIn K mainGlobals "GIVE" = some (some (.str "give" tk_GIVE)))
    (y_GIVE_WORDS : PySem.W.nsIn K mainGlobals "GIVE_WORDS" = some (some (.ref ad_GIVE_WORDS)))
    (tt_GIVE_WORDS : K.lookup ad_GIVE_WORDS = some ⟨.type "tuple", none, .seq [(.str "home" kk_GIVE_WORDS_0), (.str "off" kk_GIVE_WORDS_1), (.str "end" kk_GIVE_WORDS_2)].toArray nn_GIVE_WORDS, ss_GIVE_WORDS⟩)
    (y_GREATEST_BATCH : PySem.W.nsIn K mainGlobals "GREATEST_BATCH" = some (some (.int 50 tk_GREATEST_BATCH)))
    (y_HOLDING : PySem.W.nsIn K mainGlobals "HOLDING" = some (some (.ref ad_HOLDING)))
    (tt_HOLDING : K.lookup ad_HOLDING = some ⟨.type "tuple", none, .seq [(.str "take" kk_HOLDING_0), (.str "give" kk_HOLDING_1), (.str "move" kk_HOLDING_2), (.str "lift" kk_HOLDING_3)].toArray nn_HOLDING, ss_HOLDING⟩)
    (y_HOME : PySem.W.nsIn K mainGlobals "HOME" = some (some (.str "home" tk_HOME)))
    (y_LIFT : PySem.W.nsIn K mainGlobals "LIFT" = some (some (.str "lift" tk_LIFT)))
    (y_LIFTS : PySem.W.nsIn K mainGlobals "LIFTS" = some (some (.ref ad_LIFTS)))
    (tt_LIFTS : K.lookup ad_LIFTS = some ⟨.type "tuple", none, .seq [(Value.ref ad_LIFTS_0), (Value.ref ad_LIFTS_1), (Value.ref ad_LIFTS_2), (Value.ref ad_LIFTS_3), (Value.ref ad_LIFTS_4), (Value.ref ad_LIFTS_5)].toArray nn_LIFTS, ss_LIFTS⟩)
    (tt_LIFTS_0 : K.lookup ad_LIFTS_0 = some ⟨.type "tuple", none, .seq [].toArray nn_LIFTS_0, ss_LIFTS_0⟩)
    (tt_LIFTS_1 : K.lookup ad_LIFTS_1 = some ⟨.type "tuple", none, .seq [(.str "set" kk_LIFTS_1_0)].toArray nn_LIFTS_1, ss_LIFTS_1⟩)
    (tt_LIFTS_2 : K.lookup ad_LIFTS_2 = some ⟨.type "tuple", none, .seq [(.str "off" kk_LIFTS_2_0)].toArray nn_LIFTS_2, ss_LIFTS_2⟩)
    (tt_LIFTS_3 : K.lookup ad_LIFTS_3 = some ⟨.type "tuple", none, .seq [(.str "set" kk_LIFTS_3_0), (.str "off" kk_LIFTS_3_1)].toArray nn_LIFTS_3, ss_LIFTS_3⟩)
    (tt_LIFTS_4 : K.lookup ad_LIFTS_4 = some ⟨.type "tuple", none, .seq [(.str "off" kk_LIFTS_4_0), (.str "set" kk_LIFTS_4_1)].toArray nn_LIFTS_4, ss_LIFTS_4⟩)
    (tt_LIFTS_5 : K.lookup ad_LIFTS_5 = some ⟨.type "tuple", none, .seq [(.str "both" kk_LIFTS_5_0)].toArray nn_LIFTS_5, ss_LIFTS_5⟩)
    (y_LIVE : PySem.W.nsIn K mainGlobals "LIVE" = some (some (.str "live" tk_LIVE)))
    (y_LOOK : PySem.W.nsIn K mainGlobals "LOOK" = some (some (.str "look" tk_LOOK)))
    (y_MOST_GROUPS : PySem.W.nsIn K mainGlobals "MOST_GROUPS" = some (some (.int 200 tk_MOST_GROUPS)))
    (y_MOVE : PySem.W.nsIn K mainGlobals "MOVE" = some (some (.str "move" tk_MOVE)))
    (y_MOVE_WORDS : PySem.W.nsIn K mainGlobals "MOVE_WORDS" = some (some (.ref ad_MOVE_WORDS)))
    (tt_MOVE_WORDS : K.lookup ad_MOVE_WORDS = some ⟨.type "tuple", none, .seq [(.str "home" kk_MOVE_WORDS_0), (.str "look" kk_MOVE_WORDS_1), (.str "add" kk_MOVE_WORDS_2), (.str "try" kk_MOVE_WORDS_3), (.str "set" kk_MOVE_WORDS_4), (.str "off" kk_MOVE_WORDS_5)].toArray nn_MOVE_WORDS, ss_MOVE_WORDS⟩)
    (y_OFF : PySem.W.nsIn K mainGlobals "OFF" = some (some (.str "off" tk_OFF)))
    (y_SET : PySem.W.nsIn K mainGlobals "SET" = some (some (.str "set" tk_SET)))
    (y_TAKE : PySem.W.nsIn K mainGlobals "TAKE" = some (some (.str "take" tk_TAKE)))
    (y_TAKE_WORDS : PySem.W.nsIn K mainGlobals "TAKE_WORDS" = some (some (.ref ad_TAKE_WORDS)))
    (tt_TAKE_WORDS : K.lookup ad_TAKE_WORDS = some ⟨.type "tuple", none, .seq [(.str "look" kk_TAKE_WORDS_0), (.str "add" kk_TAKE_WORDS_1), (.str "try" kk_TAKE_WORDS_2), (.str "live" kk_TAKE_WORDS_3)].toArray nn_TAKE_WORDS, ss_TAKE_WORDS⟩)
    (y_TESTS : PySem.W.nsIn K mainGlobals "TESTS" = some (some (.ref ad_TESTS)))
    (tt_TESTS : K.lookup ad_TESTS = some ⟨.type "tuple", none, .seq [(.str "look" kk_TESTS_0), (.str "try" kk_TESTS_1)].toArray nn_TESTS, ss_TESTS⟩)
    (y_TOP : PySem.W.nsIn K mainGlobals "TOP" = some (some (.int 0 tk_TOP)))
    (y_TRY : PySem.W.nsIn K mainGlobals "TRY" = some (some (.str "try" tk_TRY)))
    (tabOf : ∀ (e : DefRec) (y : Str) (c P : Addr), (recsOf qq).find? (fun e => e.name == y) = some e → PySem.W.tabIn K y = some (c, P) → PySem.W.CodeHd h c P ∧ h.get? P = some { cls := .none, data := .fields #[] })
    (rc__law_spots_let : (recsOf qq).find? (fun e => e.name == ("_law_spots_let" : Str)) = some dr__law_spots_let)
    (rc__law_spots_refused : (recsOf qq).find? (fun e => e.name == ("_law_spots_refused" : Str)) = some dr__law_spots_refused)
    : ∃ (fd : FuncData) (cs : List (Addr × Addr)) (tabs : List (Addr × Str)), (∀ (s : Shared) (u : Value), BindsTo s fd ⟨[u], []⟩ [("_law_script", u)]) ∧
      (∀ p ∈ cs, (PySem.W.CodeHd h p.1 p.2 ∧ h.get? p.2 = some { cls := .none, data := .fields #[] }) ∧ K.lookup p.2 = none) ∧ (∀ H : Hp, (∀ p ∈ cs, H p.2 = some (.tbl #[])) → LamX.Tabs tabs H) ∧
      ∀ base : Heap, K.In base → base.Ns mainGlobals mg → (∀ p ∈ cs, LamX.TabB base mg p.1 p.2) → FnG l.prog w K mg base CX0 12 fa fd ["_law_script"] (spLaw 63 K tabs) := by
  have T : Tx K mg C_Tree C_Book C_IsTop C_InvalidGroup C_WayError c__law_spots_let_ P__law_spots_let_ c__law_spots_refused_ P__law_spots_refused_ := ⟨⟨pg_Tree, hd_Tree, po_Tree, sa_Tree⟩,
    PySem.W.mg_of X G aC_Tree,
    ⟨⟨pg_Tree, hd_Tree, po_Tree, sa_Tree⟩, ia_Tree, ib_Tree, ic_Tree, id_Tree⟩,
    (ck_of ie_Tree ig_Tree),
    if_Tree,
    ⟨pg_Book, hd_Book, po_Book, sa_Book⟩,
    PySem.W.mg_of X G aC_Book,
    ⟨⟨pg_Book, hd_Book, po_Book, sa_Book⟩, ia_Book, ib_Book, ic_Book, id_Book⟩,
    (ck_of ie_Book ig_Book),
    if_Book,
    PySem.W.mg_of X G aC_IsTop,
    xq_IsTop,
    xk_IsTop,
    xs_IsTop,
    xt_IsTop,
    PySem.W.mg_of X G aC_InvalidGroup,
    ⟨⟨_, _, base_VE, xa_InvalidGroup, xb_InvalidGroup⟩, xc_InvalidGroup, xd_InvalidGroup, xs_InvalidGroup, xt_InvalidGroup, xk_InvalidGroup⟩,
    xh_InvalidGroup,
    ⟨xe_InvalidGroup, xg_InvalidGroup, xs_InvalidGroup, xc_InvalidGroup⟩,
    xn_InvalidGroup,
    xm_IsTop_InvalidGroup,
    xm_IsTop_IsTop,
    xm_InvalidGroup_InvalidGroup,
    xm_InvalidGroup_IsTop,
    ⟨_, _, ⟨⟨_, _, _, _, _, _, _, _, _, _, rfl, l_InvalidGroup___init__, c_InvalidGroup___init__, .inl ⟨rfl, rfl⟩, .inl rfl⟩, k_InvalidGroup___init__⟩, a_InvalidGroup___init__, i_InvalidGroup___init__⟩,
    PySem.W.mg_of X G aC_WayError,
    ⟨ea_InvalidGroup, eb_InvalidGroup, es_InvalidGroup, ed_InvalidGroup, ee_InvalidGroup, ef_InvalidGroup, eg_InvalidGroup, eh_InvalidGroup⟩,
    ki_InvalidGroup_ValueError,
    ki_InvalidGroup_WayError,
    dt__law_spots_refused__law_spots_let,
    na_own_parents,
    na_own_struck,
    na_own_rows,
    na_own_fails,
    na_own_shared,
    na_own_holds,
    na_own_batch,
    na_own_settles,
    ⟨_, _, ⟨⟨_, _, _, _, _, _, _, _, _, _, rfl, l__law_draw, c__law_draw, .inl ⟨rfl, rfl⟩, .inl rfl⟩, k__law_draw⟩, PySem.W.mg_of X G a__law_draw⟩,
    ⟨_, _, ⟨⟨_, _, _, _, _, _, _, _, _, _, rfl, l__law_ups, c__law_ups, .inl ⟨rfl, rfl⟩, .inl rfl⟩, k__law_ups⟩, PySem.W.mg_of X G a__law_ups⟩,
    ⟨_, _, ⟨⟨_, _, _, _, _, _, _, _, _, _, rfl, l__law_pick, c__law_pick, .inl ⟨rfl, rfl⟩, .inl rfl⟩, k__law_pick⟩, PySem.W.mg_of X G a__law_pick⟩,
    ⟨_, _, ⟨⟨_, _, _, _, _, _, _, _, _, _, rfl, l__law_menu, c__law_menu, .inl ⟨rfl, rfl⟩, .inl rfl⟩, k__law_menu⟩, PySem.W.mg_of X G a__law_menu⟩,
    ⟨_, _, ⟨⟨_, _, _, _, _, _, _, _, _, _, rfl, l__law_rules, c__law_rules, .inl ⟨rfl, rfl⟩, .inl rfl⟩, k__law_rules⟩, PySem.W.mg_of X G a__law_rules⟩,
    ⟨_, _, ⟨⟨_, _, _, _, _, _, _, _, _, _, rfl, l_is_list, c_is_list, .inl ⟨rfl, rfl⟩, .inl rfl⟩, k_is_list⟩, PySem.W.mg_of X G a_is_list⟩,
    ⟨_, _, ⟨⟨_, _, _, _, _, _, _, _, _, _, rfl, l_is_integer, c_is_integer, .inl ⟨rfl, rfl⟩, .inl rfl⟩, k_is_integer⟩, PySem.W.mg_of X G a_is_integer⟩,
    ⟨_, _, ⟨⟨_, _, _, _, _, _, _, _, _, _, rfl, l_is_count, c_is_count, .inl ⟨rfl, rfl⟩, .inl rfl⟩, k_is_count⟩, PySem.W.mg_of X G a_is_count⟩,
    ⟨_, _, ⟨⟨_, _, _, _, _, _, _, _, _, _, rfl, l_want_room, c_want_room, .inl ⟨rfl, rfl⟩, .inl rfl⟩, k_want_room⟩, PySem.W.mg_of X G a_want_room⟩,
    ⟨_, _, ⟨⟨_, _, _, _, _, _, _, _, _, _, rfl, l_want_parents, c_want_parents, .inl ⟨rfl, rfl⟩, .inl rfl⟩, k_want_parents⟩, PySem.W.mg_of X G a_want_parents⟩,
    ⟨_, _, ⟨⟨_, _, _, _, _, _, _, _, _, _, rfl, l_children_of, c_children_of, .inl ⟨rfl, rfl⟩, .inl rfl⟩, k_children_of⟩, PySem.W.mg_of X G a_children_of⟩,
    ⟨_, _, ⟨⟨_, _, _, _, _, _, _, _, _, _, rfl, l_want_struck, c_want_struck, .inl ⟨rfl, rfl⟩, .inl rfl⟩, k_want_struck⟩, PySem.W.mg_of X G a_want_struck⟩,
    ⟨_, _, _, _, ⟨⟨_, _, _, _, _, _, _, _, _, _, rfl, l_Tree___init__, c_Tree___init__, .inr ⟨by simp, _, _, _, _, rfl, t_Tree___init__, rfl, (.cons rfl (.cons rfl .nil))⟩, .inl rfl⟩, k_Tree___init__⟩, ⟨mk_Tree, a_Tree___init__, i_Tree___init__, kc_Tree⟩, fun m N H => .tup ⟨.inr ⟨_, #[], _, t_z0_Tree___init__, rfl, rfl, Nat.zero_le _, .nil⟩, .inl (.inr ⟨_, t_z0_Tree___init__, rfl⟩)⟩ .nil, fun m N H => .tup ⟨.inr ⟨_, #[], _, t_z1_Tree___init__, rfl, rfl, Nat.zero_le _, .nil⟩, .inl (.inr ⟨_, t_z1_Tree___init__, rfl⟩)⟩ .nil⟩,
    ⟨_, _, ⟨⟨_, _, _, _, _, _, _, _, _, _, rfl, l_are_words, c_are_words, .inl ⟨rfl, rfl⟩, .inl rfl⟩, k_are_words⟩, PySem.W.mg_of X G a_are_words⟩,
    ⟨_, _, ⟨⟨_, _, _, _, _, _, _, _, _, _, rfl, l_are_tests_ahead, c_are_tests_ahead, .inl ⟨rfl, rfl⟩, .inl rfl⟩, k_are_tests_ahead⟩, PySem.W.mg_of X G a_are_tests_ahead⟩,
    ⟨_, _, ⟨⟨_, _, _, _, _, _, _, _, _, _, rfl, l_is_take, c_is_take, .inl ⟨rfl, rfl⟩, .inl rfl⟩, k_is_take⟩, PySem.W.mg_of X G a_is_take⟩,
    ⟨_, _, ⟨⟨_, _, _, _, _, _, _, _, _, _, rfl, l_is_behind, c_is_behind, .inl ⟨rfl, rfl⟩, .inl rfl⟩, k_is_behind⟩, PySem.W.mg_of X G a_is_behind⟩,
    ⟨_, _, ⟨⟨_, _, _, _, _, _, _, _, _, _, rfl, l_is_give, c_is_give, .inl ⟨rfl, rfl⟩, .inl rfl⟩, k_is_give⟩, PySem.W.mg_of X G a_is_give⟩,
    ⟨_, _, ⟨⟨_, _, _, _, _, _, _, _, _, _, rfl, l_is_move, c_is_move, .inl ⟨rfl, rfl⟩, .inl rfl⟩, k_is_move⟩, PySem.W.mg_of X G a_is_move⟩,
    ⟨_, _, ⟨⟨_, _, _, _, _, _, _, _, _, _, rfl, l_is_lift, c_is_lift, .inl ⟨rfl, rfl⟩, .inl rfl⟩, k_is_lift⟩, PySem.W.mg_of X G a_is_lift⟩,
    ⟨_, _, ⟨⟨_, _, _, _, _, _, _, _, _, _, rfl, l_is_row, c_is_row, .inl ⟨rfl, rfl⟩, .inl rfl⟩, k_is_row⟩, PySem.W.mg_of X G a_is_row⟩,
    ⟨_, _, ⟨⟨_, _, _, _, _, _, _, _, _, _, rfl, l_want_word, c_want_word, .inl ⟨rfl, rfl⟩, .inl rfl⟩, k_want_word⟩, PySem.W.mg_of X G a_want_word⟩,
    ⟨_, _, ⟨⟨_, _, _, _, _, _, _, _, _, _, rfl, l_are_holds, c_are_holds, .inl ⟨rfl, rfl⟩, .inl rfl⟩, k_are_holds⟩, PySem.W.mg_of X G a_are_holds⟩,
    ⟨_, _, ⟨⟨_, _, _, _, _, _, _, _, _, _, rfl, l_holds_in_sequence, c_holds_in_sequence, .inl ⟨rfl, rfl⟩, .inl rfl⟩, k_holds_in_sequence⟩, PySem.W.mg_of X G a_holds_in_sequence⟩,
    ⟨_, _, ⟨⟨_, _, _, _, _, _, _, _, _, _, rfl, l_want_batch, c_want_batch, .inl ⟨rfl, rfl⟩, .inl rfl⟩, k_want_batch⟩, PySem.W.mg_of X G a_want_batch⟩,
    ⟨_, _, ⟨⟨_, _, _, _, _, _, _, _, _, _, rfl, l_Book___init__, c_Book___init__, .inl ⟨rfl, rfl⟩, .inl rfl⟩, k_Book___init__⟩, ⟨mk_Book, a_Book___init__, i_Book___init__, kc_Book⟩⟩,
    ⟨_, _, ⟨⟨_, _, _, _, _, _, _, _, _, _, rfl, l__law_book, c__law_book, .inl ⟨rfl, rfl⟩, .inl rfl⟩, k__law_book⟩, PySem.W.mg_of X G a__law_book⟩,
    ⟨_, _, ⟨⟨_, _, _, _, _, _, _, _, _, _, rfl, l__law_told, c__law_told, .inl ⟨rfl, rfl⟩, .inl rfl⟩, k__law_told⟩, PySem.W.mg_of X G a__law_told⟩,
    ⟨_, _, ⟨⟨_, _, _, _, _, _, _, _, _, _, rfl, l_Tree___len__, c_Tree___len__, .inl ⟨rfl, rfl⟩, .inl rfl⟩, k_Tree___len__⟩, ⟨a_Tree___len__, i_Tree___len__, k_Tree___len__⟩⟩,
    ⟨_, _, ⟨⟨_, _, _, _, _, _, _, _, _, _, rfl, l_Tree_want_group, c_Tree_want_group, .inl ⟨rfl, rfl⟩, .inl rfl⟩, k_Tree_want_group⟩, ⟨a_Tree_want_group, i_Tree_want_group, k_Tree_want_group⟩⟩,
    ⟨_, _, ⟨⟨_, _, _, _, _, _, _, _, _, _, rfl, l_Tree_way, c_Tree_way, .inl ⟨rfl, rfl⟩, .inl rfl⟩, k_Tree_way⟩, ⟨a_Tree_way, i_Tree_way, k_Tree_way⟩⟩,
    ⟨_, _, ⟨⟨_, _, _, _, _, _, _, _, _, _, rfl, l_want_kind, c_want_kind, .inl ⟨rfl, rfl⟩, .inl rfl⟩, k_want_kind⟩, PySem.W.mg_of X G a_want_kind⟩,
    ⟨_, _, ⟨⟨_, _, _, _, _, _, _, _, _, _, rfl, l_Book_row, c_Book_row, .inl ⟨rfl, rfl⟩, .inl rfl⟩, k_Book_row⟩, ⟨a_Book_row, i_Book_row, k_Book_row⟩⟩,
    ⟨_, _, ⟨⟨_, _, _, _, _, _, _, _, _, _, rfl, l_along, c_along, .inl ⟨rfl, rfl⟩, .inl rfl⟩, k_along⟩, PySem.W.mg_of X G a_along⟩,
    ⟨_, _, ⟨⟨_, _, _, _, _, _, _, _, _, _, rfl, l_take_plan, c_take_plan, .inl ⟨rfl, rfl⟩, .inl rfl⟩, k_take_plan⟩, PySem.W.mg_of X G a_take_plan⟩,
    ⟨_, _, ⟨⟨_, _, _, _, _, _, _, _, _, _, rfl, l_give_plan, c_give_plan, .inl ⟨rfl, rfl⟩, .inl rfl⟩, k_give_plan⟩, PySem.W.mg_of X G a_give_plan⟩,
    ⟨_, _, ⟨⟨_, _, _, _, _, _, _, _, _, _, rfl, l_settle_plan, c_settle_plan, .inl ⟨rfl, rfl⟩, .inl rfl⟩, k_settle_plan⟩, PySem.W.mg_of X G a_settle_plan⟩,
    ⟨_, _, _, ⟨⟨_, _, _, _, _, _, _, _, _, _, rfl, l_Book_shared, c_Book_shared, .inl ⟨rfl, rfl⟩, .inl rfl⟩, k_Book_shared⟩, ⟨pa_Book_shared, pb_Book_shared, pc_Book_shared, ⟨_, pd_Book_shared⟩⟩⟩,
    ⟨_, _, ⟨⟨_, _, _, _, _, _, _, _, _, _, rfl, l_Tree_apart, c_Tree_apart, .inl ⟨rfl, rfl⟩, .inl rfl⟩, k_Tree_apart⟩, ⟨a_Tree_apart, i_Tree_apart, k_Tree_apart⟩⟩,
    ⟨_, _, ⟨⟨_, _, _, _, _, _, _, _, _, _, rfl, l_move_ways, c_move_ways, .inl ⟨rfl, rfl⟩, .inl rfl⟩, k_move_ways⟩, PySem.W.mg_of X G a_move_ways⟩,
    ⟨_, _, ⟨⟨_, _, _, _, _, _, _, _, _, _, rfl, l_move_plan, c_move_plan, .inl ⟨rfl, rfl⟩, .inl rfl⟩, k_move_plan⟩, PySem.W.mg_of X G a_move_plan⟩,
    ⟨_, _, ⟨⟨_, _, _, _, _, _, _, _, _, _, rfl, l_Tree_parent, c_Tree_parent, .inl ⟨rfl, rfl⟩, .inl rfl⟩, k_Tree_parent⟩, ⟨a_Tree_parent, i_Tree_parent, k_Tree_parent⟩⟩,
    ⟨_, _, ⟨⟨_, _, _, _, _, _, _, _, _, _, rfl, l_lift_plan, c_lift_plan, .inl ⟨rfl, rfl⟩, .inl rfl⟩, k_lift_plan⟩, PySem.W.mg_of X G a_lift_plan⟩,
    ⟨_, _, ⟨⟨_, _, _, _, _, _, _, _, _, _, rfl, l__law_spots_let, c__law_spots_let, .inl ⟨rfl, rfl⟩, .inl rfl⟩, k__law_spots_let⟩, PySem.W.mg_of X G a__law_spots_let, ⟨_, _, _, _, _, _, _, _, rfl, l__law_spots_let, c__law_spots_let⟩⟩,
    ⟨_, _, ⟨⟨_, _, _, _, _, _, _, _, _, _, rfl, l__law_odd, c__law_odd, .inl ⟨rfl, rfl⟩, .inl rfl⟩, k__law_odd⟩, PySem.W.mg_of X G a__law_odd⟩,
    ⟨_, _, ⟨⟨_, _, _, _, _, _, _, _, _, _, rfl, l__law_spots_refused, c__law_spots_refused, .inl ⟨rfl, rfl⟩, .inl rfl⟩, k__law_spots_refused⟩, PySem.W.mg_of X G a__law_spots_refused, ⟨_, _, _, _, _, _, _, _, rfl, l__law_spots_refused, c__law_spots_refused⟩⟩,
    ⟨_, _, ⟨⟨_, _, _, _, _, _, _, _, _, _, rfl, l_Book_others, c_Book_others, .inl ⟨rfl, rfl⟩, .inl rfl⟩, k_Book_others⟩, ⟨a_Book_others, i_Book_others, k_Book_others⟩⟩,
    ⟨_, _, ⟨⟨_, _, _, _, _, _, _, _, _, _, rfl, l_Book___eq__, c_Book___eq__, .inl ⟨rfl, rfl⟩, .inl rfl⟩, k_Book___eq__⟩, ⟨a_Book___eq__, i_Book___eq__, k_Book___eq__⟩⟩,
    ⟨_, _, ⟨⟨_, _, _, _, _, _, _, _, _, _, rfl, l_Tree___eq__, c_Tree___eq__, .inl ⟨rfl, rfl⟩, .inl rfl⟩, k_Tree___eq__⟩, ⟨a_Tree___eq__, i_Tree___eq__, k_Tree___eq__⟩⟩,
    ⟨_, _, ⟨⟨_, _, _, _, _, _, _, _, _, _, rfl, l__law_right, c__law_right, .inl ⟨rfl, rfl⟩, .inl rfl⟩, k__law_right⟩, PySem.W.mg_of X G a__law_right⟩,
    ⟨_, _, ⟨⟨_, _, _, _, _, _, _, _, _, _, rfl, l__law_pot, c__law_pot, .inl ⟨rfl, rfl⟩, .inl rfl⟩, k__law_pot⟩, PySem.W.mg_of X G a__law_pot⟩,
    ⟨_, _, ⟨⟨_, _, _, _, _, _, _, _, _, _, rfl, l_law, c_law, .inl ⟨rfl, rfl⟩, .inl rfl⟩, k_law⟩, PySem.W.mg_of X G a_law⟩,
    PySem.W.mg_none_of X G z_ValueError,
    PySem.W.mg_none_of X G z_abs,
    PySem.W.mg_none_of X G z_all,
    PySem.W.mg_none_of X G z_bool,
    PySem.W.mg_none_of X G z_dict,
    PySem.W.mg_none_of X G z_divmod,
    PySem.W.mg_none_of X G z_enumerate,
    PySem.W.mg_none_of X G z_int,
    PySem.W.mg_none_of X G z_isinstance,
    PySem.W.mg_none_of X G z_len,
    PySem.W.mg_none_of X G z_list,
    PySem.W.mg_none_of X G z_max,
    PySem.W.mg_none_of X G z_min,
    PySem.W.mg_none_of X G z_range,
    PySem.W.mg_none_of X G z_repr,
    PySem.W.mg_none_of X G z_sorted,
    PySem.W.mg_none_of X G z_str,
    PySem.W.mg_none_of X G z_tuple,
    ⟨_, PySem.W.mg_of X G y_ADD⟩,
    ⟨_, PySem.W.mg_of X G y_BOTH⟩,
    ⟨_, PySem.W.mg_of X G y_END⟩,
    ⟨_, PySem.W.mg_of X G y_FAILS, fun m N H => (.tup (vs := [V.str "undo", V.str "leave", V.str "wait"]) ⟨.inr ⟨_, _, _, tt_FAILS, rfl, rfl, (by rw [sizeLine_eq]; exact Nat.le_of_ble_eq_true rfl), (.cons ⟨_, rfl⟩ (.cons ⟨_, rfl⟩ (.cons ⟨_, rfl⟩ .nil)))⟩, .inl (.inr ⟨_, tt_FAILS, rfl⟩)⟩ (.cons (.str _) (.cons (.str _) (.cons (.str _) .nil))))⟩,
    ⟨_, PySem.W.mg_of X G y_GIVE⟩,
    ⟨_, PySem.W.mg_of X G y_GIVE_WORDS, fun m N H => (.tup (vs := [V.str "home", V.str "off", V.str "end"]) ⟨.inr ⟨_, _, _, tt_GIVE_WORDS, rfl, rfl, (by rw [sizeLine_eq]; exact Nat.le_of_ble_eq_true rfl), (.cons ⟨_, rfl⟩ (.cons ⟨_, rfl⟩ (.cons ⟨_, rfl⟩ .nil)))⟩, .inl (.inr ⟨_, tt_GIVE_WORDS, rfl⟩)⟩ (.cons (.str _) (.cons (.str _) (.cons (.str _) .nil))))⟩,
    ⟨_, PySem.W.mg_of X G y_GREATEST_BATCH⟩,
    ⟨_, PySem.W.mg_of X G y_HOLDING, fun m N H => (.tup (vs := [V.str "take", V.str "give", V.str "move", V.str "lift"]) ⟨.inr ⟨_, _, _, tt_HOLDING, rfl, rfl, (by rw [sizeLine_eq]; exact Nat.le_of_ble_eq_true rfl), (.cons ⟨_, rfl⟩ (.cons ⟨_, rfl⟩ (.cons ⟨_, rfl⟩ (.cons ⟨_, rfl⟩ .nil))))⟩, .inl (.inr ⟨_, tt_HOLDING, rfl⟩)⟩ (.cons (.str _) (.cons (.str _) (.cons (.str _) (.cons (.str _) .nil)))))⟩,
    ⟨_, PySem.W.mg_of X G y_HOME⟩,
    ⟨_, PySem.W.mg_of X G y_LIFT⟩,
    ⟨_, PySem.W.mg_of X G y_LIFTS, fun m N H => (.tup (vs := [V.ref ad_LIFTS_0, V.ref ad_LIFTS_1, V.ref ad_LIFTS_2, V.ref ad_LIFTS_3, V.ref ad_LIFTS_4, V.ref ad_LIFTS_5]) ⟨.inr ⟨_, _, _, tt_LIFTS, rfl, rfl, (by rw [sizeLine_eq]; exact Nat.le_of_ble_eq_true rfl), (.cons rfl (.cons rfl (.cons rfl (.cons rfl (.cons rfl (.cons rfl .nil))))))⟩, .inl (.inr ⟨_, tt_LIFTS, rfl⟩)⟩ (.cons (.tup (vs := []) ⟨.inr ⟨_, _, _, tt_LIFTS_0, rfl, rfl, (by rw [sizeLine_eq]; exact Nat.le_of_ble_eq_true rfl), .nil⟩, .inl (.inr ⟨_, tt_LIFTS_0, rfl⟩)⟩ .nil) (.cons (.tup (vs := [V.str "set"]) ⟨.inr ⟨_, _, _, tt_LIFTS_1, rfl, rfl, (by rw [sizeLine_eq]; exact Nat.le_of_ble_eq_true rfl), (.cons ⟨_, rfl⟩ .nil)⟩, .inl (.inr ⟨_, tt_LIFTS_1, rfl⟩)⟩ (.cons (.str _) .nil)) (.cons (.tup (vs := [V.str "off"]) ⟨.inr ⟨_, _, _, tt_LIFTS_2, rfl, rfl, (by rw [sizeLine_eq]; exact Nat.le_of_ble_eq_true rfl), (.cons ⟨_, rfl⟩ .nil)⟩, .inl (.inr ⟨_, tt_LIFTS_2, rfl⟩)⟩ (.cons (.str _) .nil)) (.cons (.tup (vs := [V.str "set", V.str "off"]) ⟨.inr ⟨_, _, _, tt_LIFTS_3, rfl, rfl, (by rw [sizeLine_eq]; exact Nat.le_of_ble_eq_true rfl), (.cons ⟨_, rfl⟩ (.cons ⟨_, rfl⟩ .nil))⟩, .inl (.inr ⟨_, tt_LIFTS_3, rfl⟩)⟩ (.cons (.str _) (.cons (.str _) .nil))) (.cons (.tup (vs := [V.str "off", V.str "set"]) ⟨.inr ⟨_, _, _, tt_LIFTS_4, rfl, rfl, (by rw [sizeLine_eq]; exact Nat.le_of_ble_eq_true rfl), (.cons ⟨_, rfl⟩ (.cons ⟨_, rfl⟩ .nil))⟩, .inl (.inr ⟨_, tt_LIFTS_4, rfl⟩)⟩ (.cons (.str _) (.cons (.str _) .nil))) (.cons (.tup (vs := [V.str "both"]) ⟨.inr ⟨_, _, _, tt_LIFTS_5, rfl, rfl, (by rw [sizeLine_eq]; exact Nat.le_of_ble_eq_true rfl), (.cons ⟨_, rfl⟩ .nil)⟩, .inl (.inr ⟨_, tt_LIFTS_5, rfl⟩)⟩ (.cons (.str _) .nil)) .nil)))))))⟩,
    ⟨_, PySem.W.mg_of X G y_LIVE⟩,
    ⟨_, PySem.W.mg_of X G y_LOOK⟩,
    ⟨_, PySem.W.mg_of X G y_MOST_GROUPS⟩,
    ⟨_, PySem.W.mg_of X G y_MOVE⟩,
    ⟨_, PySem.W.mg_of X G y_MOVE_WORDS, fun m N H => (.tup (vs := [V.str "home", V.str "look", V.str "add", V.str "try", V.str "set", V.str "off"]) ⟨.inr ⟨_, _, _, tt_MOVE_WORDS, rfl, rfl, (by rw [sizeLine_eq]; exact Nat.le_of_ble_eq_true rfl), (.cons ⟨_, rfl⟩ (.cons ⟨_, rfl⟩ (.cons ⟨_, rfl⟩ (.cons ⟨_, rfl⟩ (.cons ⟨_, rfl⟩ (.cons ⟨_, rfl⟩ .nil))))))⟩, .inl (.inr ⟨_, tt_MOVE_WORDS, rfl⟩)⟩ (.cons (.str _) (.cons (.str _) (.cons (.str _) (.cons (.str _) (.cons (.str _) (.cons (.str _) .nil)))))))⟩,
    ⟨_, PySem.W.mg_of X G y_OFF⟩,
    ⟨_, PySem.W.mg_of X G y_SET⟩,
    ⟨_, PySem.W.mg_of X G y_TAKE⟩,
    ⟨_, PySem.W.mg_of X G y_TAKE_WORDS, fun m N H => (.tup (vs := [V.str "look", V.str "add", V.str "try", V.str "live"]) ⟨.inr ⟨_, _, _, tt_TAKE_WORDS, rfl, rfl, (by rw [sizeLine_eq]; exact Nat.le_of_ble_eq_true rfl), (.cons ⟨_, rfl⟩ (.cons ⟨_, rfl⟩ (.cons ⟨_, rfl⟩ (.cons ⟨_, rfl⟩ .nil))))⟩, .inl (.inr ⟨_, tt_TAKE_WORDS, rfl⟩)⟩ (.cons (.str _) (.cons (.str _) (.cons (.str _) (.cons (.str _) .nil)))))⟩,
    ⟨_, PySem.W.mg_of X G y_TESTS, fun m N H => (.tup (vs := [V.str "look", V.str "try"]) ⟨.inr ⟨_, _, _, tt_TESTS, rfl, rfl, (by rw [sizeLine_eq]; exact Nat.le_of_ble_eq_true rfl), (.cons ⟨_, rfl⟩ (.cons ⟨_, rfl⟩ .nil))⟩, .inl (.inr ⟨_, tt_TESTS, rfl⟩)⟩ (.cons (.str _) (.cons (.str _) .nil)))⟩,
    ⟨_, PySem.W.mg_of X G y_TOP⟩,
    ⟨_, PySem.W.mg_of X G y_TRY⟩⟩
  have e := hfa.symm.trans (PySem.W.mg_of X G a_law)
  cases e
  have F : FunD K "law" "law" (defArgs s_law) (defBody s_law) (defScope s_law) [] [] fa _ := ⟨⟨_, _, _, _, _, _, _, _, _, _, rfl, l_law, c_law, .inl ⟨rfl, rfl⟩, .inl rfl⟩, k_law⟩
  refine ⟨_, [(c__law_spots_let_, P__law_spots_let_), (c__law_spots_refused_, P__law_spots_refused_)], (mkG C_Tree C_Book C_IsTop C_InvalidGroup C_WayError c__law_spots_let_ P__law_spots_let_ c__law_spots_refused_ P__law_spots_refused_).tabs, fun s u => F.bindsA (ps := ["_law_script"]) (fun _ _ _ _ _ _ us hl => match us, hl with | [_], _ => rfl) s [u] rfl, ?_, ?_, fun base _ _ tb => law_of (ok_law T ⟨tb _ (.head _), tb _ (.tail _ (.head _))⟩ F) hT⟩
  · intro p m
    rcases List.mem_cons.mp m with z | m
    · rw [z]; exact ⟨tabOf _ _ _ _ rc__law_spots_let tb__law_spots_let, tn__law_spots_let⟩
    rcases List.mem_cons.mp m with z | m
    · rw [z]; exact ⟨tabOf _ _ _ _ rc__law_spots_refused tb__law_spots_refused, tn__law_spots_refused⟩
    exact nomatch m
  · intro H z
    refine tabs_of (cs := [(c__law_spots_let_, P__law_spots_let_), (c__law_spots_refused_, P__law_spots_refused_)]) ?_ z
    intro t m
    rcases List.mem_cons.mp m with e | m
    · exact ⟨_, .head _, by rw [e]⟩
    rcases List.mem_cons.mp m with e | m
    · exact ⟨_, .tail _ (.head _), by rw [e]⟩
    exact nomatch m
end Lw

set_option Elab.async false
set_option linter.all false
set_option maxRecDepth 100000
set_option maxHeartbeats 4000000
namespace Lw
open Py Ev PySem
section
local macro_rules | `(tactic| walk_at "rf") => `(tactic| with_unfolding_all exact rfl)
local macro_rules | `(tactic| walk_at "nin") => `(tactic| first | exact List.not_mem_nil | (simp only [List.mem_cons, List.not_mem_nil, or_false, not_or]; omega))
local macro_rules | `(tactic| walk_at "lk") => `(tactic| first | assumption | (refine Ext.get (by assumption) ?_ ?_; (walk_at "lk"); (walk_at "nin")))
local macro_rules | `(tactic| walk_at "sq") => `(tactic| first | exact seq_tup | exact seq_scr | exact SeqOf.seq (by assumption) | exact seq_lst (by walk_at "lk"))
local macro_rules | `(tactic| walk_at "sz") => `(tactic| first | omega | (simp only [List.length_cons, List.length_nil, List.length_append, List.length_map, List.length_replicate, iD_len, sizeLine]; omega))
local macro_rules | `(tactic| walk_at "ls") => `(tactic| (simp only [List.set_cons_succ, List.set_cons_zero, List.map_cons, List.map_nil, List.replicate_succ, List.replicate_zero, List.cons_append, List.nil_append, wipeL]; rfl))
local macro_rules | `(tactic| walk_at "call") => `(tactic| fail)
local macro_rules | `(tactic| walk_at "run") => `(tactic| with_reducible first
  | (apply wp_eV; (· walk_at "rf"))
  | refine wp_eC ?_
  | refine wp_e2 ?_
  | refine wp_e1 ?_
  | refine wp_aCons ?_
  | refine wp_aNil ?_
  | refine wp_eA ?_
  | refine wf_seq ?_
  | refine wf_Asg ?_
  | (apply wf_gN; (· walk_at "ls"))
  | refine wf_E ?_
  | refine wf_Ret ?_
  | refine wf_If ?_
  | refine wf_nil ?_
  | refine wp_eCall ?_
  | (apply wp_opF0; (· with_unfolding_all exact ⟨rfl, rfl⟩))
  | refine wp_eMeth ?_
  | (apply insat; (· walk_at "lk"))
  | refine wp_add ?_
  | refine wp_sub ?_
  | refine wp_lt ?_
  | refine wp_le ?_
  | refine wp_gt ?_
  | refine wp_ge ?_
  | (apply br_kt; (· with_unfolding_all rfl))
  | (apply br_kf; (· with_unfolding_all rfl))
  | refine wp_eqW ?_
  | refine wp_neW ?_
  | refine wp_eqB ?_
  | refine wp_neB ?_
  | (apply wp_lastW; (· assumption))
  | (apply wp_headW; (· assumption))
  | refine wp_inW ?_
  | refine wp_ninW ?_
  | refine wp_eqRow0 ?_
  | refine wp_neRow0 ?_
  | refine wp_eDisp ?_
  | refine pairs_cons ?_
  | refine pairs_nil ?_
  | refine keyat_s ?_
  | refine wf_sDput ?_
  | (apply dputat; (· walk_at "lk"); (· exact lt_line (by omega)))
  | (apply wp_dg; (· walk_at "lk"); (· assumption))
  | (apply wp_bDict; (· walk_at "lk"))
  | refine wp_eTM ?_
  | refine tupat ?_
  | (apply wp_tupIx; (· assumption))
  | refine wp_eCallV ?_
  | refine fnat ?_
  | refine wp_eqI ?_
  | refine wp_neI ?_
  | refine wp_eqS ?_
  | refine wp_neS ?_
  | (apply wp_mod; (· omega))
  | (apply wp_div; (· omega))
  | (apply wp_mul; (· omega))
  | (apply wp_powN; (· (simp only [Int.reduceToNat]; rfl)); (· omega); (· omega))
  | refine wp_neg ?_
  | refine wp_isN ?_
  | refine wp_isNI ?_
  | refine wp_bMax ?_
  | refine wp_bMin ?_
  | refine wp_bAbs ?_
  | refine wp_bInt ?_
  | (apply wp_bDivmod; (· omega))
  | refine tr_bl ?_
  | refine isb ?_
  | (apply br_t; (· rfl))
  | (apply br_f; (· rfl))
  | refine br_nt ?_
  | (apply br_dt; (· omega))
  | (apply br_df; (· omega))
  | refine wp_eNot ?_
  | refine wp_eB ?_
  | refine wp_eOr ?_
  | refine wp_eAnd ?_
  | refine wp_eAndB ?_
  | refine wp_eOrB ?_
  | refine wp_eNotB ?_
  | refine wp_eIf ?_
  | refine wp_chain ?_
  | refine wp_eFld ?_
  | (apply fdat; (· walk_at "lk"); (· walk_at "rf"))
  | refine wp_eTup ?_
  | refine wp_eLst ?_
  | refine wp_listR ?_
  | (apply wp_addT; (· walk_at "sz"))
  | (apply need; (· walk_at "sz"))
  | refine intat ?_
  | refine strat ?_
  | refine nonat ?_
  | (apply wp_len; (· walk_at "sq"))
  | (apply wp_ix; (· walk_at "sq"); (· walk_at "rf"))
  | (apply wp_bTuple; (· walk_at "sq"))
  | (apply wp_bList; (· walk_at "sq"))
  | refine wp_eBM ?_
  | (apply lstat; (· walk_at "lk"))
  | (apply wp_append; (· walk_at "lk"); (· walk_at "sz"))
  | (apply wp_clear; (· walk_at "lk"))
  | refine wp_eSl ?_
  | refine wp_pSome ?_
  | refine pis ?_
  | refine wp_pNo ?_
  | refine slat_tup ?_
  | (apply slat_lst; (· walk_at "lk"))
  | (apply wf_gT; (· walk_at "rf"))
  | refine wf_gsCons ?_
  | refine wf_gsNil ?_
  | refine wf_gSub ?_
  | (apply subat; (· walk_at "lk"); (· walk_at "rf"))
  | refine wf_sFld ?_
  | (apply fldat; (· walk_at "lk"); (· walk_at "sz"); (· walk_at "rf"))
  | refine wf_sPar ?_
  | (apply parat; (· walk_at "ls"))
  | refine wf_sPar3 ?_
  | (apply parat3; (· walk_at "ls"))
  | refine wp_eRev ?_
  | (apply rvat; (· walk_at "lk"))
  | refine wp_isBB ?_
  | refine wf_sFor ?_
  | refine wp_iSeq ?_
  | refine wp_iEnum ?_
  | refine wp_iRng1 ?_
  | refine wp_iRng2 ?_
  | refine srcat_tup ?_
  | refine srcat_scr ?_
  | (apply srcat_lst; (· walk_at "lk"))
  | refine wp_eIsi ?_
  | refine kd_int ?_
  | refine kd_bl ?_
  | refine kd_str ?_
  | refine kd_non ?_
  | refine kd_tup ?_
  | (apply kd_lst; (· walk_at "lk"))
  | (apply wp_eComp; (· walk_at "ls"))
  | (apply wp_lenO; (· walk_at "lk"))
  | (apply wp_reprO; (· walk_at "lk"))
  | refine wp_eFmt ?_
  | refine wp_eJoin ?_
  | refine jgo_cons ?_
  | refine jgo_nil ?_
  | walk_at "call")
local macro_rules | `(tactic| walk_at "go") => `(tactic| repeat (with_reducible first
  | (apply wp_eV; (· walk_at "rf"))
  | refine wp_eC ?_
  | refine wp_e2 ?_
  | refine wp_e1 ?_
  | refine wp_aCons ?_
  | refine wp_aNil ?_
  | refine wp_eA ?_
  | refine wf_seq ?_
  | refine wf_Asg ?_
  | (apply wf_gN; (· walk_at "ls"))
  | refine wf_E ?_
  | refine wf_Ret ?_
  | refine wf_If ?_
  | refine wf_nil ?_
  | refine wp_eCall ?_
  | (apply wp_opF0; (· with_unfolding_all exact ⟨rfl, rfl⟩))
  | refine wp_eMeth ?_
  | (apply insat; (· walk_at "lk"))
  | refine wp_add ?_
  | refine wp_sub ?_
  | refine wp_lt ?_
  | refine wp_le ?_
  | refine wp_gt ?_
  | refine wp_ge ?_
  | (apply br_kt; (· with_unfolding_all rfl))
  | (apply br_kf; (· with_unfolding_all rfl))
  | refine wp_eqW ?_
  | refine wp_neW ?_
  | refine wp_eqB ?_
  | refine wp_neB ?_
  | (apply wp_lastW; (· assumption))
  | (apply wp_headW; (· assumption))
  | refine wp_inW ?_
  | refine wp_ninW ?_
  | refine wp_eqRow0 ?_
  | refine wp_neRow0 ?_
  | refine wp_eDisp ?_
  | refine pairs_cons ?_
  | refine pairs_nil ?_
  | refine keyat_s ?_
  | refine wf_sDput ?_
  | (apply dputat; (· walk_at "lk"); (· exact lt_line (by omega)))
  | (apply wp_dg; (· walk_at "lk"); (· assumption))
  | (apply wp_bDict; (· walk_at "lk"))
  | refine wp_eTM ?_
  | refine tupat ?_
  | (apply wp_tupIx; (· assumption))
  | refine wp_eCallV ?_
  | refine fnat ?_
  | refine wp_eqI ?_
  | refine wp_neI ?_
  | refine wp_eqS ?_
  | refine wp_neS ?_
  | (apply wp_mod; (· omega))
  | (apply wp_div; (· omega))
  | (apply wp_mul; (· omega))
  | (apply wp_powN; (· (simp only [Int.reduceToNat]; rfl)); (· omega); (· omega))
  | refine wp_neg ?_
  | refine wp_isN ?_
  | refine wp_isNI ?_
  | refine wp_bMax ?_
  | refine wp_bMin ?_
  | refine wp_bAbs ?_
  | refine wp_bInt ?_
  | (apply wp_bDivmod; (· omega))
  | refine tr_bl ?_
  | refine isb ?_
  | (apply br_t; (· rfl))
  | (apply br_f; (· rfl))
  | refine br_nt ?_
  | (apply br_dt; (· omega))
  | (apply br_df; (· omega))
  | refine wp_eNot ?_
  | refine wp_eB ?_
  | refine wp_eOr ?_
  | refine wp_eAnd ?_
  | refine wp_eAndB ?_
  | refine wp_eOrB ?_
  | refine wp_eNotB ?_
  | refine wp_eIf ?_
  | refine wp_chain ?_
  | refine wp_eFld ?_
  | (apply fdat; (· walk_at "lk"); (· walk_at "rf"))
  | refine wp_eTup ?_
  | refine wp_eLst ?_
  | refine wp_listR ?_
  | (apply wp_addT; (· walk_at "sz"))
  | (apply need; (· walk_at "sz"))
  | refine intat ?_
  | refine strat ?_
  | refine nonat ?_
  | (apply wp_len; (· walk_at "sq"))
  | (apply wp_ix; (· walk_at "sq"); (· walk_at "rf"))
  | (apply wp_bTuple; (· walk_at "sq"))
  | (apply wp_bList; (· walk_at "sq"))
  | refine wp_eBM ?_
  | (apply lstat; (· walk_at "lk"))
  | (apply wp_append; (· walk_at "lk"); (· walk_at "sz"))
  | (apply wp_clear; (· walk_at "lk"))
  | refine wp_eSl ?_
  | refine wp_pSome ?_
  | refine pis ?_
  | refine wp_pNo ?_
  | refine slat_tup ?_
  | (apply slat_lst; (· walk_at "lk"))
  | (apply wf_gT; (· walk_at "rf"))
  | refine wf_gsCons ?_
  | refine wf_gsNil ?_
  | refine wf_gSub ?_
  | (apply subat; (· walk_at "lk"); (· walk_at "rf"))
  | refine wf_sFld ?_
  | (apply fldat; (· walk_at "lk"); (· walk_at "sz"); (· walk_at "rf"))
  | refine wf_sPar ?_
  | (apply parat; (· walk_at "ls"))
  | refine wf_sPar3 ?_
  | (apply parat3; (· walk_at "ls"))
  | refine wp_eRev ?_
  | (apply rvat; (· walk_at "lk"))
  | refine wp_isBB ?_
  | refine wf_sFor ?_
  | refine wp_iSeq ?_
  | refine wp_iEnum ?_
  | refine wp_iRng1 ?_
  | refine wp_iRng2 ?_
  | refine srcat_tup ?_
  | refine srcat_scr ?_
  | (apply srcat_lst; (· walk_at "lk"))
  | refine wp_eIsi ?_
  | refine kd_int ?_
  | refine kd_bl ?_
  | refine kd_str ?_
  | refine kd_non ?_
  | refine kd_tup ?_
  | (apply kd_lst; (· walk_at "lk"))
  | (apply wp_eComp; (· walk_at "ls"))
  | (apply wp_lenO; (· walk_at "lk"))
  | (apply wp_reprO; (· walk_at "lk"))
  | refine wp_eFmt ?_
  | refine wp_eJoin ?_
  | refine jgo_cons ?_
  | refine jgo_nil ?_
  | refine wf_Raise1 ?_
  | refine wf_Raise0 ?_
  | refine wf_Try ?_
  | (apply wp_eXf; (· walk_at "rf"))
  | walk_at "call"))
/-- into a def -/
local macro_rules | `(tactic| walk_at "into") => `(tactic| (refine wp_runF (by walk_at "rf") (by walk_at "ls") ?_))
/-- on, through all branches -/
local macro_rules | `(tactic| walk_at "br") => `(tactic| repeat' (first | walk_at "run" | (with_reducible apply br_dt; (· assumption)) | (with_reducible apply br_df; (· assumption)) | (with_reducible apply br_t; (· assumption)) | (with_reducible apply br_f; (· assumption)) | (with_reducible refine br_d (fun _ => ?_) (fun _ => ?_)) | (with_reducible refine br_s (fun _ => ?_) (fun _ => ?_)) | (intro d ed)))
/-! ### the law's own draws -/
def Pot (h : LH) (p : Nat) : Prop := ∃ a b : Int, h[p]? = some (.lst [.int a, .int b]) ∧ 0 ≤ a ∧ 0 ≤ b ∧ b < 2147483648
theorem Pot.lt {h : LH} {p : Nat} (P : Pot h p) : p < h.length := by obtain ⟨a, b, e, _⟩ := P; exact lt_of_at e
theorem Pot.ext {W : List Nat} {h h1 : LH} {p : Nat} (P : Pot h p) (x : Ext W h h1) (k : p ∉ W) : Pot h1 p := by
  obtain ⟨a, b, e, z⟩ := P; exact ⟨a, b, x.get e k, z⟩
theorem draw_spec {h : LH} {p : Nat} {n : Int} (P : Pot h p) (hn : 0 < n ∧ n < 1073741824) :
    WP (f__law_draw [.ref p, .int n] h) (fun d h1 => ∃ k : Nat, d = .int k ∧ (k : Int) < n ∧ Pot h1 p ∧ Ext [p] h h1) noE := by
  obtain ⟨a, b, e, ha, hb, hc⟩ := P
  unfold f__law_draw b__law_draw
  walk_at "into"
  walk_at "go"
  have m1 := Int.emod_nonneg a (show n ≠ 0 by omega)
  have m2 := Int.emod_lt_of_pos a hn.1
  refine br_d (fun c => ?_) (fun c => ?_)
  · walk_at "go"
    intro h1 x1 a1
    walk_at "go"
    refine ⟨(a % n).toNat, ?_, by omega, ⟨a / n, b, a1, Int.ediv_nonneg ha (by omega), hb, hc⟩, x1⟩
    rw [Int.toNat_of_nonneg m1]
  · walk_at "go"
    intro h1 x1 a1
    have a1 : h1[p]? = some (O.lst [.int a, .int ((b * 40009 + 17011) % 2147483549)]) := a1
    walk_at "go"
    have g1 := Int.emod_nonneg (((b * 40009 + 17011) % 2147483549) * ((b * 40009 + 17011) % 2147483549) % 2147483587 / 11) (show n ≠ 0 by omega)
    have g2 := Int.emod_lt_of_pos (((b * 40009 + 17011) % 2147483549) * ((b * 40009 + 17011) % 2147483549) % 2147483587 / 11) hn.1
    refine ⟨(((b * 40009 + 17011) % 2147483549) * ((b * 40009 + 17011) % 2147483549) % 2147483587 / 11 % n).toNat, ?_, by omega, ⟨a, _, a1, ha, by omega, by omega⟩, x1⟩
    rw [Int.toNat_of_nonneg g1]
theorem pot_spec {h : LH} {ns : List Int} {k : Nat} (hk : k < 64) :
    WP (f__law_pot [.scr ns, .int k] h) (fun d h1 => ∃ p, d = .ref p ∧ Pot h1 p ∧ h.length ≤ p ∧ Ext [] h h1) noE := by
  unfold f__law_pot b__law_pot
  walk_at "into"
  walk_at "go"
  refine br_d (fun c => ?_) (fun c => ?_)
  · walk_at "go"
    have l : k < ns.length := by simpa using c
    refine wp_ixS rfl (List.getElem?_eq_getElem l) ?_
    walk_at "go"
    intro n h1 l x a
    refine ⟨n, rfl, ⟨_, _, a, ?_, by omega, by omega⟩, l, x⟩
    split <;> omega
  · have ge : ∃ cell : Int, 17 * (k : Int) + 11 = cell := ⟨_, rfl⟩
    obtain ⟨cell, ge⟩ := ge
    rw [ge]
    walk_at "go"
    intro n h1 l x a
    refine ⟨n, rfl, ⟨_, _, a, ?_, by omega, by omega⟩, l, x⟩
    split <;> omega
theorem draw_w {E : EP} {Q : D → LH → Prop} {h : LH} {p : Nat} {n : Int} (P : Pot h p) (hn : 0 < n ∧ n < 1073741824) (q : ∀ (k : Nat) h1, (k : Int) < n → Pot h1 p → Ext [p] h h1 → Q (.int (k : Int)) h1) : WP (f__law_draw [.ref p, .int n] h) Q E :=
  wp_use0 (draw_spec P hn) (by rintro d h1 ⟨k, rfl, a, b, c⟩; exact q k h1 a b c)
theorem pot_w {E : EP} {Q : D → LH → Prop} {h : LH} {ns : List Int} {k : Nat} (hk : k < 64) (q : ∀ p h1, h.length ≤ p → Pot h1 p → Ext [] h h1 → Q (.ref p) h1) : WP (f__law_pot [.scr ns, .int k] h) Q E :=
  wp_use0 (pot_spec hk) (by rintro d h1 ⟨p, rfl, a, b, c⟩; exact q p h1 b a c)

/-! ### rows of parents -/
def UpsAt (h : LH) (u : Nat) (ks : List Nat) : Prop := h[u]? = some (.lst (.non :: iD ks))
theorem ups_spec {h : LH} {p m : Nat} (P : Pot h p) (hm : m < 1000) :
    WP (f__law_ups [.ref p, .int m] h) (fun d h1 => ∃ u ks, d = .ref u ∧ Ups ks m ∧ UpsAt h1 u ks ∧ h.length ≤ u ∧ Pot h1 p ∧ Ext [p] h h1) noE := by
  unfold f__law_ups b__law_ups
  walk_at "into"
  walk_at "go"
  intro u h1 l1 x1 a1
  walk_at "go"
  have P1 := P.ext x1 (by simp)
  have pl := P.lt
  refine wp_use0 (draw_spec P1 (by omega)) ?_
  rintro d h2 ⟨n, rfl, ln, P2, x2⟩
  walk_at "go"
  have a2 := x2.get1 a1 (by omega)
  refine wf_forR n (by omega) (by omega) (fun i r h3 => ∃ c ks, r = [some (.ref p), some (.int m), some (.ref u), c] ∧ ks.length = i ∧ Ups ks m ∧ UpsAt h3 u ks ∧ Pot h3 p ∧ Ext [p] h h3) ?_ ?_ ?_
  · exact ⟨none, [], rfl, rfl, ⟨by simp, by simp⟩, a2, P2, (x1.w0).trans x2⟩
  · rintro r h3 ⟨c, ks, rfl, l, U, A, P3, x3⟩
    walk_at "go"
    exact ⟨u, ks, rfl, U, A, l1, P3, x3⟩
  · rintro i r h3 li ⟨c, ks, rfl, l, U, A, P3, x3⟩
    unfold UpsAt at A
    walk_at "go"
    refine wp_use0 (draw_spec P3 (by simp [iD_len]; omega)) ?_
    rintro d h4 ⟨k, rfl, lk, P4, x4⟩
    have p3 := P3.lt
    have pl := P.lt
    have A4 := x4.get1 A (by omega)
    simp only [List.length_cons, iD_len] at lk
    refine wp_aNil ?_
    refine wp_append A4 (by simp [iD_len, sizeLine]; omega) ?_
    intro h5 x5 a5
    walk_at "run"
    refine ⟨_, ks ++ [k], rfl, by simp; omega, U.push (by omega) (by omega), ?_, P4.ext x5 (by simp; omega), (x3.trans x4).new x5 l1⟩
    · unfold UpsAt; rw [iD_app]; exact a5

theorem ups_w {E : EP} {Q : D → LH → Prop} {h : LH} {p m : Nat} (P : Pot h p) (hm : m < 1000) (q : ∀ u ks h1, h.length ≤ u → Ups ks m → UpsAt h1 u ks → Pot h1 p → Ext [p] h h1 → Q (.ref u) h1) : WP (f__law_ups [.ref p, .int (m : Int)] h) Q E :=
  wp_use0 (ups_spec P hm) (by rintro d h1 ⟨u, ks, rfl, a, b, c, e, f⟩; exact q u ks h1 c a b e f)

/-! ### basics -/
section
variable {E : EP} {Q : D → LH → Prop} {h : LH}
theorem is_list_w {x : D} {xs : List D} (s : SeqOf x h xs) (q : Q (.bl true) h) : WP (f_is_list [x] h) Q E := by
  unfold f_is_list b_is_list
  walk_at "into"
  walk_at "go"
  rcases s with rfl | ⟨n, rfl, a⟩
  · walk_at "go"; exact q
  · walk_at "go"; first | exact q | exact wp_isiO (kind_lst a) q
theorem is_integer_w {i : Int} (q : Q (.bl true) h) : WP (f_is_integer [.int i] h) Q E := by
  unfold f_is_integer b_is_integer
  walk_at "into"
  walk_at "go"
  exact q
theorem is_count_w {k : Nat} (q : Q (.bl true) h) : WP (f_is_count [.int (k : Int)] h) Q E := by
  unfold f_is_count b_is_count
  walk_at "into"
  walk_at "go"
  refine is_integer_w ?_
  walk_at "go"
  rw [decide_eq_true (by omega)]; exact q
theorem want_room_w {i : Int} (l : i ≤ 200) (q : Q .non h) : WP (f_want_room [.int i] h) Q E := by
  unfold f_want_room b_want_room
  walk_at "into"
  walk_at "go"
  exact q
local macro_rules | `(tactic| walk_at "call") => `(tactic| first | (apply is_list_w; (· assumption)) | refine is_integer_w ?_ | refine is_count_w ?_ | (apply want_room_w; (· omega)))
theorem want_parents_w {x : D} {ks : List Nat} (s : SeqOf x h (iD ks)) (U : Ups ks 199) (q : Q .non h) : WP (f_want_parents [x] h) Q E := by
  unfold f_want_parents b_want_parents
  walk_at "into"
  walk_at "go"
  refine s.src (fun sr gv => ?_)
  have ul := U.len
  refine wf_forL (enumD 0 (iD ks)) (by simp only [enumD_len, iD_len]; omega) (fun i r h' => ∃ a b, r = [some x, a, b] ∧ h' = h) (fun i r h' z => ?_) ⟨_, _, rfl, rfl⟩ ?_ ?_
  · obtain ⟨_, _, _, rfl⟩ := z; exact gives_enm gv _ Ext.rfl' i
  · rintro r h' ⟨a, b, rfl, rfl⟩
    walk_at "go"
    rw [iD_len]
    walk_at "go"
    exact q
  · rintro i d r h' e ⟨a, b, rfl, rfl⟩
    rw [enumD_at, iD_at] at e
    cases ek : ks[i]? with
    | none => rw [ek] at e; exact nomatch e
    | some k =>
      rw [ek] at e
      simp only [Option.map_some, Option.some.injEq] at e
      subst e
      have := U.up i k ek
      walk_at "go"
      exact ⟨_, _, rfl, rfl⟩
theorem children_of_w {x : D} {ks : List Nat} {g : Nat} (s : SeqOf x h (iD ks)) (l : ks.length < 1000) (q : ∀ n h1, h.length ≤ n → Ext [] h h1 → h1[n]? = some (.lst (iD (kidsN ks g))) → Q (.ref n) h1) : WP (f_children_of [x, .int (g : Int)] h) Q E := by
  unfold f_children_of b_children_of
  walk_at "into"
  walk_at "go"
  refine s.src (fun sr gv => ?_)
  refine wp_use0 (wp_compL (enumD 1 (iD ks)) (fun d => match d with | .tup [_, .int p] => decide (p = (g : Int)) | _ => false) (fun d => match d with | .tup [y, _] => y | _ => .non) (gives_enm gv) (by simp only [enumD_len, iD_len]; omega) ?_) ?_
  · intro d h1 m x1
    obtain ⟨i, e⟩ := List.mem_iff_getElem?.1 m
    rw [enumD_at, iD_at] at e
    cases ek : ks[i]? with
    | none => rw [ek] at e; exact nomatch e
    | some k =>
      rw [ek] at e
      simp only [Option.map_some, Option.some.injEq] at e
      subst e
      refine ⟨_, rfl, ?_⟩
      walk_at "go"
      refine ⟨rfl, Ext.rfl', fun _ => ?_⟩
      walk_at "go"
      exact ⟨rfl, Ext.rfl'⟩
  · rintro acc h1 ⟨rfl, x1⟩ n h2 l2 x2 a2
    refine q n h2 (Nat.le_trans x1.1 l2) (x1.trans x2) ?_
    rw [a2]
    have e : ∀ (js : List Nat) (o : Nat), List.map (fun d => match d with | D.tup [y, _] => y | _ => D.non) (List.filter (fun d => match d with | D.tup [_, .int p] => decide (p = (g : Int)) | _ => false) (((iD js).zipIdx o).map fun p => D.tup [.int (1 + (p.2 : Nat)), p.1])) = iD (((js.zipIdx o).filter fun p => p.1 == g).map fun p => p.2 + 1) := by
      intro js
      induction js with
      | nil => intro o; rfl
      | cons j js ih =>
        intro o
        have ih := ih (o + 1)
        simp only [iD, List.map_cons, List.zipIdx_cons, List.filter_cons] at ih ⊢
        by_cases c : j = g
        · subst c
          simp only [decide_true, if_true, beq_self_eq_true, List.map_cons]
          rw [ih]
          simp only [List.cons.injEq, and_true]
          congr 1; omega
        · have c1 : ¬ ((j : Int) = (g : Int)) := by omega
          have c2 : (j == g) = false := by simpa using c
          simp only [decide_eq_false c1, c2, Bool.false_eq_true, if_false]
          exact ih
    have := e ks 0
    unfold enumD kidsN
    rw [this]
end

section
variable {E : EP} {Q : D → LH → Prop} {h : LH}
local macro_rules | `(tactic| walk_at "call") => `(tactic| first | (apply is_list_w; (· assumption)) | refine is_integer_w ?_ | refine is_count_w ?_ | (apply want_room_w; (· omega)))
theorem cut_take {xs : List D} {i : Nat} (l : i ≤ xs.length) : cutD xs none (some (0 + (i : Nat) : Int)) = xs.take i := by
  unfold cutD
  rw [HT.sIx_none, Int.zero_add, HT.sIx_nat]
  simp [Nat.min_eq_left l]
theorem cut_drop1 {xs : List D} {x : D} : cutD (x :: xs) (some 1) none = xs := by
  unfold cutD
  rw [HT.sIx_none]
  have : HT.sIx (x :: xs).length 0 (some ((1 : Nat) : Int)) = min 1 (x :: xs).length := HT.sIx_nat _ _ _
  have e : HT.sIx (x :: xs).length 0 (some 1) = 1 := by rw [show (1 : Int) = ((1 : Nat) : Int) from rfl, this]; simp
  rw [e]; simp
theorem take_notin {ss : List Nat} (d : ss.Nodup) {i g : Nat} (e : ss[i]? = some g) : g ∉ ss.take i := by
  intro m
  obtain ⟨j, l, e'⟩ := List.mem_iff_getElem.1 m
  rw [List.length_take] at l
  rw [List.getElem_take] at e'
  have l2 : j < ss.length := by omega
  obtain ⟨l3, e3⟩ := List.getElem?_eq_some_iff.1 e
  have := (List.nodup_iff_pairwise_ne.1 d)
  rw [List.pairwise_iff_getElem] at this
  exact this j i l2 l3 (by omega) (by rw [e', e3])
theorem want_struck_w {x y : D} {ks ss : List Nat} (s : SeqOf x h (iD ks)) (t : SeqOf y h (iD ss)) (l : ks.length < 1000) (S : SOk ks ss) (q : ∀ h1, Ext [] h h1 → Q .non h1) : WP (f_want_struck [x, y] h) Q E := by
  unfold f_want_struck b_want_struck
  walk_at "into"
  walk_at "go"
  have sl := S.len
  refine t.src (fun sr gv => ?_)
  refine wf_forL (enumD 0 (iD ss)) (by simp only [enumD_len, iD_len]; omega) (fun i r h' => ∃ a b, r = [some x, some y, a, b, none] ∧ Ext [] h h') (fun i r h' z => ?_) ⟨_, _, rfl, Ext.rfl'⟩ ?_ ?_
  · obtain ⟨_, _, _, z⟩ := z; exact gives_enm gv _ z i
  · rintro r h1 ⟨a, b, rfl, x1⟩
    have s1 := s.ext x1
    have t1 := t.ext x1
    clear s t gv sr
    walk_at "go"
    refine t1.src (fun sr gv => ?_)
    refine wf_forL (enumD 0 (iD ss)) (by simp only [enumD_len, iD_len]; omega) (fun i r h' => ∃ a b, r = [some x, some y, a, b, none] ∧ Ext [] h1 h') (fun i r h' z => ?_) ⟨_, _, rfl, Ext.rfl'⟩ ?_ ?_
    · obtain ⟨_, _, _, z⟩ := z; exact gives_enm gv _ z i
    · rintro r h2 ⟨a, b, rfl, x2⟩
      walk_at "go"
      exact q h2 (x1.trans x2)
    · rintro i d r h2 e ⟨a, b, rfl, x2⟩
      rw [enumD_at, iD_at] at e
      cases ek : ss[i]? with
      | none => rw [ek] at e; exact nomatch e
      | some g =>
        rw [ek] at e
        simp only [Option.map_some, Option.some.injEq] at e
        subst e
        have s2 := s1.ext x2
        have t2 := t1.ext x2
        clear gv sr
        walk_at "go"
        refine children_of_w s2 l ?_
        intro n h3 l3 x3 a3
        walk_at "go"
        have t3 := t2.ext x3
        refine wp_use0 (wp_compL (iD (kidsN ks g)) (fun _ => true) (fun _ => .bl true) (gives_lst a3) ?_ ?_) ?_
        · rw [iD_len]
          have : (kidsN ks g).length ≤ ks.length := by
            unfold kidsN; rw [List.length_map]
            exact Nat.le_trans (List.length_filter_le _ _) (by simp)
          omega
        · intro d h4 m x4
          obtain ⟨c, mc, rfl⟩ := iD_mem m
          refine ⟨_, rfl, ?_⟩
          walk_at "go"
          refine ⟨rfl, Ext.rfl', fun _ => ?_⟩
          walk_at "go"
          refine wp_inN (t3.ext x4).seq ?_
          refine ⟨?_, Ext.rfl'⟩
          rw [if_neg (by decide), decide_eq_true (S.cl g (List.mem_of_getElem? ek) c mc)]
        · rintro acc h4 ⟨rfl, x4⟩ n' h5 l5 x5 a5
          have a5 : h5[n']? = some (.lst (((kidsN ks g).map fun _ => true).map .bl)) := by
            rw [a5, List.filter_eq_self.2 (fun _ _ => rfl)]
            simp [iD]
          walk_at "go"
          refine wp_bAll a5 ?_
          walk_at "go"
          refine br_t (by simp) ?_
          walk_at "go"
          exact ⟨_, _, rfl, ((x2.trans x3).trans x4).trans x5⟩
  · rintro i d r h1 e ⟨a, b, rfl, x1⟩
    rw [enumD_at, iD_at] at e
    cases ek : ss[i]? with
    | none => rw [ek] at e; exact nomatch e
    | some g =>
      rw [ek] at e
      simp only [Option.map_some, Option.some.injEq] at e
      subst e
      have s1 := s.ext x1
      have t1 := t.ext x1
      have rg := S.rng g (List.mem_of_getElem? ek)
      have il : i < ss.length := (List.getElem?_eq_some_iff.1 ek).1
      have ni := take_notin S.nd ek
      have ct : cutD (iD ss) none (some (0 + (i : Nat) : Int)) = iD (ss.take i) := by
        rw [cut_take (by rw [iD_len]; omega)]; simp [iD, List.map_take]
      clear s t gv sr
      walk_at "go"
      rw [iD_len]
      refine br_dt (by omega) ?_
      walk_at "go"
      rcases t1 with rfl | ⟨n, rfl, an⟩
      · walk_at "go"
        rw [ct]
        refine wp_inN rfl ?_
        walk_at "go"
        refine br_f (by simpa using ni) ?_
        walk_at "go"
        exact ⟨_, _, rfl, x1⟩
      · walk_at "go"
        rw [ct]
        intro n2 h2 l2 x2 a2
        refine wp_inN (seq_lst a2) ?_
        walk_at "go"
        refine br_f (by simpa using ni) ?_
        walk_at "go"
        exact ⟨_, _, rfl, x1.trans x2⟩
end

abbrev TreeAt (h : LH) (t : Nat) (ks ss : List Nat) : Prop := h[t]? = some (.ins 0 [(0, .tup (iD ks)), (1, .tup (iD ss))])
structure TOk (ks ss : List Nat) : Prop where
  U : Ups ks 199
  S : SOk ks ss
section
variable {E : EP} {Q : D → LH → Prop} {h : LH}
local macro_rules | `(tactic| walk_at "call") => `(tactic| first | (apply is_list_w; (· assumption)) | refine is_integer_w ?_ | refine is_count_w ?_ | (apply want_room_w; (· omega)))
theorem init_w {x y : D} {ks ss : List Nat} {p : Nat} (s : SeqOf x h (iD ks)) (t : SeqOf y h (iD ss)) (T : TOk ks ss) (sl : ss.length < 64) (a : h[p]? = some (.ins 0 [])) (q : ∀ h1, Ext [p] h h1 → TreeAt h1 p ks (sortN ss) → Q .non h1) : WP (f_Tree___init__ [.ref p, x, y] h) Q E := by
  have ul := T.U.len
  unfold f_Tree___init__ b_Tree___init__
  walk_at "into"
  walk_at "go"
  refine want_parents_w s T.U ?_
  walk_at "go"
  refine want_struck_w s t (by omega) T.S ?_
  intro h1 x1
  have s1 := s.ext x1
  have t1 := t.ext x1
  have a1 := x1.get0 a
  clear s t a
  walk_at "go"
  intro h2 x2 a2
  have a2 : h2[p]? = some (.ins 0 [(0, .tup (iD ks))]) := a2
  have t2 := t1.ext1 a1 x2
  walk_at "go"
  refine wp_sorted (ns := ss.map fun (k : Nat) => (k : Int)) (by rw [t2.seq]; simp [iD]) (by simpa using sl) ?_
  intro n h3 l3 x3 a3
  rw [sortI_nat] at a3
  have a3 : h3[n]? = some (.lst (iD (sortN ss))) := by rw [a3]; simp [iD]
  have a2' := x3.get0 a2
  walk_at "go"
  intro h4 x4 a4
  walk_at "go"
  refine q h4 ?_ a4
  exact ((x1.w0.trans x2).trans x3.w0).trans x4
theorem make_q {x y : D} {ks ss : List Nat} (s : SeqOf x h (iD ks)) (t : SeqOf y h (iD ss)) (T : TOk ks ss) (sl : ss.length < 64) (q : ∀ p h1, h.length ≤ p → Ext [] h h1 → TreeAt h1 p ks (sortN ss) → Q (.ref p) h1) :
    ∀ p h1, h.length ≤ p → Ext [] h h1 → h1[p]? = some (.ins 0 []) → WP (f_Tree___init__ [.ref p, x, y] h1) (fun v h2 => NonAt v (Q (.ref p) h2)) E := by
  intro p h1 l x1 a1
  refine init_w (s.ext x1) (t.ext x1) T sl a1 ?_
  intro h2 x2 a2
  exact nonat (q p h2 l (x1.new x2 l) a2)
theorem make_w {n k : Nat} {bd : List D → List D → List D} {ds es : List D} {x y : D} {ks ss : List Nat} (l : ds.length = n ∧ es.length = k) (e : ∀ p, bd (.ref p :: ds) es = [.ref p, x, y]) (s : SeqOf x h (iD ks)) (t : SeqOf y h (iD ss)) (T : TOk ks ss) (sl : ss.length < 64) (q : ∀ p h1, h.length ≤ p → Ext [] h h1 → TreeAt h1 p ks (sortN ss) → Q (.ref p) h1) : WP (opM 0 n k bd f_Tree___init__ ds es h) Q E := by
  refine wp_opM l ?_
  intro p h1 l1 x1 a1
  rw [e p]
  exact make_q s t T sl q p h1 l1 x1 a1
theorem len_w {t : Nat} {ks ss : List Nat} (T : TreeAt h t ks ss) (l : ks.length < 1000) (q : Q (.int (ks.length + 1 : Nat)) h) : WP (f_Tree___len__ [.ref t] h) Q E := by
  unfold f_Tree___len__ b_Tree___len__
  walk_at "into"
  walk_at "go"
  simpa [iD_len, Nat.add_comm] using q
theorem want_group_w {t g : Nat} {ks ss : List Nat} (T : TreeAt h t ks ss) (l : ks.length < 1000) (lg : g ≤ ks.length) (q : Q .non h) : WP (f_Tree_want_group [.ref t, .int (g : Int)] h) Q E := by
  unfold f_Tree_want_group b_Tree_want_group
  walk_at "into"
  walk_at "go"
  refine len_w T l ?_
  walk_at "go"
  exact q
def treeText (ks ss : List Nat) : Str := (((("Tree(" : Str) ++ (PyData.list (pN ks)).shown) ++ (", " : Str)) ++ (PyData.list (pN ss)).shown) ++ (")" : Str)
end

theorem atI_last {xs : List D} {x : D} : L2.atI (xs ++ [x]) (-1) = some x := by
  unfold L2.atI L2.ixN
  rw [if_neg (by omega), if_pos (by simp; omega)]
  have : (-1 + ((xs ++ [x]).length : Int)).toNat = xs.length := by simp; omega
  simp only [Option.bind_some, this]
  simp
section
variable {E : EP} {Q : D → LH → Prop} {h : LH}
theorem way_w {t g : Nat} {ks ss : List Nat} (T : TreeAt h t ks ss) (U : Ups ks 199) (lg : g ≤ ks.length) (q : ∀ n h1, h.length ≤ n → Ext [] h h1 → h1[n]? = some (.lst (iD (wayN ks g))) → Q (.ref n) h1) : WP (f_Tree_way [.ref t, .int (g : Int)] h) Q E := by
  have ul := U.len
  unfold f_Tree_way b_Tree_way
  walk_at "into"
  walk_at "go"
  refine want_group_w T (by omega) lg ?_
  walk_at "go"
  intro n h1 l1 x1 a1
  walk_at "go"
  refine wf_while g (fun m r h' => ∃ pre g', r = [some (.ref t), some (.int (g : Int)), some (.ref n)] ∧ m = g' ∧ g' ≤ ks.length ∧ pre ++ wayN ks g' = wayN ks g ∧ h'[n]? = some (.lst (iD (pre ++ [g']))) ∧ Ext [] h h') (by omega) ⟨[], g, rfl, rfl, lg, rfl, a1, x1⟩ ?_
  rintro m r h2 ⟨pre, g', rfl, rfl, lg', ew, a2, x2⟩
  have T2 := x2.get0 T
  have pl : pre.length ≤ 201 := by
    have e := way_len U g lg
    rw [← ew, List.length_append] at e
    omega
  walk_at "go"
  refine wp_ix (seq_lst a2) (by rw [iD_app]; exact atI_last) ?_
  walk_at "go"
  refine br_d (fun c => ?_) (fun c => ?_)
  · walk_at "go"
    refine wp_ix (seq_lst a2) (by rw [iD_app]; exact atI_last) ?_
    walk_at "go"
    obtain ⟨j, rfl⟩ : ∃ j, m = j + 1 := ⟨m - 1, by omega⟩
    have e : ks[j]? = some (ks[j]'(by omega)) := List.getElem?_eq_getElem (by omega)
    have up := U.up j _ e
    have cj : ((j + 1 : Nat) : Int) - 1 = (j : Nat) := by omega
    rw [cj]
    refine wp_ixN (d := .int ((ks[j]'(by omega) : Nat) : Int)) rfl (by rw [iD_at, e]; rfl) ?_
    walk_at "go"
    intro h3 x3 a3
    walk_at "go"
    refine ⟨ks[j]'(by omega), by omega, pre ++ [j + 1], ks[j]'(by omega), rfl, rfl, by omega, ?_, ?_, x2.new x3 l1⟩
    · rw [← ew, way_s U e]; simp
    · rw [a3, iD_app (xs := pre ++ [j + 1])]; rfl
  · walk_at "go"
    have : m = 0 := by omega
    subst this
    rw [way_0] at ew
    exact q n h2 l1 x2 (by rw [← ew]; exact a2)
theorem apart_w {t g s : Nat} {ks ss : List Nat} (T : TreeAt h t ks ss) (U : Ups ks 199) (lg : g ≤ ks.length) (ls : s ≤ ks.length) (q : ∀ n h1, h.length ≤ n → Ext [] h h1 → h1[n]? = some (.lst (iD (apN ks g s))) → Q (.ref n) h1) : WP (f_Tree_apart [.ref t, .int (g : Int), .int (s : Int)] h) Q E := by
  have ul := U.len
  unfold f_Tree_apart b_Tree_apart
  walk_at "into"
  walk_at "go"
  refine way_w T U lg ?_
  intro n1 h1 l1 x1 a1
  walk_at "go"
  refine way_w (x1.get0 T) U ls ?_
  intro n2 h2 l2 x2 a2
  have a1' := x2.get0 a1
  walk_at "go"
  refine wp_use0 (wp_compL (iD (wayN ks g)) (fun d => !((iD (wayN ks s)).any fun z => eqF z d)) id (gives_lst a1') ?_ ?_) ?_
  · rw [iD_len]; have := way_len U g lg; omega
  · intro d h3 m x3
    obtain ⟨c, mc, rfl⟩ := iD_mem m
    refine ⟨_, rfl, ?_⟩
    walk_at "go"
    refine wp_inN (seq_lst (x3.get0 a2)) ?_
    walk_at "go"
    refine ⟨?_, Ext.rfl', fun _ => ?_⟩
    · rw [iD_has]; rfl
    · walk_at "go"; exact ⟨rfl, Ext.rfl'⟩
  · rintro acc h3 ⟨rfl, x3⟩ n h4 l4 x4 a4
    refine q n h4 (Nat.le_trans ((x1.trans x2).trans x3).1 l4) (((x1.trans x2).trans x3).trans x4) ?_
    rw [a4, List.map_id, iD_filter]
    unfold apN
    simp only [iD_has]
end

/-! ### the law's own rows -/
def aheadB (cs : List W) (a b : W) : Bool := !decide (a ∈ cs) || (!decide (b ∈ cs) || decide (cs.idxOf a < cs.idxOf b))
def lastIs (cs : List W) (c : W) : Bool := match cs.getLast? with
  | some d => decide (d = c)
  | none => false
def headIs (cs : List W) (c : W) : Bool := match cs.head? with
  | some d => decide (d = c)
  | none => false
def lawTake (cs : List W) (big : Bool) : Bool :=
  if (!decide ((3 : W) ∈ cs) || (decide ((2 : W) ∈ cs) == decide ((1 : W) ∈ cs)) || (decide ((2 : W) ∈ cs) && decide ((0 : W) ∈ cs))) = true then false
  else if (big && !lastIs cs 3) = true then false
  else aheadB cs 0 3 && aheadB cs 2 3
def lawMove (cs : List W) (sh : Bool) : Bool :=
  if cs = [] then true
  else if (!decide ((7 : W) ∈ cs) || (decide ((2 : W) ∈ cs) && (decide ((1 : W) ∈ cs) || decide ((0 : W) ∈ cs)))) = true then false
  else if (decide ((5 : W) ∈ cs) && (!decide ((4 : W) ∈ cs) || !aheadB cs 4 5)) = true then false
  else if (!sh && !headIs cs 4) = true then false
  else (aheadB cs 0 7 && aheadB cs 0 5) && (aheadB cs 2 7 && aheadB cs 2 5)
section
variable {E : EP} {Q : D → LH → Prop} {h : LH}
local macro_rules | `(tactic| walk_at "call") => `(tactic| refine law_is_ahead_w ?_)
/-! ### sequences of words -/
def rowsD (css : List (List W)) : List D := css.map fun cs => .tup (rowD cs)
def nextS (ws : List W) (css : List (List W)) : List (List W) := css.flatMap fun s => (ws.filter fun w => !decide (w ∈ s)).map fun w => s ++ [w]
def iterS (ws : List W) : Nat → List (List W) × List (List W)
  | 0 => ([[]], [[]])
  | n + 1 => ((iterS ws n).1 ++ nextS ws (iterS ws n).2, nextS ws (iterS ws n).2)
def seqsN (ws : List W) : List (List W) := (iterS ws ws.length).1
structure Few (ws : List W) : Prop where
  a : ∀ n, n ≤ ws.length → (iterS ws n).1.length ≤ 3000 ∧ (iterS ws n).2.length ≤ 3000 ∧ ∀ cs ∈ (iterS ws n).2, cs.length ≤ 3000
  l : ws.length ≤ 100
theorem rowsD_len {a : List (List W)} : (rowsD a).length = a.length := by simp [rowsD]
end

/-! ### rows by the law, rules -/
def takesN (big : Bool) : List (List W) := (seqsN [0, 1, 2, 3]).filter fun cs => lawTake cs big
def movesN (sh : Bool) : List (List W) := (seqsN [4, 0, 1, 2, 7, 5]).filter fun cs => lawMove cs sh
def liftsN : List (List W) := [[], [7], [5], [7, 5], [5, 7], [8]]
section
variable {E : EP} {Q : D → LH → Prop} {h : LH}
theorem pick_w {p l : Nat} {xs : List D} (P : Pot h p) (L : h[l]? = some (.lst xs)) (pl : l ≠ p) (hx : 0 < xs.length ∧ xs.length < 1000000) (q : ∀ d h1, d ∈ xs → Pot h1 p → Ext [p] h h1 → Q d h1) : WP (f__law_pick [.ref p, .ref l] h) Q E := by
  unfold f__law_pick b__law_pick
  walk_at "into"
  walk_at "go"
  refine draw_w P (by omega) ?_
  intro k h1 lk P1 x1
  have L1 := x1.get1 L pl
  walk_at "go"
  have kl : k < xs.length := by omega
  refine wp_ixN (d := xs[k]) (seq_lst L1) (List.getElem?_eq_getElem kl) ?_
  exact q _ h1 (List.getElem_mem kl) P1 x1
end
/-- the rules of a book -/
structure Ru where
  fails : W
  shared : Bool
  batch : Nat
  settles : Bool
  holds : List W
  take : List W
  give : List W
  move : List W
  lift : List W
structure RulesK (kvs : List (Ky × D)) (R : Ru) : Prop where
  fails : valD kvs (.inr (wd 18)) = some (.str (wd R.fails))
  shared : valD kvs (.inr (wd 19)) = some (.bl R.shared)
  batch : valD kvs (.inr "batch") = some (.int (R.batch : Int))
  settles : valD kvs (.inr "settles") = some (.bl R.settles)
  holds : valD kvs (.inr "holds") = some (.tup (rowD R.holds))
  take : valD kvs (.inr (wd 12)) = some (.tup (rowD R.take))
  give : valD kvs (.inr (wd 13)) = some (.tup (rowD R.give))
  move : valD kvs (.inr (wd 14)) = some (.tup (rowD R.move))
  lift : valD kvs (.inr (wd 15)) = some (.tup (rowD R.lift))
  few : kvs.length ≤ 30
def RulesAt (h : LH) (n : Nat) (R : Ru) : Prop := ∃ kvs, h[n]? = some (.dct kvs) ∧ RulesK kvs R
theorem RulesAt.ext {W : List Nat} {h h1 : LH} {n : Nat} {R : Ru} (A : RulesAt h n R) (x : Ext W h h1) (k : n ∉ W) : RulesAt h1 n R := by
  obtain ⟨kvs, e, K⟩ := A; exact ⟨kvs, x.get e k, K⟩
theorem RulesAt.lt {h : LH} {n : Nat} {R : Ru} (A : RulesAt h n R) : n < h.length := by obtain ⟨kvs, e, K⟩ := A; exact lt_of_at e
def tests (cs : List W) (w : W) : Bool := !decide (w ∈ cs) || ((!decide ((0 : W) ∈ cs) || decide (cs.idxOf 0 < cs.idxOf w)) && (!decide ((2 : W) ∈ cs) || decide (cs.idxOf 2 < cs.idxOf w)))
def behB (cs : List W) (w o : W) : Bool := !decide (w ∈ cs) || (decide (o ∈ cs) && decide (cs.idxOf o < cs.idxOf w))
def rowOk (known cs : List W) : Bool := decide (∀ c ∈ cs, c ∈ known) && decide cs.Nodup
def takeP (cs : List W) : Bool := rowOk [0, 1, 2, 3] cs && (decide ((3 : W) ∈ cs) && (tests cs 3 && (if decide ((2 : W) ∈ cs) then !decide ((0 : W) ∈ cs) && !decide ((1 : W) ∈ cs) else decide ((1 : W) ∈ cs))))
def giveP (cs : List W) : Bool := rowOk [4, 5, 6] cs && (decide ((6 : W) ∈ cs) && behB cs 5 4)
def moveP (cs : List W) : Bool := rowOk [4, 0, 1, 2, 7, 5] cs && (decide (cs = []) || (decide ((7 : W) ∈ cs) && (!(decide ((2 : W) ∈ cs) && (decide ((0 : W) ∈ cs) || decide ((1 : W) ∈ cs))) && (behB cs 5 4 && (tests cs 7 && tests cs 5)))))
def liftP (cs : List W) : Bool := rowOk [7, 5, 8] cs && decide (cs ∈ liftsN)
/-- rules of which there is a book -/
structure Ok (R : Ru) : Prop where
  fails : R.fails ∈ ([9, 10, 11] : List W)
  batch : 1 ≤ R.batch ∧ R.batch ≤ 50
  holds : rowOk [12, 13, 14, 15] R.holds = true
  take : takeP R.take = true
  late : 1 < R.batch → lastIs R.take 3 = true
  give : giveP R.give = true
  move : moveP R.move = true
  own : R.shared = false → R.move = [] ∨ headIs R.move 4 = true
  lift : liftP R.lift = true
theorem lifts_ok : ∀ cs ∈ liftsN, liftP cs = true := by decide +kernel
theorem sub_ok : ∀ cs : List W, cs.Sublist [12, 13, 14, 15] → rowOk [12, 13, 14, 15] cs = true := fun cs s => by
  unfold rowOk
  rw [Bool.and_eq_true, decide_eq_true_eq, decide_eq_true_eq]
  exact ⟨fun c m => s.subset m, s.nodup (by decide)⟩

theorem len_same {kvs : List (Ky × D)} {k : Ky} {d v : D} (e : valD kvs k = some d) : (putD kvs k v).length = kvs.length := by
  have : (kvs.any fun kv => decide (kv.1 = k)) = true := by
    unfold valD at e
    cases z : kvs.find? (fun kv => decide (kv.1 = k)) with
    | none => rw [z] at e; exact nomatch e
    | some p => exact List.any_eq_true.2 ⟨p, List.mem_of_find?_eq_some z, by have := List.find?_some z; simpa using this⟩
  unfold putD; rw [if_pos this]; simp
section
variable {kvs : List (Ky × D)} {R : Ru}
theorem RulesK.setMove (K : RulesK kvs R) (w : List W) : RulesK (putD kvs (.inr (wd 14)) (.tup (rowD w))) { R with move := w } :=
  ⟨by rw [valD_put, if_neg (by decide)]; exact K.fails, by rw [valD_put, if_neg (by decide)]; exact K.shared, by rw [valD_put, if_neg (by decide)]; exact K.batch, by rw [valD_put, if_neg (by decide)]; exact K.settles, by rw [valD_put, if_neg (by decide)]; exact K.holds, by rw [valD_put, if_neg (by decide)]; exact K.take, by rw [valD_put, if_neg (by decide)]; exact K.give, by rw [valD_put, if_pos rfl], by rw [valD_put, if_neg (by decide)]; exact K.lift, by rw [len_same K.move]; exact K.few⟩
theorem RulesK.setLift (K : RulesK kvs R) (w : List W) : RulesK (putD kvs (.inr (wd 15)) (.tup (rowD w))) { R with lift := w } :=
  ⟨by rw [valD_put, if_neg (by decide)]; exact K.fails, by rw [valD_put, if_neg (by decide)]; exact K.shared, by rw [valD_put, if_neg (by decide)]; exact K.batch, by rw [valD_put, if_neg (by decide)]; exact K.settles, by rw [valD_put, if_neg (by decide)]; exact K.holds, by rw [valD_put, if_neg (by decide)]; exact K.take, by rw [valD_put, if_neg (by decide)]; exact K.give, by rw [valD_put, if_neg (by decide)]; exact K.move, by rw [valD_put, if_pos rfl], by rw [len_same K.lift]; exact K.few⟩
end
/-- the same in what a form hangs on -/
def SameF (R S : Ru) : Prop := S.fails = R.fails ∧ S.batch = R.batch ∧ S.take = R.take ∧ S.move = R.move
theorem take_live {cs : List W} (h : takeP cs = true) : (3 : W) ∈ cs := by
  unfold takeP at h
  simp only [Bool.and_eq_true, decide_eq_true_eq] at h
  exact h.2.1
theorem vput {kvs : List (Ky × D)} {k j : Ky} {v d : D} (n : j ≠ k) (e : valD kvs j = some d) : valD (putD kvs k v) j = some d := by rw [valD_put, if_neg n]; exact e
theorem vnew {kvs : List (Ky × D)} {k : Ky} {v : D} : valD (putD kvs k v) k = some v := by rw [valD_put, if_pos rfl]
/-! the menus -/
def textM (k : W) : Str := match k.val with
  | 12 => "try live,look add live,add look live,add live,live add,look live add"
  | 13 => "home off end,home end off,end home off,home end,end home,end"
  | 14 => "home try set off,home look add set off,home off add set,home set add off,home add look set off,home set,home try off set,home look set off add,home add set,home look set,home set add,try home set off,set home off,add home off set,set,look set,set add,try set home"
  | _ => "both,set off,off set,set,off,"
def menuN (k : W) : List (List W) := match k.val with
  | 12 => [[2, 3], [0, 1, 3], [1, 0, 3], [1, 3], [3, 1], [0, 3, 1]]
  | 13 => [[4, 5, 6], [4, 6, 5], [6, 4, 5], [4, 6], [6, 4], [6]]
  | 14 => [[4, 2, 7, 5], [4, 0, 1, 7, 5], [4, 5, 1, 7], [4, 7, 1, 5], [4, 1, 0, 7, 5], [4, 7], [4, 2, 5, 7], [4, 0, 7, 5, 1], [4, 1, 7], [4, 0, 7], [4, 7, 1], [2, 4, 7, 5], [7, 4, 5], [1, 4, 5, 7], [7], [0, 7], [7, 1], [2, 7, 4]]
  | _ => [[8], [7, 5], [5, 7], [7], [5], []]
theorem text_len : ∀ k ∈ ([12, 13, 14, 15] : List W), (textM k).length ≤ 1000 := by decide +kernel
theorem menu_len : ∀ k ∈ ([12, 13, 14, 15] : List W), (menuN k).length < 1000000 := by decide +kernel
def joinW (cs : List W) : Str := Txt.join " " (cs.map wd)
theorem menu_cut : ∀ k ∈ ([12, 13, 14, 15] : List W), Txt.split (textM k) "," = (menuN k).map joinW := by decide +kernel
theorem menu_row : ∀ k ∈ ([12, 13, 14, 15] : List W), ∀ cs ∈ menuN k, if cs = [] then joinW cs = "" else (joinW cs ≠ "" ∧ (joinW cs).length ≤ 1000 ∧ Txt.split (joinW cs) " " = cs.map wd) := by decide +kernel
theorem menu_ok : (∀ cs ∈ menuN 12, takeP cs = true) ∧ (∀ cs ∈ (menuN 12).take 4, lastIs cs 3 = true) ∧ (∀ cs ∈ menuN 13, giveP cs = true) ∧ (∀ cs ∈ menuN 14, moveP cs = true) ∧ (∀ cs ∈ (menuN 14).take 11, headIs cs 4 = true) ∧ (∀ cs ∈ menuN 15, liftP cs = true) := by decide +kernel
def StrAt (x : D) (P : Str → Prop) : Prop := ∃ a, x = .str a ∧ P a
theorem strat {a : Str} {P : Str → Prop} (p : P a) : StrAt (.str a) P := ⟨a, rfl, p⟩
section
variable {E : EP} {Q : D → LH → Prop} {h : LH} {r : LS}
theorem wp_eSpl {o i : EX} (q : WP (o r h) (fun x h1 => StrAt x fun a => WP (i r h1) (fun y h2 => WP (oSpl (.str a) y h2) Q E) E) E) : WP (eSpl o i r h) Q E :=
  wp_bind (wp_use q (fun x h1 z => by
    obtain ⟨a, rfl, z⟩ := z
    exact wp_bind z) (fun _ _ _ z => z))
theorem wp_oSpl {a b : Str} (l : (b.length == 0) = false ∧ a.length + 2 ≤ sizeLine) (q : ∀ n h1, h.length ≤ n → Ext [] h h1 → h1[n]? = some (.lst ((Txt.split a b).map D.str)) → Q (.ref n) h1) : WP (oSpl (.str a) (.str b) h) Q E := by
  show WP (splL a b h) Q E
  unfold splL; rw [if_pos l]; exact wp_new q
theorem menu_w {k : W} (m : k ∈ ([12, 13, 14, 15] : List W)) (q : ∀ n h1, h.length ≤ n → Ext [] h h1 → h1[n]? = some (.lst (rowsD (menuN k))) → Q (.ref n) h1) : WP (f__law_menu [.str (wd k)] h) Q E := by
  unfold f__law_menu b__law_menu
  walk_at "into"
  walk_at "go"
  intro n h0 l0 x0 a0
  walk_at "go"
  refine ⟨a0, ?_⟩
  intro h1 x1 a1 m1
  have y1 := x0.new x1 l0
  have f1 : valD (mergeD [] [((.inr (wd 12) : Ky), D.str (textM 12))]) (.inr (wd 12)) = some (.str (textM 12)) := rfl
  change h1[n]? = some (.dct (mergeD [] [((.inr (wd 12) : Ky), D.str (textM 12))])) at a1
  change (mergeD [] [((.inr (wd 12) : Ky), D.str (textM 12))]).length ≤ 1 at m1
  generalize (mergeD [] [((.inr (wd 12) : Ky), D.str (textM 12))]) = k1 at a1 f1 m1
  walk_at "go"
  intro h2 x2 a2 m2
  have y2 := y1.new x2 l0
  have f1' := vput (k := .inr (wd 13)) (v := .str (textM 13)) (by decide) f1
  have g2 : valD (putD k1 (.inr (wd 13)) (.str (textM 13))) (.inr (wd 13)) = some (.str (textM 13)) := vnew
  change h2[n]? = some (.dct (putD k1 (.inr (wd 13)) (.str (textM 13)))) at a2
  change (putD k1 (.inr (wd 13)) (.str (textM 13))).length ≤ _ at m2
  generalize putD k1 (.inr (wd 13)) (.str (textM 13)) = k2 at a2 m2 f1' g2
  replace m2 : k2.length ≤ 2 := by omega
  clear a1 m1 f1
  have f1 := f1'; clear f1'
  have f2 := g2; clear g2
  walk_at "go"
  intro h3 x3 a3 m3
  have y3 := y2.new x3 l0
  have f1' := vput (k := .inr (wd 14)) (v := .str ("home try set off,home look add set off,home off add set,home set add off,")) (by decide) f1
  have f2' := vput (k := .inr (wd 14)) (v := .str ("home try set off,home look add set off,home off add set,home set add off,")) (by decide) f2
  have g3 : valD (putD k2 (.inr (wd 14)) (.str ("home try set off,home look add set off,home off add set,home set add off,"))) (.inr (wd 14)) = some (.str ("home try set off,home look add set off,home off add set,home set add off,")) := vnew
  change h3[n]? = some (.dct (putD k2 (.inr (wd 14)) (.str ("home try set off,home look add set off,home off add set,home set add off,")))) at a3
  change (putD k2 (.inr (wd 14)) (.str ("home try set off,home look add set off,home off add set,home set add off,"))).length ≤ _ at m3
  generalize putD k2 (.inr (wd 14)) (.str ("home try set off,home look add set off,home off add set,home set add off,")) = k3 at a3 m3 f1' f2' g3
  replace m3 : k3.length ≤ 3 := by omega
  clear a2 m2 f1 f2
  have f1 := f1'; clear f1'
  have f2 := f2'; clear f2'
  walk_at "go"
  refine wp_addS (by decide) ?_
  walk_at "go"
  intro h4 x4 a4 m4
  have y4 := y3.new x4 l0
  have f1' := vput (k := .inr (wd 14)) (v := .str (("home try set off,home look add set off,home off add set,home set add off," : Str) ++ ("home add look set off,home set,home try off set,home look set off add," : Str))) (by decide) f1
  have f2' := vput (k := .inr (wd 14)) (v := .str (("home try set off,home look add set off,home off add set,home set add off," : Str) ++ ("home add look set off,home set,home try off set,home look set off add," : Str))) (by decide) f2
  have g4 : valD (putD k3 (.inr (wd 14)) (.str (("home try set off,home look add set off,home off add set,home set add off," : Str) ++ ("home add look set off,home set,home try off set,home look set off add," : Str)))) (.inr (wd 14)) = some (.str (("home try set off,home look add set off,home off add set,home set add off," : Str) ++ ("home add look set off,home set,home try off set,home look set off add," : Str))) := vnew
  change h4[n]? = some (.dct (putD k3 (.inr (wd 14)) (.str (("home try set off,home look add set off,home off add set,home set add off," : Str) ++ ("home add look set off,home set,home try off set,home look set off add," : Str))))) at a4
  change (putD k3 (.inr (wd 14)) (.str (("home try set off,home look add set off,home off add set,home set add off," : Str) ++ ("home add look set off,home set,home try off set,home look set off add," : Str)))).length ≤ _ at m4
  generalize putD k3 (.inr (wd 14)) (.str (("home try set off,home look add set off,home off add set,home set add off," : Str) ++ ("home add look set off,home set,home try off set,home look set off add," : Str))) = k4 at a4 m4 f1' f2' g4
  replace m4 : k4.length ≤ 4 := by omega
  clear g3 a3 m3 f1 f2
  have f1 := f1'; clear f1'
  have f2 := f2'; clear f2'
  walk_at "go"
  refine wp_addS (by decide) ?_
  walk_at "go"
  intro h5 x5 a5 m5
  have y5 := y4.new x5 l0
  have f1' := vput (k := .inr (wd 14)) (v := .str (("home try set off,home look add set off,home off add set,home set add off," : Str) ++ ("home add look set off,home set,home try off set,home look set off add," : Str) ++ ("home add set,home look set,home set add,try home set off,set home off," : Str))) (by decide) f1
  have f2' := vput (k := .inr (wd 14)) (v := .str (("home try set off,home look add set off,home off add set,home set add off," : Str) ++ ("home add look set off,home set,home try off set,home look set off add," : Str) ++ ("home add set,home look set,home set add,try home set off,set home off," : Str))) (by decide) f2
  have g5 : valD (putD k4 (.inr (wd 14)) (.str (("home try set off,home look add set off,home off add set,home set add off," : Str) ++ ("home add look set off,home set,home try off set,home look set off add," : Str) ++ ("home add set,home look set,home set add,try home set off,set home off," : Str)))) (.inr (wd 14)) = some (.str (("home try set off,home look add set off,home off add set,home set add off," : Str) ++ ("home add look set off,home set,home try off set,home look set off add," : Str) ++ ("home add set,home look set,home set add,try home set off,set home off," : Str))) := vnew
  change h5[n]? = some (.dct (putD k4 (.inr (wd 14)) (.str (("home try set off,home look add set off,home off add set,home set add off," : Str) ++ ("home add look set off,home set,home try off set,home look set off add," : Str) ++ ("home add set,home look set,home set add,try home set off,set home off," : Str))))) at a5
  change (putD k4 (.inr (wd 14)) (.str (("home try set off,home look add set off,home off add set,home set add off," : Str) ++ ("home add look set off,home set,home try off set,home look set off add," : Str) ++ ("home add set,home look set,home set add,try home set off,set home off," : Str)))).length ≤ _ at m5
  generalize putD k4 (.inr (wd 14)) (.str (("home try set off,home look add set off,home off add set,home set add off," : Str) ++ ("home add look set off,home set,home try off set,home look set off add," : Str) ++ ("home add set,home look set,home set add,try home set off,set home off," : Str))) = k5 at a5 m5 f1' f2' g5
  replace m5 : k5.length ≤ 5 := by omega
  clear g4 a4 m4 f1 f2
  have f1 := f1'; clear f1'
  have f2 := f2'; clear f2'
  walk_at "go"
  refine wp_addS (by decide) ?_
  walk_at "go"
  intro h6 x6 a6 m6
  have y6 := y5.new x6 l0
  have f1' := vput (k := .inr (wd 14)) (v := .str (("home try set off,home look add set off,home off add set,home set add off," : Str) ++ ("home add look set off,home set,home try off set,home look set off add," : Str) ++ ("home add set,home look set,home set add,try home set off,set home off," : Str) ++ ("add home off set,set,look set,set add,try set home" : Str))) (by decide) f1
  have f2' := vput (k := .inr (wd 14)) (v := .str (("home try set off,home look add set off,home off add set,home set add off," : Str) ++ ("home add look set off,home set,home try off set,home look set off add," : Str) ++ ("home add set,home look set,home set add,try home set off,set home off," : Str) ++ ("add home off set,set,look set,set add,try set home" : Str))) (by decide) f2
  have g6 : valD (putD k5 (.inr (wd 14)) (.str (("home try set off,home look add set off,home off add set,home set add off," : Str) ++ ("home add look set off,home set,home try off set,home look set off add," : Str) ++ ("home add set,home look set,home set add,try home set off,set home off," : Str) ++ ("add home off set,set,look set,set add,try set home" : Str)))) (.inr (wd 14)) = some (.str (("home try set off,home look add set off,home off add set,home set add off," : Str) ++ ("home add look set off,home set,home try off set,home look set off add," : Str) ++ ("home add set,home look set,home set add,try home set off,set home off," : Str) ++ ("add home off set,set,look set,set add,try set home" : Str))) := vnew
  change h6[n]? = some (.dct (putD k5 (.inr (wd 14)) (.str (("home try set off,home look add set off,home off add set,home set add off," : Str) ++ ("home add look set off,home set,home try off set,home look set off add," : Str) ++ ("home add set,home look set,home set add,try home set off,set home off," : Str) ++ ("add home off set,set,look set,set add,try set home" : Str))))) at a6
  change (putD k5 (.inr (wd 14)) (.str (("home try set off,home look add set off,home off add set,home set add off," : Str) ++ ("home add look set off,home set,home try off set,home look set off add," : Str) ++ ("home add set,home look set,home set add,try home set off,set home off," : Str) ++ ("add home off set,set,look set,set add,try set home" : Str)))).length ≤ _ at m6
  generalize putD k5 (.inr (wd 14)) (.str (("home try set off,home look add set off,home off add set,home set add off," : Str) ++ ("home add look set off,home set,home try off set,home look set off add," : Str) ++ ("home add set,home look set,home set add,try home set off,set home off," : Str) ++ ("add home off set,set,look set,set add,try set home" : Str))) = k6 at a6 m6 f1' f2' g6
  replace m6 : k6.length ≤ 6 := by omega
  clear g5 a5 m5 f1 f2
  have f1 := f1'; clear f1'
  have f2 := f2'; clear f2'
  have f3 : valD k6 (.inr (wd 14)) = some (.str (textM 14)) := by rw [g6]; exact congrArg (fun x => some (D.str x)) (by decide +kernel)
  clear g6
  walk_at "go"
  intro h7 x7 a7 m7
  have y7 := y6.new x7 l0
  have f1' := vput (k := .inr (wd 15)) (v := .str (textM 15)) (by decide) f1
  have f2' := vput (k := .inr (wd 15)) (v := .str (textM 15)) (by decide) f2
  have f3' := vput (k := .inr (wd 15)) (v := .str (textM 15)) (by decide) f3
  have g7 : valD (putD k6 (.inr (wd 15)) (.str (textM 15))) (.inr (wd 15)) = some (.str (textM 15)) := vnew
  change h7[n]? = some (.dct (putD k6 (.inr (wd 15)) (.str (textM 15)))) at a7
  change (putD k6 (.inr (wd 15)) (.str (textM 15))).length ≤ _ at m7
  generalize putD k6 (.inr (wd 15)) (.str (textM 15)) = k7 at a7 m7 f1' f2' f3' g7
  replace m7 : k7.length ≤ 7 := by omega
  clear a6 m6 f1 f2 f3
  have f1 := f1'; clear f1'
  have f2 := f2'; clear f2'
  have f3 := f3'; clear f3'
  have f4 := g7; clear g7
  have fk : valD k7 (.inr (wd k)) = some (.str (textM k)) := by
    simp only [List.mem_cons, List.not_mem_nil, or_false] at m
    rcases m with rfl | rfl | rfl | rfl <;> assumption
  walk_at "go"
  clear a0 x0 x1 x2 x3 x4 x5 x6 x7 y1 y2 y3 y4 y5 y6 f1 f2 f3 f4 m7
  refine wp_eSpl ?_
  walk_at "go"
  refine strat ?_
  walk_at "go"
  refine wp_oSpl ⟨by decide, by have := text_len k m; unfold sizeLine; omega⟩ ?_
  intro l8 h8 ll x8 a8
  rw [menu_cut k m, List.map_map] at a8
  change h8[l8]? = some (.lst ((menuN k).map fun cs => D.str (joinW cs))) at a8
  walk_at "go"
  refine wp_mapF (fun cs => .str (joinW cs)) (menuN k) (fun cs => .tup (rowD cs)) (gives_lst a8) (menu_len k m) ?_ ?_
  · intro cs mc h9 x9
    refine ⟨_, rfl, ?_⟩
    have R := menu_row k m cs mc
    walk_at "go"
    by_cases e : cs = []
    · subst e
      rw [if_pos rfl] at R
      refine br_dt R ?_
      walk_at "go"
      exact ⟨rfl, Ext.rfl'⟩
    · rw [if_neg e] at R
      obtain ⟨R1, R2, R3⟩ := R
      refine br_df R1 ?_
      walk_at "go"
      refine wp_eSpl ?_
      walk_at "go"
      refine strat ?_
      walk_at "go"
      refine wp_oSpl ⟨by decide, by unfold sizeLine; omega⟩ ?_
      intro l10 h10 ll2 x10 a10
      rw [R3, List.map_map] at a10
      walk_at "go"
      exact ⟨rfl, x10⟩
  intro n11 h11 l11 x11 a11
  exact q n11 h11 (by have := y7.1; have := x8.1; omega) ((y7.trans x8).trans x11) a11
end

theorem br_wp {b : Bool} {x y : R D} {E : EP} {K : D → LH → Prop} (P : D → LH → Prop) (t : b = true → WP x P noE) (f : b = false → WP y P noE) (k : ∀ v h, P v h → K v h) : Br b (WP x K E) (WP y K E) := by
  cases b with
  | true => exact wp_use0 (t rfl) k
  | false => exact wp_use0 (f rfl) k
theorem cut_rows {css : List (List W)} {z : Int} {u : Nat} (e : z = u) (l : u ≤ css.length) : cutD (rowsD css) none (some z) = rowsD (css.take u) := by
  subst e
  unfold cutD
  rw [HT.sIx_none, HT.sIx_nat, rowsD_len]
  simp [Nat.min_eq_left l, rowsD, List.map_take]
def KeysN (kvs : List (Ky × D)) : Prop := (kvs.map (·.1)).Nodup
theorem nd_put {kvs : List (Ky × D)} {k : Ky} {v : D} (n : KeysN kvs) : KeysN (putD kvs k v) := by
  unfold KeysN at n ⊢
  unfold putD
  split
  · have e : (kvs.map fun kv => if kv.1 = k then (kv.1, v) else kv).map (·.1) = kvs.map (·.1) := by
      rw [List.map_map]
      refine List.map_congr_left fun p _ => ?_
      show (if p.1 = k then (p.1, v) else p).1 = p.1
      split <;> rfl
    rw [e]; exact n
  · rename_i a
    rw [List.nodup_iff_pairwise_ne] at n ⊢
    rw [List.map_append, List.pairwise_append]
    refine ⟨n, by simp, fun x mx y my => ?_⟩
    simp only [List.map_cons, List.map_nil, List.mem_singleton] at my
    subst my
    obtain ⟨p, mp, rfl⟩ := List.mem_map.1 mx
    intro z
    exact a (List.any_eq_true.2 ⟨p, mp, by simpa using z⟩)
theorem merge_go : ∀ (more acc : List (Ky × D)), KeysN (acc ++ more) → mergeD acc more = acc ++ more
  | [], acc, _ => by simp [mergeD]
  | p :: more, acc, n => by
    have e : putD acc p.1 p.2 = acc ++ [p] := by
      unfold putD
      rw [if_neg]
      intro a
      obtain ⟨x, mx, ex⟩ := List.any_eq_true.1 a
      unfold KeysN at n
      rw [List.nodup_iff_pairwise_ne, List.map_append, List.pairwise_append] at n
      exact n.2.2 x.1 (List.mem_map_of_mem mx) p.1 (by simp) (by simpa using ex)
    show mergeD (putD acc p.1 p.2) more = _
    rw [e, merge_go more (acc ++ [p]) (by simpa using n)]
    simp
theorem merge_self {kvs ps : List (Ky × D)} (n : KeysN kvs) : mergeD [] (kvs ++ ps) = mergeD kvs ps := by
  have e := merge_go kvs [] (by simpa using n)
  unfold mergeD at e ⊢
  rw [List.foldl_append, e, List.nil_append]
/-- rules at n, each key once -/
def RulesN (h : LH) (n : Nat) (R : Ru) : Prop := ∃ kvs, h[n]? = some (.dct kvs) ∧ RulesK kvs R ∧ KeysN kvs
theorem RulesN.ext {W : List Nat} {h h1 : LH} {n : Nat} {R : Ru} (A : RulesN h n R) (x : Ext W h h1) (k : n ∉ W) : RulesN h1 n R := by
  obtain ⟨kvs, e, K⟩ := A; exact ⟨kvs, x.get e k, K⟩
theorem RulesN.lt {h : LH} {n : Nat} {R : Ru} (A : RulesN h n R) : n < h.length := by obtain ⟨kvs, e, K⟩ := A; exact lt_of_at e
theorem RulesN.at {h : LH} {n : Nat} {R : Ru} (A : RulesN h n R) : RulesAt h n R := by obtain ⟨kvs, e, K, _⟩ := A; exact ⟨kvs, e, K⟩
section
variable {E : EP} {Q : D → LH → Prop} {h : LH}
theorem wp_bIntB {b : Bool} (q : Q (.int (if b then 1 else 0)) h) : WP (bInt [.bl b] h) Q E := by cases b <;> exact q
theorem rules_w {p w : Nat} (lw : w ≤ 2) (P : Pot h p) (q : ∀ n h1 R, h.length ≤ n → RulesN h1 n R → Ok R → Pot h1 p → Ext [p] h h1 → Q (.ref n) h1) : WP (f__law_rules [.ref p, .int (w : Int), .int 50] h) Q E := by
  have pl := P.lt
  unfold f__law_rules b__law_rules
  walk_at "into"
  walk_at "go"
  intro f h1 l1 x1 a1
  have fl := lt_of_at a1
  have P1 := P.ext x1 (by simp)
  have e1 := x1.1
  walk_at "go"
  intro l2 h2 k2 x2 a2
  have P2 := P1.ext x2 (by simp)
  have e2 := x2.1
  walk_at "go"
  refine pick_w P2 a2 (by omega) (by simp) ?_
  intro d h3 md P3 x3
  obtain ⟨wf, mf, rfl⟩ : ∃ w : W, w ∈ ([9, 10, 11] : List W) ∧ d = .str (wd w) := by
    simp only [List.mem_cons, List.not_mem_nil, or_false] at md
    rcases md with rfl | rfl | rfl | rfl
    · exact ⟨9, by simp, rfl⟩
    · exact ⟨9, by simp, rfl⟩
    · exact ⟨10, by simp, rfl⟩
    · exact ⟨11, by simp, rfl⟩
  walk_at "go"
  refine draw_w P3 (by omega) ?_
  intro ks h4 lks P4 x4
  walk_at "go"
  have y4 : Ext [p] h1 h4 := (x2.w0).trans (x3.trans x4)
  refine ⟨y4.get1 a1 (by omega), ?_⟩
  intro h5 x5 a5 m5
  simp only [List.length_cons, List.length_nil] at m5
  have z5 : Ext [p] h h5 := ((x1.w0).trans y4).new x5 l1
  have P5 := P4.ext x5 (by simp; omega)
  have e5 := z5.1
  generalize hsh : (decide ((ks : Int) = 0)) = sh at a5 m5
  have f18 : valD (mergeD [] [((.inr (wd 18) : Ky), D.str (wd wf)), (.inr (wd 19), .bl sh)]) (.inr (wd 18)) = some (.str (wd wf)) := rfl
  have f19 : valD (mergeD [] [((.inr (wd 18) : Ky), D.str (wd wf)), (.inr (wd 19), .bl sh)]) (.inr (wd 19)) = some (.bl sh) := rfl
  have nd : KeysN (mergeD [] [((.inr (wd 18) : Ky), D.str (wd wf)), (.inr (wd 19), .bl sh)]) := (by decide : List.Nodup [(.inr (wd 18) : Ky), .inr (wd 19)])
  generalize mergeD [] [((.inr (wd 18) : Ky), D.str (wd wf)), (.inr (wd 19), .bl sh)] = kv5 at a5 m5 f18 f19 nd
  have few5 : kv5.length ≤ 2 := m5
  clear a1 a2 P1 P2 P3 P4 y4 x1 x2 x3 x4 x5 hsh m5
  walk_at "go"
  refine draw_w P5 (by omega) ?_
  intro kb h6 lkb P6 x6
  have a6 := x6.get1 a5 (by omega)
  have z6 := z5.trans x6
  have e6 := z6.1
  have fl6 := lt_of_at a6
  walk_at "go"
  refine br_wp (fun d h' => ∃ n : Nat, (1 ≤ n ∧ n ≤ 50) ∧ d = .int (n : Int) ∧ Pot h' p ∧ Ext [p] h6 h') (fun _ => ?_) (fun _ => ?_) ?_
  · walk_at "go"
    exact ⟨1, by omega, rfl, P6, Ext.rfl'⟩
  · walk_at "go"
    refine draw_w P6 (by omega) ?_
    intro kc h7 lkc P7 x7
    walk_at "go"
    exact ⟨1 + kc, by omega, by simp, P7, x7⟩
  rintro d h7 ⟨nb, hb, rfl, P7, x7⟩
  have a7 := x7.get1 a6 (by omega)
  have z7 := z6.trans x7
  walk_at "go"
  intro h8 x8 a8 m8
  have z8 := z7.new x8 (by omega)
  have P8 := P7.ext x8 (by simp; omega)
  have fb : valD (putD kv5 (.inr "batch") (.int (nb : Int))) (.inr "batch") = some (.int (nb : Int)) := vnew
  have f18 := vput (k := .inr "batch") (v := .int (nb : Int)) (by decide) f18
  have f19 := vput (k := .inr "batch") (v := .int (nb : Int)) (by decide) f19
  have nd := nd_put (k := .inr "batch") (v := .int (nb : Int)) nd
  generalize putD kv5 (.inr "batch") (.int (nb : Int)) = kv8 at a8 m8 fb f18 f19 nd
  have few8 : kv8.length ≤ 3 := by omega
  clear a5 a6 a7 m8 few5 P5 P6 P7 z5 z6 z7 x6 x7 x8
  walk_at "go"
  refine draw_w P8 (by omega) ?_
  intro kt h9 lkt P9 x9
  have a9 := x9.get1 a8 (by omega)
  have z9 := z8.trans x9
  walk_at "go"
  intro h10 x10 a10 m10
  generalize (decide ((kt : Int) = 0)) = st at a10 m10
  have z10 := z9.new x10 (by omega)
  have P10 := P9.ext x10 (by simp; omega)
  have fs : valD (putD kv8 (.inr "settles") (.bl st)) (.inr "settles") = some (.bl st) := vnew
  have f18 := vput (k := .inr "settles") (v := .bl st) (by decide) f18
  have f19 := vput (k := .inr "settles") (v := .bl st) (by decide) f19
  have fb := vput (k := .inr "settles") (v := .bl st) (by decide) fb
  have nd := nd_put (k := .inr "settles") (v := .bl st) nd
  generalize putD kv8 (.inr "settles") (.bl st) = kv10 at a10 m10 fs f18 f19 fb nd
  have few10 : kv10.length ≤ 4 := by omega
  have e11 := z10.1
  clear a8 a9 x9 x10 m10 few8 z8 z9 P8 P9
  walk_at "go"
  intro l12 h12 k12 x12 a12
  have P12 := P10.ext x12 (by simp)
  have a112 := x12.get0 a10
  have pk := P10.lt
  have fk := lt_of_at a10
  walk_at "go"
  refine wp_comp (fun i => (D.str (wd (([12, 13, 14, 15] : List W).getD i 0)))) 4 (fun i acc h' => ∃ hs : List W, acc = rowD hs ∧ hs.length ≤ i ∧ hs.Sublist (([12, 13, 14, 15] : List W).take i) ∧ Pot h' p ∧ Ext [p] h12 h') (by omega) ⟨[], rfl, Nat.le_refl _, List.Sublist.refl _, P12, Ext.rfl'⟩ ?_ ?_
  · rintro acc h13 ⟨hs, rfl, hl, sb, P13, x13⟩
    have a13 := x13.get1 a12 (by omega)
    refine ⟨src_lst a13, ?_⟩
    intro n14 h14 l14 x14 a14
    have P14 := P13.ext x14 (by simp)
    have z14 : Ext [p] h h14 := ((z10.then0 x12).trans x13).then0 x14
    have f14 := x14.get0 (x13.get1 a112 (by omega))
    have hok := sub_ok hs (by simpa using sb)
    walk_at "go"
    intro h15 x15 a15 m15
    have P15 := P14.ext x15 (by simp; omega)
    have z15 := z14.new x15 (by omega)
    have fh : valD (putD kv10 (.inr "holds") (.tup (rowD hs))) (.inr "holds") = some (.tup (rowD hs)) := vnew
    have f18 := vput (k := .inr "holds") (v := .tup (rowD hs)) (by decide) f18
    have f19 := vput (k := .inr "holds") (v := .tup (rowD hs)) (by decide) f19
    have fb := vput (k := .inr "holds") (v := .tup (rowD hs)) (by decide) fb
    have fs := vput (k := .inr "holds") (v := .tup (rowD hs)) (by decide) fs
    have nd := nd_put (k := .inr "holds") (v := .tup (rowD hs)) nd
    generalize putD kv10 (.inr "holds") (.tup (rowD hs)) = kv15 at a15 m15 fh f18 f19 fb fs nd
    have few15 : kv15.length ≤ 5 := by omega
    clear a10 a12 a112 a13 a14 f14 m15 few10 P10 P12 P13 P14 z10 z14 x12 x13 x14 x15 sb hl
    walk_at "go"
    refine menu_w (by decide) ?_
    intro n16 h16 l16 x16 a16
    have P16 := P15.ext x16 (by simp)
    have a156 := x16.get0 a15
    have fk15 := lt_of_at a15
    have pk15 := P15.lt
    have z16 := z15.then0 x16
    walk_at "go"
    refine wp_bIntB ?_
    walk_at "go"
    intro n17 h17 l17 x17 a17
    have P17 := P16.ext x17 (by simp)
    have a167 := x17.get0 a156
    have z17 := z16.then0 x17
    obtain ⟨u, u0, u6, uu, cu⟩ : ∃ u : Nat, 0 < u ∧ u ≤ 6 ∧ (1 < nb → u = 4) ∧ (4 + 2 * (if decide ((nb : Int) = 1) then 1 else 0) : Int) = u := by
      by_cases c : (nb : Int) = 1
      · exact ⟨6, by omega, by omega, fun _ => by omega, by rw [decide_eq_true c]; rfl⟩
      · exact ⟨4, by omega, by omega, fun _ => rfl, by rw [decide_eq_false c]; rfl⟩
    rw [cut_rows (css := menuN 12) cu u6] at a17
    have n17p : n17 ≠ p := by have := P16.lt; omega
    walk_at "go"
    refine pick_w P17 a17 n17p (by rw [rowsD_len, List.length_take]; have : (menuN 12).length = 6 := rfl; omega) ?_
    intro d h18 md18 P18 x18
    obtain ⟨ct, mt, rfl⟩ := List.mem_map.1 md18
    have okt := menu_ok.1 ct (List.mem_of_mem_take mt)
    have late : 1 < nb → lastIs ct 3 = true := fun z => by rw [uu z] at mt; exact menu_ok.2.1 ct mt
    have a18 := x18.get1 a167 (by omega)
    have z18 := z17.trans x18
    walk_at "go"
    intro h19 x19 a19 m19
    have P19 := P18.ext x19 (by simp; omega)
    have z19 := z18.new x19 (by omega)
    have f12 : valD (putD kv15 (.inr (wd 12)) (.tup (rowD ct))) (.inr (wd 12)) = some (.tup (rowD ct)) := vnew
    have fh := vput (k := .inr (wd 12)) (v := .tup (rowD ct)) (by decide) fh
    have f18 := vput (k := .inr (wd 12)) (v := .tup (rowD ct)) (by decide) f18
    have f19 := vput (k := .inr (wd 12)) (v := .tup (rowD ct)) (by decide) f19
    have fb := vput (k := .inr (wd 12)) (v := .tup (rowD ct)) (by decide) fb
    have fs := vput (k := .inr (wd 12)) (v := .tup (rowD ct)) (by decide) fs
    have nd := nd_put (k := .inr (wd 12)) (v := .tup (rowD ct)) nd
    generalize putD kv15 (.inr (wd 12)) (.tup (rowD ct)) = kv19 at a19 m19 f12 fh f18 f19 fb fs nd
    have few19 : kv19.length ≤ 6 := by omega
    clear a15 a156 a16 a167 a17 a18 m19 few15 P15 P16 P17 P18 z15 z16 z17 z18 x16 x17 x18 x19
    have fk19 := lt_of_at a19
    have pk19 := P19.lt
    walk_at "go"
    refine menu_w (by decide) ?_
    intro n20 h20 l20 x20 a20
    have P20 := P19.ext x20 (by simp)
    have b20 := x20.get0 a19
    have z20 := z19.then0 x20
    have q20 := lt_of_at b20
    have r20 := P20.lt
    have s20 := lt_of_at a20
    walk_at "go"
    refine draw_w P20 (by omega) ?_
    intro kd20 h21 lk20 P21 x21
    have a21 := x21.get1 a20 (by omega)
    have b21 := x21.get1 b20 (by omega)
    have z21 := z20.trans x21
    walk_at "go"
    intro n22 h22 l22 x22 a22
    rw [cut_rows (css := menuN 13) (u := 1 + 5 * kd20) (by omega) (by show _ ≤ 6; omega)] at a22
    have P22 := P21.ext x22 (by simp)
    have b22 := x22.get0 b21
    have z22 := z21.then0 x22
    have n22p : n22 ≠ p := by have := P21.lt; omega
    walk_at "go"
    refine pick_w P22 a22 n22p (by rw [rowsD_len, List.length_take]; have : (menuN 13).length = 6 := rfl; omega) ?_
    intro d h23 md23 P23 x23
    obtain ⟨cg, mcg, rfl⟩ := List.mem_map.1 md23
    have okcg := menu_ok.2.2.1 cg (List.mem_of_mem_take mcg)
    have b23 := x23.get1 b22 (by omega)
    have z23 := z22.trans x23
    walk_at "go"
    intro h24 x24 a24 m24
    have P24 := P23.ext x24 (by simp; omega)
    have z24 := z23.new x24 (by omega)
    have f13 : valD (putD kv19 (.inr (wd 13)) (.tup (rowD cg))) (.inr (wd 13)) = some (.tup (rowD cg)) := vnew
    have fh := vput (k := .inr (wd 13)) (v := .tup (rowD cg)) (by decide) fh
    have f18 := vput (k := .inr (wd 13)) (v := .tup (rowD cg)) (by decide) f18
    have f19 := vput (k := .inr (wd 13)) (v := .tup (rowD cg)) (by decide) f19
    have fb := vput (k := .inr (wd 13)) (v := .tup (rowD cg)) (by decide) fb
    have fs := vput (k := .inr (wd 13)) (v := .tup (rowD cg)) (by decide) fs
    have f12 := vput (k := .inr (wd 13)) (v := .tup (rowD cg)) (by decide) f12
    have nd := nd_put (k := .inr (wd 13)) (v := .tup (rowD cg)) nd
    generalize putD kv19 (.inr (wd 13)) (.tup (rowD cg)) = kv24 at a24 m24 f13 fh f18 f19 fb fs f12 nd
    have few24 : kv24.length ≤ 7 := by omega
    clear a19 a20 b20 a21 b21 a22 b22 b23 m24 few19 P19 P20 P21 P22 P23 z19 z20 z21 z22 z23 x20 x21 x22 x23 x24
    have fk24 := lt_of_at a24
    have pk24 := P24.lt
    walk_at "go"
    refine menu_w (by decide) ?_
    intro n25 h25 l25 x25 a25
    have P25 := P24.ext x25 (by simp)
    have b25 := x25.get0 a24
    have z25 := z24.then0 x25
    have q25 := lt_of_at b25
    have r25 := P25.lt
    have s25 := lt_of_at a25
    walk_at "go"
    refine draw_w P25 (by omega) ?_
    intro kd25 h26 lk25 P26 x26
    have a26 := x26.get1 a25 (by omega)
    have b26 := x26.get1 b25 (by omega)
    have z26 := z25.trans x26
    walk_at "go"
    intro n27 h27 l27 x27 a27
    rw [cut_rows (css := menuN 15) (u := 1 + 5 * kd25) (by omega) (by show _ ≤ 6; omega)] at a27
    have P27 := P26.ext x27 (by simp)
    have b27 := x27.get0 b26
    have z27 := z26.then0 x27
    have n27p : n27 ≠ p := by have := P26.lt; omega
    walk_at "go"
    refine pick_w P27 a27 n27p (by rw [rowsD_len, List.length_take]; have : (menuN 15).length = 6 := rfl; omega) ?_
    intro d h28 md28 P28 x28
    obtain ⟨cl, mcl, rfl⟩ := List.mem_map.1 md28
    have okcl := menu_ok.2.2.2.2.2 cl (List.mem_of_mem_take mcl)
    have b28 := x28.get1 b27 (by omega)
    have z28 := z27.trans x28
    walk_at "go"
    intro h29 x29 a29 m29
    have P29 := P28.ext x29 (by simp; omega)
    have z29 := z28.new x29 (by omega)
    have f15 : valD (putD kv24 (.inr (wd 15)) (.tup (rowD cl))) (.inr (wd 15)) = some (.tup (rowD cl)) := vnew
    have fh := vput (k := .inr (wd 15)) (v := .tup (rowD cl)) (by decide) fh
    have f18 := vput (k := .inr (wd 15)) (v := .tup (rowD cl)) (by decide) f18
    have f19 := vput (k := .inr (wd 15)) (v := .tup (rowD cl)) (by decide) f19
    have fb := vput (k := .inr (wd 15)) (v := .tup (rowD cl)) (by decide) fb
    have fs := vput (k := .inr (wd 15)) (v := .tup (rowD cl)) (by decide) fs
    have f12 := vput (k := .inr (wd 15)) (v := .tup (rowD cl)) (by decide) f12
    have f13 := vput (k := .inr (wd 15)) (v := .tup (rowD cl)) (by decide) f13
    have nd := nd_put (k := .inr (wd 15)) (v := .tup (rowD cl)) nd
    generalize putD kv24 (.inr (wd 15)) (.tup (rowD cl)) = kv29 at a29 m29 f15 fh f18 f19 fb fs f12 f13 nd
    have few29 : kv29.length ≤ 8 := by omega
    clear a24 a25 b25 a26 b26 a27 b27 b28 m29 few24 P24 P25 P26 P27 P28 z24 z25 z26 z27 z28 x25 x26 x27 x28 x29
    have fk29 := lt_of_at a29
    have pk29 := P29.lt
    walk_at "go"
    intro h30 x30 a30 m30
    have P30 := P29.ext x30 (by simp; omega)
    have z30 := z29.new x30 (by omega)
    have f14 : valD (putD kv29 (.inr (wd 14)) (.tup [])) (.inr (wd 14)) = some (.tup []) := vnew
    have fh := vput (k := .inr (wd 14)) (v := .tup []) (by decide) fh
    have f18 := vput (k := .inr (wd 14)) (v := .tup []) (by decide) f18
    have f19 := vput (k := .inr (wd 14)) (v := .tup []) (by decide) f19
    have fb := vput (k := .inr (wd 14)) (v := .tup []) (by decide) fb
    have fs := vput (k := .inr (wd 14)) (v := .tup []) (by decide) fs
    have f12 := vput (k := .inr (wd 14)) (v := .tup []) (by decide) f12
    have f13 := vput (k := .inr (wd 14)) (v := .tup []) (by decide) f13
    have f15 := vput (k := .inr (wd 14)) (v := .tup []) (by decide) f15
    have nd := nd_put (k := .inr (wd 14)) (v := .tup []) nd
    generalize putD kv29 (.inr (wd 14)) (.tup []) = kv30 at a30 m30 f14 fh f18 f19 fb fs f12 f13 f15 nd
    have few30 : kv30.length ≤ 9 := by omega
    clear a29 m30 few29 P29 z29 x30
    have fk30 := lt_of_at a30
    have pk30 := P30.lt
    walk_at "go"
    refine br_d (fun cw => ?_) (fun cw => ?_)
    · clear f14
      walk_at "go"
      refine menu_w (by decide) ?_
      intro n31 h31 l31 x31 a31
      have P31 := P30.ext x31 (by simp)
      have b31 := x31.get0 a30
      have z31 := z30.then0 x31
      walk_at "go"
      refine br_d (fun c2 => ?_) (fun c2 => ?_)
      · walk_at "go"
        refine br_wp (fun d h' => h' = h31 ∧ ∃ u : Nat, d = .int (u : Int) ∧ 0 < u ∧ u ≤ 18 ∧ (sh = false → u = 11)) (fun c => ?_) (fun c => ?_) ?_
        · walk_at "go"
          exact ⟨rfl, 18, rfl, by omega, by omega, fun z => by rw [c] at z; exact nomatch z⟩
        · walk_at "go"
          exact ⟨rfl, 11, rfl, by omega, by omega, fun _ => rfl⟩
        rintro d h32 ⟨rfl, v, rfl, v0, v6, vv⟩
        walk_at "go"
        intro n33 h33 l33 x33 a33
        rw [cut_rows (css := menuN 14) (u := v) (by omega) (by show _ ≤ 18; omega)] at a33
        have P33 := P31.ext x33 (by simp)
        have b33 := x33.get0 b31
        have z33 := z31.then0 x33
        have n33p : n33 ≠ p := by have := P31.lt; omega
        walk_at "go"
        refine pick_w P33 a33 n33p (by rw [rowsD_len, List.length_take]; have : (menuN 14).length = 18 := rfl; omega) ?_
        intro d h34 md34 P34 x34
        obtain ⟨cm, mcm, rfl⟩ := List.mem_map.1 md34
        have okm := menu_ok.2.2.2.1 cm (List.mem_of_mem_take mcm)
        have own : sh = false → cm = [] ∨ headIs cm 4 = true := fun z => by rw [vv z] at mcm; exact .inr (menu_ok.2.2.2.2.1 cm mcm)
        have b34 := x34.get1 b33 (by omega)
        have z34 := z33.trans x34
        walk_at "go"
        intro h35 x35 a35 m35
        have P35 := P34.ext x35 (by simp; omega)
        have z35 := z34.new x35 (by omega)
        have f14 : valD (putD kv30 (.inr (wd 14)) (.tup (rowD cm))) (.inr (wd 14)) = some (.tup (rowD cm)) := vnew
        have fh := vput (k := .inr (wd 14)) (v := .tup (rowD cm)) (by decide) fh
        have f18 := vput (k := .inr (wd 14)) (v := .tup (rowD cm)) (by decide) f18
        have f19 := vput (k := .inr (wd 14)) (v := .tup (rowD cm)) (by decide) f19
        have fb := vput (k := .inr (wd 14)) (v := .tup (rowD cm)) (by decide) fb
        have fs := vput (k := .inr (wd 14)) (v := .tup (rowD cm)) (by decide) fs
        have f12 := vput (k := .inr (wd 14)) (v := .tup (rowD cm)) (by decide) f12
        have f13 := vput (k := .inr (wd 14)) (v := .tup (rowD cm)) (by decide) f13
        have f15 := vput (k := .inr (wd 14)) (v := .tup (rowD cm)) (by decide) f15
        have nd := nd_put (k := .inr (wd 14)) (v := .tup (rowD cm)) nd
        generalize putD kv30 (.inr (wd 14)) (.tup (rowD cm)) = kv35 at a35 m35 f14 fh f18 f19 fb fs f12 f13 f15 nd
        have few35 : kv35.length ≤ 10 := by omega
        walk_at "go"
        exact q f h35 ⟨wf, sh, nb, st, hs, ct, cg, cm, cl⟩ (by omega) ⟨_, a35, ⟨f18, f19, fb, fs, fh, f12, f13, f14, f15, by omega⟩, nd⟩ ⟨mf, hb, hok, okt, late, okcg, okm, own, okcl⟩ P35 z35
      · walk_at "go"
        walk_at "go"
        intro n33 h33 l33 x33 a33
        rw [cut_rows (css := menuN 14) (u := 11) (by omega) (by show _ ≤ 18; omega)] at a33
        have P33 := P31.ext x33 (by simp)
        have b33 := x33.get0 b31
        have z33 := z31.then0 x33
        have n33p : n33 ≠ p := by have := P31.lt; omega
        walk_at "go"
        refine pick_w P33 a33 n33p (by rw [rowsD_len, List.length_take]; have : (menuN 14).length = 18 := rfl; omega) ?_
        intro d h34 md34 P34 x34
        obtain ⟨cm, mcm, rfl⟩ := List.mem_map.1 md34
        have okm := menu_ok.2.2.2.1 cm (List.mem_of_mem_take mcm)
        have own : sh = false → cm = [] ∨ headIs cm 4 = true := fun z => by exact .inr (menu_ok.2.2.2.2.1 cm mcm)
        have b34 := x34.get1 b33 (by omega)
        have z34 := z33.trans x34
        walk_at "go"
        intro h35 x35 a35 m35
        have P35 := P34.ext x35 (by simp; omega)
        have z35 := z34.new x35 (by omega)
        have f14 : valD (putD kv30 (.inr (wd 14)) (.tup (rowD cm))) (.inr (wd 14)) = some (.tup (rowD cm)) := vnew
        have fh := vput (k := .inr (wd 14)) (v := .tup (rowD cm)) (by decide) fh
        have f18 := vput (k := .inr (wd 14)) (v := .tup (rowD cm)) (by decide) f18
        have f19 := vput (k := .inr (wd 14)) (v := .tup (rowD cm)) (by decide) f19
        have fb := vput (k := .inr (wd 14)) (v := .tup (rowD cm)) (by decide) fb
        have fs := vput (k := .inr (wd 14)) (v := .tup (rowD cm)) (by decide) fs
        have f12 := vput (k := .inr (wd 14)) (v := .tup (rowD cm)) (by decide) f12
        have f13 := vput (k := .inr (wd 14)) (v := .tup (rowD cm)) (by decide) f13
        have f15 := vput (k := .inr (wd 14)) (v := .tup (rowD cm)) (by decide) f15
        have nd := nd_put (k := .inr (wd 14)) (v := .tup (rowD cm)) nd
        generalize putD kv30 (.inr (wd 14)) (.tup (rowD cm)) = kv35 at a35 m35 f14 fh f18 f19 fb fs f12 f13 f15 nd
        have few35 : kv35.length ≤ 10 := by omega
        walk_at "go"
        exact q f h35 ⟨wf, sh, nb, st, hs, ct, cg, cm, cl⟩ (by omega) ⟨_, a35, ⟨f18, f19, fb, fs, fh, f12, f13, f14, f15, by omega⟩, nd⟩ ⟨mf, hb, hok, okt, late, okcg, okm, own, okcl⟩ P35 z35
    · walk_at "go"
      exact q f h30 ⟨wf, sh, nb, st, hs, ct, cg, [], cl⟩ (by omega) ⟨_, a30, ⟨f18, f19, fb, fs, fh, f12, f13, f14, f15, by omega⟩, nd⟩ ⟨mf, hb, hok, okt, late, okcg, (by decide : moveP [] = true), fun _ => .inl rfl, okcl⟩ P30 z30
  · rintro i acc h13 li ⟨hs, rfl, hl, sb, P13, x13⟩
    have a13 := x13.get1 a12 (by omega)
    refine ⟨?_, _, rfl, ?_⟩
    · rw [src_lst a13]
      match i, li with
      | 0, _ => rfl
      | 1, _ => rfl
      | 2, _ => rfl
      | 3, _ => rfl
    · walk_at "go"
      refine draw_w P13 (by omega) ?_
      intro kh h14 lkh P14 x14
      have tk : ([12, 13, 14, 15] : List W).take (i + 1) = ([12, 13, 14, 15] : List W).take i ++ [([12, 13, 14, 15] : List W).getD i 0] := by
        match i, li with
        | 0, _ => rfl
        | 1, _ => rfl
        | 2, _ => rfl
        | 3, _ => rfl
      walk_at "go"
      refine br_d (fun c => ?_) (fun c => ?_)
      · walk_at "go"
        refine need (by rw [row_len]; exact lt_line (by omega)) ?_
        exact ⟨hs ++ [([12, 13, 14, 15] : List W).getD i 0], by rw [row_app]; rfl, by simp; omega, by rw [tk]; exact sb.append_right _, P14, x13.trans x14⟩
      · exact ⟨hs, rfl, by omega, by rw [tk]; exact sb.trans (List.sublist_append_left _ _), P14, x13.trans x14⟩
end

/-! ### the program's rows and books -/
theorem cut_takeR {cs : List W} {i : Nat} (l : i ≤ cs.length) : cutD (rowD cs) none (some (0 + (i : Nat) : Int)) = rowD (cs.take i) := by
  unfold cutD
  rw [HT.sIx_none, Int.zero_add, HT.sIx_nat, row_len]
  simp [Nat.min_eq_left l, row_take]
theorem enum_row {cs : List W} : enumD 0 (rowD cs) = (cs.zipIdx).map fun p => .tup [.int (0 + (p.2 : Nat)), .str (wd p.1)] := by
  unfold enumD rowD
  rw [List.zipIdx_map, List.map_map]; rfl
theorem nodup_take {cs : List W} (d : cs.Nodup) {i : Nat} {c : W} (e : cs[i]? = some c) : c ∉ cs.take i := by
  intro m
  obtain ⟨j, l, e'⟩ := List.mem_iff_getElem.1 m
  rw [List.length_take] at l
  rw [List.getElem_take] at e'
  have l2 : j < cs.length := by omega
  obtain ⟨l3, e3⟩ := List.getElem?_eq_some_iff.1 e
  have := (List.nodup_iff_pairwise_ne.1 d)
  rw [List.pairwise_iff_getElem] at this
  exact this j i l2 l3 (by omega) (by rw [e', e3])
theorem nodup_lenW (cs : List W) (d : cs.Nodup) : cs.length ≤ 20 := by
  have d2 : (cs.map fun c => c.val).Nodup := by
    rw [List.nodup_iff_pairwise_ne, List.pairwise_map]
    exact (List.nodup_iff_pairwise_ne.1 d).imp fun ne z => ne (Fin.ext z)
  have := nodup_len (n := 20) d2 (fun s m => by
    obtain ⟨a, _, rfl⟩ := List.mem_map.1 m
    exact a.isLt)
  simpa using this
section
variable {E : EP} {Q : D → LH → Prop} {h : LH}
theorem are_words_w {cs kn : List W} (o : rowOk kn cs = true) (q : ∀ h1, Ext [] h h1 → Q (.bl true) h1) : WP (f_are_words [.tup (rowD cs), .tup (rowD kn)] h) Q E := by
  unfold rowOk at o
  rw [Bool.and_eq_true, decide_eq_true_eq, decide_eq_true_eq] at o
  obtain ⟨hk, hd⟩ := o
  have hl := nodup_lenW cs hd
  unfold f_are_words b_are_words
  walk_at "into"
  walk_at "go"
  refine wp_mapF (fun c => .str (wd c)) cs (fun _ => .bl true) gives_its (by omega) ?_ ?_
  · intro c mc h1 x1
    refine ⟨_, rfl, ?_⟩
    walk_at "go"
    rw [decide_eq_true (hk c mc)]
    exact ⟨rfl, Ext.rfl'⟩
  intro n1 h1 l1 x1 a1
  walk_at "go"
  refine wp_allT a1 ?_
  walk_at "go"
  refine wp_mapF (fun p : W × Nat => .tup [.int (0 + (p.2 : Nat)), .str (wd p.1)]) cs.zipIdx (fun _ => .bl true) (by rw [← enum_row]; exact gives_enm gives_its) (by simp; omega) ?_ ?_
  · rintro ⟨c, i⟩ mc h2 x2
    rw [List.mem_zipIdx_iff_getElem?] at mc
    have il : i < cs.length := (List.getElem?_eq_some_iff.1 mc).1
    refine ⟨_, rfl, ?_⟩
    walk_at "go"
    rw [cut_takeR (by omega)]
    walk_at "go"
    rw [decide_eq_false (nodup_take hd mc)]
    exact ⟨rfl, Ext.rfl'⟩
  intro n2 h2 l2 x2 a2
  walk_at "go"
  refine wp_allT a2 ?_
  exact q h2 (x1.trans x2)
theorem tests_w {cs : List W} {w : W} (q : ∀ h1, Ext [] h h1 → Q (.bl (tests cs w)) h1) : WP (f_are_tests_ahead [.tup (rowD cs), .str (wd w)] h) Q E := by
  unfold f_are_tests_ahead b_are_tests_ahead
  walk_at "into"
  walk_at "go"
  refine br_d (fun c => ?_) (fun c => ?_)
  · walk_at "go"
    refine wp_compF (fun c => .str (wd c)) [0, 2] (fun t => decide (t ∈ cs)) (fun t => .bl (decide (cs.idxOf t < cs.idxOf w))) gives_its (by simp) ?_ ?_
    · intro t mt h1 x1
      refine ⟨_, rfl, ?_⟩
      walk_at "go"
      refine ⟨rfl, Ext.rfl', fun m => ?_⟩
      have m := of_decide_eq_true m
      walk_at "go"
      refine ⟨?_, Ext.rfl'⟩
      congr 1
      rw [Bool.eq_iff_iff, decide_eq_true_eq, decide_eq_true_eq]; omega
    intro n1 h1 l1 x1 a1
    walk_at "go"
    refine wp_bAll (bs := ([0, 2].filter fun t => decide (t ∈ cs)).map fun t => decide (cs.idxOf t < cs.idxOf w)) (by rw [a1, List.map_map]; rfl) ?_
    refine qb (q h1 x1) ?_
    unfold tests
    by_cases m0 : (0 : W) ∈ cs <;> by_cases m2 : (2 : W) ∈ cs <;> simp [m0, m2, c]
  · exact qb (q h Ext.rfl') (by simp [tests, c])
theorem behind_w {cs : List W} {w o : W} (q : Q (.bl (behB cs w o)) h) : WP (f_is_behind [.tup (rowD cs), .str (wd w), .str (wd o)] h) Q E := by
  unfold f_is_behind b_is_behind
  walk_at "into"
  walk_at "br"
  all_goals exact qb q (by simp_all [behB])
theorem ptake_w {cs : List W} (o : takeP cs = true) (q : ∀ h1, Ext [] h h1 → Q (.bl true) h1) : WP (f_is_take [.tup (rowD cs)] h) Q E := by
  unfold takeP at o
  rw [Bool.and_eq_true, Bool.and_eq_true, Bool.and_eq_true] at o
  obtain ⟨o1, o2, o3, o4⟩ := o
  unfold f_is_take b_is_take
  walk_at "into"
  walk_at "go"
  refine are_words_w o1 ?_
  intro h1 x1
  walk_at "go"
  refine br_dt (of_decide_eq_true o2) ?_
  walk_at "go"
  refine tests_w ?_
  intro h2 x2
  rw [o3]
  walk_at "br"
  all_goals exact qb (q h2 (x1.trans x2)) (by simp_all)
theorem pgive_w {cs : List W} (o : giveP cs = true) (q : ∀ h1, Ext [] h h1 → Q (.bl true) h1) : WP (f_is_give [.tup (rowD cs)] h) Q E := by
  unfold giveP at o
  rw [Bool.and_eq_true, Bool.and_eq_true] at o
  obtain ⟨o1, o2, o3⟩ := o
  unfold f_is_give b_is_give
  walk_at "into"
  walk_at "go"
  refine are_words_w o1 ?_
  intro h1 x1
  walk_at "go"
  refine br_dt (of_decide_eq_true o2) ?_
  walk_at "go"
  refine behind_w ?_
  rw [o3]
  exact q h1 x1
theorem pmove_w {cs : List W} (o : moveP cs = true) (q : ∀ h1, Ext [] h h1 → Q (.bl true) h1) : WP (f_is_move [.tup (rowD cs)] h) Q E := by
  unfold moveP at o
  rw [Bool.and_eq_true] at o
  obtain ⟨o1, o⟩ := o
  unfold f_is_move b_is_move
  walk_at "into"
  walk_at "go"
  refine are_words_w o1 ?_
  intro h1 x1
  walk_at "go"
  rw [row_len]
  refine br_d (fun c => ?_) (fun c => ?_)
  · walk_at "go"; exact q h1 x1
  · have ne : ¬ cs = [] := fun z => c (by rw [z]; rfl)
    rw [decide_eq_false ne, Bool.false_or, Bool.and_eq_true, Bool.and_eq_true, Bool.and_eq_true, Bool.and_eq_true] at o
    obtain ⟨m7, m2, p1, p2, p3⟩ := o
    walk_at "go"
    refine br_dt (of_decide_eq_true m7) ?_
    have m2' : (2 : W) ∈ cs → ¬ (0 : W) ∈ cs ∧ ¬ (1 : W) ∈ cs := by
      intro z; simpa [z] using m2
    walk_at "go"
    refine br_d (fun c2 => ?_) (fun c2 => ?_)
    · obtain ⟨n0, n1⟩ := m2' c2
      walk_at "br"
      refine behind_w ?_
      rw [p1]
      walk_at "go"
      refine tests_w ?_
      intro h2 x2
      rw [p2]
      walk_at "go"
      refine tests_w ?_
      intro h3 x3
      rw [p3]
      exact q h3 ((x1.trans x2).trans x3)
    · walk_at "br"
      refine behind_w ?_
      rw [p1]
      walk_at "go"
      refine tests_w ?_
      intro h2 x2
      rw [p2]
      walk_at "go"
      refine tests_w ?_
      intro h3 x3
      rw [p3]
      exact q h3 ((x1.trans x2).trans x3)
end

theorem eqv_rowT {as bs : List W} : PyData.eqv (.tuple (rowP as)) (.tuple (rowP bs)) = decide (as = bs) := by rw [PyData.eqv, eqv_row]
def rowsP (css : List (List W)) : List PyData := css.map fun cs => .tuple (rowP cs)
theorem deep_row {h : LH} {n : Nat} {cs : List W} : deep h (n + 1) (.tup (rowD cs)) = some (.tuple (rowP cs)) := by
  show (mapO (deep h n) (rowD cs)).map _ = _
  rw [mapO_row]; rfl
theorem mapO_rows {h : LH} {n : Nat} : ∀ css : List (List W), mapO (deep h (n + 1)) (rowsD css) = some (rowsP css)
  | [] => rfl
  | cs :: css => mapO_cons (a := .tup (rowD cs)) (b := .tuple (rowP cs)) deep_row (mapO_rows css)
theorem shaped_lifts : SeqAt.shaped (.tuple (rowsP liftsN)) = true := by decide +kernel
section
variable {E : EP} {Q : D → LH → Prop} {h : LH}
theorem wp_inLifts {cs : List W} (q : Q (.bl (decide (cs ∈ liftsN))) h) : WP (oInDp false (.tup (rowD cs)) k_LIFTS h) Q E := by
  have e1 : deep h 60 (.tup (rowD cs)) = some (.tuple (rowP cs)) := deep_row
  have e2 : deep h 60 k_LIFTS = some (.tuple (rowsP liftsN)) := by
    show (mapO (deep h 59) (rowsD liftsN)).map _ = _
    rw [mapO_rows]; rfl
  unfold oInDp
  simp only [e1, e2, itemsP, shaped_row, shaped_lifts, Bool.and_self, if_true]
  refine qb q ?_
  rw [Bool.eq_iff_iff, decide_eq_true_eq]
  simp only [rowsP, List.any_map, Bool.false_eq_true, if_false, List.any_eq_true, Function.comp, eqv_rowT, decide_eq_true_eq, exists_eq_right]
theorem plift_w {cs : List W} (o : liftP cs = true) (q : ∀ h1, Ext [] h h1 → Q (.bl true) h1) : WP (f_is_lift [.tup (rowD cs)] h) Q E := by
  unfold liftP at o
  rw [Bool.and_eq_true] at o
  unfold f_is_lift b_is_lift
  walk_at "into"
  walk_at "go"
  refine are_words_w (kn := [7, 5, 8]) o.1 ?_
  intro h1 x1
  walk_at "go"
  refine wp_inLifts ?_
  rw [o.2]; exact q h1 x1
theorem row_ok_w {k : W} {cs : List W} (o : (k = 12 ∧ takeP cs = true) ∨ (k = 13 ∧ giveP cs = true) ∨ (k = 14 ∧ moveP cs = true) ∨ (k = 15 ∧ liftP cs = true)) (q : ∀ h1, Ext [] h h1 → Q (.bl true) h1) : WP (f_is_row [.str (wd k), .tup (rowD cs)] h) Q E := by
  unfold f_is_row b_is_row
  walk_at "into"
  rcases o with ⟨rfl, o⟩ | ⟨rfl, o⟩ | ⟨rfl, o⟩ | ⟨rfl, o⟩
  · walk_at "go"
    refine br_t (by decide) ?_
    walk_at "go"
    exact ptake_w o q
  · walk_at "go"
    refine br_f (by decide) ?_
    walk_at "go"
    refine br_t (by decide) ?_
    walk_at "go"
    exact pgive_w o q
  · walk_at "go"
    refine br_f (by decide) ?_
    walk_at "go"
    refine br_f (by decide) ?_
    walk_at "go"
    refine br_t (by decide) ?_
    exact wp_eCall (by walk_at "go"; exact pmove_w o q)
  · walk_at "go"
    refine br_f (by decide) ?_
    walk_at "go"
    refine br_f (by decide) ?_
    walk_at "go"
    refine br_f (by decide) ?_
    exact wp_eCall (by walk_at "go"; exact plift_w o q)
theorem want_word_w {x y : D} (q : Q .non h) : WP (f_want_word [x, y, .bl true] h) Q E := by
  unfold f_want_word b_want_word
  walk_at "into"
  walk_at "go"
  exact q
theorem holds_w {cs : List W} (o : rowOk [12, 13, 14, 15] cs = true) (q : ∀ h1, Ext [] h h1 → Q (.tup (rowD (([12, 13, 14, 15] : List W).filter fun c => decide (c ∈ cs)))) h1) : WP (f_holds_in_sequence [.tup (rowD cs)] h) Q E := by
  have words : WP (f_are_holds [.tup (rowD cs)] h) (fun d h1 => d = .bl true ∧ Ext [] h h1) noE := by
    unfold f_are_holds b_are_holds
    walk_at "into"
    walk_at "go"
    refine are_words_w o ?_
    intro h1 x1
    exact ⟨rfl, x1⟩
  unfold f_holds_in_sequence b_holds_in_sequence
  walk_at "into"
  walk_at "go"
  refine wp_use0 words ?_
  rintro d h1 ⟨rfl, x1⟩
  walk_at "go"
  refine wp_compF (fun c => .str (wd c)) [12, 13, 14, 15] (fun c => decide (c ∈ cs)) (fun c => .str (wd c)) gives_its (by simp) ?_ ?_
  · intro c mc h2 x2
    refine ⟨_, rfl, ?_⟩
    walk_at "go"
    refine ⟨rfl, Ext.rfl', fun _ => ?_⟩
    walk_at "go"
    exact ⟨rfl, Ext.rfl'⟩
  intro n2 h2 l2 x2 a2
  walk_at "go"
  exact q h2 (x1.trans x2)
theorem batch_w {k : Nat} (l : 1 ≤ k ∧ k ≤ 50) (q : Q .non h) : WP (f_want_batch [.int (k : Int)] h) Q E := by
  have int : WP (f_is_integer [.int (k : Int)] h) (fun d h1 => d = .bl true ∧ h1 = h) noE := by
    unfold f_is_integer b_is_integer
    walk_at "into"
    walk_at "go"
    exact ⟨rfl, rfl⟩
  unfold f_want_batch b_want_batch
  walk_at "into"
  walk_at "go"
  refine wp_use0 int ?_
  rintro d h1 ⟨rfl, rfl⟩
  walk_at "go"
  exact q
end
/-- a book stands at b -/
structure BookK (h : LH) (b d : Nat) (R : Ru) (hs : List W) (kvs : List (Ky × D)) : Prop where
  ins : h[b]? = some (.ins 1 [(2, .ref d), (3, .str (wd R.fails)), (4, .bl R.shared), (5, .tup (rowD hs)), (6, .int (R.batch : Int)), (7, .bl R.settles)])
  dct : h[d]? = some (.dct kvs)
  take : valD kvs (.inr (wd 12)) = some (.tup (rowD R.take))
  give : valD kvs (.inr (wd 13)) = some (.tup (rowD R.give))
  move : valD kvs (.inr (wd 14)) = some (.tup (rowD R.move))
  lift : valD kvs (.inr (wd 15)) = some (.tup (rowD R.lift))
  vals : kvs.map (·.2) = [.tup (rowD R.take), .tup (rowD R.give), .tup (rowD R.move), .tup (rowD R.lift)]
  hold : hs = ([12, 13, 14, 15] : List W).filter fun c => decide (c ∈ R.holds)
def BookAt (h : LH) (b : Nat) (R : Ru) : Prop := ∃ d hs kvs, BookK h b d R hs kvs
theorem BookAt.ext {h h1 : LH} {b : Nat} {R : Ru} (B : BookAt h b R) (x : Ext [] h h1) : BookAt h1 b R := by
  obtain ⟨d, hs, kvs, K⟩ := B
  exact ⟨d, hs, kvs, x.get0 K.ins, x.get0 K.dct, K.take, K.give, K.move, K.lift, K.vals, K.hold⟩
theorem BookAt.extP {h h1 : LH} {b p : Nat} {R : Ru} (B : BookAt h b R) (P : Pot h p) (x : Ext [p] h h1) : BookAt h1 b R := by
  obtain ⟨d, hs, kvs, K⟩ := B
  obtain ⟨i, j, e, _⟩ := P
  have n1 : b ≠ p := fun z => by subst z; rw [K.ins] at e; exact nomatch e
  have n2 : d ≠ p := fun z => by subst z; rw [K.dct] at e; exact nomatch e
  exact ⟨d, hs, kvs, x.get1 K.ins n1, x.get1 K.dct n2, K.take, K.give, K.move, K.lift, K.vals, K.hold⟩
theorem RulesAt.extP {h h1 : LH} {n p : Nat} {R : Ru} (A : RulesAt h n R) (P : Pot h p) (x : Ext [p] h h1) : RulesAt h1 n R := by
  refine A.ext x ?_
  obtain ⟨kvs, e, _⟩ := A
  obtain ⟨i, j, e2, _⟩ := P
  intro z
  simp at z
  subst z; rw [e] at e2; exact nomatch e2
section
variable {E : EP} {Q : D → LH → Prop} {h : LH}
theorem binit_w {b : Nat} {R : Ru} (K : Ok R) (e : h[b]? = some (.ins 1 [])) (q : ∀ h1, Ext [b] h h1 → BookAt h1 b R → Q .non h1) :
    WP (f_Book___init__ [.ref b, .tup (rowD R.take), .tup (rowD R.give), .tup (rowD R.move), .tup (rowD R.lift), .str (wd R.fails), .bl R.shared, .tup (rowD R.holds), .int (R.batch : Int), .bl R.settles] h) Q E := by
  have bl := lt_of_at e
  obtain ⟨wf, sh, nb, st, hs, ct, cg, cm, cl⟩ := R
  obtain ⟨k1, k2, k3, k4, k5, k6, k7, k8, k9⟩ := K
  simp only at k1 k2 k3 k4 k5 k6 k7 k8 k9 q ⊢
  unfold f_Book___init__ b_Book___init__
  walk_at "into"
  walk_at "go"
  intro d h1 l1 x1 a1
  have e1 := x1.get0 e
  walk_at "go"
  refine ⟨a1, ?_⟩
  intro h2 x2 a2 _
  have e2 := x2.get1 e1 (by omega)
  have y2 : Ext [b] h h2 := (x1.w0).new x2 l1
  generalize hkv : mergeD [] [(Sum.inr (wd 12), D.tup (rowD ct)), (Sum.inr (wd 13), D.tup (rowD cg)), (Sum.inr (wd 14), D.tup (rowD cm)), (Sum.inr (wd 15), D.tup (rowD cl))] = kvs at a2
  have f1 : valD kvs (.inr (wd 12)) = some (.tup (rowD ct)) := by subst hkv; rfl
  have f2 : valD kvs (.inr (wd 13)) = some (.tup (rowD cg)) := by subst hkv; rfl
  have f3 : valD kvs (.inr (wd 14)) = some (.tup (rowD cm)) := by subst hkv; rfl
  have f4 : valD kvs (.inr (wd 15)) = some (.tup (rowD cl)) := by subst hkv; rfl
  have f5 : kvs.map (·.2) = [.tup (rowD ct), .tup (rowD cg), .tup (rowD cm), .tup (rowD cl)] := by subst hkv; rfl
  clear hkv
  have db : d ≠ b := by omega
  walk_at "go"
  intro h3 x3 e3
  replace e3 : h3[b]? = some (.ins 1 [(2, .ref d)]) := e3
  have a3 := x3.get1 a2 db
  have y3 := y2.trans x3
  clear e e1 a1 e2 a2 x1 x2 x3
  walk_at "go"
  refine wf_forL [.str (wd 12), .str (wd 13), .str (wd 14), .str (wd 15)] (by simp) (fun i r h' => ∃ c, r = [some (.ref b), some (.tup (rowD ct)), some (.tup (rowD cg)), some (.tup (rowD cm)), some (.tup (rowD cl)), some (.str (wd wf)), some (.bl sh), some (.tup (rowD hs)), some (.int (nb : Int)), some (.bl st), c] ∧ Ext [] h3 h') (fun i r h' z => rfl) ⟨_, rfl, Ext.rfl'⟩ ?_ ?_
  · rintro r h4 ⟨c, rfl, x4⟩
    have e4 := x4.get0 e3
    have a4 := x4.get0 a3
    have y4 := y3.then0 x4
    clear e3 a3 x4 y3
    have mf : wf ∈ ([9, 10, 11] : List W) := k1
    walk_at "go"
    rw [decide_eq_true mf]
    refine want_word_w ?_
    walk_at "go"
    refine want_word_w ?_
    walk_at "go"
    intro h5 x5 e5
    replace e5 : h5[b]? = some (.ins 1 [(2, .ref d), (3, .str (wd wf))]) := e5
    have a5 := x5.get1 a4 db
    have y5 := y4.trans x5
    clear e4 a4 x5 y4
    walk_at "go"
    intro h6 x6 e6
    replace e6 : h6[b]? = some (.ins 1 [(2, .ref d), (3, .str (wd wf)), (4, .bl sh)]) := e6
    have a6 := x6.get1 a5 db
    have y6 := y5.trans x6
    clear e5 a5 x6 y5
    walk_at "go"
    refine holds_w k3 ?_
    intro h7 x7
    have e7 := x7.get0 e6
    have a7 := x7.get0 a6
    have y7 := y6.then0 x7
    clear e6 a6 x7 y6
    walk_at "go"
    intro h8 x8 e8
    replace e8 : h8[b]? = some (.ins 1 [(2, .ref d), (3, .str (wd wf)), (4, .bl sh), (5, .tup (rowD (([12, 13, 14, 15] : List W).filter fun c => decide (c ∈ hs))))]) := e8
    have a8 := x8.get1 a7 db
    have y8 := y7.trans x8
    clear e7 a7 x8 y7
    walk_at "go"
    refine batch_w k2 ?_
    walk_at "go"
    refine want_word_w ?_
    walk_at "go"
    intro h9 x9 e9
    replace e9 : h9[b]? = some (.ins 1 [(2, .ref d), (3, .str (wd wf)), (4, .bl sh), (5, .tup (rowD (([12, 13, 14, 15] : List W).filter fun c => decide (c ∈ hs)))), (6, .int (nb : Int))]) := e9
    have a9 := x9.get1 a8 db
    have y9 := y8.trans x9
    clear e8 a8 x9 y8
    walk_at "go"
    intro h10 x10 e10
    replace e10 : h10[b]? = some (.ins 1 [(2, .ref d), (3, .str (wd wf)), (4, .bl sh), (5, .tup (rowD (([12, 13, 14, 15] : List W).filter fun c => decide (c ∈ hs)))), (6, .int (nb : Int)), (7, .bl st)]) := e10
    have a10 := x10.get1 a9 db
    have y10 := y9.trans x10
    clear e9 a9 x10 y9
    have fin : Q .non h10 := q h10 y10 ⟨d, _, kvs, e10, a10, f1, f2, f3, f4, f5, rfl⟩
    have m3 := take_live k4
    walk_at "go"
    have hd : ∀ t, cm.head? = some t → sh = false → ¬ cm = [] → t = 4 := by
      intro t et z c2
      rcases k8 z with z | z
      · exact absurd z c2
      · simpa [headIs, et] using z
    refine br_d (fun c1 => ?_) (fun c1 => ?_)
    · have k5 := k5 (by omega)
      walk_at "go"
      intro t et
      have : t = 3 := by simpa [lastIs, et] using k5
      subst this
      cases sh <;> walk_at "br"
      all_goals first | exact fin | contradiction | exact absurd (hd _ ‹cm.head? = some _› rfl ‹¬ cm = []›) ‹_›
    · cases sh <;> walk_at "br"
      all_goals first | exact fin | contradiction | exact absurd (hd _ ‹cm.head? = some _› rfl ‹¬ cm = []›) ‹_›
  · rintro i dd r h4 ed ⟨c, rfl, x4⟩
    have e4 := x4.get0 e3
    have a4 := x4.get0 a3
    match i, ed with
    | 0, ed =>
      cases ed
      walk_at "go"
      refine row_ok_w (.inl ⟨rfl, k4⟩) ?_
      intro h5 x5
      walk_at "go"
      exact ⟨_, rfl, x4.trans x5⟩
    | 1, ed =>
      cases ed
      walk_at "go"
      refine row_ok_w (.inr (.inl ⟨rfl, k6⟩)) ?_
      intro h5 x5
      walk_at "go"
      exact ⟨_, rfl, x4.trans x5⟩
    | 2, ed =>
      cases ed
      walk_at "go"
      refine row_ok_w (.inr (.inr (.inl ⟨rfl, k7⟩))) ?_
      intro h5 x5
      walk_at "go"
      exact ⟨_, rfl, x4.trans x5⟩
    | 3, ed =>
      cases ed
      walk_at "go"
      refine row_ok_w (.inr (.inr (.inr ⟨rfl, k9⟩))) ?_
      intro h5 x5
      walk_at "go"
      exact ⟨_, rfl, x4.trans x5⟩
    | i + 4, ed => simp at ed
theorem law_book_w {n : Nat} {R : Ru} (A : RulesAt h n R) (K : Ok R) (q : ∀ b h1, h.length ≤ b → Ext [] h h1 → BookAt h1 b R → Q (.ref b) h1) : WP (f__law_book [.ref n] h) Q E := by
  obtain ⟨kvs, e, RK⟩ := A
  have r1 := RK.take
  have r2 := RK.give
  have r3 := RK.move
  have r4 := RK.lift
  have r5 := RK.fails
  have r6 := RK.shared
  have r7 := RK.holds
  have r8 := RK.batch
  have r9 := RK.settles
  unfold f__law_book b__law_book
  walk_at "into"
  walk_at "go"
  refine wp_opM ⟨rfl, rfl⟩ ?_
  intro b h1 l1 x1 a1
  refine binit_w K a1 ?_
  intro h2 x2 B
  exact nonat (q b h2 l1 (x1.new x2 l1) B)
end

/-! plans of takes and gives -/
def dueW (way : List Nat) (c : W) : List D := if c ∈ ([0, 1, 2, 5] : List W) then way.map fun (g : Nat) => D.tup [.str (wd c), .int (g : Int)] else [.tup [.str (wd c), .non]]
def dueP (cs : List W) (way : List Nat) : List D := cs.flatMap (dueW way)
theorem due_len {cs : List W} {way : List Nat} : (dueP cs way).length ≤ cs.length * (way.length + 1) := by
  induction cs with
  | nil => simp [dueP]
  | cons c cs ih =>
    have e : dueP (c :: cs) way = dueW way c ++ dueP cs way := rfl
    have l : (dueW way c).length ≤ way.length + 1 := by unfold dueW; split <;> simp
    rw [e, List.length_append, List.length_cons, Nat.succ_mul]; omega
theorem due_snoc {cs : List W} {way : List Nat} {i : Nat} {c : W} (e : cs[i]? = some c) : dueP (cs.take (i + 1)) way = dueP (cs.take i) way ++ dueW way c := by
  rw [List.take_add_one, e]
  simp [dueP]
section
variable {E : EP} {Q : D → LH → Prop} {h : LH}
theorem want_kind_w {k : W} (m : k ∈ ([12, 13, 14, 15] : List W)) (q : Q .non h) : WP (f_want_kind [.str (wd k)] h) Q E := by
  unfold f_want_kind b_want_kind
  walk_at "into"
  walk_at "go"
  exact q
theorem brow_w {b n : Nat} {fs : List (Nat × D)} {kvs : List (Ky × D)} {k : W} {d : D} (m : k ∈ ([12, 13, 14, 15] : List W)) (e : h[b]? = some (.ins 1 fs)) (g : getA 2 fs = some (.ref n)) (a : h[n]? = some (.dct kvs)) (v : valD kvs (.inr (wd k)) = some d) (q : Q d h) : WP (f_Book_row [.ref b, .str (wd k)] h) Q E := by
  unfold f_Book_row b_Book_row
  walk_at "into"
  walk_at "go"
  refine want_kind_w m ?_
  walk_at "go"
  refine fdat e g ?_
  walk_at "go"
  exact q
theorem along_w {w : Nat} {c : W} {way : List Nat} (a : h[w]? = some (.lst (iD way))) (l : way.length ≤ 10000) (q : ∀ n h1, h.length ≤ n → Ext [] h h1 → h1[n]? = some (.lst (way.map fun (g : Nat) => D.tup [.str (wd c), .int (g : Int)])) → Q (.ref n) h1) : WP (f_along [.str (wd c), .ref w] h) Q E := by
  unfold f_along b_along
  walk_at "into"
  walk_at "go"
  refine wp_mapF (fun g : Nat => .int (g : Int)) way (fun (g : Nat) => D.tup [.str (wd c), .int (g : Int)]) (gives_lst a) (by omega) ?_ ?_
  · intro g mg h1 x1
    refine ⟨_, rfl, ?_⟩
    walk_at "go"
    exact ⟨rfl, Ext.rfl'⟩
  intro n h1 l1 x1 a1
  exact q n h1 l1 x1 a1
theorem take_plan_w {b t g : Nat} {R : Ru} {ks ss : List Nat} (B : BookAt h b R) (K : Ok R) (T : TreeAt h t ks ss) (U : Ups ks 199) (lg : g ≤ ks.length) (q : ∀ n h1, h.length ≤ n → Ext [] h h1 → h1[n]? = some (.lst (dueP R.take (wayN ks g))) → Q (.ref n) h1) : WP (f_take_plan [.ref b, .ref t, .int (g : Int)] h) Q E := by
  obtain ⟨d, hs, kvs, B⟩ := B
  have ul := U.len
  have wl := way_len U g lg
  have o := K.take
  unfold takeP at o
  rw [Bool.and_eq_true] at o
  have o := o.1
  unfold rowOk at o
  rw [Bool.and_eq_true, decide_eq_true_eq, decide_eq_true_eq] at o
  obtain ⟨o1, o2⟩ := o
  have cl := nodup_lenW R.take o2
  unfold f_take_plan b_take_plan
  walk_at "into"
  walk_at "go"
  refine way_w T U lg ?_
  intro w h1 l1 x1 a1
  walk_at "go"
  intro n h2 l2 x2 a2
  have aw := x2.get0 a1
  have y2 := x1.trans x2
  have e2 := y2.get0 B.ins
  have d2 := y2.get0 B.dct
  have wn : w ≠ n := by have := lt_of_at a1; omega
  walk_at "go"
  refine brow_w (by decide) e2 rfl d2 B.take ?_
  walk_at "go"
  refine wf_forL (rowD R.take) (by rw [row_len]; omega) (fun i r h' => ∃ c3, r = [some (.ref b), some (.ref t), some (.int (g : Int)), c3, some (.ref w), some (.ref n)] ∧ Ext [n] h2 h' ∧ h'[n]? = some (.lst (dueP (R.take.take i) (wayN ks g)))) ?_ ⟨_, rfl, Ext.rfl', a2⟩ ?_ ?_
  · rintro i r h' ⟨c3, rfl, x', a'⟩
    rfl
  · rintro r h' ⟨c3, rfl, x', a'⟩
    walk_at "go"
    rw [row_len, List.take_length] at a'
    exact q n h' (by have := x1.1; omega) (y2.new x' (by have := x1.1; omega)) a'
  · rintro i dd r h' ed ⟨c3, rfl, x', a'⟩
    rw [row_at] at ed
    obtain ⟨c, ec, rfl⟩ := Option.map_eq_some_iff.1 ed
    have mc := o1 c (List.mem_of_getElem? ec)
    have aw' := x'.get1 aw wn
    have dl := due_len (cs := R.take.take i) (way := wayN ks g)
    have tl : (R.take.take i).length ≤ 20 := by rw [List.length_take]; omega
    have ds := due_snoc (way := wayN ks g) ec
    have lw : (wayN ks g).length ≤ 200 := by omega
    have dl2 : (dueP (R.take.take i) (wayN ks g)).length ≤ 20 * 201 := Nat.le_trans dl (Nat.mul_le_mul tl (by omega))
    walk_at "go"
    refine br_d (fun z => ?_) (fun z => ?_)
    · subst z
      walk_at "go"
      intro l3 h3 k3 x3 a3
      have a3' := x3.get0 a'
      walk_at "go"
      refine wp_extend a3' a3 (by simp; unfold sizeLine; omega) ?_
      intro h4 x4 a4
      walk_at "go"
      exact ⟨_, rfl, (x'.then0 x3).trans x4, by rw [a4, ds]; rfl⟩
    · walk_at "go"
      refine along_w aw' (by omega) ?_
      intro l3 h3 k3 x3 a3
      have a3' := x3.get0 a'
      walk_at "go"
      refine wp_extend a3' a3 (by simp; unfold sizeLine; omega) ?_
      intro h4 x4 a4
      walk_at "go"
      have e : c ∈ ([0, 1, 2, 5] : List W) := by
        simp only [List.mem_cons, List.not_mem_nil, or_false] at mc ⊢
        rcases mc with rfl | rfl | rfl | rfl
        · simp
        · simp
        · simp
        · exact absurd rfl z
      exact ⟨_, rfl, (x'.then0 x3).trans x4, by rw [a4, ds, dueW, if_pos e]⟩
theorem give_plan_w {b t g : Nat} {R : Ru} {ks ss : List Nat} (B : BookAt h b R) (K : Ok R) (T : TreeAt h t ks ss) (U : Ups ks 199) (lg : g ≤ ks.length) (q : ∀ n h1, h.length ≤ n → Ext [] h h1 → h1[n]? = some (.lst (dueP R.give (wayN ks g))) → Q (.ref n) h1) : WP (f_give_plan [.ref b, .ref t, .int (g : Int)] h) Q E := by
  obtain ⟨d, hs, kvs, B⟩ := B
  have ul := U.len
  have wl := way_len U g lg
  have o := K.give
  unfold giveP at o
  rw [Bool.and_eq_true] at o
  have o := o.1
  unfold rowOk at o
  rw [Bool.and_eq_true, decide_eq_true_eq, decide_eq_true_eq] at o
  obtain ⟨o1, o2⟩ := o
  have cl := nodup_lenW R.give o2
  unfold f_give_plan b_give_plan
  walk_at "into"
  walk_at "go"
  refine way_w T U lg ?_
  intro w h1 l1 x1 a1
  walk_at "go"
  intro n h2 l2 x2 a2
  have aw := x2.get0 a1
  have y2 := x1.trans x2
  have e2 := y2.get0 B.ins
  have d2 := y2.get0 B.dct
  have wn : w ≠ n := by have := lt_of_at a1; omega
  walk_at "go"
  refine brow_w (by decide) e2 rfl d2 B.give ?_
  walk_at "go"
  refine wf_forL (rowD R.give) (by rw [row_len]; omega) (fun i r h' => ∃ c3, r = [some (.ref b), some (.ref t), some (.int (g : Int)), c3, some (.ref w), some (.ref n)] ∧ Ext [n] h2 h' ∧ h'[n]? = some (.lst (dueP (R.give.take i) (wayN ks g)))) ?_ ⟨_, rfl, Ext.rfl', a2⟩ ?_ ?_
  · rintro i r h' ⟨c3, rfl, x', a'⟩
    rfl
  · rintro r h' ⟨c3, rfl, x', a'⟩
    walk_at "go"
    rw [row_len, List.take_length] at a'
    exact q n h' (by have := x1.1; omega) (y2.new x' (by have := x1.1; omega)) a'
  · rintro i dd r h' ed ⟨c3, rfl, x', a'⟩
    rw [row_at] at ed
    obtain ⟨c, ec, rfl⟩ := Option.map_eq_some_iff.1 ed
    have mc := o1 c (List.mem_of_getElem? ec)
    have aw' := x'.get1 aw wn
    have dl := due_len (cs := R.give.take i) (way := wayN ks g)
    have tl : (R.give.take i).length ≤ 20 := by rw [List.length_take]; omega
    have ds := due_snoc (way := wayN ks g) ec
    have lw : (wayN ks g).length ≤ 200 := by omega
    have dl2 : (dueP (R.give.take i) (wayN ks g)).length ≤ 20 * 201 := Nat.le_trans dl (Nat.mul_le_mul tl (by omega))
    walk_at "go"
    refine br_d (fun z => ?_) (fun z => ?_)
    · subst z
      walk_at "go"
      refine along_w aw' (by omega) ?_
      intro l3 h3 k3 x3 a3
      have a3' := x3.get0 a'
      walk_at "go"
      refine wp_extend a3' a3 (by simp; unfold sizeLine; omega) ?_
      intro h4 x4 a4
      walk_at "go"
      exact ⟨_, rfl, (x'.then0 x3).trans x4, by rw [a4, ds]; rfl⟩
    · walk_at "go"
      intro l3 h3 k3 x3 a3
      have a3' := x3.get0 a'
      walk_at "go"
      refine wp_extend a3' a3 (by simp; unfold sizeLine; omega) ?_
      intro h4 x4 a4
      walk_at "go"
      have e : ¬ c ∈ ([0, 1, 2, 5] : List W) := by
        simp only [List.mem_cons, List.not_mem_nil, or_false] at mc ⊢
        rcases mc with rfl | rfl | rfl
        · decide
        · exact absurd rfl z
        · decide
      exact ⟨_, rfl, (x'.then0 x3).trans x4, by rw [a4, ds, dueW, if_neg e]⟩
end

section
variable {E : EP} {Q : D → LH → Prop} {h : LH}
theorem parent_w {t g : Nat} {ks ss : List Nat} (T : TreeAt h t ks ss) (l : ks.length < 1000) (lg : g ≤ ks.length) (q : Q (upD ks g) h) : WP (f_Tree_parent [.ref t, .int (g : Int)] h) Q E := by
  unfold f_Tree_parent b_Tree_parent
  walk_at "into"
  walk_at "go"
  refine want_group_w T l lg ?_
  walk_at "go"
  refine br_d (fun c => ?_) (fun c => ?_)
  · walk_at "go"
    have : g = 0 := by omega
    subst this
    exact q
  · walk_at "go"
    obtain ⟨j, rfl⟩ : ∃ j, g = j + 1 := ⟨g - 1, by omega⟩
    have e : ks[j]? = some (ks[j]'(by omega)) := List.getElem?_eq_getElem (by omega)
    have cj : ((j + 1 : Nat) : Int) - 1 = (j : Nat) := by omega
    rw [cj]
    rw [upD_s e] at q
    exact wp_ixN rfl (by rw [iD_at, e]; rfl) q
end

/-! plans of lifts -/
def liftE (g : Nat) (c : W) : D := .tup [.str (wd c), if c = 7 then .non else .int (g : Int)]
def liftL (cs : List W) (g : Nat) : List D := cs.map (liftE g)
theorem lift_words : ∀ cs ∈ liftsN, ∀ c ∈ cs, c ∈ ([7, 5, 8] : List W) := by decide
section
variable {E : EP} {Q : D → LH → Prop} {h : LH}
/-- the plan of a lift -/
theorem lift_plan_w {b t g : Nat} {R : Ru} {ks ss : List Nat} (B : BookAt h b R) (K : Ok R) (T : TreeAt h t ks ss) (l : ks.length < 1000) (lg : g ≤ ks.length) (g0 : g ≠ 0) (q : ∀ n h1, h.length ≤ n → Ext [] h h1 → h1[n]? = some (.lst (liftL R.lift g)) → Q (.ref n) h1) : WP (f_lift_plan [.ref b, .ref t, .int (g : Int)] h) Q E := by
  obtain ⟨d, hs, kvs, B⟩ := B
  have o := K.lift
  unfold liftP at o
  rw [Bool.and_eq_true, decide_eq_true_eq] at o
  have lw := lift_words R.lift o.2
  have eb := B.ins
  unfold f_lift_plan b_lift_plan
  walk_at "into"
  walk_at "go"
  refine parent_w T l lg ?_
  obtain ⟨j, rfl⟩ : ∃ j, g = j + 1 := ⟨g - 1, by omega⟩
  have e : ks[j]? = some (ks[j]'(by omega)) := List.getElem?_eq_getElem (by omega)
  rw [upD_s e]
  walk_at "go"
  refine brow_w (k := 15) (by simp) eb rfl B.dct B.lift ?_
  walk_at "go"
  refine wp_mapF (fun c : W => .str (wd c)) R.lift (liftE (j + 1)) gives_its (by have := nodup_lenW R.lift (of_decide_eq_true ((Bool.and_eq_true _ _).mp o.1).2); omega) ?_ ?_
  · intro c mc h1 x1
    refine ⟨_, rfl, ?_⟩
    walk_at "go"
    refine wp_inW (cs := [5, 8]) ?_
    have mc' := lw c mc
    walk_at "go"
    refine br_d (fun m => ?_) (fun m => ?_)
    · walk_at "go"
      refine ⟨?_, Ext.rfl'⟩
      unfold liftE
      rw [if_neg (fun z => by subst z; simp at m)]
    · walk_at "go"
      refine ⟨?_, Ext.rfl'⟩
      unfold liftE
      rw [if_pos (by simp only [List.mem_cons, List.not_mem_nil, or_false] at mc' m; rcases mc' with z | z | z; exact z; exact absurd (.inl z) m; exact absurd (.inr z) m)]
  intro n h1 l1 x1 a1
  exact q n h1 l1 x1 a1
theorem lift_top_w {b t : Nat} {R : Ru} {ks ss : List Nat} (B : BookAt h b R) (T : TreeAt h t ks ss) (l : ks.length < 1000) (q : E 2 [] h) : WP (f_lift_plan [.ref b, .ref t, .int ((0 : Nat) : Int)] h) Q E := by
  obtain ⟨d, hs, kvs, B⟩ := B
  unfold f_lift_plan b_lift_plan
  walk_at "into"
  walk_at "go"
  refine parent_w T l (Nat.zero_le _) ?_
  walk_at "go"
  exact q
end

def offL (way : List Nat) : List D := way.map fun (g : Nat) => D.tup [.str (wd 5), .int (g : Int)]
section
variable {E : EP} {Q : D → LH → Prop} {h : LH}
theorem settle_plan_w {t g : Nat} {ks ss : List Nat} (T : TreeAt h t ks ss) (U : Ups ks 199) (lg : g ≤ ks.length) (q : ∀ n h1, h.length ≤ n → Ext [] h h1 → h1[n]? = some (.lst (offL (wayN ks g))) → Q (.ref n) h1) : WP (f_settle_plan [.ref t, .int (g : Int)] h) Q E := by
  have ul := U.len
  have wl := way_len U g lg
  unfold f_settle_plan b_settle_plan
  walk_at "into"
  walk_at "go"
  refine way_w T U lg ?_
  intro w h1 l1 x1 a1
  walk_at "go"
  refine along_w a1 (by omega) ?_
  intro n h2 l2 x2 a2
  exact q n h2 (Nat.le_trans x1.1 l2) (x1.trans x2) a2
end

theorem move_rows {cs : List W} (o : moveP cs = true) : cs.length ≤ 20 ∧ ∀ c ∈ cs, c ∈ ([4, 0, 1, 2, 7, 5] : List W) := by
  unfold moveP at o
  rw [Bool.and_eq_true] at o
  have o := o.1
  unfold rowOk at o
  rw [Bool.and_eq_true, decide_eq_true_eq, decide_eq_true_eq] at o
  exact ⟨nodup_lenW cs o.2, o.1⟩
theorem ap_len {ks : List Nat} {g s : Nat} (U : Ups ks 199) (l : g ≤ ks.length) : (apN ks g s).length ≤ 200 := by
  have := way_len U g l
  have := U.len
  unfold apN
  exact Nat.le_trans (List.length_filter_le _ _) (by omega)
section
variable {E : EP} {Q : D → LH → Prop} {h : LH}
theorem shared_w {b : Nat} {R : Ru} (B : BookAt h b R) (q : Q (.bl R.shared) h) : WP (f_Book_shared [.ref b] h) Q E := by
  obtain ⟨d, hs, kvs, B⟩ := B
  have e := B.ins
  unfold f_Book_shared b_Book_shared
  walk_at "into"
  walk_at "go"
  exact q
theorem move_ways_w {b t g s : Nat} {R : Ru} {ks ss : List Nat} (B : BookAt h b R) (T : TreeAt h t ks ss) (U : Ups ks 199) (lg : g ≤ ks.length) (ls : s ≤ ks.length)
    (q : ∀ n m xs ys h1, h.length ≤ n → h.length ≤ m → Ext [] h h1 → h1[n]? = some (.lst (iD xs)) → h1[m]? = some (.lst (iD ys)) → xs.length ≤ 200 → ys.length ≤ 200 → Q (.tup [.ref n, .ref m]) h1) : WP (f_move_ways [.ref b, .ref t, .int (g : Int), .int (s : Int)] h) Q E := by
  have ul := U.len
  have l1 := way_len U g lg
  have l2 := way_len U s ls
  have B0 := B
  obtain ⟨d, hs, kvs, B⟩ := B
  have e := B.ins
  unfold f_move_ways b_move_ways
  walk_at "into"
  walk_at "go"
  refine shared_w B0 ?_
  walk_at "go"
  refine br_s (fun z => ?_) (fun z => ?_)
  · walk_at "go"
    refine way_w T U lg ?_
    intro n h1 k1 x1 a1
    walk_at "go"
    refine way_w (x1.get0 T) U ls ?_
    intro m h2 k2 x2 a2
    walk_at "go"
    have := x1.1
    exact q n m _ _ h2 k1 (by omega) (x1.trans x2) (x2.get0 a1) a2 (by omega) (by omega)
  · walk_at "go"
    refine apart_w T U lg ls ?_
    intro n h1 k1 x1 a1
    walk_at "go"
    refine apart_w (x1.get0 T) U ls lg ?_
    intro m h2 k2 x2 a2
    walk_at "go"
    have := x1.1
    exact q n m _ _ h2 k1 (by omega) (x1.trans x2) (x2.get0 a1) a2 (ap_len U lg) (ap_len U ls)
theorem move_plan_w {b t g s : Nat} {R : Ru} {ks ss : List Nat} (B : BookAt h b R) (K : Ok R) (T : TreeAt h t ks ss) (U : Ups ks 199) (lg : g ≤ ks.length) (ls : s ≤ ks.length)
    (q : ∀ n xs h1, h.length ≤ n → Ext [] h h1 → h1[n]? = some (.lst xs) → Q (.ref n) h1) : WP (f_move_plan [.ref b, .ref t, .int (g : Int), .int (s : Int)] h) Q E := by
  obtain ⟨rl, rw_⟩ := move_rows K.move
  unfold f_move_plan b_move_plan
  walk_at "into"
  walk_at "go"
  refine move_ways_w B T U lg ls ?_
  intro w1 w2 xs ys h1 k1 k2 x1 a1 a2 lx ly
  walk_at "go"
  intro n h2 l2 x2 a3
  have b1 := x2.get0 a1
  have b2 := x2.get0 a2
  have y2 := x1.trans x2
  obtain ⟨d, hs, kvs, B⟩ := B
  have e2 := y2.get0 B.ins
  have d2 := y2.get0 B.dct
  have n1 : w1 ≠ n := by have := lt_of_at a1; omega
  have n2 : w2 ≠ n := by have := lt_of_at a2; omega
  walk_at "go"
  refine brow_w (by decide) e2 rfl d2 B.move ?_
  walk_at "go"
  refine wf_forL (rowD R.move) (by rw [row_len]; omega) (fun i r h' => ∃ c5 zs, r = [some (.ref b), some (.ref t), some (.int (g : Int)), some (.int (s : Int)), some (.ref n), c5, some (.ref w1), some (.ref w2)] ∧ Ext [n] h2 h' ∧ h'[n]? = some (.lst zs) ∧ zs.length ≤ i * 201) ?_ ⟨_, _, rfl, Ext.rfl', a3, by simp⟩ ?_ ?_
  · rintro i r h' ⟨c5, zs, rfl, x', a', l'⟩
    rfl
  · rintro r h' ⟨c5, zs, rfl, x', a', l'⟩
    walk_at "go"
    have := x1.1
    exact q n zs h' (by omega) (y2.new x' (by omega)) a'
  · rintro i dd r h' ed ⟨c5, zs, rfl, x', a', l'⟩
    have il : i < R.move.length := by have := (List.getElem?_eq_some_iff.1 ed).1; rwa [row_len] at this
    rw [row_at] at ed
    obtain ⟨c, ec, rfl⟩ := Option.map_eq_some_iff.1 ed
    have c1 := x'.get1 b1 n1
    have c2 := x'.get1 b2 n2
    have zl : zs.length ≤ 20 * 201 := Nat.le_trans l' (Nat.mul_le_mul (by omega) (Nat.le_refl _))
    have nx : (i + 1) * 201 = i * 201 + 201 := by omega
    walk_at "go"
    refine br_d (fun z => ?_) (fun z => ?_)
    · walk_at "go"
      refine along_w c1 (by omega) ?_
      intro l3 h3 k3 x3 a3
      walk_at "go"
      refine wp_extend (x3.get0 a') a3 (by simp; unfold sizeLine; omega) ?_
      intro h4 x4 a4
      walk_at "go"
      exact ⟨_, _, rfl, (x'.then0 x3).trans x4, a4, by simp; omega⟩
    · walk_at "go"
      refine wp_inW (cs := [4, 7]) ?_
      walk_at "go"
      refine br_d (fun m => ?_) (fun m => ?_)
      · walk_at "go"
        intro h3 x3 a3
        walk_at "go"
        exact ⟨_, _, rfl, x'.trans x3, a3, by simp; omega⟩
      · walk_at "go"
        refine along_w c2 (by omega) ?_
        intro l3 h3 k3 x3 a3
        walk_at "go"
        refine wp_extend (x3.get0 a') a3 (by simp; unfold sizeLine; omega) ?_
        intro h4 x4 a4
        walk_at "go"
        exact ⟨_, _, rfl, (x'.then0 x3).trans x4, a4, by simp; omega⟩
end

/-! ### values that are no groups -/
def OddK (h : LH) (N : Nat) (d : D) : Prop :=
  (∃ i : Int, d = .int i ∧ (i < 0 ∨ (N : Int) ≤ i) ∧ i.natAbs < 10 ^ 40) ∨ d = .non ∨ (∃ b, d = .bl b) ∨ (∃ s, d = .str s ∧ (s = "" ∨ s = "0" ∨ s = "top")) ∨ d = .tup [] ∨ d = .tup [.int 0] ∨
    ∃ n, d = .ref n ∧ (h[n]? = some (.lst []) ∨ h[n]? = some (.lst [.int 0]) ∨ h[n]? = some (.dct []) ∨ h[n]? = some (.dct [(.inl 0, .int 1)]))
theorem OddK.ext0 {h h1 : LH} {N : Nat} {d : D} (o : OddK h N d) (x : Ext [] h h1) : OddK h1 N d := by
  rcases o with o | o | o | o | o | o | ⟨n, rfl, o⟩
  · exact .inl o
  · exact .inr (.inl o)
  · exact .inr (.inr (.inl o))
  · exact .inr (.inr (.inr (.inl o)))
  · exact .inr (.inr (.inr (.inr (.inl o))))
  · exact .inr (.inr (.inr (.inr (.inr (.inl o)))))
  · exact .inr (.inr (.inr (.inr (.inr (.inr ⟨n, rfl, o.imp x.get0 fun o => o.imp x.get0 fun o => o.imp x.get0 x.get0⟩)))))
theorem OddK.ext1 {h h1 : LH} {N p : Nat} {d : D} (o : OddK h N d) (P : Pot h p) (x : Ext [p] h h1) : OddK h1 N d := by
  obtain ⟨a, b, e, _⟩ := P
  rcases o with o | o | o | o | o | o | ⟨n, rfl, o⟩
  · exact .inl o
  · exact .inr (.inl o)
  · exact .inr (.inr (.inl o))
  · exact .inr (.inr (.inr (.inl o)))
  · exact .inr (.inr (.inr (.inr (.inl o))))
  · exact .inr (.inr (.inr (.inr (.inr (.inl o)))))
  · have np : n ≠ p := by
      intro z
      subst z
      rw [e] at o
      rcases o with o | o | o | o <;> exact nomatch o
    exact .inr (.inr (.inr (.inr (.inr (.inr ⟨n, rfl, o.imp (fun z => x.get1 z np) fun o => o.imp (fun z => x.get1 z np) fun o => o.imp (fun z => x.get1 z np) fun z => x.get1 z np⟩)))))
theorem OddK.data {h : LH} {N : Nat} {d : D} (o : OddK h N d) : ∃ a, deepK h 58 d = some a ∧ Brief 2 100 a := by
  rcases o with ⟨i, rfl, _, l⟩ | rfl | ⟨b, rfl⟩ | ⟨s, rfl, o⟩ | rfl | rfl | ⟨n, rfl, o⟩
  · exact ⟨_, deepK_flat rfl rfl, (brief_int l).up⟩
  · exact ⟨_, deepK_flat rfl rfl, by decide +kernel, by decide +kernel, by decide +kernel⟩
  · cases b
    · exact ⟨_, deepK_flat rfl rfl, by decide +kernel, by decide +kernel, by decide +kernel⟩
    · exact ⟨_, deepK_flat rfl rfl, by decide +kernel, by decide +kernel, by decide +kernel⟩
  · rcases o with rfl | rfl | rfl
    · exact ⟨_, deepK_flat rfl rfl, by decide +kernel, by decide +kernel, by decide +kernel⟩
    · exact ⟨_, deepK_flat rfl rfl, by decide +kernel, by decide +kernel, by decide +kernel⟩
    · exact ⟨_, deepK_flat rfl rfl, by decide +kernel, by decide +kernel, by decide +kernel⟩
  · exact ⟨_, deepK_tup mapO_nil, by decide +kernel, by decide +kernel, by decide +kernel⟩
  · exact ⟨_, deepK_tup (mapO_cons (deepK_flat rfl rfl) mapO_nil), by decide +kernel, by decide +kernel, by decide +kernel⟩
  · rcases o with e | e | e | e
    · exact ⟨_, deepK_list e mapO_nil, by decide +kernel, by decide +kernel, by decide +kernel⟩
    · exact ⟨_, deepK_list e (mapO_cons (deepK_flat rfl rfl) mapO_nil), by decide +kernel, by decide +kernel, by decide +kernel⟩
    · exact ⟨_, deepK_dct e mapO_nil, by decide +kernel, by decide +kernel, by decide +kernel⟩
    · exact ⟨_, deepK_dct e (mapO_cons (deepK_flat rfl rfl) mapO_nil), by decide +kernel, by decide +kernel, by decide +kernel⟩
theorem OddK.kind {h : LH} {N : Nat} {d : D} (o : OddK h N d) : (∃ i : Int, d = .int i ∧ (i < 0 ∨ (N : Int) ≤ i)) ∨ (∃ b, d = .bl b) ∨ ∃ k, kindD d h = some k ∧ (k = .non ∨ k = .str ∨ k = .tuple ∨ k = .list ∨ k = .dict) := by
  rcases o with ⟨i, rfl, z, _⟩ | rfl | ⟨b, rfl⟩ | ⟨s, rfl, _⟩ | rfl | rfl | ⟨n, rfl, o⟩
  · exact .inl ⟨i, rfl, z⟩
  · exact .inr (.inr ⟨_, rfl, by simp⟩)
  · exact .inr (.inl ⟨b, rfl⟩)
  · exact .inr (.inr ⟨_, rfl, by simp⟩)
  · exact .inr (.inr ⟨_, rfl, by simp⟩)
  · exact .inr (.inr ⟨_, rfl, by simp⟩)
  · rcases o with e | e | e | e
    · exact .inr (.inr ⟨.list, by simp only [kindD, e], by simp⟩)
    · exact .inr (.inr ⟨.list, by simp only [kindD, e], by simp⟩)
    · exact .inr (.inr ⟨.dict, by simp only [kindD, e], by simp⟩)
    · exact .inr (.inr ⟨.dict, by simp only [kindD, e], by simp⟩)
section
variable {E : EP} {Q : D → LH → Prop} {h : LH}
theorem odd_count {N : Nat} {d : D} (o : OddK h N d) : WP (f_is_count [d] h) (fun v h1 => h1 = h ∧ (v = .bl false ∨ ∃ i : Int, d = .int i ∧ (N : Int) ≤ i ∧ v = .bl true)) noE := by
  unfold f_is_count b_is_count
  walk_at "into"
  walk_at "go"
  rcases o.kind with ⟨i, rfl, z⟩ | ⟨b, rfl⟩ | ⟨k, e, z⟩
  · refine is_integer_w ?_
    walk_at "go"
    by_cases c : (0 : Int) ≤ i
    · exact ⟨rfl, .inr ⟨i, rfl, by omega, by rw [decide_eq_true (by omega)]⟩⟩
    · exact ⟨rfl, .inl (by rw [decide_eq_false (by omega)])⟩
  · unfold f_is_integer b_is_integer
    walk_at "into"
    walk_at "go"
    exact ⟨rfl, .inl rfl⟩
  · unfold f_is_integer b_is_integer
    walk_at "into"
    walk_at "go"
    refine ⟨k, e, ?_⟩
    rcases z with rfl | rfl | rfl | rfl | rfl
    all_goals
      walk_at "go"
      exact ⟨rfl, .inl rfl⟩
theorem odd_want_w {t : Nat} {ks ss : List Nat} {d : D} (T : TreeAt h t ks ss) (l : ks.length < 1000) (o : OddK h (ks.length + 1) d) (q : E 3 [(8, d)] h) : WP (f_Tree_want_group [.ref t, d] h) Q E := by
  unfold f_Tree_want_group b_Tree_want_group
  walk_at "into"
  walk_at "go"
  refine wp_use0 (odd_count o) ?_
  rintro v h1 ⟨rfl, rfl | ⟨i, rfl, li, rfl⟩⟩
  · walk_at "go"
    exact q
  · walk_at "go"
    refine len_w T l ?_
    walk_at "go"
    exact q
theorem odd_way_w {t : Nat} {ks ss : List Nat} {d : D} (T : TreeAt h t ks ss) (l : ks.length < 1000) (o : OddK h (ks.length + 1) d) (q : E 3 [(8, d)] h) : WP (f_Tree_way [.ref t, d] h) Q E := by
  unfold f_Tree_way b_Tree_way
  walk_at "into"
  walk_at "go"
  exact odd_want_w T l o q
theorem odd_parent_w {t : Nat} {ks ss : List Nat} {d : D} (T : TreeAt h t ks ss) (l : ks.length < 1000) (o : OddK h (ks.length + 1) d) (q : E 3 [(8, d)] h) : WP (f_Tree_parent [.ref t, d] h) Q E := by
  unfold f_Tree_parent b_Tree_parent
  walk_at "into"
  walk_at "go"
  exact odd_want_w T l o q
theorem odd_apart1_w {t : Nat} {ks ss : List Nat} {d e : D} (T : TreeAt h t ks ss) (l : ks.length < 1000) (o : OddK h (ks.length + 1) d) (q : E 3 [(8, d)] h) : WP (f_Tree_apart [.ref t, d, e] h) Q E := by
  unfold f_Tree_apart b_Tree_apart
  walk_at "into"
  walk_at "go"
  exact odd_way_w T l o q
theorem odd_apart2_w {t g : Nat} {ks ss : List Nat} {d : D} (T : TreeAt h t ks ss) (U : Ups ks 199) (lg : g ≤ ks.length) (o : OddK h (ks.length + 1) d) (q : ∀ h1, Ext [] h h1 → E 3 [(8, d)] h1) : WP (f_Tree_apart [.ref t, .int (g : Int), d] h) Q E := by
  have ul := U.len
  unfold f_Tree_apart b_Tree_apart
  walk_at "into"
  walk_at "go"
  refine way_w T U lg ?_
  intro n h1 k1 x1 a1
  walk_at "go"
  exact odd_way_w (x1.get0 T) (by omega) (o.ext0 x1) (q h1 x1)
theorem odd_ways1_w {b t : Nat} {R : Ru} {ks ss : List Nat} {d e : D} (B : BookAt h b R) (T : TreeAt h t ks ss) (l : ks.length < 1000) (o : OddK h (ks.length + 1) d) (q : E 3 [(8, d)] h) : WP (f_move_ways [.ref b, .ref t, d, e] h) Q E := by
  have B0 := B
  obtain ⟨dd, hs, kvs, B⟩ := B
  have ei := B.ins
  unfold f_move_ways b_move_ways
  walk_at "into"
  walk_at "go"
  refine shared_w B0 ?_
  walk_at "go"
  refine br_s (fun z => ?_) (fun z => ?_)
  · walk_at "go"
    exact odd_way_w T l o q
  · walk_at "go"
    exact odd_apart1_w T l o q
theorem odd_ways2_w {b t g : Nat} {R : Ru} {ks ss : List Nat} {d : D} (B : BookAt h b R) (T : TreeAt h t ks ss) (U : Ups ks 199) (lg : g ≤ ks.length) (o : OddK h (ks.length + 1) d) (q : ∀ h1, Ext [] h h1 → E 3 [(8, d)] h1) : WP (f_move_ways [.ref b, .ref t, .int (g : Int), d] h) Q E := by
  have ul := U.len
  have B0 := B
  obtain ⟨dd, hs, kvs, B⟩ := B
  have ei := B.ins
  unfold f_move_ways b_move_ways
  walk_at "into"
  walk_at "go"
  refine shared_w B0 ?_
  walk_at "go"
  refine br_s (fun z => ?_) (fun z => ?_)
  · walk_at "go"
    refine way_w T U lg ?_
    intro n h1 k1 x1 a1
    walk_at "go"
    exact odd_way_w (x1.get0 T) (by omega) (o.ext0 x1) (q h1 x1)
  · walk_at "go"
    exact odd_apart2_w T U lg o q
theorem odd_move1_w {b t : Nat} {R : Ru} {ks ss : List Nat} {d e : D} (B : BookAt h b R) (T : TreeAt h t ks ss) (l : ks.length < 1000) (o : OddK h (ks.length + 1) d) (q : E 3 [(8, d)] h) : WP (f_move_plan [.ref b, .ref t, d, e] h) Q E := by
  unfold f_move_plan b_move_plan
  walk_at "into"
  walk_at "go"
  exact odd_ways1_w B T l o q
theorem odd_move2_w {b t g : Nat} {R : Ru} {ks ss : List Nat} {d : D} (B : BookAt h b R) (T : TreeAt h t ks ss) (U : Ups ks 199) (lg : g ≤ ks.length) (o : OddK h (ks.length + 1) d) (q : ∀ h1, Ext [] h h1 → E 3 [(8, d)] h1) : WP (f_move_plan [.ref b, .ref t, .int (g : Int), d] h) Q E := by
  unfold f_move_plan b_move_plan
  walk_at "into"
  walk_at "go"
  exact odd_ways2_w B T U lg o q
theorem odd_take_w {b t : Nat} {ks ss : List Nat} {d : D} (T : TreeAt h t ks ss) (l : ks.length < 1000) (o : OddK h (ks.length + 1) d) (q : E 3 [(8, d)] h) : WP (f_take_plan [.ref b, .ref t, d] h) Q E := by
  unfold f_take_plan b_take_plan
  walk_at "into"
  walk_at "go"
  exact odd_way_w T l o q
theorem odd_give_w {b t : Nat} {ks ss : List Nat} {d : D} (T : TreeAt h t ks ss) (l : ks.length < 1000) (o : OddK h (ks.length + 1) d) (q : E 3 [(8, d)] h) : WP (f_give_plan [.ref b, .ref t, d] h) Q E := by
  unfold f_give_plan b_give_plan
  walk_at "into"
  walk_at "go"
  exact odd_way_w T l o q
theorem odd_lift_w {b t : Nat} {ks ss : List Nat} {d : D} (T : TreeAt h t ks ss) (l : ks.length < 1000) (o : OddK h (ks.length + 1) d) (q : E 3 [(8, d)] h) : WP (f_lift_plan [.ref b, .ref t, d] h) Q E := by
  unfold f_lift_plan b_lift_plan
  walk_at "into"
  walk_at "go"
  exact odd_parent_w T l o q
theorem odd_settle_w {t : Nat} {ks ss : List Nat} {d : D} (T : TreeAt h t ks ss) (l : ks.length < 1000) (o : OddK h (ks.length + 1) d) (q : E 3 [(8, d)] h) : WP (f_settle_plan [.ref t, d] h) Q E := by
  unfold f_settle_plan b_settle_plan
  walk_at "into"
  walk_at "go"
  exact odd_way_w T l o q
/-- a drawn value that is no group -/
theorem odd_w {p N : Nat} (P : Pot h p) (N1 : 1 ≤ N ∧ N ≤ 1000) (q : ∀ d h1, OddK h1 N d → Pot h1 p → Ext [p] h h1 → Q d h1) : WP (f__law_odd [.ref p, .int (N : Int)] h) Q E := by
  have pl := P.lt
  unfold f__law_odd b__law_odd
  walk_at "into"
  walk_at "go"
  intro n1 h1 l1 x1 a1
  have e1 := x1.1
  walk_at "go"
  intro n2 h2 l2 x2 a2
  have e2 := x2.1
  walk_at "go"
  intro n3 h3 l3 x3 a3
  have e3 := x3.1
  walk_at "go"
  refine wp_eDnew ?_
  intro n4 h4 l4 x4 a4
  have e4 := x4.1
  walk_at "go"
  intro n5 h5 l5 x5 a5
  have e5 := x5.1
  walk_at "go"
  refine keyat_i ?_
  walk_at "go"
  refine ⟨a5, ?_⟩
  intro h6 x6 a6 _
  have e6 := x6.1
  have m1 := lt_of_at a1
  have m2 := lt_of_at a2
  have m3 := lt_of_at a3
  have m4 := lt_of_at a4
  have y6 : Ext [] h h6 := ((((x1.trans x2).trans x3).trans x4).trans x5).new x6 (by omega)
  have b1 : h6[n1]? = some (.lst _) := x6.get1 (x5.get0 (x4.get0 (x3.get0 (x2.get0 a1)))) (by omega)
  have b2 := x6.get1 (x5.get0 (x4.get0 (x3.get0 a2))) (by omega)
  have b3 := x6.get1 (x5.get0 (x4.get0 a3)) (by omega)
  have b4 := x6.get1 (x5.get0 a4) (by omega)
  walk_at "go"
  intro n7 h7 l7 x7 a7
  have e7 := x7.1
  walk_at "go"
  refine wp_addL (x7.get0 b1) a7 (by simp [sizeLine]) ?_
  intro n8 h8 l8 x8 a8
  have x68 := x7.trans x8
  have y8 := y6.trans x68
  walk_at "go"
  refine pick_w (P.ext y8 (by simp)) a8 (by omega) (by simp) ?_
  intro d h9 md P9 x9
  refine q d h9 ?_ P9 (y8.w0.trans x9)
  refine OddK.ext1 (h := h8) ?_ (P.ext y8 (by simp)) x9
  have c2 := x68.get0 b2
  have c3 := x68.get0 b3
  have c4 := x68.get0 b4
  have c6 := x68.get0 a6
  simp only [List.mem_append, List.mem_cons, List.not_mem_nil, or_false] at md
  rcases md with (rfl | rfl | rfl | rfl | rfl | rfl) | (rfl | rfl | rfl | rfl | rfl | rfl | rfl | rfl | rfl | rfl | rfl | rfl)
  · exact .inl ⟨_, rfl, .inr (by omega), by omega⟩
  · exact .inl ⟨_, rfl, .inr (by omega), by omega⟩
  · exact .inl ⟨_, rfl, .inl (by decide), by decide⟩
  · exact .inl ⟨_, rfl, .inl (by omega), by omega⟩
  · exact .inl ⟨_, rfl, .inr (by omega), by decide⟩
  · exact .inl ⟨_, rfl, .inl (by decide), by decide⟩
  · exact .inr (.inl rfl)
  · exact .inr (.inr (.inl ⟨_, rfl⟩))
  · exact .inr (.inr (.inl ⟨_, rfl⟩))
  · exact .inr (.inr (.inr (.inl ⟨_, rfl, by simp⟩)))
  · exact .inr (.inr (.inr (.inl ⟨_, rfl, by simp⟩)))
  · exact .inr (.inr (.inr (.inl ⟨_, rfl, by simp⟩)))
  · exact .inr (.inr (.inr (.inr (.inl rfl))))
  · exact .inr (.inr (.inr (.inr (.inr (.inl rfl)))))
  · exact .inr (.inr (.inr (.inr (.inr (.inr ⟨_, rfl, .inr (.inl c2)⟩)))))
  · exact .inr (.inr (.inr (.inr (.inr (.inr ⟨_, rfl, .inl c3⟩)))))
  · exact .inr (.inr (.inr (.inr (.inr (.inr ⟨_, rfl, .inr (.inr (.inl c4))⟩)))))
  · exact .inr (.inr (.inr (.inr (.inr (.inr ⟨_, rfl, .inr (.inr (.inr c6))⟩)))))
end

def otherD (R : Ru) : List D := [.tup (rowD R.take), .tup (rowD R.give), .tup (rowD R.move), .tup (rowD R.lift), .str (wd R.fails), .bl R.shared, .int (R.batch : Int), .bl R.settles]
def otherP (R : Ru) : List PyData := [.tuple (rowP R.take), .tuple (rowP R.give), .tuple (rowP R.move), .tuple (rowP R.lift), .str (wd R.fails), .bool R.shared, .int (R.batch : Int), .bool R.settles]
theorem deep_other {h : LH} {n : Nat} {R : Ru} (e : h[n]? = some (.lst (otherD R))) : deep h 60 (.ref n) = some (.list (otherP R)) :=
  deep_list e (mapO_cons deep_row (mapO_cons deep_row (mapO_cons deep_row (mapO_cons deep_row (mapO_cons rfl (mapO_cons rfl (mapO_cons rfl (mapO_cons rfl mapO_nil))))))))
theorem shaped_other {R : Ru} : SeqAt.shaped (.list (otherP R)) = true := by
  have e (cs : List W) : PyData.canLay0 (.tuple (rowP cs)) = true := by rw [PyData.canLay0, lay_row]
  unfold SeqAt.shaped
  have k : PyData.strOk (wd R.fails) = true := by have := strOk_wd R.fails; rwa [PyData.canLay0] at this
  simp only [otherP, PyData.canLay0, PyData.canLayAll0, e, k, lay_row, PyData.depth, PyData.depthAll, depth_row]
  decide
theorem eqv_other {R : Ru} : PyData.eqv (.list (otherP R)) (.list (otherP R)) = true := by
  simp only [otherP, PyData.eqv, PyData.eqvAll, eqv_row]
  simp
section
variable {E : EP} {Q : D → LH → Prop} {h : LH}
theorem others_book_w {b : Nat} {R : Ru} (B : BookAt h b R) (q : ∀ n h1, h.length ≤ n → Ext [] h h1 → h1[n]? = some (.lst (otherD R)) → Q (.ref n) h1) : WP (f_Book_others [.ref b] h) Q E := by
  obtain ⟨d, hs, kvs, B⟩ := B
  have e := B.ins
  have a := B.dct
  unfold f_Book_others b_Book_others
  walk_at "into"
  walk_at "go"
  refine wp_aStarV ?_
  walk_at "go"
  refine dctat a ?_
  walk_at "go"
  rw [B.vals]
  refine need (by show 8 ≤ sizeLine; decide) ?_
  intro n h1 l1 x1 a1
  exact q n h1 l1 x1 a1
theorem beq_w {b c : Nat} {R : Ru} (B : BookAt h b R) (C : BookAt h c R) (q : ∀ h1, Ext [] h h1 → Q (.bl true) h1) : WP (f_Book___eq__ [.ref b, .ref c] h) Q E := by
  obtain ⟨d1, hs1, kv1, B1⟩ := id B
  obtain ⟨d2, hs2, kv2, C1⟩ := id C
  have e1 := B1.ins
  have e2 := C1.ins
  have hh : hs1 = hs2 := B1.hold.trans C1.hold.symm
  unfold f_Book___eq__ b_Book___eq__
  walk_at "into"
  walk_at "go"
  refine wp_isO e2 rfl ?_
  walk_at "go"
  refine others_book_w B ?_
  intro n1 h1 l1 x1 a1
  walk_at "go"
  refine others_book_w (C.ext x1) ?_
  intro n2 h2 l2 x2 a2
  walk_at "go"
  refine wp_eqR (deep_other (x2.get0 a1)) (deep_other a2) (by rw [shaped_other]; rfl) ?_
  rw [eqv_other]
  have f1 := x2.get0 (x1.get0 e1)
  have f2 := x2.get0 (x1.get0 e2)
  refine isb ?_
  refine br_t rfl ?_
  walk_at "go"
  refine wp_eqRow ?_
  rw [decide_eq_true hh]
  exact q h2 (x1.trans x2)
end

section
variable {E : EP} {Q : D → LH → Prop} {h : LH}
theorem eq_w {t t2 : Nat} {ks ss ks2 ss2 : List Nat} (T : TreeAt h t ks ss) (T2 : TreeAt h t2 ks2 ss2) (q : Q (.bl (decide (ks = ks2 ∧ ss = ss2))) h) : WP (f_Tree___eq__ [.ref t, .ref t2] h) Q E := by
  unfold f_Tree___eq__ b_Tree___eq__
  walk_at "into"
  walk_at "go"
  refine wp_isO T2 rfl ?_
  walk_at "go"
  refine wp_eqNT (neg := false) ?_
  by_cases c : ks = ks2
  · have e : (if false = true then !decide (ks = ks2) else decide (ks = ks2)) = true := by simp [c]
    rw [e]
    walk_at "go"
    refine wp_eqNT (neg := false) ?_
    have e2 : (if false = true then !decide (ss = ss2) else decide (ss = ss2)) = decide (ks = ks2 ∧ ss = ss2) := by simp [c]
    rw [e2]; exact q
  · have e : (if false = true then !decide (ks = ks2) else decide (ks = ks2)) = false := by simp [c]
    rw [e]
    walk_at "go"
    have e2 : decide (ks = ks2 ∧ ss = ss2) = false := by simp [c]
    rw [e2] at q; exact q
end

theorem cut1N {ks : List Nat} : cutD (D.non :: iD ks) (some 1) none = iD ks := cut_drop1
section
variable {E : EP} {Q : D → LH → Prop} {h : LH}
theorem ro_tree {t : Nat} {ks ms : List Nat} (T : TreeAt h t ks ms) : rightOk 0 (.ref t) h = true := by
  have T : h[t]? = some (.ins 0 _) := T
  simp only [rightOk, T]; rfl
theorem ro_book {b : Nat} {R : Ru} (B : BookAt h b R) : rightOk 1 (.ref b) h = true := by
  obtain ⟨d, hs, kv, B⟩ := B
  have e := B.ins
  simp only [rightOk, e]; rfl
theorem eqT_w {t t2 : Nat} {ks ss ks2 ss2 : List Nat} {b : Bool} (T : TreeAt h t ks ss) (T2 : TreeAt h t2 ks2 ss2) (c : decide (ks = ks2 ∧ ss = ss2) = b) (q : Q (.bl b) h) : WP (oEqO 0 f_Tree___eq__ false (.ref t) (.ref t2) h) Q E := by
  refine wp_eqO T (ro_tree T2) ?_
  refine eq_w T T2 ?_
  rw [c]; exact isb q
theorem eqB_w {b c : Nat} {R : Ru} (B : BookAt h b R) (C : BookAt h c R) (q : ∀ h1, Ext [] h h1 → Q (.bl true) h1) : WP (oEqO 1 f_Book___eq__ false (.ref b) (.ref c) h) Q E := by
  obtain ⟨d, hs, kv, B1⟩ := id B
  refine wp_eqO B1.ins (ro_book C) ?_
  refine beq_w B C ?_
  intro h1 x1
  exact isb (q h1 x1)
end

section
variable {E : EP} {Q : D → LH → Prop} {h : LH}
theorem told_w {th : EX} {r : LS} {L : List D} (q : WP (th r h) (fun d h1 => Ext [] h h1 ∧ L = [.str "made", .bl true] ∧ ∃ m xs, d = .ref m ∧ h1[m]? = some (.lst xs)) (fun c fs h1 => Ext [] h h1 ∧ ((c = 2 ∧ L = [.str "top"]) ∨ (c = 3 ∧ ∃ d, fs = [(8, d)] ∧ L = [.str "spot", d, .bl true])))) :
    WP (eTold 2 b__law_told th r h) (fun d h1 => ∃ m, d = .ref m ∧ h.length ≤ m ∧ h1[m]? = some (.lst L) ∧ Ext [] h h1) noE := by
  refine wp_eTold ?_
  unfold b__law_told
  refine wf_lSeq (wf_seq (wf_lTry (wf_lMadeIs (wp_use q ?_ ?_))))
  · rintro d h1 ⟨x, rfl, m, xs, rfl, a⟩
    refine ⟨_, kind_lst a, ?_⟩
    intro n h2 l2 x2 a2
    have := x.1
    exact ⟨n, rfl, by omega, a2, x.trans x2⟩
  · rintro c fs h1 ⟨x, ⟨rfl, rfl⟩ | ⟨rfl, d, rfl, rfl⟩⟩
    · refine wf_hdlF rfl (wf_hdlT rfl ?_)
      rw [wipe_n]
      walk_at "go"
      intro n h2 l2 x2 a2
      have := x.1
      exact ⟨n, rfl, by omega, a2, x.trans x2⟩
    · refine wf_hdlT rfl ?_
      rw [wipe_s]
      walk_at "go"
      intro n h2 l2 x2 a2
      have := x.1
      exact ⟨n, rfl, by omega, a2, x.trans x2⟩
abbrev mk1 : List D := [.str "made", .bl true]
theorem lift_told {b t g : Nat} {R : Ru} {ks ss : List Nat} (B : BookAt h b R) (K : Ok R) (T : TreeAt h t ks ss) (l : ks.length < 1000) (lg : g ≤ ks.length) :
    WP (f_lift_plan [.ref b, .ref t, .int (g : Int)] h) (fun d h1 => Ext [] h h1 ∧ (if g = 0 then ([.str "top"] : List D) else mk1) = mk1 ∧ ∃ m xs, d = .ref m ∧ h1[m]? = some (.lst xs))
      (fun c fs h1 => Ext [] h h1 ∧ ((c = 2 ∧ (if g = 0 then ([.str "top"] : List D) else mk1) = [.str "top"]) ∨ (c = 3 ∧ ∃ d, fs = [(8, d)] ∧ (if g = 0 then ([.str "top"] : List D) else mk1) = [.str "spot", d, .bl true]))) := by
  by_cases c : g = 0
  · subst c
    exact lift_top_w B T l ⟨Ext.rfl', .inl ⟨rfl, if_pos rfl⟩⟩
  · refine lift_plan_w B K T l lg c ?_
    intro n h1 l1 x1 a1
    exact ⟨x1, if_neg c, n, _, rfl, a1⟩
theorem mapO_same {α β : Type} {f : α → Option β} {y : β} : ∀ {xs : List α}, (∀ x ∈ xs, f x = some y) → mapO f xs = some (List.replicate xs.length y)
  | [], _ => rfl
  | x :: xs, l => mapO_cons (l x (List.mem_cons_self ..)) (mapO_same fun z m => l z (List.mem_cons_of_mem _ m))
theorem wp_neR {n k : Nat} {a b : PyData} (e : deep h 60 (.ref n) = some a) (e' : deep h 60 (.ref k) = some b) (s : (SeqAt.shaped a && SeqAt.shaped b) = true) (v : PyData.eqv a b = true) (q : Q (.bl false) h) : WP (oEq true (.ref n) (.ref k) h) Q E :=
  wp_eqR e e' s (by rw [v]; exact q)
theorem spots_let_w {b t : Nat} {R : Ru} {ks ss : List Nat} (B : BookAt h b R) (K : Ok R) (T : TreeAt h t ks ss) (U : Ups ks 199) (q : ∀ h1, Ext [] h h1 → Q (.bl true) h1) : WP (f__law_spots_let [.ref b, .ref t, .int ((ks.length + 1 : Nat) : Int)] h) Q E := by
  have ul := U.len
  unfold f__law_spots_let b__law_spots_let
  walk_at "into"
  walk_at "go"
  intro n0 h0 l0 x0 a0
  have a0' : h0[n0]? = some (.lst (iD [0, min 1 ks.length, ks.length, (ks.length + 1) / 2])) := by
    rw [a0]
    have e1 : (if ((ks.length + 1 : Nat) : Int) - 1 < 1 then ((ks.length + 1 : Nat) : Int) - 1 else 1) = ((min 1 ks.length : Nat) : Int) := by split <;> omega
    have e2 : ((ks.length + 1 : Nat) : Int) - 1 = (ks.length : Int) := by omega
    have e3 : ((ks.length + 1 : Nat) : Int) / 2 = (((ks.length + 1) / 2 : Nat) : Int) := by omega
    rw [e1, e2, e3]; rfl
  have gl : ∀ g ∈ [0, min 1 ks.length, ks.length, (ks.length + 1) / 2], g ≤ ks.length := by
    intro g m
    simp only [List.mem_cons, List.not_mem_nil, or_false] at m
    omega
  have g4 : [0, min 1 ks.length, ks.length, (ks.length + 1) / 2].length = 4 := rfl
  generalize [0, min 1 ks.length, ks.length, (ks.length + 1) / 2] = gs at a0' gl g4
  have B0 := B.ext x0
  have T0 : TreeAt h0 t ks ss := x0.get0 T
  clear B T a0
  walk_at "go"
  refine wf_forL (iD gs) (by rw [iD_len]; omega) (fun i r h' => ∃ c3 c4, r = [some (.ref b), some (.ref t), some (.int ((ks.length + 1 : Nat) : Int)), c3, c4] ∧ Ext [] h0 h') ?_ ⟨_, _, rfl, Ext.rfl'⟩ ?_ ?_
  · rintro i r h' ⟨c3, c4, rfl, x⟩
    have e := x.get0 a0'
    simp [srcAt, e]
  · rintro r h' ⟨c3, c4, rfl, x⟩
    walk_at "go"
    exact q h' (x0.trans x)
  · rintro i d r h1 ed ⟨c3, c4, rfl, x1⟩
    rw [iD_at] at ed
    obtain ⟨g, eg, rfl⟩ := Option.map_eq_some_iff.1 ed
    have lg := gl g (List.mem_of_getElem? eg)
    clear q ed eg a0' gl g4
    have tk : ∀ {h2 : LH}, Ext [] h0 h2 → ∀ {s s' : Nat}, s ≤ ks.length → s' ≤ ks.length → WP (f_move_plan [.ref b, .ref t, .int (s : Int), .int (s' : Int)] h2) (fun d h1 => Ext [] h2 h1 ∧ mk1 = mk1 ∧ ∃ m xs, d = .ref m ∧ h1[m]? = some (.lst xs)) (fun c fs h1 => Ext [] h2 h1 ∧ ((c = 2 ∧ mk1 = [.str "top"]) ∨ (c = 3 ∧ ∃ d, fs = [(8, d)] ∧ mk1 = [.str "spot", d, .bl true]))) := by
      intro h2 z s s' ls ls'
      refine move_plan_w (B0.ext z) K (z.get0 T0) U ls ls' ?_
      intro n xs h3 l3 x3 a3
      exact ⟨x3, rfl, n, _, rfl, a3⟩
    walk_at "go"
    refine wp_use0 (told_w (L := mk1) ?_) ?_
    · walk_at "go"
      refine take_plan_w (B0.ext x1) K (x1.get0 T0) U lg ?_
      intro n h2 l2 x2 a2
      exact ⟨x2, rfl, n, _, rfl, a2⟩
    rintro d h2 ⟨m1, rfl, k1, b1, x2⟩
    refine wp_aNil ?_
    refine need (by simp [sizeLine]) ?_
    intro n h3 l3 x3 a3
    have T3 : Tolds h3 n [m1] [mk1] := ⟨a3, ⟨by have := lt_of_at b1; omega, x3.get0 b1⟩, True.intro⟩
    have z3 := (x1.trans x2).trans x3
    have nl : h0.length ≤ n := by have := x1.1; have := x2.1; omega
    refine wf_gN (by walk_at "ls") ?_
    clear b1 a3 x2 x3
    refine wf_seq (wf_E (push_w T3 rfl (by simp) (told_w (L := mk1) ?_) ?_))
    · walk_at "go"
      refine give_plan_w (B0.ext z3) K (z3.get0 T0) U lg ?_
      intro m h4 l4 x4 a4
      exact ⟨x4, rfl, m, _, rfl, a4⟩
    intro h4 m4 x4 T4
    have z4 := z3.new x4 nl
    clear x4 T3
    refine wf_seq (wf_E (push_w T4 rfl (by simp) (told_w (L := mk1) ?_) ?_))
    · walk_at "go"
      refine settle_plan_w (z4.get0 T0) U lg ?_
      intro m h5 l5 x5 a5
      exact ⟨x5, rfl, m, _, rfl, a5⟩
    intro h5 m5 x5 T5
    have z5 := z4.new x5 nl
    clear x5 T4
    refine wf_seq (wf_E (push_w T5 rfl (by simp) (told_w (L := mk1) ?_) ?_))
    · walk_at "go"
      have e2 : ((ks.length + 1 : Nat) : Int) - 1 = (ks.length : Int) := by omega
      rw [e2]
      exact tk z5 lg (Nat.le_refl _)
    intro h6 m6 x6 T6
    have z6 := z5.new x6 nl
    clear x6 T5
    refine wf_seq (wf_E (push_w T6 rfl (by simp) (told_w (L := mk1) ?_) ?_))
    · walk_at "go"
      exact tk (s := 0) z6 (Nat.zero_le _) lg
    intro h7 m7 x7 T7
    have z7 := z6.new x7 nl
    clear x7 T6
    refine wf_seq (wf_E (push_w T7 rfl (by simp) (told_w (L := if g = 0 then ([.str "top"] : List D) else mk1) ?_) ?_))
    · walk_at "go"
      exact lift_told (B0.ext z7) K (z7.get0 T0) (by omega) lg
    intro h8 m8 x8 T8
    have z8 := z7.new x8 nl
    clear x8 T7
    walk_at "go"
    intro k1 h9 l9 x9 a9
    walk_at "go"
    intro k2 h10 l10 x10 a10
    refine wp_mulL a10 (by simp [sizeLine]) ?_
    intro k3 h11 l11 x11 a11
    have y11 := (x9.trans x10).trans x11
    have b9 := (x10.trans x11).get0 a9
    have T11 := T8.ext0 y11
    have z11 := z8.trans y11
    clear T8 z8 x9 x10 x11 a9 a10 y11
    walk_at "go"
    refine br_d (fun c => ?_) (fun c => ?_)
    · obtain rfl : g = 0 := by omega
      rw [if_pos rfl] at T11
      walk_at "go"
      intro k4 h12 l12 x12 a12
      walk_at "go"
      intro k5 h13 l13 x13 a13
      have y13 := x12.trans x13
      refine wp_addL (y13.get0 a11) a13 (by simp [sizeLine]) ?_
      intro k6 h14 l14 x14 a14
      have y14 := y13.trans x14
      have T14 := T11.ext0 y14
      have c9 := y14.get0 b9
      have c12 := (x13.trans x14).get0 a12
      walk_at "go"
      refine wp_neR (deep_list T14.lst (T14.all.deep (mapO_cons (mapO_cons rfl (mapO_cons rfl mapO_nil)) (mapO_cons (mapO_cons rfl (mapO_cons rfl mapO_nil)) (mapO_cons (mapO_cons rfl (mapO_cons rfl mapO_nil)) (mapO_cons (mapO_cons rfl (mapO_cons rfl mapO_nil)) (mapO_cons (mapO_cons rfl (mapO_cons rfl mapO_nil)) (mapO_cons (mapO_cons rfl mapO_nil) mapO_nil)))))))) 
        (deep_list a14 (mapO_cons (deep_list c9 (mapO_cons rfl (mapO_cons rfl mapO_nil))) (mapO_cons (deep_list c9 (mapO_cons rfl (mapO_cons rfl mapO_nil))) (mapO_cons (deep_list c9 (mapO_cons rfl (mapO_cons rfl mapO_nil))) (mapO_cons (deep_list c9 (mapO_cons rfl (mapO_cons rfl mapO_nil))) (mapO_cons (deep_list c9 (mapO_cons rfl (mapO_cons rfl mapO_nil))) (mapO_cons (deep_list c12 (mapO_cons rfl mapO_nil)) mapO_nil))))))) (by decide +kernel) (by decide +kernel) ?_
      walk_at "go"
      exact ⟨_, _, rfl, z11.trans y14⟩
    · rw [if_neg (by omega)] at T11
      walk_at "go"
      intro k4 h12 l12 x12 a12
      walk_at "go"
      intro k5 h13 l13 x13 a13
      have y13 := x12.trans x13
      refine wp_addL (y13.get0 a11) a13 (by simp [sizeLine]) ?_
      intro k6 h14 l14 x14 a14
      have y14 := y13.trans x14
      have T14 := T11.ext0 y14
      have c9 := y14.get0 b9
      have c12 := (x13.trans x14).get0 a12
      walk_at "go"
      refine wp_neR (deep_list T14.lst (T14.all.deep (mapO_cons (mapO_cons rfl (mapO_cons rfl mapO_nil)) (mapO_cons (mapO_cons rfl (mapO_cons rfl mapO_nil)) (mapO_cons (mapO_cons rfl (mapO_cons rfl mapO_nil)) (mapO_cons (mapO_cons rfl (mapO_cons rfl mapO_nil)) (mapO_cons (mapO_cons rfl (mapO_cons rfl mapO_nil)) (mapO_cons (mapO_cons rfl (mapO_cons rfl mapO_nil)) mapO_nil)))))))) 
        (deep_list a14 (mapO_cons (deep_list c9 (mapO_cons rfl (mapO_cons rfl mapO_nil))) (mapO_cons (deep_list c9 (mapO_cons rfl (mapO_cons rfl mapO_nil))) (mapO_cons (deep_list c9 (mapO_cons rfl (mapO_cons rfl mapO_nil))) (mapO_cons (deep_list c9 (mapO_cons rfl (mapO_cons rfl mapO_nil))) (mapO_cons (deep_list c9 (mapO_cons rfl (mapO_cons rfl mapO_nil))) (mapO_cons (deep_list c12 (mapO_cons rfl (mapO_cons rfl mapO_nil))) mapO_nil))))))) (by decide +kernel) (by decide +kernel) ?_
      walk_at "go"
      exact ⟨_, _, rfl, z11.trans y14⟩
end

theorem mapO_mono {α β : Type} {f g : α → Option β} (m : ∀ x y, f x = some y → g x = some y) : ∀ {xs : List α} {ys : List β}, mapO f xs = some ys → mapO g xs = some ys
  | [], _, e => e
  | x :: xs, ys, e => by
    simp only [mapO] at e
    cases q1 : f x with
    | none => simp only [q1] at e; cases e
    | some y =>
      cases q2 : mapO f xs with
      | none => simp only [q1, q2] at e; cases e
      | some zs =>
        simp only [q1, q2] at e
        cases e
        exact mapO_cons (m _ _ q1) (mapO_mono m q2)
theorem deepK_mono {h h1 : LH} (x : Ext [] h h1) : ∀ (n : Nat) (d : D) (a : PyData), deepK h n d = some a → deepK h1 n d = some a
  | n, .non, a, e => by cases n <;> exact e
  | n, .bl _, a, e => by cases n <;> exact e
  | n, .int _, a, e => by cases n <;> exact e
  | n, .str _, a, e => by cases n <;> exact e
  | n, .scr _, a, e => by cases n <;> exact e
  | n, .fn _, a, e => by cases n <;> exact e
  | 0, .tup _, a, e => by cases e
  | 0, .ref _, a, e => by cases e
  | n + 1, .tup xs, a, e => by
    simp only [deepK] at e
    cases q : mapO (deepK h n) xs with
    | none => simp only [q] at e; cases e
    | some ys =>
      simp only [q] at e
      cases e
      exact deepK_tup (mapO_mono (deepK_mono x n) q)
  | n + 1, .ref k, a, e => by
    simp only [deepK] at e
    cases y : h[k]? with
    | none => simp only [y] at e; cases e
    | some ob =>
      cases ob with
      | ins c fs => simp only [y] at e; cases e
      | lst xs =>
        simp only [y] at e
        cases q : mapO (deepK h n) xs with
        | none => simp only [q] at e; cases e
        | some ys =>
          simp only [q] at e
          cases e
          exact deepK_list (x.get0 y) (mapO_mono (deepK_mono x n) q)
      | dct kvs =>
        simp only [y] at e
        cases q : mapO (deepK h n) (kvs.map Prod.snd) with
        | none => simp only [q] at e; cases e
        | some ys =>
          simp only [q] at e
          cases e
          exact deepK_dct (x.get0 y) (mapO_mono (deepK_mono x n) q)
section
variable {E : EP} {Q : D → LH → Prop} {h : LH}
abbrev spotL (d : D) : List D := [.str "spot", d, .bl true]
theorem told_odd {th : EX} {r : LS} {d : D} (q : ∀ E' : EP, (∀ h1, Ext [] h h1 → E' 3 [(8, d)] h1) → ∀ Q' : D → LH → Prop, WP (th r h) Q' E') :
    WP (eTold 2 b__law_told th r h) (fun v h1 => ∃ m, v = .ref m ∧ h.length ≤ m ∧ h1[m]? = some (.lst (spotL d)) ∧ Ext [] h h1) noE :=
  told_w (L := spotL d) (q _ (fun h1 x => ⟨x, .inr ⟨rfl, d, rfl, rfl⟩⟩) _)
theorem spots_refused_w {p b t : Nat} {R : Ru} {ks ss : List Nat} (P : Pot h p) (B : BookAt h b R) (T : TreeAt h t ks ss) (U : Ups ks 199) (q : ∀ h1, Pot h1 p → Ext [p] h h1 → Q (.bl true) h1) : WP (f__law_spots_refused [.ref p, .ref b, .ref t, .int ((ks.length + 1 : Nat) : Int)] h) Q E := by
  have ul := U.len
  have pl := P.lt
  have tp : t ≠ p := by
    obtain ⟨i, j, e, _⟩ := P
    intro z
    subst z
    rw [T] at e
    exact nomatch e
  unfold f__law_spots_refused b__law_spots_refused
  walk_at "into"
  walk_at "go"
  refine odd_w P (by omega) ?_
  intro d1 h1 O1 P1 x1
  walk_at "go"
  refine odd_w P1 (by omega) ?_
  intro d2 h2 O2 P2 x2
  have O1 := O1.ext1 P1 x2
  walk_at "go"
  refine draw_w P2 (by omega) ?_
  intro s h3 ls P3 x3
  have lsk : s ≤ ks.length := by omega
  have O1 := O1.ext1 P2 x3
  have O2 := O2.ext1 P2 x3
  have y3 := (x1.trans x2).trans x3
  have B3 : BookAt h3 b R := B.extP P y3
  have T3 : TreeAt h3 t ks ss := y3.get1 T tp
  have l1 : ks.length < 1000 := by omega
  have lp : h.length ≤ h3.length := y3.1
  clear x1 x2 x3 P1 P2 B T
  walk_at "go"
  refine wp_use0 (told_odd (d := d1) ?_) ?_
  · intro E' z Q'
    walk_at "go"
    exact odd_take_w T3 l1 O1 (z _ Ext.rfl')
  rintro d h4 ⟨m1, rfl, k1, b1, x4⟩
  refine wp_aNil ?_
  refine need (by simp [sizeLine]) ?_
  intro n h5 l5 x5 a5
  have T5 : Tolds h5 n [m1] [spotL d1] := ⟨a5, ⟨by have := lt_of_at b1; omega, x5.get0 b1⟩, True.intro⟩
  have z5 := x4.trans x5
  have nl : h3.length ≤ n := by have := x4.1; omega
  refine wf_gN (by walk_at "ls") ?_
  clear b1 a5 x4 x5
  refine wf_seq (wf_E (push_w T5 rfl (by simp) (told_odd (d := d1) ?_) ?_))
  · intro E' z Q'
    walk_at "go"
    refine wp_opF (xs := [.ref b, .ref t, d1]) ⟨rfl, rfl⟩ rfl ?_
    exact odd_take_w (z5.get0 T3) l1 (O1.ext0 z5) (z _ Ext.rfl')
  intro h6 m6 x6 T6
  have z6 := z5.new x6 nl
  clear x6 T5
  refine wf_seq (wf_E (push_w T6 rfl (by simp) (told_odd (d := d1) ?_) ?_))
  · intro E' z Q'
    walk_at "go"
    exact odd_give_w (z6.get0 T3) l1 (O1.ext0 z6) (z _ Ext.rfl')
  intro h7 m7 x7 T7
  have z7 := z6.new x7 nl
  clear x7 T6
  refine wf_seq (wf_E (push_w T7 rfl (by simp) (told_odd (d := d1) ?_) ?_))
  · intro E' z Q'
    walk_at "go"
    refine wp_opF (xs := [.ref b, .ref t, d1]) ⟨rfl, rfl⟩ rfl ?_
    exact odd_give_w (z7.get0 T3) l1 (O1.ext0 z7) (z _ Ext.rfl')
  intro h8 m8 x8 T8
  have z8 := z7.new x8 nl
  clear x8 T7
  refine wf_seq (wf_E (push_w T8 rfl (by simp) (told_odd (d := d1) ?_) ?_))
  · intro E' z Q'
    walk_at "go"
    exact odd_lift_w (z8.get0 T3) l1 (O1.ext0 z8) (z _ Ext.rfl')
  intro h9 m9 x9 T9
  have z9 := z8.new x9 nl
  clear x9 T8
  refine wf_seq (wf_E (push_w T9 rfl (by simp) (told_odd (d := d1) ?_) ?_))
  · intro E' z Q'
    walk_at "go"
    refine wp_opF (xs := [.ref b, .ref t, d1]) ⟨rfl, rfl⟩ rfl ?_
    exact odd_lift_w (z9.get0 T3) l1 (O1.ext0 z9) (z _ Ext.rfl')
  intro h10 m10 x10 T10
  have z10 := z9.new x10 nl
  clear x10 T9
  refine wf_seq (wf_E (push_w T10 rfl (by simp) (told_odd (d := d1) ?_) ?_))
  · intro E' z Q'
    walk_at "go"
    exact odd_settle_w (z10.get0 T3) l1 (O1.ext0 z10) (z _ Ext.rfl')
  intro h11 m11 x11 T11
  have z11 := z10.new x11 nl
  clear x11 T10
  refine wf_seq (wf_E (push_w T11 rfl (by simp) (told_odd (d := d1) ?_) ?_))
  · intro E' z Q'
    walk_at "go"
    refine wp_opF (xs := [.ref t, d1]) ⟨rfl, rfl⟩ rfl ?_
    exact odd_settle_w (z11.get0 T3) l1 (O1.ext0 z11) (z _ Ext.rfl')
  intro h12 m12 x12 T12
  have z12 := z11.new x12 nl
  clear x12 T11
  refine wf_seq (wf_E (push_w T12 rfl (by simp) (told_odd (d := d1) ?_) ?_))
  · intro E' z Q'
    walk_at "go"
    exact odd_move1_w (B3.ext z12) (z12.get0 T3) l1 (O1.ext0 z12) (z _ Ext.rfl')
  intro h13 m13 x13 T13
  have z13 := z12.new x13 nl
  clear x13 T12
  refine wf_seq (wf_E (push_w T13 rfl (by simp) (told_odd (d := d1) ?_) ?_))
  · intro E' z Q'
    walk_at "go"
    exact odd_move1_w (B3.ext z13) (z13.get0 T3) l1 (O1.ext0 z13) (z _ Ext.rfl')
  intro h14 m14 x14 T14
  have z14 := z13.new x14 nl
  clear x14 T13
  refine wf_seq (wf_E (push_w T14 rfl (by simp) (told_odd (d := d1) ?_) ?_))
  · intro E' z Q'
    walk_at "go"
    refine wp_opF (xs := [.ref b, .ref t, d1, d2]) ⟨rfl, rfl⟩ rfl ?_
    exact odd_move1_w (B3.ext z14) (z14.get0 T3) l1 (O1.ext0 z14) (z _ Ext.rfl')
  intro h15 m15 x15 T15
  have z15 := z14.new x15 nl
  clear x15 T14
  refine wf_seq (wf_E (push_w T15 rfl (by simp) (told_odd (d := d1) ?_) ?_))
  · intro E' z Q'
    walk_at "go"
    exact odd_move2_w (B3.ext z15) (z15.get0 T3) U lsk (O1.ext0 z15) z
  intro h16 m16 x16 T16
  have z16 := z15.new x16 nl
  clear x16 T15
  refine wf_seq (wf_E (push_w T16 rfl (by simp) (told_odd (d := d1) ?_) ?_))
  · intro E' z Q'
    walk_at "go"
    refine wp_opF (xs := [.ref b, .ref t, .int (s : Int), d1]) ⟨rfl, rfl⟩ rfl ?_
    exact odd_move2_w (B3.ext z16) (z16.get0 T3) U lsk (O1.ext0 z16) z
  intro h17 m17 x17 T17
  have z17 := z16.new x17 nl
  clear x17 T16
  obtain ⟨a, ea, br⟩ := (O1.ext0 z17).data
  have bl : Brief 3 308 (.list [.str "spot", a, .bool true]) := Brief.up (brief_list (k := 2) (m := 100) (xs := [.str "spot", a, .bool true]) (by
    intro x m
    simp only [List.mem_cons, List.not_mem_nil, or_false] at m
    rcases m with rfl | rfl | rfl
    · exact ⟨by decide +kernel, by decide +kernel, by decide +kernel⟩
    · exact br
    · exact ⟨by decide +kernel, by decide +kernel, by decide +kernel⟩)) (Nat.le_refl _) (by simp)
  have bb : Brief 4 4032 (.list (List.replicate 13 (.list [.str "spot", a, .bool true]))) := Brief.up (brief_list (k := 3) (m := 308) (xs := List.replicate 13 (.list [.str "spot", a, .bool true])) (by
    intro x m
    rw [List.eq_of_mem_replicate m]
    exact bl)) (Nat.le_refl _) (by simp)
  have one : ∀ {h' : LH}, deepK h' 58 d1 = some a → mapO (deepK h' 58) (spotL d1) = some [.str "spot", a, .bool true] := fun e => mapO_cons (deepK_flat rfl rfl) (mapO_cons e (mapO_cons (deepK_flat rfl rfl) mapO_nil))
  have e1 : deepK h17 60 (.ref n) = some (.list (List.replicate 13 (.list [.str "spot", a, .bool true]))) := by
    refine deepK_list T17.lst ?_
    refine (T17.all.deepK (k := 58) (ds := List.replicate 13 [.str "spot", a, .bool true]) (mapO_same (y := [.str "spot", a, .bool true]) ?_)).trans (by rw [List.map_replicate])
    intro L m
    have : L = spotL d1 := by simpa using m
    rw [this]
    exact one ea
  walk_at "go"
  refine wp_repK e1 (showK_of bb) ?_
  walk_at "go"
  intro k1 h18 l18 x18 a18
  walk_at "go"
  intro k2 h19 l19 x19 a19
  refine wp_mulL a19 (by simp [sizeLine]) ?_
  intro k3 h20 l20 x20 a20
  have y20 := (x18.trans x19).trans x20
  have c18 := (x19.trans x20).get0 a18
  have z20 := z17.trans y20
  have ea2 : deepK h20 58 d1 = some a := deepK_mono y20 _ _ _ ea
  have e2 : deepK h20 60 (.ref k3) = some (.list (List.replicate 13 (.list [.str "spot", a, .bool true]))) := by
    refine deepK_list a20 (mapO_same (y := PyData.list [.str "spot", a, .bool true]) ?_)
    intro L m
    have : L = .ref k1 := by simpa using m
    rw [this]
    exact deepK_list c18 (one ea2)
  walk_at "go"
  refine wp_repK e2 (showK_of bb) ?_
  walk_at "go"
  rw [decide_eq_true rfl]
  exact q h20 (P3.ext z20 (by simp)) (y3.then0 z20)
end

theorem br_mid {c : Prop} [Decidable c] {f g : F} {N B C : NP} {T : D → LH → Prop} {E : EP} (M : LS → LH → Prop) (p : c → WF f M (fun _ _ => False) noN noN noE) (p' : ¬ c → WF g M (fun _ _ => False) noN noN noE) (q : ∀ r h, M r h → N r h) : Br (decide c) (WF f N T B C E) (WF g N T B C E) :=
  br_d (fun z => wf_use (p z) q (fun _ _ z => z.elim) (fun _ _ z => z.elim) (fun _ _ z => z.elim) (fun _ _ _ z => z.elim)) (fun z => wf_use (p' z) q (fun _ _ z => z.elim) (fun _ _ z => z.elim) (fun _ _ z => z.elim) (fun _ _ _ z => z.elim))
theorem sok_last {ks : List Nat} (U : Ups ks 199) (l : 0 < ks.length) : SOk ks [ks.length] := by
  refine SOk.push (ss := []) SOk.nil ⟨l, Nat.le_refl _⟩ (by simp) ?_
  intro c m
  obtain ⟨j, rfl, e⟩ := kids_mem.1 m
  have := U.up j _ e
  have := (List.getElem?_eq_some_iff.1 e).1
  omega
theorem Ok.bare {R : Ru} (K : Ok R) : Ok { { R with move := [] } with lift := [] } := ⟨K.fails, K.batch, K.holds, K.take, K.late, K.give, (show moveP [] = true by decide +kernel), fun _ => .inl rfl, lifts_ok [] (by decide)⟩
section
variable {E : EP} {Q : D → LH → Prop} {h : LH}
theorem right_w {p : Nat} (P : Pot h p) (q : ∀ h1, Ext [p] h h1 → Q (.bl true) h1) : WP (f__law_right [.ref p] h) Q E := by
  have pl := P.lt
  unfold f__law_right b__law_right
  walk_at "into"
  walk_at "go"
  refine ups_w (m := 7) P (by omega) ?_
  intro u ks h1 l1 U A P1 x1
  have ul := U.len
  have U' : Ups ks 199 := U.mono (by decide)
  have A1 : h1[u]? = some (.lst (.non :: iD ks)) := A
  have al := lt_of_at A1
  have up : u ≠ p := by omega
  walk_at "go"
  refine draw_w P1 (by omega) ?_
  intro w h2 lw P2 x2
  have A2 := x2.get1 A1 up
  walk_at "go"
  refine rules_w (w := w) (by omega) P2 ?_
  intro n h3 R l3 A3 K P3 x3
  have A3u := x3.get1 A2 up
  have y3 := (x1.trans x2).trans x3
  have len1 : (D.non :: iD ks).length = ks.length + 1 := by rw [List.length_cons, iD_len]
  clear A A1 A2 P1 P2 x1 x2 x3
  rw [len1]
  walk_at "go"
  refine draw_w P3 (by omega) ?_
  intro k h4 lk P4 x4
  have A4u := x4.get1 A3u up
  obtain ⟨kvs, e3, RK, nd⟩ := A3
  have np : n ≠ p := by
    obtain ⟨i, j, ep, _⟩ := P3
    intro z
    subst z
    rw [e3] at ep
    exact nomatch ep
  have e4 := x4.get1 e3 np
  have y4 := y3.trans x4
  clear A3u P3 x4 e3 y3
  walk_at "go"
  refine br_mid (fun r h' => ∃ n R, r = [some (.ref p), some (.ref u), none, none, some (.int ((ks.length + 1 : Nat) : Int)), some (.ref n), none, none] ∧ RulesAt h' n R ∧ Ok R ∧ Pot h' p ∧ UpsAt h' u ks ∧ Ext [p] h h') (fun _ => ?_) (fun _ => ?_) ?_
  · have few := RK.few
    walk_at "go"
    refine wp_eDictPlus ?_
    walk_at "go"
    refine dctat e4 ?_
    walk_at "go"
    intro l5 h5 k5 x5 a5
    refine wp_plusD (ps := [((.inr (wd 14) : Ky), D.tup []), ((.inr (wd 15) : Ky), D.tup [])]) a5 rfl (by simp only [List.length_cons, List.length_nil]; unfold sizeLine; omega) ?_
    intro f h6 l6 x6 a6
    have y6 := x5.trans x6
    rw [merge_self nd] at a6
    walk_at "go"
    exact ⟨f, _, rfl, ⟨_, a6, (RK.setMove []).setLift []⟩, K.bare, P4.ext y6 (by simp), y6.get0 A4u, y4.then0 y6⟩
  · walk_at "go"
    exact ⟨n, R, rfl, ⟨_, e4, RK⟩, K, P4, A4u, y4⟩
  clear A4u e4 P4 y4 nd RK kvs K R np lk k lw w
  rintro r h5 ⟨n, R, rfl, A5, K, P5, Au5, y5⟩
  refine wf_seq (wf_Asg (wp_use0 (Q' := fun d h' => ∃ s ss, d = .ref s ∧ s ≠ p ∧ h'[s]? = some (.lst (iD ss)) ∧ SOk ks ss ∧ ss.length ≤ 1 ∧ Pot h' p ∧ UpsAt h' u ks ∧ RulesAt h' n R ∧ Ext [p] h h') ?_ ?_))
  · walk_at "go"
    refine br_d (fun c => ?_) (fun c => ?_)
    · walk_at "go"
      refine draw_w P5 (by omega) ?_
      intro k h6 lk P6 x6
      have pl6 := P6.lt
      have y6 := y5.trans x6
      have A6 : UpsAt h6 u ks := x6.get1 Au5 up
      have R6 := A5.extP P5 x6
      walk_at "go"
      refine br_d (fun c2 => ?_) (fun c2 => ?_)
      · walk_at "go"
        intro s h7 l7 x7 a7
        have e : ((ks.length + 1 : Nat) : Int) - 1 = (ks.length : Int) := by omega
        rw [e] at a7
        exact ⟨s, [ks.length], rfl, by omega, a7, sok_last U' (by omega), by simp, P6.ext x7 (by simp), x7.get0 A6, R6.ext x7 (by simp), y6.then0 x7⟩
      · walk_at "go"
        intro s h7 l7 x7 a7
        exact ⟨s, [], rfl, by omega, a7, SOk.nil, by simp, P6.ext x7 (by simp), x7.get0 A6, R6.ext x7 (by simp), y6.then0 x7⟩
    · walk_at "go"
      have pl5 := P5.lt
      intro s h7 l7 x7 a7
      exact ⟨s, [], rfl, by omega, a7, SOk.nil, by simp, P5.ext x7 (by simp), x7.get0 Au5, A5.ext x7 (by simp), y5.then0 x7⟩
  clear A5 P5 Au5 y5
  rintro d h6 ⟨s, ss, rfl, sp, a6, S, sl, P6, A6, R6, y6⟩
  have A6' : h6[u]? = some (.lst (.non :: iD ks)) := A6
  walk_at "go"
  refine law_book_w R6 K ?_
  intro b h7 l7 x7 B7
  have A7 := x7.get0 A6'
  walk_at "go"
  intro v h8 l8 x8 a8
  rw [cut1N] at a8
  have s8 := x8.get0 (x7.get0 a6)
  walk_at "go"
  refine make_w (ks := ks) (ss := ss) ⟨rfl, rfl⟩ (fun _ => rfl) (.inr ⟨v, rfl, a8⟩) (.inr ⟨s, rfl, s8⟩) ⟨U', S⟩ (by omega) ?_
  intro t h9 l9 x9 T9
  have z9 := (x7.trans x8).trans x9
  have B9 := B7.ext (x8.trans x9)
  have P9 := P6.ext z9 (by simp)
  have A9 := z9.get0 A6'
  have R9 := R6.ext z9 (by simp)
  have s9 := x9.get0 s8
  have y9 := y6.then0 z9
  clear A6 A6' P6 R6 y6 A7 a6 s8 a8 x7 x8 x9 z9 B7
  walk_at "go"
  refine spots_let_w B9 K T9 U' ?_
  intro h10 x10
  have B10 := B9.ext x10
  have P10 := P9.ext x10 (by simp)
  have A10 := x10.get0 A9
  have R10 := R9.ext x10 (by simp)
  have s10 := x10.get0 s9
  have T10 : TreeAt h10 t ks (sortN ss) := x10.get0 T9
  have y10 := y9.then0 x10
  clear B9 P9 A9 R9 s9 T9 y9 x10
  walk_at "go"
  refine wf_forR 6 (by decide) (by decide) (fun i r h' => ∃ c3, r = [some (.ref p), some (.ref u), some (.ref s), c3, some (.int ((ks.length + 1 : Nat) : Int)), some (.ref n), some (.ref b), some (.ref t)] ∧ BookAt h' b R ∧ Pot h' p ∧ h'[u]? = some (.lst (.non :: iD ks)) ∧ RulesAt h' n R ∧ h'[s]? = some (.lst (iD ss)) ∧ TreeAt h' t ks (sortN ss) ∧ Ext [p] h h') ⟨_, rfl, B10, P10, A10, R10, s10, T10, y10⟩ ?_ ?_
  · clear B10 P10 A10 R10 s10 T10 y10
    rintro r h11 ⟨c3, rfl, B11, P11, A11, R11, s11, T11, y11⟩
    walk_at "go"
    refine spots_let_w B11 K T11 U' ?_
    intro h12 x12
    walk_at "go"
    refine law_book_w (R11.ext x12 (by simp)) K ?_
    intro b2 h13 l13 x13 B13
    walk_at "go"
    refine eqB_w (B11.ext (x12.trans x13)) B13 ?_
    intro h14 x14
    have z14 := (x12.trans x13).trans x14
    have A14 := z14.get0 A11
    have s14 := z14.get0 s11
    have T14 : TreeAt h14 t ks (sortN ss) := z14.get0 T11
    walk_at "go"
    intro v2 h15 l15 x15 a15
    rw [cut1N] at a15
    walk_at "go"
    refine make_w (ks := ks) (ss := ss) ⟨rfl, rfl⟩ (fun _ => rfl) (.inr ⟨v2, rfl, a15⟩) (.inr ⟨s, rfl, x15.get0 s14⟩) ⟨U', S⟩ (by omega) ?_
    intro t2 h16 l16 x16 T16
    walk_at "go"
    refine eqT_w (b := true) (x16.get0 (x15.get0 T14)) T16 (by simp) ?_
    exact q h16 (((y11.then0 z14).then0 x15).then0 x16)
  · clear B10 P10 A10 R10 s10 T10 y10 q
    rintro i r h11 li ⟨c3, rfl, B11, P11, A11, R11, s11, T11, y11⟩
    have tp : t ≠ p := by
      obtain ⟨i, j, e, _⟩ := P11
      intro z
      subst z
      rw [T11] at e
      exact nomatch e
    walk_at "go"
    refine spots_refused_w P11 B11 T11 U' ?_
    intro h12 P12 x12
    walk_at "go"
    exact ⟨_, rfl, B11.extP P11 x12, P12, x12.get1 A11 up, R11.extP P11 x12, x12.get1 s11 sp, x12.get1 T11 tp, y11.trans x12⟩
end
theorem law_true : ∀ ns : List Int, ns.length ≤ 63 → ∃ h', f_law [.scr ns] [] = .ok (.bl true) h' := by
  intro ns hl
  have main : WP (f_law [.scr ns] []) (fun d _ => d = .bl true) noE := by
    unfold f_law b_law
    walk_at "into"
    walk_at "go"
    have ge : ∃ z : Int, (if (if 4 < ((ns.map D.int).length : Int) then 4 else ((ns.map D.int).length : Int)) > 1 then (if 4 < ((ns.map D.int).length : Int) then 4 else ((ns.map D.int).length : Int)) else 1) = z ∧ 0 ≤ z ∧ z ≤ 4 := by
      refine ⟨_, rfl, ?_, ?_⟩ <;> split <;> split <;> omega
    obtain ⟨z, ge, z0, z2⟩ := ge
    rw [ge]
    walk_at "go"
    obtain ⟨m, rfl⟩ : ∃ m : Nat, z = m := ⟨z.toNat, by omega⟩
    refine wp_mapN (fun _ => .bl true) gives_range (by simp; omega) ?_ ?_
    · intro c mc h5 x5
      rw [List.mem_range] at mc
      refine ⟨_, rfl, ?_⟩
      walk_at "go"
      refine pot_w (by omega) ?_
      intro p h6 l6 P6 x6
      walk_at "go"
      refine right_w P6 ?_
      intro h7 x7
      exact ⟨rfl, x6.new x7 l6⟩
    intro n' h6 l6 x6 a6
    walk_at "go"
    refine wp_allT a6 ?_
    rfl
  obtain ⟨a, h', e, rfl⟩ := wp_eq main
  exact ⟨h', e⟩
end
end Lw

set_option Elab.async false
set_option maxRecDepth 100000
namespace Lw
open PySem PySem.Spec
theorem tab_by {K : PySem.W.Frag} {x : Str} {f c P : Addr} {oc oc2 : Value} {od od2 : Option Addr} {fd : FuncData} {sl sl2 : Array (Option Value)} {vs : Array Value} (e1 : PySem.W.nsIn K mainGlobals x = some (some (.ref f))) (e2 : K.lookup f = some ⟨oc, od, .func fd, sl⟩)
    (e3 : fd.code = .ref c) (e4 : K.lookup c = some ⟨oc2, od2, .fields vs, sl2⟩) (e5 : (vs[11]? : Option Value) = some (.ref P)) : PySem.W.tabIn K x = some (c, P) := by
  unfold PySem.W.tabIn
  simp only [e1, e2, e3, e4, e5]
end Lw
open PySem PySem.W PyProof.Rows in
set_option maxRecDepth 100000 in
set_option maxHeartbeats 0 in
theorem PySem.Challenge.cw_chargeways_k29_plans_refused_holds : PySem.Challenge.rw_chargeways_k29_plans_refused.Holds := by
  w_on; o_law; k_head; (case hw => w_witness2)
  k_fill
  refine Py.walk_gT (l := PySem.Challenge.rw_chargeways_k29_plans_refused) (n := 63) (k := 12) (x := "_law_script") rfl (by decide) rfl ⟨rfl, by decide, by decide⟩ (fun w h Y => PySem.W.km_in_of Y) ?F
  case F =>
    intro w mg fa h KX G hmg tabOf
    refine' Lw.all_mk Lw.law_true KX G hmg ?aC_Tree ?pg_Tree ?hd_Tree ?po_Tree ?sa_Tree ?mk_Tree ?kc_Tree ?ia_Tree ?ib_Tree ?ic_Tree ?id_Tree ?ie_Tree ?ig_Tree ?if_Tree ?aC_Book ?pg_Book ?hd_Book ?po_Book ?sa_Book ?mk_Book ?kc_Book ?ia_Book ?ib_Book ?ic_Book ?id_Book ?ie_Book ?ig_Book ?if_Book ?aC_IsTop ?xk_IsTop ?xs_IsTop ?xt_IsTop ?xq_IsTop ?aC_InvalidGroup ?xk_InvalidGroup ?xs_InvalidGroup ?xt_InvalidGroup ?xa_InvalidGroup ?xb_InvalidGroup ?xc_InvalidGroup ?xd_InvalidGroup ?xh_InvalidGroup ?xe_InvalidGroup ?xg_InvalidGroup ?xn_InvalidGroup ?xm_IsTop_InvalidGroup ?xm_IsTop_IsTop ?xm_InvalidGroup_InvalidGroup ?xm_InvalidGroup_IsTop ?a_InvalidGroup___init__ ?i_InvalidGroup___init__ ?l_InvalidGroup___init__ ?c_InvalidGroup___init__ ?k_InvalidGroup___init__ ?aC_WayError ?ea_InvalidGroup ?eb_InvalidGroup ?es_InvalidGroup ?ed_InvalidGroup ?ee_InvalidGroup ?ef_InvalidGroup ?eg_InvalidGroup ?eh_InvalidGroup ?ki_InvalidGroup_ValueError ?ki_InvalidGroup_WayError ?dt__law_spots_refused__law_spots_let ?na_own_parents ?na_own_struck ?na_own_rows ?na_own_fails ?na_own_shared ?na_own_holds ?na_own_batch ?na_own_settles ?a__law_draw ?l__law_draw ?c__law_draw ?k__law_draw ?a__law_ups ?l__law_ups ?c__law_ups ?k__law_ups ?a__law_pick ?l__law_pick ?c__law_pick ?k__law_pick ?a__law_menu ?l__law_menu ?c__law_menu ?k__law_menu ?a__law_rules ?l__law_rules ?c__law_rules ?k__law_rules ?a_is_list ?l_is_list ?c_is_list ?k_is_list ?a_is_integer ?l_is_integer ?c_is_integer ?k_is_integer ?a_is_count ?l_is_count ?c_is_count ?k_is_count ?a_want_room ?l_want_room ?c_want_room ?k_want_room ?a_want_parents ?l_want_parents ?c_want_parents ?k_want_parents ?a_children_of ?l_children_of ?c_children_of ?k_children_of ?a_want_struck ?l_want_struck ?c_want_struck ?k_want_struck ?a_Tree___init__ ?i_Tree___init__ ?l_Tree___init__ ?c_Tree___init__ ?k_Tree___init__ ?t_Tree___init__ ?t_z0_Tree___init__ ?t_z1_Tree___init__ ?a_are_words ?l_are_words ?c_are_words ?k_are_words ?a_are_tests_ahead ?l_are_tests_ahead ?c_are_tests_ahead ?k_are_tests_ahead ?a_is_take ?l_is_take ?c_is_take ?k_is_take ?a_is_behind ?l_is_behind ?c_is_behind ?k_is_behind ?a_is_give ?l_is_give ?c_is_give ?k_is_give ?a_is_move ?l_is_move ?c_is_move ?k_is_move ?a_is_lift ?l_is_lift ?c_is_lift ?k_is_lift ?a_is_row ?l_is_row ?c_is_row ?k_is_row ?a_want_word ?l_want_word ?c_want_word ?k_want_word ?a_are_holds ?l_are_holds ?c_are_holds ?k_are_holds ?a_holds_in_sequence ?l_holds_in_sequence ?c_holds_in_sequence ?k_holds_in_sequence ?a_want_batch ?l_want_batch ?c_want_batch ?k_want_batch ?a_Book___init__ ?i_Book___init__ ?l_Book___init__ ?c_Book___init__ ?k_Book___init__ ?a__law_book ?l__law_book ?c__law_book ?k__law_book ?a__law_told ?l__law_told ?c__law_told ?k__law_told ?a_Tree___len__ ?i_Tree___len__ ?l_Tree___len__ ?c_Tree___len__ ?k_Tree___len__ ?a_Tree_want_group ?i_Tree_want_group ?l_Tree_want_group ?c_Tree_want_group ?k_Tree_want_group ?a_Tree_way ?i_Tree_way ?l_Tree_way ?c_Tree_way ?k_Tree_way ?a_want_kind ?l_want_kind ?c_want_kind ?k_want_kind ?a_Book_row ?i_Book_row ?l_Book_row ?c_Book_row ?k_Book_row ?a_along ?l_along ?c_along ?k_along ?a_take_plan ?l_take_plan ?c_take_plan ?k_take_plan ?a_give_plan ?l_give_plan ?c_give_plan ?k_give_plan ?a_settle_plan ?l_settle_plan ?c_settle_plan ?k_settle_plan ?pa_Book_shared ?pd_Book_shared ?pb_Book_shared ?pc_Book_shared ?l_Book_shared ?c_Book_shared ?k_Book_shared ?a_Tree_apart ?i_Tree_apart ?l_Tree_apart ?c_Tree_apart ?k_Tree_apart ?a_move_ways ?l_move_ways ?c_move_ways ?k_move_ways ?a_move_plan ?l_move_plan ?c_move_plan ?k_move_plan ?a_Tree_parent ?i_Tree_parent ?l_Tree_parent ?c_Tree_parent ?k_Tree_parent ?a_lift_plan ?l_lift_plan ?c_lift_plan ?k_lift_plan ?a__law_spots_let ?tb__law_spots_let ?tn__law_spots_let ?l__law_spots_let ?c__law_spots_let ?k__law_spots_let ?a__law_odd ?l__law_odd ?c__law_odd ?k__law_odd ?a__law_spots_refused ?tb__law_spots_refused ?tn__law_spots_refused ?l__law_spots_refused ?c__law_spots_refused ?k__law_spots_refused ?a_Book_others ?i_Book_others ?l_Book_others ?c_Book_others ?k_Book_others ?a_Book___eq__ ?i_Book___eq__ ?l_Book___eq__ ?c_Book___eq__ ?k_Book___eq__ ?a_Tree___eq__ ?i_Tree___eq__ ?l_Tree___eq__ ?c_Tree___eq__ ?k_Tree___eq__ ?a__law_right ?l__law_right ?c__law_right ?k__law_right ?a__law_pot ?l__law_pot ?c__law_pot ?k__law_pot ?a_law ?l_law ?c_law ?k_law ?z_ValueError ?z_abs ?z_all ?z_bool ?z_dict ?z_divmod ?z_enumerate ?z_int ?z_isinstance ?z_len ?z_list ?z_max ?z_min ?z_range ?z_repr ?z_sorted ?z_str ?z_tuple ?y_ADD ?y_BOTH ?y_END ?y_FAILS ?tt_FAILS ?y_GIVE ?y_GIVE_WORDS ?tt_GIVE_WORDS ?y_GREATEST_BATCH ?y_HOLDING ?tt_HOLDING ?y_HOME ?y_LIFT ?y_LIFTS ?tt_LIFTS ?tt_LIFTS_0 ?tt_LIFTS_1 ?tt_LIFTS_2 ?tt_LIFTS_3 ?tt_LIFTS_4 ?tt_LIFTS_5 ?y_LIVE ?y_LOOK ?y_MOST_GROUPS ?y_MOVE ?y_MOVE_WORDS ?tt_MOVE_WORDS ?y_OFF ?y_SET ?y_TAKE ?y_TAKE_WORDS ?tt_TAKE_WORDS ?y_TESTS ?tt_TESTS ?y_TOP ?y_TRY tabOf ?rc__law_spots_let ?rc__law_spots_refused
    (case aC_Tree => k_is)
    (case pg_Tree => k_is)
    (case hd_Tree => k_is)
    (case po_Tree => k_is)
    (case sa_Tree => k_is)
    (case mk_Tree => k_is)
    (case kc_Tree => k_is)
    (case ia_Tree => k_is)
    (case ib_Tree => k_is)
    (case ic_Tree => k_is)
    (case id_Tree => k_is)
    (case ie_Tree => k_is)
    (case ig_Tree => k_is)
    (case if_Tree => k_is)
    (case aC_Book => k_is)
    (case pg_Book => k_is)
    (case hd_Book => k_is)
    (case po_Book => k_is)
    (case sa_Book => k_is)
    (case mk_Book => k_is)
    (case kc_Book => k_is)
    (case ia_Book => k_is)
    (case ib_Book => k_is)
    (case ic_Book => k_is)
    (case id_Book => k_is)
    (case ie_Book => k_is)
    (case ig_Book => k_is)
    (case if_Book => k_is)
    (case aC_IsTop => k_is)
    (case xk_IsTop => k_is)
    (case xs_IsTop => k_is)
    (case xt_IsTop => k_is)
    (case xq_IsTop => k_exc)
    (case aC_InvalidGroup => k_is)
    (case xk_InvalidGroup => k_is)
    (case xs_InvalidGroup => k_is)
    (case xt_InvalidGroup => k_is)
    (case xa_InvalidGroup => kx_is)
    (case xb_InvalidGroup => kx_is)
    (case xc_InvalidGroup => k_is)
    (case xd_InvalidGroup => k_is)
    (case xh_InvalidGroup => k_is)
    (case xe_InvalidGroup => k_is)
    (case xg_InvalidGroup => k_is)
    (case xn_InvalidGroup => k_is)
    (case xm_IsTop_InvalidGroup => kts_exm)
    (case xm_IsTop_IsTop => kts_exm)
    (case xm_InvalidGroup_InvalidGroup => kts_exm)
    (case xm_InvalidGroup_IsTop => kts_exm)
    (case a_InvalidGroup___init__ => k_is)
    (case i_InvalidGroup___init__ => k_is)
    (case l_InvalidGroup___init__ => k_is)
    (case c_InvalidGroup___init__ => k_is)
    (case k_InvalidGroup___init__ => k_is)
    (case aC_WayError => k_is)
    (case ea_InvalidGroup => k_is)
    (case eb_InvalidGroup => k_is)
    (case es_InvalidGroup => k_is)
    (case ed_InvalidGroup => k_is)
    (case ee_InvalidGroup => k_is)
    (case ef_InvalidGroup => k_is)
    (case eg_InvalidGroup => k_is)
    (case eh_InvalidGroup => k_is)
    (case ki_InvalidGroup_ValueError => kit_is)
    (case ki_InvalidGroup_WayError => kit_is)
    (case na_own_parents => k_is)
    (case na_own_struck => k_is)
    (case na_own_rows => k_is)
    (case na_own_fails => k_is)
    (case na_own_shared => k_is)
    (case na_own_holds => k_is)
    (case na_own_batch => k_is)
    (case na_own_settles => k_is)
    (case a__law_draw => k_is)
    (case l__law_draw => k_is)
    (case c__law_draw => k_is)
    (case k__law_draw => k_is)
    (case a__law_ups => k_is)
    (case l__law_ups => k_is)
    (case c__law_ups => k_is)
    (case k__law_ups => k_is)
    (case a__law_pick => k_is)
    (case l__law_pick => k_is)
    (case c__law_pick => k_is)
    (case k__law_pick => k_is)
    (case a__law_menu => k_is)
    (case l__law_menu => k_is)
    (case c__law_menu => k_is)
    (case k__law_menu => k_is)
    (case a__law_rules => k_is)
    (case l__law_rules => k_is)
    (case c__law_rules => k_is)
    (case k__law_rules => k_is)
    (case a_is_list => k_is)
    (case l_is_list => k_is)
    (case c_is_list => k_is)
    (case k_is_list => k_is)
    (case a_is_integer => k_is)
    (case l_is_integer => k_is)
    (case c_is_integer => k_is)
    (case k_is_integer => k_is)
    (case a_is_count => k_is)
    (case l_is_count => k_is)
    (case c_is_count => k_is)
    (case k_is_count => k_is)
    (case a_want_room => k_is)
    (case l_want_room => k_is)
    (case c_want_room => k_is)
    (case k_want_room => k_is)
    (case a_want_parents => k_is)
    (case l_want_parents => k_is)
    (case c_want_parents => k_is)
    (case k_want_parents => k_is)
    (case a_children_of => k_is)
    (case l_children_of => k_is)
    (case c_children_of => k_is)
    (case k_children_of => k_is)
    (case a_want_struck => k_is)
    (case l_want_struck => k_is)
    (case c_want_struck => k_is)
    (case k_want_struck => k_is)
    (case a_Tree___init__ => k_is)
    (case i_Tree___init__ => k_is)
    (case l_Tree___init__ => k_is)
    (case c_Tree___init__ => k_is)
    (case k_Tree___init__ => k_is)
    (case t_Tree___init__ => k_is)
    (case t_z0_Tree___init__ => k_is)
    (case t_z1_Tree___init__ => k_is)
    (case a_are_words => k_is)
    (case l_are_words => k_is)
    (case c_are_words => k_is)
    (case k_are_words => k_is)
    (case a_are_tests_ahead => k_is)
    (case l_are_tests_ahead => k_is)
    (case c_are_tests_ahead => k_is)
    (case k_are_tests_ahead => k_is)
    (case a_is_take => k_is)
    (case l_is_take => k_is)
    (case c_is_take => k_is)
    (case k_is_take => k_is)
    (case a_is_behind => k_is)
    (case l_is_behind => k_is)
    (case c_is_behind => k_is)
    (case k_is_behind => k_is)
    (case a_is_give => k_is)
    (case l_is_give => k_is)
    (case c_is_give => k_is)
    (case k_is_give => k_is)
    (case a_is_move => k_is)
    (case l_is_move => k_is)
    (case c_is_move => k_is)
    (case k_is_move => k_is)
    (case a_is_lift => k_is)
    (case l_is_lift => k_is)
    (case c_is_lift => k_is)
    (case k_is_lift => k_is)
    (case a_is_row => k_is)
    (case l_is_row => k_is)
    (case c_is_row => k_is)
    (case k_is_row => k_is)
    (case a_want_word => k_is)
    (case l_want_word => k_is)
    (case c_want_word => k_is)
    (case k_want_word => k_is)
    (case a_are_holds => k_is)
    (case l_are_holds => k_is)
    (case c_are_holds => k_is)
    (case k_are_holds => k_is)
    (case a_holds_in_sequence => k_is)
    (case l_holds_in_sequence => k_is)
    (case c_holds_in_sequence => k_is)
    (case k_holds_in_sequence => k_is)
    (case a_want_batch => k_is)
    (case l_want_batch => k_is)
    (case c_want_batch => k_is)
    (case k_want_batch => k_is)
    (case a_Book___init__ => k_is)
    (case i_Book___init__ => k_is)
    (case l_Book___init__ => k_is)
    (case c_Book___init__ => k_is)
    (case k_Book___init__ => k_is)
    (case a__law_book => k_is)
    (case l__law_book => k_is)
    (case c__law_book => k_is)
    (case k__law_book => k_is)
    (case a__law_told => k_is)
    (case l__law_told => k_is)
    (case c__law_told => k_is)
    (case k__law_told => k_is)
    (case a_Tree___len__ => k_is)
    (case i_Tree___len__ => k_is)
    (case l_Tree___len__ => k_is)
    (case c_Tree___len__ => k_is)
    (case k_Tree___len__ => k_is)
    (case a_Tree_want_group => k_is)
    (case i_Tree_want_group => k_is)
    (case l_Tree_want_group => k_is)
    (case c_Tree_want_group => k_is)
    (case k_Tree_want_group => k_is)
    (case a_Tree_way => k_is)
    (case i_Tree_way => k_is)
    (case l_Tree_way => k_is)
    (case c_Tree_way => k_is)
    (case k_Tree_way => k_is)
    (case a_want_kind => k_is)
    (case l_want_kind => k_is)
    (case c_want_kind => k_is)
    (case k_want_kind => k_is)
    (case a_Book_row => k_is)
    (case i_Book_row => k_is)
    (case l_Book_row => k_is)
    (case c_Book_row => k_is)
    (case k_Book_row => k_is)
    (case a_along => k_is)
    (case l_along => k_is)
    (case c_along => k_is)
    (case k_along => k_is)
    (case a_take_plan => k_is)
    (case l_take_plan => k_is)
    (case c_take_plan => k_is)
    (case k_take_plan => k_is)
    (case a_give_plan => k_is)
    (case l_give_plan => k_is)
    (case c_give_plan => k_is)
    (case k_give_plan => k_is)
    (case a_settle_plan => k_is)
    (case l_settle_plan => k_is)
    (case c_settle_plan => k_is)
    (case k_settle_plan => k_is)
    (case pa_Book_shared => k_is)
    (case pd_Book_shared => k_is)
    (case pb_Book_shared => k_is)
    (case pc_Book_shared => k_is)
    (case l_Book_shared => k_is)
    (case c_Book_shared => k_is)
    (case k_Book_shared => k_is)
    (case a_Tree_apart => k_is)
    (case i_Tree_apart => k_is)
    (case l_Tree_apart => k_is)
    (case c_Tree_apart => k_is)
    (case k_Tree_apart => k_is)
    (case a_move_ways => k_is)
    (case l_move_ways => k_is)
    (case c_move_ways => k_is)
    (case k_move_ways => k_is)
    (case a_move_plan => k_is)
    (case l_move_plan => k_is)
    (case c_move_plan => k_is)
    (case k_move_plan => k_is)
    (case a_Tree_parent => k_is)
    (case i_Tree_parent => k_is)
    (case l_Tree_parent => k_is)
    (case c_Tree_parent => k_is)
    (case k_Tree_parent => k_is)
    (case a_lift_plan => k_is)
    (case l_lift_plan => k_is)
    (case c_lift_plan => k_is)
    (case k_lift_plan => k_is)
    (case a__law_spots_let => k_is)
    (case l__law_spots_let => k_is)
    (case c__law_spots_let => k_is)
    (case k__law_spots_let => k_is)
    (case a__law_odd => k_is)
    (case l__law_odd => k_is)
    (case c__law_odd => k_is)
    (case k__law_odd => k_is)
    (case a__law_spots_refused => k_is)
    (case l__law_spots_refused => k_is)
    (case c__law_spots_refused => k_is)
    (case k__law_spots_refused => k_is)
    (case a_Book_others => k_is)
    (case i_Book_others => k_is)
    (case l_Book_others => k_is)
    (case c_Book_others => k_is)
    (case k_Book_others => k_is)
    (case a_Book___eq__ => k_is)
    (case i_Book___eq__ => k_is)
    (case l_Book___eq__ => k_is)
    (case c_Book___eq__ => k_is)
    (case k_Book___eq__ => k_is)
    (case a_Tree___eq__ => k_is)
    (case i_Tree___eq__ => k_is)
    (case l_Tree___eq__ => k_is)
    (case c_Tree___eq__ => k_is)
    (case k_Tree___eq__ => k_is)
    (case a__law_right => k_is)
    (case l__law_right => k_is)
    (case c__law_right => k_is)
    (case k__law_right => k_is)
    (case a__law_pot => k_is)
    (case l__law_pot => k_is)
    (case c__law_pot => k_is)
    (case k__law_pot => k_is)
    (case a_law => k_is)
    (case l_law => k_is)
    (case c_law => k_is)
    (case k_law => k_is)
    (case z_ValueError => k_is)
    (case z_abs => k_is)
    (case z_all => k_is)
    (case z_bool => k_is)
    (case z_dict => k_is)
    (case z_divmod => k_is)
    (case z_enumerate => k_is)
    (case z_int => k_is)
    (case z_isinstance => k_is)
    (case z_len => k_is)
    (case z_list => k_is)
    (case z_max => k_is)
    (case z_min => k_is)
    (case z_range => k_is)
    (case z_repr => k_is)
    (case z_sorted => k_is)
    (case z_str => k_is)
    (case z_tuple => k_is)
    (case y_ADD => k_is)
    (case y_BOTH => k_is)
    (case y_END => k_is)
    (case y_FAILS => k_is)
    (case tt_FAILS => k_is)
    (case y_GIVE => k_is)
    (case y_GIVE_WORDS => k_is)
    (case tt_GIVE_WORDS => k_is)
    (case y_GREATEST_BATCH => k_is)
    (case y_HOLDING => k_is)
    (case tt_HOLDING => k_is)
    (case y_HOME => k_is)
    (case y_LIFT => k_is)
    (case y_LIFTS => k_is)
    (case tt_LIFTS => k_is)
    (case tt_LIFTS_0 => k_is)
    (case tt_LIFTS_1 => k_is)
    (case tt_LIFTS_2 => k_is)
    (case tt_LIFTS_3 => k_is)
    (case tt_LIFTS_4 => k_is)
    (case tt_LIFTS_5 => k_is)
    (case y_LIVE => k_is)
    (case y_LOOK => k_is)
    (case y_MOST_GROUPS => k_is)
    (case y_MOVE => k_is)
    (case y_MOVE_WORDS => k_is)
    (case tt_MOVE_WORDS => k_is)
    (case y_OFF => k_is)
    (case y_SET => k_is)
    (case y_TAKE => k_is)
    (case y_TAKE_WORDS => k_is)
    (case tt_TAKE_WORDS => k_is)
    (case y_TESTS => k_is)
    (case tt_TESTS => k_is)
    (case y_TOP => k_is)
    (case y_TRY => k_is)
    (case tb__law_spots_let => (refine' Lw.tab_by ?e1 ?e2 ?e3 ?e4 ?e5); (case e1 => k_is); (case e2 => k_is); (case e3 => exact rfl); (case e4 => k_is); (case e5 => exact rfl))
    (case tn__law_spots_let => kernel_rfl)
    (case tb__law_spots_refused => (refine' Lw.tab_by ?e1 ?e2 ?e3 ?e4 ?e5); (case e1 => k_is); (case e2 => k_is); (case e3 => exact rfl); (case e4 => k_is); (case e5 => exact rfl))
    (case tn__law_spots_refused => kernel_rfl)
    (case dt__law_spots_refused__law_spots_let => exact (by decide))
    (case rc__law_spots_let => rfl)
    (case rc__law_spots_refused => rfl)
