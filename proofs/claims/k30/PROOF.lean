import PyProof.Rows.All
import Wide.All
import OpenK.AllK
import Wide.FinOn
import HandS.ForMost
import HandS.ForExc
import HandS.TryMany
import HandS.RevRange
import HandS.IsInst
import HandS.Style
import HandS.Deep
import HandS.More
import HandS.Conv
import HandS.TupLen
import HandS.ExcIs
import KE.KExcIs
import PySem.Challenge.RW_treemend_k30_a_part_moved
set_option Elab.async false
set_option linter.all false
/-! what a def of the text computes, as a plain function over plain data -/
namespace TM
open PySem

/-- a value: tuples are data, what may change is told by its number -/
inductive D where
  | non
  | bl (b : Bool)
  | int (i : Int)
  | str (x : Str)
  | tup (xs : List D)
  | ref (n : Nat)
  deriving Inhabited

/-- what stands at a number -/
inductive O where
  | lst (xs : List D)
  | frz (xs : List D)
  | dct (t : Nat) (kvs : List (D × D))
  | set (xs : List D)
  | ins (c : Nat) (fs : List (Str × D))
  deriving Inhabited

abbrev Hh := List O
/-- what a name holds: pin: the error that an except clause has caught -/
inductive Slot where
  | no
  | val (d : D)
  | pin
  deriving Inhabited
abbrev Env := List Slot

/-- an error: its class by number, its own fields -/
structure Exn where
  cls : Nat
  fs : List (Str × D)

inductive R (α : Type) where
  | ok (a : α) (h : Hh)
  | exc (c : Exn) (h : Hh)
  | bad

def R.bind {α β : Type} (r : R α) (k : α → Hh → R β) : R β := match r with
  | .ok a h => k a h
  | .exc c h => .exc c h
  | .bad => .bad

/-- what can't raise -/
def R.noX {α : Type} (r : R α) : R α := match r with
  | .ok a h => .ok a h
  | _ => .bad

/-- how a statement ends -/
inductive RS where
  | nx (e : Env) (h : Hh)
  | rt (d : D) (h : Hh)
  | bk (e : Env) (h : Hh)
  | ct (e : Env) (h : Hh)
  | exc (c : Exn) (e : Env) (h : Hh)
  | bad

abbrev E := Env → Hh → R D
abbrev As := Env → Hh → R (List D)
abbrev T := Env → Hh → R Bool
abbrev S := Env → Hh → RS
abbrev F := List D → Hh → R D

/-! ### expressions -/
def eVar (i : Nat) : E := fun e h => match e[i]? with
  | some (.val d) => .ok d h
  | _ => .bad
def eC (d : D) : E := fun _ h => .ok d h
def eBin (op : D → D → Hh → R D) (a b : E) : E := fun e h => (a e h).bind fun x h1 => (b e h1).bind fun y h2 => (op x y h2).noX
def eUn (op : D → Hh → R D) (a : E) : E := fun e h => (a e h).bind fun x h1 => (op x h1).noX
/-- a < b < c -/
def eChain (op op' : D → D → Hh → R D) (a b c : E) : E := fun e h => (a e h).bind fun x h1 => (b e h1).bind fun y h2 => (op x y h2).noX.bind fun z h3 => match z with
  | .bl true => (c e h3).bind fun u h4 => (op' y u h4).noX
  | .bl false => .ok (.bl false) h3
  | _ => .bad
def aNil : As := fun _ h => .ok [] h
def aCons (a : E) (r : As) : As := fun e h => (a e h).bind fun x h1 => (r e h1).bind fun xs h2 => .ok (x :: xs) h2
def eTup (as : As) : E := fun e h => (as e h).bind fun xs h1 => .ok (.tup xs) h1
/-- a new thing -/
def new (o : O) (h : Hh) : R D := .ok (.ref h.length) (h ++ [o])
def eLst (as : As) : E := fun e h => (as e h).bind fun xs h1 => new (.lst xs) h1
def eCall (f : F) (as : As) : E := fun e h => (as e h).bind fun xs h1 => f xs h1
/-- a built-in function -/
def eBlt (f : F) (as : As) : E := fun e h => (as e h).bind fun xs h1 => (f xs h1).noX
def eAnd (a b : E) : E := fun e h => (a e h).bind fun x h1 => match x with
  | .bl true => b e h1
  | .bl false => .ok (.bl false) h1
  | _ => .bad
def eOr (a b : E) : E := fun e h => (a e h).bind fun x h1 => match x with
  | .bl true => .ok (.bl true) h1
  | .bl false => b e h1
  | _ => .bad
def eNot (a : E) : E := fun e h => (a e h).bind fun x h1 => match x with
  | .bl b => .ok (.bl (!b)) h1
  | _ => .bad
/-! tests -/
def tE (a : E) : T := fun e h => (a e h).bind fun x h1 => match x with
  | .bl b => .ok b h1
  | _ => .bad
def tAnd (a b : T) : T := fun e h => (a e h).bind fun x h1 => if x = true then b e h1 else .ok false h1
def tOr (a b : T) : T := fun e h => (a e h).bind fun x h1 => if x = true then .ok true h1 else b e h1
def tNot (a : T) : T := fun e h => (a e h).bind fun x h1 => .ok (!x) h1
def tYes : T := fun _ h => .ok true h

/-! ### what is walked -/
def seqAt (h : Hh) (r : Nat) : Option (List D) := match h[r]? with
  | some (.lst xs) => some xs
  | some (.frz xs) => some xs
  | _ => none
def dctAt (h : Hh) (r : Nat) : Option (List (D × D)) := match h[r]? with
  | some (.dct _ xs) => some xs
  | _ => none
inductive It where
  | lst (r : Nat)
  | tup (xs : List D)
  | rng (lo st : Int) (n : Nat)
  | str (x : Str)
  | rev (r n : Nat)
  | keys (r n : Nat)
  | items (r n : Nat)
  | enum (r : Nat)
  | zip (r s : Nat)
/-- none: it can't be; some none: it stops -/
def It.get (i : Nat) (h : Hh) : It → Option (Option D)
  | .lst r => (seqAt h r).map fun xs => xs[i]?
  | .tup xs => some xs[i]?
  | .rng lo st n => some (if i < n then some (.int (lo + (i : Int) * st)) else none)
  | .str x => some (x.cps[i]?.map fun c => .str ⟨#[c]⟩)
  | .rev r n => match seqAt h r with
    | some xs => if xs.length = n then some (if i < n then xs[n - 1 - i]? else none) else none
    | none => none
  | .keys r n => match dctAt h r with
    | some kvs => if kvs.length = n then some (kvs[i]?.map (·.1)) else none
    | none => none
  | .items r n => match dctAt h r with
    | some kvs => if kvs.length = n then some (kvs[i]?.map fun p => .tup [p.1, p.2]) else none
    | none => none
  | .enum r => (seqAt h r).map fun xs => xs[i]?.map fun x => .tup [.int i, x]
  | .zip r s => match seqAt h r, seqAt h s with
    | some xs, some ys => some (match xs[i]?, ys[i]? with
      | some x, some y => some (.tup [x, y])
      | _, _ => none)
    | _, _ => none
abbrev IE := Env → Hh → R It
def iLst (a : E) : IE := fun e h => (a e h).bind fun x h1 => match x with
  | .ref r => if (seqAt h1 r).isSome = true then .ok (.lst r) h1 else .bad
  | _ => .bad
def iTup (a : E) : IE := fun e h => (a e h).bind fun x h1 => match x with
  | .tup xs => .ok (.tup xs) h1
  | _ => .bad
def iStr (a : E) : IE := fun e h => (a e h).bind fun x h1 => match x with
  | .str x => .ok (.str x) h1
  | _ => .bad
/-- the bounds of a range: within 2 ^ 62 -/
def small (i : Int) : Bool := decide (-4611686018427387904 ≤ i ∧ i < 4611686018427387904)
def rngOf (xs : List D) (h : Hh) : R It := match xs with
  | [.int j] => if small j = true then .ok (.rng 0 1 j.toNat) h else .bad
  | [.int i, .int j] => if small i = true ∧ small j = true then .ok (.rng i 1 (j - i).toNat) h else .bad
  | [.int i, .int j, .int c] => if small i = true ∧ small j = true ∧ c = -1 then .ok (.rng i (-1) (i - j).toNat) h else .bad
  | _ => .bad
def iRng (as : As) : IE := fun e h => (as e h).bind rngOf
/-- reversed(range(..)) -/
def revRng (i : It) : Option It := match i with
  | .rng lo 1 n => some (.rng (lo + (n : Int) - 1) (-1) n)
  | _ => none
def iRevRng (as : As) : IE := fun e h => (as e h).bind fun xs h1 => (rngOf xs h1).bind fun it h2 => match revRng it with
  | some it => .ok it h2
  | none => .bad
def iRev (a : E) : IE := fun e h => (a e h).bind fun x h1 => match x with
  | .ref r => match seqAt h1 r with
    | some xs => .ok (.rev r xs.length) h1
    | none => .bad
  | _ => .bad
def iKeys (a : E) : IE := fun e h => (a e h).bind fun x h1 => match x with
  | .ref r => match dctAt h1 r with
    | some kvs => .ok (.keys r kvs.length) h1
    | none => .bad
  | _ => .bad
def iItems (a : E) : IE := fun e h => (a e h).bind fun x h1 => match x with
  | .ref r => match dctAt h1 r with
    | some kvs => .ok (.items r kvs.length) h1
    | none => .bad
  | _ => .bad
def iEnum (a : E) : IE := fun e h => (a e h).bind fun x h1 => match x with
  | .ref r => if (seqAt h1 r).isSome = true then .ok (.enum r) h1 else .bad
  | _ => .bad
def iZip (a b : E) : IE := fun e h => (a e h).bind fun x h1 => (b e h1).bind fun y h2 => match x, y with
  | .ref r, .ref s => if (seqAt h2 r).isSome = true ∧ (seqAt h2 s).isSome = true then .ok (.zip r s) h2 else .bad
  | _, _ => .bad

/-! ### targets: one name, or some -/
inductive Tg where
  | one (i : Nat)
  | many (is : List Nat)
def setMany : List Nat → List D → Env → Option Env
  | [], [], e => some e
  | i :: is, d :: ds, e => setMany is ds (e.set i (.val d))
  | _, _, _ => none
def Tg.put (t : Tg) (d : D) (e : Env) : Option Env := match t with
  | .one i => some (e.set i (.val d))
  | .many is => match d with
    | .tup ds => setMany is ds e
    | _ => none

/-! ### comprehensions: the new list is laid at the end; nothing may be raised within -/
def R.bindN {α β : Type} (r : R α) (k : α → Hh → R β) : R β := match r with
  | .ok a h => k a h
  | _ => .bad
def wipeE (e : Env) : List Nat → Env
  | [] => e
  | v :: vs => (wipeE e vs).set v .no
def sizeMax : Nat := 16777216
def compN (it : It) (tg : Tg) (tt : T) (a : E) (e : Env) : Nat → Nat → List D → Hh → R D
  | 0, _, _, _ => .bad
  | n + 1, i, acc, h => match it.get i h with
    | none => .bad
    | some none => new (.lst acc) h
    | some (some d) => match tg.put d e with
      | none => .bad
      | some e1 => (tt e1 h).bindN fun b h1 => if b = true then (a e1 h1).bindN fun x h2 => if acc.length < sizeMax then compN it tg tt a e n (i + 1) (acc ++ [x]) h2 else .bad else compN it tg tt a e n (i + 1) acc h1
def fuel : Nat := 1000000
/-- vs: the places of the names of its own -/
def eComp (it : IE) (tg : Tg) (vs : List Nat) (tt : T) (a : E) : E := fun e h => (it e h).bind fun j h1 => compN j tg tt a (wipeE e vs) fuel 0 [] h1

/-! ### statements -/
def RS.then (r : RS) (k : Env → Hh → RS) : RS := match r with
  | .nx e h => k e h
  | x => x
/-- an expression within a statement -/
def R.go {α : Type} (r : R α) (e : Env) (k : α → Hh → RS) : RS := match r with
  | .ok a h => k a h
  | .exc c h => .exc c e h
  | .bad => .bad
def sNil : S := fun e h => .nx e h
def sSeq (a b : S) : S := fun e h => (a e h).then b
def sSet (t : Tg) (a : E) : S := fun e h => (a e h).go e fun d h1 => match t.put d e with
  | some e1 => .nx e1 h1
  | none => .bad
/-- x, y = a, b -/
def sPar (i j : Nat) (as : As) : S := fun e h => (as e h).go e fun xs h1 => match xs with
  | [x, y] => .nx ((e.set i (.val x)).set j (.val y)) h1
  | _ => .bad
def sAug (op : D → D → Hh → R D) (i : Nat) (a : E) : S := fun e h => match e[i]? with
  | some (.val x) => (a e h).go e fun y h1 => (op x y h1).noX.go e fun z h2 => .nx (e.set i (.val z)) h2
  | _ => .bad
def sSub (op : D → D → D → Hh → R Unit) (o i v : E) : S := fun e h => (v e h).go e fun x h1 => (o e h1).go e fun y h2 => (i e h2).go e fun z h3 => (op y z x h3).noX.go e fun _ h4 => .nx e h4
/-- o[i] op= v -/
def sAugSub (get : D → D → Hh → R D) (op : D → D → Hh → R D) (put : D → D → D → Hh → R Unit) (o i v : E) : S := fun e h =>
  (o e h).go e fun y h1 => (i e h1).go e fun z h2 => (get y z h2).noX.go e fun x h3 => (v e h3).go e fun u h4 => (op x u h4).noX.go e fun w h5 => (put y z w h5).noX.go e fun _ h6 => .nx e h6
def sExpr (a : E) : S := fun e h => (a e h).go e fun _ h1 => .nx e h1
def sRet (a : E) : S := fun e h => (a e h).go e fun d h1 => .rt d h1
def sRetN : S := fun _ h => .rt .non h
def sCont : S := fun e h => .ct e h
def sIf (t : T) (a b : S) : S := fun e h => (t e h).go e fun x h1 => if x = true then a e h1 else b e h1
def whileN (t : T) (b : S) : Nat → S
  | 0, _, _ => .bad
  | n + 1, e, h => (t e h).go e fun x h1 => if x = true then (match b e h1 with
    | .nx e2 h2 => whileN t b n e2 h2
    | .ct e2 h2 => whileN t b n e2 h2
    | .bk e2 h2 => .nx e2 h2
    | r => r) else .nx e h1
def sWhile (t : T) (b : S) : S := whileN t b fuel
def forN (it : It) (tg : Tg) (b : S) : Nat → Nat → S
  | 0, _, _, _ => .bad
  | n + 1, i, e, h => match it.get i h with
    | none => .bad
    | some none => .nx e h
    | some (some d) => match tg.put d e with
      | none => .bad
      | some e1 => match b e1 h with
        | .nx e2 h2 => forN it tg b n (i + 1) e2 h2
        | .ct e2 h2 => forN it tg b n (i + 1) e2 h2
        | .bk e2 h2 => .nx e2 h2
        | r => r
def sFor (it : IE) (tg : Tg) (b : S) : S := fun e h => (it e h).go e fun j h1 => forN j tg b fuel 0 e h1
/-- raise C("..") of a class without an own __init__ -/
def sRaise (c : Nat) : S := fun e h => .exc ⟨c, []⟩ e h
/-- the first clause whose class the error's class stands under; i: the slot of the clause's name -/
def caught (sub : Nat → Nat → Bool) (c : Nat) : List (Nat × Nat × (Exn → S)) → Option (Nat × (Exn → S))
  | [] => none
  | (k, i, s) :: r => if sub c k = true then some (i, s) else caught sub c r
def Slot.unpin : Slot → Slot
  | .pin => .no
  | x => x
/-- the clause's name is gone -/
def unpinE (i : Nat) (e : Env) : Env := (e.map Slot.unpin).set i .no
def RS.unpin (i : Nat) (r : RS) : RS := match r with
  | .nx e h => .nx (unpinE i e) h
  | .bk e h => .bk (unpinE i e) h
  | .ct e h => .ct (unpinE i e) h
  | .rt d h => .rt d h
  | _ => .bad
/-- try, with clauses 'except C as n'; what may be raised is a class of cs -/
def sTry (sub : Nat → Nat → Bool) (cs : List Nat) (b : S) (hs : List (Nat × Nat × (Exn → S))) : S := fun e h => match b e h with
  | .exc c e1 h1 => if c.cls ∈ cs then match caught sub c.cls hs with
    | some (i, s) => (s c (e1.set i .pin) h1).unpin i
    | none => .exc c e1 h1 else .bad
  | r => r
/-- isinstance(e, C) or isinstance(e, (C, ..)) of what is caught -/
def eIsE (sub : Nat → Nat → Bool) (i : Nat) (c : Exn) (ks : List Nat) : E := fun e h => match e[i]? with
  | some .pin => .ok (.bl (ks.any (sub c.cls))) h
  | _ => .bad

/-- a def: n slots, p of them parameters -/
def run (n : Nat) (b : S) : F := fun ds h => match b (ds.map .val ++ List.replicate (n - ds.length) .no) h with
  | .nx _ h => .ok .non h
  | .rt d h => .ok d h
  | .exc c _ h => .exc c h
  | _ => .bad
def fn (n p : Nat) (b : S) : F := fun ds h => if ds.length = p then run n b ds h else .bad

/-! ### operators by values -/
/-- a factor that is small enough -/
def facOk (i : Int) : Bool := decide (-18446744073709551616 < i ∧ i < 18446744073709551616)
def opAdd (x y : D) (h : Hh) : R D := match x, y with
  | .int i, .int j => .ok (.int (i + j)) h
  | .str i, .str j => if i.length + j.length ≤ sizeMax then .ok (.str (i ++ j)) h else .bad
  | .tup i, .tup j => if i.length + j.length ≤ sizeMax ∧ i ≠ [] then .ok (.tup (i ++ j)) h else .bad
  | .ref a, .ref b => match h[a]?, h[b]? with
    | some (.lst i), some (.lst j) => if i.length + j.length ≤ sizeMax then new (.lst (i ++ j)) h else .bad
    | _, _ => .bad
  | _, _ => .bad
/-- += of whole numbers -/
def opAddI (x y : D) (h : Hh) : R D := match x, y with
  | .int i, .int j => .ok (.int (i + j)) h
  | _, _ => .bad
def opSub (x y : D) (h : Hh) : R D := match x, y with
  | .int i, .int j => .ok (.int (i - j)) h
  | _, _ => .bad
def opMul (x y : D) (h : Hh) : R D := match x, y with
  | .int i, .int j => if facOk i = true ∨ facOk j = true then .ok (.int (i * j)) h else .bad
  | .ref a, .int j => match h[a]? with
    | some (.lst i) => if small j = true ∧ i.length * j.toNat ≤ sizeMax then new (.lst (List.replicate j.toNat i).flatten) h else .bad
    | _ => .bad
  | _, _ => .bad
/-- whole numbers, a divisor above nought and below 2 ^ 30 -/
def opDiv (x y : D) (h : Hh) : R D := match x, y with
  | .int i, .int j => if 0 < j ∧ j < 1073741824 then .ok (.int (i / j)) h else .bad
  | _, _ => .bad
def opMod (x y : D) (h : Hh) : R D := match x, y with
  | .int i, .int j => if 0 < j then .ok (.int (i % j)) h else .bad
  | _, _ => .bad
def opPow (x y : D) (h : Hh) : R D := match x, y with
  | .int i, .int j => if 0 ≤ j ∧ j ≤ 1000000 ∧ i.natAbs < 18446744073709551616 then .ok (.int (i ^ j.toNat)) h else .bad
  | _, _ => .bad
def opNeg (x : D) (h : Hh) : R D := match x with
  | .int i => .ok (.int (-i)) h
  | _ => .bad
def opCmp (p : Int → Int → Bool) (x y : D) (h : Hh) : R D := match x, y with
  | .int i, .int j => .ok (.bl (p i j)) h
  | _, _ => .bad
def opLt := opCmp fun i j => decide (i < j)
def opLe := opCmp fun i j => decide (i ≤ j)
def opGt := opCmp fun i j => decide (j < i)
def opGe := opCmp fun i j => decide (j ≤ i)
mutual
def D.beq : D → D → Bool
  | .non, .non => true
  | .bl a, .bl b => a == b
  | .int a, .int b => decide (a = b)
  | .str a, .str b => decide (a = b)
  | .ref a, .ref b => decide (a = b)
  | .tup a, .tup b => D.beqs a b
  | .non, .bl _ | .non, .int _ | .non, .str _ | .non, .ref _ | .non, .tup _ => false
  | .bl _, .non | .bl _, .int _ | .bl _, .str _ | .bl _, .ref _ | .bl _, .tup _ => false
  | .int _, .non | .int _, .bl _ | .int _, .str _ | .int _, .ref _ | .int _, .tup _ => false
  | .str _, .non | .str _, .bl _ | .str _, .int _ | .str _, .ref _ | .str _, .tup _ => false
  | .ref _, .non | .ref _, .bl _ | .ref _, .int _ | .ref _, .str _ | .ref _, .tup _ => false
  | .tup _, .non | .tup _, .bl _ | .tup _, .int _ | .tup _, .str _ | .tup _, .ref _ => false
def D.beqs : List D → List D → Bool
  | [], [] => true
  | x :: xs, y :: ys => D.beq x y && D.beqs xs ys
  | [], _ :: _ => false
  | _ :: _, [] => false
end
mutual
theorem D.beq_self : ∀ a : D, D.beq a a = true
  | .non => rfl
  | .bl a => by simp [D.beq]
  | .int a => by simp [D.beq]
  | .str a => by simp [D.beq]
  | .ref a => by simp [D.beq]
  | .tup a => by rw [D.beq]; exact D.beqs_self a
theorem D.beqs_self : ∀ a : List D, D.beqs a a = true
  | [] => rfl
  | a :: as => by rw [D.beqs, D.beq_self a, D.beqs_self as]; rfl
end
mutual
theorem D.eq_of : ∀ a b : D, D.beq a b = true → a = b
  | .non, b, h => by cases b <;> first | rfl | simp [D.beq] at h
  | .bl a, b, h => by cases b <;> first | (simp [D.beq] at h; rw [h]) | simp [D.beq] at h
  | .int a, b, h => by cases b <;> first | (simp [D.beq] at h; rw [h]) | simp [D.beq] at h
  | .str a, b, h => by cases b <;> first | (simp [D.beq] at h; rw [h]) | simp [D.beq] at h
  | .ref a, b, h => by cases b <;> first | (simp [D.beq] at h; rw [h]) | simp [D.beq] at h
  | .tup a, b, h => by
    cases b with
    | tup b => rw [D.beq] at h; rw [D.eqs_of a b h]
    | _ => simp [D.beq] at h
theorem D.eqs_of : ∀ a b : List D, D.beqs a b = true → a = b
  | [], [], _ => rfl
  | x :: xs, y :: ys, h => by
    rw [D.beqs, Bool.and_eq_true] at h
    rw [D.eq_of x y h.1, D.eqs_of xs ys h.2]
  | [], _ :: _, h => by simp [D.beqs] at h
  | _ :: _, [], h => by simp [D.beqs] at h
end
instance : DecidableEq D := fun a b => if h : D.beq a b = true then isTrue (D.eq_of a b h) else isFalse fun e => h (e ▸ D.beq_self a)
def look (kvs : List (D × D)) (k : D) : Option D := (kvs.find? fun p => decide (p.1 = k)).map (·.2)
/-- data as a whole: m levels deep -/
def pdAll (f : D → Option PyData) : List D → Option (List PyData)
  | [] => some []
  | x :: xs => match f x, pdAll f xs with
    | some a, some as => some (a :: as)
    | _, _ => none
def pd : Nat → Hh → D → Option PyData
  | 0, _, _ => none
  | m + 1, h, x => match x with
    | .non => some .none
    | .bl b => some (.bool b)
    | .int i => some (.int i)
    | .str z => if PySem.PyData.strOk z = true then some (.str z) else none
    | .tup ds => (pdAll (pd m h) ds).map .tuple
    | .ref n => match seqAt h n with
      | some ds => (pdAll (pd m h) ds).map .list
      | none => none
def deep : Nat := 20
def opEq (x y : D) (h : Hh) : R D := match pd deep h x, pd deep h y with
  | some a, some b => .ok (.bl (PyData.eqv a b)) h
  | _, _ => .bad
def opNe (x y : D) (h : Hh) : R D := match pd deep h x, pd deep h y with
  | some a, some b => .ok (.bl (!PyData.eqv a b)) h
  | _, _ => .bad
def opIsN (x y : D) (h : Hh) : R D := match y with
  | .non => .ok (.bl (decide (x = .non))) h
  | _ => .bad
def opNotN (x y : D) (h : Hh) : R D := match y with
  | .non => .ok (.bl (!decide (x = .non))) h
  | _ => .bad
/-! keys -/
/-- a key that is a whole number or a text -/
def keyOf : D → Option (Sum Int Str)
  | .int i => some (.inl i)
  | .str x => some (.inr x)
  | _ => none
def keysL : List D → Option (List (Sum Int Str))
  | [] => some []
  | x :: xs => match keyOf x, keysL xs with
    | some a, some as => some (a :: as)
    | _, _ => none
/-- a key that is a tuple of such -/
def keysOf : D → Option (List (Sum Int Str))
  | .tup xs => keysL xs
  | _ => none
/-- k may be looked for in a dict of the kind t: 0: whole numbers and texts, 1: tuples of such -/
def keyFit (t : Nat) (k : D) : Bool := match t with
  | 0 => (keyOf k).isSome
  | 1 => (keysOf k).isSome
  | _ => false
/-- d[k] = v -/
def dput (kvs : List (D × D)) (k v : D) : List (D × D) :=
  if kvs.any (fun p => decide (p.1 = k)) = true then kvs.map fun p => if p.1 = k then (p.1, v) else p else kvs ++ [(k, v)]
def ddrop (kvs : List (D × D)) (k : D) : List (D × D) := kvs.filter fun p => !decide (p.1 = k)
/-- the place that an index tells -/
def ixAt (n : Nat) (i : Int) : Option Nat := if 0 ≤ i then (if i < n then some i.toNat else none) else if -(n : Int) ≤ i then some (i + n).toNat else none
def opIx (x y : D) (h : Hh) : R D := match x with
  | .tup xs => match y with
    | .int i => match (ixAt xs.length i).bind fun j => xs[j]? with
      | some d => .ok d h
      | none => .bad
    | _ => .bad
  | .str z => match y with
    | .int i => if z.length ≤ sizeMax then match (ixAt z.cps.toList.length i).bind fun j => z.cps.toList[j]? with
      | some c => .ok (.str ⟨#[c]⟩) h
      | none => .bad else .bad
    | _ => .bad
  | .ref r => match h[r]? with
    | some (.dct t kvs) => if keyFit t y = true then match look kvs y with
      | some d => .ok d h
      | none => .bad else .bad
    | _ => match seqAt h r, y with
      | some xs, .int i => match (ixAt xs.length i).bind fun j => xs[j]? with
        | some d => .ok d h
        | none => .bad
      | _, _ => .bad
  | _ => .bad
def opPut (o k v : D) (h : Hh) : R Unit := match o with
  | .ref r => match h[r]? with
    | some (.lst xs) => match k with
      | .int i => match ixAt xs.length i with
        | some j => .ok () (h.set r (.lst (xs.set j v)))
        | none => .bad
      | _ => .bad
    | some (.dct t kvs) => if keyFit t k = true ∧ kvs.length < sizeMax then .ok () (h.set r (.dct t (dput kvs k v))) else .bad
    | _ => .bad
  | _ => .bad
/-- is x, as data, among the items -/
def anyOf (x : PyData) (ds : List PyData) : Bool := ds.any fun y => PyData.eqv y x
def opIn (x y : D) (h : Hh) : R D := match y with
  | .ref r => match h[r]? with
    | some (.dct t kvs) => if keyFit t x = true then .ok (.bl (look kvs x).isSome) h else .bad
    | _ => match seqAt h r with
      | some xs => match pd deep h x, pdAll (pd deep h) xs with
        | some a, some bs => .ok (.bl (anyOf a bs)) h
        | _, _ => .bad
      | none => .bad
  | .tup xs => if (keyOf x).isSome = true ∧ (keysL xs).isSome = true then .ok (.bl (xs.any fun y => decide (y = x))) h else .bad
  | _ => .bad
def opNotIn (x y : D) (h : Hh) : R D := (opIn x y h).bind fun z h1 => match z with
  | .bl b => .ok (.bl (!b)) h1
  | _ => .bad

/-! ### slices -/
def cutIx (n d : Nat) : Option Int → Nat
  | none => d
  | some i => if i < 0 then (i + n).toNat else min i.toNat n
def cut {α : Type} (xs : List α) (lo hi : Option Int) : List α := (xs.drop (cutIx xs.length 0 lo)).take (cutIx xs.length xs.length hi - cutIx xs.length 0 lo)
def pNone : Env → Hh → R (Option Int) := fun _ h => .ok none h
def pSome (a : E) : Env → Hh → R (Option Int) := fun e h => (a e h).bind fun x h1 => match x with
  | .int i => .ok (some i) h1
  | _ => .bad
def opCut (x : D) (lo hi : Option Int) (h : Hh) : R D := match x with
  | .tup xs => if cutIx xs.length 0 lo = 0 ∧ cutIx xs.length xs.length hi = xs.length then .bad else .ok (.tup (cut xs lo hi)) h
  | .str z => if z.length ≤ sizeMax then .ok (.str ⟨(cut z.cps.toList lo hi).toArray⟩) h else .bad
  | .ref r => match seqAt h r with
    | some xs => new (.lst (cut xs lo hi)) h
    | none => .bad
  | _ => .bad
def eCut (a : E) (lo hi : Env → Hh → R (Option Int)) : E := fun e h => (a e h).bind fun x h1 => (lo e h1).bind fun l h2 => (hi e h2).bind fun u h3 => (opCut x l u h3).noX
/-- x[::-1] -/
def opTurn (x : D) (h : Hh) : R D := match x with
  | .str z => if z.length ≤ sizeMax then .ok (.str ⟨z.cps.reverse⟩) h else .bad
  | .ref r => match seqAt h r with
    | some xs => new (.lst xs.reverse) h
    | none => .bad
  | _ => .bad
/-! ### built-in functions, by the arguments -/
def fLen : F := fun xs h => match xs with
  | [.tup ys] => .ok (.int ys.length) h
  | [.str z] => if z.length ≤ sizeMax then .ok (.int z.length) h else .bad
  | [.ref r] => match h[r]? with
    | some (.dct _ kvs) => .ok (.int kvs.length) h
    | some (.set ys) => .ok (.int ys.length) h
    | _ => match seqAt h r with
      | some ys => .ok (.int ys.length) h
      | none => .bad
  | _ => .bad
def fMin2 : F := fun xs h => match xs with
  | [.int i, .int j] => .ok (.int (if j < i then j else i)) h
  | _ => .bad
def fMax2 : F := fun xs h => match xs with
  | [.int i, .int j] => .ok (.int (if j > i then j else i)) h
  | _ => .bad
def intsOf : List D → Option (List Int)
  | [] => some []
  | .int i :: r => (intsOf r).map (i :: ·)
  | _ => none
def maxOf : Int → List Int → Int
  | a, [] => a
  | a, b :: r => maxOf (if a < b then b else a) r
def minOf : Int → List Int → Int
  | a, [] => a
  | a, b :: r => minOf (if b < a then b else a) r
def fMax : F := fun xs h => match xs with
  | [.ref r] => match (seqAt h r).bind intsOf with
    | some (a :: r) => .ok (.int (maxOf a r)) h
    | _ => .bad
  | _ => .bad
def fMin : F := fun xs h => match xs with
  | [.ref r] => match (seqAt h r).bind intsOf with
    | some (a :: r) => .ok (.int (minOf a r)) h
    | _ => .bad
  | _ => .bad
def fList : F := fun xs h => match xs with
  | [.tup ys] => new (.lst ys) h
  | [.ref r] => match h[r]? with
    | some (.dct _ kvs) => new (.lst (kvs.map (·.1))) h
    | _ => match seqAt h r with
      | some ys => new (.lst ys) h
      | none => .bad
  | _ => .bad
def fInt : F := fun xs h => match xs with
  | [.int i] => .ok (.int i) h
  | [.bl b] => .ok (.int (if b = true then 1 else 0)) h
  | _ => .bad
/-! isinstance of a value against a built-in class -/
inductive Ty where
  | int | bool | str | tuple | list | dict
  deriving DecidableEq
def tyOf (d : D) (h : Hh) : Option Ty := match d with
  | .bl _ => some .bool
  | .int _ => some .int
  | .str _ => some .str
  | .tup _ => some .tuple
  | .ref r => match h[r]? with
    | some (.lst _) => some .list
    | some (.frz _) => some .list
    | some (.dct _ _) => some .dict
    | _ => none
  | .non => none
def isTy (t k : Ty) : Bool := decide (t = k) || (decide (t = .bool) && decide (k = .int))
def opIsTy (k : Ty) (x : D) (h : Hh) : R D := match tyOf x h with
  | some t => .ok (.bl (isTy t k)) h
  | none => .bad
/-! ### methods of lists, dicts -/
def mAppend (o : D) (xs : List D) (h : Hh) : R D := match o, xs with
  | .ref r, [d] => match h[r]? with
    | some (.lst ys) => if ys.length < sizeMax then .ok .non (h.set r (.lst (ys ++ [d]))) else .bad
    | _ => .bad
  | _, _ => .bad
def mExtend (o : D) (xs : List D) (h : Hh) : R D := match o, xs with
  | .ref r, [.ref s] => match h[r]?, h[s]? with
    | some (.lst ys), some (.lst zs) => if ys.length + zs.length ≤ sizeMax then .ok .non (h.set r (.lst (ys ++ zs))) else .bad
    | _, _ => .bad
  | _, _ => .bad
def mInsert (o : D) (xs : List D) (h : Hh) : R D := match o, xs with
  | .ref r, [.int i, d] => match h[r]? with
    | some (.lst ys) => if 0 ≤ i ∧ i < 9223372036854775808 ∧ ys.length < sizeMax then .ok .non (h.set r (.lst (ys.take i.toNat ++ [d] ++ ys.drop i.toNat))) else .bad
    | _ => .bad
  | _, _ => .bad
def mPop0 (o : D) (xs : List D) (h : Hh) : R D := match o, xs with
  | .ref r, [] => match h[r]? with
    | some (.lst ys) => match ys[ys.length - 1]? with
      | some d => .ok d (h.set r (.lst ys.dropLast))
      | none => .bad
    | _ => .bad
  | _, _ => .bad
def mClear (o : D) (xs : List D) (h : Hh) : R D := match o, xs with
  | .ref r, [] => match h[r]? with
    | some (.lst _) => .ok .non (h.set r (.lst []))
    | _ => .bad
  | _, _ => .bad
def isL (d : D) (h : Hh) : Bool := match d with
  | .ref r => match h[r]? with
    | some (.lst _) => true
    | _ => false
  | _ => false
def isS (d : D) (_ : Hh) : Bool := match d with
  | .str _ => true
  | _ => false
def isD (d : D) (h : Hh) : Bool := match d with
  | .ref r => match h[r]? with
    | some (.dct _ _) => true
    | _ => false
  | _ => false
/-- o.m(..), o of the kind that ck tells -/
def eMeth (ck : D → Hh → Bool) (m : D → List D → Hh → R D) (o : E) (as : As) : E := fun e h => (o e h).bind fun x h1 => if ck x h1 = true then (as e h1).bind fun xs h2 => (m x xs h2).noX else .bad
/-- {}, of the kind t -/
def eDct0 (t : Nat) : E := fun _ h => new (.dct t []) h
/-- {k: v}, of the kind 0 -/
def eDct1 (k v : E) : E := fun e h => (k e h).bind fun x h1 => (v e h1).bind fun y h2 => if keyFit 0 x = true then new (.dct 0 [(x, y)]) h2 else .bad
end TM
set_option Elab.async false
set_option linter.all false
set_option autoImplicit false
set_option maxRecDepth 100000
set_option maxHeartbeats 2000000
/-! what a def computes by TmCore is what the model of Python does (over HandS) -/
namespace TM
open PySem PySem.Spec PyProof.Rows L2

/-- what the relation goes by: the kept part, the error that is caught, the classes by number -/
structure Kp where
  K : PySem.W.Frag
  pin : Option Addr
  cl : Nat → Addr
def pinOf (X : Cx) : Option Addr := if X.calm = true then none else X.pn.head?.map (·.1)
abbrev kp0 (K : PySem.W.Frag) (cl : Nat → Addr) : Kp := ⟨K, none, cl⟩
abbrev kp (X : Cx) (cl : Nat → Addr) : Kp := ⟨X.K, pinOf X, cl⟩

/-! ### data as values of the abstract heap -/
mutual
def Rep (K : Kp) (r : List Addr) (H : Hp) : D → V → Prop
  | .non, v => v = .non
  | .bl b, v => v = .bl b
  | .int i, v => v = .int i
  | .str x, v => v = .str x
  | .ref n, v => ∃ a, r[n]? = some a ∧ v = .ref a
  | .tup ds, v => ∃ a vs, v = .ref a ∧ H a = some (.tup vs) ∧ Reps K r H ds vs
def Reps (K : Kp) (r : List Addr) (H : Hp) : List D → List V → Prop
  | [], vs => vs = []
  | d :: ds, vs => ∃ v ws, vs = v :: ws ∧ Rep K r H d v ∧ Reps K r H ds ws
end
/-- a dict's entries, its keys by f -/
def KRep {κ : Type} (K : Kp) (r : List Addr) (H : Hp) (f : D → Option κ) : List (D × D) → List (κ × V) → Prop
  | [], ks => ks = []
  | p :: l, ks => ∃ k v ws, ks = (k, v) :: ws ∧ f p.1 = some k ∧ Rep K r H p.2 v ∧ KRep K r H f l ws
/-- what stands at the address a -/
def ORep (K : Kp) (r : List Addr) (H : Hp) (a : Addr) : O → Prop
  | .lst ds => ∃ vs, H a = some (.lst vs) ∧ Reps K r H ds vs
  | .frz ds => ∃ vs o, H a = some (.frz o (.lst vs)) ∧ Reps K r H ds vs
  | .dct t kvs => (t = 0 ∧ ∃ ks, H a = some (.dK ks) ∧ KRep K r H keyOf kvs ks) ∨ (t = 1 ∧ ∃ ks, H a = some (.dT ks) ∧ KRep K r H keysOf kvs ks)
  | .set xs => False
  | .ins c fs => False
structure HRep (K : Kp) (r : List Addr) (h : Hh) (H : Hp) : Prop where
  len : r.length = h.length
  nd : r.Nodup
  at_ : ∀ (i : Nat) (o : O) (a : Addr), h[i]? = some o → r[i]? = some a → ORep K r H a o
structure Ext (K : Kp) (r : List Addr) (H : Hp) (r' : List Addr) (H' : Hp) : Prop where
  pre : ∃ t, r' = r ++ t
  tups : ∀ a xs, H a = some (.tup xs) → H' a = some (.tup xs)
  rest : ∀ b o, H b = some o → b ∉ r → H' b = some o ∧ b ∉ r'
/-- enough for what is told of data -/
structure Grow (K : Kp) (r : List Addr) (H : Hp) (r' : List Addr) (H' : Hp) : Prop where
  pre : ∃ t, r' = r ++ t
  tups : ∀ a xs, H a = some (.tup xs) → H' a = some (.tup xs)
theorem Ext.grow {K : Kp} {r r' : List Addr} {H H' : Hp} (x : Ext K r H r' H') : Grow K r H r' H' := ⟨x.pre, x.tups⟩
structure ERep (K : Kp) (r : List Addr) (H : Hp) (e : Env) (σ : L2.St) : Prop where
  len : e.length = σ.length
  at_ : ∀ (i : Nat) (d : D), e[i]? = some (.val d) → ∃ v, σ[i]? = some (some v) ∧ Rep K r H d v
  pin : ∀ (i : Nat), e[i]? = some Slot.pin → ∃ a, K.pin = some a ∧ σ[i]? = some (some (V.ref a))

section
variable {K : Kp} {r r1 r2 : List Addr} {H H1 H2 : Hp} {h h1 : Hh} {e : Env} {σ : L2.St}
theorem Ext.refl : Ext K r H r H := ⟨⟨[], by simp⟩, fun _ _ x => x, fun _ _ x y => ⟨x, y⟩⟩
theorem Ext.trans (a : Ext K r H r1 H1) (b : Ext K r1 H1 r2 H2) : Ext K r H r2 H2 := by
  obtain ⟨t, rfl⟩ := a.pre
  obtain ⟨u, rfl⟩ := b.pre
  exact ⟨⟨t ++ u, by simp⟩, fun p xs x => b.tups p xs (a.tups p xs x), fun p o x y => let ⟨x1, y1⟩ := a.rest p o x y; b.rest p o x1 y1⟩
theorem Grow.get (x : Grow K r H r1 H1) {n : Nat} {a : Addr} (q : r[n]? = some a) : r1[n]? = some a := by
  obtain ⟨t, rfl⟩ := x.pre
  rw [List.getElem?_append_left (List.getElem?_eq_some_iff.mp q).1]
  exact q
mutual
theorem Rep.grow (x : Grow K r H r1 H1) : ∀ {d : D} {v : V}, Rep K r H d v → Rep K r1 H1 d v
  | .non, v, q => by simpa [Rep] using q
  | .bl _, v, q => by simpa [Rep] using q
  | .int _, v, q => by simpa [Rep] using q
  | .str _, v, q => by simpa [Rep] using q
  | .ref n, v, q => by
    simp only [Rep] at q ⊢
    obtain ⟨a, q1, q2⟩ := q
    exact ⟨a, x.get q1, q2⟩
  | .tup ds, v, q => by
    simp only [Rep] at q ⊢
    obtain ⟨a, vs, q1, q2, q3⟩ := q
    exact ⟨a, vs, q1, x.tups _ _ q2, Reps.grow x q3⟩
theorem Reps.grow (x : Grow K r H r1 H1) : ∀ {ds : List D} {vs : List V}, Reps K r H ds vs → Reps K r1 H1 ds vs
  | [], vs, q => by simpa [Reps] using q
  | d :: ds, vs, q => by
    simp only [Reps] at q ⊢
    obtain ⟨v, ws, q1, q2, q3⟩ := q
    exact ⟨v, ws, q1, Rep.grow x q2, Reps.grow x q3⟩
end
theorem Ext.get (x : Ext K r H r1 H1) {n : Nat} {a : Addr} (q : r[n]? = some a) : r1[n]? = some a := x.grow.get q
theorem Rep.ext (x : Ext K r H r1 H1) {d : D} {v : V} (q : Rep K r H d v) : Rep K r1 H1 d v := q.grow x.grow
theorem Reps.ext (x : Ext K r H r1 H1) {ds : List D} {vs : List V} (q : Reps K r H ds vs) : Reps K r1 H1 ds vs := q.grow x.grow
theorem KRep.grow {κ : Type} {f : D → Option κ} (x : Grow K r H r1 H1) : ∀ {l : List (D × D)} {ks : List (κ × V)}, KRep K r H f l ks → KRep K r1 H1 f l ks
  | [], ks, q => q
  | p :: l, ks, q => by
    obtain ⟨k, v, ws, e, e1, q1, q2⟩ := q
    exact ⟨k, v, ws, e, e1, q1.grow x, KRep.grow x q2⟩
theorem Reps.nil : Reps K r H [] [] := by simp [Reps]
theorem Reps.cons {d : D} {v : V} {ds : List D} {vs : List V} (a : Rep K r H d v) (b : Reps K r H ds vs) : Reps K r H (d :: ds) (v :: vs) := by
  simp only [Reps]
  exact ⟨v, vs, rfl, a, b⟩
theorem Reps.of_nil {vs : List V} (q : Reps K r H [] vs) : vs = [] := by simpa [Reps] using q
theorem Reps.of_cons {d : D} {ds : List D} {vs : List V} (q : Reps K r H (d :: ds) vs) : ∃ v ws, vs = v :: ws ∧ Rep K r H d v ∧ Reps K r H ds ws := by simpa only [Reps] using q
theorem Reps.length : ∀ {ds : List D} {vs : List V}, Reps K r H ds vs → vs.length = ds.length
  | [], vs, q => by rw [q.of_nil] <;> rfl
  | d :: ds, vs, q => by
    obtain ⟨v, ws, rfl, _, q3⟩ := q.of_cons
    simp [Reps.length q3]
theorem Reps.get : ∀ {ds : List D} {vs : List V} {i : Nat} {d : D}, Reps K r H ds vs → ds[i]? = some d → ∃ v, vs[i]? = some v ∧ Rep K r H d v
  | [], vs, i, d, q, e => by simp at e
  | x :: ds, vs, 0, d, q, e => by
    obtain ⟨v, ws, rfl, q2, _⟩ := q.of_cons
    simp at e
    subst e
    exact ⟨v, rfl, q2⟩
  | x :: ds, vs, i + 1, d, q, e => by
    obtain ⟨v, ws, rfl, _, q3⟩ := q.of_cons
    obtain ⟨u, e1, e2⟩ := Reps.get (i := i) q3 (by simpa using e)
    exact ⟨u, by simpa using e1, e2⟩
theorem Reps.append : ∀ {ds es : List D} {vs ws : List V}, Reps K r H ds vs → Reps K r H es ws → Reps K r H (ds ++ es) (vs ++ ws)
  | [], es, vs, ws, q, q' => by rw [q.of_nil]; exact q'
  | d :: ds, es, vs, ws, q, q' => by
    obtain ⟨v, us, rfl, q2, q3⟩ := q.of_cons
    exact Reps.cons q2 (Reps.append q3 q')
theorem Reps.drop : ∀ (n : Nat) {ds : List D} {vs : List V}, Reps K r H ds vs → Reps K r H (ds.drop n) (vs.drop n)
  | 0, ds, vs, q => by simpa using q
  | n + 1, [], vs, q => by rw [q.of_nil]; simpa using Reps.nil
  | n + 1, d :: ds, vs, q => by
    obtain ⟨v, us, rfl, q2, q3⟩ := q.of_cons
    simpa using Reps.drop n q3
theorem Reps.take : ∀ (n : Nat) {ds : List D} {vs : List V}, Reps K r H ds vs → Reps K r H (ds.take n) (vs.take n)
  | 0, ds, vs, q => by simpa using Reps.nil
  | n + 1, [], vs, q => by rw [q.of_nil]; simpa using Reps.nil
  | n + 1, d :: ds, vs, q => by
    obtain ⟨v, us, rfl, q2, q3⟩ := q.of_cons
    simpa using Reps.cons q2 (Reps.take n q3)
theorem Reps.set {d : D} {v : V} (q0 : Rep K r H d v) : ∀ (n : Nat) {ds : List D} {vs : List V}, Reps K r H ds vs → Reps K r H (ds.set n d) (vs.set n v)
  | n, [], vs, q => by rw [q.of_nil]; simpa using Reps.nil
  | 0, x :: ds, vs, q => by
    obtain ⟨v, us, rfl, q2, q3⟩ := q.of_cons
    simpa using Reps.cons q0 q3
  | n + 1, x :: ds, vs, q => by
    obtain ⟨v, us, rfl, q2, q3⟩ := q.of_cons
    simpa using Reps.cons q2 (Reps.set q0 n q3)
theorem Reps.reverse : ∀ {ds : List D} {vs : List V}, Reps K r H ds vs → Reps K r H ds.reverse vs.reverse
  | [], vs, q => by rw [q.of_nil]; simpa using Reps.nil
  | d :: ds, vs, q => by
    obtain ⟨v, us, rfl, q2, q3⟩ := q.of_cons
    simpa using Reps.append (Reps.reverse q3) (Reps.cons q2 Reps.nil)
theorem Reps.dropLast {ds : List D} {vs : List V} (q : Reps K r H ds vs) : Reps K r H ds.dropLast vs.dropLast := by
  rw [List.dropLast_eq_take, List.dropLast_eq_take, q.length]
  exact q.take _
theorem Reps.ints : ∀ {is : List Int} {vs : List V}, Reps K r H (is.map D.int) vs → vs = is.map V.int
  | [], vs, q => by simpa using q.of_nil
  | i :: is, vs, q => by
    obtain ⟨v, us, rfl, q2, q3⟩ := Reps.of_cons (by simpa using q)
    rw [Reps.ints q3]
    simp only [Rep] at q2
    rw [q2]
    rfl
theorem Reps.of_ints : ∀ {is : List Int}, Reps K r H (is.map D.int) (is.map V.int)
  | [] => Reps.nil
  | i :: is => Reps.cons (by simp [Rep]) Reps.of_ints
theorem ERep.grow (x : Grow K r H r1 H1) (q : ERep K r H e σ) : ERep K r1 H1 e σ := ⟨q.len, fun i d e1 => let ⟨v, e2, e3⟩ := q.at_ i d e1; ⟨v, e2, e3.grow x⟩, q.pin⟩
theorem ERep.ext (x : Ext K r H r1 H1) (q : ERep K r H e σ) : ERep K r1 H1 e σ := q.grow x.grow
theorem ERep.set {i : Nat} {d : D} {v : V} (q : ERep K r H e σ) (a : Rep K r H d v) : ERep K r H (e.set i (.val d)) (σ.set i (some v)) := by
  refine ⟨by simp [q.len], fun j d' e1 => ?_, fun j e1 => ?_⟩
  · by_cases hj : i = j
    · subst hj
      have hl : i < e.length := by
        have := (List.getElem?_eq_some_iff.mp e1).1
        simpa using this
      rw [List.getElem?_set_self hl] at e1
      cases e1
      exact ⟨v, List.getElem?_set_self (by rw [← q.len]; exact hl), a⟩
    · rw [List.getElem?_set_ne hj] at e1 ⊢
      exact q.at_ j d' e1
  · by_cases hj : i = j
    · subst hj
      have hl : i < e.length := by
        have := (List.getElem?_eq_some_iff.mp e1).1
        simpa using this
      rw [List.getElem?_set_self hl] at e1
      cases e1
    · rw [List.getElem?_set_ne hj] at e1 ⊢
      exact q.pin j e1
/-- an object whose number is known -/
theorem HRep.addr (q : HRep K r h H) {n : Nat} {o : O} (e : h[n]? = some o) : ∃ a, r[n]? = some a ∧ ORep K r H a o := by
  have hl : n < r.length := by rw [q.len]; exact (List.getElem?_eq_some_iff.mp e).1
  exact ⟨r[n], List.getElem?_eq_getElem hl, q.at_ n o _ e (List.getElem?_eq_getElem hl)⟩
theorem ORep.some {a : Addr} {o : O} (q : ORep K r H a o) : ∃ u, H a = Option.some u ∧ (∀ xs, u ≠ .tup xs) := by
  cases o with
  | lst ds => obtain ⟨vs, q1, _⟩ := q; exact ⟨_, q1, fun _ z => nomatch z⟩
  | frz ds => obtain ⟨vs, ob, q1, q2⟩ := q; exact ⟨_, q1, fun _ z => nomatch z⟩
  | dct t kvs =>
    rcases q with ⟨_, ks, q1, _⟩ | ⟨_, ks, q1, _⟩
    · exact ⟨_, q1, fun _ z => nomatch z⟩
    · exact ⟨_, q1, fun _ z => nomatch z⟩
  | _ => exact q.elim
theorem ORep.grow {a : Addr} {o : O} (q : ORep K r H a o) (x : Grow K r H r1 H1) (e : H1 a = H a) : ORep K r1 H1 a o := by
  cases o with
  | lst ds => obtain ⟨vs, q1, q2⟩ := q; exact ⟨vs, e.trans q1, q2.grow x⟩
  | frz ds => obtain ⟨vs, ob, q1, q2⟩ := q; exact ⟨vs, ob, e.trans q1, q2.grow x⟩
  | dct t kvs =>
    rcases q with ⟨z, ks, q1, q2⟩ | ⟨z, ks, q1, q2⟩
    · exact .inl ⟨z, ks, e.trans q1, q2.grow x⟩
    · exact .inr ⟨z, ks, e.trans q1, q2.grow x⟩
  | _ => exact q.elim
theorem ORep.ext {a : Addr} {o : O} (q : ORep K r H a o) (x : Ext K r H r1 H1) (e : H1 a = H a) : ORep K r1 H1 a o := q.grow x.grow e
/-- a list or the script, to be read -/
theorem HRep.seq (q : HRep K r h H) {n : Nat} {a : Addr} {ds : List D} (e : seqAt h n = some ds) (ea : r[n]? = some a) : ∃ vs, SqL K.K H a vs ∧ Reps K r H ds vs := by
  unfold seqAt at e
  split at e
  · rename_i xs h1
    cases e
    obtain ⟨vs, q1, q2⟩ := q.at_ n _ a h1 ea
    exact ⟨vs, SqL.of q1, q2⟩
  · rename_i xs h1
    cases e
    obtain ⟨vs, ob, q1, q2⟩ := q.at_ n _ a h1 ea
    exact ⟨vs, .inl (.inr ⟨ob, q1⟩), q2⟩
  · cases e
theorem HRep.lst (q : HRep K r h H) {n : Nat} {a : Addr} {ds : List D} (e : h[n]? = some (.lst ds)) (ea : r[n]? = some a) : ∃ vs, H a = some (.lst vs) ∧ Reps K r H ds vs := q.at_ n _ a e ea
theorem Ext.new {p : Addr} {o : HO} (hp : H p = none) : Ext K r H (r ++ [p]) (upd H p o) := by
  refine ⟨⟨[p], rfl⟩, fun a xs z => ?_, fun b u e n => ?_⟩
  · rw [upd_ne (ne_of_none z hp)]; exact z
  · have hb := ne_of_none e hp
    exact ⟨by rw [upd_ne hb]; exact e, by simp [n, hb]⟩
theorem Ext.tup {p : Addr} {xs : List V} (hp : H p = none) : Ext K r H r (upd H p (.tup xs)) := by
  refine ⟨⟨[], by simp⟩, fun a xs z => ?_, fun b u e n => ⟨by rw [upd_ne (ne_of_none e hp)]; exact e, n⟩⟩
  rw [upd_ne (ne_of_none z hp)]
  exact z
/-- an object of ours is written -/
theorem Ext.put {p : Addr} {n : Nat} {o u : HO} (ep : r[n]? = some p) (hp : H p = some u) (nt : ∀ xs, u ≠ .tup xs) (nf : ∀ ob xs, u ≠ .frz ob xs) : Ext K r H r (upd H p o) := by
  refine ⟨⟨[], by simp⟩, fun a xs z => ?_, fun b v e nb => ?_⟩
  · rw [upd_ne]
    · exact z
    · rintro rfl
      rw [hp] at z
      cases z
      exact nt _ rfl
  · refine ⟨?_, nb⟩
    rw [upd_ne]
    · exact e
    · rintro rfl
      exact nb (List.mem_of_getElem? ep)
theorem HRep.free (q : HRep K r h H) {p : Addr} (hp : H p = none) : p ∉ r := fun hm => by
  obtain ⟨i, hi⟩ := List.getElem?_of_mem hm
  have hl : i < h.length := by rw [← q.len]; exact (List.getElem?_eq_some_iff.mp hi).1
  obtain ⟨u, z, _⟩ := (q.at_ i _ p (List.getElem?_eq_getElem hl) hi).some
  rw [hp] at z; cases z
theorem HRep.tup (q : HRep K r h H) {p : Addr} {xs : List V} (hp : H p = none) : HRep K r h (upd H p (.tup xs)) := by
  refine ⟨q.len, q.nd, fun i o a e1 e2 => ?_⟩
  have hn := q.free hp
  exact (q.at_ i o a e1 e2).ext (Ext.tup hp) (upd_ne fun z => hn (by rw [← z]; exact List.mem_of_getElem? e2))
theorem HRep.new (q : HRep K r h H) {p : Addr} {u : HO} {o : O} (hp : H p = none) (z : ORep K (r ++ [p]) (upd H p u) p o) : HRep K (r ++ [p]) (h ++ [o]) (upd H p u) := by
  have hn := q.free hp
  refine ⟨by simp [q.len], ?_, fun i o' a e1 e2 => ?_⟩
  · rw [List.nodup_append]
    exact ⟨q.nd, by simp, fun a ha b hb e => by simp at hb; subst hb; exact hn (e ▸ ha)⟩
  · by_cases hi : i < r.length
    · rw [List.getElem?_append_left hi] at e2
      rw [List.getElem?_append_left (by rw [← q.len]; exact hi)] at e1
      exact (q.at_ i o' a e1 e2).ext (Ext.new hp) (upd_ne fun z => hn (by rw [← z]; exact List.mem_of_getElem? e2))
    · have hi' : i = r.length := by
        have := (List.getElem?_eq_some_iff.mp e2).1
        simp at this
        omega
      subst hi'
      rw [List.getElem?_append_right (Nat.le_refl _)] at e2
      rw [List.getElem?_append_right (by rw [q.len]; exact Nat.le_refl _)] at e1
      simp at e2
      rw [q.len] at e1
      simp at e1
      subst e1 e2
      exact z
theorem HRep.put (q : HRep K r h H) {p : Addr} {n : Nat} {u u' : HO} {o : O} (ep : r[n]? = some p) (hp : H p = some u) (nt : ∀ xs, u ≠ .tup xs) (nf : ∀ ob xs, u ≠ .frz ob xs) (z : ORep K r (upd H p u') p o) : HRep K r (h.set n o) (upd H p u') := by
  refine ⟨by simp [q.len], q.nd, fun i o' a e1 e2 => ?_⟩
  by_cases hi : n = i
  · subst hi
    rw [ep] at e2
    cases e2
    have hl : n < h.length := by simpa using (List.getElem?_eq_some_iff.mp e1).1
    rw [List.getElem?_set_self hl] at e1
    cases e1
    exact z
  · rw [List.getElem?_set_ne hi] at e1
    refine (q.at_ i o' a e1 e2).ext (Ext.put ep hp nt nf) (upd_ne fun e => hi ?_)
    subst e
    obtain ⟨l1, g1⟩ := List.getElem?_eq_some_iff.mp ep
    obtain ⟨l2, g2⟩ := List.getElem?_eq_some_iff.mp e2
    exact (List.getElem_inj q.nd).mp (g1.trans g2.symm)
end

/-! ### what is wanted of a run -/
def R.wp {α : Type} (r : R α) (Q : α → Hh → Prop) (X : Exn → Hh → Prop) : Prop := match r with
  | .ok a h => Q a h
  | .exc c h => X c h
  | .bad => False
theorem R.wp_mono {α : Type} {r : R α} {Q Q' : α → Hh → Prop} {X X' : Exn → Hh → Prop} (w : r.wp Q X) (h1 : ∀ a h, Q a h → Q' a h) (h2 : ∀ c h, X c h → X' c h) : r.wp Q' X' := by
  cases r with
  | ok a h => exact h1 _ _ w
  | exc c h => exact h2 _ _ w
  | bad => exact w
theorem R.wp_bind {α β : Type} {r : R α} {k : α → Hh → R β} {Q : β → Hh → Prop} {X : Exn → Hh → Prop} (w : (r.bind k).wp Q X) : r.wp (fun a h => (k a h).wp Q X) X := by
  cases r <;> exact w
theorem R.wp_bindN {α β : Type} {r : R α} {k : α → Hh → R β} {Q : β → Hh → Prop} {X X' : Exn → Hh → Prop} (w : (r.bindN k).wp Q X) : r.wp (fun a h => (k a h).wp Q X) X' := by
  cases r with
  | ok a h => exact w
  | exc c h => exact w.elim
  | bad => exact w
section
variable (K : Kp) (W : WX) (σ : L2.St) (r : List Addr) (H : Hp)
/-- an error's own dict -/
def XRep (H' : Hp) (c : Exn) (od : Option Addr) : Prop := c.fs = [] ∧ od = none
def Pst {α : Type} (Z : α → Hh → List Addr → Hp → Prop) : α → Hh → Prop := fun a h' => ∀ r' H', Ext K r H r' H' → HRep K r' h' H' → Z a h' r' H'
def XPst : Exn → Hh → Prop := fun c h' => ∀ r' H' od, Ext K r H r' H' → HRep K r' h' H' → XRep H' c od → W (.ref (K.cl c.cls)) od σ H'
end
section
variable {K : Kp} {W : WX} {σ : L2.St} {r r1 : List Addr} {H H1 : Hp}
theorem Pst.ext {α : Type} {Z : α → Hh → List Addr → Hp → Prop} {a : α} {h : Hh} (x : Ext K r H r1 H1) (w : Pst K r H Z a h) : Pst K r1 H1 Z a h := fun r' H' x' q => w r' H' (x.trans x') q
theorem XPst.ext {c : Exn} {h : Hh} (x : Ext K r H r1 H1) (w : XPst K W σ r H c h) : XPst K W σ r1 H1 c h := fun r' H' od x' q z => w r' H' od (x.trans x') q z
/-- one run behind another one -/
theorem wp_bind2 {α β : Type} {t : R α} {k : α → Hh → R β} {Z : β → Hh → List Addr → Hp → Prop} (w : (t.bind k).wp (Pst K r H Z) (XPst K W σ r H)) :
    t.wp (Pst K r H fun a h1 r1 H1 => (k a h1).wp (Pst K r1 H1 Z) (XPst K W σ r1 H1)) (XPst K W σ r H) :=
  R.wp_mono (R.wp_bind w) (fun a h w1 r1 H1 x q => R.wp_mono w1 (fun _ _ => Pst.ext x) fun _ _ => XPst.ext x) fun _ _ w => w
theorem wp_imp {α : Type} {t : R α} {Z Z' : α → Hh → List Addr → Hp → Prop} (w : t.wp (Pst K r H Z) (XPst K W σ r H)) (f : ∀ a h r1 H1, Ext K r H r1 H1 → HRep K r1 h H1 → Z a h r1 H1 → Z' a h r1 H1) :
    t.wp (Pst K r H Z') (XPst K W σ r H) := R.wp_mono w (fun a h w r1 H1 x q => f a h r1 H1 x q (w r1 H1 x q)) fun _ _ w => w
end
theorem R.bind_ok {α β : Type} {t : R α} {k : α → Hh → R β} {b : β} {h' : Hh} (e : t.bind k = .ok b h') : ∃ a h, t = .ok a h ∧ k a h = .ok b h' := by
  cases t with
  | ok a h => exact ⟨a, h, rfl, e⟩
  | exc c h => cases e
  | bad => cases e
section
variable {K : Kp} {W : WX} {σ : L2.St} {r r1 : List Addr} {H H1 : Hp}
theorem wp_impE {α : Type} {t : R α} {Z Z' : α → Hh → List Addr → Hp → Prop} (w : t.wp (Pst K r H Z) (XPst K W σ r H)) (f : ∀ a h r1 H1, t = .ok a h → Ext K r H r1 H1 → HRep K r1 h H1 → Z a h r1 H1 → Z' a h r1 H1) :
    t.wp (Pst K r H Z') (XPst K W σ r H) := by
  cases t with
  | ok a h => exact fun r1 H1 x q => f a h r1 H1 rfl x q (w r1 H1 x q)
  | exc c h => exact w
  | bad => exact w
end
section
variable (K : Kp) (W : WX)
def tmE (m : E) : TE := fun σ H Q => ∃ r e h, HRep K r h H ∧ ERep K r H e σ ∧ (m e h).wp (Pst K r H fun d _ r' H' => ∀ v, Rep K r' H' d v → Q v H') (XPst K W σ r H)
def tmA (m : As) : TA := fun σ H Q => ∃ r e h, HRep K r h H ∧ ERep K r H e σ ∧ (m e h).wp (Pst K r H fun ds _ r' H' => ∀ vs, Reps K r' H' ds vs → Q vs H') (XPst K W σ r H)
def tmT (m : T) : TT := fun σ H Q => ∃ r e h, HRep K r h H ∧ ERep K r H e σ ∧ (m e h).wp (Pst K r H fun b _ _ H' => Q b H') (XPst K W σ r H)
end
/-! ### judgements -/
structure RE (X : Cx) (cl : Nat → Addr) (W : WX) (e : Expr) (m : E) : Prop where
  pe : PE X e (tmE (kp X cl) W m)
structure RA (X : Cx) (cl : Nat → Addr) (W : WX) (es : List Expr) (m : As) : Prop where
  pa : PA X es (tmA (kp X cl) W m)
  ln : ∀ e h ds h', m e h = .ok ds h' → ds.length = es.length
structure RT (X : Cx) (cl : Nat → Addr) (W : WX) (e : Expr) (m : T) : Prop where
  pt : PT X e (tmT (kp X cl) W m)
structure RW (X : Cx) (cl : Nat → Addr) (W : WX) (e : Expr) (m : T) : Prop where
  pw : PW X e (tmT (kp X cl) W m)
section
variable {X : Cx} {cl : Nat → Addr} {W : WX}
theorem pe_mono {e : Expr} {t t' : TE} (h : PE X e t) (f : ∀ σ H Q, t' σ H Q → t σ H Q) : PE X e t' := ⟨fun pins s σ H Q I w => h.run pins s σ H Q I (f σ H Q w)⟩
theorem pa_mono {es : List Expr} {t t' : TA} (h : PA X es t) (f : ∀ σ H Q, t' σ H Q → t σ H Q) : PA X es t' := ⟨fun pos pins s σ H Q I w => h.run pos pins s σ H Q I (f σ H Q w)⟩
theorem pt_mono {e : Expr} {t t' : TT} (h : PT X e t) (f : ∀ σ H Q, t' σ H Q → t σ H Q) : PT X e t' := ⟨fun pins s σ H Q I w => h.run pins s σ H Q I (f σ H Q w)⟩
theorem pw_mono {e : Expr} {t t' : TT} (h : PW X e t) (f : ∀ σ H Q, t' σ H Q → t σ H Q) : PW X e t' := ⟨fun wh pins s σ H Q I w => h.run wh pins s σ H Q I (f σ H Q w)⟩

theorem re_var (i : Nat) {x : Str} {pos : Pos} (hN : X.N[i]? = some x := by rfl) (hv : Vis X.env.scope x := by first | exact Or.inl rfl | exact Or.inr (Or.inl rfl) | exact Or.inr (Or.inr rfl)) (hd : (x == ("__debug__" : Str)) = false := by decide)
    (hcd : (x == ("__classdict__" : Str)) = false := by decide) : RE X cl W (.Name x pos) (eVar i) := by
  refine ⟨pe_mono (pe_var (i := i) hN hv hd hcd) ?_⟩
  rintro σ H Q ⟨r, e, h, hr, er, w⟩
  unfold eVar at w
  split at w
  · rename_i d e1
    obtain ⟨v, e2, e3⟩ := er.at_ i d e1
    exact ⟨v, e2, w r H Ext.refl hr v e3⟩
  · exact w.elim
theorem re_c {e : Expr} {v : V} {d : D} (h : PE X e (tC v)) (f : ∀ K r H, Rep K r H d v) : RE X cl W e (eC d) := by
  refine ⟨pe_mono h ?_⟩
  rintro σ H Q ⟨r, e, h, hr, er, w⟩
  exact w r H Ext.refl hr v (f _ _ _)
theorem re_int {i j pos} : RE X cl W (.Constant (.int i) j pos) (eC (.int i)) := re_c pe_int fun _ _ _ => by simp [Rep]
theorem re_bl {b j pos} : RE X cl W (.Constant (.bool b) j pos) (eC (.bl b)) := re_c pe_bl fun _ _ _ => by simp [Rep]
theorem re_non {j pos} : RE X cl W (.Constant .none j pos) (eC .non) := re_c pe_non fun _ _ _ => by simp [Rep]
theorem re_str {x j pos} : RE X cl W (.Constant (.str x) j pos) (eC (.str x)) := re_c pe_str fun _ _ _ => by simp [Rep]
/-- an operator by values -/
def rD (K : Kp) (op : D → D → Hh → R D) : R2 := fun x y H Q => ∃ r h d1 d2, HRep K r h H ∧ Rep K r H d1 x ∧ Rep K r H d2 y ∧ (op d1 d2 h).wp (Pst K r H fun d _ r' H' => ∀ v, Rep K r' H' d v → Q v H') fun _ _ => False
def SOp (X : Cx) (cl : Nat → Addr) (f : Value → Value → Sem Value) (op : D → D → Hh → R D) : Prop := OpR X f (rD (kp X cl) op)

theorem noX_wp {α : Type} {t : R α} {Q : α → Hh → Prop} {Y : Exn → Hh → Prop} (w : t.noX.wp Q Y) : t.wp Q fun _ _ => False := by
  cases t <;> exact w
theorem op_core {K : Kp} {f : D → D → Hh → R D} {ma mb : E} {σ : L2.St} {H : Hp} {Q : VK} (w : tmE K W (eBin f ma mb) σ H Q) : tOp (rD K f) (tmE K W ma) (tmE K W mb) σ H Q := by
  obtain ⟨r, e, h, hr, er, w⟩ := w
  refine ⟨r, e, h, hr, er, wp_imp (wp_bind2 w) fun d1 h1 r1 H1 x1 hr1 w1 v1 q1 => ?_⟩
  refine ⟨r1, e, h1, hr1, er.ext x1, wp_imp (wp_bind2 w1) fun d2 h2 r2 H2 x2 hr2 w2 v2 q2 => ?_⟩
  exact ⟨r2, h2, d1, d2, hr2, q1.ext x2, q2, noX_wp w2⟩
/-- a test: what it gives is a truth -/
theorem tE_imp {K : Kp} {m : E} {σ : L2.St} {H : Hp} {Q : Bool → Hp → Prop} (w : tmT K W (tE m) σ H Q) : tmE K W m σ H fun x H' => ∃ k, x = .bl k ∧ Q k H' := by
  obtain ⟨r, e, h, hr, er, w⟩ := w
  refine ⟨r, e, h, hr, er, wp_imp (wp_bind2 w) fun d h1 r1 H1 x1 hr1 w1 v q => ?_⟩
  split at w1
  · simp only [Rep] at q
    exact ⟨_, q, w1 r1 H1 Ext.refl hr1⟩
  · exact w1.elim
theorem re_bin {op : Operator} {f : D → D → Hh → R D} {a b : Expr} {ma mb : E} {pos : Pos} (ho : SOp X cl (binaryOp op) f) (ha : RE X cl W a ma) (hb : RE X cl W b mb) : RE X cl W (.BinOp a op b pos) (eBin f ma mb) :=
  ⟨pe_mono (pe_op ho ha.pe hb.pe) fun _ _ _ w => op_core w⟩
theorem re_cmp {op : CmpOp} {f : D → D → Hh → R D} {a b : Expr} {ma mb : E} {pos : Pos} (ho : SOp X cl (compareOp op) f) (ha : RE X cl W a ma) (hb : RE X cl W b mb) (hm : behindInMarks op b = false := by rfl) : RE X cl W (.Compare a [op] [b] pos) (eBin f ma mb) :=
  ⟨pe_mono (pe_cmpR ho ha.pe hb.pe hm) fun _ _ _ w => op_core w⟩
theorem rt_cmp {op : CmpOp} {f : D → D → Hh → R D} {a b : Expr} {ma mb : E} {pos : Pos} (ho : SOp X cl (compareOp op) f) (ha : RE X cl W a ma) (hb : RE X cl W b mb) (hm : behindInMarks op b = false := by rfl) : RT X cl W (.Compare a [op] [b] pos) (tE (eBin f ma mb)) :=
  ⟨pt_mono (pt_cmpR ho ha.pe hb.pe hm) fun _ _ _ w => op_core (tE_imp w)⟩
theorem rt_val {e : Expr} {m : E} (h : RE X cl W e m) (he : ∀ whole, isTrue e X.env whole = (do let v ← whole; standAt e.pos; holding [v] (truthy v)) := by intro _; rfl) : RT X cl W e (tE m) :=
  ⟨pt_mono (pt_val h.pe he) fun _ _ _ w => tE_imp w⟩
/-! and, or, not -/
theorem rt_pw {e : Expr} {m : T} (h : RW X cl W e m) : RT X cl W e m := ⟨h.pw.pt⟩
theorem rw_and1 {a : Expr} {m : T} {pos : Pos} (h : RT X cl W a m) : RW X cl W (.BoolOp .And [a] pos) m := ⟨pw_and1 h.pt⟩
theorem rw_or1 {a : Expr} {m : T} {pos : Pos} (h : RT X cl W a m) : RW X cl W (.BoolOp .Or [a] pos) m := ⟨pw_or1 h.pt⟩
theorem rw_and {a b : Expr} {rest : List Expr} {m n : T} {pos : Pos} (h : RT X cl W a m) (h' : RW X cl W (.BoolOp .And (b :: rest) pos) n) : RW X cl W (.BoolOp .And (a :: b :: rest) pos) (tAnd m n) := by
  refine ⟨pw_mono (pw_and h.pt h'.pw) ?_⟩
  rintro σ H Q ⟨r, e, h, hr, er, w⟩
  refine ⟨r, e, h, hr, er, wp_imp (wp_bind2 w) fun b h1 r1 H1 x1 hr1 w1 => ?_⟩
  cases b with
  | true => exact ⟨r1, e, h1, hr1, er.ext x1, by simpa using w1⟩
  | false =>
    simp only [Bool.false_eq_true, if_false] at w1 ⊢
    exact w1 r1 H1 Ext.refl hr1
theorem rw_or {a b : Expr} {rest : List Expr} {m n : T} {pos : Pos} (h : RT X cl W a m) (h' : RW X cl W (.BoolOp .Or (b :: rest) pos) n) : RW X cl W (.BoolOp .Or (a :: b :: rest) pos) (tOr m n) := by
  refine ⟨pw_mono (pw_or h.pt h'.pw) ?_⟩
  rintro σ H Q ⟨r, e, h, hr, er, w⟩
  refine ⟨r, e, h, hr, er, wp_imp (wp_bind2 w) fun b h1 r1 H1 x1 hr1 w1 => ?_⟩
  cases b with
  | false => exact ⟨r1, e, h1, hr1, er.ext x1, by simpa using w1⟩
  | true =>
    simp only [if_true] at w1 ⊢
    exact w1 r1 H1 Ext.refl hr1
theorem rt_not {a : Expr} {m : T} {pos : Pos} (h : RT X cl W a m) : RT X cl W (.UnaryOp .Not a pos) (tNot m) := by
  refine ⟨pt_mono (pt_not h.pt) ?_⟩
  rintro σ H Q ⟨r, e, h, hr, er, w⟩
  exact ⟨r, e, h, hr, er, wp_imp (wp_bind2 w) fun b h1 r1 H1 x1 hr1 w1 => w1 r1 H1 Ext.refl hr1⟩
theorem re_last {op} {a : Expr} {m : E} {pos : Pos} (h : RE X cl W a m) : RE X cl W (.BoolOp op [a] pos) m := ⟨pe_one h.pe⟩
theorem re_and {a b : Expr} {rest : List Expr} {m n : E} {pos : Pos} (h : RE X cl W a m) (h' : RE X cl W (.BoolOp .And (b :: rest) pos) n) : RE X cl W (.BoolOp .And (a :: b :: rest) pos) (eAnd m n) := by
  refine ⟨pe_mono (pe_and h.pe h'.pe) ?_⟩
  rintro σ H Q ⟨r, e, h, hr, er, w⟩
  refine ⟨r, e, h, hr, er, wp_imp (wp_bind2 w) fun d h1 r1 H1 x1 hr1 w1 v q => ?_⟩
  split at w1
  · simp only [Rep] at q
    refine ⟨true, q, ?_⟩
    rw [if_pos rfl]
    exact ⟨r1, e, h1, hr1, er.ext x1, w1⟩
  · simp only [Rep] at q
    refine ⟨false, q, ?_⟩
    rw [if_neg Bool.false_ne_true]
    exact w1 r1 H1 Ext.refl hr1 _ (by simp [Rep])
  · exact w1.elim
theorem re_or {a b : Expr} {rest : List Expr} {m n : E} {pos : Pos} (h : RE X cl W a m) (h' : RE X cl W (.BoolOp .Or (b :: rest) pos) n) : RE X cl W (.BoolOp .Or (a :: b :: rest) pos) (eOr m n) := by
  refine ⟨pe_mono (pe_or h.pe h'.pe) ?_⟩
  rintro σ H Q ⟨r, e, h, hr, er, w⟩
  refine ⟨r, e, h, hr, er, wp_imp (wp_bind2 w) fun d h1 r1 H1 x1 hr1 w1 v q => ?_⟩
  split at w1
  · simp only [Rep] at q
    refine ⟨true, q, ?_⟩
    rw [if_pos rfl]
    exact w1 r1 H1 Ext.refl hr1 _ (by simp [Rep])
  · simp only [Rep] at q
    refine ⟨false, q, ?_⟩
    rw [if_neg Bool.false_ne_true]
    exact ⟨r1, e, h1, hr1, er.ext x1, w1⟩
  · exact w1.elim
theorem re_not {a : Expr} {m : E} {pos : Pos} (h : RE X cl W a m) : RE X cl W (.UnaryOp .Not a pos) (eNot m) := by
  refine ⟨pe_mono (pe_not h.pe) ?_⟩
  rintro σ H Q ⟨r, e, h, hr, er, w⟩
  refine ⟨r, e, h, hr, er, wp_imp (wp_bind2 w) fun d h1 r1 H1 x1 hr1 w1 v q => ?_⟩
  split at w1
  · simp only [Rep] at q
    exact ⟨_, q, w1 r1 H1 Ext.refl hr1 _ (by simp [Rep])⟩
  · exact w1.elim
/-! chains, unary -/
theorem chain_core {K : Kp} {f g : D → D → Hh → R D} {ma mb mc : E} {σ : L2.St} {H : Hp} {Q : VK} (w : tmE K W (eChain f g ma mb mc) σ H Q) : tChain (rD K f) (rD K g) (tmE K W ma) (tmE K W mb) (tmE K W mc) σ H Q := by
  obtain ⟨r, e, h, hr, er, w⟩ := w
  refine ⟨r, e, h, hr, er, wp_imp (wp_bind2 w) fun d1 h1 r1 H1 x1 hr1 w1 v1 q1 => ?_⟩
  refine ⟨r1, e, h1, hr1, er.ext x1, wp_imp (wp_bind2 w1) fun d2 h2 r2 H2 x2 hr2 w2 v2 q2 => ?_⟩
  refine ⟨r2, h2, d1, d2, hr2, q1.ext x2, q2, R.wp_mono (noX_wp (Y := XPst K W σ r2 H2) (wp_bind2 w2)) (fun d h3 z r3 H3 x3 hr3 v q => ?_) fun _ _ z => z⟩
  have z := z r3 H3 x3 hr3
  simp only at z
  split at z
  · simp only [Rep] at q
    refine ⟨true, q, ?_⟩
    first | rw [if_pos rfl] | simp only [if_true]
    refine ⟨r3, e, h3, hr3, ((er.ext x1).ext x2).ext x3, wp_imp (wp_bind2 z) fun d4 h4 r4 H4 x4 hr4 w4 v4 q4 => ?_⟩
    exact ⟨r4, h4, d2, d4, hr4, (q2.ext x3).ext x4, q4, noX_wp w4⟩
  · simp only [Rep] at q
    refine ⟨false, q, ?_⟩
    first | rw [if_neg Bool.false_ne_true] | simp only [Bool.false_eq_true, if_false]
    exact z r3 H3 Ext.refl hr3 _ (by simp [Rep])
  · exact z.elim
theorem re_chain {op op' : CmpOp} {f g : D → D → Hh → R D} {a b c : Expr} {ma mb mc : E} {pos : Pos} (ho : SOp X cl (compareOp op) f) (ho' : SOp X cl (compareOp op') g) (ha : RE X cl W a ma) (hb : RE X cl W b mb) (hc : RE X cl W c mc)
    (hm : lastMarks [op, op'] [b, c] = false := by with_unfolding_all rfl) : RE X cl W (.Compare a [op, op'] [b, c] pos) (eChain f g ma mb mc) := ⟨pe_mono (pe_chain ho ho' ha.pe hb.pe hc.pe hm) fun _ _ _ w => chain_core w⟩
theorem rt_chain {op op' : CmpOp} {f g : D → D → Hh → R D} {a b c : Expr} {ma mb mc : E} {pos : Pos} (ho : SOp X cl (compareOp op) f) (ho' : SOp X cl (compareOp op') g) (ha : RE X cl W a ma) (hb : RE X cl W b mb) (hc : RE X cl W c mc)
    (hm : lastMarks [op, op'] [b, c] = false := by with_unfolding_all rfl) : RT X cl W (.Compare a [op, op'] [b, c] pos) (tE (eChain f g ma mb mc)) := ⟨pt_mono (pt_chain ho ho' ha.pe hb.pe hc.pe hm) fun _ _ _ w => chain_core (tE_imp w)⟩
def rU1 (K : Kp) (op : D → Hh → R D) : V → Hp → VK → Prop := fun x H Q => ∃ r h d, HRep K r h H ∧ Rep K r H d x ∧ (op d h).wp (Pst K r H fun d _ r' H' => ∀ v, Rep K r' H' d v → Q v H') fun _ _ => False
def SUn (X : Cx) (cl : Nat → Addr) (f : Value → Sem Value) (op : D → Hh → R D) : Prop := UnR X f (rU1 (kp X cl) op)
theorem un_core {K : Kp} {f : D → Hh → R D} {ma : E} {σ : L2.St} {H : Hp} {Q : VK} (w : tmE K W (eUn f ma) σ H Q) : tmE K W ma σ H fun x H1 => rU1 K f x H1 Q := by
  obtain ⟨r, e, h, hr, er, w⟩ := w
  exact ⟨r, e, h, hr, er, wp_imp (wp_bind2 w) fun d1 h1 r1 H1 x1 hr1 w1 v1 q1 => ⟨r1, h1, d1, hr1, q1, noX_wp w1⟩⟩
theorem re_un {op : UnaryOp} {f : D → Hh → R D} {a : Expr} {ma : E} {pos : Pos} (ho : SUn X cl (unaryOp op) f) (ha : RE X cl W a ma) : RE X cl W (.UnaryOp op a pos) (eUn f ma) :=
  ⟨pe_mono (pe_un ho ha.pe) fun _ _ _ w => un_core w⟩
/-! arguments, displays -/
theorem ra_nil : RA X cl W [] aNil := by
  refine ⟨pa_mono pa_nil ?_, fun e h ds h' q => by cases q; rfl⟩
  rintro σ H Q ⟨r, e, h, hr, er, w⟩
  exact w r H Ext.refl hr [] Reps.nil
theorem ra_cons {a : Expr} {es : List Expr} {m : E} {n : As} (ha : RE X cl W a m) (hr : RA X cl W es n) (hs : starEach (a :: es) X.env = (false, eval a X.env) :: starEach es X.env := by rfl) : RA X cl W (a :: es) (aCons m n) := by
  refine ⟨pa_mono (pa_cons ha.pe hr.pa hs) ?_, fun e h ds h' q => by
    obtain ⟨a1, h1, _, q⟩ := R.bind_ok q
    obtain ⟨a2, h2, q2, q⟩ := R.bind_ok q
    cases q
    rw [List.length_cons, List.length_cons, hr.ln _ _ _ _ q2]⟩
  rintro σ H Q ⟨r, e, h, hr, er, w⟩
  refine ⟨r, e, h, hr, er, wp_imp (wp_bind2 w) fun d1 h1 r1 H1 x1 hr1 w1 v1 q1 => ?_⟩
  refine ⟨r1, e, h1, hr1, er.ext x1, wp_imp (wp_bind2 w1) fun ds h2 r2 H2 x2 hr2 w2 vs qs => ?_⟩
  exact w2 r2 H2 Ext.refl hr2 _ (Reps.cons (q1.ext x2) qs)
/-- a new tuple -/
theorem tup_new {K : Kp} {r : List Addr} {h : Hh} {H : Hp} {p : Addr} {ds : List D} {vs : List V} {Q : VK} (hr : HRep K r h H) (hp : H p = none) (q : Reps K r H ds vs)
    (w : Pst K r H (fun d _ r' H' => ∀ v, Rep K r' H' d v → Q v H') (.tup ds) h) : Q (.ref p) (upd H p (.tup vs)) := by
  have x : Ext K r H r (upd H p (.tup vs)) := Ext.tup hp
  refine w r _ x (hr.tup hp) _ ?_
  simp only [Rep]
  exact ⟨p, vs, rfl, upd_same, q.ext x⟩
/-- a new list -/
theorem lst_new {K : Kp} {r : List Addr} {h : Hh} {H : Hp} {p : Addr} {ds : List D} {vs : List V} {Q : VK} (hr : HRep K r h H) (hp : H p = none) (q : Reps K r H ds vs)
    (w : Pst K r H (fun d _ r' H' => ∀ v, Rep K r' H' d v → Q v H') (.ref h.length) (h ++ [.lst ds])) : Q (.ref p) (upd H p (.lst vs)) := by
  have x : Ext K r H (r ++ [p]) (upd H p (.lst vs)) := Ext.new hp
  refine w _ _ x (hr.new hp ⟨vs, upd_same, q.ext x⟩) _ ?_
  simp only [Rep]
  refine ⟨p, ?_, rfl⟩
  rw [← hr.len, List.getElem?_append_right (Nat.le_refl _)]
  simp
theorem re_tup {es : List Expr} {m : As} {k} {pos : Pos} (ha : RA X cl W es m) (hz : es.length ≤ 1000 := by decide) : RE X cl W (.Tuple es k pos) (eTup m) := by
  refine ⟨pe_mono (pe_tup ha.pa) ?_⟩
  rintro σ H Q ⟨r, e, h, hr, er, w⟩
  refine ⟨r, e, h, hr, er, wp_impE (wp_bind2 w) fun ds h1 r1 H1 eq x1 hr1 w1 vs qs => ?_⟩
  exact ⟨by rw [qs.length, ha.ln _ _ _ _ eq, sizeLine_eq]; omega, fun p hp => tup_new hr1 hp qs w1⟩
theorem re_lst {es : List Expr} {m : As} {pos : Pos} (ha : RA X cl W es m) (hz : es.length ≤ 1000 := by decide) : RE X cl W (.List es pos) (eLst m) := by
  refine ⟨pe_mono (pe_lst ha.pa) ?_⟩
  rintro σ H Q ⟨r, e, h, hr, er, w⟩
  refine ⟨r, e, h, hr, er, wp_impE (wp_bind2 w) fun ds h1 r1 H1 eq x1 hr1 w1 vs qs => ?_⟩
  exact ⟨by rw [qs.length, ha.ln _ _ _ _ eq, sizeLine_eq]; omega, fun p hp => lst_new hr1 hp qs w1⟩

/-! ### operators -/
theorem op_mono {f : Value → Value → Sem Value} {t t' : R2} (h : OpR X f t) (g : ∀ x y H Q, t' x y H Q → t x y H Q) : OpR X f t' := fun pins s σ H x y v u Q I rx ry w => h pins s σ H x y v u Q I rx ry (g x y H Q w)
theorem call_mono {f : Value} {t t' : List V → Hp → VK → Prop} (h : CallR X f t) (g : ∀ xs H Q, t' xs H Q → t xs H Q) : CallR X f t' := fun pins s σ H xs us Q I rs w => h pins s σ H xs us Q I rs (g xs H Q w)
theorem un_mono {f : Value → Sem Value} {t t' : V → Hp → VK → Prop} (h : UnR X f t) (g : ∀ x H Q, t' x H Q → t x H Q) : UnR X f t' := fun pins s σ H x v Q I rx w => h pins s σ H x v Q I rx (g x H Q w)
theorem ix_mono {t t' : R2} (h : IxR X t) (g : ∀ x y H Q, t' x y H Q → t x y H Q) : IxR X t' := fun va sl pins s σ H x y v u Q I rx ry w hs => h va sl pins s σ H x y v u Q I rx ry (g x y H Q w) hs
theorem mt_mono {id : String} {t t' : V → List V → Hp → VK → Prop} (h : MtR X id t) (g : ∀ x xs H Q, t' x xs H Q → t x xs H Q) : MtR X id t' := fun pins s σ H x xs v us Q I rx rs w => h pins s σ H x xs v us Q I rx rs (g x xs H Q w)
section
variable {K : Kp} {r : List Addr} {H : Hp}
theorem Rep.int_ {i : Int} {v : V} (q : Rep K r H (.int i) v) : v = .int i := by simpa [Rep] using q
theorem Rep.bl_ {i : Bool} {v : V} (q : Rep K r H (.bl i) v) : v = .bl i := by simpa [Rep] using q
theorem Rep.str_ {i : Str} {v : V} (q : Rep K r H (.str i) v) : v = .str i := by simpa [Rep] using q
theorem Rep.non_ {v : V} (q : Rep K r H .non v) : v = .non := by simpa [Rep] using q
theorem Rep.ref_ {n : Nat} {v : V} (q : Rep K r H (.ref n) v) : ∃ a, r[n]? = some a ∧ v = .ref a := by simpa [Rep] using q
theorem Rep.tup_ {ds : List D} {v : V} (q : Rep K r H (.tup ds) v) : ∃ a vs, v = .ref a ∧ H a = some (.tup vs) ∧ Reps K r H ds vs := by simpa [Rep] using q
theorem Rep.int {i : Int} : Rep K r H (.int i) (.int i) := by simp [Rep]
theorem Rep.bl {i : Bool} : Rep K r H (.bl i) (.bl i) := by simp [Rep]
theorem Rep.str {i : Str} : Rep K r H (.str i) (.str i) := by simp [Rep]
theorem Rep.non : Rep K r H .non .non := by simp [Rep]
theorem Rep.ref {n : Nat} {a : Addr} (e : r[n]? = some a) : Rep K r H (.ref n) (.ref a) := by simp only [Rep]; exact ⟨a, e, rfl⟩
theorem Rep.tup {ds : List D} {a : Addr} {vs : List V} (e : H a = some (.tup vs)) (q : Reps K r H ds vs) : Rep K r H (.tup ds) (.ref a) := by simp only [Rep]; exact ⟨a, vs, rfl, e, q⟩
/-- a plain answer -/
theorem fin {h : Hh} {d : D} {v : V} {Q : VK} (hr : HRep K r h H) (q : Rep K r H d v) (w : Pst K r H (fun d _ r' H' => ∀ v, Rep K r' H' d v → Q v H') d h) : Q v H := w r H Ext.refl hr v q
end
theorem so_add : SOp X cl (binaryOp .Add) opAdd := by
  refine op_mono ((op_add.or op_add_str).or (op_cat.or op_catT)) ?_
  rintro x y H Q ⟨r, h, d1, d2, hr, q1, q2, w⟩
  unfold opAdd at w
  split at w
  · rw [q1.int_, q2.int_]
    exact .inl (.inl ⟨_, _, rfl, rfl, fin hr Rep.int w⟩)
  · rw [q1.str_, q2.str_]
    split at w
    · rename_i hz
      exact .inl (.inr ⟨_, _, rfl, rfl, by rw [sizeLine_eq]; exact hz, fin hr Rep.str w⟩)
    · exact w.elim
  · obtain ⟨a, vs, rfl, s1, t1⟩ := q1.tup_
    obtain ⟨b, ws, rfl, s2, t2⟩ := q2.tup_
    split at w
    · rename_i i j hz
      refine .inr (.inr ⟨a, b, vs, ws, rfl, rfl, SqT.of s1, SqT.of s2, fun e => ?_, by rw [t1.length, t2.length, sizeLine_eq]; exact hz.1, fun e => ?_, fun e p hp => ?_⟩)
      · have := t1.length
        rw [e] at this
        exact hz.2 (List.eq_nil_of_length_eq_zero this.symm)
      · have hj : j = [] := by
          have := t2.length
          rw [e] at this
          exact List.eq_nil_of_length_eq_zero this.symm
        subst hj
        rw [List.append_nil] at w
        exact fin hr (Rep.tup s1 t1) w
      · exact tup_new hr hp (t1.append t2) w
    · exact w.elim
  · obtain ⟨a, ea, rfl⟩ := q1.ref_
    obtain ⟨b, eb, rfl⟩ := q2.ref_
    split at w
    · rename_i i j h1 h2
      obtain ⟨vs, s1, t1⟩ := hr.lst h1 ea
      obtain ⟨ws, s2, t2⟩ := hr.lst h2 eb
      split at w
      · rename_i hz
        exact .inr (.inl ⟨a, b, vs, ws, rfl, rfl, s1, s2, by rw [t1.length, t2.length, sizeLine_eq]; exact hz, fun p hp => lst_new hr hp (t1.append t2) w⟩)
      · exact w.elim
    · exact w.elim
  · exact w.elim
theorem so_sub : SOp X cl (binaryOp .Sub) opSub := by
  refine op_mono op_sub ?_
  rintro x y H Q ⟨r, h, d1, d2, hr, q1, q2, w⟩
  unfold opSub at w
  split at w
  · rw [q1.int_, q2.int_]
    exact ⟨_, _, rfl, rfl, fin hr Rep.int w⟩
  · exact w.elim
theorem so_mul : SOp X cl (binaryOp .Mult) opMul := by
  refine op_mono (op_mul.or op_rep) ?_
  rintro x y H Q ⟨r, h, d1, d2, hr, q1, q2, w⟩
  unfold opMul at w
  split at w
  · rw [q1.int_, q2.int_]
    split at w
    · rename_i hz
      simp only [facOk, decide_eq_true_eq] at hz
      exact .inl ⟨_, _, rfl, rfl, hz, fin hr Rep.int w⟩
    · exact w.elim
  · obtain ⟨a, ea, rfl⟩ := q1.ref_
    rw [q2.int_]
    split at w
    · rename_i i h1
      obtain ⟨vs, s1, t1⟩ := hr.lst h1 ea
      split at w
      · rename_i hz
        obtain ⟨z1, z2⟩ := hz
        simp only [small, decide_eq_true_eq] at z1
        refine .inr ⟨a, _, vs, rfl, rfl, s1, by omega, by omega, by rw [t1.length, sizeLine_eq]; exact z2, fun p hp => lst_new hr hp ?_ w⟩
        generalize (_ : Int).toNat = n
        induction n with
        | zero => exact Reps.nil
        | succ n ih =>
          rw [List.replicate_succ, List.replicate_succ, List.flatten_cons, List.flatten_cons]
          exact t1.append ih
      · exact w.elim
    · exact w.elim
  · exact w.elim
theorem so_div : SOp X cl (binaryOp .FloorDiv) opDiv := by
  refine op_mono op_fdiv ?_
  rintro x y H Q ⟨r, h, d1, d2, hr, q1, q2, w⟩
  unfold opDiv at w
  split at w
  · rw [q1.int_, q2.int_]
    split at w
    · rename_i hz
      exact ⟨_, _, rfl, rfl, hz, fin hr Rep.int w⟩
    · exact w.elim
  · exact w.elim
theorem so_mod : SOp X cl (binaryOp .Mod) opMod := by
  refine op_mono op_mod ?_
  rintro x y H Q ⟨r, h, d1, d2, hr, q1, q2, w⟩
  unfold opMod at w
  split at w
  · rw [q1.int_, q2.int_]
    split at w
    · rename_i hz
      exact ⟨_, _, rfl, rfl, hz, fin hr Rep.int w⟩
    · exact w.elim
  · exact w.elim
theorem so_pow : SOp X cl (binaryOp .Pow) opPow := by
  refine op_mono op_pow ?_
  rintro x y H Q ⟨r, h, d1, d2, hr, q1, q2, w⟩
  unfold opPow at w
  split at w
  · rw [q1.int_, q2.int_]
    split at w
    · rename_i hz
      exact ⟨_, _, rfl, rfl, hz, fin hr Rep.int w⟩
    · exact w.elim
  · exact w.elim
theorem so_neg : SUn X cl (unaryOp .USub) opNeg := by
  refine un_mono un_neg ?_
  rintro x H Q ⟨r, h, d, hr, q, w⟩
  unfold opNeg at w
  split at w
  · rw [q.int_]
    exact ⟨_, rfl, fin hr Rep.int w⟩
  · exact w.elim
theorem so_cmp {op : CmpOp} {p : Int → Int → Bool} (ho : OpR X (compareOp op) (rI0 fun i j => .bl (p i j))) : SOp X cl (compareOp op) (opCmp p) := by
  refine op_mono ho ?_
  rintro x y H Q ⟨r, h, d1, d2, hr, q1, q2, w⟩
  unfold opCmp at w
  split at w
  · rw [q1.int_, q2.int_]
    exact ⟨_, _, rfl, rfl, fin hr Rep.bl w⟩
  · exact w.elim
theorem so_lt : SOp X cl (compareOp .Lt) opLt := so_cmp op_lt
theorem so_le : SOp X cl (compareOp .LtE) opLe := so_cmp op_le
theorem so_gt : SOp X cl (compareOp .Gt) opGt := so_cmp op_gt
theorem so_ge : SOp X cl (compareOp .GtE) opGe := so_cmp op_ge
theorem dec_non {K : Kp} {r : List Addr} {H : Hp} {d : D} {x : V} (q : Rep K r H d x) : decide (x = V.non) = decide (d = D.non) := by
  cases d with
  | non => rw [q.non_]; rfl
  | bl b => rw [q.bl_]; simp
  | int i => rw [q.int_]; simp
  | str i => rw [q.str_]; simp
  | ref n => obtain ⟨a, _, rfl⟩ := q.ref_; simp
  | tup ds => obtain ⟨a, vs, rfl, _⟩ := q.tup_; simp
theorem so_isN : SOp X cl (compareOp .Is) opIsN := by
  refine op_mono op_isN ?_
  rintro x y H Q ⟨r, h, d1, d2, hr, q1, q2, w⟩
  unfold opIsN at w
  split at w
  · rw [q2.non_, dec_non q1]
    exact ⟨rfl, fin hr Rep.bl w⟩
  · exact w.elim
theorem so_notN : SOp X cl (compareOp .IsNot) opNotN := by
  refine op_mono op_notN ?_
  rintro x y H Q ⟨r, h, d1, d2, hr, q1, q2, w⟩
  unfold opNotN at w
  split at w
  · rw [q2.non_, dec_non q1]
    exact ⟨rfl, fin hr Rep.bl w⟩
  · exact w.elim

/-! ### data as a whole -/
section
variable {K : Kp} {r : List Addr} {h : Hh} {H : Hp}
theorem dp_all (hr : HRep K r h H) {m : Nat} (ih : ∀ (d : D) (v : V) (p : PyData), Rep K r H d v → pd m h d = some p → Dp K.K H v p) : ∀ (ds : List D) (vs : List V) (ps : List PyData), Reps K r H ds vs → pdAll (pd m h) ds = some ps → DpAll K.K H vs ps
  | [], vs, ps, q, e => by
    rw [q.of_nil]
    cases e
    exact .nil
  | d :: ds, vs, ps, q, e => by
    obtain ⟨v, ws, rfl, q1, q2⟩ := q.of_cons
    unfold pdAll at e
    split at e
    · rename_i a as e1 e2
      cases e
      exact .cons (ih _ _ _ q1 e1) (dp_all hr ih ds ws as q2 e2)
    · cases e
theorem dp_of (hr : HRep K r h H) : ∀ (m : Nat) (d : D) (v : V) (p : PyData), Rep K r H d v → pd m h d = some p → Dp K.K H v p
  | 0, _, _, _, _, e => by cases e
  | m + 1, d, v, p, q, e => by
    unfold pd at e
    split at e
    · cases e; rw [q.non_]; exact .non
    · cases e; rw [q.bl_]; exact .bl _
    · cases e; rw [q.int_]; exact .int _
    · split at e
      · cases e; rw [q.str_]; exact .str _
      · cases e
    · obtain ⟨a, vs, rfl, s1, t1⟩ := q.tup_
      obtain ⟨ps, e1, rfl⟩ := Option.map_eq_some_iff.mp e
      exact .tup (SqT.of s1) (dp_all hr (dp_of hr m) _ _ _ t1 e1)
    · obtain ⟨a, ea, rfl⟩ := q.ref_
      split at e
      · rename_i ds e0
        obtain ⟨ps, e1, rfl⟩ := Option.map_eq_some_iff.mp e
        obtain ⟨vs, s1, t1⟩ := hr.seq e0 ea
        exact .lst s1 (dp_all hr (dp_of hr m) _ _ _ t1 e1)
      · cases e
theorem lay_all {m : Nat} (ih : ∀ (d : D) (p : PyData), pd m h d = some p → p.canLay0 = true ∧ p.depth ≤ m) : ∀ (ds : List D) (ps : List PyData), pdAll (pd m h) ds = some ps → PyData.canLayAll0 ps = true ∧ PyData.depthAll ps ≤ m
  | [], ps, e => by cases e; exact ⟨rfl, Nat.zero_le _⟩
  | d :: ds, ps, e => by
    unfold pdAll at e
    split at e
    · rename_i a as e1 e2
      cases e
      obtain ⟨z1, z2⟩ := ih _ _ e1
      obtain ⟨z3, z4⟩ := lay_all ih ds as e2
      refine ⟨by simp [PyData.canLayAll0, z1, z3], ?_⟩
      simp only [PyData.depthAll]
      omega
    · cases e
theorem lay_of : ∀ (m : Nat) (d : D) (p : PyData), pd m h d = some p → p.canLay0 = true ∧ p.depth ≤ m
  | 0, _, _, e => by cases e
  | m + 1, d, p, e => by
    unfold pd at e
    split at e
    · cases e; exact ⟨rfl, by simp [PyData.depth]⟩
    · cases e; exact ⟨rfl, by simp [PyData.depth]⟩
    · cases e; exact ⟨rfl, by simp [PyData.depth]⟩
    · split at e
      · rename_i hz
        cases e
        exact ⟨by simpa [PyData.canLay0] using hz, by simp [PyData.depth]⟩
      · cases e
    · obtain ⟨ps, e1, rfl⟩ := Option.map_eq_some_iff.mp e
      obtain ⟨z3, z4⟩ := lay_all (lay_of m) _ _ e1
      exact ⟨by simpa [PyData.canLay0] using z3, by simp only [PyData.depth]; omega⟩
    · split at e
      · obtain ⟨ps, e1, rfl⟩ := Option.map_eq_some_iff.mp e
        obtain ⟨z3, z4⟩ := lay_all (lay_of m) _ _ e1
        exact ⟨by simpa [PyData.canLay0] using z3, by simp only [PyData.depth]; omega⟩
      · cases e
theorem shaped_of {d : D} {p : PyData} (e : pd deep h d = some p) : SeqAt.shaped p = true := by
  obtain ⟨z1, z2⟩ := lay_of _ _ _ e
  unfold SeqAt.shaped
  have : p.depth ≤ 64 := Nat.le_trans z2 (by decide)
  simp [z1, this]
theorem shaped_all {ds : List D} {ps : List PyData} (e : pdAll (pd deep h) ds = some ps) : SeqAt.shaped (.list ps) = true := by
  obtain ⟨z1, z2⟩ := lay_all (lay_of (h := h) deep) _ _ e
  unfold SeqAt.shaped
  have : (PyData.list ps).depth ≤ 64 := by
    simp only [PyData.depth]
    have : deep + 1 ≤ 64 := by decide
    omega
  simp [PyData.canLay0, z1, this]
end
theorem so_eq (hu : X.A.units + 64 < cLine) : SOp X cl (compareOp .Eq) opEq := by
  refine op_mono (op_eqD hu) ?_
  rintro x y H Q ⟨r, h, d1, d2, hr, q1, q2, w⟩
  unfold opEq at w
  split at w
  · rename_i a b e1 e2
    exact ⟨a, b, dp_of hr _ _ _ _ q1 e1, dp_of hr _ _ _ _ q2 e2, shaped_of e1, shaped_of e2, fin hr Rep.bl w⟩
  · exact w.elim
theorem so_ne (hu : X.A.units + 64 < cLine) : SOp X cl (compareOp .NotEq) opNe := by
  refine op_mono (op_neD hu) ?_
  rintro x y H Q ⟨r, h, d1, d2, hr, q1, q2, w⟩
  unfold opNe at w
  split at w
  · rename_i a b e1 e2
    exact ⟨a, b, dp_of hr _ _ _ _ q1 e1, dp_of hr _ _ _ _ q2 e2, shaped_of e1, shaped_of e2, fin hr Rep.bl w⟩
  · exact w.elim
/-! ### dicts -/
section
variable {K : Kp} {r : List Addr} {H : Hp}
theorem keyOf_V {x : D} {y : V} {k : Key} (e : keyOf x = some k) (q : Rep K r H x y) : y = kV k := by
  unfold keyOf at e
  split at e
  · cases e; rw [q.int_]; rfl
  · cases e; rw [q.str_]; rfl
  · cases e
theorem keysL_V : ∀ {xs : List D} {ys : List V} {k : List Key}, keysL xs = some k → Reps K r H xs ys → ys = k.map kV
  | [], ys, k, e, q => by cases e; rw [q.of_nil]; rfl
  | x :: xs, ys, k, e, q => by
    obtain ⟨v, ws, rfl, q1, q2⟩ := q.of_cons
    unfold keysL at e
    split at e
    · rename_i a as e1 e2
      cases e
      rw [keyOf_V e1 q1, keysL_V e2 q2]
      rfl
    · cases e
theorem keyOf_inj {x y : D} {k : Key} (e : keyOf x = some k) (e' : keyOf y = some k) : x = y := by
  cases x <;> cases y <;> simp_all [keyOf] <;> (subst_vars; simp_all)
theorem keysL_inj : ∀ {x y : List D} {k : List Key}, keysL x = some k → keysL y = some k → x = y
  | [], y, k, e, e' => by
    cases e
    cases y with
    | nil => rfl
    | cons b y =>
      unfold keysL at e'
      split at e' <;> cases e'
  | a :: x, y, k, e, e' => by
    unfold keysL at e
    split at e
    · rename_i a1 as e1 e2
      cases e
      cases y with
      | nil => cases e'
      | cons b y =>
        unfold keysL at e'
        split at e'
        · rename_i b1 bs e3 e4
          cases e'
          rw [keyOf_inj e1 e3, keysL_inj e2 e4]
        · cases e'
    · cases e
theorem keysOf_inj {x y : D} {k : List Key} (e : keysOf x = some k) (e' : keysOf y = some k) : x = y := by
  unfold keysOf at e e'
  split at e
  · split at e'
    · rw [keysL_inj e e']
    · cases e'
  · cases e
theorem KRep.look {κ : Type} [DecidableEq κ] {f : D → Option κ} (inj : ∀ x y k, f x = some k → f y = some k → x = y) {x : D} {k : κ} (ex : f x = some k) : ∀ {l : List (D × D)} {ks : List (κ × V)}, KRep K r H f l ks →
    match TM.look l x with
    | some d => ∃ v, valV ks k = some v ∧ Rep K r H d v
    | none => valV ks k = none
  | [], ks, q => by
    have : ks = [] := q
    subst this
    rfl
  | p :: l, ks, q => by
    obtain ⟨k', v, ws, rfl, e1, q1, q2⟩ := q
    have ih := KRep.look inj ex q2
    by_cases hp : p.1 = x
    · have hk : k' = k := by rw [hp, ex] at e1; exact (Option.some.inj e1).symm
      have : TM.look (p :: l) x = some p.2 := by simp [TM.look, List.find?_cons, hp]
      rw [this]
      exact ⟨v, valV_pos hk, q1⟩
    · have hk : ¬ k' = k := fun e => hp (inj _ _ _ (e ▸ e1) ex)
      have : TM.look (p :: l) x = TM.look l x := by simp [TM.look, List.find?_cons, hp]
      rw [this, show valV ((k', v) :: ws) k = valV ws k from valV_neg hk]
      exact ih
theorem KRep.any {κ : Type} [DecidableEq κ] {f : D → Option κ} (inj : ∀ x y k, f x = some k → f y = some k → x = y) {x : D} {k : κ} (ex : f x = some k) : ∀ {l : List (D × D)} {ks : List (κ × V)}, KRep K r H f l ks → (l.any fun p => decide (p.1 = x)) = ks.any fun p => decide (p.1 = k)
  | [], ks, q => by
    have : ks = [] := q
    subst this
    rfl
  | p :: l, ks, q => by
    obtain ⟨k', v, ws, rfl, e1, q1, q2⟩ := q
    rw [List.any_cons, List.any_cons, KRep.any inj ex q2]
    congr 1
    by_cases hp : p.1 = x
    · have hk : k' = k := by rw [hp, ex] at e1; exact (Option.some.inj e1).symm
      simp [hp, hk]
    · have hk : ¬ k' = k := fun e => hp (inj _ _ _ (e ▸ e1) ex)
      simp [hp, hk]
theorem KRep.repl {κ : Type} [DecidableEq κ] {f : D → Option κ} (inj : ∀ x y k, f x = some k → f y = some k → x = y) {x d : D} {k : κ} {w : V} (ex : f x = some k) (qd : Rep K r H d w) : ∀ {l : List (D × D)} {ks : List (κ × V)}, KRep K r H f l ks →
    KRep K r H f (l.map fun p => if p.1 = x then (p.1, d) else p) (ks.map fun p => if p.1 = k then (p.1, w) else p)
  | [], ks, q => by
    have : ks = [] := q
    subst this
    rfl
  | p :: l, ks, q => by
    obtain ⟨k', v, ws, rfl, e1, q1, q2⟩ := q
    have ih := KRep.repl inj ex qd q2
    rw [List.map_cons, List.map_cons]
    by_cases hp : p.1 = x
    · have hk : k' = k := by rw [hp, ex] at e1; exact (Option.some.inj e1).symm
      rw [if_pos hp, if_pos hk]
      exact ⟨k', w, _, rfl, e1, qd, ih⟩
    · have hk : ¬ k' = k := fun e => hp (inj _ _ _ (e ▸ e1) ex)
      rw [if_neg hp, if_neg hk]
      exact ⟨k', v, _, rfl, e1, q1, ih⟩
theorem KRep.snoc {κ : Type} {f : D → Option κ} {x d : D} {k : κ} {w : V} (ex : f x = some k) (qd : Rep K r H d w) : ∀ {l : List (D × D)} {ks : List (κ × V)}, KRep K r H f l ks → KRep K r H f (l ++ [(x, d)]) (ks ++ [(k, w)])
  | [], ks, q => by
    have : ks = [] := q
    subst this
    exact ⟨k, w, [], rfl, ex, qd, rfl⟩
  | p :: l, ks, q => by
    obtain ⟨k', v, ws, rfl, e1, q1, q2⟩ := q
    exact ⟨k', v, _, rfl, e1, q1, KRep.snoc ex qd q2⟩
theorem KRep.put {κ : Type} [DecidableEq κ] {f : D → Option κ} (inj : ∀ x y k, f x = some k → f y = some k → x = y) {x d : D} {k : κ} {w : V} (ex : f x = some k) (qd : Rep K r H d w) {l : List (D × D)} {ks : List (κ × V)} (q : KRep K r H f l ks) : KRep K r H f (dput l x d) (putK ks k w) := by
  unfold dput putK
  rw [KRep.any inj ex q]
  by_cases h : (ks.any fun p => decide (p.1 = k)) = true
  · rw [if_pos h, if_pos h]
    exact KRep.repl inj ex qd q
  · rw [if_neg h, if_neg h]
    exact KRep.snoc ex qd q
theorem KRep.length {κ : Type} {f : D → Option κ} : ∀ {l : List (D × D)} {ks : List (κ × V)}, KRep K r H f l ks → ks.length = l.length
  | [], ks, q => by
    have : ks = [] := q
    subst this
    rfl
  | p :: l, ks, q => by
    obtain ⟨k', v, ws, rfl, e1, q1, q2⟩ := q
    simp [KRep.length q2]
theorem dget_of {a : Addr} {t : Nat} {kvs : List (D × D)} {x : D} {y : V} (q : ORep K r H a (.dct t kvs)) (ky : Rep K r H x y) (fit : keyFit t x = true) : ∃ o, DGet H a y o ∧ match TM.look kvs x with
    | some d => ∃ v, o = some v ∧ Rep K r H d v
    | none => o = none := by
  rcases q with ⟨rfl, ks, q1, q2⟩ | ⟨rfl, ks, q1, q2⟩
  · obtain ⟨k, e⟩ := Option.isSome_iff_exists.mp (show (keyOf x).isSome = true from fit)
    have hl := q2.look (fun _ _ _ => keyOf_inj) e
    rw [keyOf_V e ky]
    exact ⟨_, DGet.k q1, hl⟩
  · obtain ⟨k, e⟩ := Option.isSome_iff_exists.mp (show (keysOf x).isSome = true from fit)
    have hl := q2.look (fun _ _ _ => keysOf_inj) e
    unfold keysOf at e
    split at e
    · obtain ⟨b, vs, rfl, s1, t1⟩ := ky.tup_
      rw [keysL_V e t1] at s1
      exact ⟨_, DGet.t q1 s1, hl⟩
    · cases e
/-- a dict is written -/
theorem dput_of {a : Addr} {n t : Nat} {kvs : List (D × D)} {x d : D} {y v : V} {h : Hh} (hr : HRep K r h H) (e0 : h[n]? = some (.dct t kvs)) (ea : r[n]? = some a) (ky : Rep K r H x y) (kd : Rep K r H d v) (fit : keyFit t x = true) (hz : kvs.length < sizeMax) :
    ∃ H', DPut H a y v H' ∧ Ext K r H r H' ∧ HRep K r (h.set n (.dct t (dput kvs x d))) H' := by
  have q := hr.at_ n _ a e0 ea
  rcases q with ⟨rfl, ks, q1, q2⟩ | ⟨rfl, ks, q1, q2⟩
  · obtain ⟨k, e⟩ := Option.isSome_iff_exists.mp (show (keyOf x).isSome = true from fit)
    have x1 : Ext K r H r (upd H a (.dK (putK ks k v))) := Ext.put ea q1 (fun _ z => nomatch z) (fun _ _ z => nomatch z)
    rw [keyOf_V e ky]
    exact ⟨_, DPut.k q1 (by rw [q2.length, sizeLine_eq]; exact hz), x1, hr.put ea q1 (fun _ z => nomatch z) (fun _ _ z => nomatch z) (.inl ⟨rfl, _, upd_same, (q2.put (fun _ _ _ => keyOf_inj) e kd).grow x1.grow⟩)⟩
  · obtain ⟨k, e⟩ := Option.isSome_iff_exists.mp (show (keysOf x).isSome = true from fit)
    have x1 : Ext K r H r (upd H a (.dT (putK ks k v))) := Ext.put ea q1 (fun _ z => nomatch z) (fun _ _ z => nomatch z)
    have e' := e
    unfold keysOf at e'
    split at e'
    · obtain ⟨b, vs, rfl, s1, t1⟩ := ky.tup_
      rw [keysL_V e' t1] at s1
      exact ⟨_, DPut.t q1 s1 (by rw [q2.length, sizeLine_eq]; exact hz), x1, hr.put ea q1 (fun _ z => nomatch z) (fun _ _ z => nomatch z) (.inr ⟨rfl, _, upd_same, (q2.put (fun _ _ _ => keysOf_inj) e kd).grow x1.grow⟩)⟩
    · cases e'
end
theorem ix_dct (hu : X.A.units + 1 < cLine) : IxR X (fun x y H Q => ∃ a v, x = .ref a ∧ DGet H a y (some v) ∧ Q v H) := by
  intro va sl pins s σ H x y v u Q I rx ry h hs
  obtain ⟨a, z, rfl, g, q⟩ := h
  cases rx
  exact PyProof.Rows.tail_any (dict_typeIs I g) PySem.F.slot_dict_getitem.lookup (d_getItem hu I g ry fun w' s' I' rw' => ⟨z, H, I', rw', q⟩) hs
/-! ### subscripts, slices -/
theorem at_eq {xs : List D} {vs : List V} {K : Kp} {r : List Addr} {H : Hp} {i : Int} {d : D} (q : Reps K r H xs vs) (e : ((ixAt xs.length i).bind fun j => xs[j]?) = some d) : ∃ v, atI vs i = some v ∧ Rep K r H d v := by
  unfold atI
  have hl : ixN vs.length i = ixAt xs.length i := by rw [q.length]; rfl
  rw [hl]
  cases hj : ixAt xs.length i with
  | none => rw [hj] at e; cases e
  | some j =>
    rw [hj] at e
    obtain ⟨v, e1, e2⟩ := q.get (i := j) e
    exact ⟨v, e1, e2⟩
theorem six (hu : X.A.units + 1 < cLine) : IxR X (rD (kp X cl) opIx) := by
  refine ix_mono ((ix_dct hu).or ix_seq) ?_
  rintro x y H Q ⟨r, h, d1, d2, hr, q1, q2, w⟩
  unfold opIx at w
  split at w
  · obtain ⟨a, vs, rfl, s1, t1⟩ := q1.tup_
    split at w
    · rw [q2.int_]
      split at w
      · rename_i d e
        obtain ⟨v, e1, e2⟩ := at_eq t1 e
        exact .inr (.inr (.inl ⟨a, vs, _, v, rfl, rfl, SqT.of s1, e1, fin hr e2 w⟩))
      · exact w.elim
    · exact w.elim
  · rw [q1.str_]
    split at w
    · rw [q2.int_]
      split at w
      · rename_i hz
        split at w
        · rename_i c e
          exact .inr (.inr (.inr ⟨_, _, c, rfl, rfl, by rw [sizeLine_eq]; exact hz, e, fin hr Rep.str w⟩))
        · exact w.elim
      · exact w.elim
    · exact w.elim
  · obtain ⟨a, ea, rfl⟩ := q1.ref_
    split at w
    · rename_i t kvs e
      split at w
      · rename_i hf
        obtain ⟨o, g, z⟩ := dget_of (hr.at_ _ _ _ e ea) q2 hf
        split at w
        · rename_i d el
          rw [el] at z
          obtain ⟨v, rfl, qd⟩ := z
          exact .inl ⟨a, v, rfl, g, fin hr qd w⟩
        · exact w.elim
      · exact w.elim
    · split at w
      · rename_i xs i e1
        rw [q2.int_]
        split at w
        · rename_i d e
          obtain ⟨vs, s1, t1⟩ := hr.seq e1 ea
          obtain ⟨v, e1, e2⟩ := at_eq t1 e
          exact .inr (.inl ⟨a, vs, _, v, rfl, rfl, s1, e1, fin hr e2 w⟩)
        · exact w.elim
      · exact w.elim
  · exact w.elim
theorem re_ix {a b : Expr} {ma mb : E} {pos : Pos} (hu : X.A.units + 1 < cLine) (ha : RE X cl W a ma) (hb : RE X cl W b mb) (hs : PlainIx b := by exact fun _ _ => rfl) : RE X cl W (.Subscript a b pos) (eBin opIx ma mb) :=
  ⟨pe_mono (pe_ix (six hu) ha.pe hb.pe hs) fun _ _ _ w => op_core w⟩
/-- a slice's part -/
structure RP (X : Cx) (cl : Nat → Addr) (W : WX) (e : Option Expr) (m : Env → Hh → R (Option Int)) : Prop where
  po : PO X e fun σ H Q => ∃ r e h, HRep (kp X cl) r h H ∧ ERep (kp X cl) r H e σ ∧ (m e h).wp (Pst (kp X cl) r H fun o _ _ H' => Q o H') (XPst (kp X cl) W σ r H)
theorem po_mono {e : Option Expr} {t t' : TO} (h : PO X e t) (f : ∀ σ H Q, t' σ H Q → t σ H Q) : PO X e t' := ⟨fun pins s σ H Q I w => h.run pins s σ H Q I (f σ H Q w)⟩
theorem rp_none : RP X cl W none pNone := ⟨po_mono po_none fun σ H Q ⟨r, e, h, hr, er, w⟩ => w r H Ext.refl hr⟩
theorem rp_some {e : Expr} {m : E} (h : RE X cl W e m) : RP X cl W (some e) (pSome m) := by
  refine ⟨po_mono (po_some h.pe) ?_⟩
  rintro σ H Q ⟨r, e, h, hr, er, w⟩
  refine ⟨r, e, h, hr, er, wp_imp (wp_bind2 w) fun d h1 r1 H1 x1 hr1 w1 v q => ?_⟩
  split at w1
  · exact ⟨_, q.int_, w1 r1 H1 Ext.refl hr1⟩
  · exact w1.elim
def rCut (K : Kp) : V → Option Int → Option Int → Hp → VK → Prop := fun x lo hi H Q => ∃ r h d, HRep K r h H ∧ Rep K r H d x ∧ (opCut d lo hi h).wp (Pst K r H fun d _ r' H' => ∀ v, Rep K r' H' d v → Q v H') fun _ _ => False
theorem cutIx_eq (n d : Nat) (o : Option Int) : HT.sIx n d o = cutIx n d o := by cases o <;> rfl
theorem Reps.cut {K : Kp} {r : List Addr} {H : Hp} {xs : List D} {vs : List V} (q : Reps K r H xs vs) (lo hi : Option Int) : Reps K r H (TM.cut xs lo hi) (cutV vs lo hi) := by
  unfold TM.cut cutV
  rw [cutIx_eq, cutIx_eq, q.length]
  exact (q.drop _).take _
theorem sl_mono {t t' : V → Option Int → Option Int → Hp → VK → Prop} (h : SlR X t) (g : ∀ x lo hi H Q, t' x lo hi H Q → t x lo hi H Q) : SlR X t' := fun pins s σ H x v vl vu lo hi sl Q I rx hs pl pu w => h pins s σ H x v vl vu lo hi sl Q I rx hs pl pu (g x lo hi H Q w)
theorem ssl : SlR X (rCut (kp X cl)) := by
  refine sl_mono (sl_list.or (sl_tup.or sl_str)) ?_
  rintro x lo hi H Q ⟨r, h, d, hr, q, w⟩
  unfold opCut at w
  split at w
  · obtain ⟨a, vs, rfl, s1, t1⟩ := q.tup_
    split at w
    · exact w.elim
    · rename_i hz
      refine .inr (.inl ⟨a, vs, rfl, SqT.of s1, ?_, fun p hp => tup_new hr hp (t1.cut lo hi) w⟩)
      rw [cutIx_eq, cutIx_eq, t1.length]
      exact hz
  · rw [q.str_]
    split at w
    · rename_i z hz
      refine .inr (.inr ⟨z, rfl, by rw [sizeLine_eq]; exact hz, fin hr ?_ w⟩)
      have e : cutS z lo hi = (⟨(TM.cut z.cps.toList lo hi).toArray⟩ : Str) := by
        unfold cutS TM.cut
        rw [cutIx_eq, cutIx_eq]
        rfl
      rw [e]
      exact Rep.str
    · exact w.elim
  · obtain ⟨a, ea, rfl⟩ := q.ref_
    split at w
    · rename_i xs e1
      obtain ⟨vs, s1, t1⟩ := hr.seq e1 ea
      exact .inl ⟨a, vs, rfl, s1, fun p hp => lst_new hr hp (t1.cut lo hi) w⟩
    · exact w.elim
  · exact w.elim
theorem re_cut {a : Expr} {lo hi : Option Expr} {ma : E} {ml mh : Env → Hh → R (Option Int)} {pos p2 : Pos} (ha : RE X cl W a ma) (hl : RP X cl W lo ml) (hh : RP X cl W hi mh) : RE X cl W (.Subscript a (.Slice lo hi none p2) pos) (eCut ma ml mh) := by
  refine ⟨pe_mono (pe_slice (ssl (cl := cl)) ha.pe hl.po hh.po) ?_⟩
  rintro σ H Q ⟨r, e, h, hr, er, w⟩
  refine ⟨r, e, h, hr, er, wp_imp (wp_bind2 w) fun d1 h1 r1 H1 x1 hr1 w1 v1 q1 => ?_⟩
  refine ⟨r1, e, h1, hr1, er.ext x1, wp_imp (wp_bind2 w1) fun l h2 r2 H2 x2 hr2 w2 => ?_⟩
  refine ⟨r2, e, h2, hr2, (er.ext x1).ext x2, wp_imp (wp_bind2 w2) fun u h3 r3 H3 x3 hr3 w3 => ?_⟩
  exact ⟨r3, h3, d1, hr3, (q1.ext x2).ext x3, noX_wp w3⟩

/-- an object that is not told so far is written -/
theorem Ext.own {K : Kp} {r1 r : List Addr} {H1 H : Hp} {p : Addr} {u o : HO} (x : Ext K r1 H1 r H) (h1 : H1 p = none) (np : p ∉ r) (hp : H p = some u) (nt : ∀ xs, u ≠ .tup xs) : Ext K r1 H1 r (upd H p o) ∧ Grow K r H r (upd H p o) := by
  have g : ∀ a xs, H a = some (.tup xs) → upd H p o a = some (.tup xs) := fun a xs z => by
    rw [upd_ne]
    · exact z
    · rintro rfl
      rw [hp] at z; cases z
      exact nt _ rfl
  refine ⟨⟨x.pre, fun a xs z => g a xs (x.tups a xs z), fun b o e n => ?_⟩, ⟨⟨[], by simp⟩, g⟩⟩
  obtain ⟨z1, z2⟩ := x.rest b o e n
  refine ⟨?_, z2⟩
  rw [upd_ne]
  · exact z1
  · rintro rfl
    rw [h1] at e; cases e
theorem HRep.own {K : Kp} {r : List Addr} {h : Hh} {H : Hp} {p : Addr} {o : HO} (q : HRep K r h H) (np : p ∉ r) (g : Grow K r H r (upd H p o)) : HRep K r h (upd H p o) :=
  ⟨q.len, q.nd, fun i o a e1 e2 => (q.at_ i o a e1 e2).grow g (upd_ne fun z => np (by rw [← z]; exact List.mem_of_getElem? e2))⟩
theorem HRep.adopt {K : Kp} {r : List Addr} {h : Hh} {H : Hp} {p : Addr} {o : O} (q : HRep K r h H) (np : p ∉ r) (t : ORep K r H p o) : HRep K (r ++ [p]) (h ++ [o]) H := by
  have g : Grow K r H (r ++ [p]) H := ⟨⟨[p], rfl⟩, fun _ _ z => z⟩
  refine ⟨by simp [q.len], ?_, fun i o' a e1 e2 => ?_⟩
  · rw [List.nodup_append]
    exact ⟨q.nd, by simp, fun a ha b hb e => by simp at hb; subst hb; exact np (e ▸ ha)⟩
  · by_cases hi : i < r.length
    · rw [List.getElem?_append_left hi] at e2
      rw [List.getElem?_append_left (by rw [← q.len]; exact hi)] at e1
      exact (q.at_ i o' a e1 e2).grow g rfl
    · have hi' : i = r.length := by
        have := (List.getElem?_eq_some_iff.mp e2).1
        simp at this
        omega
      subst hi'
      rw [List.getElem?_append_right (Nat.le_refl _)] at e2
      rw [List.getElem?_append_right (by rw [q.len]; exact Nat.le_refl _)] at e1
      simp at e2
      rw [q.len] at e1
      simp at e1
      subst e1 e2
      exact t.grow g rfl
/-- what is adopted stays reached -/
theorem Ext.adopt {K : Kp} {r1 r : List Addr} {H1 H : Hp} {p : Addr} (x : Ext K r1 H1 r H) (h1 : H1 p = none) : Ext K r1 H1 (r ++ [p]) H := by
  obtain ⟨u, hu⟩ := x.pre
  refine ⟨⟨u ++ [p], by rw [hu]; simp⟩, x.tups, fun b o z n => ?_⟩
  obtain ⟨z1, z2⟩ := x.rest b o z n
  exact ⟨z1, by simp [z2, ne_of_none z h1]⟩
theorem HRep.last_ {K : Kp} {r : List Addr} {h : Hh} {H : Hp} {p : Addr} (q : HRep K r h H) : (r ++ [p])[h.length]? = some p := by
  rw [← q.len, List.getElem?_append_right (Nat.le_refl _)]
  simp
theorem KRep.nil {κ : Type} {K : Kp} {r : List Addr} {H : Hp} {f : D → Option κ} : KRep K r H f [] [] := rfl
/-! ### new dicts -/
theorem dct_new {K : Kp} {r : List Addr} {h : Hh} {H : Hp} {p : Addr} {u : HO} {t : Nat} {kvs : List (D × D)} {Q : VK} (hr : HRep K r h H) (hp : H p = none) (z : ORep K (r ++ [p]) (upd H p u) p (.dct t kvs))
    (w : Pst K r H (fun d _ r' H' => ∀ v, Rep K r' H' d v → Q v H') (.ref h.length) (h ++ [.dct t kvs])) : Q (.ref p) (upd H p u) := by
  refine w _ _ (Ext.new hp) (hr.new hp z) _ (Rep.ref ?_)
  rw [← hr.len, List.getElem?_append_right (Nat.le_refl _)]
  simp
theorem re_dct0_0 {pos : Pos} : RE X cl W (.Dict [] [] pos) (eDct0 0) := by
  refine ⟨pe_mono pe_dnewK ?_⟩
  rintro σ H Q ⟨r, e, h, hr, er, w⟩
  exact fun p hp => dct_new hr hp (.inl ⟨rfl, [], upd_same, KRep.nil⟩) w
theorem re_dct0_1 {pos : Pos} : RE X cl W (.Dict [] [] pos) (eDct0 1) := by
  refine ⟨pe_mono pe_dnewT ?_⟩
  rintro σ H Q ⟨r, e, h, hr, er, w⟩
  exact fun p hp => dct_new hr hp (.inr ⟨rfl, [], upd_same, KRep.nil⟩) w
theorem re_dct1 {k v : Expr} {mk mv : E} {pos : Pos} (hk : RE X cl W k mk) (hv : RE X cl W v mv) : RE X cl W (.Dict [some k] [v] pos) (eDct1 mk mv) := by
  refine ⟨pe_mono (pe_disp (pps_cons hk.pe hv.pe pps_nil) rfl rfl (fun z => by cases z) (by simp)) ?_⟩
  rintro σ H Q ⟨r, e, h, hr, er, w⟩
  intro p hp
  have np := hr.free hp
  have x0 : Ext (kp X cl) r H (r ++ [p]) (upd H p (.dK [])) := Ext.new hp
  have y0 : Ext (kp X cl) r H r (upd H p (.dK [])) := ⟨⟨[], by simp⟩, x0.tups, fun b o e n => ⟨by rw [upd_ne (ne_of_none e hp)]; exact e, n⟩⟩
  have hr0 : HRep (kp X cl) r h (upd H p (.dK [])) := ⟨hr.len, hr.nd, fun i o a e1 e2 => (hr.at_ i o a e1 e2).ext y0 (upd_ne fun z => np (by rw [← z]; exact List.mem_of_getElem? e2))⟩
  refine ⟨r, e, h, hr0, er.ext y0, R.wp_mono (R.wp_bind w) (fun d1 h1 w1 r1 H1 x1 hr1 v1 q1 => ?_) fun c h1 w1 => XPst.ext y0 w1⟩
  obtain ⟨e1, np1⟩ := x1.rest p _ upd_same np
  refine ⟨r1, e, h1, hr1, (er.ext y0).ext x1, R.wp_mono (R.wp_bind w1) (fun d2 h2 w2 r2 H2 x2 hr2 v2 q2 => ?_) fun c h2 w2 => XPst.ext (y0.trans x1) w2⟩
  obtain ⟨e2, np2⟩ := x2.rest p _ e1 np1
  refine ⟨e2, ?_⟩
  split at w2
  · rename_i hf
    obtain ⟨k', ek⟩ := Option.isSome_iff_exists.mp (show (keyOf d1).isSome = true from hf)
    refine ⟨[(k', v2)], by rw [keyOf_V ek (q1.ext x2)]; rfl, by simp, ?_⟩
    obtain ⟨x6, g6⟩ := ((y0.trans x1).trans x2).own (o := .dK (mergeK [] [(k', v2)])) hp np2 e2 (fun _ z => nomatch z)
    have hr6 := (hr2.own np2 g6).adopt (p := p) (o := .dct 0 [(d1, d2)]) np2 (.inl ⟨rfl, _, upd_same, ⟨k', v2, [], rfl, ek, q2.grow g6, rfl⟩⟩)
    exact w2 _ _ (x6.adopt hp) hr6 _ (Rep.ref hr2.last_)
  · exact w2.elim
/-! ### built-in functions -/
def rF (K : Kp) (f : F) : List V → Hp → VK → Prop := fun xs H Q => ∃ r h ds, HRep K r h H ∧ Reps K r H ds xs ∧ (f ds h).wp (Pst K r H fun d _ r' H' => ∀ v, Rep K r' H' d v → Q v H') fun _ _ => False
def SF (X : Cx) (cl : Nat → Addr) (g : Value) (f : F) : Prop := CallR X g (rF (kp X cl) f)
theorem blt_core {K : Kp} {f : F} {m : As} {σ : L2.St} {H : Hp} {Q : VK} (w : tmE K W (eBlt f m) σ H Q) : tCB (rF K f) (tmA K W m) σ H Q := by
  obtain ⟨r, e, h, hr, er, w⟩ := w
  exact ⟨r, e, h, hr, er, wp_imp (wp_bind2 w) fun ds h1 r1 H1 x1 hr1 w1 vs qs => ⟨r1, h1, ds, hr1, qs, noX_wp w1⟩⟩
theorem re_blt {x : Str} {id : String} {f : F} {a : Expr} {es : List Expr} {m : As} {p pos : Pos} (hf : SF X cl (.builtin id) f) (hg : Gl X x) (hm : X.mg x = none) (hv : bootBuiltins x = some (.builtin id)) (ha : RA X cl W (a :: es) m) (hn : x ≠ "__name__" := by decide) (hdb : (x == ("__debug__" : Str)) = false := by decide)
    (he : starEach (a :: es) X.env = (false, eval a X.env) :: starEach es X.env := by rfl) (hpl : (backTo pos (starEach es X.env)).any (·.1) = false := by rfl) : RE X cl W (.Call (.Name x p) (a :: es) [] pos) (eBlt f m) :=
  ⟨pe_mono (pe_callB hf hg hm hv ha.pa hn hdb he hpl) fun _ _ _ w => blt_core w⟩
theorem re_blty {x : Str} {T : String} {f : F} {a : Expr} {es : List Expr} {m : As} {p pos : Pos} (hf : SF X cl (.type T) f) (hg : Gl X x) (hm : X.mg x = none) (hv : bootBuiltins x = some (.type T)) (ha : RA X cl W (a :: es) m) (hn : x ≠ "__name__" := by decide) (hdb : (x == ("__debug__" : Str)) = false := by decide)
    (he : starEach (a :: es) X.env = (false, eval a X.env) :: starEach es X.env := by rfl) (hpl : (backTo pos (starEach es X.env)).any (·.1) = false := by rfl) : RE X cl W (.Call (.Name x p) (a :: es) [] pos) (eBlt f m) :=
  ⟨pe_mono (pe_callTy hf hg hm hv ha.pa hn hdb he hpl) fun _ _ _ w => blt_core w⟩
theorem Reps.one_ {K : Kp} {r : List Addr} {H : Hp} {d : D} {vs : List V} (q : Reps K r H [d] vs) : ∃ v, vs = [v] ∧ Rep K r H d v := by
  obtain ⟨v, ws, rfl, q1, q2⟩ := q.of_cons
  rw [q2.of_nil]
  exact ⟨v, rfl, q1⟩
theorem Reps.two_ {K : Kp} {r : List Addr} {H : Hp} {d e : D} {vs : List V} (q : Reps K r H [d, e] vs) : ∃ v w, vs = [v, w] ∧ Rep K r H d v ∧ Rep K r H e w := by
  obtain ⟨v, ws, rfl, q1, q2⟩ := q.of_cons
  obtain ⟨w, rfl, q3⟩ := q2.one_
  exact ⟨v, w, rfl, q1, q3⟩
theorem call_len_dct : CallR X (.builtin "len") (fun xs H Q => ∃ a n, xs = [.ref a] ∧ ((∃ ks, H a = some (.dK ks) ∧ n = ks.length) ∨ ∃ ks, H a = some (.dT ks) ∧ n = ks.length) ∧ Q (.int ((n : Nat) : Int)) H) := by
  intro pins s σ H xs us Q I rs h
  obtain ⟨a, n, rfl, g, q⟩ := h
  rcases g with ⟨ks, g, rfl⟩ | ⟨ks, g, rfl⟩
  · obtain ⟨u, rfl, ru⟩ := vals1 rs
    cases ru
    exact d_len I (.inl g) fun t s' I' => ⟨.int ((ks.length : Nat) : Int), H, I', ⟨t, rfl⟩, q⟩
  · exact call_len_dT pins s σ H _ us Q I rs ⟨a, ks, rfl, g, q⟩
theorem sf_len : SF X cl (.builtin "len") fLen := by
  refine call_mono (call_len_dct.or (call_len_seq.or call_len_str)) ?_
  rintro xs H Q ⟨r, h, ds, hr, qs, w⟩
  unfold fLen at w
  split at w
  · obtain ⟨v, rfl, q⟩ := qs.one_
    obtain ⟨a, vs, rfl, s1, t1⟩ := q.tup_
    refine .inr (.inl ⟨a, vs, rfl, .inr (SqT.of s1), fin hr ?_ w⟩)
    rw [t1.length]
    exact Rep.int
  · obtain ⟨v, rfl, q⟩ := qs.one_
    rw [q.str_]
    split at w
    · rename_i hz
      exact .inr (.inr ⟨_, rfl, by rw [sizeLine_eq]; exact hz, fin hr Rep.int w⟩)
    · exact w.elim
  · obtain ⟨v, rfl, q⟩ := qs.one_
    obtain ⟨a, ea, rfl⟩ := q.ref_
    split at w
    · rename_i t kvs e
      refine .inl ⟨a, kvs.length, rfl, ?_, fin hr Rep.int w⟩
      rcases hr.at_ _ _ _ e ea with ⟨_, ks, g1, g2⟩ | ⟨_, ks, g1, g2⟩
      · exact .inl ⟨ks, g1, g2.length.symm⟩
      · exact .inr ⟨ks, g1, g2.length.symm⟩
    · rename_i ys e
      exact (hr.at_ _ _ _ e ea).elim
    · split at w
      · rename_i ys e
        obtain ⟨vs, s1, t1⟩ := hr.seq e ea
        refine .inr (.inl ⟨a, vs, rfl, .inl s1, fin hr ?_ w⟩)
        rw [t1.length]
        exact Rep.int
      · exact w.elim
  · exact w.elim
theorem sf_min2 (hc : X.calm = true) : SF X cl (.builtin "min") fMin2 := by
  refine call_mono (call_min2 hc) ?_
  rintro xs H Q ⟨r, h, ds, hr, qs, w⟩
  unfold fMin2 at w
  split at w
  · obtain ⟨u, v, rfl, q1, q2⟩ := qs.two_
    rw [q1.int_, q2.int_]
    exact ⟨_, _, rfl, fin hr Rep.int w⟩
  · exact w.elim
theorem sf_max2 (hc : X.calm = true) : SF X cl (.builtin "max") fMax2 := by
  refine call_mono (call_max2 hc) ?_
  rintro xs H Q ⟨r, h, ds, hr, qs, w⟩
  unfold fMax2 at w
  split at w
  · obtain ⟨u, v, rfl, q1, q2⟩ := qs.two_
    rw [q1.int_, q2.int_]
    exact ⟨_, _, rfl, fin hr Rep.int w⟩
  · exact w.elim
theorem intsOf_eq : ∀ {ds : List D} {is : List Int}, intsOf ds = some is → ds = is.map D.int
  | [], is, e => by cases e; rfl
  | d :: ds, is, e => by
    unfold intsOf at e
    split at e
    · rename_i heq; cases heq
    · rename_i i r heq
      cases heq
      obtain ⟨js, e1, rfl⟩ := Option.map_eq_some_iff.mp e
      rw [intsOf_eq e1]
      rfl
    · cases e
theorem maxOf_mem : ∀ (l : List Int) (a : Int), maxOf a l ∈ a :: l ∧ ∀ y ∈ a :: l, y ≤ maxOf a l
  | [], a => by simp [maxOf]
  | b :: l, a => by
    obtain ⟨h1, h2⟩ := maxOf_mem l (if a < b then b else a)
    unfold maxOf
    generalize maxOf (if a < b then b else a) l = m at h1 h2 ⊢
    have h3 := h2 _ List.mem_cons_self
    refine ⟨?_, fun y hy => ?_⟩
    · rcases List.mem_cons.mp h1 with e | e
      · rw [e]
        split <;> simp
      · simp [e]
    · rcases List.mem_cons.mp hy with rfl | hy
      · split at h3 <;> omega
      · rcases List.mem_cons.mp hy with rfl | hy
        · split at h3 <;> omega
        · exact h2 y (List.mem_cons_of_mem _ hy)
theorem minOf_mem : ∀ (l : List Int) (a : Int), minOf a l ∈ a :: l ∧ ∀ y ∈ a :: l, minOf a l ≤ y
  | [], a => by simp [minOf]
  | b :: l, a => by
    obtain ⟨h1, h2⟩ := minOf_mem l (if b < a then b else a)
    unfold minOf
    generalize minOf (if b < a then b else a) l = m at h1 h2 ⊢
    have h3 := h2 _ List.mem_cons_self
    refine ⟨?_, fun y hy => ?_⟩
    · rcases List.mem_cons.mp h1 with e | e
      · rw [e]
        split <;> simp
      · simp [e]
    · rcases List.mem_cons.mp hy with rfl | hy
      · split at h3 <;> omega
      · rcases List.mem_cons.mp hy with rfl | hy
        · split at h3 <;> omega
        · exact h2 y (List.mem_cons_of_mem _ hy)
theorem sf_max (hc : X.calm = true) : SF X cl (.builtin "max") fMax := by
  refine call_mono (cr_max hc) ?_
  rintro xs H Q ⟨r, h, ds, hr, qs, w⟩
  unfold fMax at w
  split at w
  · obtain ⟨v, rfl, q⟩ := qs.one_
    obtain ⟨a, ea, rfl⟩ := q.ref_
    split at w
    · rename_i i is e
      obtain ⟨ys, e1, e2⟩ := Option.bind_eq_some_iff.mp e
      obtain ⟨vs, s1, t1⟩ := hr.seq e1 ea
      rw [intsOf_eq e2] at t1
      rw [t1.ints] at s1
      refine ⟨a, i :: is, rfl, s1, by simp, fun m hm hle => ?_⟩
      obtain ⟨g1, g2⟩ := maxOf_mem is i
      have em : m = maxOf i is := Int.le_antisymm (g2 m hm) (hle _ g1)
      rw [em]
      exact fin hr Rep.int w
    · exact w.elim
  · exact w.elim
theorem sf_min (hc : X.calm = true) : SF X cl (.builtin "min") fMin := by
  refine call_mono (cr_min hc) ?_
  rintro xs H Q ⟨r, h, ds, hr, qs, w⟩
  unfold fMin at w
  split at w
  · obtain ⟨v, rfl, q⟩ := qs.one_
    obtain ⟨a, ea, rfl⟩ := q.ref_
    split at w
    · rename_i i is e
      obtain ⟨ys, e1, e2⟩ := Option.bind_eq_some_iff.mp e
      obtain ⟨vs, s1, t1⟩ := hr.seq e1 ea
      rw [intsOf_eq e2] at t1
      rw [t1.ints] at s1
      refine ⟨a, i :: is, rfl, s1, by simp, fun m hm hle => ?_⟩
      obtain ⟨g1, g2⟩ := minOf_mem is i
      have em : m = minOf i is := Int.le_antisymm (hle _ g1) (g2 m hm)
      rw [em]
      exact fin hr Rep.int w
    · exact w.elim
  · exact w.elim
theorem keyOf_Rep {K : Kp} {r : List Addr} {H : Hp} {x : D} {k : Key} (e : keyOf x = some k) : Rep K r H x (kV k) := by
  unfold keyOf at e
  split at e
  · cases e; exact Rep.int
  · cases e; exact Rep.str
  · cases e
theorem keysL_Rep {K : Kp} {r : List Addr} {H : Hp} : ∀ {xs : List D} {k : List Key}, keysL xs = some k → Reps K r H xs (k.map kV)
  | [], k, e => by cases e; exact Reps.nil
  | x :: xs, k, e => by
    unfold keysL at e
    split at e
    · rename_i a as e1 e2
      cases e
      exact Reps.cons (keyOf_Rep e1) (keysL_Rep e2)
    · cases e
theorem KRep.keys0 {K : Kp} {r : List Addr} {H : Hp} : ∀ {l : List (D × D)} {ks : List (Key × V)}, KRep K r H keyOf l ks → Reps K r H (l.map (·.1)) (ks.map fun kv => kV kv.1)
  | [], ks, q => by
    have : ks = [] := q
    subst this
    exact Reps.nil
  | p :: l, ks, q => by
    obtain ⟨k', v, ws, rfl, e1, q1, q2⟩ := q
    exact Reps.cons (keyOf_Rep e1) (KRep.keys0 q2)
theorem KRep.keys1 {K : Kp} {r : List Addr} {H : Hp} : ∀ {l : List (D × D)} {ks : List (List Key × V)} {bs : List Addr}, KRep K r H keysOf l ks → IsKeys H ks bs → Reps K r H (l.map (·.1)) (bs.map V.ref)
  | [], ks, bs, q, z => by
    have : ks = [] := q
    subst this
    cases z
    exact Reps.nil
  | p :: l, ks, bs, q, z => by
    obtain ⟨k', v, ws, rfl, e1, q1, q2⟩ := q
    cases z with
    | cons h1 h2 =>
      refine Reps.cons ?_ (KRep.keys1 q2 h2)
      unfold keysOf at e1
      split at e1
      · rename_i xs heq
        show Rep K r H p.1 _
        rw [heq]
        exact Rep.tup h1 (keysL_Rep e1)
      · cases e1
theorem sf_list (hc : X.calm = true) : SF X cl (.type "list") fList := by
  refine call_mono (call_list_of.or ((call_list_dK hc).or (call_list_dT hc))) ?_
  rintro xs H Q ⟨r, h, ds, hr, qs, w⟩
  unfold fList at w
  split at w
  · obtain ⟨v, rfl, q⟩ := qs.one_
    obtain ⟨a, vs, rfl, s1, t1⟩ := q.tup_
    exact .inl ⟨a, vs, rfl, .inr (SqT.of s1), fun p hp => lst_new hr hp t1 w⟩
  · obtain ⟨v, rfl, q⟩ := qs.one_
    obtain ⟨a, ea, rfl⟩ := q.ref_
    split at w
    · rename_i t kvs e0
      rcases hr.at_ _ _ _ e0 ea with ⟨_, ks, g1, g2⟩ | ⟨_, ks, g1, g2⟩
      · exact .inr (.inl ⟨a, ks, rfl, g1, fun p hp => lst_new hr hp g2.keys0 w⟩)
      · exact .inr (.inr ⟨a, ks, rfl, .inl g1, fun p bs hp hb => lst_new hr hp (g2.keys1 hb) w⟩)
    · split at w
      · rename_i ys e
        obtain ⟨vs, s1, t1⟩ := hr.seq e ea
        exact .inl ⟨a, vs, rfl, .inl s1, fun p hp => lst_new hr hp t1 w⟩
      · exact w.elim
  · exact w.elim
theorem sf_int : SF X cl (.type "int") fInt := by
  refine call_mono call_int1 ?_
  rintro xs H Q ⟨r, h, ds, hr, qs, w⟩
  unfold fInt at w
  split at w
  · obtain ⟨v, rfl, q⟩ := qs.one_
    rw [q.int_]
    exact .inl ⟨_, rfl, fin hr Rep.int w⟩
  · obtain ⟨v, rfl, q⟩ := qs.one_
    rw [q.bl_]
    exact .inr ⟨_, rfl, fin hr Rep.int w⟩
  · exact w.elim
theorem re_len {a : Expr} {m : As} {p pos : Pos} (hm : X.mg "len" = none) (ha : RA X cl W [a] m) (hg : Gl X "len" := by rfl) (he : starEach [a] X.env = (false, eval a X.env) :: starEach [] X.env := by rfl) : RE X cl W (.Call (.Name "len" p) [a] [] pos) (eBlt fLen m) :=
  re_blt sf_len hg hm PySem.boot_len ha (by decide) (by decide) he rfl
theorem re_min2 {a b : Expr} {m : As} {p pos : Pos} (hc : X.calm = true) (hm : X.mg "min" = none) (ha : RA X cl W [a, b] m) (hg : Gl X "min" := by rfl) (he : starEach [a, b] X.env = (false, eval a X.env) :: starEach [b] X.env := by rfl) (hpl : (backTo pos (starEach [b] X.env)).any (·.1) = false := by rfl) : RE X cl W (.Call (.Name "min" p) [a, b] [] pos) (eBlt fMin2 m) :=
  re_blt (sf_min2 hc) hg hm (by decide +kernel) ha (by decide) (by decide) he hpl
theorem re_max2 {a b : Expr} {m : As} {p pos : Pos} (hc : X.calm = true) (hm : X.mg "max" = none) (ha : RA X cl W [a, b] m) (hg : Gl X "max" := by rfl) (he : starEach [a, b] X.env = (false, eval a X.env) :: starEach [b] X.env := by rfl) (hpl : (backTo pos (starEach [b] X.env)).any (·.1) = false := by rfl) : RE X cl W (.Call (.Name "max" p) [a, b] [] pos) (eBlt fMax2 m) :=
  re_blt (sf_max2 hc) hg hm (by decide +kernel) ha (by decide) (by decide) he hpl
theorem re_max {a : Expr} {m : As} {p pos : Pos} (hc : X.calm = true) (hm : X.mg "max" = none) (ha : RA X cl W [a] m) (hg : Gl X "max" := by rfl) (he : starEach [a] X.env = (false, eval a X.env) :: starEach [] X.env := by rfl) : RE X cl W (.Call (.Name "max" p) [a] [] pos) (eBlt fMax m) :=
  re_blt (sf_max hc) hg hm (by decide +kernel) ha (by decide) (by decide) he rfl
theorem re_min {a : Expr} {m : As} {p pos : Pos} (hc : X.calm = true) (hm : X.mg "min" = none) (ha : RA X cl W [a] m) (hg : Gl X "min" := by rfl) (he : starEach [a] X.env = (false, eval a X.env) :: starEach [] X.env := by rfl) : RE X cl W (.Call (.Name "min" p) [a] [] pos) (eBlt fMin m) :=
  re_blt (sf_min hc) hg hm (by decide +kernel) ha (by decide) (by decide) he rfl
theorem re_list {a : Expr} {m : As} {p pos : Pos} (hc : X.calm = true) (hm : X.mg "list" = none) (ha : RA X cl W [a] m) (hg : Gl X "list" := by rfl) (he : starEach [a] X.env = (false, eval a X.env) :: starEach [] X.env := by rfl) : RE X cl W (.Call (.Name "list" p) [a] [] pos) (eBlt fList m) :=
  re_blty (sf_list hc) hg hm (by decide +kernel) ha (by decide) (by decide) he rfl
theorem re_intf {a : Expr} {m : As} {p pos : Pos} (hm : X.mg "int" = none) (ha : RA X cl W [a] m) (hg : Gl X "int" := by rfl) (he : starEach [a] X.env = (false, eval a X.env) :: starEach [] X.env := by rfl) : RE X cl W (.Call (.Name "int" p) [a] [] pos) (eBlt fInt m) :=
  re_blty sf_int hg hm (by decide +kernel) ha (by decide) (by decide) he rfl

/-! ### isinstance of a value and a built-in class -/
def tyName : Ty → String
  | .int => "int"
  | .bool => "bool"
  | .str => "str"
  | .tuple => "tuple"
  | .list => "list"
  | .dict => "dict"
theorem tyX_of {K : Kp} {r : List Addr} {h : Hh} {H : Hp} {d : D} {v : V} {t : Ty} (hr : HRep K r h H) (q : Rep K r H d v) (e : tyOf d h = some t) : TyX K.K H v (.type (tyName t)) := by
  unfold tyOf at e
  split at e
  · cases e; rw [q.bl_]; exact .base (.bl _)
  · cases e; rw [q.int_]; exact .base (.int _)
  · cases e; rw [q.str_]; exact .base (.str _)
  · cases e
    obtain ⟨a, vs, rfl, s1, t1⟩ := q.tup_
    exact .base (.tup s1)
  · obtain ⟨a, ea, rfl⟩ := q.ref_
    split at e
    · rename_i e0
      cases e
      obtain ⟨vs, s1, _⟩ := hr.lst e0 ea
      exact .base (.lst s1)
    · rename_i e0
      cases e
      obtain ⟨vs, o, s1, _⟩ := hr.at_ _ _ _ e0 ea
      exact .base (.frz s1)
    · rename_i e0
      cases e
      rcases hr.at_ _ _ _ e0 ea with ⟨_, ks, g1, g2⟩ | ⟨_, ks, g1, g2⟩
      · exact .base (.dK g1)
      · exact .base (.dT g1)
    · cases e
  · cases e
theorem kit_of_ty (t k : Ty) : kitB (tyName t) (tyName k) = some (isTy t k) := by cases t <;> cases k <;> decide +kernel
theorem re_isTy (k : Ty) {x : Str} {a : Expr} {ma : E} {p p2 pos : Pos} (ha : RE X cl W a ma) (hm : X.mg "isinstance" = none) (hx : X.mg x = none) (hv : bootBuiltins x = some (.type (tyName k))) (hg : Gl X "isinstance" := by rfl) (hgx : Gl X x := by rfl) (hnx : x ≠ "__name__" := by decide)
    (hdx : (x == ("__debug__" : Str)) = false := by decide) (he : starEach [a, .Name x p2] X.env = (false, eval a X.env) :: starEach [.Name x p2] X.env := by rfl) (he2 : starEach [.Name x p2] X.env = (false, eval (.Name x p2) X.env) :: starEach [] X.env := by rfl) (hpl : (backTo pos (starEach [.Name x p2] X.env)).any (·.1) = false := by rfl) :
    RE X cl W (.Call (.Name "isinstance" p) [a, .Name x p2] [] pos) (eUn (opIsTy k) ma) := by
  refine ⟨pe_mono (pe_callB call_isi hg hm (by decide +kernel) (pa_cons ha.pe (pa_cons (pe_bltn (v := .ty (tyName k)) hgx hx hv rfl hnx hdx) pa_nil he2) he) (by decide) (by decide) he hpl) fun σ H Q w => ?_⟩
  obtain ⟨r, e, h, hr, er, w⟩ := w
  refine ⟨r, e, h, hr, er, wp_imp (wp_bind2 w) fun d h1 r1 H1 x1 hr1 w1 v q => ?_⟩
  have w1 := noX_wp w1
  unfold opIsTy at w1
  split at w1
  · rename_i t e0
    exact ⟨v, .ty (tyName k), _, _, _, rfl, .ty _, tyX_of hr1 q e0, kit_ty (kit_of_ty t k), fin hr1 Rep.bl w1⟩
  · exact w1.elim

/-! ### methods -/
def rM (K : Kp) (m : D → List D → Hh → R D) : V → List V → Hp → VK → Prop := fun x xs H Q => ∃ r h d ds, HRep K r h H ∧ Rep K r H d x ∧ Reps K r H ds xs ∧ (m d ds h).wp (Pst K r H fun d _ r' H' => ∀ v, Rep K r' H' d v → Q v H') fun _ _ => False
/-- a list is written -/
theorem lst_put {K : Kp} {r : List Addr} {h : Hh} {H : Hp} {a : Addr} {n : Nat} {ds' : List D} {vs vs' : List V} {d : D} {v : V} {Q : VK} (hr : HRep K r h H) (ea : r[n]? = some a) (s1 : H a = some (.lst vs)) (t : Reps K r H ds' vs') (q : Rep K r H d v)
    (w : Pst K r H (fun d _ r' H' => ∀ v, Rep K r' H' d v → Q v H') d (h.set n (.lst ds'))) : Q v (upd H a (.lst vs')) := by
  have x : Ext K r H r (upd H a (.lst vs')) := Ext.put ea s1 (fun _ z => nomatch z) (fun _ _ z => nomatch z)
  exact w r _ x (hr.put ea s1 (fun _ z => nomatch z) (fun _ _ z => nomatch z) ⟨vs', upd_same, t.ext x⟩) v (q.ext x)
theorem sm_append : MtR X "list.append" (rM (kp X cl) mAppend) := by
  refine mt_mono mt_append ?_
  rintro x xs H Q ⟨r, h, d, ds, hr, q, qs, w⟩
  unfold mAppend at w
  split at w
  · obtain ⟨a, ea, rfl⟩ := q.ref_
    obtain ⟨v, rfl, q1⟩ := qs.one_
    split at w
    · rename_i ys e
      obtain ⟨vs, s1, t1⟩ := hr.lst e ea
      split at w
      · rename_i hz
        exact ⟨a, vs, v, rfl, rfl, s1, by rw [t1.length, sizeLine_eq]; exact hz, lst_put hr ea s1 (t1.append (Reps.cons q1 Reps.nil)) Rep.non w⟩
      · exact w.elim
    · exact w.elim
  · exact w.elim
theorem sm_extend : MtR X "list.extend" (rM (kp X cl) mExtend) := by
  refine mt_mono mt_extend ?_
  rintro x xs H Q ⟨r, h, d, ds, hr, q, qs, w⟩
  unfold mExtend at w
  split at w
  · obtain ⟨a, ea, rfl⟩ := q.ref_
    obtain ⟨v, rfl, q1⟩ := qs.one_
    obtain ⟨b, eb, rfl⟩ := q1.ref_
    split at w
    · rename_i ys zs e e2
      obtain ⟨vs, s1, t1⟩ := hr.lst e ea
      obtain ⟨ws, s2, t2⟩ := hr.lst e2 eb
      split at w
      · rename_i hz
        exact ⟨a, b, vs, ws, rfl, rfl, s1, s2, by rw [t1.length, t2.length, sizeLine_eq]; exact hz, lst_put hr ea s1 (t1.append t2) Rep.non w⟩
      · exact w.elim
    · exact w.elim
  · exact w.elim
theorem sm_insert : MtR X "list.insert" (rM (kp X cl) mInsert) := by
  refine mt_mono mt_insert ?_
  rintro x xs H Q ⟨r, h, d, ds, hr, q, qs, w⟩
  unfold mInsert at w
  split at w
  · obtain ⟨a, ea, rfl⟩ := q.ref_
    obtain ⟨u, v, rfl, q1, q2⟩ := qs.two_
    rw [q1.int_]
    split at w
    · rename_i ys e
      obtain ⟨vs, s1, t1⟩ := hr.lst e ea
      split at w
      · rename_i hz
        exact ⟨a, vs, _, v, rfl, rfl, s1, by rw [t1.length, sizeLine_eq]; exact hz.2.2, hz.1, by have := hz.2.1; omega, lst_put hr ea s1 (((t1.take _).append (Reps.cons q2 Reps.nil)).append (t1.drop _)) Rep.non w⟩
      · exact w.elim
    · exact w.elim
  · exact w.elim
theorem sm_pop : MtR X "list.pop" (rM (kp X cl) mPop0) := by
  refine mt_mono mt_pop ?_
  rintro x xs H Q ⟨r, h, d, ds, hr, q, qs, w⟩
  unfold mPop0 at w
  split at w
  · obtain ⟨a, ea, rfl⟩ := q.ref_
    rw [qs.of_nil]
    split at w
    · rename_i ys e
      obtain ⟨vs, s1, t1⟩ := hr.lst e ea
      split at w
      · rename_i y e1
        obtain ⟨v, e2, q2⟩ := t1.get e1
        exact ⟨a, vs, v, rfl, rfl, s1, by rw [t1.length]; exact e2, lst_put hr ea s1 t1.dropLast q2 w⟩
      · exact w.elim
    · exact w.elim
  · exact w.elim
theorem sm_clear : MtR X "list.clear" (rM (kp X cl) mClear) := by
  refine mt_mono mt_clear ?_
  rintro x xs H Q ⟨r, h, d, ds, hr, q, qs, w⟩
  unfold mClear at w
  split at w
  · obtain ⟨a, ea, rfl⟩ := q.ref_
    rw [qs.of_nil]
    split at w
    · rename_i ys e
      obtain ⟨vs, s1, t1⟩ := hr.lst e ea
      exact ⟨a, vs, rfl, rfl, s1, lst_put hr ea s1 Reps.nil Rep.non w⟩
    · exact w.elim
  · exact w.elim
/-- the kind that ck tells is the type T -/
def CkTy (K : Kp) (T : String) (ck : D → Hh → Bool) : Prop := ∀ r h H d v, HRep K r h H → Rep K r H d v → ck d h = true → tyV K.K T v H
theorem ck_list {K : Kp} : CkTy K "list" isL := by
  intro r h H d v hr q e
  unfold isL at e
  split at e
  · obtain ⟨a, ea, rfl⟩ := q.ref_
    split at e
    · rename_i e0
      obtain ⟨vs, s1, _⟩ := hr.lst e0 ea
      exact .inl ⟨rfl, vs, SqL.of s1⟩
    · cases e
  · cases e
theorem ck_str {K : Kp} : CkTy K "str" isS := by
  intro r h H d v hr q e
  unfold isS at e
  split at e
  · rw [q.str_]; rfl
  · cases e
theorem meth_core {K : Kp} {T : String} {ck : D → Hh → Bool} {mm : D → List D → Hh → R D} {mo : E} {ma : As} {σ : L2.St} {H : Hp} {Q : VK} (ht : CkTy K T ck) (w : tmE K W (eMeth ck mm mo ma) σ H Q) : tBM K.K T (rM K mm) (tmE K W mo) (tmA K W ma) σ H Q := by
  obtain ⟨r, e, h, hr, er, w⟩ := w
  refine ⟨r, e, h, hr, er, wp_imp (wp_bind2 w) fun d h1 r1 H1 x1 hr1 w1 v q => ?_⟩
  split at w1
  · rename_i hc
    refine ⟨ht _ _ _ _ _ hr1 q hc, r1, e, h1, hr1, er.ext x1, wp_imp (wp_bind2 w1) fun ds h2 r2 H2 x2 hr2 w2 vs qs => ?_⟩
    exact ⟨r2, h2, d, ds, hr2, q.ext x2, qs, noX_wp w2⟩
  · exact w1.elim
theorem re_meth {T id : String} {ck : D → Hh → Bool} {mm : D → List D → Hh → R D} {o a : Expr} {es : List Expr} {mo : E} {ma : As} {name : Str} {apos cpos : Pos} (pa : PySem.PlainAttrs T) (slot : PySem.Slot T name id) (hty : typeOf (.builtin id) = pure (.type "method_descriptor")) (hm : MtR X id (rM (kp X cl) mm)) (ht : CkTy (kp X cl) T ck)
    (ho : RE X cl W o mo) (ha : RA X cl W (a :: es) ma) (hbase : attributeBase o name X.env (eval o X.env) = eval o X.env := by rfl)
    (hfew : ((backTo cpos (starEach (a :: es) X.env)).all (fun x => !x.1) && (backToKw cpos (keywordEach [] X.env)).all (fun x => x.1.isSome)
      && decide ((a :: es).length + ([] : List Keyword).length + (if ([] : List Keyword).isEmpty then 0 else 1) < 30)) = true := by rfl)
    (hline : (apos.endLine == cpos.line) = true := by rfl) (hs : starEach (a :: es) X.env = (false, eval a X.env) :: starEach es X.env := by rfl) (hpl : (backTo cpos (starEach es X.env)).any (·.1) = false := by rfl) :
    RE X cl W (.Call (.Attribute o name apos) (a :: es) [] cpos) (eMeth ck mm mo ma) :=
  ⟨pe_mono (pe_bm pa slot hty hm ho.pe ha.pa hbase hfew hline hs hpl) fun _ _ _ w => meth_core ht w⟩
theorem re_meth0 {T id : String} {ck : D → Hh → Bool} {mm : D → List D → Hh → R D} {o : Expr} {mo : E} {name : Str} {apos cpos : Pos} (pa : PySem.PlainAttrs T) (slot : PySem.Slot T name id) (hty : typeOf (.builtin id) = pure (.type "method_descriptor")) (hm : MtR X id (rM (kp X cl) mm)) (ht : CkTy (kp X cl) T ck)
    (ho : RE X cl W o mo) (hbase : attributeBase o name X.env (eval o X.env) = eval o X.env := by rfl) (hline : (apos.endLine == cpos.line) = true := by rfl) : RE X cl W (.Call (.Attribute o name apos) [] [] cpos) (eMeth ck mm mo aNil) := by
  refine ⟨pe_mono (pe_bm0 pa slot hty hm ho.pe hbase hline) fun σ H Q w => ?_⟩
  obtain ⟨r, e, h, hr, er, w⟩ := w
  refine ⟨r, e, h, hr, er, wp_imp (wp_bind2 w) fun d h1 r1 H1 x1 hr1 w1 v q => ?_⟩
  split at w1
  · rename_i hc
    exact ⟨ht _ _ _ _ _ hr1 q hc, r1, h1, d, [], hr1, q, Reps.nil, noX_wp w1⟩
  · exact w1.elim

/-! ### targets -/
def Tg.slots : Tg → List Nat
  | .one i => [i]
  | .many is => is
/-- what is wanted behind a target -/
def tmG (K : Kp) (t : Tg) : TG := fun v σ H Q => ∃ r e d e1, ERep K r H e σ ∧ Rep K r H d v ∧ t.put d e = some e1 ∧ ∀ σ', ERep K r H e1 σ' → σ'.length = σ.length → (∀ j, j ∉ t.slots → σ'[j]? = σ[j]?) → Q σ' H
structure RG (X : Cx) (cl : Nat → Addr) (target : Expr) (t : Tg) : Prop where
  pg : PG X target (tmG (kp X cl) t)
theorem pg_mono {tg : Expr} {t t' : TG} (h : PG X tg t) (f : ∀ v σ H Q, t' v σ H Q → t v σ H Q) : PG X tg t' := ⟨fun pins s σ H v u Q I rv w => h.run pins s σ H v u Q I rv (f v σ H Q w)⟩
theorem rg_one (i : Nat) {x : Str} {pos : Pos} (hN : X.N.Nodup) (hi : X.N[i]? = some x := by rfl) (hx : Loc X.env.scope x := by first | exact .inl rfl | exact .inr rfl) (hf : X.fn x = true ∨ X.env.scope.names.lookup x = some .local := by first | exact .inl rfl | exact .inr rfl) : RG X cl (.Name x pos) (.one i) := by
  refine ⟨pg_mono (pg_name (i := i) hN hi hx hf) ?_⟩
  rintro v σ H Q ⟨r, e, d, e1, er, q, ep, k⟩
  cases ep
  refine k _ (er.set q) (by simp) fun j hj => ?_
  have : j ≠ i := by simpa [Tg.slots] using hj
  exact List.getElem?_set_ne (Ne.symm this)
def tmGs (K : Kp) (is : List Nat) : TGs := fun vs σ H Q => ∃ r e ds e1, ERep K r H e σ ∧ Reps K r H ds vs ∧ setMany is ds e = some e1 ∧ ∀ σ', ERep K r H e1 σ' → σ'.length = σ.length → (∀ j, j ∉ is → σ'[j]? = σ[j]?) → Q σ' H
structure RGs (X : Cx) (cl : Nat → Addr) (ts : List Expr) (is : List Nat) : Prop where
  pgs : PGs X ts (tmGs (kp X cl) is)
  len : ts.length = is.length
theorem pgs_mono {tg : List Expr} {t t' : TGs} (h : PGs X tg t) (f : ∀ v σ H Q, t' v σ H Q → t v σ H Q) : PGs X tg t' := ⟨fun pins s σ H v u Q I rv w => h.run pins s σ H v u Q I rv (f v σ H Q w)⟩
theorem rgs_nil : RGs X cl [] [] := by
  refine ⟨pgs_mono pgs_nil ?_, rfl⟩
  rintro vs σ H Q ⟨r, e, ds, e1, er, q, ep, k⟩
  cases ds with
  | nil =>
    cases ep
    exact ⟨q.of_nil, k σ er rfl fun _ _ => rfl⟩
  | cons => cases ep
theorem rgs_cons {a : Expr} {es : List Expr} {i : Nat} {is : List Nat} (h1 : RG X cl a (.one i)) (h2 : RGs X cl es is) (hs : (assignEach (a :: es) X.env).map (·.2) = assign a X.env :: (assignEach es X.env).map (·.2) := by rfl) : RGs X cl (a :: es) (i :: is) := by
  refine ⟨pgs_mono (pgs_cons h1.pg h2.pgs hs) ?_, by simp [h2.len]⟩
  rintro vs σ H Q ⟨r, e, ds, e1, er, q, ep, k⟩
  cases ds with
  | nil => cases ep
  | cons d ds =>
    obtain ⟨v, ws, rfl, q1, q2⟩ := q.of_cons
    refine ⟨v, ws, rfl, r, e, d, _, er, q1, rfl, fun σ' er' hl hj => ?_⟩
    refine ⟨r, _, ds, e1, er', q2, ep, fun σ2 er2 hl2 hj2 => k σ2 er2 (hl2.trans hl) fun j hn => ?_⟩
    simp only [List.mem_cons, not_or] at hn
    rw [hj2 j hn.2, hj j (by simp [Tg.slots, hn.1])]
theorem setMany_len : ∀ {is : List Nat} {ds : List D} {e e1 : Env}, setMany is ds e = some e1 → ds.length = is.length
  | [], [], _, _, _ => rfl
  | [], _ :: _, _, _, h => by cases h
  | _ :: _, [], _, _, h => by cases h
  | i :: is, d :: ds, _, _, h => by simp [setMany_len (is := is) (ds := ds) h]
theorem rg_many {es : List Expr} {is : List Nat} {k : Nat} {pos : Pos} (hc : X.calm = true) (h : RGs X cl es is) (hn : (assignEach es X.env).length = is.length := by rfl) (hst : (assignEach es X.env).findIdx? (·.1) = none := by rfl) : RG X cl (.Tuple es k pos) (.many is) := by
  refine ⟨pg_mono (pg_tup hc h.pgs hn hst) ?_⟩
  rintro v σ H Q ⟨r, e, d, e1, er, q, ep, k⟩
  unfold Tg.put at ep
  split at ep
  · rename_i heq
    cases heq
  · rename_i is' heq
    cases heq
    split at ep
    · obtain ⟨a, vs, rfl, s1, t1⟩ := q.tup_
      exact ⟨a, vs, rfl, SqT.of s1, by rw [t1.length, setMany_len ep], r, e, _, e1, er, t1, ep, k⟩
    · cases ep

/-! ### what is walked -/
structure ItOk (K : Kp) (r : List Addr) (J : L2.It) (it : It) : Prop where
  stop : ∀ i r' h H, (∃ t, r' = r ++ t) → HRep K r' h H → it.get i h = some none → J.stop i H
  go : ∀ i r' h H d, (∃ t, r' = r ++ t) → HRep K r' h H → it.get i h = some (some d) → J.go i H ∧ ∀ x H', J.yld i H x H' → Ext K r' H r' H' ∧ HRep K r' h H' ∧ Rep K r' H' d x
theorem pi_mono {tg iter : Expr} {wi wi' : TI} (h : PI X tg iter wi) (f : ∀ σ H R, wi' σ H R → wi σ H R) : PI X tg iter wi' := ⟨fun pins s σ H R I w => h.run pins s σ H R I (f σ H R w)⟩
def tmI (K : Kp) (W : WX) (m : IE) : TI := fun σ H R => ∃ r e h, HRep K r h H ∧ ERep K r H e σ ∧ (m e h).wp (Pst K r H fun it h' r' H' => ∀ J, ItOk K r' J it → R J H') (XPst K W σ r H)
structure RI (X : Cx) (cl : Nat → Addr) (W : WX) (tg iter : Expr) (m : IE) : Prop where
  pi : PI X tg iter (tmI (kp X cl) W m)
theorem it_ext {r r' : List Addr} {n : Nat} {a : Addr} (x : ∃ t, r' = r ++ t) (e : r[n]? = some a) : r'[n]? = some a := by
  obtain ⟨t, rfl⟩ := x
  rw [List.getElem?_append_left (List.getElem?_eq_some_iff.mp e).1]
  exact e
theorem ok_lst {K : Kp} {r : List Addr} {n : Nat} {a : Addr} (ea : r[n]? = some a) : ItOk K r (Itl K.K a) (.lst n) where
  stop := fun i r' h H x hr e => by
    obtain ⟨ds, e1, e2⟩ := Option.map_eq_some_iff.mp (show (seqAt h n).map (fun xs => xs[i]?) = some none from e)
    obtain ⟨vs, s1, t1⟩ := hr.seq e1 (it_ext x ea)
    exact ⟨vs, s1, by rw [t1.length]; exact List.getElem?_eq_none_iff.mp e2⟩
  go := fun i r' h H d x hr e => by
    obtain ⟨ds, e1, e2⟩ := Option.map_eq_some_iff.mp (show (seqAt h n).map (fun xs => xs[i]?) = some (some d) from e)
    obtain ⟨vs, s1, t1⟩ := hr.seq e1 (it_ext x ea)
    obtain ⟨v, e3, q⟩ := t1.get e2
    refine ⟨⟨vs, v, s1, e3⟩, fun y H' hy => ?_⟩
    obtain ⟨rfl, hy⟩ := hy
    have := hy vs s1
    rw [e3] at this
    cases this
    exact ⟨Ext.refl, hr, q⟩
theorem ri_lst {tg iter : Expr} {ma : E} (ha : RE X cl W iter ma) : RI X cl W tg iter (iLst ma) := by
  refine ⟨pi_mono (pi_list ha.pe) ?_⟩
  rintro σ H R ⟨r, e, h, hr, er, w⟩
  refine ⟨r, e, h, hr, er, wp_imp (wp_bind2 w) fun d h1 r1 H1 x1 hr1 w1 v q => ?_⟩
  split at w1
  · obtain ⟨a, ea, rfl⟩ := q.ref_
    split at w1
    · rename_i e0
      obtain ⟨xs, e0⟩ := Option.isSome_iff_exists.mp e0
      obtain ⟨vs, s1, t1⟩ := hr1.seq e0 ea
      exact ⟨a, rfl, ⟨vs, s1⟩, w1 r1 H1 Ext.refl hr1 _ (ok_lst ea)⟩
    · exact w1.elim
  · exact w1.elim
theorem ok_rng {K : Kp} {r : List Addr} {lo : Int} {n : Nat} : ItOk K r (Itr lo n) (.rng lo 1 n) where
  stop := fun i r' h H x hr e => by
    have e := Option.some.inj (show some (if i < n then some (D.int _) else none) = some none from e)
    by_cases hi : i < n
    · rw [if_pos hi] at e; cases e
    · exact Nat.le_of_not_lt hi
  go := fun i r' h H d x hr e => by
    have e := Option.some.inj (show some (if i < n then some (D.int _) else none) = some (some d) from e)
    by_cases hi : i < n
    · rw [if_pos hi] at e
      cases e
      refine ⟨hi, fun y H' hy => ?_⟩
      obtain ⟨rfl, rfl⟩ := hy
      refine ⟨Ext.refl, hr, ?_⟩
      rw [Int.mul_one]
      exact Rep.int
    · rw [if_neg hi] at e; cases e
theorem ok_rngC {K : Kp} {r : List Addr} {lo c : Int} {n : Nat} : ItOk K r (Itc lo c n) (.rng lo c n) where
  stop := fun i r' h H x hr e => by
    have e := Option.some.inj (show some (if i < n then some (D.int _) else none) = some none from e)
    by_cases hi : i < n
    · rw [if_pos hi] at e; cases e
    · exact Nat.le_of_not_lt hi
  go := fun i r' h H d x hr e => by
    have e := Option.some.inj (show some (if i < n then some (D.int _) else none) = some (some d) from e)
    by_cases hi : i < n
    · rw [if_pos hi] at e
      cases e
      refine ⟨hi, fun y H' hy => ?_⟩
      obtain ⟨rfl, rfl⟩ := hy
      exact ⟨Ext.refl, hr, Rep.int⟩
    · rw [if_neg hi] at e; cases e
theorem small_of {i : Int} (h : small i = true) : -(2 ^ 62) ≤ i ∧ i < 2 ^ 62 := by
  simp only [small, decide_eq_true_eq] at h
  omega
theorem Reps.three_ {K : Kp} {r : List Addr} {H : Hp} {d e f : D} {vs : List V} (q : Reps K r H [d, e, f] vs) : ∃ u v w, vs = [u, v, w] ∧ Rep K r H d u ∧ Rep K r H e v ∧ Rep K r H f w := by
  obtain ⟨v, ws, rfl, q1, q2⟩ := q.of_cons
  obtain ⟨u, w, rfl, q3, q4⟩ := q2.two_
  exact ⟨v, u, w, rfl, q1, q3, q4⟩
theorem ri_rng1 {tg a : Expr} {ma : As} {p pos : Pos} (hm : X.mg "range" = none) (ha : RA X cl W [a] ma) (hg : Gl X "range" := by rfl) (hs : starEach [a] X.env = [(false, eval a X.env)] := by rfl) : RI X cl W tg (.Call (.Name "range" p) [a] [] pos) (iRng ma) := by
  refine ⟨pi_mono (pi_range1 hg hm ha.pa hs) ?_⟩
  rintro σ H R ⟨r, e, h, hr, er, w⟩
  refine ⟨r, e, h, hr, er, wp_impE (wp_bind2 w) fun ds h1 r1 H1 eq x1 hr1 w1 vs qs => ?_⟩
  have hl := ha.ln _ _ _ _ eq
  unfold rngOf at w1
  split at w1
  · obtain ⟨v, rfl, q⟩ := qs.one_
    rw [q.int_]
    split at w1
    · rename_i hz
      exact ⟨_, rfl, (small_of hz).1, (small_of hz).2, w1 r1 H1 Ext.refl hr1 _ ok_rng⟩
    · exact w1.elim
  · simp at hl
  · simp at hl
  · exact w1.elim
theorem ri_rng2 {tg a b : Expr} {ma : As} {p pos : Pos} (hm : X.mg "range" = none) (ha : RA X cl W [a, b] ma) (hg : Gl X "range" := by rfl) (hs : starEach [a, b] X.env = [(false, eval a X.env), (false, eval b X.env)] := by rfl) (hs2 : starEach [b] X.env = [(false, eval b X.env)] := by rfl) : RI X cl W tg (.Call (.Name "range" p) [a, b] [] pos) (iRng ma) := by
  refine ⟨pi_mono (pi_range2 hg hm ha.pa hs hs2) ?_⟩
  rintro σ H R ⟨r, e, h, hr, er, w⟩
  refine ⟨r, e, h, hr, er, wp_impE (wp_bind2 w) fun ds h1 r1 H1 eq x1 hr1 w1 vs qs => ?_⟩
  have hl := ha.ln _ _ _ _ eq
  unfold rngOf at w1
  split at w1
  · simp at hl
  · obtain ⟨u, v, rfl, q, q'⟩ := qs.two_
    rw [q.int_, q'.int_]
    split at w1
    · rename_i hz
      exact ⟨_, _, rfl, ⟨(small_of hz.1).1, (small_of hz.1).2, (small_of hz.2).1, (small_of hz.2).2⟩, w1 r1 H1 Ext.refl hr1 _ ok_rng⟩
    · exact w1.elim
  · simp at hl
  · exact w1.elim
theorem ri_rng3 {tg a b c : Expr} {ma : As} {p pos : Pos} (hm : X.mg "range" = none) (ha : RA X cl W [a, b, c] ma) (hg : Gl X "range" := by rfl) (hs : starEach [a, b, c] X.env = (false, eval a X.env) :: starEach [b, c] X.env := by rfl) (hpl : (backTo pos (starEach [b, c] X.env)).any (·.1) = false := by rfl) :
    RI X cl W tg (.Call (.Name "range" p) [a, b, c] [] pos) (iRng ma) := by
  refine ⟨pi_mono (pi_range3 hg hm ha.pa hs hpl) ?_⟩
  rintro σ H R ⟨r, e, h, hr, er, w⟩
  refine ⟨r, e, h, hr, er, wp_impE (wp_bind2 w) fun ds h1 r1 H1 eq x1 hr1 w1 vs qs => ?_⟩
  have hl := ha.ln _ _ _ _ eq
  unfold rngOf at w1
  split at w1
  · simp at hl
  · simp at hl
  · obtain ⟨u, v, w', rfl, q, q', q''⟩ := qs.three_
    rw [q.int_, q'.int_, q''.int_]
    split at w1
    · rename_i hz
      obtain ⟨z1, z2, rfl⟩ := hz
      exact ⟨_, _, _, _, rfl, RgC.neg (small_of z1).1 (small_of z1).2 (small_of z2).1 (small_of z2).2, w1 r1 H1 Ext.refl hr1 _ ok_rngC⟩
    · exact w1.elim
  · exact w1.elim
theorem ok_rev {K : Kp} {r : List Addr} {n k : Nat} {a : Addr} (ea : r[n]? = some a) : ItOk K r (Itv K.K a k) (.rev n k) where
  stop := fun i r' h H x hr e => by
    have e : (match seqAt h n with | some xs => if xs.length = k then some (if i < k then xs[k - 1 - i]? else none) else none | none => none) = some none := e
    split at e
    · split at e
      · rename_i xs e1 hk
        have e := Option.some.inj e
        split at e
        · rename_i hi
          have := List.getElem?_eq_none_iff.mp e
          omega
        · rename_i hi
          exact Nat.le_of_not_lt hi
      · cases e
    · cases e
  go := fun i r' h H d x hr e => by
    have e : (match seqAt h n with | some xs => if xs.length = k then some (if i < k then xs[k - 1 - i]? else none) else none | none => none) = some (some d) := e
    split at e
    · split at e
      · rename_i xs e1 hk
        have e := Option.some.inj e
        split at e
        · rename_i hi
          obtain ⟨vs, s1, t1⟩ := hr.seq e1 (it_ext x ea)
          obtain ⟨v, e3, q⟩ := t1.get e
          refine ⟨⟨hi, vs, v, s1, e3⟩, fun y H' hy => ?_⟩
          obtain ⟨rfl, hy⟩ := hy
          have := hy vs s1
          rw [e3] at this
          cases this
          exact ⟨Ext.refl, hr, q⟩
        · cases e
      · cases e
    · cases e
theorem ri_rev {tg a : Expr} {ma : E} {p pos : Pos} (hm : X.mg "reversed" = none) (ha : RE X cl W a ma) (hg : Gl X "reversed" := by rfl) (hs : starEach [a] X.env = [(false, eval a X.env)] := by rfl) (hs' : starEach [a] X.env = (false, eval a X.env) :: starEach [] X.env := by rfl) : RI X cl W tg (.Call (.Name "reversed" p) [a] [] pos) (iRev ma) := by
  refine ⟨pi_mono (pi_reversed hg hm (pa_cons ha.pe pa_nil hs') hs) ?_⟩
  rintro σ H R ⟨r, e, h, hr, er, w⟩
  refine ⟨r, e, h, hr, er, wp_imp (wp_bind2 w) fun d h1 r1 H1 x1 hr1 w1 v q => ?_⟩
  split at w1
  · obtain ⟨a, ea, rfl⟩ := q.ref_
    split at w1
    · rename_i xs e0
      obtain ⟨vs, s1, t1⟩ := hr1.seq e0 ea
      refine ⟨a, vs, rfl, s1, ?_⟩
      rw [t1.length]
      exact w1 r1 H1 Ext.refl hr1 _ (ok_rev ea)
    · exact w1.elim
  · exact w1.elim

/-! ### statements -/
section
variable (K : Kp) (W : WX)
def RS.wp (r : List Addr) (H : Hp) (Dd : Ends) : RS → Prop
  | .nx e h => ∀ r' H', Ext K r H r' H' → HRep K r' h H' → ∀ σ', ERep K r' H' e σ' → Dd.nx σ' H'
  | .rt d h => ∀ r' H', Ext K r H r' H' → HRep K r' h H' → ∀ v, Rep K r' H' d v → Dd.rt v H'
  | .bk e h => ∀ r' H', Ext K r H r' H' → HRep K r' h H' → ∀ σ', ERep K r' H' e σ' → Dd.bk σ' H'
  | .ct e h => ∀ r' H', Ext K r H r' H' → HRep K r' h H' → ∀ σ', ERep K r' H' e σ' → Dd.ct σ' H'
  | .exc c e h => ∀ r' H' od, Ext K r H r' H' → HRep K r' h H' → XRep H' c od → ∀ σ', ERep K r' H' e σ' → W (.ref (K.cl c.cls)) od σ' H'
  | .bad => False
def tmS (m : S) : TS := fun Dd σ H => ∃ r e h, HRep K r h H ∧ ERep K r H e σ ∧ RS.wp K W r H Dd (m e h)
end
structure RS1 (X : Cx) (cl : Nat → Addr) (W : WX) (st : Stmt) (m : S) : Prop where
  ps : PS X st (tmS (kp X cl) W m)
structure RSs (X : Cx) (cl : Nat → Addr) (W : WX) (st : List Stmt) (m : S) : Prop where
  pss : PSs X st (tmS (kp X cl) W m)
theorem ps_mono {st : Stmt} {t t' : TS} (h : PS X st t) (f : ∀ Dd σ H, t' Dd σ H → t Dd σ H) : PS X st t' := ⟨fun pins s σ H Dd I w => h.run pins s σ H Dd I (f Dd σ H w)⟩
theorem pss_mono {st : List Stmt} {t t' : TS} (h : PSs X st t) (f : ∀ Dd σ H, t' Dd σ H → t Dd σ H) : PSs X st t' := ⟨fun pins s σ H Dd I w => h.run pins s σ H Dd I (f Dd σ H w)⟩
section
variable {K : Kp} {r r1 : List Addr} {H H1 : Hp} {Dd : Ends}
theorem RS.wp_ext {m : RS} (x : Ext K r H r1 H1) (w : RS.wp K W r H Dd m) : RS.wp K W r1 H1 Dd m := by
  cases m with
  | nx e h => exact fun r' H' x' => w r' H' (x.trans x')
  | rt d h => exact fun r' H' x' => w r' H' (x.trans x')
  | bk e h => exact fun r' H' x' => w r' H' (x.trans x')
  | ct e h => exact fun r' H' x' => w r' H' (x.trans x')
  | exc c e h => exact fun r' H' od x' => w r' H' od (x.trans x')
  | bad => exact w
/-- an expression within a statement -/
theorem go_wp {α : Type} {t : R α} {e : Env} {k : α → Hh → RS} {σ : L2.St} (er : ERep K r H e σ) (w : RS.wp K W r H Dd (t.go e k)) : t.wp (Pst K r H fun a h1 r1 H1 => RS.wp K W r1 H1 Dd (k a h1)) (XPst K W σ r H) := by
  cases t with
  | ok a h => exact fun r' H' x q => RS.wp_ext x w
  | exc c h => exact fun r' H' od x q z => w r' H' od x q z σ (er.ext x)
  | bad => exact w
end
theorem rss_nil : RSs X cl W [] sNil := ⟨pss_mono pss_nil fun Dd σ H ⟨r, e, h, hr, er, w⟩ => w r H Ext.refl hr σ er⟩
theorem rs_pass {pos : Pos} : RS1 X cl W (.Pass pos) sNil := ⟨ps_mono ps_pass fun Dd σ H ⟨r, e, h, hr, er, w⟩ => w r H Ext.refl hr σ er⟩
theorem rs_cont {pos : Pos} : RS1 X cl W (.Continue pos) sCont := ⟨ps_mono ps_continue fun Dd σ H ⟨r, e, h, hr, er, w⟩ => w r H Ext.refl hr σ er⟩
theorem rss_one {st : Stmt} {m : S} (h : RS1 X cl W st m) : RSs X cl W [st] m := ⟨pss_one h.ps⟩
theorem rss_cons {st : Stmt} {rest : List Stmt} {m n : S} (h1 : RS1 X cl W st m) (h2 : RSs X cl W rest n) : RSs X cl W (st :: rest) (sSeq m n) := by
  refine ⟨pss_mono (pss_cons h1.ps h2.pss) ?_⟩
  rintro Dd σ H ⟨r, e, h, hr, er, w⟩
  refine ⟨r, e, h, hr, er, ?_⟩
  unfold sSeq at w
  cases hm : m e h with
  | nx e1 h1 =>
    rw [hm] at w
    exact fun r' H' x q σ' er' => ⟨r', e1, h1, q, er', RS.wp_ext x w⟩
  | rt d h => rw [hm] at w; exact w
  | bk e h => rw [hm] at w; exact w
  | ct e h => rw [hm] at w; exact w
  | exc c e h => rw [hm] at w; exact w
  | bad => rw [hm] at w; exact w
theorem rs_set (i : Nat) {x : Str} {e : Expr} {m : E} {pos pos' : Pos} (hN : X.N.Nodup) (he : RE X cl W e m) (hi : X.N[i]? = some x := by rfl) (hx : Loc X.env.scope x := by first | exact .inl rfl | exact .inr rfl) (hs : swapsWith e (some (.Name x pos')) pos.line X.env = pure false := by rfl)
    (hf : X.fn x = true ∨ X.env.scope.names.lookup x = some .local := by first | exact .inl rfl | exact .inr rfl) : RS1 X cl W (.Assign [.Name x pos'] e pos) (sSet (.one i) m) := by
  refine ⟨ps_mono (L2.ps_set hN hi hx he.pe hs hf) ?_⟩
  rintro Dd σ H ⟨r, e, h, hr, er, w⟩
  exact ⟨r, e, h, hr, er, wp_imp (go_wp er w) fun d h1 r1 H1 x1 hr1 w1 v q => w1 r1 H1 Ext.refl hr1 _ ((er.ext x1).set q)⟩
theorem rs_asg {tg e : Expr} {t : Tg} {m : E} {pos : Pos} (ht : RG X cl tg t) (he : RE X cl W e m) (hs : swapsWithSole [tg] e pos.line X.env = pure false := by rfl) (hw : swappedStores [tg] e X.env = pure none := by rfl)
    (h1 : (assignEach [tg] X.env).map (·.2) = [assign tg X.env] := by rfl) : RS1 X cl W (.Assign [tg] e pos) (sSet t m) := by
  refine ⟨ps_mono (L2.ps_asg he.pe ht.pg hs hw h1) ?_⟩
  rintro Dd σ H ⟨r, e, h, hr, er, w⟩
  refine ⟨r, e, h, hr, er, wp_imp (go_wp er w) fun d h1 r1 H1 x1 hr1 w1 v q => ?_⟩
  split at w1
  · rename_i e1 ep
    exact ⟨r1, e, d, e1, er.ext x1, q, ep, fun σ' er' _ _ => w1 r1 H1 Ext.refl hr1 σ' er'⟩
  · exact w1.elim
theorem rs_par (i j : Nat) {x y : Str} {a b : Expr} {m : As} {px py pt pos : Pos} {kt k2 pt2} (hc : X.calm = true) (hN : X.N.Nodup) (ha : RA X cl W [a, b] m) (hi : X.N[i]? = some x := by rfl) (hj : X.N[j]? = some y := by rfl) (hij : i ≠ j := by decide)
    (hx : X.env.scope.names.lookup x = some .local := by rfl) (hy : X.env.scope.names.lookup y = some .local := by rfl)
    (hw : swappedStores [.Tuple [.Name x px, .Name y py] kt pt] (.Tuple [a, b] k2 pt2) X.env = pure (some [x, y]) := by rfl)
    (hs : swapsWithSole [.Tuple [.Name x px, .Name y py] kt pt] (.Tuple [a, b] k2 pt2) pos.line X.env = pure false := by rfl) : RS1 X cl W (.Assign [.Tuple [.Name x px, .Name y py] kt pt] (.Tuple [a, b] k2 pt2) pos) (sPar i j m) := by
  refine ⟨ps_mono (L2.ps_par hc hN hi hj hij hx hy ha.pa hw hs) ?_⟩
  rintro Dd σ H ⟨r, e, h, hr, er, w⟩
  refine ⟨r, e, h, hr, er, wp_imp (go_wp er w) fun ds h1 r1 H1 x1 hr1 w1 vs qs => ?_⟩
  split at w1
  · obtain ⟨u, v, rfl, q1, q2⟩ := qs.two_
    exact ⟨u, v, rfl, w1 r1 H1 Ext.refl hr1 _ (((er.ext x1).set q1).set q2)⟩
  · exact w1.elim
def rIp (K : Kp) (op : D → D → Hh → R D) : TIp := fun x y H Q => rD K op x y H Q
theorem ip_mono {op : Operator} {t t' : TIp} (h : PIp X op t) (g : ∀ x y H Q, t' x y H Q → t x y H Q) : PIp X op t' := fun pins s σ H x y v u Q I rx ry w => h pins s σ H x y v u Q I rx ry (g x y H Q w)
theorem ipI_add : PIp X .Add (fun x y H Q => ∃ i j, x = .int i ∧ y = .int j ∧ Q (.int (i + j)) H) := ip_add
theorem ip_ints {op : Operator} {g : Int → Int → Int} {f : D → D → Hh → R D} (h0 : PIp X op (ipI g)) (hf : ∀ x y h d h', f x y h = .ok d h' → ∃ i j, x = .int i ∧ y = .int j ∧ d = .int (g i j) ∧ h' = h) : PIp X op (rIp (kp X cl) f) := by
  refine ip_mono h0 ?_
  rintro x y H Q ⟨r, h, d1, d2, hr, q1, q2, w⟩
  cases hw : f d1 d2 h with
  | ok d h' =>
    obtain ⟨i, j, rfl, rfl, rfl, rfl⟩ := hf _ _ _ _ _ hw
    rw [hw] at w
    rw [q1.int_, q2.int_]
    exact ⟨i, j, rfl, rfl, fin hr Rep.int w⟩
  | exc c h => rw [hw] at w; exact w.elim
  | bad => rw [hw] at w; exact w.elim
theorem ip_addI : PIp X .Add (rIp (kp X cl) opAddI) := ip_ints L2.ip_add fun x y h d h' e => by
  unfold opAddI at e
  split at e
  · cases e; exact ⟨_, _, rfl, rfl, rfl, rfl⟩
  · cases e
theorem ip_subI : PIp X .Sub (rIp (kp X cl) opSub) := ip_ints L2.ip_sub fun x y h d h' e => by
  unfold opSub at e
  split at e
  · cases e; exact ⟨_, _, rfl, rfl, rfl, rfl⟩
  · cases e
theorem rs_aug (i : Nat) {x : Str} {e : Expr} {op : Operator} {f : D → D → Hh → R D} {m : E} {pos pos' : Pos} (hN : X.N.Nodup) (ho : PIp X op (rIp (kp X cl) f)) (he : RE X cl W e m) (hi : X.N[i]? = some x := by rfl) (hx : Loc X.env.scope x := by first | exact .inl rfl | exact .inr rfl)
    (hf : X.fn x = true ∨ X.env.scope.names.lookup x = some .local := by first | exact .inl rfl | exact .inr rfl) : RS1 X cl W (.AugAssign (.Name x pos') op e pos) (sAug f i m) := by
  refine ⟨ps_mono (L2.ps_aug hN hi hx he.pe ho hf) ?_⟩
  rintro Dd σ H ⟨r, e, h, hr, er, w⟩
  unfold sAug at w
  split at w
  · rename_i d e1
    obtain ⟨v, e2, q⟩ := er.at_ i d e1
    refine ⟨v, e2, r, e, h, hr, er, wp_imp (go_wp er w) fun d2 h1 r1 H1 x1 hr1 w1 v2 q2 => ?_⟩
    refine ⟨r1, h1, d, d2, hr1, q.ext x1, q2, R.wp_mono (noX_wp (go_wp (er.ext x1) w1)) (fun d3 h3 z r3 H3 x3 hr3 v3 q3 => ?_) fun _ _ z => z⟩
    exact z r3 H3 x3 hr3 r3 H3 Ext.refl hr3 _ (((er.ext x1).ext x3).set q3)
  · exact w.elim
/-- o[i] = v -/
def rPut (K : Kp) (op : D → D → D → Hh → R Unit) : TSet := fun o i v H Q => ∃ r h d1 d2 d3, HRep K r h H ∧ Rep K r H d1 o ∧ Rep K r H d2 i ∧ Rep K r H d3 v ∧ (op d1 d2 d3 h).wp (Pst K r H fun _ _ _ H' => Q H') fun _ _ => False
theorem pset_mono {t t' : TSet} (h : PSet X t) (g : ∀ o i v H Q, t' o i v H Q → t o i v H Q) : PSet X t' := fun pins s σ H o i v ov iv u Q I ro ri rv w => h pins s σ H o i v ov iv u Q I ro ri rv (g o i v H Q w)
theorem PSet.or {t t' : TSet} (h : PSet X t) (h' : PSet X t') : PSet X (fun o i v H Q => t o i v H Q ∨ t' o i v H Q) := fun pins s σ H o i v ov iv u Q I ro ri rv w => w.elim (h pins s σ H o i v ov iv u Q I ro ri rv) (h' pins s σ H o i v ov iv u Q I ro ri rv)
theorem set_dct (hu : X.A.units + 1 < cLine) : PSet X (fun o i v H Q => ∃ a H', o = .ref a ∧ DPut H a i v H' ∧ Q H') := by
  intro pins s σ H o i v ov iv u Q I ro ri rv h
  obtain ⟨a, H', rfl, g, q⟩ := h
  cases ro
  exact d_setItem hu I g ri rv fun s' I' => ⟨H', I', q⟩
theorem sp_put (hu : X.A.units + 1 < cLine) : PSet X (rPut (kp X cl) opPut) := by
  refine pset_mono (PSet.or set_list (set_dct hu)) ?_
  rintro o i v H Q ⟨r, h, d1, d2, d3, hr, q1, q2, q3, w⟩
  unfold opPut at w
  split at w
  · obtain ⟨a, ea, rfl⟩ := q1.ref_
    split at w
    · rename_i xs e0
      obtain ⟨vs, s1, t1⟩ := hr.lst e0 ea
      split at w
      · rw [q2.int_]
        split at w
        · rename_i j hj
          refine .inl ⟨a, vs, _, j, rfl, rfl, s1, by rw [t1.length]; exact hj, ?_⟩
          have x : Ext (kp X cl) r H r (upd H a (.lst (vs.set j v))) := Ext.put ea s1 (fun _ z => nomatch z) (fun _ _ z => nomatch z)
          exact w r _ x (hr.put ea s1 (fun _ z => nomatch z) (fun _ _ z => nomatch z) ⟨_, upd_same, (Reps.set q3 j t1).ext x⟩)
        · exact w.elim
      · exact w.elim
    · rename_i t kvs e0
      split at w
      · rename_i hf
        obtain ⟨H', g, x1, hr1⟩ := dput_of hr e0 ea q2 q3 hf.1 hf.2
        exact .inr ⟨a, H', rfl, g, w r H' x1 hr1⟩
      · exact w.elim
    · exact w.elim
  · exact w.elim
theorem rs_sub {o i e : Expr} {mo mi mv : E} {pos spos : Pos} (hu : X.A.units + 1 < cLine) (ho : RE X cl W o mo) (hi : RE X cl W i mi) (hv : RE X cl W e mv)
    (ha : ∀ v, assign (.Subscript o i spos) X.env v = (do
      let ov ← holding [v] (eval o X.env)
      let iv ← holding [v, ov] (eval i X.env)
      standAt spos
      holding [v, ov, iv] (setItem ov iv v)
      release [v, ov, iv] []) := by intro _; rfl)
    (hs : swapsWithSole [.Subscript o i spos] e pos.line X.env = pure false := by rfl) (hw : swappedStores [.Subscript o i spos] e X.env = pure none := by rfl)
    (h1 : (assignEach [.Subscript o i spos] X.env).map (·.2) = [assign (.Subscript o i spos) X.env] := by rfl) : RS1 X cl W (.Assign [.Subscript o i spos] e pos) (sSub opPut mo mi mv) := by
  refine ⟨ps_mono (L2.ps_asg hv.pe (L2.pg_sub ho.pe hi.pe (sp_put (cl := cl) hu) ha) hs hw h1) ?_⟩
  rintro Dd σ H ⟨r, e, h, hr, er, w⟩
  refine ⟨r, e, h, hr, er, wp_imp (go_wp er w) fun d1 h1 r1 H1 x1 hr1 w1 v1 q1 => ?_⟩
  refine ⟨r1, e, h1, hr1, er.ext x1, wp_imp (go_wp (er.ext x1) w1) fun d2 h2 r2 H2 x2 hr2 w2 v2 q2 => ?_⟩
  refine ⟨r2, e, h2, hr2, (er.ext x1).ext x2, wp_imp (go_wp ((er.ext x1).ext x2) w2) fun d3 h3 r3 H3 x3 hr3 w3 v3 q3 => ?_⟩
  refine ⟨r3, h3, d2, d3, d1, hr3, q2.ext x3, q3, (q1.ext x2).ext x3, R.wp_mono (noX_wp (go_wp (((er.ext x1).ext x2).ext x3) w3)) (fun _ h4 z r4 H4 x4 hr4 => ?_) fun _ _ z => z⟩
  exact z r4 H4 x4 hr4 r4 H4 Ext.refl hr4 _ ((((er.ext x1).ext x2).ext x3).ext x4)
theorem rs_expr {e : Expr} {m : E} {pos : Pos} (he : RE X cl W e m) (hs : swapsWith e none pos.line X.env = pure false := by rfl) : RS1 X cl W (.Expr e pos) (sExpr m) := by
  refine ⟨ps_mono (L2.ps_expr he.pe hs) ?_⟩
  rintro Dd σ H ⟨r, e, h, hr, er, w⟩
  exact ⟨r, e, h, hr, er, wp_imp (go_wp er w) fun d h1 r1 H1 x1 hr1 w1 v q => w1 r1 H1 Ext.refl hr1 _ (er.ext x1)⟩
theorem rs_ret {e : Expr} {m : E} {pos : Pos} (he : RE X cl W e m) : RS1 X cl W (.Return (some e) pos) (sRet m) := by
  refine ⟨ps_mono (L2.ps_ret he.pe) ?_⟩
  rintro Dd σ H ⟨r, e, h, hr, er, w⟩
  exact ⟨r, e, h, hr, er, wp_imp (go_wp er w) fun d h1 r1 H1 x1 hr1 w1 v q => w1 r1 H1 Ext.refl hr1 _ q⟩
theorem rs_if {c : Expr} {a b : List Stmt} {t : T} {m n : S} {pos : Pos} (hc : RT X cl W c t) (ha : RSs X cl W a m) (hb : RSs X cl W b n) : RS1 X cl W (.If c a b pos) (sIf t m n) := by
  refine ⟨ps_mono (L2.ps_if hc.pt ha.pss hb.pss) ?_⟩
  rintro Dd σ H ⟨r, e, h, hr, er, w⟩
  refine ⟨r, e, h, hr, er, wp_imp (go_wp er w) fun d h1 r1 H1 x1 hr1 w1 => ?_⟩
  cases d with
  | true =>
    rw [if_pos rfl] at w1 ⊢
    exact ⟨r1, e, h1, hr1, er.ext x1, w1⟩
  | false =>
    rw [if_neg Bool.false_ne_true] at w1 ⊢
    exact ⟨r1, e, h1, hr1, er.ext x1, w1⟩
theorem rs_while {c : Expr} {b : List Stmt} {t : T} {m : S} {pos : Pos} (hp : PassesOwn (model X.prog X.w) X.A X.env X.xe) (hc : RT X cl W c t) (hb : RSs X cl W b m) : RS1 X cl W (.While c b [] pos) (sWhile t m) := by
  refine ⟨ps_mono (L2.ps_while hp hc.pt hb.pss) ?_⟩
  intro Dd σ H w
  refine ⟨fun n => tmS (kp X cl) W (whileN t m n) Dd, ⟨fuel, w⟩, ?_⟩
  rintro n σ1 H1 ⟨r, e, h, hr, er, w⟩
  cases n with
  | zero => exact w.elim
  | succ n =>
    refine ⟨r, e, h, hr, er, wp_imp (go_wp er w) fun d h1 r1 H1 x1 hr1 w1 => ?_⟩
    cases d with
    | true =>
      rw [if_pos rfl] at w1 ⊢
      refine ⟨tmS (kp X cl) W (whileN t m n) Dd, fun σ' H' z => ⟨n, Nat.lt_succ_self n, z⟩, r1, e, h1, hr1, er.ext x1, ?_⟩
      cases hm : m e h1 with
      | nx e2 h2 => rw [hm] at w1; exact fun r' H' x q σ' er' => ⟨r', e2, h2, q, er', RS.wp_ext x w1⟩
      | ct e2 h2 => rw [hm] at w1; exact fun r' H' x q σ' er' => ⟨r', e2, h2, q, er', RS.wp_ext x w1⟩
      | bk e2 h2 => rw [hm] at w1; exact w1
      | rt d h => rw [hm] at w1; exact w1
      | exc c e h => rw [hm] at w1; exact w1
      | bad => rw [hm] at w1; exact w1
    | false =>
      rw [if_neg Bool.false_ne_true] at w1 ⊢
      exact w1 r1 H1 Ext.refl hr1 _ (er.ext x1)
theorem rs_for {tg it : Expr} {b : List Stmt} {t : Tg} {mi : IE} {m : S} {pos : Pos} (hc : X.calm = true) (hp : PassesOwn (model X.prog X.w) X.A X.env X.xe) (hi : RI X cl W tg it mi) (hg : RG X cl tg t) (hb : RSs X cl W b m)
    (hs : ∀ x, foldedSetIterable it X.env x = pure x := by intro _; rfl) : RS1 X cl W (.For tg it b [] pos) (sFor mi t m) := by
  refine ⟨ps_mono (L2.ps_for hp hc hi.pi hg.pg hb.pss hs) ?_⟩
  rintro Dd σ H ⟨r, e, h, hr, er, w⟩
  refine ⟨r, e, h, hr, er, wp_imp (go_wp er w) fun i h1 r1 H1 x1 hr1 w1 J ok => ?_⟩
  refine ⟨fun k n σ' H' => ∃ r' e' h', HRep (kp X cl) r' h' H' ∧ ERep (kp X cl) r' H' e' σ' ∧ (∃ u, r' = r1 ++ u) ∧ RS.wp (kp X cl) W r' H' Dd (forN i t m n k e' h'), ⟨fuel, r1, e, h1, hr1, er.ext x1, ⟨[], by simp⟩, w1⟩, ?_⟩
  rintro k n σ2 H2 ⟨r2, e2, h2, hr2, er2, pre, w2⟩
  cases n with
  | zero => exact w2.elim
  | succ n =>
    unfold forN at w2
    split at w2
    · exact w2.elim
    · rename_i e0
      exact .inl ⟨ok.stop k r2 h2 H2 pre hr2 e0, w2 r2 H2 Ext.refl hr2 σ2 er2⟩
    · rename_i d e0
      obtain ⟨g1, g2⟩ := ok.go k r2 h2 H2 d pre hr2 e0
      refine .inr ⟨g1, fun σ' H' => ∃ r' e' h', HRep (kp X cl) r' h' H' ∧ ERep (kp X cl) r' H' e' σ' ∧ (∃ u, r' = r1 ++ u) ∧ RS.wp (kp X cl) W r' H' Dd (forN i t m n (k + 1) e' h'), fun σ' H' z => ⟨n, Nat.lt_succ_self n, z⟩, fun x H3 hy => ?_⟩
      obtain ⟨x3, hr3, q3⟩ := g2 x H3 hy
      split at w2
      · exact w2.elim
      · rename_i e3 ep
        refine ⟨r2, e2, d, e3, er2.ext x3, q3, ep, fun σ4 er4 _ _ => ?_⟩
        refine ⟨r2, e3, h2, hr3, er4, ?_⟩
        have again : ∀ {e5 : Env} {h5 : Hh}, RS.wp (kp X cl) W r2 H2 Dd (forN i t m n (k + 1) e5 h5) → ∀ r' H', Ext (kp X cl) r2 H3 r' H' → HRep (kp X cl) r' h5 H' → ∀ σ', ERep (kp X cl) r' H' e5 σ' → ∃ r'' e' h', HRep (kp X cl) r'' h' H' ∧ ERep (kp X cl) r'' H' e' σ' ∧ (∃ u, r'' = r1 ++ u) ∧ RS.wp (kp X cl) W r'' H' Dd (forN i t m n (k + 1) e' h') := fun {e5 h5} w5 r' H' x' q σ' er' => by
          refine ⟨r', e5, h5, q, er', ?_, RS.wp_ext (x3.trans x') w5⟩
          obtain ⟨u, rfl⟩ := pre
          obtain ⟨u', rfl⟩ := x'.pre
          exact ⟨u ++ u', by simp⟩
        cases hm : m e3 h2 with
        | nx e5 h5 => rw [hm] at w2; exact again w2
        | ct e5 h5 => rw [hm] at w2; exact again w2
        | bk e5 h5 => rw [hm] at w2; exact RS.wp_ext x3 w2
        | rt d h => rw [hm] at w2; exact RS.wp_ext x3 w2
        | exc c e h => rw [hm] at w2; exact RS.wp_ext x3 w2
        | bad => rw [hm] at w2; exact w2

/-! ### comprehensions -/
structure RTs (X : Cx) (cl : Nat → Addr) (W : WX) (ifs : List Expr) (m : T) : Prop where
  pts : PTs X ifs (tmT (kp X cl) W m)
theorem rts_nil : RTs X cl W [] tYes := ⟨⟨fun pins s σ H Q I w => pts_nil.run pins s σ H Q I (by obtain ⟨r, e, h, hr, er, w⟩ := w; exact w r H Ext.refl hr)⟩⟩
theorem rts_one {c : Expr} {m : T} (h : RT X cl W c m) : RTs X cl W [c] m := ⟨pts_one h.pt⟩
theorem wipe_get (σ : L2.St) (j : Nat) : ∀ vs : List Nat, (wipe σ vs)[j]? = if j ∈ vs ∧ j < σ.length then some none else σ[j]?
  | [] => by simp [wipe]
  | v :: vs => by
    unfold wipe
    by_cases hv : v = j
    · subst hv
      by_cases hl : v < σ.length
      · rw [List.getElem?_set_self (by rw [wipe_length]; exact hl), if_pos ⟨by simp, hl⟩]
      · rw [List.getElem?_eq_none (by simp [wipe_length]; omega), if_neg (fun z => hl z.2), List.getElem?_eq_none (by omega)]
    · rw [List.getElem?_set_ne hv, wipe_get σ j vs]
      have : j ∈ v :: vs ↔ j ∈ vs := by simp [Ne.symm hv]
      simp only [this]
theorem wipeE_get (e : Env) (j : Nat) : ∀ vs : List Nat, (wipeE e vs)[j]? = if j ∈ vs ∧ j < e.length then some .no else e[j]?
  | [] => by simp [wipeE]
  | v :: vs => by
    have hl0 : (wipeE e vs).length = e.length := by
      clear wipeE_get
      induction vs with
      | nil => rfl
      | cons a l ih => unfold wipeE; simpa using ih
    unfold wipeE
    by_cases hv : v = j
    · subst hv
      by_cases hl : v < e.length
      · rw [List.getElem?_set_self (by rw [hl0]; exact hl), if_pos ⟨by simp, hl⟩]
      · rw [List.getElem?_eq_none (by simp [hl0]; omega), if_neg (fun z => hl z.2), List.getElem?_eq_none (by omega)]
    · rw [List.getElem?_set_ne hv, wipeE_get e j vs]
      have : j ∈ v :: vs ↔ j ∈ vs := by simp [Ne.symm hv]
      simp only [this]
theorem wipe_eq {σ σ' : L2.St} {vs : List Nat} (hl : σ'.length = σ.length) (h : ∀ j, j ∉ vs → σ'[j]? = σ[j]?) : wipe σ' vs = wipe σ vs := by
  apply List.ext_getElem?
  intro j
  rw [wipe_get, wipe_get, hl]
  by_cases hj : j ∈ vs
  · by_cases hl2 : j < σ.length
    · rw [if_pos ⟨hj, hl2⟩, if_pos ⟨hj, hl2⟩]
    · rw [if_neg (fun z => hl2 z.2), if_neg (fun z => hl2 z.2), List.getElem?_eq_none (by omega), List.getElem?_eq_none (by omega)]
  · rw [if_neg (fun z => hj z.1), if_neg (fun z => hj z.1)]
    exact h j hj
theorem wipe_wipe (σ : L2.St) (vs : List Nat) : wipe (wipe σ vs) vs = wipe σ vs := wipe_eq (wipe_length _ _) fun j hj => by rw [wipe_get, if_neg (fun z => hj z.1)]
theorem ERep.wipe {K : Kp} {r : List Addr} {H : Hp} {e : Env} {σ : L2.St} (er : ERep K r H e σ) (vs : List Nat) : ERep K r H (wipeE e vs) (L2.wipe σ vs) := by
  have hl0 : (wipeE e vs).length = e.length := by
    induction vs with
    | nil => rfl
    | cons a l ih => unfold wipeE; simpa using ih
  refine ⟨by rw [hl0, wipe_length, er.len], fun i d h => ?_, fun i h => ?_⟩
  · rw [wipeE_get] at h
    rw [wipe_get]
    by_cases hi : i ∈ vs ∧ i < e.length
    · rw [if_pos hi] at h; cases h
    · rw [if_neg hi] at h
      rw [if_neg (by rw [← er.len]; exact hi)]
      exact er.at_ i d h
  · rw [wipeE_get] at h
    rw [wipe_get]
    by_cases hi : i ∈ vs ∧ i < e.length
    · rw [if_pos hi] at h; cases h
    · rw [if_neg hi] at h
      rw [if_neg (by rw [← er.len]; exact hi)]
      exact er.pin i h
theorem put_len : ∀ {is : List Nat} {ds : List D} {e e1 : Env}, setMany is ds e = some e1 → e1.length = e.length
  | [], [], _, _, h => by cases h; rfl
  | [], _ :: _, _, _, h => by cases h
  | _ :: _, [], _, _, h => by cases h
  | i :: is, d :: ds, e, _, h => by rw [put_len (is := is) (ds := ds) h]; simp
theorem comp_core {K : Kp} {it : IE} {tg : Tg} {vs : List Nat} {tt : T} {a : E} {σ : L2.St} {H : Hp} {Q : VK} (hsub : tg.slots ⊆ vs) (w : tmE K W (eComp it tg vs tt a) σ H Q) :
    tLc (tmI K W it) (tmG K tg) (tmT K (fun _ _ _ _ => False) tt) (tmE K (fun _ _ _ _ => False) a) vs σ H Q := by
  obtain ⟨r, e, h, hr, er, w⟩ := w
  refine ⟨r, e, h, hr, er, wp_imp (wp_bind2 w) fun j h1 r1 H1 x1 hr1 w1 J ok D hD => ?_⟩
  have x0 : Ext K r1 H1 (r1 ++ [D]) (upd H1 D (.lst [])) := Ext.new hD
  have g0 : Grow K r1 H1 r1 (upd H1 D (.lst [])) := ⟨⟨[], by simp⟩, x0.tups⟩
  have np := hr1.free hD
  refine ⟨fun i m H2 => ∃ r2 acc h2 us, HRep K r2 h2 H2 ∧ ERep K r2 H2 (wipeE e vs) (wipe σ vs) ∧ Ext K r1 H1 r2 H2 ∧ D ∉ r2 ∧ H2 D = some (.lst us) ∧ Reps K r2 H2 acc us ∧
    (compN j tg tt a (wipeE e vs) m i acc h2).wp (Pst K r1 H1 fun d _ r' H' => ∀ v, Rep K r' H' d v → Q v H') (XPst K W σ r1 H1), ⟨fuel, ?_⟩, ?_⟩
  · refine ⟨r1, [], h1, [], ⟨hr1.len, hr1.nd, fun i o p e1 e2 => (hr1.at_ i o p e1 e2).grow g0 (upd_ne fun z => np (by rw [← z]; exact List.mem_of_getElem? e2))⟩, ((er.ext x1).wipe vs).grow g0, ⟨⟨[], by simp⟩, g0.tups, fun b o e n => ⟨by rw [upd_ne (ne_of_none e hD)]; exact e, n⟩⟩, np, upd_same, Reps.nil, w1⟩
  · rintro i n H2 ⟨r2, acc, h2, us, hr2, er2, x2, np2, e2, q2, w2⟩
    cases n with
    | zero => exact w2.elim
    | succ n =>
      unfold compN at w2
      split at w2
      · exact w2.elim
      · rename_i e0
        refine .inl ⟨ok.stop i r2 h2 H2 x2.pre hr2 e0, ?_⟩
        exact w2 _ _ (x2.adopt hD) (hr2.adopt np2 (show ORep K r2 H2 D (.lst acc) from ⟨us, e2, q2⟩)) _ (Rep.ref hr2.last_)
      · rename_i d e0
        obtain ⟨g1, g2⟩ := ok.go i r2 h2 H2 d x2.pre hr2 e0
        refine .inr ⟨g1, fun H' => ∃ r2 acc h2 us, HRep K r2 h2 H' ∧ ERep K r2 H' (wipeE e vs) (wipe σ vs) ∧ Ext K r1 H1 r2 H' ∧ D ∉ r2 ∧ H' D = some (.lst us) ∧ Reps K r2 H' acc us ∧
          (compN j tg tt a (wipeE e vs) n (i + 1) acc h2).wp (Pst K r1 H1 fun d _ r' H' => ∀ v, Rep K r' H' d v → Q v H') (XPst K W σ r1 H1), fun H' z => ⟨n, Nat.lt_succ_self n, z⟩, fun x H3 hy => ?_⟩
        obtain ⟨x3, hr3, q3⟩ := g2 x H3 hy
        split at w2
        · exact w2.elim
        · rename_i e3 ep
          refine ⟨r2, wipeE e vs, d, e3, er2.ext x3, q3, ep, fun σ4 er4 hl4 hj4 => ⟨?_, ?_⟩⟩
          · rw [← wipe_wipe σ vs]
            exact wipe_eq hl4 fun j hj => hj4 j fun z => hj (hsub z)
          · obtain ⟨e4, np4⟩ := x3.rest D _ e2 np2
            have y3 := x2.trans x3
            -- the test
            have w3 : (tt e3 h2).wp (fun b h4 => (if b = true then (a e3 h4).bindN fun y h5 => if acc.length < sizeMax then compN j tg tt a (wipeE e vs) n (i + 1) (acc ++ [y]) h5 else .bad else compN j tg tt a (wipeE e vs) n (i + 1) acc h4).wp (Pst K r1 H1 fun d _ r' H' => ∀ v, Rep K r' H' d v → Q v H') (XPst K W σ r1 H1)) (XPst K (fun _ _ _ _ => False) σ4 r2 H3) := R.wp_bindN w2
            refine ⟨r2, e3, h2, hr3, er4, R.wp_mono w3 (fun b h4 w4 r4 H4 x4 hr4 => ?_) fun _ _ z => z⟩
            obtain ⟨e5, np5⟩ := x4.rest D _ e4 np4
            cases b with
            | false =>
              rw [if_neg Bool.false_ne_true] at w4 ⊢
              exact ⟨r4, acc, h4, us, hr4, (er2.ext x3).ext x4, y3.trans x4, np5, e5, (q2.ext x3).ext x4, w4⟩
            | true =>
              rw [if_pos rfl] at w4 ⊢
              refine ⟨r4, e3, h4, hr4, er4.ext x4, R.wp_mono (R.wp_bindN (X' := XPst K (fun _ _ _ _ => False) σ4 r4 H4) w4) (fun y h5 w5 r5 H5 x5 hr5 v q5 => ?_) fun _ _ z => z⟩
              obtain ⟨e6, np6⟩ := x5.rest D _ e5 np5
              have qa := ((q2.ext x3).ext x4).ext x5
              by_cases hz : acc.length < sizeMax
              · rw [if_pos hz] at w5
                have y5 := (y3.trans x4).trans x5
                obtain ⟨x6, g6⟩ := y5.own (o := .lst (us ++ [v])) hD np6 e6 (fun _ z => nomatch z)
                refine ⟨us, e6, by rw [qa.length, sizeLine_eq]; exact hz, r5, acc ++ [y], h5, us ++ [v], hr5.own np6 g6, (((er2.ext x3).ext x4).ext x5).grow g6, x6, np6, upd_same, (qa.append (Reps.cons q5 Reps.nil)).grow g6, w5⟩
              · rw [if_neg hz] at w5
                exact w5.elim
theorem kp_blk {s : Shared} {H : Hp} {scope : Scope} {env : PySem.Env} {fp : List Addr} (hc : X.calm = true) : kp (X.blk s H scope env fp) cl = kp X cl := by
  unfold kp pinOf
  rw [if_pos hc, if_pos (show (X.blk s H scope env fp).calm = true from hc)]
theorem re_comp {elt tg iter : Expr} {ifs : List Expr} {scope : Scope} {own : List (Str × Nat)} {pos : Pos} {mi : IE} {t : Tg} {tt : T} {ma : E} (hc : X.calm = true) (hN : X.N.Nodup) (hi : RI X cl W tg iter mi) (ok : BlkOk X.N X.env.scope scope own) (hsub : t.slots ⊆ own.map (·.2))
    (hg : ∀ (s : Shared) (H : Hp) (C : Addr) (cs : List (Str × Addr)) (fp : List Addr), RG (X.blk s H scope (compEnvC scope cs C X.env) fp) cl tg t) (ht : ∀ (s : Shared) (H : Hp) (C : Addr) (cs : List (Str × Addr)) (fp : List Addr), RTs (X.blk s H scope (compEnvC scope cs C X.env) fp) cl (fun _ _ _ _ => False) ifs tt)
    (he : ∀ (s : Shared) (H : Hp) (C : Addr) (cs : List (Str × Addr)) (fp : List Addr), RE (X.blk s H scope (compEnvC scope cs C X.env) fp) cl (fun _ _ _ _ => False) elt ma) (hs : ∀ x, foldedSetIterable iter X.env x = pure x := by intro _; rfl) :
    RE X cl W (.ListComp elt [⟨tg, iter, ifs, 0⟩] scope pos) (eComp mi t (own.map (·.2)) tt ma) :=
  ⟨pe_mono (L2.pe_lc (g := tmG (kp X cl) t) (tt := tmT (kp X cl) (fun _ _ _ _ => False) tt) (te := tmE (kp X cl) (fun _ _ _ _ => False) ma) hc hN hi.pi ok (fun s H C cs fp => kp_blk (cl := cl) hc ▸ (hg s H C cs fp).pg) (fun s H C cs fp => kp_blk (cl := cl) hc ▸ (ht s H C cs fp).pts) (fun s H C cs fp => kp_blk (cl := cl) hc ▸ (he s H C cs fp).pe) hs) fun _ _ _ w => comp_core hsub w⟩
theorem rs_setc (i : Nat) {y : Str} {py : Pos} {elt tg iter : Expr} {ifs : List Expr} {scope : Scope} {own : List (Str × Nat)} {pos spos : Pos} {mi : IE} {t : Tg} {tt : T} {ma : E} (hc : X.calm = true) (hN : X.N.Nodup) (hsw : swapsWith (.ListComp elt [⟨tg, iter, ifs, 0⟩] scope pos) (some (.Name y py)) spos.line X.env = pure true)
    (hi : RI X cl W tg iter mi) (ok : BlkOk X.N X.env.scope scope own) (hsub : t.slots ⊆ own.map (·.2))
    (hg : ∀ (s : Shared) (H : Hp) (C : Addr) (cs : List (Str × Addr)) (fp : List Addr), RG (X.blk s H scope (compEnvC scope cs C X.env) fp) cl tg t) (ht : ∀ (s : Shared) (H : Hp) (C : Addr) (cs : List (Str × Addr)) (fp : List Addr), RTs (X.blk s H scope (compEnvC scope cs C X.env) fp) cl (fun _ _ _ _ => False) ifs tt)
    (he : ∀ (s : Shared) (H : Hp) (C : Addr) (cs : List (Str × Addr)) (fp : List Addr), RE (X.blk s H scope (compEnvC scope cs C X.env) fp) cl (fun _ _ _ _ => False) elt ma) (hy : X.N[i]? = some y := by rfl) (hyl : X.env.scope.names.lookup y = some .local := by rfl) (hs : ∀ x, foldedSetIterable iter X.env x = pure x := by intro _; rfl) :
    RS1 X cl W (.Assign [.Name y py] (.ListComp elt [⟨tg, iter, ifs, 0⟩] scope pos) spos) (sSet (.one i) (eComp mi t (own.map (·.2)) tt ma)) := by
  refine ⟨ps_mono (L2.ps_setLc (g := tmG (kp X cl) t) (tt := tmT (kp X cl) (fun _ _ _ _ => False) tt) (te := tmE (kp X cl) (fun _ _ _ _ => False) ma) hc hN hy hyl hsw hi.pi ok (fun s H C cs fp => kp_blk (cl := cl) hc ▸ (hg s H C cs fp).pg) (fun s H C cs fp => kp_blk (cl := cl) hc ▸ (ht s H C cs fp).pts) (fun s H C cs fp => kp_blk (cl := cl) hc ▸ (he s H C cs fp).pe) hs) ?_⟩
  rintro Dd σ H ⟨r, e, h, hr, er, w⟩
  refine comp_core hsub ⟨r, e, h, hr, er, wp_imp (go_wp er w) fun d h1 r1 H1 x1 hr1 w1 v q => ?_⟩
  exact w1 r1 H1 Ext.refl hr1 _ ((er.ext x1).set q)

/-! ### defs and calls -/
/-- the promise: what F tells -/
def spF (K : Kp) (n : Nat) (f : F) : Sp := fun vs H Q E => vs.length = n ∧ ∃ r h ds, HRep K r h H ∧ Reps K r H ds vs ∧ (f ds h).wp (Pst K r H fun d _ r' H' => ∀ v, Rep K r' H' d v → Q v H') (XPst K (fun c od _ H => E c od H) [] r H)
theorem kp_calm (hc : X.calm = true) : kp X cl = kp0 X.K cl := by
  unfold kp pinOf
  rw [if_pos hc]
theorem re_call {f : Addr} {fd : FuncData} {ps : List Str} {k n : Nat} {g : F} {x : Str} {a : Expr} {es : List Expr} {m : As} {p pos : Pos} (G : FnOk X.prog X.w X.K X.mg X.base (L2.CX X.prog X.w) k f fd ps (spF (kp0 X.K cl) n g)) (hc : X.calm = true) (hr : Room k X.A) (hm : X.mg x = some (.ref f)) (hk : PySem.W.keepIn X.K (.ref f) = true) (hb : Binds X.K fd ps [])
    (tk : Takes X W) (ha : RA X cl W (a :: es) m) (hn : (a :: es).length = n := by rfl) (hg : Gl X x := by rfl) (hdb : (x == ("__debug__" : Str)) = false := by decide) (he : starEach (a :: es) X.env = (false, eval a X.env) :: starEach es X.env := by rfl) (hpl : (backTo pos (starEach es X.env)).any (·.1) = false := by rfl) :
    RE X cl W (.Call (.Name x p) (a :: es) [] pos) (eCall g m) := by
  rw [← kp_calm hc] at G
  refine ⟨pe_mono (pe_callS G hr hg hm hk hb (fun σ => passAt tk σ) ha.pa hdb he hpl) ?_⟩
  rintro σ H Q ⟨r, e, h, hr, er, w⟩
  refine ⟨r, e, h, hr, er, wp_impE (wp_bind2 w) fun ds h1 r1 H1 eq x1 hr1 w1 vs qs => ?_⟩
  exact ⟨by rw [qs.length, ha.ln _ _ _ _ eq]; exact hn, r1, h1, ds, hr1, qs, w1⟩
theorem start_rep {K : Kp} {r : List Addr} {H : Hp} {ds : List D} {vs : List V} {N : List Str} (q : Reps K r H ds vs) : ERep K r H (ds.map Slot.val ++ List.replicate (N.length - ds.length) .no) (L2.start N vs) := by
  unfold L2.start
  have lt : ∀ {i : Nat} {x : Slot}, (ds.map Slot.val ++ List.replicate (N.length - ds.length) .no)[i]? = some x → x ≠ .no → i < ds.length := fun {i x} e hx => by
    by_cases hi : i < ds.length
    · exact hi
    · rw [List.getElem?_append_right (by simpa using hi), List.getElem?_replicate] at e
      split at e
      · cases e; exact absurd rfl hx
      · cases e
  refine ⟨by simp [q.length], fun i d e => ?_, fun i e => ?_⟩
  · have hi := lt e (fun z => nomatch z)
    rw [List.getElem?_append_left (by simpa using hi), List.getElem?_map] at e
    cases hd : ds[i]? with
    | none => rw [hd] at e; cases e
    | some d' =>
      rw [hd] at e
      cases e
      obtain ⟨v, e1, e2⟩ := q.get hd
      refine ⟨v, ?_, e2⟩
      rw [List.getElem?_append_left (by simp [q.length]; exact hi), List.getElem?_map, e1]
      rfl
  · have hi := lt e (fun z => nomatch z)
    rw [List.getElem?_append_left (by simpa using hi), List.getElem?_map] at e
    cases hd : ds[i]? with
    | none => rw [hd] at e; cases e
    | some d' => rw [hd] at e; cases e
end
/-- a def by its body -/
theorem fun_ok {P : Program} {w : World} {K : PySem.W.Frag} {mg : Str → Option Value} {base : Heap} {cl : Nat → Addr} {x qual : Str} {st : Stmt} {f : Addr} {fd : FuncData} {N ps : List Str} {k n p : Nat} {B : S} (F : L2.Fun K x qual st f fd) (S : FnScope N ps (defScope st)) (hn : N.length = n) (hp : ps.length = p)
    (hB : ∀ (cdv : Value) (A : Around) (outer : List PySem.Env) (s : Shared) (H : Hp) (E : XK), Room k (A.deeper (envOfC qual (defScope st) s.heap.objs.size f cdv)) →
      RSs (cxOf (L2.CX P w) P w K mg base N qual (defScope st) f cdv A outer s H E) cl (fun c od _ H => E c od H) (defBody st) B) :
    FnOk P w K mg base (L2.CX P w) (k + 1) f fd ps (spF (kp0 K cl) p (fn n p B)) := by
  refine F.okX S (fun vs H Q E h => h.1.trans hp.symm) (fun cdv A outer s H vs Q E hr h => ⟨_, (hB cdv A outer s H E hr).pss, ?_⟩)
  obtain ⟨hl, r, h, ds, hr, qs, w⟩ := h
  refine ⟨r, _, h, hr, start_rep qs, ?_⟩
  unfold fn at w
  have hd : ds.length = p := by rw [← qs.length]; exact hl
  rw [if_pos hd] at w
  unfold run at w
  subst hn
  generalize hm : B (ds.map Slot.val ++ List.replicate (N.length - ds.length) .no) h = m at w
  cases m with
  | nx e1 h1 => exact fun r' H' x q σ' _ => w r' H' x q _ Rep.non
  | rt d h1 => exact fun r' H' x q v z => w r' H' x q v z
  | bk e1 h1 => exact w.elim
  | ct e1 h1 => exact w.elim
  | exc c e1 h1 => exact fun r' H' od x q z σ' _ => w r' H' od x q z
  | bad => exact w.elim
section
variable {X : Cx} {cl : Nat → Addr} {W : WX}
/-! ### raise -/
theorem rs_raise {x m : Str} {c j : Nat} {C : Addr} {p p2 p3 pos : Pos} {bmB : List Value} {B newId initId : String} (hc : X.calm = true) (tk : Takes X W) (F : ExcBaseFacts B newId initId bmB) (q : PySem.W.excIn X.K C bmB newId = true) (gC : X.mg x = some (.ref C)) (kC : PySem.W.keepIn X.K (.ref C) = true)
    (rC : Raises X (.ref C)) (hC : cl c = C) (hg : Gl X x := by rfl) (hdb : (x == ("__debug__" : Str)) = false := by decide) : RS1 X cl W (.Raise (some (.Call (.Name x p) [.Constant (.str m) j p2] [] p3)) none pos) (sRaise c) := by
  refine ⟨ps_mono (L2.ps_raise hc tk (L2.pmk_own F q gC kC rC hg hdb)) ?_⟩
  rintro Dd σ H ⟨r, e, h, hr, er, w⟩
  have := w r H none Ext.refl hr ⟨rfl, rfl⟩ σ er
  subst hC
  exact this
end
end TM
set_option Elab.async false
set_option linter.all false
set_option autoImplicit false
set_option maxRecDepth 100000
set_option maxHeartbeats 4000000
/-! try with many clauses, each with a name; isinstance of what is caught; more of in, reversed -/
namespace TM
open PySem PySem.Spec PyProof.Rows L2

/-- the ends of a clause's suite: the name of slot i goes -/
def endsAs (i : Nat) (D : Ends) : Ends where
  nx := fun τ G => D.nx (τ.set i none) G
  rt := D.rt
  bk := fun τ G => D.bk (τ.set i none) G
  ct := fun τ G => D.ct (τ.set i none) G
abbrev HdT := Value × Nat × (Addr → Value → Option Addr → TS)
def wClauses (K : PySem.W.Frag) (Wo : WX) (D : Ends) : List HdT → WX
  | [] => Wo
  | (c, i, ts) :: more => fun k od τ G => ∃ y, PySem.W.exmOne K k c = some y ∧ (y = true → ∀ p, G p = none → ts p k od (endsAs i D) (τ.set i (some (.ref p))) G) ∧ (y = false → wClauses K Wo D more k od τ G)
inductive Clauses (X : Cx) : List ExceptHandler → List HdT → Prop
  | nil : Clauses X [] []
  | cons {x n : Str} {c : Value} {i : Nat} {ts : Addr → Value → Option Addr → TS} {st : Stmt} {sts : List Stmt} {np hp : Pos} {hs : List ExceptHandler} {l : List HdT} (hi : X.N[i]? = some n) (hn : X.env.kindOf n = some .local) (hc : Names X x c)
      (ok : ∀ (p : Addr) (ob : Obj) (k : Value) (od : Option Addr) (pn : List (Addr × Obj)), Zc k od ob → (∃ vs, ob.data = .fields vs) → PSs (X.suite p ((p, ob) :: pn)) (st :: sts) (ts p k od)) (more : Clauses X hs l) :
      Clauses X (.ExceptHandler (some (.Name x np)) (some n) (st :: sts) hp :: hs) ((c, i, ts) :: l)
section
variable {X : Cx} {body : List Stmt} {hd1 : ExceptHandler} {hds : List ExceptHandler} {l : List HdT} {pos : Pos} {tb : WX → TS} {Wo : WX}
theorem ps_clauses (hst : X.stack = X.env :: X.outer) (hfm : X.env.frame = some X.env.locals) (hN : X.N.Nodup) (tk : Takes X Wo)
    (hbody : ∀ (W : WX) (pn : List (Addr × Obj)) (ex : Value → Shared → Prop), Takes (X.tr pn ex) W → PassesOwn (model X.prog X.w) X.A X.env ex → PSs (X.tr pn ex) body (tb W))
    (hcl : Clauses X (hd1 :: hds) l) : PS X (.Try body (hd1 :: hds) [] [] pos) (fun D τ G => tb (wClauses X.K Wo D l) D τ G) := by
  refine ⟨fun pins s τ G D inv wish => ?_⟩
  have okX := inv.ok
  have frX : X.A.frames = some (X.env :: X.outer) := by rw [okX.frames, hst]
  refine wpAny_Try_except ?_
  refine wpAny_mono ((hbody (wClauses X.K Wo D l) (X.pn ++ pins) (fun ev t1 => wpAny (model X.prog X.w) X.A (noteFrame ev X.env) (fun _ t2 => wpAny (model X.prog X.w) X.A (setFlight ev none) (fun _ t3 =>
    wpAny (model X.prog X.w) X.A (handleBy ev X.env (hd1 :: hds)) (SP X pins D) X.xe t3) X.xe t2) X.xe t1) (fun ev t caught => ?_) PassesOwn.looking).run [] s τ G D (inv.toTry _) wish) (fun fl t done => ?_) (fun ev t lv => lv)
  · obtain ⟨p, Bh, tI, pins', τ', G', k, od, rfl, inv', nb, up, sky, np, os, bare, ww⟩ := caught
    have J : Inv X pins τ' G' tI := inv'.ofTry okX
    have skyX : Sky Bh (X.env :: X.outer) p (Zc k od) X.env.locals t.heap := by rw [← hst]; exact sky
    show wpAny (model X.prog X.w) X.A (noteFrame (.ref p) X.env) _ _ _
    refine Sky.land Zc.steady frX hfm skyX fun g3 fly3 ups3 => ?_
    have J3 : Inv X pins τ' G' { t with heap := g3 } := J.landed nb fly3.1 (up.trans ups3) os bare
    obtain ⟨ob3, ws3, at3, zc3, da3⟩ := fly3.there
    have offFrames : ∀ {g : Heap} {ob : Obj} {ws : Array Value}, g.FunFrames Bh (X.env :: X.outer) → g.get? p = some ob → ob.data = .fields ws → p ∉ frs (X.env :: X.outer) := fun {g ob ws} ff ea ed mem => by
      obtain ⟨_, ob', ea', hno⟩ := ff.mem mem
      rw [ea] at ea'
      cases ea'
      exact hno _ ed
    have nfr := offFrames fly3.2.2.1 at3 da3
    have nLoc : p ≠ X.env.locals := fun z => nfr (List.mem_filterMap.mpr ⟨X.env, List.mem_cons_self, by rw [hfm, z]⟩)
    have nFs : p ∉ X.fs := fun mem => by
      obtain ⟨en, hen, q⟩ := List.mem_filterMap.mp mem
      exact nfr (List.mem_filterMap.mpr ⟨en, List.mem_cons_of_mem _ hen, q⟩)
    have Su3 := J3.suite at3 da3 np nLoc nFs
    have each : ∀ {hs' : List ExceptHandler} {l' : List HdT}, Clauses X hs' l' → wClauses X.K Wo D l' k od τ' G' →
        wpAny (model X.prog X.w) X.A (handleBy (.ref p) X.env hs') (SP X pins D) X.xe { t with heap := g3 } := by
      intro hs' l' hk
      induction hk with
      | nil =>
        intro w0
        refine wpAny_handleBy_nil ?_
        obtain ⟨_, _, _, ob, ws, T, oT, ts', ea, hz, ed, e1, er⟩ := id fly3
        unfold PySem.passOn
        refine wpAny_bind (wpAny_field ea ed e1 ?_)
        rw [if_neg (show ¬ ((Value.ref T == Value.none) = true) by simp)]
        have leave : wpAny (model X.prog X.w) X.A (setFlight (.ref p) X.env.frame) (fun _ t4 => wpAny (model X.prog X.w) X.A (throw (.ref p) : Sem Flow) (SP X pins D) X.xe t4) X.xe { t with heap := g3 } := by
          rw [hfm]
          refine HandSPX.setFlight_upZ fly3 fun g4 fly4 ups4 => wpAny_throw (tk _ _ ?_)
          exact ⟨p, Bh, tI, pins, τ', G', k, od, rfl, J, nb, (up.trans ups3).trans ups4, .inr (.inr (by rw [hst]; exact fly4)), np, os, bare, w0⟩
        first
          | exact wpAny_bind (wpAny_pure (wpAny_bind leave))
          | exact wpAny_bind leave
      | @cons x n c i ts st sts npp hpp hs2 l2 hi hn hc ok more ih =>
        intro w0
        obtain ⟨y, ey, wyes, wno⟩ := w0
        refine wpAny_handleBy_cons (codeAny_handlers_test ?_) (fun q => by cases q)
        have lookT : PySem.W.Looks (model X.prog X.w) g3 (typeOf (.ref p)) k := fun A Q E s' kk q => wpAny_typeOf_ref (kk _ _ at3) (by rw [zc3.1]; exact q)
        have lookM := PySem.W.exm_one (M := model X.prog X.w) J3.kIn lookT ey
        have ask : ∀ {Q E : Value → Shared → Prop}, Q c { t with heap := g3 } → wpAny (model X.prog X.w) (X.A.mark (some (.ref p))) (eval (.Name x npp) X.env) Q E { t with heap := g3 } := fun {Q E} q => by
          obtain ⟨hg, hdb, hm | ⟨hm, hv, hnn⟩⟩ := hc
          · exact ld_glob (X := X.suite p ((p, ob3) :: (X.pn ++ pins))) Su3 hg hm q hdb
          · exact ld_blt (X := X.suite p ((p, ob3) :: (X.pn ++ pins))) Su3 hg hm hv q hnn hdb
        refine ask (lookM.here ?_)
        cases y with
        | false =>
          show wpAny _ X.A (handleBy (.ref p) X.env hs2) _ _ _
          exact ih (wno rfl)
        | true =>
          refine codeAny_handlers_suite_as ?_
          refine HandSPX.lands_againZ fly3 fun g4 fly4 ups4 => ?_
          have J4 : Inv X pins τ' G' { t with heap := g4 } := J.landed nb fly4.1 ((up.trans ups3).trans ups4) os bare
          obtain ⟨ob4, ws4, at4, zc4, da4⟩ := fly4.there
          have Su4 := J4.suite at4 da4 np nLoc nFs
          refine store_ok (X := X.suite p ((p, ob4) :: (X.pn ++ pins))) (v := .ref p) Su4 hN hi (.inl hn) rfl (fun t5 Su5 => ?_) (.inr hn)
          refine wpAny_mono ((ok p ob4 k od (X.pn ++ pins) zc4 ⟨_, da4⟩).run [] t5 _ G' _ Su5 (wyes rfl p np)) (fun fl t6 done => ?_) (fun _ _ z => z.elim)
          have gone : ∀ {τ6 : L2.St} {G6 : Hp} {Q : Shared → Prop}, Inv (X.suite p ((p, ob4) :: (X.pn ++ pins))) [] τ6 G6 t6 → (∀ t7, Inv X pins (τ6.set i none) G6 t7 → Q t7) →
              wpAny (model X.prog X.w) X.A (do bindName X.env n .none; unbindBehindTheSuite X.env n hpp) (fun _ t7 => Q t7) X.xe t6 := fun {τ6 G6 Q} Su6 hq => gone_ok (Su6.unsuite okX) hN hi hn hq
          cases fl with
          | next =>
            obtain ⟨τ6, G6, Su6, q6⟩ := done
            exact gone Su6 fun t7 J7 => ⟨_, _, J7, q6⟩
          | brk =>
            obtain ⟨τ6, G6, Su6, q6⟩ := done
            exact gone Su6 fun t7 J7 => ⟨_, _, J7, q6⟩
          | cont =>
            obtain ⟨τ6, G6, Su6, q6⟩ := done
            exact gone Su6 fun t7 J7 => ⟨_, _, J7, q6⟩
          | ret u =>
            obtain ⟨v6, τ6, G6, Su6, r6, q6⟩ := done
            exact gone Su6 fun t7 J7 => ⟨_, _, _, J7, r6, q6⟩
    exact each hcl ww
  · cases fl with
    | next =>
      obtain ⟨τ', G', J', q⟩ := done
      exact wpAny_execs_nil ⟨τ', G', J'.ofTry okX, q⟩
    | brk =>
      obtain ⟨τ', G', J', q⟩ := done
      exact ⟨τ', G', J'.ofTry okX, q⟩
    | cont =>
      obtain ⟨τ', G', J', q⟩ := done
      exact ⟨τ', G', J'.ofTry okX, q⟩
    | ret u =>
      obtain ⟨v, τ', G', J', r, q⟩ := done
      exact ⟨v, τ', G', J'.ofTry okX, r, q⟩
end

/-! ### the same, over TmCore -/
section
variable {K K' : Kp} {r : List Addr} {H : Hp}
mutual
theorem Rep.re : ∀ {d : D} {v : V}, Rep K r H d v → Rep K' r H d v
  | .non, v, q => by simpa [Rep] using q
  | .bl _, v, q => by simpa [Rep] using q
  | .int _, v, q => by simpa [Rep] using q
  | .str _, v, q => by simpa [Rep] using q
  | .ref n, v, q => by simpa only [Rep] using q
  | .tup ds, v, q => by
    simp only [Rep] at q ⊢
    obtain ⟨a, vs, q1, q2, q3⟩ := q
    exact ⟨a, vs, q1, q2, Reps.re q3⟩
theorem Reps.re : ∀ {ds : List D} {vs : List V}, Reps K r H ds vs → Reps K' r H ds vs
  | [], vs, q => by simpa [Reps] using q
  | d :: ds, vs, q => by
    simp only [Reps] at q ⊢
    obtain ⟨v, ws, q1, q2, q3⟩ := q
    exact ⟨v, ws, q1, Rep.re q2, Reps.re q3⟩
end
theorem KRep.re {κ : Type} {f : D → Option κ} : ∀ {l : List (D × D)} {ks : List (κ × V)}, KRep K r H f l ks → KRep K' r H f l ks
  | [], ks, q => q
  | p :: l, ks, q => by
    obtain ⟨k, v, ws, e, e1, q1, q2⟩ := q
    exact ⟨k, v, ws, e, e1, q1.re, KRep.re q2⟩
theorem ORep.re (hK : K.cl = K'.cl) {a : Addr} {o : O} (q : ORep K r H a o) : ORep K' r H a o := by
  cases o with
  | lst ds => obtain ⟨vs, q1, q2⟩ := q; exact ⟨vs, q1, q2.re⟩
  | frz ds => obtain ⟨vs, ob, q1, q2⟩ := q; exact ⟨vs, ob, q1, q2.re⟩
  | dct t kvs =>
    rcases q with ⟨z, ks, q1, q2⟩ | ⟨z, ks, q1, q2⟩
    · exact .inl ⟨z, ks, q1, q2.re⟩
    · exact .inr ⟨z, ks, q1, q2.re⟩
  | _ => exact q.elim
theorem HRep.re {h : Hh} (q : HRep K r h H) (hK : K.cl = K'.cl := by rfl) : HRep K' r h H := ⟨q.len, q.nd, fun i o a e1 e2 => (q.at_ i o a e1 e2).re hK⟩
theorem Ext.re {r' : List Addr} {H' : Hp} (x : Ext K r H r' H') : Ext K' r H r' H' := ⟨x.pre, x.tups, x.rest⟩
theorem ERep.topin {e : Env} {σ : L2.St} (hp : K.pin = none) {i : Nat} {p : Addr} (q : ERep K r H e σ) (hK : K'.pin = some p) : ERep K' r H (e.set i .pin) (σ.set i (some (.ref p))) := by
  refine ⟨by simp [q.len], fun j d e1 => ?_, fun j e1 => ?_⟩
  · by_cases hj : i = j
    · subst hj
      have hl : i < e.length := by simpa using (List.getElem?_eq_some_iff.mp e1).1
      rw [List.getElem?_set_self hl] at e1
      cases e1
    · rw [List.getElem?_set_ne hj] at e1 ⊢
      obtain ⟨v, e2, e3⟩ := q.at_ j d e1
      exact ⟨v, e2, e3.re⟩
  · by_cases hj : i = j
    · subst hj
      have hl : i < e.length := by simpa using (List.getElem?_eq_some_iff.mp e1).1
      exact ⟨p, hK, List.getElem?_set_self (by rw [← q.len]; exact hl)⟩
    · rw [List.getElem?_set_ne hj] at e1
      obtain ⟨a, z, _⟩ := q.pin j e1
      rw [hp] at z
      cases z
theorem ERep.unpin {e : Env} {σ : L2.St} {i : Nat} (q : ERep K r H e σ) : ERep K' r H (unpinE i e) (σ.set i none) := by
  unfold unpinE
  refine ⟨by simp [q.len], fun j d e1 => ?_, fun j e1 => ?_⟩
  · by_cases hj : i = j
    · subst hj
      have hl : i < e.length := by simpa using (List.getElem?_eq_some_iff.mp e1).1
      rw [List.getElem?_set_self (by simpa using hl)] at e1
      cases e1
    · rw [List.getElem?_set_ne hj, List.getElem?_map] at e1
      rw [List.getElem?_set_ne hj]
      cases ej : e[j]? with
      | none => rw [ej] at e1; cases e1
      | some x =>
        rw [ej] at e1
        cases x with
        | val d' =>
          cases e1
          obtain ⟨v, e2, e3⟩ := q.at_ j d ej
          exact ⟨v, e2, e3.re⟩
        | no => cases e1
        | pin => cases e1
  · by_cases hj : i = j
    · subst hj
      have hl : i < e.length := by simpa using (List.getElem?_eq_some_iff.mp e1).1
      rw [List.getElem?_set_self (by simpa using hl)] at e1
      cases e1
    · rw [List.getElem?_set_ne hj, List.getElem?_map] at e1
      cases ej : e[j]? with
      | none => rw [ej] at e1; cases e1
      | some x => rw [ej] at e1; cases x <;> cases e1
end
/-- a clause's suite is sound -/
def SuOk (X : Cx) (cl : Nat → Addr) (cs : List Nat) (body : List Stmt) (s : Exn → S) : Prop :=
  ∀ (xc : Exn) (p : Addr) (ob : Obj) (pn : List (Addr × Obj)), xc.cls ∈ cs → Zc (.ref (cl xc.cls)) none ob → (∃ vs, ob.data = .fields vs) → xc.fs = [] → RSs (X.suite p ((p, ob) :: pn)) cl (fun _ _ _ _ => False) body (s xc)
inductive HdOk (X : Cx) (cl : Nat → Addr) (sub : Nat → Nat → Bool) (cs : List Nat) : List ExceptHandler → List (Nat × Nat × (Exn → S)) → Prop
  | nil : HdOk X cl sub cs [] []
  | cons {x n : Str} {k i : Nat} {s : Exn → S} {st : Stmt} {sts : List Stmt} {np hp : Pos} {hs : List ExceptHandler} {l : List (Nat × Nat × (Exn → S))} (hi : X.N[i]? = some n) (hn : X.env.kindOf n = some .local) (hc : Names X x (.ref (cl k)))
      (hsub : ∀ c ∈ cs, PySem.W.exmOne X.K (.ref (cl c)) (.ref (cl k)) = some (sub c k)) (ok : SuOk X cl cs (st :: sts) s) (more : HdOk X cl sub cs hs l) :
      HdOk X cl sub cs (.ExceptHandler (some (.Name x np)) (some n) (st :: sts) hp :: hs) ((k, i, s) :: l)
section
variable {X : Cx} {cl : Nat → Addr} {W : WX} {sub : Nat → Nat → Bool} {cs : List Nat}
def suT (X : Cx) (cl : Nat → Addr) (cs : List Nat) (s : Exn → S) : Addr → Value → Option Addr → TS := fun p k od D τ G => ∃ xc : Exn, k = .ref (cl xc.cls) ∧ xc.cls ∈ cs ∧ XRep G xc od ∧ tmS ⟨X.K, some p, cl⟩ (fun _ _ _ _ => False) (s xc) D τ G
def hdT (X : Cx) (cl : Nat → Addr) (cs : List Nat) (l : List (Nat × Nat × (Exn → S))) : List HdT := l.map fun x => (.ref (cl x.1), x.2.1, suT X cl cs x.2.2)
theorem HdOk.clauses {hs : List ExceptHandler} {l : List (Nat × Nat × (Exn → S))} (h : HdOk X cl sub cs hs l) : Clauses X hs (hdT X cl cs l) := by
  induction h with
  | nil => exact .nil
  | cons hi hn hc hsub ok more ih =>
    refine .cons hi hn hc (fun p ob k od pn hz hd => ⟨fun pins s τ G D inv w => ?_⟩) ih
    obtain ⟨xc, rfl, hcs, hx, w⟩ := w
    have ho := hx.2
    subst ho
    exact (ok xc p ob pn hcs hz hd hx.1).pss.run pins s τ G D inv w
theorem clauses_core {D : Ends} {r : List Addr} {h : Hh} {H : Hp} {e : Env} {σ : L2.St} {c : Exn} {od : Option Addr} {r0 : List Addr} {H0 : Hp} (hc : X.calm = true) (x0 : Ext (kp X cl) r0 H0 r H) (hr : HRep (kp X cl) r h H) (hx : XRep H c od) (er : ERep (kp X cl) r H e σ) (hcs : c.cls ∈ cs) :
    ∀ {hs : List ExceptHandler} {l : List (Nat × Nat × (Exn → S))}, HdOk X cl sub cs hs l →
      RS.wp (kp X cl) W r0 H0 D (match caught sub c.cls l with | some (i, s) => (s c (e.set i .pin) h).unpin i | none => .exc c e h) → wClauses X.K W D (hdT X cl cs l) (.ref (cl c.cls)) od σ H := by
  intro hs l ok
  induction ok with
  | nil =>
    intro w
    exact w r H od x0 hr hx σ er
  | @cons x n k i s st sts np hp hs l hi hn hcn hsub ok more ih =>
    intro w
    refine ⟨sub c.cls k, hsub _ hcs, fun hy p hp => ?_, fun hy => ?_⟩
    · unfold caught at w
      rw [if_pos hy] at w
      refine ⟨c, rfl, hcs, hx, r, e.set i .pin, h, hr.re, er.topin (by rw [kp_calm hc]) rfl, ?_⟩
      simp only at w
      have go : ∀ {e' : Env} {h' : Hh} {Z : L2.St → Hp → Prop}, (∀ r' H', Ext (kp X cl) r0 H0 r' H' → HRep (kp X cl) r' h' H' → ∀ σ', ERep (kp X cl) r' H' (unpinE i e') σ' → Z σ' H') →
          ∀ r' H', Ext ⟨X.K, some p, cl⟩ r H r' H' → HRep ⟨X.K, some p, cl⟩ r' h' H' → ∀ σ', ERep ⟨X.K, some p, cl⟩ r' H' e' σ' → Z (σ'.set i none) H' :=
        fun w r' H' x' q σ' er' => w r' H' (x0.trans x'.re) q.re _ er'.unpin
      show RS.wp ⟨X.K, some p, cl⟩ (fun _ _ _ _ => False) r H (endsAs i D) (s c (e.set i .pin) h)
      cases hm : s c (e.set i .pin) h with
      | nx e' h' => rw [hm] at w; exact go w
      | bk e' h' => rw [hm] at w; exact go w
      | ct e' h' => rw [hm] at w; exact go w
      | rt d h' => rw [hm] at w; exact fun r' H' x' q v qv => w r' H' (x0.trans x'.re) (q.re rfl) v qv.re
      | exc c' e' h' => rw [hm] at w; exact w.elim
      | bad => rw [hm] at w; exact w.elim
    · unfold caught at w
      rw [if_neg (by rw [hy]; exact Bool.false_ne_true)] at w
      exact ih w
theorem kp_tr {pn : List (Addr × Obj)} {ex : Value → Shared → Prop} (hc : X.calm = true) : kp (X.tr pn ex) cl = kp X cl := by
  unfold kp pinOf
  rw [if_pos hc, if_pos (show (X.tr pn ex).calm = true from hc)]
theorem rs_try {body : List Stmt} {hd1 : ExceptHandler} {hds : List ExceptHandler} {b : S} {l : List (Nat × Nat × (Exn → S))} {pos : Pos} (hc : X.calm = true) (hst : X.stack = X.env :: X.outer) (hfm : X.env.frame = some X.env.locals) (hN : X.N.Nodup) (tk : Takes X W)
    (hb : ∀ (W' : WX) (pn : List (Addr × Obj)) (ex : Value → Shared → Prop), Takes (X.tr pn ex) W' → PassesOwn (model X.prog X.w) X.A X.env ex → RSs (X.tr pn ex) cl W' body b)
    (hh : HdOk X cl sub cs (hd1 :: hds) l) : RS1 X cl W (.Try body (hd1 :: hds) [] [] pos) (sTry sub cs b l) := by
  refine ⟨ps_mono (ps_clauses (tb := fun W' => tmS (kp X cl) W' b) hst hfm hN tk (fun W' pn ex tk' po => kp_tr (cl := cl) (pn := pn) (ex := ex) hc ▸ (hb W' pn ex tk' po).pss) hh.clauses) ?_⟩
  rintro D σ H ⟨r, e, h, hr, er, w⟩
  refine ⟨r, e, h, hr, er, ?_⟩
  unfold sTry at w
  cases hm : b e h with
  | nx e' h' => rw [hm] at w; exact w
  | rt d h' => rw [hm] at w; exact w
  | bk e' h' => rw [hm] at w; exact w
  | ct e' h' => rw [hm] at w; exact w
  | bad => rw [hm] at w; exact w
  | exc c e' h' =>
    rw [hm] at w
    simp only at w
    intro r' H' od x' q hx σ' er'
    by_cases hcs : c.cls ∈ cs
    · rw [if_pos hcs] at w
      exact clauses_core hc x' q hx er' hcs hh w
    · rw [if_neg hcs] at w
      exact w.elim
end

/-! ### isinstance(e, C), isinstance(e, (C, ..)) in a clause -/
structure RC (X : Cx) (e : Expr) (v : V) (u : Value) : Prop where
  pe : PE X e (tC v)
  cv : ClsV v u
theorem rc_own {X : Cx} {x : Str} {C : Addr} {pos : Pos} (hm : X.mg x = some (.ref C)) (hg : Gl X x := by rfl) (hd : (x == ("__debug__" : Str)) = false := by decide) : RC X (.Name x pos) (.ref C) (.ref C) := ⟨pe_glob hg hm rfl hd, .own C⟩
theorem rc_ty {X : Cx} {x : Str} {T : String} {pos : Pos} (hm : X.mg x = none) (hv : bootBuiltins x = some (.type T)) (hg : Gl X x := by rfl) (hn : x ≠ "__name__" := by decide) (hd : (x == ("__debug__" : Str)) = false := by decide) : RC X (.Name x pos) (.ty T) (.type T) := ⟨pe_bltn hg hm hv rfl hn hd, .ty T⟩
structure RCs (X : Cx) (es : List Expr) (vs : List V) (us : List Value) : Prop where
  pa : PA X es fun _ H Q => Q vs H
  cv : Paired ClsV vs us
theorem rcs_nil {X : Cx} : RCs X [] [] [] := ⟨pa_mono pa_nil fun _ _ _ w => w, .nil⟩
theorem rcs_cons {X : Cx} {e : Expr} {es : List Expr} {v : V} {u : Value} {vs : List V} {us : List Value} (h : RC X e v u) (t : RCs X es vs us) (hs : starEach (e :: es) X.env = (false, eval e X.env) :: starEach es X.env := by rfl) : RCs X (e :: es) (v :: vs) (u :: us) := ⟨pa_mono (pa_cons h.pe t.pa hs) fun _ _ _ w => w, .cons h.cv t.cv⟩
section
variable {X : Cx} {cl : Nat → Addr} {a : Addr} {oe : Obj} {pn : List (Addr × Obj)}
theorem call_isET {D : Addr} (C : ExcC X.K D) (hz : Zc (.ref D) none oe) (hf : ∃ vs, oe.data = .fields vs) :
    CallR (X.suite a ((a, oe) :: pn)) (.builtin "isinstance") (fun xs H Q => ∃ tp vs us b, xs = [.ref a, .ref tp] ∧ H tp = some (.tup vs) ∧ Paired ClsV vs us ∧ PySem.W.kitAny X.K (.ref D) us = some b ∧ Q (.bl b) H) := by
  intro pins s σ H xs us Q I r h
  obtain ⟨tp, vs, ws, b, rfl, hT, k, e, q⟩ := h
  obtain ⟨u1, u2, rfl, r1, r2⟩ := vals2 r
  cases (show u1 = Value.ref a from r1)
  cases (show u2 = Value.ref tp from r2)
  obtain ⟨hget, _⟩ := I.pin (a, oe) (List.mem_append_left _ List.mem_cons_self)
  obtain ⟨fs, hv⟩ := hf
  have J : PySem.W.InstAt s.heap a oe D none := by
    obtain ⟨oc, od, oda, osl⟩ := oe
    obtain ⟨h1, h2⟩ := hz
    dsimp only at h1 h2 hv
    subst h1 h2 hv
    exact ⟨hget, rfl, rfl, trivial⟩
  obtain ⟨_, its, rv, o, h1, h2, n, h3⟩ := (show ObjOk X.prog X.w H s.heap tp (.tup vs) from I.hok tp _ hT)
  have e3 := ClsV.all k rv
  subst e3
  obtain ⟨oc, od, dt, sl⟩ := o
  simp only at h2 h3
  subst h2 h3
  exact PySem.W.kia_tup (PySem.W.handS_kitx_exc C.hg C.hk C.hs C.hd C.ha C.hn C.ht C.hm) I.kIn J h1 e (fun z => nomatch z) fun tk => ⟨.bl b, H, I.kept (t' := tk) fun _ _ z => z, rfl, q⟩
variable {sub : Nat → Nat → Bool} {i : Nat} {xc : Exn}
theorem re_isE {k : Nat} {n : Str} {c : Expr} {v : V} {u : Value} {p p1 pos : Pos} (C : ExcC X.K (cl xc.cls)) (hz : Zc (.ref (cl xc.cls)) none oe) (hf : ∃ vs, oe.data = .fields vs) (rc : RC (X.suite a ((a, oe) :: pn)) c v u) (hk : PySem.W.kitOne X.K (.ref (cl xc.cls)) u = some (sub xc.cls k))
    (hm : X.mg "isinstance" = none) (hN : X.N[i]? = some n := by rfl) (hvis : Vis X.env.scope n := by first | exact Or.inl rfl | exact Or.inr (Or.inl rfl) | exact Or.inr (Or.inr rfl)) (hd : (n == ("__debug__" : Str)) = false := by decide) (hcd : (n == ("__classdict__" : Str)) = false := by decide)
    (hg : Gl X "isinstance" := by rfl) (he : starEach [.Name n p1, c] X.env = (false, eval (.Name n p1) X.env) :: starEach [c] X.env := by rfl) (he2 : starEach [c] X.env = (false, eval c X.env) :: starEach [] X.env := by rfl) (hpl : (backTo pos (starEach [c] X.env)).any (·.1) = false := by rfl) :
    RE (X.suite a ((a, oe) :: pn)) cl (fun _ _ _ _ => False) (.Call (.Name "isinstance" p) [.Name n p1, c] [] pos) (eIsE sub i xc [k]) := by
  refine ⟨pe_mono (pe_callB (X := X.suite a ((a, oe) :: pn)) (call_isE C hz hf) hg hm (by decide +kernel) (pa_cons (pe_var (X := X.suite a ((a, oe) :: pn)) (i := i) hN hvis hd hcd) (pa_cons rc.pe pa_nil he2) he) (by decide) (by decide) he hpl) fun σ H Q w => ?_⟩
  obtain ⟨r, e, h, hr, er, w⟩ := w
  unfold eIsE at w
  split at w
  · rename_i e1
    obtain ⟨a', z, e2⟩ := er.pin i e1
    cases z
    refine ⟨_, e2, v, u, sub xc.cls k, rfl, fun u' ru => rc.cv.eq ru, hk, ?_⟩
    have w := w r H Ext.refl hr (.bl (sub xc.cls k))
    exact w (by simp [Rep])
  · exact w.elim
theorem re_isEs {ks : List Nat} {n : Str} {cs : List Expr} {vs : List V} {us : List Value} {p p1 p2 pos : Pos} {kk : Nat} (C : ExcC X.K (cl xc.cls)) (hz : Zc (.ref (cl xc.cls)) none oe) (hf : ∃ vs, oe.data = .fields vs) (rc : RCs (X.suite a ((a, oe) :: pn)) cs vs us) (hk : PySem.W.kitAny X.K (.ref (cl xc.cls)) us = some (ks.any (sub xc.cls)))
    (hm : X.mg "isinstance" = none) (hlen : vs.length ≤ 1000 := by exact Nat.le_of_ble_eq_true rfl) (hN : X.N[i]? = some n := by rfl) (hvis : Vis X.env.scope n := by first | exact Or.inl rfl | exact Or.inr (Or.inl rfl) | exact Or.inr (Or.inr rfl)) (hd : (n == ("__debug__" : Str)) = false := by decide) (hcd : (n == ("__classdict__" : Str)) = false := by decide)
    (hg : Gl X "isinstance" := by rfl) (he : starEach [.Name n p1, .Tuple cs kk p2] X.env = (false, eval (.Name n p1) X.env) :: starEach [.Tuple cs kk p2] X.env := by rfl) (he2 : starEach [.Tuple cs kk p2] X.env = (false, eval (.Tuple cs kk p2) X.env) :: starEach [] X.env := by rfl) (hpl : (backTo pos (starEach [.Tuple cs kk p2] X.env)).any (·.1) = false := by rfl) :
    RE (X.suite a ((a, oe) :: pn)) cl (fun _ _ _ _ => False) (.Call (.Name "isinstance" p) [.Name n p1, .Tuple cs kk p2] [] pos) (eIsE sub i xc ks) := by
  refine ⟨pe_mono (pe_callB (X := X.suite a ((a, oe) :: pn)) (call_isET C hz hf) hg hm (by decide +kernel) (pa_cons (pe_var (X := X.suite a ((a, oe) :: pn)) (i := i) hN hvis hd hcd) (pa_cons (pe_tup rc.pa) pa_nil he2) he) (by decide) (by decide) he hpl) fun σ H Q w => ?_⟩
  obtain ⟨r, e, h, hr, er, w⟩ := w
  unfold eIsE at w
  split at w
  · rename_i e1
    obtain ⟨a', z, e2⟩ := er.pin i e1
    cases z
    refine ⟨_, e2, by rw [sizeLine_eq]; omega, fun tp htp => ⟨tp, vs, us, ks.any (sub xc.cls), rfl, upd_same, rc.cv, hk, ?_⟩⟩
    exact w r _ (Ext.tup htp) (hr.tup htp) (.bl (ks.any (sub xc.cls))) (by simp [Rep])
  · exact w.elim
end

/-! ### in, not in -/
section
variable {X : Cx} {cl : Nat → Addr} {W : WX}
theorem op_inDct (hu : X.A.units + 1 < cLine) : OpR X (compareOp .In) (fun x y H Q => ∃ a o, y = .ref a ∧ DGet H a x o ∧ Q (.bl o.isSome) H) := by
  intro pins s σ H x y v u Q I rx ry h
  obtain ⟨a, o, rfl, g, q⟩ := h
  cases ry
  exact d_in hu I g rx fun s' I' => ⟨.bl o.isSome, H, I', rfl, q⟩
theorem op_notInDct (hu : X.A.units + 1 < cLine) : OpR X (compareOp .NotIn) (fun x y H Q => ∃ a o, y = .ref a ∧ DGet H a x o ∧ Q (.bl (!o.isSome)) H) := by
  intro pins s σ H x y v u Q I rx ry h
  obtain ⟨a, o, rfl, g, q⟩ := h
  cases ry
  exact d_notIn hu I g rx fun s' I' => ⟨.bl (!o.isSome), H, I', rfl, q⟩
theorem flat_key {K : Kp} {r : List Addr} {H : Hp} {x : D} {v : V} (q : Rep K r H x v) (hk : (keyOf x).isSome = true) : flatV v = true := by
  obtain ⟨k, e⟩ := Option.isSome_iff_exists.mp hk
  rw [keyOf_V e q]
  cases k <;> rfl
theorem eqV_key {K : Kp} {r : List Addr} {H : Hp} {x y : D} {v w : V} (q : Rep K r H x v) (q' : Rep K r H y w) (hk : (keyOf x).isSome = true) (hk' : (keyOf y).isSome = true) : eqV v w = decide (x = y) := by
  cases x with
  | int a =>
    cases y with
    | int b =>
      rw [q.int_, q'.int_]
      show (a == b) = decide (D.int a = D.int b)
      by_cases hab : a = b
      · subst hab; simp
      · simp [hab]
    | str b => rw [q.int_, q'.str_]; simp [eqV]
    | _ => cases hk'
  | str a =>
    cases y with
    | str b =>
      rw [q.str_, q'.str_]
      show (a == b) = decide (D.str a = D.str b)
      by_cases hab : a = b
      · subst hab; simp
      · simp [hab]
    | int b => rw [q.str_, q'.int_]; simp [eqV]
    | _ => cases hk'
  | _ => cases hk
theorem inV_keys {K : Kp} {r : List Addr} {H : Hp} {x : D} {v : V} (q : Rep K r H x v) (hk : (keyOf x).isSome = true) : ∀ {xs : List D} {vs : List V}, Reps K r H xs vs → (keysL xs).isSome = true → vs.all flatV = true ∧ inV v vs = xs.any fun y => decide (y = x)
  | [], vs, q1, _ => by rw [q1.of_nil]; exact ⟨rfl, rfl⟩
  | y :: xs, vs, q1, h => by
    obtain ⟨w, ws, rfl, q2, q3⟩ := q1.of_cons
    unfold keysL at h
    split at h
    · rename_i a as e1 e2
      have hy : (keyOf y).isSome = true := by rw [e1]; rfl
      obtain ⟨z1, z2⟩ := inV_keys q hk q3 (by rw [e2]; rfl)
      refine ⟨by rw [List.all_cons, flat_key q2 hy, z1]; rfl, ?_⟩
      show (eqV w v || inV v ws) = _
      rw [List.any_cons, eqV_key q2 q hy hk, z2]
    · cases h
theorem in_core {neg : Bool} {K : Kp} {x y : V} {H : Hp} {Q : VK} {d1 d2 : D} {r : List Addr} {h : Hh} (hr : HRep K r h H) (q1 : Rep K r H d1 x) (q2 : Rep K r H d2 y) (w : ((opIn d1 d2 h).bind fun z h1 => match z with | .bl b => .ok (.bl (if neg then !b else b)) h1 | _ => .bad).wp (Pst K r H fun d _ r' H' => ∀ v, Rep K r' H' d v → Q v H') fun _ _ => False) :
    (∃ a o, y = .ref a ∧ DGet H a x o ∧ Q (.bl (if neg then !o.isSome else o.isSome)) H) ∨ (∃ d ds, Dp K.K H x d ∧ Dp K.K H y (.list ds) ∧ SeqAt.shaped d = true ∧ SeqAt.shaped (.list ds) = true ∧ Q (.bl (if neg then !(ds.any fun z => PyData.eqv z d) else ds.any fun z => PyData.eqv z d)) H) ∨ rIn K.K neg x y H Q := by
  unfold opIn at w
  split at w
  · obtain ⟨a, ea, rfl⟩ := q2.ref_
    split at w
    · rename_i t kvs e
      split at w
      · rename_i hf
        obtain ⟨o, g, z⟩ := dget_of (hr.at_ _ _ _ e ea) q1 hf
        refine .inl ⟨a, o, rfl, g, ?_⟩
        have ho : o.isSome = (look kvs d1).isSome := by
          split at z
          · rename_i d el
            obtain ⟨v, rfl, _⟩ := z
            rw [el]; rfl
          · rename_i el
            rw [z, el]; rfl
        rw [ho]
        exact fin hr Rep.bl w
      · exact w.elim
    · split at w
      · rename_i xs e
        split at w
        · rename_i pa pbs e1 e2
          obtain ⟨vs, s1, t1⟩ := hr.seq e ea
          exact .inr (.inl ⟨pa, pbs, dp_of hr _ _ _ _ q1 e1, .lst s1 (dp_all hr (dp_of hr deep) _ _ _ t1 e2), shaped_of e1, shaped_all e2, fin hr Rep.bl w⟩)
        · exact w.elim
      · exact w.elim
  · obtain ⟨a, vs, rfl, s1, t1⟩ := q2.tup_
    split at w
    · rename_i hk
      obtain ⟨z1, z2⟩ := inV_keys q1 hk.1 t1 hk.2
      refine .inr (.inr ⟨a, vs, rfl, .inr (SqT.of s1), flat_key q1 hk.1, z1, ?_⟩)
      rw [z2]
      have := fin hr (v := .bl (if neg then !_ else _)) Rep.bl w
      cases neg
      · exact this
      · exact this
    · exact w.elim
  · exact w.elim
theorem so_in (hu : X.A.units + 65 < cLine) : SOp X cl (compareOp .In) opIn := by
  refine op_mono ((op_inDct (by omega)).or ((op_inD hu).or op_in_seq)) ?_
  rintro x y H Q ⟨r, h, d1, d2, hr, q1, q2, w⟩
  refine in_core (neg := false) hr q1 q2 ?_
  cases hm : opIn d1 d2 h with
  | ok z h1 =>
    rw [hm] at w
    have hz : ∃ b, z = .bl b := by
      unfold opIn at hm
      repeat' split at hm
      all_goals first | (cases hm; exact ⟨_, rfl⟩) | cases hm
    obtain ⟨b, rfl⟩ := hz
    exact w
  | exc c h1 => rw [hm] at w; exact w
  | bad => rw [hm] at w; exact w
theorem so_notin (hu : X.A.units + 65 < cLine) : SOp X cl (compareOp .NotIn) opNotIn := by
  refine op_mono ((op_notInDct (by omega)).or ((op_notInD hu).or op_notIn_seq)) ?_
  rintro x y H Q ⟨r, h, d1, d2, hr, q1, q2, w⟩
  exact in_core (neg := true) hr q1 q2 w
/-! ### reversed(range(..)) -/
theorem ri_revrng1 {tg a : Expr} {m : E} {p p2 pos pos2 : Pos} (hm : X.mg "range" = none) (hm2 : X.mg "reversed" = none) (ha : RE X cl W a m) (hg : Gl X "range" := by rfl) (hg2 : Gl X "reversed" := by rfl) (hs : starEach [a] X.env = (false, eval a X.env) :: starEach [] X.env := by rfl)
    (hs2 : starEach [.Call (.Name "range" p) [a] [] pos] X.env = (false, eval (.Call (.Name "range" p) [a] [] pos) X.env) :: starEach [] X.env := by rfl) : RI X cl W tg (.Call (.Name "reversed" p2) [.Call (.Name "range" p) [a] [] pos] [] pos2) (iRevRng (aCons m aNil)) := by
  refine ⟨pi_mono (pi_revR hg2 hm2 (prg_1 hg hm ha.pe hs) hs2) ?_⟩
  rintro σ H RR ⟨r, e, h, hr, er, w⟩
  refine ⟨r, e, h, hr, er, wp_imp (wp_bind2 (k := fun x h1 => ((aNil e h1).bind fun xs h2 => .ok (x :: xs) h2).bind fun xs h1 => (rngOf xs h1).bind fun it h2 => match revRng it with | some it => .ok it h2 | none => .bad) (by
    have : ((iRevRng (aCons m aNil)) e h) = (m e h).bind fun x h1 => ((aNil e h1).bind fun xs h2 => .ok (x :: xs) h2).bind fun xs h1 => (rngOf xs h1).bind fun it h2 => match revRng it with | some it => .ok it h2 | none => .bad := by
      show (R.bind (R.bind (m e h) _) _) = _
      cases m e h <;> rfl
    rw [this] at w
    exact w)) fun d h1 r1 H1 x1 hr1 w1 v q => ?_⟩
  cases d with
  | int j =>
    by_cases hz : small j = true
    · have e1 : (rngOf [D.int j] h1) = .ok (.rng 0 1 j.toNat) h1 := if_pos hz
      have w2 : R.wp ((rngOf [D.int j] h1).bind fun it h2 => match revRng it with | some it => .ok it h2 | none => .bad) _ _ := w1
      rw [e1] at w2
      refine ⟨j, q.int_, by omega, by omega, (small_of hz).1, (small_of hz).2, ?_⟩
      have := w2 r1 H1 Ext.refl hr1 _ ok_rngC
      rw [Int.sub_zero]
      exact this
    · have e1 : (rngOf [D.int j] h1) = .bad := if_neg hz
      have w2 : R.wp ((rngOf [D.int j] h1).bind fun it h2 => match revRng it with | some it => .ok it h2 | none => .bad) _ _ := w1
      rw [e1] at w2
      exact w2.elim
  | _ => exact w1.elim
end

/-! ### for the printed walks -/
theorem u1 {k : Nat} {A : Around} (hr : Room k A) : A.units + 1 < cLine := by have := hr.units; omega
theorem u65 {k : Nat} {A : Around} (hr : Room k A) : A.units + 65 < cLine := by have := hr.un; omega
section
variable {X : Cx} {cl : Nat → Addr} {W : WX}
theorem re_globI {x : Str} {i : Int} {pos : Pos} (hm : ∃ t, X.mg x = some (.int i t)) (hg : Gl X x := by rfl) (hd : (x == ("__debug__" : Str)) = false := by decide) : RE X cl W (.Name x pos) (eC (.int i)) := by
  obtain ⟨t, hm⟩ := hm
  exact re_c (pe_glob hg hm (v := .int i) ⟨t, rfl⟩ hd) fun _ _ _ => Rep.int
theorem re_globS {x z : Str} {pos : Pos} (hm : ∃ t, X.mg x = some (.str z t)) (hg : Gl X x := by rfl) (hd : (x == ("__debug__" : Str)) = false := by decide) : RE X cl W (.Name x pos) (eC (.str z)) := by
  obtain ⟨t, hm⟩ := hm
  exact re_c (pe_glob hg hm (v := .str z) ⟨t, rfl⟩ hd) fun _ _ _ => Rep.str
end
def blkB (N : List Str) (sc scope : Scope) (own : List (Str × Nat)) : Bool :=
  (scope.kind == .function) && (scope.names.all fun y => scope.names.lookup y.1 == some y.2) && (own.all fun p => N[p.2]? == some p.1) &&
    (scope.names.all fun y => y.2 != .free || (sc.names.lookup y.1 == some .cell || sc.names.lookup y.1 == some .free)) &&
    (scope.names.all fun y => (y.2 != .local && y.2 != .cell) || ((own.map (·.1)).any (fun z => z == y.1) || !(N.any fun z => z == y.1)))
theorem blk_of {N : List Str} {sc scope : Scope} {own : List (Str × Nat)} (h : blkB N sc scope own = true) : BlkOk N sc scope own := by
  unfold blkB at h
  simp only [Bool.and_eq_true] at h
  obtain ⟨⟨⟨⟨h1, h2⟩, h3⟩, h4⟩, h5⟩ := h
  rw [List.all_eq_true] at h2 h3 h4 h5
  refine ⟨eq_of_beq h1, fun y hy => eq_of_beq (h2 y hy), fun p hp => eq_of_beq (h3 p hp), fun y hy e => ?_, fun y hy e => ?_⟩
  · have := h4 y hy
    simp only [e, Bool.or_eq_true] at this
    rcases this with z | z | z
    · cases z
    · exact .inl (eq_of_beq z)
    · exact .inr (eq_of_beq z)
  · have := h5 y hy
    simp only [Bool.or_eq_true, Bool.and_eq_true] at this
    rcases this with ⟨z1, z2⟩ | z | z
    · rcases e with e | e
      · rw [e] at z1; cases z1
      · rw [e] at z2; cases z2
    · obtain ⟨w, hw, ew⟩ := List.any_eq_true.mp z
      exact .inl (eq_of_beq ew ▸ hw)
    · refine .inr fun hm => ?_
      have : (N.any fun z => z == y.1) = true := List.any_eq_true.mpr ⟨y.1, hm, by simp⟩
      rw [this] at z
      cases z
/-- a class of errors -/
structure XC (K : PySem.W.Frag) (mg : Str → Option Value) (x : Str) (C : Addr) : Prop where
  g : mg x = some (.ref C)
  xi : PySem.W.excIn K C [.type "ValueError", .type "Exception", .type "BaseException", .type "object"] "ValueError.__new__" = true
  kp : PySem.W.keepIn K (.ref C) = true
  bs : PySem.W.subIn K (.ref C) (.type "BaseException") = some true
  ty : PySem.W.typeIn K (.ref C) = some (.type "type")
theorem kit_list {K : PySem.W.Frag} {cl : Nat → Addr} {sub : Nat → Nat → Bool} {cs : List Nat} {KU : List (Nat × Value)} (one : ∀ c ∈ cs, ∀ x ∈ KU, PySem.W.kitOne K (.ref (cl c)) x.2 = some (sub c x.1)) (l : List (Nat × Value)) (hl : ∀ x ∈ l, x ∈ KU) (c : Nat) (hc : c ∈ cs) :
    PySem.W.kitAny K (.ref (cl c)) (l.map (·.2)) = some ((l.map (·.1)).any (sub c)) := by
  induction l with
  | nil => rfl
  | cons x l ih =>
    have h1 := one c hc x (hl x List.mem_cons_self)
    have h2 := ih fun y hy => hl y (List.mem_cons_of_mem _ hy)
    show (match PySem.W.kitOne K (.ref (cl c)) x.2 with | some true => some true | some false => PySem.W.kitAny K (.ref (cl c)) (l.map (·.2)) | none => none) = some (sub c x.1 || (l.map (·.1)).any (sub c))
    rw [h1, h2]
    cases sub c x.1 <;> rfl
/-- the law's promise -/
theorem law_sp {K : PySem.W.Frag} {cl : Nat → Addr} {f : F} {a : Addr} {H : Hp} {ns : List Int} (nl : ∀ b o, K.lookup b = some o → o.cls ≠ .type "list") (hO : Only H) (hS : SqL K H a (ns.map V.int)) (h : ∃ h', f [.ref 0] [.frz (ns.map D.int)] = .ok (.bl true) h') :
    spF (kp0 K cl) 1 f [.ref a] H (fun v _ => v = .bl true) fun _ _ _ => False := by
  obtain ⟨h', e⟩ := h
  have hf : ∃ o, H a = some (.frz o (.lst (ns.map V.int))) := by
    rcases hS with (h1 | h1) | ⟨o, its, n, hk, hc, _⟩
    · rcases hO a with h2 | ⟨o, xs, h2⟩
      · rw [h1] at h2; cases h2
      · rw [h1] at h2; cases h2
    · exact h1
    · exact absurd hc (nl a o hk)
  obtain ⟨o, hf⟩ := hf
  refine ⟨rfl, [a], [.frz (ns.map D.int)], [.ref 0], ⟨rfl, by simp, fun i ob b e1 e2 => ?_⟩, Reps.cons (Rep.ref rfl) Reps.nil, ?_⟩
  · cases i with
    | zero =>
      cases e1
      cases e2
      exact ⟨_, o, hf, Reps.of_ints⟩
    | succ i => cases e2
  · rw [e]
    exact fun r' H' x q v qv => qv.bl_

/-! ### the end -/
theorem kone_ty {K : PySem.W.Frag} {C : Addr} {T : String} {b : Bool} (hm : PySem.W.kitMeta T = true) (h : PySem.W.subIn K (.ref C) (.type T) = some b) : PySem.W.kitOne K (.ref C) (.type T) = some b := by
  show (if (Value.ref C == Value.type T) = true then some true else if PySem.W.kitMeta T = true then PySem.W.subIn K (.ref C) (.type T) else none) = some b
  rw [if_neg (show ¬ (Value.ref C == Value.type T) = true by intro z; have y : Value.ref C = Value.type T := eq_of_beq z; cases y), if_pos hm]
  exact h
theorem kcls {K : PySem.W.Frag} {C D : Addr} {b : Bool} (hd : PySem.W.hasDictIn K D = true) (ty : PySem.W.typeIn K (.ref D) = some (.type "type")) (h : PySem.W.subIn K (.ref C) (.ref D) = some b) : PySem.W.kitCls K (.ref C) (.ref D) = some b := by
  obtain ⟨cd, hc, _⟩ := PySem.W.any_some hd
  have e2 : ((PySem.W.clsIn K D).isSome && PySem.W.typeIn K (.ref D) == some (.type "type")) = true := by rw [hc, ty] <;> rfl
  show (if ((PySem.W.clsIn K D).isSome && PySem.W.typeIn K (.ref D) == some (.type "type")) = true then PySem.W.subIn K (.ref C) (.ref D) else none) = some b
  rw [if_pos e2]
  exact h
theorem kone_up {K : PySem.W.Frag} {C D : Addr} (hd : PySem.W.hasDictIn K D = true) (ty : PySem.W.typeIn K (.ref D) = some (.type "type")) (h : PySem.W.subIn K (.ref C) (.ref D) = some true) : PySem.W.kitOne K (.ref C) (.ref D) = some true := by
  unfold PySem.W.kitOne
  split
  · rfl
  · exact kcls hd ty h
theorem kone_no {K : PySem.W.Frag} {C D : Addr} (hd : PySem.W.hasDictIn K D = true) (ty : PySem.W.typeIn K (.ref D) = some (.type "type")) (h : PySem.W.subIn K (.ref C) (.ref D) = some false) (e : (Value.ref C == Value.ref D) = false) : PySem.W.kitOne K (.ref C) (.ref D) = some false := by
  unfold PySem.W.kitOne
  rw [if_neg (by rw [e]; exact Bool.false_ne_true)]
  exact kcls hd ty h
def notList : Value → Bool
  | .type n => !(n == "list")
  | _ => true
theorem nolist_of {K : PySem.W.Frag} (h : (K.all fun p => notList p.2.cls) = true) : ∀ b o, K.lookup b = some o → o.cls ≠ .type "list" := by
  intro b o e z
  rw [List.all_eq_true] at h
  have hm : ∃ b', (b', o) ∈ K := by
    clear h
    induction K with
    | nil => cases e
    | cons p K ih =>
      obtain ⟨a, o'⟩ := p
      rw [List.lookup_cons] at e
      split at e
      · cases e; exact ⟨a, List.mem_cons_self⟩
      · obtain ⟨b', hb⟩ := ih e
        exact ⟨b', List.mem_cons_of_mem _ hb⟩
  obtain ⟨b', hm⟩ := hm
  have := h _ hm
  dsimp only at this
  rw [z] at this
  cases (show (!("list" == "list")) = true from this)
theorem walk_tm {l : PySem.W.OpenLaw} {q : Program} {loose : List Str} {XP : (Str → Option Value) → Heap → Prop} {YP : World → Heap → Prop} {d : DefRec} {K : Params → PySem.W.Frag} {k : Nat} {f : F} (hn : l.most = some 63) (hdf : d.params.defaults = []) (hr : Room k callerA)
    (hY : ∀ (w : World) (h : Heap), YP w h → (K w.params).In h) (nl : ∀ (w : World) (b : Addr) (o : Obj), (K w.params).lookup b = some o → o.cls ≠ .type "list")
    (F : ∀ (w : World) (mg : Str → Option Value) (fa : Addr) (h : Heap), (K w.params).In h → h.Ns mainGlobals mg → mg d.name = some (.ref fa) →
      ∃ cl : Nat → Addr, ∃ fd : FuncData, (∀ (s : Shared) (u : Value), BindsTo s fd ⟨[u], []⟩ [("script", u)]) ∧ ∀ base : Heap, (K w.params).In base → base.Ns mainGlobals mg → FnOk l.prog w (K w.params) mg base (L2.CX l.prog w) k fa fd ["script"] (spF (kp0 (K w.params) cl) 1 f))
    (hlaw : ∀ ns : List Int, ns.length ≤ 63 → ∃ h', f [.ref 0] [.frz (ns.map D.int)] = .ok (.bl true) h') :
    PySem.W.WalkO q loose XP YP l.row.toRowW d [] (fun f vs => PySem.call f vs) :=
  L2.walk_of (n := 63) (k := k) (x := "script") (CX := fun w => L2.CX l.prog w) (sp := fun w vs H Q E => ∀ cl, spF (kp0 (K w.params) cl) 1 f vs H Q E) hn (by decide) hdf hr hY
    (fun w mg fa h KX G hmg => by
      obtain ⟨cl, fd, h1, h2⟩ := F w mg fa h KX G hmg
      exact ⟨fd, h1, fun base kb gb => (h2 base kb gb).imp fun vs H Q E z => z cl⟩)
    (fun w H a ns hl hO hS cl => law_sp (nl w) hO hS (hlaw ns hl))
    (fun w H s e s' z => by obtain ⟨_, _, _, _, _, _, _, _, _, _, _, _, z⟩ := z; exact z.elim)
end TM
set_option Elab.async false
set_option linter.all false
set_option autoImplicit false
set_option maxRecDepth 10000
/-! running TmCore's meanings by simp; loops by invariants -/
namespace TM
open PySem
/-- a step that simp is not to take as a mere unfolding -/
theorem nrfl {α : Type} {a b : α} (h : a = b) : a = b := h
section
variable {e : Env} {h h1 : Hh} {α β : Type}
@[simp] theorem bind_ok (a : α) (k : α → Hh → R β) : (R.ok a h).bind k = k a h := nrfl rfl
@[simp] theorem bind_exc (c : Exn) (k : α → Hh → R β) : (R.exc c h : R α).bind k = .exc c h := nrfl rfl
@[simp] theorem bind_bad (k : α → Hh → R β) : (R.bad : R α).bind k = .bad := nrfl rfl
@[simp] theorem bindN_ok (a : α) (k : α → Hh → R β) : (R.ok a h).bindN k = k a h := nrfl rfl
@[simp] theorem noX_ok (a : α) : (R.ok a h).noX = .ok a h := nrfl rfl
@[simp] theorem go_ok (a : α) (k : α → Hh → RS) : (R.ok a h).go e k = k a h := nrfl rfl
@[simp] theorem go_exc (c : Exn) (k : α → Hh → RS) : (R.exc c h : R α).go e k = .exc c e h := nrfl rfl
@[simp] theorem then_nx (k : Env → Hh → RS) : (RS.nx e h).then k = k e h := nrfl rfl
@[simp] theorem then_rt (d : D) (k : Env → Hh → RS) : (RS.rt d h).then k = .rt d h := nrfl rfl
@[simp] theorem then_ct (k : Env → Hh → RS) : (RS.ct e h).then k = .ct e h := nrfl rfl
@[simp] theorem then_exc (c : Exn) (k : Env → Hh → RS) : (RS.exc c e h).then k = .exc c e h := nrfl rfl
@[simp] theorem eVar_a (i : Nat) : eVar i e h = match e[i]? with | some (.val d) => .ok d h | _ => .bad := nrfl rfl
@[simp] theorem eC_a (d : D) : eC d e h = .ok d h := nrfl rfl
@[simp] theorem eBin_a (op : D → D → Hh → R D) (a b : E) : eBin op a b e h = (a e h).bind fun x h1 => (b e h1).bind fun y h2 => (op x y h2).noX := nrfl rfl
@[simp] theorem eUn_a (op : D → Hh → R D) (a : E) : eUn op a e h = (a e h).bind fun x h1 => (op x h1).noX := nrfl rfl
/-- a truth as a value -/
def ifD {α : Type} (d : D) (A B : R α) : R α := match d with
  | .bl true => A
  | .bl false => B
  | _ => .bad
@[simp] theorem ifD_bl {α : Type} (b : Bool) (A B : R α) : ifD (.bl b) A B = if b = true then A else B := by cases b <;> simp [ifD]
@[simp] theorem eChain_a (op op' : D → D → Hh → R D) (a b c : E) : eChain op op' a b c e h = (a e h).bind fun x h1 => (b e h1).bind fun y h2 => (op x y h2).noX.bind fun z h3 => ifD z ((c e h3).bind fun u h4 => (op' y u h4).noX) (.ok (.bl false) h3) := nrfl rfl
@[simp] theorem ite_andD (c : Prop) [Decidable c] (b : Bool) : (if c then R.ok (D.bl b) h else R.ok (D.bl false) h) = R.ok (D.bl (decide c && b)) h := by
  by_cases hc : c <;> simp [hc]
@[simp] theorem ite_orD (c : Prop) [Decidable c] (b : Bool) : (if c then R.ok (D.bl true) h else R.ok (D.bl b) h) = R.ok (D.bl (decide c || b)) h := by
  by_cases hc : c <;> simp [hc]
@[simp] theorem aNil_a : aNil e h = .ok [] h := nrfl rfl
@[simp] theorem aCons_a (a : E) (r : As) : aCons a r e h = (a e h).bind fun x h1 => (r e h1).bind fun xs h2 => .ok (x :: xs) h2 := nrfl rfl
@[simp] theorem eTup_a (a : As) : eTup a e h = (a e h).bind fun xs h1 => .ok (.tup xs) h1 := nrfl rfl
@[simp] theorem eLst_a (a : As) : eLst a e h = (a e h).bind fun xs h1 => new (.lst xs) h1 := nrfl rfl
@[simp] theorem new_a (o : O) : new o h = .ok (.ref h.length) (h ++ [o]) := nrfl rfl
@[simp] theorem eCall_a (f : F) (a : As) : eCall f a e h = (a e h).bind fun xs h1 => f xs h1 := nrfl rfl
@[simp] theorem eBlt_a (f : F) (a : As) : eBlt f a e h = (a e h).bind fun xs h1 => (f xs h1).noX := nrfl rfl
@[simp] theorem eAnd_a (a b : E) : eAnd a b e h = (a e h).bind fun x h1 => ifD x (b e h1) (.ok (.bl false) h1) := nrfl rfl
@[simp] theorem eOr_a (a b : E) : eOr a b e h = (a e h).bind fun x h1 => ifD x (.ok (.bl true) h1) (b e h1) := nrfl rfl
@[simp] theorem eNot_a (a : E) : eNot a e h = (a e h).bind fun x h1 => match x with
  | .bl b => .ok (.bl (!b)) h1
  | _ => .bad := nrfl rfl
@[simp] theorem tE_a (a : E) : tE a e h = (a e h).bind fun x h1 => match x with
  | .bl b => .ok b h1
  | _ => .bad := nrfl rfl
@[simp] theorem tAnd_a (a b : T) : tAnd a b e h = (a e h).bind fun x h1 => if x = true then b e h1 else .ok false h1 := nrfl rfl
@[simp] theorem tOr_a (a b : T) : tOr a b e h = (a e h).bind fun x h1 => if x = true then .ok true h1 else b e h1 := nrfl rfl
@[simp] theorem tNot_a (a : T) : tNot a e h = (a e h).bind fun x h1 => .ok (!x) h1 := nrfl rfl
@[simp] theorem tYes_a : tYes e h = .ok true h := nrfl rfl
@[simp] theorem iLst_a (a : E) : iLst a e h = (a e h).bind fun x h1 => match x with
  | .ref r => if (seqAt h1 r).isSome = true then .ok (.lst r) h1 else .bad
  | _ => .bad := nrfl rfl
@[simp] theorem iRng_a (a : As) : iRng a e h = (a e h).bind rngOf := nrfl rfl
@[simp] theorem iRevRng_a (a : As) : iRevRng a e h = (a e h).bind fun xs h1 => (rngOf xs h1).bind fun it h2 => match revRng it with
  | some it => .ok it h2
  | none => .bad := nrfl rfl
@[simp] theorem iRev_a (a : E) : iRev a e h = (a e h).bind fun x h1 => match x with
  | .ref r => match seqAt h1 r with
    | some xs => .ok (.rev r xs.length) h1
    | none => .bad
  | _ => .bad := nrfl rfl
@[simp] theorem eComp_a (it : IE) (tg : Tg) (vs : List Nat) (tt : T) (a : E) : eComp it tg vs tt a e h = (it e h).bind fun j h1 => compN j tg tt a (wipeE e vs) fuel 0 [] h1 := nrfl rfl
@[simp] theorem sNil_a : sNil e h = .nx e h := nrfl rfl
@[simp] theorem sSeq_a (a b : S) : sSeq a b e h = (a e h).then b := nrfl rfl
@[simp] theorem sSet_a (t : Tg) (a : E) : sSet t a e h = (a e h).go e fun d h1 => match t.put d e with
  | some e1 => .nx e1 h1
  | none => .bad := nrfl rfl
@[simp] theorem sPar_a (i j : Nat) (as : As) : sPar i j as e h = (as e h).go e fun xs h1 => match xs with
  | [x, y] => .nx ((e.set i (.val x)).set j (.val y)) h1
  | _ => .bad := nrfl rfl
@[simp] theorem sAug_a (op : D → D → Hh → R D) (i : Nat) (a : E) : sAug op i a e h = match e[i]? with
  | some (.val x) => (a e h).go e fun y h1 => (op x y h1).noX.go e fun z h2 => .nx (e.set i (.val z)) h2
  | _ => .bad := nrfl rfl
@[simp] theorem sSub_a (op : D → D → D → Hh → R Unit) (o i v : E) : sSub op o i v e h = (v e h).go e fun x h1 => (o e h1).go e fun y h2 => (i e h2).go e fun z h3 => (op y z x h3).noX.go e fun _ h4 => .nx e h4 := nrfl rfl
@[simp] theorem sExpr_a (a : E) : sExpr a e h = (a e h).go e fun _ h1 => .nx e h1 := nrfl rfl
@[simp] theorem sRet_a (a : E) : sRet a e h = (a e h).go e fun d h1 => .rt d h1 := nrfl rfl
@[simp] theorem sRetN_a : sRetN e h = .rt .non h := nrfl rfl
@[simp] theorem sCont_a : sCont e h = .ct e h := nrfl rfl
@[simp] theorem sIf_a (t : T) (a b : S) : sIf t a b e h = (t e h).go e fun x h1 => if x = true then a e h1 else b e h1 := nrfl rfl
@[simp] theorem sWhile_a (t : T) (b : S) : sWhile t b e h = whileN t b fuel e h := nrfl rfl
@[simp] theorem sFor_a (it : IE) (tg : Tg) (b : S) : sFor it tg b e h = (it e h).go e fun j h1 => forN j tg b fuel 0 e h1 := nrfl rfl
@[simp] theorem sRaise_a (c : Nat) : sRaise c e h = .exc ⟨c, []⟩ e h := nrfl rfl
@[simp] theorem eMeth_a (ck : D → Hh → Bool) (m : D → List D → Hh → R D) (o : E) (as : As) : eMeth ck m o as e h = (o e h).bind fun x h1 => if ck x h1 = true then (as e h1).bind fun xs h2 => (m x xs h2).noX else .bad := nrfl rfl
@[simp] theorem eCut_a (a : E) (lo hi : Env → Hh → R (Option Int)) : eCut a lo hi e h = (a e h).bind fun x h1 => (lo e h1).bind fun l h2 => (hi e h2).bind fun u h3 => (opCut x l u h3).noX := nrfl rfl
@[simp] theorem pNone_a : pNone e h = .ok none h := nrfl rfl
@[simp] theorem pSome_a (a : E) : pSome a e h = (a e h).bind fun x h1 => match x with
  | .int i => .ok (some i) h1
  | _ => .bad := nrfl rfl
@[simp] theorem eDct0_a (t : Nat) : eDct0 t e h = new (.dct t []) h := nrfl rfl
@[simp] theorem eDct1_a (k v : E) : eDct1 k v e h = (k e h).bind fun x h1 => (v e h1).bind fun y h2 => if keyFit 0 x = true then new (.dct 0 [(x, y)]) h2 else .bad := nrfl rfl
@[simp] theorem put_one (i : Nat) (d : D) : (Tg.one i).put d e = some (e.set i (.val d)) := nrfl rfl
@[simp] theorem put_many (is : List Nat) (ds : List D) : (Tg.many is).put (.tup ds) e = setMany is ds e := nrfl rfl
@[simp] theorem setMany_nil : setMany [] [] e = some e := nrfl rfl
@[simp] theorem setMany_cons (i : Nat) (is : List Nat) (d : D) (ds : List D) : setMany (i :: is) (d :: ds) e = setMany is ds (e.set i (.val d)) := nrfl rfl
@[simp] theorem wipeE_nil : wipeE e [] = e := nrfl rfl
@[simp] theorem wipeE_cons (v : Nat) (vs : List Nat) : wipeE e (v :: vs) = (wipeE e vs).set v .no := nrfl rfl
/-! values -/
@[simp] theorem opAdd_i (i j : Int) : opAdd (.int i) (.int j) h = .ok (.int (i + j)) h := nrfl rfl
@[simp] theorem opAddI_i (i j : Int) : opAddI (.int i) (.int j) h = .ok (.int (i + j)) h := nrfl rfl
@[simp] theorem opSub_i (i j : Int) : opSub (.int i) (.int j) h = .ok (.int (i - j)) h := nrfl rfl
@[simp] theorem opMul_i (i j : Int) : opMul (.int i) (.int j) h = if facOk i = true ∨ facOk j = true then .ok (.int (i * j)) h else .bad := nrfl rfl
@[simp] theorem opDiv_i (i j : Int) : opDiv (.int i) (.int j) h = if 0 < j ∧ j < 1073741824 then .ok (.int (i / j)) h else .bad := nrfl rfl
@[simp] theorem opMod_i (i j : Int) : opMod (.int i) (.int j) h = if 0 < j then .ok (.int (i % j)) h else .bad := nrfl rfl
@[simp] theorem opPow_i (i j : Int) : opPow (.int i) (.int j) h = if 0 ≤ j ∧ j ≤ 1000000 ∧ i.natAbs < 18446744073709551616 then .ok (.int (i ^ j.toNat)) h else .bad := nrfl rfl
@[simp] theorem opNeg_i (i : Int) : opNeg (.int i) h = .ok (.int (-i)) h := nrfl rfl
@[simp] theorem opLt_i (i j : Int) : opLt (.int i) (.int j) h = .ok (.bl (decide (i < j))) h := nrfl rfl
@[simp] theorem opLe_i (i j : Int) : opLe (.int i) (.int j) h = .ok (.bl (decide (i ≤ j))) h := nrfl rfl
@[simp] theorem opGt_i (i j : Int) : opGt (.int i) (.int j) h = .ok (.bl (decide (j < i))) h := nrfl rfl
@[simp] theorem opGe_i (i j : Int) : opGe (.int i) (.int j) h = .ok (.bl (decide (j ≤ i))) h := nrfl rfl
@[simp] theorem opEq_i (i j : Int) : opEq (.int i) (.int j) h = .ok (.bl (decide (i = j))) h := by
  show R.ok (D.bl (PyData.eqv (.int i) (.int j))) h = _
  congr 2
@[simp] theorem opNe_i (i j : Int) : opNe (.int i) (.int j) h = .ok (.bl (!decide (i = j))) h := by
  show R.ok (D.bl (!PyData.eqv (.int i) (.int j))) h = _
  congr 2
@[simp] theorem opIsN_a (x : D) : opIsN x .non h = .ok (.bl (decide (x = .non))) h := nrfl rfl
@[simp] theorem opNotN_a (x : D) : opNotN x .non h = .ok (.bl (!decide (x = .non))) h := nrfl rfl
@[simp] theorem fMin2_i (i j : Int) : fMin2 [.int i, .int j] h = .ok (.int (if j < i then j else i)) h := nrfl rfl
@[simp] theorem fMax2_i (i j : Int) : fMax2 [.int i, .int j] h = .ok (.int (if j > i then j else i)) h := nrfl rfl
@[simp] theorem fInt_i (i : Int) : fInt [.int i] h = .ok (.int i) h := nrfl rfl
@[simp] theorem fLen_t (ys : List D) : fLen [.tup ys] h = .ok (.int ys.length) h := nrfl rfl
@[simp] theorem rng1_a (j : Int) : rngOf [.int j] h = if small j = true then .ok (.rng 0 1 j.toNat) h else .bad := nrfl rfl
@[simp] theorem rng2_a (i j : Int) : rngOf [.int i, .int j] h = if small i = true ∧ small j = true then .ok (.rng i 1 (j - i).toNat) h else .bad := nrfl rfl
@[simp] theorem rng3_a (i j c : Int) : rngOf [.int i, .int j, .int c] h = if small i = true ∧ small j = true ∧ c = -1 then .ok (.rng i (-1) (i - j).toNat) h else .bad := nrfl rfl
@[simp] theorem revRng_a (lo : Int) (n : Nat) : revRng (.rng lo 1 n) = some (.rng (lo + (n : Int) - 1) (-1) n) := nrfl rfl
@[simp] theorem ite_or (c : Prop) [Decidable c] (b : Bool) : (if c then R.ok true h else R.ok b h) = R.ok (decide c || b) h := by
  by_cases hc : c
  · simp [hc]
  · simp [hc]
@[simp] theorem ite_and (c : Prop) [Decidable c] (b : Bool) : (if c then R.ok b h else R.ok false h) = R.ok (decide c && b) h := by
  by_cases hc : c
  · simp [hc]
  · simp [hc]
/-- how a def ends -/
def RS.out (r : RS) : R D := match r with
  | .nx _ h => .ok .non h
  | .rt d h => .ok d h
  | .exc c _ h => .exc c h
  | _ => .bad
@[simp] theorem out_nx : (RS.nx e h).out = .ok .non h := nrfl rfl
@[simp] theorem out_rt (d : D) : (RS.rt d h).out = .ok d h := nrfl rfl
@[simp] theorem out_exc (c : Exn) : (RS.exc c e h).out = .exc c h := nrfl rfl
@[simp] theorem fn_a (n p : Nat) (b : S) (ds : List D) : fn n p b ds h = if ds.length = p then (b (ds.map .val ++ List.replicate (n - ds.length) .no) h).out else .bad := nrfl rfl
/-! what stands at a number -/
theorem seq_nd {r : Nat} {xs : List D} (hs : seqAt h r = some xs) : ∀ t kvs, h[r]? ≠ some (.dct t kvs) := by
  intro t kvs z
  unfold seqAt at hs
  rw [z] at hs
  cases hs
theorem seq_ns {r : Nat} {xs : List D} (hs : seqAt h r = some xs) : ∀ ys, h[r]? ≠ some (.set ys) := by
  intro ys z
  unfold seqAt at hs
  rw [z] at hs
  cases hs
theorem seq_lst {r : Nat} {xs : List D} (e : h[r]? = some (.lst xs)) : seqAt h r = some xs := by unfold seqAt; rw [e]
theorem seq_frz {r : Nat} {xs : List D} (e : h[r]? = some (.frz xs)) : seqAt h r = some xs := by unfold seqAt; rw [e]
theorem fLen_s {r : Nat} {xs : List D} (hs : seqAt h r = some xs) : fLen [.ref r] h = .ok (.int xs.length) h := by
  unfold fLen
  simp only
  split
  · rename_i t kvs z
    exact absurd z (seq_nd hs t kvs)
  · rename_i ys z
    exact absurd z (seq_ns hs ys)
  · rw [hs]
theorem ixAt_nn {n : Nat} {i : Int} (h0 : 0 ≤ i) (h1 : i < n) : ixAt n i = some i.toNat := by unfold ixAt; rw [if_pos h0, if_pos h1]
theorem ixAt_last {n : Nat} (h0 : 0 < n) : ixAt n (-1) = some (n - 1) := by
  unfold ixAt
  rw [if_neg (by decide), if_pos (by omega)]
  congr 1
  omega
theorem opIx_s {r : Nat} {xs : List D} {i : Int} {j : Nat} {d : D} (hs : seqAt h r = some xs) (hj : ixAt xs.length i = some j) (hd : xs[j]? = some d) : opIx (.ref r) (.int i) h = .ok d h := by
  unfold opIx
  simp only
  split
  · rename_i t kvs z
    exact absurd z (seq_nd hs t kvs)
  · simp [hs, hj, hd]
theorem opIx_n {r j : Nat} {xs : List D} {d : D} (hs : seqAt h r = some xs) (hd : xs[j]? = some d) : opIx (.ref r) (.int j) h = .ok d h :=
  opIx_s hs (ixAt_nn (Int.natCast_nonneg j) (by have := (List.getElem?_eq_some_iff.mp hd).1; omega)) (by simpa using hd)
theorem opIx_t {j : Nat} {i : Int} {xs : List D} {d : D} (hj : ixAt xs.length i = some j) (hd : xs[j]? = some d) : opIx (.tup xs) (.int i) h = .ok d h := by
  unfold opIx
  simp only
  rw [hj]
  simp [hd]
@[simp] theorem opIx_t20 (x y : D) : opIx (.tup [x, y]) (.int 0) h = .ok x h := nrfl rfl
@[simp] theorem opIx_t21 (x y : D) : opIx (.tup [x, y]) (.int 1) h = .ok y h := nrfl rfl
end
/-- h' goes on from h -/
def Pre (h h' : Hh) : Prop := ∃ t, h' = h ++ t
theorem Pre.rfl' {h : Hh} : Pre h h := ⟨[], by simp⟩
theorem Pre.trans {a b c : Hh} (x : Pre a b) (y : Pre b c) : Pre a c := by
  obtain ⟨t, rfl⟩ := x
  obtain ⟨u, rfl⟩ := y
  exact ⟨t ++ u, by simp⟩
theorem Pre.one {h : Hh} {o : O} : Pre h (h ++ [o]) := ⟨[o], rfl⟩
theorem Pre.get {h h' : Hh} {r : Nat} {o : O} (x : Pre h h') (e : h[r]? = some o) : h'[r]? = some o := by
  obtain ⟨t, rfl⟩ := x
  rw [List.getElem?_append_left (List.getElem?_eq_some_iff.mp e).1]
  exact e
theorem Pre.seq {h h' : Hh} {r : Nat} {xs : List D} (x : Pre h h') (e : seqAt h r = some xs) : seqAt h' r = some xs := by
  unfold seqAt at e ⊢
  cases hr : h[r]? with
  | none => rw [hr] at e; cases e
  | some o => rw [x.get hr]; rw [hr] at e; exact e
theorem Pre.len {h h' : Hh} (x : Pre h h') : h.length ≤ h'.length := by
  obtain ⟨t, rfl⟩ := x
  simp
theorem get_new {h : Hh} {o : O} : (h ++ [o])[h.length]? = some o := by simp
/-- a comprehension whose parts leave all as it stands -/
theorem comp_eq {it : It} {tg : Tg} {tt : T} {a : E} {e : Env} {h : Hh} (ds : List D) (f : D → Option D) (hn : ds.length < fuel) (hget : ∀ i, it.get i h = some ds[i]?)
    (step : ∀ d ∈ ds, ∃ e1, tg.put d e = some e1 ∧ ∃ x, tt e1 h = .ok x h ∧ (x = true → ∃ y, a e1 h = .ok y h ∧ f d = some y) ∧ (x = false → f d = none)) :
    compN it tg tt a e fuel 0 [] h = .ok (.ref h.length) (h ++ [.lst (ds.filterMap f)]) := by
  have go : ∀ (m i : Nat), ds.length - i < m → i ≤ ds.length → compN it tg tt a e m i ((ds.take i).filterMap f) h = .ok (.ref h.length) (h ++ [.lst (ds.filterMap f)]) := by
    intro m
    induction m with
    | zero => intro i hm; omega
    | succ m ih =>
      intro i hm hi
      unfold compN
      rw [hget i]
      by_cases hin : i = ds.length
      · subst hin
        rw [List.getElem?_eq_none (Nat.le_refl _)]
        simp
      · have hlt : i < ds.length := by omega
        rw [List.getElem?_eq_getElem hlt]
        simp only
        obtain ⟨e1, g1, x, g2, g3, g4⟩ := step ds[i] (List.getElem_mem hlt)
        rw [g1]
        simp only
        rw [g2]
        have htake : ds.take (i + 1) = ds.take i ++ [ds[i]] := by simp
        cases x with
        | true =>
          obtain ⟨y, g5, g6⟩ := g3 rfl
          have hlen : ((ds.take i).filterMap f).length < sizeMax := by
            have h1 : ((ds.take i).filterMap f).length ≤ (ds.take i).length := List.length_filterMap_le _ _
            have h2 : (ds.take i).length ≤ ds.length := by simp; omega
            have h3 : fuel ≤ sizeMax := by decide
            omega
          simp only [bindN_ok, if_true]
          rw [g5]
          simp only [bindN_ok]
          rw [if_pos hlen]
          have e6 : List.filterMap f [ds[i]] = [y] := by simp [g6]
          have := ih (i + 1) (by omega) (by omega)
          rw [htake, List.filterMap_append, e6] at this
          exact this
        | false =>
          have g6 := g4 rfl
          simp only [bindN_ok, Bool.false_eq_true, if_false]
          have e6 : List.filterMap f [ds[i]] = [] := by simp [g6]
          have := ih (i + 1) (by omega) (by omega)
          rw [htake, List.filterMap_append, e6, List.append_nil] at this
          exact this
  simpa using go fuel 0 (by omega) (Nat.zero_le _)
theorem get_rng {lo : Int} {n i : Nat} {h : Hh} : It.get i h (.rng lo 1 n) = some (((List.range n).map fun (k : Nat) => D.int (lo + (k : Int)))[i]?) := by
  show some (if i < n then some (D.int (lo + (i : Int) * 1)) else none) = _
  by_cases hi : i < n
  · simp [hi]
  · simp [hi]
theorem get_lst {r i : Nat} {h : Hh} {xs : List D} (hs : seqAt h r = some xs) : It.get i h (.lst r) = some xs[i]? := by
  show (seqAt h r).map _ = _
  rw [hs]
  rfl

/-! ### rules, goal by goal -/
def R.post {α : Type} (r : R α) (Q : α → Hh → Prop) : Prop := ∃ a h, r = .ok a h ∧ Q a h
/-- what comes of a statement: it goes on (Q), or it ends by giving (Z); m: within a loop -/
def RS.ends (m : Bool) (Q : Env → Hh → Prop) (Z : D → Hh → Prop) : RS → Prop
  | .nx e h => Q e h
  | .ct e h => m = true ∧ Q e h
  | .rt d h => Z d h
  | _ => False
section
variable {m : Bool} {e : Env} {h : Hh} {Q : Env → Hh → Prop} {Z : D → Hh → Prop} {k : Env → Hh → RS}
@[simp] theorem ends_nx : (RS.nx e h).ends m Q Z = Q e h := rfl
@[simp] theorem ends_ct : (RS.ct e h).ends true Q Z = Q e h := by simp [RS.ends]
@[simp] theorem ends_rt (d : D) : (RS.rt d h).ends m Q Z = Z d h := rfl
theorem post_ok {α : Type} {a : α} {Q : α → Hh → Prop} (q : Q a h) : (R.ok a h).post Q := ⟨a, h, rfl, q⟩
theorem post_fn {n p : Nat} {b : S} {ds : List D} (hp : ds.length = p) (q : (b (ds.map .val ++ List.replicate (n - ds.length) .no) h).ends false (fun _ h => Z .non h) Z) : (fn n p b ds h).post Z := by
  rw [fn_a, if_pos hp]
  generalize b (ds.map .val ++ List.replicate (n - ds.length) .no) h = r at q
  cases r with
  | nx e h => exact ⟨_, _, rfl, q⟩
  | rt d h => exact ⟨_, _, rfl, q⟩
  | ct e h => cases q.1
  | bk e h => exact q.elim
  | exc c e h => exact q.elim
  | bad => exact q.elim
/-! a loop: what it goes on to is told by k -/
theorem for_go {it : It} {tg : Tg} {b : S} (I : Nat → Env → Hh → Prop) (n : Nat) (hn : n < fuel) (h0 : I 0 e h) (stop : ∀ e h, I n e h → it.get n h = some none)
    (step : ∀ i e h, i < n → I i e h → ∃ d e1, it.get i h = some (some d) ∧ tg.put d e = some e1 ∧ (b e1 h).ends true (I (i + 1)) Z) :
    (forN it tg b fuel 0 e h).ends false (I n) Z := by
  have go : ∀ (f i : Nat) (e : Env) (h : Hh), n - i < f → i ≤ n → I i e h → (forN it tg b f i e h).ends false (I n) Z := by
    intro f
    induction f with
    | zero => intro i e h hm; omega
    | succ f ih =>
      intro i e h hm hi hI
      by_cases hin : i = n
      · subst hin
        unfold forN
        rw [stop e h hI]
        exact hI
      · obtain ⟨d, e1, g1, g2, g3⟩ := step i e h (by omega) hI
        unfold forN
        rw [g1]
        simp only
        rw [g2]
        simp only
        cases hb : b e1 h with
        | nx e2 h2 => rw [hb] at g3; exact ih (i + 1) e2 h2 (by omega) (by omega) g3
        | ct e2 h2 => rw [hb] at g3; exact ih (i + 1) e2 h2 (by omega) (by omega) g3.2
        | rt d h2 => rw [hb] at g3; exact g3
        | bk e2 h2 => rw [hb] at g3; exact g3.elim
        | exc c e2 h2 => rw [hb] at g3; exact g3.elim
        | bad => rw [hb] at g3; exact g3.elim
  exact go fuel 0 e h (by omega) (Nat.zero_le _) h0
theorem while_go {t : T} {b : S} {Q : Env → Hh → Prop} (I : Env → Hh → Nat → Prop) (n : Nat) (hn : n < fuel) (h0 : I e h n)
    (step : ∀ e h k, I e h k → (∃ h1, t e h = .ok false h1 ∧ Q e h1) ∨ ∃ h1, t e h = .ok true h1 ∧ (b e h1).ends true (fun e' h' => ∃ k', k' < k ∧ I e' h' k') Z) :
    (whileN t b fuel e h).ends false Q Z := by
  have go : ∀ (f k : Nat) (e : Env) (h : Hh), k < f → I e h k → (whileN t b f e h).ends false Q Z := by
    intro f
    induction f with
    | zero => intro k e h hm; omega
    | succ f ih =>
      intro k e h hm hI
      unfold whileN
      rcases step e h k hI with ⟨h1, g1, g2⟩ | ⟨h1, g1, g3⟩
      · rw [g1]
        simp only [go_ok, Bool.false_eq_true, if_false]
        exact g2
      · rw [g1]
        simp only [go_ok, if_true]
        cases hb : b e h1 with
        | nx e2 h2 => rw [hb] at g3; obtain ⟨k', hk, z⟩ := g3; exact ih k' e2 h2 (by omega) z
        | ct e2 h2 => rw [hb] at g3; obtain ⟨_, k', hk, z⟩ := g3; exact ih k' e2 h2 (by omega) z
        | rt d h2 => rw [hb] at g3; exact g3
        | bk e2 h2 => rw [hb] at g3; exact g3.elim
        | exc c e2 h2 => rw [hb] at g3; exact g3.elim
        | bad => rw [hb] at g3; exact g3.elim
  exact go fuel n e h hn h0
theorem ends_then {r : RS} {Q1 : Env → Hh → Prop} (a : r.ends false Q1 Z) (hk : ∀ e h, Q1 e h → (k e h).ends m Q Z) : (r.then k).ends m Q Z := by
  cases r with
  | nx e h => exact hk e h a
  | rt d h => exact a
  | ct e h => cases a.1
  | bk e h => exact a.elim
  | exc c e h => exact a.elim
  | bad => exact a.elim
theorem ends_last {r : RS} {Q1 : Env → Hh → Prop} (a : r.ends false Q1 Z) (hk : ∀ e h, Q1 e h → Q e h) : r.ends m Q Z := by
  cases r with
  | nx e h => exact hk e h a
  | rt d h => exact a
  | ct e h => cases a.1
  | bk e h => exact a.elim
  | exc c e h => exact a.elim
  | bad => exact a.elim
/-- for x in range -/
theorem for_rng {lo : Int} {n : Nat} {tg : Tg} {b : S} (I : Nat → Env → Hh → Prop) (hn : n < fuel) (h0 : I 0 e h)
    (step : ∀ i e h, i < n → I i e h → ∃ e1, tg.put (.int (lo + (i : Int))) e = some e1 ∧ (b e1 h).ends true (I (i + 1)) Z) :
    (forN (.rng lo 1 n) tg b fuel 0 e h).ends false (I n) Z :=
  for_go I n hn h0 (fun e h _ => by rw [get_rng]; simp) fun i e h hi hI => by
    obtain ⟨e1, g1, g2⟩ := step i e h hi hI
    exact ⟨_, e1, by rw [get_rng]; simp [hi], g1, g2⟩
/-- for x in a list that stays -/
theorem for_lst {r : Nat} {xs : List D} {tg : Tg} {b : S} (I : Nat → Env → Hh → Prop) (hn : xs.length < fuel) (hs : ∀ i e h, I i e h → seqAt h r = some xs) (h0 : I 0 e h)
    (step : ∀ i e h d, xs[i]? = some d → I i e h → ∃ e1, tg.put d e = some e1 ∧ (b e1 h).ends true (I (i + 1)) Z) :
    (forN (.lst r) tg b fuel 0 e h).ends false (I xs.length) Z :=
  for_go I xs.length hn h0 (fun e h hI => by rw [get_lst (hs _ _ _ hI)]; simp) fun i e h hi hI => by
    obtain ⟨e1, g1, g2⟩ := step i e h xs[i] (List.getElem?_eq_getElem hi) hI
    exact ⟨_, e1, by rw [get_lst (hs _ _ _ hI), List.getElem?_eq_getElem hi], g1, g2⟩
end

/-! ### cuts -/
section
variable {α : Type} {xs : List α}
theorem cutIx_n {n d i : Nat} : cutIx n d (some (i : Int)) = min i n := by
  unfold cutIx
  simp only
  rw [if_neg (by omega)]
  simp
theorem cut_ab {a b : Nat} (h1 : a ≤ b) (h2 : b ≤ xs.length) : cut xs (some (a : Int)) (some (b : Int)) = (xs.drop a).take (b - a) := by
  unfold cut
  rw [cutIx_n, cutIx_n, Nat.min_eq_left h2, Nat.min_eq_left (show a ≤ xs.length by omega)]
theorem cut_0b {b : Nat} (h2 : b ≤ xs.length) : cut xs none (some (b : Int)) = xs.take b := by
  unfold cut
  rw [cutIx_n, Nat.min_eq_left h2]
  simp [cutIx]
theorem cut_a0 {a : Nat} (h2 : a ≤ xs.length) : cut xs (some (a : Int)) none = xs.drop a := by
  unfold cut
  rw [cutIx_n, Nat.min_eq_left h2]
  simp only [cutIx]
  exact List.take_of_length_le (by simp)
theorem opCut_s {h : Hh} {r : Nat} {xs : List D} {lo hi : Option Int} (hs : seqAt h r = some xs) : opCut (.ref r) lo hi h = .ok (.ref h.length) (h ++ [.lst (cut xs lo hi)]) := by
  unfold opCut
  simp only
  rw [hs]
  rfl
theorem small_lt {i : Int} (h1 : -1000000 ≤ i) (h2 : i < 1000000) : small i = true := by
  unfold small
  simp only [decide_eq_true_eq]
  omega
end
theorem comp_lst {r : Nat} {tg : Tg} {tt : T} {a : E} {e : Env} {h : Hh} (ds : List D) (f : D → Option D) (hn : ds.length < fuel) (hs : seqAt h r = some ds)
    (step : ∀ d ∈ ds, ∃ e1, tg.put d e = some e1 ∧ ∃ x, tt e1 h = .ok x h ∧ (x = true → ∃ y, a e1 h = .ok y h ∧ f d = some y) ∧ (x = false → f d = none)) :
    compN (.lst r) tg tt a e fuel 0 [] h = .ok (.ref h.length) (h ++ [.lst (ds.filterMap f)]) := comp_eq ds f hn (fun i => get_lst hs) step
/-- all are kept -/
theorem comp_map {r : Nat} {tg : Tg} {a : E} {e : Env} {h : Hh} (ds : List D) (f : D → D) (hn : ds.length < fuel) (hs : seqAt h r = some ds)
    (step : ∀ d ∈ ds, ∃ e1, tg.put d e = some e1 ∧ a e1 h = .ok (f d) h) :
    compN (.lst r) tg tYes a e fuel 0 [] h = .ok (.ref h.length) (h ++ [.lst (ds.map f)]) := by
  have := comp_lst (tt := tYes) (tg := tg) (a := a) (e := e) ds (fun d => some (f d)) hn hs fun d hd => by
    obtain ⟨e1, g1, g2⟩ := step d hd
    exact ⟨e1, g1, true, rfl, fun _ => ⟨f d, g2, rfl⟩, fun z => by cases z⟩
  rw [this]
  simp
/-- over a range, the kept numbers -/
theorem comp_rng {lo : Nat} {n : Nat} {tg : Tg} {tt : T} {a : E} {e : Env} {h : Hh} (p : Nat → Bool) (f : Nat → D) (hn : n < fuel)
    (step : ∀ i, lo ≤ i → i < lo + n → ∃ e1, tg.put (.int (i : Int)) e = some e1 ∧ tt e1 h = .ok (p i) h ∧ (p i = true → a e1 h = .ok (f i) h)) :
    compN (.rng (lo : Int) 1 n) tg tt a e fuel 0 [] h = .ok (.ref h.length) (h ++ [.lst (((List.range' lo n).filter p).map f)]) := by
  have hd : ((List.range n).map fun (k : Nat) => D.int ((lo : Int) + (k : Int))) = (List.range' lo n).map fun (i : Nat) => D.int (i : Int) := by
    rw [List.range'_eq_map_range, List.map_map]
    apply List.map_congr_left
    intro k _
    simp
  let F : D → Option D := fun d => match d with
    | .int i => if p i.toNat = true then some (f i.toNat) else none
    | _ => none
  rw [comp_eq ((List.range' lo n).map fun (i : Nat) => D.int (i : Int)) F (by simpa using hn) (fun i => by rw [get_rng, hd])]
  · congr 4
    rw [List.filterMap_map]
    induction List.range' lo n with
    | nil => rfl
    | cons i l ih =>
      rw [List.filterMap_cons, List.filter_cons]
      by_cases hp : p i = true
      · rw [if_pos hp, List.map_cons, ← ih]
        simp [F, hp]
      · rw [if_neg hp, ← ih]
        simp [F, hp]
  · intro d hd
    obtain ⟨i, hi, rfl⟩ := List.mem_map.mp hd
    rw [List.mem_range'_1] at hi
    obtain ⟨e1, g1, g2, g3⟩ := step i hi.1 hi.2
    refine ⟨e1, g1, p i, g2, fun hp => ⟨f i, g3 hp, ?_⟩, fun hp => ?_⟩
    · simp [F, hp]
    · simp [F, hp]

/-! ### heaps that go on -/
section
variable {h : Hh} {a : Nat} {xs : List D}
theorem seqAt_app (hs : seqAt h a = some xs) (l : Hh) : seqAt (h ++ l) a = some xs := Pre.seq ⟨l, rfl⟩ hs
@[simp] theorem get_app (l : Hh) (k : Nat) : (h ++ l)[h.length + k]? = l[k]? := by
  rw [List.getElem?_append_right (by omega)]
  congr 1
  omega
@[simp] theorem get_app0 (l : Hh) : (h ++ l)[h.length]? = l[0]? := get_app l 0
@[simp] theorem seqAt_new (l : Hh) (k : Nat) : seqAt (h ++ l) (h.length + k) = seqAt l k := by
  unfold seqAt
  rw [get_app]
@[simp] theorem seqAt_new0 (l : Hh) : seqAt (h ++ l) h.length = seqAt l 0 := seqAt_new l 0
@[simp] theorem seqAt_0 (xs : List D) (l : Hh) : seqAt (.lst xs :: l) 0 = some xs := rfl
@[simp] theorem seqAt_s (o : O) (l : Hh) (k : Nat) : seqAt (o :: l) (k + 1) = seqAt l k := rfl
@[simp] theorem seqAt_1 (o : O) (l : Hh) : seqAt (o :: l) 1 = seqAt l 0 := rfl
@[simp] theorem seqAt_2 (o p : O) (l : Hh) : seqAt (o :: p :: l) 2 = seqAt l 0 := rfl
@[simp] theorem seqAt_3 (o p q : O) (l : Hh) : seqAt (o :: p :: q :: l) 3 = seqAt l 0 := rfl
theorem opAdd_l {h : Hh} {a b : Nat} {xs ys : List D} (ha : h[a]? = some (.lst xs)) (hb : h[b]? = some (.lst ys)) (hz : xs.length + ys.length ≤ sizeMax) : opAdd (.ref a) (.ref b) h = .ok (.ref h.length) (h ++ [.lst (xs ++ ys)]) := by
  unfold opAdd
  simp only
  rw [ha, hb]
  simp only
  rw [if_pos hz]
  rfl
theorem intsOf_map : ∀ l : List Int, intsOf (l.map D.int) = some l
  | [] => rfl
  | i :: l => by
    show (intsOf (l.map D.int)).map (i :: ·) = _
    rw [intsOf_map l]
    rfl
theorem maxOf_le : ∀ (l : List Int) (a : Int), maxOf a l ∈ a :: l ∧ ∀ y ∈ a :: l, y ≤ maxOf a l
  | [], a => by simp [maxOf]
  | b :: l, a => by
    obtain ⟨h1, h2⟩ := maxOf_le l (if a < b then b else a)
    unfold maxOf
    generalize maxOf (if a < b then b else a) l = m at h1 h2 ⊢
    have h3 := h2 _ List.mem_cons_self
    refine ⟨?_, fun y hy => ?_⟩
    · rcases List.mem_cons.mp h1 with e | e
      · rw [e]; split <;> simp
      · simp [e]
    · rcases List.mem_cons.mp hy with rfl | hy
      · split at h3 <;> omega
      · rcases List.mem_cons.mp hy with rfl | hy
        · split at h3 <;> omega
        · exact h2 y (List.mem_cons_of_mem _ hy)
/-- max of a list of whole numbers -/
theorem fMax_l {h : Hh} {r : Nat} {l : List Int} (hs : seqAt h r = some (l.map D.int)) (hl : l ≠ []) : ∃ m : Int, fMax [.ref r] h = .ok (.int m) h ∧ m ∈ l ∧ ∀ y ∈ l, y ≤ m := by
  cases l with
  | nil => exact absurd rfl hl
  | cons a l =>
    obtain ⟨h1, h2⟩ := maxOf_le l a
    refine ⟨maxOf a l, ?_, h1, h2⟩
    unfold fMax
    simp only
    rw [hs]
    show (match intsOf ((a :: l).map D.int) with | some (a :: r) => R.ok (D.int (maxOf a r)) h | _ => R.bad) = _
    rw [intsOf_map]
end
section
variable {h : Hh}
theorem seq_n0 (xs : List D) (l : Hh) : seqAt (h ++ .lst xs :: l) h.length = some xs := by simp
@[simp] theorem fLen_n0 (xs : List D) (l : Hh) : fLen [.ref h.length] (h ++ .lst xs :: l) = .ok (.int xs.length) (h ++ .lst xs :: l) := fLen_s (seq_n0 xs l)
theorem seq_n1 (o : O) (xs : List D) (l : Hh) : seqAt (h ++ o :: .lst xs :: l) (h.length + 1) = some xs := by simp
@[simp] theorem fLen_n1 (o : O) (xs : List D) (l : Hh) : fLen [.ref (h.length + 1)] (h ++ o :: .lst xs :: l) = .ok (.int xs.length) (h ++ o :: .lst xs :: l) := fLen_s (seq_n1 o xs l)
theorem seq_n2 (o : O) (p : O) (xs : List D) (l : Hh) : seqAt (h ++ o :: p :: .lst xs :: l) (h.length + 2) = some xs := by simp
@[simp] theorem fLen_n2 (o : O) (p : O) (xs : List D) (l : Hh) : fLen [.ref (h.length + 2)] (h ++ o :: p :: .lst xs :: l) = .ok (.int xs.length) (h ++ o :: p :: .lst xs :: l) := fLen_s (seq_n2 o p xs l)
theorem seq_n3 (o : O) (p : O) (q : O) (xs : List D) (l : Hh) : seqAt (h ++ o :: p :: q :: .lst xs :: l) (h.length + 3) = some xs := by simp
@[simp] theorem fLen_n3 (o : O) (p : O) (q : O) (xs : List D) (l : Hh) : fLen [.ref (h.length + 3)] (h ++ o :: p :: q :: .lst xs :: l) = .ok (.int xs.length) (h ++ o :: p :: q :: .lst xs :: l) := fLen_s (seq_n3 o p q xs l)
theorem seq_n4 (o : O) (p : O) (q : O) (s : O) (xs : List D) (l : Hh) : seqAt (h ++ o :: p :: q :: s :: .lst xs :: l) (h.length + 4) = some xs := by
  rw [seqAt_new]
  rfl
@[simp] theorem fLen_n4 (o : O) (p : O) (q : O) (s : O) (xs : List D) (l : Hh) : fLen [.ref (h.length + 4)] (h ++ o :: p :: q :: s :: .lst xs :: l) = .ok (.int xs.length) (h ++ o :: p :: q :: s :: .lst xs :: l) := fLen_s (seq_n4 o p q s xs l)
theorem seq_n5 (o : O) (p : O) (q : O) (s : O) (t : O) (xs : List D) (l : Hh) : seqAt (h ++ o :: p :: q :: s :: t :: .lst xs :: l) (h.length + 5) = some xs := by
  rw [seqAt_new]
  rfl
@[simp] theorem fLen_n5 (o : O) (p : O) (q : O) (s : O) (t : O) (xs : List D) (l : Hh) : fLen [.ref (h.length + 5)] (h ++ o :: p :: q :: s :: t :: .lst xs :: l) = .ok (.int xs.length) (h ++ o :: p :: q :: s :: t :: .lst xs :: l) := fLen_s (seq_n5 o p q s t xs l)
theorem seq_n6 (o : O) (p : O) (q : O) (s : O) (t : O) (u : O) (xs : List D) (l : Hh) : seqAt (h ++ o :: p :: q :: s :: t :: u :: .lst xs :: l) (h.length + 6) = some xs := by
  rw [seqAt_new]
  rfl
@[simp] theorem fLen_n6 (o : O) (p : O) (q : O) (s : O) (t : O) (u : O) (xs : List D) (l : Hh) : fLen [.ref (h.length + 6)] (h ++ o :: p :: q :: s :: t :: u :: .lst xs :: l) = .ok (.int xs.length) (h ++ o :: p :: q :: s :: t :: u :: .lst xs :: l) := fLen_s (seq_n6 o p q s t u xs l)
theorem seq_n7 (o : O) (p : O) (q : O) (s : O) (t : O) (u : O) (v : O) (xs : List D) (l : Hh) : seqAt (h ++ o :: p :: q :: s :: t :: u :: v :: .lst xs :: l) (h.length + 7) = some xs := by
  rw [seqAt_new]
  rfl
@[simp] theorem fLen_n7 (o : O) (p : O) (q : O) (s : O) (t : O) (u : O) (v : O) (xs : List D) (l : Hh) : fLen [.ref (h.length + 7)] (h ++ o :: p :: q :: s :: t :: u :: v :: .lst xs :: l) = .ok (.int xs.length) (h ++ o :: p :: q :: s :: t :: u :: v :: .lst xs :: l) := fLen_s (seq_n7 o p q s t u v xs l)
end
/-! ### expressions that make lists -/
/-- from H on, x tells a list of X that may be written -/
def LstE (e : Env) (H : Hh) (x : E) (X : List D) : Prop := ∀ H', Pre H H' → ∃ H'' r, x e H' = .ok (.ref r) H'' ∧ Pre H' H'' ∧ H''[r]? = some (.lst X)
section
variable {e : Env} {H : Hh}
theorem LstE.add {x y : E} {X Y : List D} (a : LstE e H x X) (b : LstE e H y Y) (hz : X.length + Y.length ≤ sizeMax) : LstE e H (eBin opAdd x y) (X ++ Y) := by
  intro H' p
  obtain ⟨H1, r1, e1, p1, g1⟩ := a H' p
  obtain ⟨H2, r2, e2, p2, g2⟩ := b H1 (p.trans p1)
  refine ⟨H2 ++ [.lst (X ++ Y)], H2.length, ?_, (p1.trans p2).trans Pre.one, get_new⟩
  rw [eBin_a, e1, bind_ok, e2, bind_ok, opAdd_l (p2.get g1) g2 hz]
  rfl
/-- the list that a sum makes is a new one -/
theorem LstE.addN {x y : E} {X Y : List D} (a : LstE e H x X) (b : LstE e H y Y) (hz : X.length + Y.length ≤ sizeMax) : ∃ H'' r, eBin opAdd x y e H = .ok (.ref r) H'' ∧ Pre H H'' ∧ H.length ≤ r ∧ H''[r]? = some (.lst (X ++ Y)) := by
  obtain ⟨H1, r1, e1, p1, g1⟩ := a H Pre.rfl'
  obtain ⟨H2, r2, e2, p2, g2⟩ := b H1 p1
  refine ⟨H2 ++ [.lst (X ++ Y)], H2.length, ?_, (p1.trans p2).trans Pre.one, (p1.trans p2).len, get_new⟩
  rw [eBin_a, e1, bind_ok, e2, bind_ok, opAdd_l (p2.get g1) g2 hz]
  rfl
theorem LstE.var {i r : Nat} {X : List D} (hi : e[i]? = some (.val (.ref r))) (g : H[r]? = some (.lst X)) : LstE e H (eVar i) X := by
  intro H' p
  refine ⟨H', r, ?_, Pre.rfl', p.get g⟩
  rw [eVar_a, hi]
/-- slices by numbers in slots -/
theorem LstE.cut {i r : Nat} {X : List D} {lo hi : Env → Hh → R (Option Int)} {l u : Option Int} (hi' : e[i]? = some (.val (.ref r))) (g : seqAt H r = some X) (hl : ∀ H', lo e H' = .ok l H') (hu : ∀ H', hi e H' = .ok u H') : LstE e H (eCut (eVar i) lo hi) (TM.cut X l u) := by
  intro H' p
  refine ⟨H' ++ [.lst (TM.cut X l u)], H'.length, ?_, Pre.one, get_new⟩
  rw [eCut_a, eVar_a, hi']
  simp only [bind_ok]
  rw [hl, bind_ok, hu, bind_ok, opCut_s (p.seq g)]
  rfl
end
/-! ### dicts, methods -/
section
variable {h : Hh}
theorem look_cons (p : D × D) (l : List (D × D)) (k : D) : look (p :: l) k = if p.1 = k then some p.2 else look l k := by
  unfold look
  rw [List.find?_cons]
  by_cases hp : p.1 = k <;> simp [hp]
theorem look_none {l : List (D × D)} {k : D} (hk : (l.any fun p => decide (p.1 = k)) = false) : look l k = none := by
  induction l with
  | nil => rfl
  | cons p l ih =>
    rw [List.any_cons, Bool.or_eq_false_iff] at hk
    rw [look_cons, if_neg (by simpa using hk.1), ih hk.2]
theorem look_app (l r : List (D × D)) (k : D) : look (l ++ r) k = (look l k).or (look r k) := by
  induction l with
  | nil => simp [look]
  | cons p l ih =>
    rw [List.cons_append, look_cons, look_cons, ih]
    by_cases hp : p.1 = k <;> simp [hp]
theorem look_dput (l : List (D × D)) (k v k' : D) : look (dput l k v) k' = if k = k' then some v else look l k' := by
  unfold dput
  by_cases ha : (l.any fun p => decide (p.1 = k)) = true
  · rw [if_pos ha]
    induction l with
    | nil => cases ha
    | cons p l ih =>
      rw [List.map_cons, look_cons, look_cons]
      by_cases hp : p.1 = k
      · rw [if_pos hp]
        by_cases hk : k = k'
        · rw [if_pos (hp.trans hk), if_pos hk]
        · rw [if_neg (fun z => hk (hp.symm.trans z)), if_neg hk, if_neg (fun z => hk (hp.symm.trans z))]
          by_cases ha' : (l.any fun p => decide (p.1 = k)) = true
          · rw [ih ha', if_neg hk]
          · have : (l.map fun p => if p.1 = k then (p.1, v) else p) = l := by
              clear ih ha
              induction l with
              | nil => rfl
              | cons q l ih =>
                rw [List.any_cons, Bool.or_eq_true, not_or] at ha'
                rw [List.map_cons, if_neg (by simpa using ha'.1), ih ha'.2]
            rw [this]
      · rw [if_neg hp]
        rw [List.any_cons, Bool.or_eq_true] at ha
        have ha' : (l.any fun p => decide (p.1 = k)) = true := ha.resolve_left (by simpa using hp)
        rw [ih ha']
        by_cases hk : k = k'
        · simp only [if_neg (show ¬ p.1 = k' from fun z => hp (z.trans hk.symm)), if_pos hk]
        · simp only [if_neg hk]
  · rw [if_neg ha, look_app]
    have hn := look_none (l := l) (k := k) (by rw [Bool.not_eq_true] at ha; exact ha)
    by_cases hk : k = k'
    · subst hk
      rw [hn, if_pos rfl]
      simp [look]
    · rw [if_neg hk, look_cons, if_neg hk]
      simp [look]
theorem dput_len (l : List (D × D)) (k v : D) : (dput l k v).length ≤ l.length + 1 := by
  unfold dput
  split
  · simp
  · simp
theorem opIx_d {r t : Nat} {kvs : List (D × D)} {k v : D} (e : h[r]? = some (.dct t kvs)) (hf : keyFit t k = true) (hl : look kvs k = some v) : opIx (.ref r) k h = .ok v h := by
  unfold opIx
  simp only
  rw [e]
  simp [hf, hl]
theorem opPut_d {r t : Nat} {kvs : List (D × D)} {k v : D} (e : h[r]? = some (.dct t kvs)) (hf : keyFit t k = true) (hz : kvs.length < sizeMax) : opPut (.ref r) k v h = .ok () (h.set r (.dct t (dput kvs k v))) := by
  unfold opPut
  simp only
  rw [e]
  simp [hf, hz]
theorem isL_of {r : Nat} {xs : List D} (e : h[r]? = some (.lst xs)) : isL (.ref r) h = true := by
  unfold isL
  simp only
  rw [e]
theorem app_ok {r : Nat} {xs : List D} {d : D} (e : h[r]? = some (.lst xs)) (hz : xs.length < sizeMax) : mAppend (.ref r) [d] h = .ok .non (h.set r (.lst (xs ++ [d]))) := by
  unfold mAppend
  simp only
  rw [e]
  simp [hz]
theorem ext_ok {r s : Nat} {xs ys : List D} (e : h[r]? = some (.lst xs)) (e2 : h[s]? = some (.lst ys)) (hz : xs.length + ys.length ≤ sizeMax) : mExtend (.ref r) [.ref s] h = .ok .non (h.set r (.lst (xs ++ ys))) := by
  unfold mExtend
  simp only
  rw [e, e2]
  simp [hz]
theorem pop_ok {r : Nat} {xs : List D} {d : D} (e : h[r]? = some (.lst (xs ++ [d]))) : mPop0 (.ref r) [] h = .ok d (h.set r (.lst xs)) := by
  unfold mPop0
  simp only
  rw [e]
  simp
end
theorem get_rev {r i : Nat} {h : Hh} {xs : List D} (hs : seqAt h r = some xs) : It.get i h (.rev r xs.length) = some xs.reverse[i]? := by
  show (match seqAt h r with | some ys => if ys.length = xs.length then some (if i < xs.length then ys[xs.length - 1 - i]? else none) else none | none => none) = _
  rw [hs]
  simp only [if_true]
  by_cases hi : i < xs.length
  · rw [if_pos hi, List.getElem?_reverse hi]
  · rw [if_neg hi, List.getElem?_eq_none (by simpa using hi)]
/-- for x in reversed(a list that stays) -/
theorem for_rev {e : Env} {h : Hh} {Z : D → Hh → Prop} {r : Nat} {xs : List D} {tg : Tg} {b : S} (I : Nat → Env → Hh → Prop) (hn : xs.length < fuel) (hs : ∀ i e h, I i e h → seqAt h r = some xs) (h0 : I 0 e h)
    (step : ∀ i e h d, xs.reverse[i]? = some d → I i e h → ∃ e1, tg.put d e = some e1 ∧ (b e1 h).ends true (I (i + 1)) Z) :
    (forN (.rev r xs.length) tg b fuel 0 e h).ends false (I xs.length) Z :=
  for_go I xs.length hn h0 (fun e h hI => by rw [get_rev (hs _ _ _ hI)]; simp) fun i e h hi hI => by
    have hi' : i < xs.reverse.length := by simpa using hi
    obtain ⟨e1, g1, g2⟩ := step i e h xs.reverse[i] (List.getElem?_eq_getElem hi') hI
    exact ⟨_, e1, by rw [get_rev (hs _ _ _ hI), List.getElem?_eq_getElem hi'], g1, g2⟩
/-! ### equality of data -/
section
variable {h : Hh}
theorem pdAll_refl {m : Nat} (ih : ∀ (d : D) (p : PyData), pd m h d = some p → PyData.eqv p p = true) : ∀ (ds : List D) (ps : List PyData), pdAll (pd m h) ds = some ps → PyData.eqvAll ps ps = true
  | [], ps, e => by cases e; rfl
  | d :: ds, ps, e => by
    unfold pdAll at e
    split at e
    · rename_i a as e1 e2
      cases e
      rw [PyData.eqvAll, ih _ _ e1, pdAll_refl ih ds as e2]
      rfl
    · cases e
theorem pd_refl : ∀ (m : Nat) (d : D) (p : PyData), pd m h d = some p → PyData.eqv p p = true
  | 0, _, _, e => by cases e
  | m + 1, d, p, e => by
    unfold pd at e
    split at e
    · cases e; rfl
    · cases e; simp [PyData.eqv]
    · cases e; simp [PyData.eqv]
    · split at e
      · cases e; simp [PyData.eqv]
      · cases e
    · obtain ⟨ps, e1, rfl⟩ := Option.map_eq_some_iff.mp e
      rw [PyData.eqv]
      exact pdAll_refl (pd_refl m) _ _ e1
    · split at e
      · obtain ⟨ps, e1, rfl⟩ := Option.map_eq_some_iff.mp e
        rw [PyData.eqv]
        exact pdAll_refl (pd_refl m) _ _ e1
      · cases e
theorem opEq_yes {x y : D} {p : PyData} (hx : pd deep h x = some p) (hy : pd deep h y = some p) : opEq x y h = .ok (.bl true) h := by
  unfold opEq
  rw [hx, hy]
  simp only
  rw [pd_refl _ _ _ hx]
theorem opNe_no {x y : D} {p : PyData} (hx : pd deep h x = some p) (hy : pd deep h y = some p) : opNe x y h = .ok (.bl false) h := by
  unfold opNe
  rw [hx, hy]
  simp only
  rw [pd_refl _ _ _ hx]
  rfl
end
/-! ### try -/
def RS.tryE (r : RS) (sub : Nat → Nat → Bool) (cs : List Nat) (hs : List (Nat × Nat × (Exn → S))) : RS := match r with
  | .exc c e1 h1 => if c.cls ∈ cs then match caught sub c.cls hs with
    | some (i, s) => (s c (e1.set i .pin) h1).unpin i
    | none => .exc c e1 h1 else .bad
  | r => r
section
variable {e : Env} {h : Hh} {sub : Nat → Nat → Bool} {cs : List Nat} {hs : List (Nat × Nat × (Exn → S))}
@[simp] theorem sTry_a (b : S) : sTry sub cs b hs e h = (b e h).tryE sub cs hs := nrfl rfl
@[simp] theorem tryE_nx : (RS.nx e h).tryE sub cs hs = .nx e h := nrfl rfl
@[simp] theorem tryE_rt (d : D) : (RS.rt d h).tryE sub cs hs = .rt d h := nrfl rfl
@[simp] theorem tryE_exc (c : Exn) : (RS.exc c e h).tryE sub cs hs = if c.cls ∈ cs then match caught sub c.cls hs with
    | some (i, s) => (s c (e.set i .pin) h).unpin i
    | none => .exc c e h else .bad := nrfl rfl
@[simp] theorem eIsE_a (i : Nat) (c : Exn) (ks : List Nat) : eIsE sub i c ks e h = match e[i]? with
  | some .pin => .ok (.bl (ks.any (sub c.cls))) h
  | _ => .bad := nrfl rfl
@[simp] theorem unpin_nx (i : Nat) : (RS.nx e h).unpin i = .nx (unpinE i e) h := nrfl rfl
@[simp] theorem opIsTy_a (k : Ty) (x : D) : opIsTy k x h = match tyOf x h with
  | some t => .ok (.bl (isTy t k)) h
  | none => .bad := nrfl rfl
end
end TM
set_option Elab.async false
set_option linter.all false
set_option autoImplicit false
/-! a list of lists of whole numbers, each list an object of its own -/
namespace TM
open PySem
def dn (u : Nat) : D := .int (u : Int)
theorem dn_inj {a b : Nat} (h : dn a = dn b) : a = b := by
  have z : (a : Int) = (b : Int) := D.int.inj h
  omega
/-- ex: what is not touched -/
structure LLb (h : Hh) (y : Nat) (kids : List (List Nat)) (ex : Nat → Prop) (bs : List Nat) : Prop where
  top : h[y]? = some (.lst (bs.map D.ref))
  len : bs.length = kids.length
  nd : (y :: bs).Nodup
  at_ : ∀ (v b : Nat) (ks : List Nat), bs[v]? = some b → kids[v]? = some ks → h[b]? = some (.lst (ks.map dn))
  off : ∀ b ∈ y :: bs, ¬ ex b
  low : ∀ p, ex p → p < h.length
def LL (h : Hh) (y : Nat) (kids : List (List Nat)) (ex : Nat → Prop) : Prop := ∃ bs, LLb h y kids ex bs
section
variable {h : Hh} {y : Nat} {kids : List (List Nat)} {ex : Nat → Prop}
theorem get_lt {p : Nat} {o : O} (e : h[p]? = some o) : p < h.length := (List.getElem?_eq_some_iff.mp e).1
theorem LL.lt (q : LL h y kids ex) : y < h.length := by
  obtain ⟨bs, q⟩ := q
  exact get_lt q.top
theorem LL.tops (q : LL h y kids ex) : ∃ bs : List Nat, h[y]? = some (.lst (bs.map D.ref)) ∧ bs.length = kids.length := by
  obtain ⟨bs, q⟩ := q
  exact ⟨bs, q.top, q.len⟩
/-- the v-th list -/
theorem LL.get (q : LL h y kids ex) {v : Nat} {ks : List Nat} (hv : kids[v]? = some ks) : ∃ b, opIx (.ref y) (.int (v : Int)) h = .ok (.ref b) h ∧ h[b]? = some (.lst (ks.map dn)) ∧ b ≠ y ∧ ¬ ex b := by
  obtain ⟨bs, q⟩ := q
  have hl : v < bs.length := by rw [q.len]; exact (List.getElem?_eq_some_iff.mp hv).1
  have hb : bs[v]? = some bs[v] := List.getElem?_eq_getElem hl
  refine ⟨bs[v], opIx_n (seq_lst q.top) (by rw [List.getElem?_map, hb]; rfl), q.at_ v _ ks hb hv, ?_, q.off _ (List.mem_cons_of_mem _ (List.getElem_mem hl))⟩
  intro z
  have := (List.nodup_cons.mp q.nd).1
  exact this (z ▸ List.getElem_mem hl)
theorem LL.len_ok (q : LL h y kids ex) : fLen [.ref y] h = .ok (.int kids.length) h := by
  obtain ⟨bs, q⟩ := q
  rw [fLen_s (seq_lst q.top), List.length_map, q.len]
/-- another object is written -/
theorem LL.other (q : LL h y kids ex) {p : Nat} {o : O} (hp : ex p) : LL (h.set p o) y kids ex := by
  obtain ⟨bs, q⟩ := q
  have ne : ∀ b ∈ y :: bs, p ≠ b := fun b hb z => q.off b hb (z ▸ hp)
  refine ⟨bs, ?_, q.len, q.nd, fun v b ks h1 h2 => ?_, q.off, fun p hp => by simpa using q.low p hp⟩
  · rw [List.getElem?_set_ne (ne y List.mem_cons_self)]
    exact q.top
  · rw [List.getElem?_set_ne (ne b (List.mem_cons_of_mem _ (List.mem_of_getElem? h1)))]
    exact q.at_ v b ks h1 h2
theorem LL.more (q : LL h y kids ex) {t : Hh} : LL (h ++ t) y kids ex := by
  obtain ⟨bs, q⟩ := q
  refine ⟨bs, Pre.get ⟨t, rfl⟩ q.top, q.len, q.nd, fun v b ks h1 h2 => Pre.get ⟨t, rfl⟩ (q.at_ v b ks h1 h2), q.off, fun p hp => by have := q.low p hp; simp; omega⟩
theorem LL.lts {bs : List Nat} (q : LLb h y kids ex bs) : ∀ b ∈ y :: bs, b < h.length := by
  intro b hb
  rcases List.mem_cons.mp hb with rfl | hb
  · exact get_lt q.top
  · obtain ⟨i, hi⟩ := List.getElem?_of_mem hb
    have hl : i < kids.length := by rw [← q.len]; exact (List.getElem?_eq_some_iff.mp hi).1
    exact get_lt (q.at_ i b _ hi (List.getElem?_eq_getElem hl))
/-- a new object, not to be touched -/
theorem LL.keep (q : LL h y kids ex) {o : O} : LL (h ++ [o]) y kids (fun p => ex p ∨ p = h.length) := by
  obtain ⟨bs, q⟩ := q
  refine ⟨bs, Pre.one.get q.top, q.len, q.nd, fun v b ks h1 h2 => Pre.one.get (q.at_ v b ks h1 h2), fun b hb z => ?_, fun p hp => ?_⟩
  · rcases z with z | z
    · exact q.off b hb z
    · have := LL.lts q b hb
      omega
  · rcases hp with hp | hp
    · have := q.low p hp; simp; omega
    · simp; omega
theorem LL.weak {ex' : Nat → Prop} (q : LL h y kids ex) (hw : ∀ p, ex' p → ex p) : LL h y kids ex' := by
  obtain ⟨bs, q⟩ := q
  exact ⟨bs, q.top, q.len, q.nd, q.at_, fun b hb z => q.off b hb (hw b z), fun p hp => q.low p (hw p hp)⟩
/-- young.append([]) -/
theorem LL.push (q : LL h y kids ex) (hz : kids.length < sizeMax) : ∃ h', mAppend (.ref y) [.ref h.length] (h ++ [.lst []]) = .ok .non h' ∧ LL h' y (kids ++ [[]]) ex ∧ ∀ p, ex p → h'[p]? = h[p]? := by
  obtain ⟨bs, q⟩ := q
  have top : (h ++ [.lst []])[y]? = some (.lst (bs.map D.ref)) := Pre.one.get q.top
  refine ⟨(h ++ [O.lst []]).set y (O.lst ((bs ++ [h.length]).map D.ref)), ?_, ⟨bs ++ [h.length], ?_, by simp [q.len], ?_, ?_, ?_, ?_⟩, ?_⟩
  · unfold mAppend
    simp only
    rw [top]
    simp only
    rw [if_pos (by rw [List.length_map, q.len]; exact hz)]
    simp
  · rw [List.getElem?_set_self (by have := get_lt q.top; simp; omega)]
  · have := q.nd
    rw [← List.cons_append, List.nodup_append]
    refine ⟨this, by simp, fun a ha b hb z => ?_⟩
    simp at hb
    have := LL.lts q a ha
    omega
  · intro v b ks h1 h2
    by_cases hv : v < bs.length
    · rw [List.getElem?_append_left hv] at h1
      rw [List.getElem?_append_left (by rw [← q.len]; exact hv)] at h2
      rw [List.getElem?_set_ne (show y ≠ b from fun z => (List.nodup_cons.mp q.nd).1 (z ▸ List.mem_of_getElem? h1))]
      exact Pre.one.get (q.at_ v b ks h1 h2)
    · have hv' : v = bs.length := by
        have := (List.getElem?_eq_some_iff.mp h1).1
        simp at this
        omega
      subst hv'
      rw [List.getElem?_append_right (Nat.le_refl _)] at h1
      rw [List.getElem?_append_right (by rw [q.len]; exact Nat.le_refl _)] at h2
      simp at h1
      rw [q.len] at h2
      simp at h2
      subst h1 h2
      rw [List.getElem?_set_ne (show y ≠ h.length by have := get_lt q.top; omega)]
      exact get_new
  · intro b hb z
    rcases List.mem_cons.mp hb with rfl | hb
    · exact q.off b List.mem_cons_self z
    · rcases List.mem_append.mp hb with hb | hb
      · exact q.off b (List.mem_cons_of_mem _ hb) z
      · simp at hb
        have := q.low b z
        omega
  · intro p hp
    have := q.low p hp
    simp
    omega
  · intro p hp
    rw [List.getElem?_set_ne (show y ≠ p from fun z => q.off y List.mem_cons_self (z ▸ hp)), List.getElem?_append_left (q.low p hp)]
/-- the v-th list is written -/
theorem LL.write (q : LL h y kids ex) {v b : Nat} {ks' : List Nat} (hb : opIx (.ref y) (.int (v : Int)) h = .ok (.ref b) h) (hv : v < kids.length) : LL (h.set b (.lst (ks'.map dn))) y (kids.set v ks') ex ∧ ∀ p, ex p → (h.set b (.lst (ks'.map dn)))[p]? = h[p]? := by
  obtain ⟨bs, q⟩ := q
  have hl : v < bs.length := by rw [q.len]; exact hv
  have e1 := opIx_n (h := h) (r := y) (j := v) (d := .ref bs[v]) (seq_lst q.top) (by rw [List.getElem?_map, List.getElem?_eq_getElem hl]; rfl)
  rw [e1] at hb
  cases hb
  have nd := List.nodup_cons.mp q.nd
  refine ⟨⟨bs, ?_, by simp [q.len], q.nd, fun v' b' ks h1 h2 => ?_, q.off, fun p hp => by simpa using q.low p hp⟩, fun p hp => ?_⟩
  · rw [List.getElem?_set_ne (show bs[v] ≠ y from fun z => nd.1 (z ▸ List.getElem_mem hl))]
    exact q.top
  · by_cases hvv : v = v'
    · subst hvv
      rw [List.getElem?_eq_getElem hl] at h1
      cases h1
      rw [List.getElem?_set_self hv] at h2
      cases h2
      rw [List.getElem?_set_self (LL.lts q _ (List.mem_cons_of_mem _ (List.getElem_mem hl)))]
    · rw [List.getElem?_set_ne hvv] at h2
      have hne : bs[v] ≠ b' := fun z => by
        obtain ⟨l1, g1⟩ := List.getElem?_eq_some_iff.mp h1
        exact hvv ((List.getElem_inj nd.2).mp (z.trans g1.symm))
      rw [List.getElem?_set_ne hne]
      exact q.at_ v' b' ks h1 h2
  · rw [List.getElem?_set_ne (show bs[v] ≠ p from fun z => q.off _ (List.mem_cons_of_mem _ (List.getElem_mem hl)) (z ▸ hp))]
/-- young[v].append(u) -/
theorem LL.add (q : LL h y kids ex) {v b u : Nat} {ks : List Nat} (hb : opIx (.ref y) (.int (v : Int)) h = .ok (.ref b) h) (hv : kids[v]? = some ks) (hz : ks.length < sizeMax) :
    ∃ h', mAppend (.ref b) [dn u] h = .ok .non h' ∧ LL h' y (kids.set v (ks ++ [u])) ex ∧ ∀ p, ex p → h'[p]? = h[p]? := by
  obtain ⟨b', e1, e2, _, _⟩ := q.get hv
  rw [e1] at hb
  cases hb
  have := q.write (ks' := ks ++ [u]) e1 (List.getElem?_eq_some_iff.mp hv).1
  refine ⟨_, ?_, this⟩
  unfold mAppend
  simp only
  rw [e2]
  simp only
  rw [if_pos (by rw [List.length_map]; exact hz)]
  simp
/-- young[v].insert(at, u) -/
theorem LL.ins (q : LL h y kids ex) {v b u i : Nat} {ks : List Nat} (hb : opIx (.ref y) (.int (v : Int)) h = .ok (.ref b) h) (hv : kids[v]? = some ks) (hz : ks.length < sizeMax) (hi : i < 1000000) :
    ∃ h', mInsert (.ref b) [.int (i : Int), dn u] h = .ok .non h' ∧ LL h' y (kids.set v (ks.take i ++ u :: ks.drop i)) ex ∧ ∀ p, ex p → h'[p]? = h[p]? := by
  obtain ⟨b', e1, e2, _, _⟩ := q.get hv
  rw [e1] at hb
  cases hb
  have := q.write (ks' := ks.take i ++ u :: ks.drop i) e1 (List.getElem?_eq_some_iff.mp hv).1
  refine ⟨_, ?_, this⟩
  unfold mInsert
  simp only
  rw [e2]
  simp only
  rw [if_pos ⟨by omega, by omega, by rw [List.length_map]; exact hz⟩]
  simp [List.map_take, List.map_drop]
/-- young[v] = (a new list) -/
theorem LL.repl (q : LL h y kids ex) {v : Nat} {ks' : List Nat} (hv : v < kids.length) :
    ∃ h', opPut (.ref y) (.int (v : Int)) (.ref h.length) (h ++ [.lst (ks'.map dn)]) = .ok () h' ∧ LL h' y (kids.set v ks') ex ∧ ∀ p, ex p → h'[p]? = h[p]? := by
  obtain ⟨bs, q⟩ := q
  have hl : v < bs.length := by rw [q.len]; exact hv
  have top : (h ++ [.lst (ks'.map dn)])[y]? = some (.lst (bs.map D.ref)) := Pre.one.get q.top
  have nd := List.nodup_cons.mp q.nd
  have hlt := LL.lts q
  refine ⟨(h ++ [O.lst (ks'.map dn)]).set y (O.lst ((bs.set v h.length).map D.ref)), ?_, ⟨bs.set v h.length, ?_, by simp [q.len], ?_, ?_, ?_, ?_⟩, ?_⟩
  · unfold opPut
    simp only
    rw [top]
    simp only
    rw [ixAt_nn (by omega) (by rw [List.length_map]; omega)]
    simp
  · rw [List.getElem?_set_self (by have := get_lt q.top; simp; omega)]
  · refine List.nodup_cons.mpr ⟨fun hm => ?_, ?_⟩
    · rcases List.mem_or_eq_of_mem_set hm with z | z
      · exact nd.1 z
      · have := get_lt q.top; omega
    · rw [List.nodup_iff_pairwise_ne, List.pairwise_iff_getElem]
      intro i j hi hj hij z
      rw [List.getElem_set, List.getElem_set] at z
      simp at hi hj
      have l1 := hlt bs[i] (List.mem_cons_of_mem _ (List.getElem_mem hi))
      have l2 := hlt bs[j] (List.mem_cons_of_mem _ (List.getElem_mem hj))
      split at z
      · split at z
        · omega
        · omega
      · split at z
        · omega
        · have := (List.getElem_inj nd.2).mp z
          omega
  · intro v' b' ks h1 h2
    by_cases hvv : v = v'
    · subst hvv
      rw [List.getElem?_set_self hl] at h1
      cases h1
      rw [List.getElem?_set_self hv] at h2
      cases h2
      rw [List.getElem?_set_ne (show y ≠ h.length by have := get_lt q.top; omega)]
      exact get_new
    · rw [List.getElem?_set_ne hvv] at h1 h2
      rw [List.getElem?_set_ne (show y ≠ b' from fun z => nd.1 (z ▸ List.mem_of_getElem? h1))]
      exact Pre.one.get (q.at_ v' b' ks h1 h2)
  · intro b hb z
    rcases List.mem_cons.mp hb with rfl | hb
    · exact q.off b List.mem_cons_self z
    · rcases List.mem_or_eq_of_mem_set hb with hb | hb
      · exact q.off b (List.mem_cons_of_mem _ hb) z
      · have := q.low b z; omega
  · intro p hp
    have := q.low p hp
    simp
    omega
  · intro p hp
    rw [List.getElem?_set_ne (show y ≠ p from fun z => q.off y List.mem_cons_self (z ▸ hp)), List.getElem?_append_left (q.low p hp)]
end
end TM
set_option linter.all false
set_option autoImplicit false
/-! trees by their depths: parts, young, walks -/
namespace TR
/-- e is where i's part ends -/
structure IsEnd (g : Nat → Nat) (n i e : Nat) : Prop where
  lt : i < e
  le : e ≤ n
  deep : ∀ j, i < j → j < e → g i < g j
  stop : e < n → g e ≤ g i
theorem IsEnd.uniq {g : Nat → Nat} {n i e e' : Nat} (a : IsEnd g n i e) (b : IsEnd g n i e') : e = e' := by
  rcases Nat.lt_trichotomy e e' with h | h | h
  · have h1 := a.stop (by have := b.le; omega)
    have h2 := b.deep e a.lt h
    omega
  · exact h
  · have h1 := b.stop (by have := a.le; omega)
    have h2 := a.deep e' b.lt h
    omega
theorem isEnd_ex (g : Nat → Nat) (n i : Nat) (hi : i < n) : ∃ e, IsEnd g n i e := by
  have : ∀ k j, n - j = k → i < j → j ≤ n → (∀ m, i < m → m < j → g i < g m) → ∃ e, IsEnd g n i e := by
    intro k
    induction k with
    | zero => intro j h1 h2 h3 h4; exact ⟨j, h2, h3, h4, fun z => by omega⟩
    | succ k ih =>
      intro j h1 h2 h3 h4
      by_cases h : g i < g j
      · refine ih (j + 1) (by omega) (by omega) (by omega) fun m h5 h6 => ?_
        by_cases hm : m = j
        · rw [hm]; exact h
        · exact h4 m h5 (by omega)
      · exact ⟨j, h2, h3, h4, fun _ => by omega⟩
  exact this _ (i + 1) rfl (by omega) (by omega) fun m _ _ => by omega
noncomputable def En (g : Nat → Nat) (n i : Nat) : Nat := if h : i < n then (isEnd_ex g n i h).choose else 0
theorem isEnd {g : Nat → Nat} {n i : Nat} (h : i < n) : IsEnd g n i (En g n i) := by
  unfold En
  rw [dif_pos h]
  exact (isEnd_ex g n i h).choose_spec
theorem En_eq {g : Nat → Nat} {n i e : Nat} (a : IsEnd g n i e) : En g n i = e := (isEnd (by have := a.lt; have := a.le; omega)).uniq a
/-- a tree: one root, each depth at most one more than the one ahead -/
structure WF (g : Nat → Nat) (n : Nat) : Prop where
  pos : 0 < n
  root : g 0 = 0
  step : ∀ i, i + 1 < n → 1 ≤ g (i + 1) ∧ g (i + 1) ≤ g i + 1
/-- the young of v -/
noncomputable def kids (g : Nat → Nat) (n : Nat) (v : Nat) : List Nat := (List.range' (v + 1) (En g n v - (v + 1))).filter fun u => decide (g u = g v + 1)
/-- F of a .. b - 1 -/
def seg {α : Type} (F : Nat → α) (a b : Nat) : List α := (List.range' a (b - a)).map F
section
variable {α : Type} {F G : Nat → α} {a b c : Nat}
theorem seg_nil : seg F a a = [] := by simp [seg]
theorem seg_add (h1 : a ≤ b) (h2 : b ≤ c) : seg F a b ++ seg F b c = seg F a c := by
  unfold seg
  rw [← List.map_append]
  congr 1
  have e1 : b = a + 1 * (b - a) := by omega
  have : c - a = (b - a) + (c - b) := by omega
  rw [this, ← List.range'_append]
  congr 2
theorem seg_cons (h : a < b) : seg F a b = F a :: seg F (a + 1) b := by
  unfold seg
  have : b - a = (b - (a + 1)) + 1 := by omega
  rw [this, List.range'_succ]
  rfl
theorem seg_length : (seg F a b).length = b - a := by simp [seg]
theorem seg_congr (h : ∀ i, a ≤ i → i < b → F i = G i) : seg F a b = seg G a b := by
  unfold seg
  apply List.map_congr_left
  intro i hi
  rw [List.mem_range'_1] at hi
  exact h i hi.1 (by omega)
theorem mem_seg {x : α} : x ∈ seg F a b ↔ ∃ i, a ≤ i ∧ i < b ∧ F i = x := by
  unfold seg
  simp only [List.mem_map, List.mem_range'_1]
  constructor
  · rintro ⟨i, h, e⟩; exact ⟨i, h.1, by omega, e⟩
  · rintro ⟨i, h1, h2, e⟩; exact ⟨i, by omega, e⟩
end

/-! ### young, one behind the other -/
inductive Chain (g : Nat → Nat) (n : Nat) : Nat → Nat → List Nat → Prop
  | nil (lo : Nat) : Chain g n lo lo []
  | cons {lo hi : Nat} {cs : List Nat} (h : lo < n) (t : Chain g n (En g n lo) hi cs) : Chain g n lo hi (lo :: cs)
section
variable {g : Nat → Nat} {n : Nat}
theorem En_mono {v u : Nat} (hv : v < n) (h1 : v ≤ u) (h2 : u < En g n v) : En g n u ≤ En g n v := by
  have a := isEnd (g := g) hv
  have b := isEnd (g := g) (n := n) (i := u) (by have := a.le; omega)
  by_cases h : En g n v < n
  · rcases Nat.lt_or_ge (En g n v) (En g n u) with z | z
    · have h3 := b.deep (En g n v) (by omega) z
      have h4 := a.stop h
      by_cases hu : v = u
      · subst hu; omega
      · have := a.deep u (by omega) h2
        omega
    · exact z
  · have := b.le
    omega
theorem chain_of {d : Nat} : ∀ (k lo hi : Nat), hi - lo ≤ k → lo ≤ hi → hi ≤ n → (∀ j, lo ≤ j → j < hi → d ≤ g j) → (lo < hi → g lo = d) → (hi < n → g hi < d) → (∀ i, i + 1 < n → g (i + 1) ≤ g i + 1) →
    Chain g n lo hi ((List.range' lo (hi - lo)).filter fun u => decide (g u = d)) := by
  intro k
  induction k with
  | zero =>
    intro lo hi h1 h2 h3 h4 h5 h6 h7
    have : lo = hi := by omega
    subst this
    simp only [Nat.sub_self, List.range'_zero, List.filter_nil]
    exact .nil lo
  | succ k ih =>
    intro lo hi h1 h2 h3 h4 h5 h6 h7
    by_cases hl : lo < hi
    · have hd := h5 hl
      have a := isEnd (g := g) (n := n) (i := lo) (by omega)
      have ah : En g n lo ≤ hi := by
        rcases Nat.lt_or_ge hi (En g n lo) with z | z
        · have h8 := a.deep hi hl z
          have h9 := a.le
          have := h6 (by omega)
          omega
        · exact z
      have e1 : hi - lo = 1 + ((En g n lo - (lo + 1)) + (hi - En g n lo)) := by have := a.lt; omega
      have e2 : List.range' lo (hi - lo) = lo :: (List.range' (lo + 1) (En g n lo - (lo + 1)) ++ List.range' (En g n lo) (hi - En g n lo)) := by
        rw [e1, Nat.add_comm 1, List.range'_succ, ← List.range'_append]
        congr 3
        have := a.lt; omega
      rw [e2, List.filter_cons, if_pos (by simpa using hd), List.filter_append]
      have e3 : (List.range' (lo + 1) (En g n lo - (lo + 1))).filter (fun u => decide (g u = d)) = [] := by
        rw [List.filter_eq_nil_iff]
        intro u hu
        rw [List.mem_range'_1] at hu
        have := a.deep u (by omega) (by omega)
        simp
        omega
      rw [e3, List.nil_append]
      refine .cons (by omega) (ih (En g n lo) hi (by have := a.lt; omega) ah h3 (fun j h8 h9 => h4 j (by have := a.lt; omega) h9) (fun h8 => ?_) h6 h7)
      have h9 := a.stop (by omega)
      have h10 := h4 (En g n lo) (by have := a.lt; omega) h8
      omega
    · have : lo = hi := by omega
      subst this
      simp only [Nat.sub_self, List.range'_zero, List.filter_nil]
      exact .nil lo
theorem kids_chain (wf : WF g n) {v : Nat} (hv : v < n) : Chain g n (v + 1) (En g n v) (kids g n v) := by
  have a := isEnd (g := g) hv
  refine chain_of _ _ _ (Nat.le_refl _) a.lt a.le (fun j h1 h2 => a.deep j (by omega) h2) (fun h => ?_) (fun h => ?_) fun i hi => (wf.step i hi).2
  · have h1 := a.deep (v + 1) (by omega) h
    have h2 := (wf.step v (by have := a.le; omega)).2
    omega
  · have := a.stop h
    omega
theorem Chain.le {lo hi : Nat} {cs : List Nat} (h : Chain g n lo hi cs) : lo ≤ hi := by
  induction h with
  | nil lo => exact Nat.le_refl _
  | cons h t ih => have := (isEnd (g := g) h).lt; omega
theorem Chain.mem {lo hi : Nat} {cs : List Nat} (h : Chain g n lo hi cs) : ∀ c ∈ cs, lo ≤ c ∧ c < n ∧ c < En g n c ∧ En g n c ≤ hi := by
  induction h with
  | nil lo => intro c hc; cases hc
  | @cons lo hi cs h t ih =>
    intro c hc
    have h1 := (isEnd (g := g) h).lt
    rcases List.mem_cons.mp hc with rfl | hc
    · exact ⟨Nat.le_refl _, h, h1, t.le⟩
    · obtain ⟨z1, z2⟩ := ih c hc
      exact ⟨by omega, z2⟩
theorem Chain.flat {α : Type} {F : Nat → α} {f : Nat → List α} {lo hi : Nat} {cs : List Nat} (h : Chain g n lo hi cs) (hf : ∀ c ∈ cs, f c = seg F c (En g n c)) : cs.flatMap f = seg F lo hi := by
  induction h with
  | nil lo => rw [seg_nil]; rfl
  | @cons lo hi cs h t ih =>
    rw [List.flatMap_cons, hf lo List.mem_cons_self, ih fun c hc => hf c (List.mem_cons_of_mem _ hc)]
    exact seg_add (by have := (isEnd (g := g) h).lt; omega) t.le
theorem Chain.append {lo mid hi : Nat} {cs ds : List Nat} (h : Chain g n lo mid cs) (k : Chain g n mid hi ds) : Chain g n lo hi (cs ++ ds) := by
  induction h with
  | nil lo => exact k
  | cons h t ih => exact .cons h (ih k)
/-- a chain is cut at each of its places -/
theorem Chain.split {lo hi : Nat} {cs ds : List Nat} : Chain g n lo hi (cs ++ ds) → ∃ mid, Chain g n lo mid cs ∧ Chain g n mid hi ds := by
  induction cs generalizing lo with
  | nil => intro h; exact ⟨lo, .nil lo, h⟩
  | cons c cs ih =>
    intro h
    cases h with
    | cons h t =>
      obtain ⟨mid, z1, z2⟩ := ih t
      exact ⟨mid, .cons h z1, z2⟩
theorem Chain.nodup {lo hi : Nat} {cs : List Nat} (h : Chain g n lo hi cs) : cs.Nodup := by
  induction h with
  | nil lo => exact List.nodup_nil
  | @cons lo hi cs h t ih =>
    refine List.nodup_cons.mpr ⟨fun hm => ?_, ih⟩
    have := (t.mem lo hm).1
    have := (isEnd (g := g) h).lt
    omega
/-- each place of the chain lies in one part -/
theorem Chain.find {lo hi : Nat} {cs : List Nat} (h : Chain g n lo hi cs) {u : Nat} (h1 : lo ≤ u) (h2 : u < hi) : ∃ c ∈ cs, c ≤ u ∧ u < En g n c := by
  induction h with
  | nil lo => omega
  | @cons lo hi cs h t ih =>
    rcases Nat.lt_or_ge u (En g n lo) with z | z
    · exact ⟨lo, List.mem_cons_self, h1, z⟩
    · obtain ⟨c, hc, z⟩ := ih z h2
      exact ⟨c, List.mem_cons_of_mem _ hc, z⟩
theorem mem_kids {v u : Nat} : u ∈ kids g n v ↔ v < u ∧ u < En g n v ∧ g u = g v + 1 := by
  unfold kids
  rw [List.mem_filter, List.mem_range'_1]
  simp only [decide_eq_true_eq]
  constructor
  · rintro ⟨h1, h2⟩; exact ⟨by omega, by omega, h2⟩
  · rintro ⟨h1, h2, h3⟩; exact ⟨by omega, h3⟩
/-- two parts: one holds the other one, or they are apart -/
theorem parts {v u : Nat} (hv : v < n) (hu : u < n) (h : v ≤ u) : (u < En g n v ∧ En g n u ≤ En g n v) ∨ En g n v ≤ u := by
  rcases Nat.lt_or_ge u (En g n v) with z | z
  · exact .inl ⟨z, En_mono hv h z⟩
  · exact .inr z
end
/-! ### a walk by a stack of nodes and depths -/
inductive Out {W : Type} (Y : Nat → List Nat) (w : Nat → W) : List (Nat × Nat) → List (Nat × W) → Prop
  | nil : Out Y w [] []
  | step {v d : Nat} {rest : List (Nat × Nat)} {l : List (Nat × W)} (h : Out Y w ((Y v).map (fun c => (c, d + 1)) ++ rest) l) : Out Y w ((v, d) :: rest) ((d, w v) :: l)
section
variable {W : Type} {Y : Nat → List Nat} {w : Nat → W}
theorem Out.app {s t : List (Nat × Nat)} {l k : List (Nat × W)} (a : Out Y w s l) (b : Out Y w t k) : Out Y w (s ++ t) (l ++ k) := by
  induction a with
  | nil => exact b
  | step h ih => exact .step (by rw [List.append_assoc] at ih; exact ih)
theorem Out.one {v d : Nat} {l : List (Nat × W)} (a : Out Y w ((Y v).map fun c => (c, d + 1)) l) : Out Y w [(v, d)] ((d, w v) :: l) := .step (by simpa using a)
theorem Out.many {cs : List Nat} {d : Nat} {f : Nat → List (Nat × W)} (h : ∀ c ∈ cs, Out Y w [(c, d)] (f c)) : Out Y w (cs.map fun c => (c, d)) (cs.flatMap f) := by
  induction cs with
  | nil => exact .nil
  | cons c cs ih =>
    rw [List.map_cons, List.flatMap_cons]
    exact (h c List.mem_cons_self).app (ih fun c hc => h c (List.mem_cons_of_mem _ hc))
/-- a part as it was, at another depth -/
theorem Out.part {g : Nat → Nat} {n : Nat} (wf : WF g n) : ∀ (k v d : Nat), n - v ≤ k → v < n → (∀ u, v ≤ u → u < En g n v → Y u = kids g n u) → Out Y w [(v, d)] (seg (fun u => (d + (g u - g v), w u)) v (En g n v)) := by
  intro k
  induction k with
  | zero => intro v d h1 h2; omega
  | succ k ih =>
    intro v d h1 h2 h3
    have a := isEnd (g := g) h2
    rw [seg_cons a.lt]
    simp only [Nat.sub_self, Nat.add_zero]
    refine Out.one ?_
    rw [h3 v (Nat.le_refl _) a.lt]
    rw [← (kids_chain wf h2).flat (f := fun c => seg (fun u => (d + (g u - g v), w u)) c (En g n c)) fun c _ => rfl]
    refine Out.many fun c hc => ?_
    obtain ⟨c1, c2, c3, c4⟩ := (kids_chain wf h2).mem c hc
    have c5 := (mem_kids.mp hc).2.2
    have := ih c (d + 1) (by omega) c2 fun u h4 h5 => h3 u (by omega) (by omega)
    rw [seg_congr (G := fun u => (d + 1 + (g u - g c), w u)) fun u h4 h5 => ?_]
    · exact this
    · have : g c ≤ g u := by
        by_cases hu : c = u
        · rw [hu]; exact Nat.le_refl _
        · exact Nat.le_of_lt ((isEnd (g := g) c2).deep u (by omega) h5)
      congr 1
      omega
end

/-! ### the lists of young, made from the front -/
section
variable {g : Nat → Nat} {n : Nat}
/-- the young of v ahead of m -/
noncomputable def yk (g : Nat → Nat) (n m v : Nat) : List Nat := (List.range' (v + 1) (m - (v + 1))).filter fun u => decide (v < u ∧ u < En g n v ∧ g u = g v + 1)
theorem yk_step {m v : Nat} (h : v < m) : yk g n (m + 1) v = yk g n m v ++ if v < m ∧ m < En g n v ∧ g m = g v + 1 then [m] else [] := by
  unfold yk
  have e1 : m + 1 - (v + 1) = (m - (v + 1)) + 1 := by omega
  rw [e1, ← List.range'_append (step := 1), List.filter_append]
  congr 1
  have : v + 1 + 1 * (m - (v + 1)) = m := by omega
  rw [this, List.range'_one, List.filter_cons, List.filter_nil]
  by_cases hc : v < m ∧ m < En g n v ∧ g m = g v + 1
  · simp [hc]
  · simp [hc]
theorem yk_end {v : Nat} (hv : v < n) : yk g n n v = kids g n v := by
  have a := isEnd (g := g) hv
  have h1 := a.lt
  have h2 := a.le
  unfold yk kids
  have e1 : n - (v + 1) = (En g n v - (v + 1)) + (n - En g n v) := by omega
  rw [e1, ← List.range'_append (step := 1), List.filter_append]
  have e2 : v + 1 + 1 * (En g n v - (v + 1)) = En g n v := by omega
  rw [e2]
  have e3 : (List.range' (En g n v) (n - En g n v)).filter (fun u => decide (v < u ∧ u < En g n v ∧ g u = g v + 1)) = [] := by
    rw [List.filter_eq_nil_iff]
    intro u hu
    rw [List.mem_range'_1] at hu
    simp
    omega
  rw [e3, List.append_nil]
  apply List.filter_congr
  intro u hu
  rw [List.mem_range'_1] at hu
  rw [decide_eq_decide]
  omega
/-- the last one at the depth d ahead of m -/
def IsLast (g : Nat → Nat) (m d p : Nat) : Prop := p < m ∧ g p = d ∧ ∀ j, p < j → j < m → g j ≠ d
theorem par_ex (wf : WF g n) {m : Nat} (h1 : 1 ≤ m) (h2 : m < n) : ∃ p, IsLast g m (g m - 1) p ∧ m < En g n p ∧ g m = g p + 1 := by
  have hm := (wf.step (m - 1) (by omega)).1
  rw [show m - 1 + 1 = m by omega] at hm
  have : ∀ k, k < m → (∀ j, m - 1 - k < j → j < m → g m ≤ g j) → ∃ p, p < m ∧ g p < g m ∧ ∀ j, p < j → j < m → g m ≤ g j := by
    intro k
    induction hk : m - 1 - k generalizing k with
    | zero => intro h3 h4; exact ⟨0, by omega, by rw [wf.root]; omega, h4⟩
    | succ q ih =>
      intro h3 h4
      by_cases hq : g (q + 1) < g m
      · exact ⟨q + 1, by omega, hq, h4⟩
      · refine ih (k + 1) (by omega) (by omega) fun j h5 h6 => ?_
        by_cases hj : j = q + 1
        · rw [hj]; omega
        · exact h4 j (by omega) h6
  obtain ⟨p, p1, p2, p3⟩ := this 0 (by omega) fun j h3 h4 => by omega
  have hs := (wf.step p (by omega)).2
  have hp : g m ≤ g (p + 1) := by
    by_cases hpm : p + 1 = m
    · rw [hpm]; exact Nat.le_refl _
    · exact p3 (p + 1) (by omega) (by omega)
  have hn : p < n := by omega
  have a := isEnd (g := g) hn
  refine ⟨p, ⟨p1, by omega, fun j h3 h4 z => by have := p3 j h3 h4; omega⟩, ?_, by omega⟩
  rcases Nat.lt_or_ge m (En g n p) with z | z
  · exact z
  · have h5 := a.stop (by omega)
    have := a.lt
    by_cases hz : En g n p = m
    · rw [hz] at h5; omega
    · have := p3 (En g n p) (by omega) (by omega)
      omega
/-- one elder only -/
theorem par_uniq {m p v : Nat} (hp : IsLast g m (g m - 1) p) (hv : v < m) (h1 : m < En g n v) (h2 : g m = g v + 1) (hvn : v < n) : v = p := by
  obtain ⟨p1, p2, p3⟩ := hp
  have a := isEnd (g := g) hvn
  rcases Nat.lt_trichotomy v p with z | z | z
  · have := a.deep p z (by omega)
    omega
  · exact z
  · exact absurd (by omega) (p3 v z hv)
end

theorem Chain.sum {g : Nat → Nat} {n lo hi : Nat} {cs : List Nat} (h : Chain g n lo hi cs) : (cs.map fun c => En g n c - c).sum = hi - lo := by
  induction h with
  | nil lo => simp
  | @cons lo hi cs h t ih =>
    rw [List.map_cons, List.sum_cons, ih]
    have := (isEnd (g := g) h).lt
    have := t.le
    omega
theorem Out.len {W : Type} {Y : Nat → List Nat} {w : Nat → W} {s : List (Nat × Nat)} {l : List (Nat × W)} (h : Out Y w s l) : s.length ≤ l.length := by
  induction h with
  | nil => exact Nat.le_refl _
  | step h ih =>
    simp at ih ⊢
    omega
end TR
set_option linter.all false
set_option autoImplicit false
/-! a part is moved: the walk by the changed lists of young -/
namespace TR
/-- a list cut where the k-th kept one stands -/
theorem filter_cut {α : Type} (p : α → Bool) : ∀ (l : List α) (k : Nat), ∃ pre post, l = pre ++ post ∧ pre.filter p = (l.filter p).take k ∧ post.filter p = (l.filter p).drop k ∧ (post = [] ∨ ∃ c t, post = c :: t ∧ p c = true)
  | [], k => ⟨[], [], rfl, by simp, by simp, .inl rfl⟩
  | c :: l, 0 => by
    by_cases hc : p c = true
    · exact ⟨[], c :: l, rfl, by simp, by simp, .inr ⟨c, l, rfl, hc⟩⟩
    · obtain ⟨pre, post, h1, h2, h3, h4⟩ := filter_cut p l 0
      refine ⟨c :: pre, post, by rw [h1]; rfl, ?_, ?_, h4⟩
      · rw [List.filter_cons, if_neg hc, h2]; simp
      · rw [h3, List.filter_cons, if_neg hc]
  | c :: l, k + 1 => by
    by_cases hc : p c = true
    · obtain ⟨pre, post, h1, h2, h3, h4⟩ := filter_cut p l k
      refine ⟨c :: pre, post, by rw [h1]; rfl, ?_, ?_, h4⟩
      · rw [List.filter_cons, if_pos hc, h2, List.filter_cons, if_pos hc, List.take_succ_cons]
      · rw [h3, List.filter_cons, if_pos hc, List.drop_succ_cons]
    · obtain ⟨pre, post, h1, h2, h3, h4⟩ := filter_cut p l (k + 1)
      refine ⟨c :: pre, post, by rw [h1]; rfl, ?_, ?_, h4⟩
      · rw [List.filter_cons, if_neg hc, h2, List.filter_cons, if_neg hc]
      · rw [h3, List.filter_cons, if_neg hc]
theorem flatMap_filter {α β : Type} {p : α → Bool} {f : α → List β} : ∀ {l : List α}, (∀ c ∈ l, p c = false → f c = []) → (l.filter p).flatMap f = l.flatMap f
  | [], _ => rfl
  | c :: l, h => by
    have ih := flatMap_filter (l := l) fun c hc => h c (List.mem_cons_of_mem _ hc)
    by_cases hc : p c = true
    · rw [List.filter_cons, if_pos hc, List.flatMap_cons, List.flatMap_cons, ih]
    · rw [List.filter_cons, if_neg hc, List.flatMap_cons, h c List.mem_cons_self (by simpa using hc), ih]
      rfl
section
variable {W : Type} (g : Nat → Nat) (n : Nat) (w : Nat → W) (node elder at_ : Nat)
/-- a .. b - 1 without the part -/
noncomputable def sl (a b : Nat) : List (Nat × W) :=
  (seg (fun u => if node ≤ u ∧ u < En g n node then [] else [(g u, w u)]) a b).flatten
end
end TR
namespace TR
section
variable {W : Type} {g : Nat → Nat} {n : Nat} {w : Nat → W} {node elder at_ : Nat}
noncomputable def others (g : Nat → Nat) (n elder node : Nat) : List Nat := (kids g n elder).filter fun c => decide (c ≠ node)
noncomputable def spot (g : Nat → Nat) (n elder node at_ : Nat) : Nat := (others g n elder node)[at_]?.getD (En g n elder)
noncomputable def young' (g : Nat → Nat) (n elder node at_ : Nat) (v : Nat) : List Nat := if v = elder then (others g n elder node).take at_ ++ node :: (others g n elder node).drop at_ else (kids g n v).filter fun c => decide (c ≠ node)
noncomputable def part' (g : Nat → Nat) (n : Nat) (w : Nat → W) (elder node : Nat) : List (Nat × W) := seg (fun u => (g elder + 1 + (g u - g node), w u)) node (En g n node)
theorem sl_nil {a : Nat} : sl g n w node a a = [] := by unfold sl; rw [seg_nil]; rfl
theorem sl_add {a b c : Nat} (h1 : a ≤ b) (h2 : b ≤ c) : sl g n w node a b ++ sl g n w node b c = sl g n w node a c := by
  unfold sl
  rw [← List.flatten_append, seg_add h1 h2]
theorem sl_cons {a b : Nat} (h : a < b) (ha : ¬ (node ≤ a ∧ a < En g n node)) : sl g n w node a b = (g a, w a) :: sl g n w node (a + 1) b := by
  unfold sl
  rw [seg_cons h, List.flatten_cons, if_neg ha]
  rfl
theorem sl_part : sl g n w node node (En g n node) = [] := by
  unfold sl
  rw [List.flatten_eq_nil_iff]
  intro l hl
  obtain ⟨i, h1, h2, h3⟩ := mem_seg.mp hl
  rw [if_pos ⟨h1, h2⟩] at h3
  exact h3.symm
/-- where the part is not -/
theorem sl_seg {a b : Nat} (h : ∀ u, a ≤ u → u < b → ¬ (node ≤ u ∧ u < En g n node)) : sl g n w node a b = seg (fun u => (g u, w u)) a b := by
  unfold sl
  have : seg (fun u => if node ≤ u ∧ u < En g n node then [] else [(g u, w u)]) a b = (seg (fun u => (g u, w u)) a b).map fun x => [x] := by
    rw [seg_congr (G := fun u => [(g u, w u)]) fun u h1 h2 => if_neg (h u h1 h2)]
    unfold seg
    rw [List.map_map]
    rfl
  rw [this]
  induction seg (fun u => (g u, w u)) a b with
  | nil => rfl
  | cons x l ih => rw [List.map_cons, List.flatten_cons, ih]; rfl
theorem Chain.flat_sl {f : Nat → List (Nat × W)} {lo hi : Nat} {cs : List Nat} (h : Chain g n lo hi cs) (hf : ∀ c ∈ cs, f c = sl g n w node c (En g n c)) : cs.flatMap f = sl g n w node lo hi := by
  induction h with
  | nil lo => rw [sl_nil]; rfl
  | @cons lo hi cs h t ih =>
    rw [List.flatMap_cons, hf lo List.mem_cons_self, ih fun c hc => hf c (List.mem_cons_of_mem _ hc)]
    exact sl_add (by have := (isEnd (g := g) h).lt; omega) t.le
theorem child_out (hnode : node < n) {v c : Nat} (hv : v < n) (hout : ¬ (node ≤ v ∧ v < En g n node)) (hc : c ∈ kids g n v) (hne : c ≠ node) : ¬ (node ≤ c ∧ c < En g n node) := by
  rintro ⟨h1, h2⟩
  obtain ⟨c1, c2, c3⟩ := mem_kids.mp hc
  have an := isEnd (g := g) hnode
  have av := isEnd (g := g) hv
  have h3 := an.deep c (by omega) h2
  by_cases hvn : v < node
  · have := av.deep node hvn (by omega)
    omega
  · omega
theorem spot_lt (wf : WF g n) (he : elder < n) : elder < spot g n elder node at_ ∧ spot g n elder node at_ ≤ En g n elder := by
  unfold spot
  have a := isEnd (g := g) he
  cases h : (others g n elder node)[at_]? with
  | none => exact ⟨a.lt, Nat.le_refl _⟩
  | some c =>
    have hm := List.mem_of_getElem? h
    unfold others at hm
    rw [List.mem_filter] at hm
    obtain ⟨z1, z2, _⟩ := mem_kids.mp hm.1
    exact ⟨z1, by simp only [Option.getD_some]; omega⟩
theorem moved_walk (wf : WF g n) (hnode : node < n) (he : elder < n) (hout : ¬ (node ≤ elder ∧ elder < En g n node)) : ∀ (k v : Nat), n - v ≤ k → v < n → ¬ (node ≤ v ∧ v < En g n node) →
    Out (young' g n elder node at_) w [(v, g v)] (if v ≤ elder ∧ elder < En g n v then sl g n w node v (spot g n elder node at_) ++ part' g n w elder node ++ sl g n w node (spot g n elder node at_) (En g n v) else sl g n w node v (En g n v)) := by
  intro k
  induction k with
  | zero => intro v h1 h2; omega
  | succ k ih =>
    intro v h1 h2 h3
    have a := isEnd (g := g) h2
    have ae := isEnd (g := g) he
    obtain ⟨s1, s2⟩ := spot_lt (g := g) (n := n) (node := node) (at_ := at_) wf he
    have ch := kids_chain wf h2
    have nsl : ∀ c ∈ kids g n v, decide (c ≠ node) = false → sl g n w node c (En g n c) = [] := fun c _ hd => by
      have : c = node := by simpa using hd
      rw [this]
      exact sl_part
    by_cases hve : v = elder
    · subst hve
      rw [if_pos ⟨Nat.le_refl _, a.lt⟩, sl_cons s1 h3, List.cons_append, List.cons_append]
      refine Out.one ?_
      rw [show young' g n v node at_ v = (others g n v node).take at_ ++ node :: (others g n v node).drop at_ from if_pos rfl]
      obtain ⟨pre, post, p1, p2, p3, p4⟩ := filter_cut (fun c => decide (c ≠ node)) (kids g n v) at_
      rw [p1] at ch
      obtain ⟨mid, ch1, ch2⟩ := ch.split
      have hmid : mid = spot g n v node at_ := by
        unfold spot
        rcases p4 with rfl | ⟨c, t, rfl, hc⟩
        · cases ch2
          have : (others g n v node)[at_]? = none := by
            rw [List.getElem?_eq_none_iff]
            have : (others g n v node).drop at_ = [] := by simpa [others] using p3.symm
            exact List.drop_eq_nil_iff.mp this
          rw [this]
          rfl
        · cases ch2
          have : ((others g n v node).drop at_)[0]? = some mid := by
            unfold others
            rw [← p3, List.filter_cons, if_pos hc]
            rfl
          rw [List.getElem?_drop] at this
          rw [show at_ + 0 = at_ from rfl] at this
          rw [this]
          rfl
      rw [← hmid, ← ch1.flat_sl (f := fun c => sl g n w node c (En g n c)) fun _ _ => rfl, ← ch2.flat_sl (f := fun c => sl g n w node c (En g n c)) fun _ _ => rfl]
      rw [← flatMap_filter (l := pre) fun c hc => nsl c (by rw [p1]; exact List.mem_append_left _ hc), ← flatMap_filter (l := post) fun c hc => nsl c (by rw [p1]; exact List.mem_append_right _ hc)]
      rw [p2, p3]
      have each : ∀ c ∈ (kids g n v).filter (fun c => decide (c ≠ node)), Out (young' g n v node at_) w [(c, g v + 1)] (sl g n w node c (En g n c)) := fun c hc => by
        rw [List.mem_filter] at hc
        obtain ⟨c1, c2, c3⟩ := mem_kids.mp hc.1
        have co := child_out hnode h2 h3 hc.1 (by simpa using hc.2)
        have := ih c (by omega) (by have := a.le; omega) co
        rw [if_neg (by omega), c3] at this
        exact this
      rw [List.map_append, List.map_cons, List.append_assoc]
      refine Out.app (Out.many fun c hc => each c (List.mem_of_mem_take hc)) ?_
      refine Out.app (s := [(node, g v + 1)]) ?_ (Out.many fun c hc => each c (List.mem_of_mem_drop hc))
      refine Out.part wf n node (g v + 1) (by omega) hnode fun u u1 u2 => ?_
      unfold young'
      rw [if_neg (fun z => h3 (by omega))]
      rw [List.filter_eq_self]
      intro c hc
      have := (mem_kids.mp hc).1
      simp
      omega
    · have each : ∀ c ∈ (kids g n v).filter (fun c => decide (c ≠ node)), Out (young' g n elder node at_) w [(c, g v + 1)] (if c ≤ elder ∧ elder < En g n c then sl g n w node c (spot g n elder node at_) ++ part' g n w elder node ++ sl g n w node (spot g n elder node at_) (En g n c) else sl g n w node c (En g n c)) := fun c hc => by
        rw [List.mem_filter] at hc
        obtain ⟨c1, c2, c3⟩ := mem_kids.mp hc.1
        have co := child_out hnode h2 h3 hc.1 (by simpa using hc.2)
        have := ih c (by omega) (by have := a.le; omega) co
        rw [c3] at this
        exact this
      have hm := Out.many each
      rw [flatMap_filter (l := kids g n v) fun c hc hd => by
        have e : c = node := by simpa using hd
        rw [if_neg (by rw [e]; exact hout)]
        exact nsl c hc hd] at hm
      by_cases hin : v ≤ elder ∧ elder < En g n v
      · rw [if_pos hin, sl_cons (by omega) h3, List.cons_append, List.cons_append]
        refine Out.one ?_
        rw [show young' g n elder node at_ v = (kids g n v).filter fun c => decide (c ≠ node) from if_neg hve]
        obtain ⟨c, hc, z1, z2⟩ := ch.find (u := elder) (by omega) hin.2
        obtain ⟨pre, post, hp⟩ := List.append_of_mem hc
        rw [hp] at hm ch
        obtain ⟨mid, ch1, ch2⟩ := ch.split
        cases ch2 with
        | cons hcn ch3 =>
          have acs := En_mono (g := g) hcn z1 z2
          have pre_no : ∀ x ∈ pre, ¬ (x ≤ elder ∧ elder < En g n x) := fun x hx => by
            have := (ch1.mem x hx).2.2.2
            omega
          have post_no : ∀ x ∈ post, ¬ (x ≤ elder ∧ elder < En g n x) := fun x hx => by
            have := (ch3.mem x hx).1
            omega
          rw [List.flatMap_append, List.flatMap_cons, if_pos ⟨z1, z2⟩, ch1.flat_sl fun x hx => if_neg (pre_no x hx), ch3.flat_sl fun x hx => if_neg (post_no x hx)] at hm
          have e1 := sl_add (g := g) (n := n) (w := w) (node := node) ch1.le (show c ≤ spot g n elder node at_ by omega)
          have e2 := sl_add (g := g) (n := n) (w := w) (node := node) (show spot g n elder node at_ ≤ En g n c by omega) ch3.le
          rw [← e1, ← e2]
          simpa [List.append_assoc, hp] using hm
      · rw [if_neg hin, sl_cons a.lt h3]
        refine Out.one ?_
        rw [show young' g n elder node at_ v = (kids g n v).filter fun c => decide (c ≠ node) from if_neg hve]
        rw [ch.flat_sl fun c hc => if_neg (by
          have := ch.mem c hc
          omega)] at hm
        exact hm
end
end TR
namespace TR
section
variable {W : Type} {g : Nat → Nat} {n : Nat} {w : Nat → W} {node elder at_ : Nat}
theorem spot_out (wf : WF g n) (hnode : node < n) (he : elder < n) (hout : ¬ (node ≤ elder ∧ elder < En g n node)) (h : node < spot g n elder node at_) : En g n node ≤ spot g n elder node at_ := by
  unfold spot at h ⊢
  have ae := isEnd (g := g) he
  have an := isEnd (g := g) hnode
  cases hc : (others g n elder node)[at_]? with
  | none =>
    rw [hc] at h
    simp only [Option.getD_none] at h ⊢
    by_cases h1 : elder < node
    · exact En_mono he (by omega) h
    · have := ae.lt
      omega
  | some c =>
    rw [hc] at h
    simp only [Option.getD_some] at h ⊢
    have hm := List.mem_of_getElem? hc
    unfold others at hm
    rw [List.mem_filter] at hm
    have := child_out hnode he hout hm.1 (by simpa using hm.2)
    omega
theorem spot_le (wf : WF g n) (he : elder < n) : spot g n elder node at_ ≤ n := by
  have := (spot_lt (g := g) (n := n) (node := node) (at_ := at_) wf he).2
  have := (isEnd (g := g) he).le
  omega
/-- the walk of the changed lists tells the moved rows -/
theorem moved_all (wf : WF g n) (h1 : 1 ≤ node) (hnode : node < n) (he : elder < n) (hout : ¬ (node ≤ elder ∧ elder < En g n node)) :
    Out (young' g n elder node at_) w [(0, 0)] (if spot g n elder node at_ ≤ node
      then seg (fun u => (g u, w u)) 0 (spot g n elder node at_) ++ part' g n w elder node ++ seg (fun u => (g u, w u)) (spot g n elder node at_) node ++ seg (fun u => (g u, w u)) (En g n node) n
      else seg (fun u => (g u, w u)) 0 node ++ seg (fun u => (g u, w u)) (En g n node) (spot g n elder node at_) ++ part' g n w elder node ++ seg (fun u => (g u, w u)) (spot g n elder node at_) n) := by
  have an := isEnd (g := g) hnode
  have h0 : En g n 0 = n := by
    refine En_eq ⟨wf.pos, Nat.le_refl _, fun j j1 j2 => ?_, fun z => absurd z (Nat.lt_irrefl _)⟩
    rw [wf.root]
    have := (wf.step (j - 1) (by omega)).1
    rw [show j - 1 + 1 = j by omega] at this
    exact this
  have := moved_walk (w := w) (at_ := at_) wf hnode he hout n 0 (by omega) wf.pos (by omega)
  rw [wf.root, h0, if_pos ⟨Nat.zero_le _, he⟩] at this
  have so := spot_out (at_ := at_) wf hnode he hout
  have sle := spot_le (node := node) (at_ := at_) wf he
  by_cases hs : spot g n elder node at_ ≤ node
  · rw [if_pos hs]
    rw [sl_seg (a := 0) fun u u1 u2 => by omega] at this
    have e1 := sl_add (g := g) (n := n) (w := w) (node := node) (show spot g n elder node at_ ≤ node from hs) (show node ≤ n by omega)
    have e2 := sl_add (g := g) (n := n) (w := w) (node := node) (show node ≤ En g n node by have := an.lt; omega) an.le
    rw [sl_part, List.nil_append] at e2
    rw [← e1, ← e2, sl_seg (a := spot g n elder node at_) fun u u1 u2 => by omega, sl_seg (a := En g n node) fun u u1 u2 => by omega] at this
    simpa [List.append_assoc] using this
  · rw [if_neg hs]
    have so := so (by omega)
    have e1 := sl_add (g := g) (n := n) (w := w) (node := node) (show 0 ≤ node by omega) (show node ≤ spot g n elder node at_ by omega)
    have e2 := sl_add (g := g) (n := n) (w := w) (node := node) (show node ≤ En g n node by have := an.lt; omega) so
    rw [sl_part, List.nil_append] at e2
    rw [← e1, ← e2, sl_seg (a := 0) fun u u1 u2 => by omega, sl_seg (a := En g n node) (b := spot g n elder node at_) fun u u1 u2 => by omega, sl_seg (a := spot g n elder node at_) fun u u1 u2 => by omega] at this
    simpa [List.append_assoc] using this
theorem seg_take {α : Type} {F : Nat → α} {n b : Nat} (h : b ≤ n) : (seg F 0 n).take b = seg F 0 b := by
  rw [← seg_add (Nat.zero_le b) h]
  exact List.take_left' (by rw [seg_length]; rfl)
theorem seg_drop {α : Type} {F : Nat → α} {n a : Nat} : (seg F 0 n).drop a = seg F a n := by
  unfold seg
  rw [← List.map_drop]
  congr 1
  rw [List.drop_range']
  congr 1 <;> omega
end
end TR
set_option linter.all false
set_option autoImplicit false
namespace K30
open PySem TM
def sub : Nat → Nat → Bool
  | 0, k => [0, 99].contains k
  | 1, k => [1, 0, 99].contains k
  | 2, k => [2, 0, 99].contains k
  | 3, k => [3, 0, 99].contains k
  | _, _ => false
abbrev CS : List Nat := [1, 2, 3]
/-- check_node: 0 tree, 1 node -/
def B_check_node : S := sIf (tOr (tE (eBin opLt (eVar 1) (eC (.int 0)))) (tE (eBin opGe (eVar 1) (eBlt fLen (aCons (eVar 0) aNil))))) (sRaise 2) (sNil)
def F_check_node : F := fn 2 2 B_check_node
/-- end_of: 0 tree, 1 node, 2 stop -/
def B_end_of : S := sSeq (sExpr (eCall F_check_node (aCons (eVar 0) (aCons (eVar 1) aNil)))) (sSeq (sSet (.one 2) (eBin opAdd (eVar 1) (eC (.int 1)))) (sSeq (sWhile (tAnd (tE (eBin opLt (eVar 2) (eBlt fLen (aCons (eVar 0) aNil)))) (tE (eBin opGt (eBin opIx (eBin opIx (eVar 0) (eVar 2)) (eC (.int 0))) (eBin opIx (eBin opIx (eVar 0) (eVar 1)) (eC (.int 0)))))) (sAug opAddI 2 (eC (.int 1)))) (sRet (eVar 2))))
def F_end_of : F := fn 3 2 B_end_of
/-- young_of: 0 tree, 1 node, 2 stop, 3 there -/
def B_young_of : S := sSeq (sSet (.one 2) (eCall F_end_of (aCons (eVar 0) (aCons (eVar 1) aNil)))) (sRet (eComp (iRng (aCons (eBin opAdd (eVar 1) (eC (.int 1))) (aCons (eVar 2) aNil))) (.one 3) [3] (tE (eBin opEq (eBin opIx (eBin opIx (eVar 0) (eVar 3)) (eC (.int 0))) (eBin opAdd (eBin opIx (eBin opIx (eVar 0) (eVar 1)) (eC (.int 0))) (eC (.int 1))))) (eVar 3)))
def F_young_of : F := fn 4 2 B_young_of
/-- part_of: 0 tree, 1 node, 2 deep, 3 word -/
def B_part_of : S := sRet (eComp (iLst (eCut (eVar 0) (pSome (eVar 1)) (pSome (eCall F_end_of (aCons (eVar 0) (aCons (eVar 1) aNil)))))) (.many [2, 3]) [2, 3] (tYes) (eTup (aCons (eBin opSub (eVar 2) (eBin opIx (eBin opIx (eVar 0) (eVar 1)) (eC (.int 0)))) (aCons (eVar 3) aNil))))
def F_part_of : F := fn 4 2 B_part_of
/-- others_of: 0 tree, 1 elder, 2 node, 3 there -/
def B_others_of : S := sRet (eComp (iLst (eCall F_young_of (aCons (eVar 0) (aCons (eVar 1) aNil)))) (.one 3) [3] (tE (eBin opNe (eVar 3) (eVar 2))) (eVar 3))
def F_others_of : F := fn 4 3 B_others_of
/-- deepest_of: 0 part, 1 deep, 2 word -/
def B_deepest_of : S := sRet (eBlt fMax (aCons (eComp (iLst (eVar 0)) (.many [1, 2]) [1, 2] (tYes) (eVar 1)) aNil))
def F_deepest_of : F := fn 3 1 B_deepest_of
/-- moved_part: 0 tree, 1 node, 2 elder, 3 at, 4 stop, 5 young, 6 more, 7 part, 8 spot, 9 deep, 10 word -/
def B_moved_part : S := sSeq (sIf (tOr (tE (eBin opLt (eVar 1) (eC (.int 1)))) (tOr (tE (eBin opGe (eVar 1) (eBlt fLen (aCons (eVar 0) aNil)))) (tOr (tE (eBin opLt (eVar 2) (eC (.int 0)))) (tE (eBin opGe (eVar 2) (eBlt fLen (aCons (eVar 0) aNil))))))) (sRaise 2) (sNil)) (sSeq (sSet (.one 4) (eCall F_end_of (aCons (eVar 0) (aCons (eVar 1) aNil)))) (sSeq (sIf (tE (eChain opLe opLt (eVar 1) (eVar 2) (eVar 4))) (sRaise 3) (sNil)) (sSeq (sSet (.one 5) (eCall F_others_of (aCons (eVar 0) (aCons (eVar 2) (aCons (eVar 1) aNil))))) (sSeq (sIf (tOr (tE (eBin opLt (eVar 3) (eC (.int 0)))) (tE (eBin opGt (eVar 3) (eBlt fLen (aCons (eVar 5) aNil))))) (sRaise 3) (sNil)) (sSeq (sSet (.one 6) (eBin opAdd (eBin opIx (eBin opIx (eVar 0) (eVar 2)) (eC (.int 0))) (eC (.int 1)))) (sSeq (sSet (.one 7) (eComp (iLst (eCall F_part_of (aCons (eVar 0) (aCons (eVar 1) aNil)))) (.many [9, 10]) [9, 10] (tYes) (eTup (aCons (eBin opAdd (eVar 9) (eVar 6)) (aCons (eVar 10) aNil))))) (sSeq (sIf (tE (eBin opGt (eCall F_deepest_of (aCons (eVar 7) aNil)) (eC (.int 30)))) (sRaise 1) (sNil)) (sSeq (sSet (.one 8) (eCall F_end_of (aCons (eVar 0) (aCons (eVar 2) aNil)))) (sSeq (sIf (tE (eBin opLt (eVar 3) (eBlt fLen (aCons (eVar 5) aNil)))) (sSet (.one 8) (eBin opIx (eVar 5) (eVar 3))) (sNil)) (sSeq (sIf (tE (eBin opLe (eVar 8) (eVar 1))) (sRet (eBin opAdd (eBin opAdd (eBin opAdd (eCut (eVar 0) (pNone) (pSome (eVar 8))) (eVar 7)) (eCut (eVar 0) (pSome (eVar 8)) (pSome (eVar 1)))) (eCut (eVar 0) (pSome (eVar 4)) (pNone)))) (sNil)) (sRet (eBin opAdd (eBin opAdd (eBin opAdd (eCut (eVar 0) (pNone) (pSome (eVar 1))) (eCut (eVar 0) (pSome (eVar 4)) (pSome (eVar 8)))) (eVar 7)) (eCut (eVar 0) (pSome (eVar 8)) (pNone))))))))))))))
def F_moved_part : F := fn 11 4 B_moved_part
/-- law_cell_at: 0 script, 1 k -/
def B_law_cell_at : S := sSeq (sIf (tE (eBin opLt (eVar 1) (eBlt fLen (aCons (eVar 0) aNil)))) (sRet (eBin opIx (eVar 0) (eVar 1))) (sNil)) (sRet (eC (.int 0)))
def F_law_cell_at : F := fn 2 2 B_law_cell_at
/-- law_word: 0 number, 1 word, 2 k -/
def B_law_word : S := sSeq (sIf (tE (eBin opLt (eBin opMod (eVar 0) (eC (.int 4))) (eC (.int 2)))) (sRet (eBin opIx (eLst (aCons (eC (.str "a")) (aCons (eC (.str "b")) (aCons (eC (.str "ab")) (aCons (eC (.str "x1")) aNil))))) (eBin opMod (eBin opDiv (eVar 0) (eC (.int 4))) (eC (.int 4))))) (sNil)) (sSeq (sSet (.one 1) (eC (.str ""))) (sSeq (sFor (iRng (aCons (eBin opAdd (eC (.int 1)) (eBin opMod (eBin opDiv (eVar 0) (eC (.int 4))) (eC (.int 12)))) aNil)) (.one 2) (sSeq (sSet (.one 0) (eBin opMod (eBin opAdd (eBin opAdd (eBin opMul (eVar 0) (eVar 0)) (eBin opMul (eC (.int 48271)) (eVar 0))) (eVar 2)) (eC (.int 2147483647)))) (sSet (.one 1) (eBin opAdd (eVar 1) (eBin opIx (eC (.str "abcdefghijklmnopqrstuvwxyz0123456789+-*=<")) (eBin opMod (eBin opDiv (eVar 0) (eC (.int 64))) (eC (.int 41)))))))) (sRet (eVar 1))))
def F_law_word : F := fn 3 1 B_law_word
/-- law_tree: 0 cells, 1 most, 2 tree, 3 cell, 4 number, 5 k, 6 deep -/
def B_law_tree : S := sSeq (sSet (.one 2) (eLst (aCons (eTup (aCons (eC (.int 0)) (aCons (eCall F_law_word (aCons (eBlt fLen (aCons (eVar 0) aNil)) aNil)) aNil))) aNil))) (sSeq (sFor (iLst (eVar 0)) (.one 3) (sSeq (sSet (.one 4) (eBin opMod (eBin opMul (eVar 3) (eC (.int 48271))) (eC (.int 2147483647)))) (sFor (iRng (aCons (eBin opAdd (eC (.int 1)) (eBin opMod (eBin opDiv (eVar 4) (eC (.int 16))) (eC (.int 4)))) aNil)) (.one 5) (sSeq (sSet (.one 6) (eBlt fMin2 (aCons (eBin opAdd (eBin opIx (eBin opIx (eVar 2) (eUn opNeg (eC (.int 1)))) (eC (.int 0))) (eC (.int 1))) (aCons (eC (.int 30)) aNil)))) (sSeq (sIf (tE (eBin opGt (eBin opMod (eVar 4) (eC (.int 16))) (eC (.int 5)))) (sSet (.one 6) (eBin opAdd (eC (.int 1)) (eBin opMod (eBin opMul (eBin opDiv (eVar 4) (eC (.int 64))) (eBin opAdd (eBin opMul (eC (.int 2)) (eVar 5)) (eC (.int 3)))) (eVar 6)))) (sNil)) (sExpr (eMeth isL mAppend (eVar 2) (aCons (eTup (aCons (eVar 6) (aCons (eCall F_law_word (aCons (eBin opMod (eBin opMul (eBin opMul (eVar 4) (eBin opAdd (eBin opMul (eC (.int 2)) (eVar 5)) (eC (.int 3)))) (eC (.int 69621))) (eC (.int 2147483629))) aNil)) aNil))) aNil)))))))) (sRet (eCut (eVar 2) (pNone) (pSome (eVar 1)))))
def F_law_tree : F := fn 7 2 B_law_tree
/-- law_young: 0 tree, 1 young, 2 last, 3 node -/
def B_law_young : S := sSeq (sSet (.one 1) (eLst (aCons (eLst (aNil)) aNil))) (sSeq (sSet (.one 2) (eDct1 (eC (.int 0)) (eC (.int 0)))) (sSeq (sFor (iRng (aCons (eC (.int 1)) (aCons (eBlt fLen (aCons (eVar 0) aNil)) aNil))) (.one 3) (sSeq (sExpr (eMeth isL mAppend (eVar 1) (aCons (eLst (aNil)) aNil))) (sSeq (sExpr (eMeth isL mAppend (eBin opIx (eVar 1) (eBin opIx (eVar 2) (eBin opSub (eBin opIx (eBin opIx (eVar 0) (eVar 3)) (eC (.int 0))) (eC (.int 1))))) (aCons (eVar 3) aNil))) (sSub opPut (eVar 2) (eBin opIx (eBin opIx (eVar 0) (eVar 3)) (eC (.int 0))) (eVar 3))))) (sRet (eVar 1))))
def F_law_young : F := fn 4 1 B_law_young
/-- law_flat: 0 tree, 1 young, 2 made, 3 todo, 4 there, 5 node, 6 deep -/
def B_law_flat : S := sSeq (sSet (.one 2) (eLst (aNil))) (sSeq (sSet (.one 3) (eLst (aCons (eTup (aCons (eC (.int 0)) (aCons (eC (.int 0)) aNil))) aNil))) (sSeq (sWhile (tE (eBin opGt (eBlt fLen (aCons (eVar 3) aNil)) (eC (.int 0)))) (sSeq (sSet (.many [5, 6]) (eMeth isL mPop0 (eVar 3) (aNil))) (sSeq (sExpr (eMeth isL mAppend (eVar 2) (aCons (eTup (aCons (eVar 6) (aCons (eBin opIx (eBin opIx (eVar 0) (eVar 5)) (eC (.int 1))) aNil))) aNil))) (sFor (iRev (eBin opIx (eVar 1) (eVar 5))) (.one 4) (sExpr (eMeth isL mAppend (eVar 3) (aCons (eTup (aCons (eVar 4) (aCons (eBin opAdd (eVar 6) (eC (.int 1))) aNil))) aNil))))))) (sRet (eVar 2))))
def F_law_flat : F := fn 7 2 B_law_flat
/-- law_within: 0 young, 1 node, 2 other, 3 todo, 4 here -/
def B_law_within : S := sSeq (sSet (.one 3) (eLst (aCons (eVar 1) aNil))) (sSeq (sWhile (tE (eBin opGt (eBlt fLen (aCons (eVar 3) aNil)) (eC (.int 0)))) (sSeq (sSet (.one 4) (eMeth isL mPop0 (eVar 3) (aNil))) (sSeq (sIf (tE (eBin opEq (eVar 4) (eVar 2))) (sRet (eC (.bl true))) (sNil)) (sExpr (eMeth isL mExtend (eVar 3) (aCons (eBin opIx (eVar 0) (eVar 4)) aNil)))))) (sRet (eC (.bl false))))
def F_law_within : F := fn 5 3 B_law_within
/-- law_due: 0 tree, 1 node, 2 elder, 3 at, 4 young, 5 there, 6 made, 7 k, 8 deep, 9 word -/
def B_law_due : S := sSeq (sIf (tOr (tE (eBin opLt (eVar 1) (eC (.int 1)))) (tOr (tE (eBin opGe (eVar 1) (eBlt fLen (aCons (eVar 0) aNil)))) (tOr (tE (eBin opLt (eVar 2) (eC (.int 0)))) (tE (eBin opGe (eVar 2) (eBlt fLen (aCons (eVar 0) aNil))))))) (sRet (eTup (aCons (eC (.int 1)) (aCons (eC (.bl true)) (aCons (eC (.bl true)) (aCons (eC (.bl false)) aNil)))))) (sNil)) (sSeq (sSet (.one 4) (eCall F_law_young (aCons (eVar 0) aNil))) (sSeq (sIf (tE (eCall F_law_within (aCons (eVar 4) (aCons (eVar 1) (aCons (eVar 2) aNil))))) (sRet (eTup (aCons (eC (.int 2)) (aCons (eC (.bl true)) (aCons (eC (.bl true)) (aCons (eC (.bl false)) aNil)))))) (sNil)) (sSeq (sFor (iRng (aCons (eBlt fLen (aCons (eVar 0) aNil)) aNil)) (.one 5) (sSub opPut (eVar 4) (eVar 5) (eComp (iLst (eBin opIx (eVar 4) (eVar 5))) (.one 7) [7] (tE (eBin opNe (eVar 7) (eVar 1))) (eVar 7)))) (sSeq (sIf (tOr (tE (eBin opLt (eVar 3) (eC (.int 0)))) (tE (eBin opGt (eVar 3) (eBlt fLen (aCons (eBin opIx (eVar 4) (eVar 2)) aNil))))) (sRet (eTup (aCons (eC (.int 2)) (aCons (eC (.bl true)) (aCons (eC (.bl true)) (aCons (eC (.bl false)) aNil)))))) (sNil)) (sSeq (sExpr (eMeth isL mInsert (eBin opIx (eVar 4) (eVar 2)) (aCons (eVar 3) (aCons (eVar 1) aNil)))) (sSeq (sSet (.one 6) (eCall F_law_flat (aCons (eVar 0) (aCons (eVar 4) aNil)))) (sSeq (sIf (tE (eBin opGt (eBlt fMax (aCons (eComp (iLst (eVar 6)) (.many [8, 9]) [8, 9] (tYes) (eVar 8)) aNil)) (eC (.int 30)))) (sRet (eTup (aCons (eC (.int 3)) (aCons (eC (.bl true)) (aCons (eC (.bl true)) (aCons (eC (.bl false)) aNil)))))) (sNil)) (sRet (eVar 6)))))))))
def F_law_due : F := fn 10 4 B_law_due
/-- law_told: 0 tree, 1 node, 2 elder, 3 at, 4 told, 5 found, 6 e -/
def B_law_told : S := sSeq (sSet (.one 4) (eTup (aCons (eC (.int 0)) (aCons (eC (.bl false)) (aCons (eC (.bl false)) (aCons (eC (.bl false)) aNil)))))) (sSeq (sSet (.one 5) (eLst (aNil))) (sSeq (sTry sub CS (sSet (.one 5) (eCall F_moved_part (aCons (eVar 0) (aCons (eVar 1) (aCons (eVar 2) (aCons (eVar 3) aNil)))))) [(2, 6, fun xc => sSet (.one 4) (eTup (aCons (eC (.int 1)) (aCons (eIsE sub 6 xc [0]) (aCons (eIsE sub 6 xc [99]) (aCons (eIsE sub 6 xc [3, 1]) aNil)))))), (3, 6, fun xc => sSet (.one 4) (eTup (aCons (eC (.int 2)) (aCons (eIsE sub 6 xc [0]) (aCons (eIsE sub 6 xc [99]) (aCons (eIsE sub 6 xc [2, 1]) aNil)))))), (1, 6, fun xc => sSet (.one 4) (eTup (aCons (eC (.int 3)) (aCons (eIsE sub 6 xc [0]) (aCons (eIsE sub 6 xc [99]) (aCons (eIsE sub 6 xc [2, 3]) aNil))))))]) (sSeq (sIf (tE (eBin opGt (eBin opIx (eVar 4) (eC (.int 0))) (eC (.int 0)))) (sRet (eVar 4)) (sNil)) (sRet (eVar 5)))))
def F_law_told : F := fn 7 4 B_law_told
/-- law_alike: 0 found, 1 due, 2 row -/
def B_law_alike : S := sSeq (sIf (tE (eUn (opIsTy .tuple) (eVar 1))) (sRet (eBin opEq (eVar 0) (eVar 1))) (sNil)) (sSeq (sIf (tOr (tNot (tE (eUn (opIsTy .list) (eVar 0)))) (tE (eBin opNe (eBlt fLen (aCons (eVar 0) aNil)) (eBlt fLen (aCons (eVar 1) aNil))))) (sRet (eC (.bl false))) (sNil)) (sSeq (sFor (iLst (eVar 0)) (.one 2) (sSeq (sIf (tOr (tNot (tE (eUn (opIsTy .tuple) (eVar 2)))) (tOr (tE (eBin opNe (eBlt fLen (aCons (eVar 2) aNil)) (eC (.int 2)))) (tNot (tE (eUn (opIsTy .str) (eBin opIx (eVar 2) (eC (.int 1)))))))) (sRet (eC (.bl false))) (sNil)) (sIf (tOr (tNot (tE (eUn (opIsTy .int) (eBin opIx (eVar 2) (eC (.int 0)))))) (tE (eUn (opIsTy .bool) (eBin opIx (eVar 2) (eC (.int 0)))))) (sRet (eC (.bl false))) (sNil)))) (sRet (eBin opEq (eVar 0) (eVar 1)))))
def F_law_alike : F := fn 3 2 B_law_alike
/-- law_number: 0 cell, 1 many -/
def B_law_number : S := sSeq (sIf (tE (eBin opEq (eBin opMod (eVar 0) (eC (.int 12))) (eC (.int 5)))) (sRet (eBin opAdd (eVar 1) (eBin opMod (eBin opDiv (eVar 0) (eC (.int 12))) (eBin opPow (eC (.int 10)) (eC (.int 60)))))) (sNil)) (sSeq (sIf (tE (eBin opEq (eBin opMod (eVar 0) (eC (.int 12))) (eC (.int 7)))) (sRet (eBin opSub (eBin opSub (eC (.int 0)) (eC (.int 1))) (eBin opMod (eBin opDiv (eVar 0) (eC (.int 12))) (eBin opPow (eC (.int 10)) (eC (.int 60)))))) (sNil)) (sRet (eBin opSub (eBin opMod (eBin opDiv (eVar 0) (eC (.int 12))) (eBin opAdd (eVar 1) (eC (.int 4)))) (eC (.int 2)))))
def F_law_number : F := fn 2 2 B_law_number
/-- law: 0 script, 1 tree, 2 node, 3 elder, 4 young, 5 at, 6 due, 7 handed, 8 found, 9 k -/
def B_law : S := sSeq (sSet (.one 1) (eCall F_law_tree (aCons (eCut (eVar 0) (pNone) (pSome (eC (.int 63)))) (aCons (eC (.int 200)) aNil)))) (sSeq (sSet (.one 2) (eCall F_law_number (aCons (eBin opMod (eBin opMul (eCall F_law_cell_at (aCons (eVar 0) (aCons (eC (.int 0)) aNil))) (eC (.int 69621))) (eBin opPow (eC (.int 10)) (eC (.int 60)))) (aCons (eBlt fLen (aCons (eVar 1) aNil)) aNil)))) (sSeq (sSet (.one 3) (eCall F_law_number (aCons (eBin opMod (eBin opMul (eCall F_law_cell_at (aCons (eVar 0) (aCons (eC (.int 1)) aNil))) (eC (.int 16807))) (eBin opPow (eC (.int 10)) (eC (.int 60)))) (aCons (eBlt fLen (aCons (eVar 1) aNil)) aNil)))) (sSeq (sSet (.one 4) (eComp (iRng (aCons (eBlt fLen (aCons (eVar 1) aNil)) aNil)) (.one 9) [9] (tAnd (tE (eBin opGe (eVar 3) (eC (.int 0)))) (tAnd (tE (eBin opLt (eVar 3) (eBlt fLen (aCons (eVar 1) aNil)))) (tE (eBin opEq (eBin opIx (eBin opIx (eVar 1) (eVar 9)) (eC (.int 0))) (eBin opAdd (eBin opIx (eBin opIx (eVar 1) (eVar 3)) (eC (.int 0))) (eC (.int 1))))))) (eVar 9))) (sSeq (sSet (.one 5) (eCall F_law_number (aCons (eBin opMod (eBin opMul (eCall F_law_cell_at (aCons (eVar 0) (aCons (eC (.int 2)) aNil))) (eC (.int 39373))) (eBin opPow (eC (.int 10)) (eC (.int 60)))) (aCons (eBin opMod (eBlt fLen (aCons (eVar 4) aNil)) (eC (.int 9))) aNil)))) (sSeq (sSet (.one 6) (eCall F_law_due (aCons (eVar 1) (aCons (eVar 2) (aCons (eVar 3) (aCons (eVar 5) aNil)))))) (sSeq (sSet (.one 7) (eBlt fList (aCons (eVar 1) aNil))) (sSeq (sSet (.one 8) (eCall F_law_told (aCons (eVar 7) (aCons (eVar 2) (aCons (eVar 3) (aCons (eVar 5) aNil)))))) (sSeq (sIf (tOr (tNot (tE (eCall F_law_alike (aCons (eVar 8) (aCons (eVar 6) aNil))))) (tE (eBin opNe (eVar 7) (eVar 1)))) (sRet (eC (.bl false))) (sNil)) (sSeq (sIf (tE (eUn (opIsTy .list) (eVar 8))) (sExpr (eMeth isL mAppend (eVar 8) (aCons (eTup (aCons (eC (.int 1)) (aCons (eC (.str "z")) aNil))) aNil))) (sNil)) (sRet (eCall F_law_alike (aCons (eCall F_law_told (aCons (eVar 7) (aCons (eVar 2) (aCons (eVar 3) (aCons (eVar 5) aNil))))) (aCons (eVar 6) aNil)))))))))))))
def F_law : F := fn 10 1 B_law
end K30
set_option linter.all false
namespace K30
open PySem TM TR
theorem check_ok {h : Hh} {a : Nat} {xs : List D} {i : Nat} (hs : seqAt h a = some xs) (hi : i < xs.length) : F_check_node [.ref a, .int i] h = .ok .non h := by
  simp [F_check_node, B_check_node, fLen_s hs]
  rw [if_neg (by omega)]
  rfl
theorem check_no {h : Hh} {a : Nat} {xs : List D} {i : Int} (hs : seqAt h a = some xs) (hi : i < 0 ∨ xs.length ≤ i) : F_check_node [.ref a, .int i] h = .exc ⟨2, []⟩ h := by
  simp [F_check_node, B_check_node, fLen_s hs]
  rw [if_pos (by omega)]
  rfl

/-- a row -/
def enc (r : Nat × Str) : D := .tup [.int r.1, .str r.2]
/-- the rows of a tree -/
def tr (g : Nat → Nat) (w : Nat → Str) (n : Nat) : List D := seg (fun u => enc (g u, w u)) 0 n
section
variable {g : Nat → Nat} {w : Nat → Str} {n : Nat} {h : Hh} {a : Nat}
theorem tr_len : (tr g w n).length = n := by unfold tr; rw [seg_length]; rfl
theorem seg_get {α : Type} {F : Nat → α} {lo hi i : Nat} (hi' : lo + i < hi) : (seg F lo hi)[i]? = some (F (lo + i)) := by
  unfold seg
  rw [List.getElem?_map, List.getElem?_range' (by omega)]
  simp
theorem tr_get {i : Nat} (hi : i < n) : (tr g w n)[i]? = some (.tup [.int (g i), .str (w i)]) := by
  unfold tr
  rw [seg_get (by omega)]
  simp [enc]
theorem row_ok {i : Nat} (hs : seqAt h a = some (tr g w n)) (hi : i < n) : opIx (.ref a) (.int i) h = .ok (.tup [.int (g i), .str (w i)]) h := opIx_n hs (tr_get hi)
theorem rowA {i : Nat} (hs : seqAt h a = some (tr g w n)) (hi : i < n) (l : Hh) : opIx (.ref a) (.int i) (h ++ l) = .ok (.tup [.int (g i), .str (w i)]) (h ++ l) := row_ok (seqAt_app hs l) hi
theorem len_ok (hs : seqAt h a = some (tr g w n)) : fLen [.ref a] h = .ok (.int n) h := by rw [fLen_s hs, tr_len]
theorem end_ok {i : Nat} (hs : seqAt h a = some (tr g w n)) (hi : i < n) (hn : n < 1000) : F_end_of [.ref a, .int i] h = .ok (.int (En g n i)) h := by
  have he := isEnd (g := g) hi
  have hc := check_ok hs (i := i) (by rw [tr_len]; exact hi)
  have : (F_end_of [.ref a, .int i] h).post fun d h' => h' = h ∧ d = .int (En g n i) := by
    refine post_fn rfl ?_
    simp [B_end_of, hc]
    refine ends_then (while_go (Q := fun e h' => h' = h ∧ e = [.val (.ref a), .val (.int i), .val (.int (En g n i))]) (fun e h' k => h' = h ∧ ∃ j : Nat, e = [.val (.ref a), .val (.int i), .val (.int j)] ∧ i < j ∧ j ≤ En g n i ∧ k = En g n i - j) (En g n i - (i + 1))
      (by have := he.le; show _ < 1000000; omega) ⟨rfl, i + 1, by simp, by omega, he.lt, rfl⟩ ?_) ?_
    · rintro e h' k ⟨rfl, j, rfl, h1, h2, rfl⟩
      have h3 := he.le
      by_cases hj : j < En g n i
      · right
        refine ⟨h', ?_, ?_⟩
        · have h4 := he.deep j h1 hj
          simp [len_ok hs, row_ok hs (show j < n by omega), row_ok hs hi]
          omega
        · simp
          exact ⟨En g n i - (j + 1), by omega, j + 1, by simp, by omega, by omega, rfl⟩
      · have : j = En g n i := by omega
        subst this
        refine .inl ⟨h', ?_, rfl, rfl⟩
        by_cases hl : En g n i < n
        · have h4 := he.stop hl
          simp [len_ok hs, row_ok hs hl, row_ok hs hi]
          omega
        · simp [len_ok hs, hl]
    · rintro e h' ⟨rfl, rfl⟩
      simp
  obtain ⟨d, h', e, rfl, rfl⟩ := this
  exact e
theorem young_ok {v : Nat} (hs : seqAt h a = some (tr g w n)) (hi : v < n) (hn : n < 1000) : F_young_of [.ref a, .int v] h = .ok (.ref h.length) (h ++ [.lst ((kids g n v).map fun (u : Nat) => .int (u : Int))]) := by
  have he := isEnd (g := g) hi
  have h1 := he.le
  have h2 := he.lt
  simp [F_young_of, B_young_of, end_ok hs hi hn, small_lt (i := (v : Int) + 1) (by omega) (by omega), small_lt (i := (En g n v : Int)) (by omega) (by omega)]
  have e1 : ((En g n v : Int) - ((v : Int) + 1)).toNat = En g n v - (v + 1) := by omega
  rw [e1]
  have := comp_rng (lo := v + 1) (n := En g n v - (v + 1)) (tg := .one 3) (h := h) (e := [.val (.ref a), .val (.int v), .val (.int (En g n v)), .no]) (a := eVar 3)
    (tt := tE (eBin opEq (eBin opIx (eBin opIx (eVar 0) (eVar 3)) (eC (D.int 0))) (eBin opAdd (eBin opIx (eBin opIx (eVar 0) (eVar 1)) (eC (D.int 0))) (eC (D.int 1)))))
    (fun u => decide (g u = g v + 1)) (fun (u : Nat) => .int (u : Int)) (by show _ < 1000000; omega) fun i i1 i2 => ⟨_, rfl, by
      simp [row_ok hs (show i < n by omega), row_ok hs hi]
      omega, fun _ => by simp⟩
  rw [show ((v + 1 : Nat) : Int) = (v : Int) + 1 by omega] at this
  rw [this, go_ok, out_rt]
  unfold kids
  rfl
theorem kids_len {v : Nat} (hi : v < n) : (kids g n v).length < n := by
  have : (kids g n v).length ≤ En g n v - (v + 1) := by
    unfold kids
    refine Nat.le_trans (List.length_filter_le _ _) ?_
    simp
  have := (isEnd (g := g) hi).le
  have := (isEnd (g := g) hi).lt
  omega
theorem ints_ne (l : List Nat) (u : Int) : ((l.map fun (u : Nat) => D.int (u : Int)).filterMap fun d => if d = .int u then none else some d) = (l.filter fun (c : Nat) => decide ((c : Int) ≠ u)).map fun (u : Nat) => D.int (u : Int) := by
  induction l with
  | nil => rfl
  | cons c l ih =>
    rw [List.map_cons, List.filterMap_cons, List.filter_cons, ih]
    by_cases hc : (c : Int) = u
    · simp [hc]
    · simp [hc]
theorem others_ok {v u : Nat} (hs : seqAt h a = some (tr g w n)) (hi : v < n) (hn : n < 1000) :
    F_others_of [.ref a, .int v, .int u] h = .ok (.ref (h.length + 1)) (h ++ [.lst ((kids g n v).map fun (u : Nat) => .int (u : Int)), .lst ((others g n v u).map fun (u : Nat) => .int (u : Int))]) := by
  have hy := young_ok hs hi hn
  have hl := kids_len (g := g) hi
  simp [F_others_of, B_others_of, hy]
  rw [comp_lst ((kids g n v).map fun (u : Nat) => .int (u : Int)) (fun d => if d = .int u then none else some d) (by simp; show _ < 1000000; omega) (by simp) fun d hd => ?_]
  · rw [ints_ne]
    simp [others, Int.ofNat_inj]
  · obtain ⟨c, hc, rfl⟩ := List.mem_map.mp hd
    refine ⟨_, rfl, decide (c ≠ u), ?_, ?_, ?_⟩
    · simp
      omega
    · intro z
      simp at z
      simp
      omega
    · intro z
      simp at z
      simp [z]
theorem part_ok {v : Nat} (hs : seqAt h a = some (tr g w n)) (hi : v < n) (hn : n < 1000) :
    F_part_of [.ref a, .int v] h = .ok (.ref (h.length + 1)) (h ++ [.lst (seg (fun u => enc (g u, w u)) v (En g n v)), .lst (seg (fun u => enc (g u - g v, w u)) v (En g n v))]) := by
  have he := isEnd (g := g) hi
  have h1 := he.le
  have h2 := he.lt
  have hcut : cut (tr g w n) (some (v : Int)) (some (En g n v : Int)) = seg (fun u => enc (g u, w u)) v (En g n v) := by
    rw [cut_ab (by omega) (by rw [tr_len]; exact h1)]
    unfold tr
    rw [seg_drop]
    rw [← seg_add (F := fun u => enc (g u, w u)) (Nat.le_of_lt h2) h1]
    exact List.take_left' (by rw [seg_length])
  simp [F_part_of, B_part_of, end_ok hs hi hn, opCut_s hs, hcut]
  rw [comp_map (seg (fun u => enc (g u, w u)) v (En g n v)) (fun d => match d with | .tup [.int i, s] => .tup [.int (i - g v), s] | x => x) (by rw [seg_length]; show _ < 1000000; omega) (by simp) fun d hd => ?_]
  · simp [seg]
    intro u u1 u2
    simp [enc]
    have : g v ≤ g u := by
      by_cases hu : v = u
      · rw [hu]; exact Nat.le_refl _
      · exact Nat.le_of_lt (he.deep u (by omega) (by omega))
    omega
  · obtain ⟨u, u1, u2, rfl⟩ := mem_seg.mp hd
    refine ⟨_, rfl, ?_⟩
    simp [rowA hs hi, enc]
theorem deepest_ok {L : List (Nat × Str)} {p : Nat} (hs : seqAt h p = some (L.map enc)) (hl : L ≠ []) (hn : L.length < 1000) :
    ∃ m : Int, F_deepest_of [.ref p] h = .ok (.int m) (h ++ [.lst ((L.map fun x => (x.1 : Int)).map D.int)]) ∧ (∃ x ∈ L, (x.1 : Int) = m) ∧ ∀ x ∈ L, (x.1 : Int) ≤ m := by
  obtain ⟨m, m1, m2, m3⟩ := fMax_l (h := h ++ [.lst ((L.map fun x => (x.1 : Int)).map D.int)]) (r := h.length) (l := L.map fun x => (x.1 : Int)) (by simp) (by simpa using hl)
  refine ⟨m, ?_, ?_, ?_⟩
  · have hc := comp_map (h := h) (e := [.val (.ref p), .no, .no]) (tg := .many [1, 2]) (a := eVar 1) (r := p) (L.map enc) (fun d => match d with | .tup [x, _] => x | x => x) (by simp; show _ < 1000000; omega) hs fun d hd => by
      obtain ⟨x, _, rfl⟩ := List.mem_map.mp hd
      exact ⟨_, rfl, by simp [enc]⟩
    have e2 : (L.map enc).map (fun d => match d with | .tup [x, _] => x | x => x) = (L.map fun x => (x.1 : Int)).map D.int := by
      simp [enc]
    rw [e2] at hc
    simp [F_deepest_of, B_deepest_of, hs, hc] at m1 ⊢
    simp [m1]
  · obtain ⟨x, hx, e⟩ := List.mem_map.mp m2
    exact ⟨x, hx, e⟩
  · intro x hx
    exact m3 _ (List.mem_map.mpr ⟨x, hx, rfl⟩)
theorem moved_no1 {x y z : Int} (hs : seqAt h a = some (tr g w n)) (hc : x < 1 ∨ (n : Int) ≤ x ∨ y < 0 ∨ (n : Int) ≤ y) : F_moved_part [.ref a, .int x, .int y, .int z] h = .exc ⟨2, []⟩ h := by
  simp [F_moved_part, B_moved_part, len_ok hs]
  rw [if_pos (by omega)]
  rfl
theorem moved_no2 {x y : Nat} {z : Int} (hs : seqAt h a = some (tr g w n)) (hn : n < 1000) (h1 : 1 ≤ x) (hx : x < n) (hy : y < n) (hc : x ≤ y ∧ y < En g n x) : F_moved_part [.ref a, .int x, .int y, .int z] h = .exc ⟨3, []⟩ h := by
  simp [F_moved_part, B_moved_part, len_ok hs]
  rw [if_neg (by omega)]
  simp [end_ok hs hx hn, hc.1, hc.2]
theorem moved_no3 {x y : Nat} {z : Int} (hs : seqAt h a = some (tr g w n)) (hn : n < 1000) (h1 : 1 ≤ x) (hx : x < n) (hy : y < n) (hc : ¬ (x ≤ y ∧ y < En g n x)) (hz : z < 0 ∨ ((others g n y x).length : Int) < z) :
    ∃ h', F_moved_part [.ref a, .int x, .int y, .int z] h = .exc ⟨3, []⟩ h' ∧ Pre h h' := by
  refine ⟨_, ?_, ⟨[.lst ((kids g n y).map fun (u : Nat) => .int (u : Int)), .lst ((others g n y x).map fun (u : Nat) => .int (u : Int))], rfl⟩⟩
  simp [F_moved_part, B_moved_part, len_ok hs]
  rw [if_neg (by omega)]
  simp [end_ok hs hx hn]
  rw [if_neg (by omega)]
  simp [end_ok hs hx hn, others_ok hs hy hn]
  rw [if_pos (by omega)]
  rfl
theorem others_ex {v u : Nat} (hs : seqAt h a = some (tr g w n)) (hi : v < n) (hn : n < 1000) : ∃ H r, F_others_of [.ref a, .int v, .int u] h = .ok (.ref r) H ∧ Pre h H ∧ H[r]? = some (.lst ((others g n v u).map fun (u : Nat) => .int (u : Int))) :=
  ⟨_, _, others_ok hs hi hn, ⟨_, rfl⟩, by simp⟩
theorem part_ex {v : Nat} (hs : seqAt h a = some (tr g w n)) (hi : v < n) (hn : n < 1000) : ∃ H r, F_part_of [.ref a, .int v] h = .ok (.ref r) H ∧ Pre h H ∧ H[r]? = some (.lst (seg (fun u => enc (g u - g v, w u)) v (En g n v))) :=
  ⟨_, _, part_ok hs hi hn, ⟨_, rfl⟩, by simp⟩
theorem map_seg {α β : Type} {F : Nat → α} {f : α → β} {lo hi : Nat} : (seg F lo hi).map f = seg (fun u => f (F u)) lo hi := by unfold seg; rw [List.map_map]; rfl
theorem cut_tr_ab {l u : Nat} (h1 : l ≤ u) (h2 : u ≤ n) : TM.cut (tr g w n) (some (l : Int)) (some (u : Int)) = (seg (fun u => (g u, w u)) l u).map enc := by
  rw [cut_ab h1 (by rw [tr_len]; exact h2), map_seg]
  unfold tr
  rw [seg_drop, ← seg_add h1 h2]
  exact List.take_left' (by rw [seg_length])
theorem cut_tr_0b {u : Nat} (h2 : u ≤ n) : TM.cut (tr g w n) none (some (u : Int)) = (seg (fun u => (g u, w u)) 0 u).map enc := by
  rw [cut_0b (by rw [tr_len]; exact h2), map_seg]
  unfold tr
  exact seg_take h2
theorem cut_tr_a0 {l : Nat} (h2 : l ≤ n) : TM.cut (tr g w n) (some (l : Int)) none = (seg (fun u => (g u, w u)) l n).map enc := by
  rw [cut_a0 (by rw [tr_len]; exact h2), map_seg]
  unfold tr
  exact seg_drop
theorem moved_yes {x y : Nat} {z : Nat} (hs : seqAt h a = some (tr g w n)) (ht : h[a]? = some (.lst (tr g w n))) (hn : n < 1000) (wf : WF g n) (h1 : 1 ≤ x) (hx : x < n) (hy : y < n) (hc : ¬ (x ≤ y ∧ y < En g n x)) (hz : z ≤ (others g n y x).length) :
    ∃ h', Pre h h' ∧ (((∃ r ∈ part' g n w y x, 30 < r.1) ∧ F_moved_part [.ref a, .int x, .int y, .int z] h = .exc ⟨1, []⟩ h') ∨ (∀ r ∈ part' g n w y x, r.1 ≤ 30) ∧
      ∃ r, F_moved_part [.ref a, .int x, .int y, .int z] h = .ok (.ref r) h' ∧ h.length ≤ r ∧ h'[r]? = some (.lst ((if spot g n y x z ≤ x
        then seg (fun u => (g u, w u)) 0 (spot g n y x z) ++ part' g n w y x ++ seg (fun u => (g u, w u)) (spot g n y x z) x ++ seg (fun u => (g u, w u)) (En g n x) n
        else seg (fun u => (g u, w u)) 0 x ++ seg (fun u => (g u, w u)) (En g n x) (spot g n y x z) ++ part' g n w y x ++ seg (fun u => (g u, w u)) (spot g n y x z) n).map enc))) := by
  have ax := isEnd (g := g) hx
  have ay := isEnd (g := g) hy
  obtain ⟨H1, r1, e1, p1, q1⟩ := others_ex (u := x) hs hy hn
  have hs1 := p1.seq hs
  obtain ⟨H2, r2, e2, p2, q2⟩ := part_ex hs1 hx hn
  have hs2 := p2.seq hs1
  have hcomp := comp_map (h := H2) (e := [.val (.ref a), .val (.int x), .val (.int y), .val (.int z), .val (.int (En g n x)), .val (.ref r1), .val (.int ((g y : Int) + 1)), .no, .no, .no, .no]) (tg := .many [9, 10]) (a := eTup (aCons (eBin opAdd (eVar 9) (eVar 6)) (aCons (eVar 10) aNil))) (r := r2) _
    (fun d => match d with | .tup [.int i, s] => .tup [.int (i + (g y + 1)), s] | x => x) (by rw [seg_length]; have := ax.le; show _ < 1000000; omega) (seq_lst q2) fun d hd => by
      obtain ⟨u, u1, u2, rfl⟩ := mem_seg.mp hd
      exact ⟨_, rfl, by simp [enc]⟩
  have e3 : (seg (fun u => enc (g u - g x, w u)) x (En g n x)).map (fun d => match d with | .tup [.int i, s] => .tup [.int (i + (g y + 1)), s] | x => x) = (part' g n w y x).map enc := by
    unfold part'
    rw [map_seg, map_seg]
    apply seg_congr
    intro u u1 u2
    simp [enc]
    omega
  rw [e3] at hcomp
  have hne : part' g n w y x ≠ [] := by
    intro z
    have := congrArg List.length z
    unfold part' at this
    rw [seg_length] at this
    have := ax.lt
    simp at *
    omega
  have hln : (part' g n w y x).length < 1000 := by
    unfold part'
    rw [seg_length]
    have := ax.le
    omega
  obtain ⟨m, e4, ⟨rm, m1, m2⟩, m3⟩ := deepest_ok (h := H2 ++ [.lst ((part' g n w y x).map enc)]) (p := H2.length) (L := part' g n w y x) (seq_lst get_new) hne hln
  generalize hH4 : (H2 ++ [.lst ((part' g n w y x).map enc)]) ++ [.lst (((part' g n w y x).map fun x => (x.1 : Int)).map D.int)] = H4 at e4
  have p4 : Pre H2 H4 := by rw [← hH4]; exact Pre.one.trans Pre.one
  have q4 : H4[H2.length]? = some (.lst ((part' g n w y x).map enc)) := by rw [← hH4]; exact Pre.one.get get_new
  have hs4 := p4.seq hs2
  have hlen1 := fLen_s (seq_lst q1)
  have hlen4 := fLen_s (seq_lst (p4.get (p2.get q1)))
  have pall : Pre h H4 := (p1.trans p2).trans p4
  simp at hlen1 hlen4
  by_cases hm : 30 < m
  · refine ⟨H4, pall, .inl ⟨⟨rm, m1, by omega⟩, ?_⟩⟩
    simp [F_moved_part, B_moved_part, len_ok hs]
    rw [if_neg (by omega)]
    simp [end_ok hs hx hn]
    rw [if_neg (by omega)]
    simp [e1, hlen1]
    rw [if_neg (by omega)]
    simp [row_ok hs1 hy, e2, seq_lst q2, hcomp, e4, hm]
  · have hle : ∀ r ∈ part' g n w y x, r.1 ≤ 30 := fun r hr => by have := m3 r hr; omega
    have sle := spot_le (g := g) (n := n) (elder := y) (node := x) (at_ := z) wf hy
    have so := spot_out (g := g) (n := n) (elder := y) (node := x) (at_ := z) wf hx hy hc
    have szs : ∀ l u : Nat, u ≤ n → ((seg (fun u => (g u, w u)) l u).map enc).length ≤ 1000 := fun l u h => by rw [List.length_map, seg_length]; omega
    have szp : ((part' g n w y x).map enc).length ≤ 1000 := by rw [List.length_map]; omega
    have hlast : ∀ Z : RS, Z = (sSeq (sIf (tE (eBin opLe (eVar 8) (eVar 1)))
          (sRet (eBin opAdd (eBin opAdd (eBin opAdd (eCut (eVar 0) pNone (pSome (eVar 8))) (eVar 7)) (eCut (eVar 0) (pSome (eVar 8)) (pSome (eVar 1)))) (eCut (eVar 0) (pSome (eVar 4)) pNone))) sNil)
          (sRet (eBin opAdd (eBin opAdd (eBin opAdd (eCut (eVar 0) pNone (pSome (eVar 1))) (eCut (eVar 0) (pSome (eVar 4)) (pSome (eVar 8)))) (eVar 7)) (eCut (eVar 0) (pSome (eVar 8)) pNone))))
          [.val (.ref a), .val (.int x), .val (.int y), .val (.int z), .val (.int (En g n x)), .val (.ref r1), .val (.int ((g y : Int) + 1)), .val (.ref H2.length), .val (.int (spot g n y x z)), .no, .no] H4 →
        ∃ h' r, Pre H4 h' ∧ H4.length ≤ r ∧ Z.out = .ok (.ref r) h' ∧ h'[r]? = some (.lst ((if spot g n y x z ≤ x
        then seg (fun u => (g u, w u)) 0 (spot g n y x z) ++ part' g n w y x ++ seg (fun u => (g u, w u)) (spot g n y x z) x ++ seg (fun u => (g u, w u)) (En g n x) n
        else seg (fun u => (g u, w u)) 0 x ++ seg (fun u => (g u, w u)) (En g n x) (spot g n y x z) ++ part' g n w y x ++ seg (fun u => (g u, w u)) (spot g n y x z) n).map enc)) := by
      rintro _ rfl
      by_cases hsx : spot g n y x z ≤ x
      · have hA := (((LstE.cut (e := [.val (.ref a), .val (.int x), .val (.int y), .val (.int z), .val (.int (En g n x)), .val (.ref r1), .val (.int ((g y : Int) + 1)), .val (.ref H2.length), .val (.int (spot g n y x z)), .no, .no]) (i := 0) (lo := pNone) (hi := pSome (eVar 8)) (l := none) (u := some (spot g n y x z : Int)) rfl hs4 (fun _ => rfl) (fun _ => rfl)).add (LstE.var (i := 7) rfl q4) (by
            rw [cut_tr_0b sle]; have := szs 0 _ sle; show _ ≤ 16777216; omega)).add (LstE.cut (i := 0) (lo := pSome (eVar 8)) (hi := pSome (eVar 1)) (l := some (spot g n y x z : Int)) (u := some (x : Int)) rfl hs4 (fun _ => rfl) (fun _ => rfl)) (by
            rw [cut_tr_0b sle, cut_tr_ab hsx (by omega), List.length_append]; have := szs 0 _ sle; have := szs (spot g n y x z) x (by omega); show _ ≤ 16777216; omega)).addN (LstE.cut (i := 0) (lo := pSome (eVar 4)) (hi := pNone) (l := some (En g n x : Int)) (u := none) rfl hs4 (fun _ => rfl) (fun _ => rfl)) (by
            rw [cut_tr_0b sle, cut_tr_ab hsx (by omega), cut_tr_a0 ax.le, List.length_append, List.length_append]; have := szs 0 _ sle; have := szs (spot g n y x z) x (by omega); have := szs (En g n x) n (by omega); show _ ≤ 16777216; omega)
        obtain ⟨H5, r5, e5, p5, n5, g5⟩ := hA
        refine ⟨H5, r5, p5, n5, ?_, ?_⟩
        · simp at e5
          simp [hsx, e5]
        · rw [g5, cut_tr_0b sle, cut_tr_ab hsx (by omega), cut_tr_a0 ax.le, if_pos hsx]
          simp [List.append_assoc]
      · have so := so (by omega)
        have hA := (((LstE.cut (e := [.val (.ref a), .val (.int x), .val (.int y), .val (.int z), .val (.int (En g n x)), .val (.ref r1), .val (.int ((g y : Int) + 1)), .val (.ref H2.length), .val (.int (spot g n y x z)), .no, .no]) (i := 0) (lo := pNone) (hi := pSome (eVar 1)) (l := none) (u := some (x : Int)) rfl hs4 (fun _ => rfl) (fun _ => rfl)).add
            (LstE.cut (i := 0) (lo := pSome (eVar 4)) (hi := pSome (eVar 8)) (l := some (En g n x : Int)) (u := some (spot g n y x z : Int)) rfl hs4 (fun _ => rfl) (fun _ => rfl)) (by
            rw [cut_tr_0b (Nat.le_of_lt hx), cut_tr_ab so sle]; have := szs 0 x (by omega); have := szs (En g n x) _ sle; show _ ≤ 16777216; omega)).add (LstE.var (i := 7) rfl q4) (by
            rw [cut_tr_0b (Nat.le_of_lt hx), cut_tr_ab so sle, List.length_append]; have := szs 0 x (by omega); have := szs (En g n x) _ sle; show _ ≤ 16777216; omega)).addN (LstE.cut (i := 0) (lo := pSome (eVar 8)) (hi := pNone) (l := some (spot g n y x z : Int)) (u := none) rfl hs4 (fun _ => rfl) (fun _ => rfl)) (by
            rw [cut_tr_0b (Nat.le_of_lt hx), cut_tr_ab so sle, cut_tr_a0 sle, List.length_append, List.length_append]; have := szs 0 x (by omega); have := szs (En g n x) _ sle; have := szs (spot g n y x z) n (by omega); show _ ≤ 16777216; omega)
        obtain ⟨H5, r5, e5, p5, n5, g5⟩ := hA
        refine ⟨H5, r5, p5, n5, ?_, ?_⟩
        · simp at e5
          simp [hsx, e5]
        · rw [g5, cut_tr_0b (Nat.le_of_lt hx), cut_tr_ab so sle, cut_tr_a0 sle, if_neg hsx]
          simp [List.append_assoc]
    obtain ⟨h', r, p5, n5, e5, g5⟩ := hlast _ rfl
    refine ⟨h', pall.trans p5, .inr ⟨hle, r, ?_, Nat.le_trans pall.len n5, g5⟩⟩
    rw [← e5]
    have hspot : (spot g n y x z : Int) = if z < (others g n y x).length then (((others g n y x).getD z 0 : Nat) : Int) else (En g n y : Int) := by
      unfold spot
      by_cases hz' : z < (others g n y x).length
      · rw [if_pos hz', List.getElem?_eq_getElem hz']
        simp [hz']
      · rw [if_neg hz', List.getElem?_eq_none (by omega)]
        simp
    by_cases hz' : z < (others g n y x).length
    · have hix := opIx_n (h := H4) (r := r1) (j := z) (d := .int ((others g n y x).getD z 0 : Nat)) (seq_lst (p4.get (p2.get q1))) (by simp [hz'])
      rw [hspot, if_pos hz']
      simp [F_moved_part, B_moved_part, len_ok hs]
      rw [if_neg (by omega)]
      simp [end_ok hs hx hn]
      rw [if_neg (by omega)]
      simp [e1, hlen1]
      rw [if_neg (by omega)]
      simp [row_ok hs1 hy, e2, seq_lst q2, hcomp, e4, hm, end_ok hs4 hy hn, hlen4, hz', hix]
    · rw [hspot, if_neg hz']
      simp [F_moved_part, B_moved_part, len_ok hs]
      rw [if_neg (by omega)]
      simp [end_ok hs hx hn]
      rw [if_neg (by omega)]
      simp [e1, hlen1]
      rw [if_neg (by omega)]
      simp [row_ok hs1 hy, e2, seq_lst q2, hcomp, e4, hm, end_ok hs4 hy hn, hlen4, hz']
end
end K30
set_option Elab.async false
set_option linter.all false
set_option autoImplicit false
namespace K30
open PySem TM TR
section
variable {g : Nat → Nat} {w : Nat → Str} {n : Nat} {h : Hh} {a : Nat}
/-- the lists ahead of m -/
noncomputable def ks (g : Nat → Nat) (n m : Nat) : List (List Nat) := (List.range m).map (yk g n m)
theorem ks_step {m p : Nat} (hp : IsLast g m (g m - 1) p) (h1 : m < En g n p) (h2 : g m = g p + 1) (hm : m < n) : (ks g n m ++ [[]]).set p (yk g n m p ++ [m]) = ks g n (m + 1) := by
  apply List.ext_getElem?
  intro v
  have hpm := hp.1
  unfold ks
  by_cases hv : v < m
  · have e1 : ((List.range (m + 1)).map (yk g n (m + 1)))[v]? = some (yk g n (m + 1) v) := by
      rw [List.getElem?_map, List.getElem?_range (by omega)]; rfl
    rw [e1, yk_step hv]
    by_cases hvp : p = v
    · subst hvp
      rw [List.getElem?_set_self (by simp; omega), if_pos ⟨hv, h1, h2⟩]
    · rw [List.getElem?_set_ne hvp, if_neg (fun z => hvp (par_uniq hp hv z.2.1 z.2.2 (by omega)).symm), List.append_nil, List.getElem?_append_left (by simpa using hv), List.getElem?_map, List.getElem?_range hv]
      rfl
  · rw [List.getElem?_set_ne (by omega)]
    by_cases hvm : v = m
    · subst hvm
      have : yk g n (v + 1) v = [] := by simp [yk]
      rw [List.getElem?_append_right (by simp), List.getElem?_map, List.getElem?_range (by omega)]
      simp [this]
    · rw [List.getElem?_eq_none (by simp; omega), List.getElem?_eq_none (by simp; omega)]
theorem young_law (hs : seqAt h a = some (tr g w n)) (hn : n < 1000) (wf : WF g n) :
    (F_law_young [.ref a] h).post fun d h' => ∃ y, d = .ref y ∧ LL h' y (ks g n n) (fun p => p < h.length) ∧ ∀ p, p < h.length → h'[p]? = h[p]? := by
  have ha : a < h.length := by
    unfold seqAt at hs
    cases hz : h[a]? with
    | none => rw [hz] at hs; cases hs
    | some o => exact get_lt hz
  have sq : ∀ {h' : Hh}, (∀ p, p < h.length → h'[p]? = h[p]?) → seqAt h' a = some (tr g w n) := fun {h'} hp => by
    unfold seqAt at hs ⊢
    rw [hp a ha]
    exact hs
  refine post_fn rfl ?_
  have s1 : small 1 = true := rfl
  have s2 : small (n : Int) = true := small_lt (by omega) (by omega)
  have hp0 := wf.pos
  simp [B_law_young, len_ok (seqAt_app hs _), keyFit, keyOf, s1, s2]
  refine ends_then (for_rng (fun i e h' => (∃ s, e = [.val (.ref a), .val (.ref (h.length + 1)), .val (.ref (h.length + 2)), s]) ∧ LL h' (h.length + 1) (ks g n (1 + i)) (fun p => p < h.length ∨ p = h.length + 2) ∧ (∀ p, p < h.length → h'[p]? = h[p]?) ∧
    ∃ kvs, h'[h.length + 2]? = some (.dct 0 kvs) ∧ kvs.length ≤ 1 + i ∧ ∀ d p, IsLast g (1 + i) d p → look kvs (dn d) = some (dn p)) (by show _ < 1000000; omega) ?_ ?_) ?_
  · refine ⟨⟨_, rfl⟩, ⟨[h.length], ⟨by simp, by simp [ks], by simp, fun v b l h1 h2 => ?_, ?_, ?_⟩⟩, fun p hp => by rw [List.getElem?_append_left hp], [(.int 0, .int 0)], by simp, by simp, ?_⟩
    · cases v with
      | zero =>
        cases h1
        simp [ks, yk] at h2
        subst h2
        simp
      | succ v => simp at h1
    · intro b hb z
      simp at hb
      omega
    · intro p hp
      simp
      omega
    · rintro d p ⟨p1, p2, p3⟩
      have : p = 0 := by omega
      subst this
      rw [wf.root] at p2
      subst p2
      rfl
  · rintro i e h' hi ⟨⟨s, rfl⟩, hll, hkeep, kvs, hd, hkl, hlast⟩
    refine ⟨_, rfl, ?_⟩
    have him : 1 + i < n := by omega
    have hm1 : 1 ≤ 1 + i := by omega
    simp only [show ((1 : Int) + (i : Int)) = ((1 + i : Nat) : Int) by omega, show 1 + (i + 1) = 1 + i + 1 by omega]
    generalize 1 + i = m at *
    obtain ⟨p, hp, hp1, hp2⟩ := par_ex wf hm1 him
    obtain ⟨bs0, top0, _⟩ := hll.tops
    obtain ⟨h1, e1, l1, k1⟩ := hll.push (by simp [ks]; show _ < 16777216; omega)
    have kk1 : ∀ p, p < h.length → h1[p]? = h[p]? := fun p hp => (k1 p (.inl hp)).trans (hkeep p hp)
    have d1 : h1[h.length + 2]? = some (.dct 0 kvs) := (k1 _ (.inr rfl)).trans hd
    have hpl : p < m := hp.1
    have hkp : (ks g n m ++ [[]])[p]? = some (yk g n m p) := by
      rw [List.getElem?_append_left (by simpa [ks] using hpl)]
      simp [ks, hpl]
    obtain ⟨b, b1, b2, b3, b4⟩ := l1.get hkp
    obtain ⟨h2, e2, l2, k2⟩ := l1.add (u := m) b1 hkp (by
      have : (yk g n m p).length ≤ m := by
        unfold yk
        refine Nat.le_trans (List.length_filter_le _ _) ?_
        rw [List.length_range']
        omega
      show _ < 16777216
      omega)
    rw [ks_step hp hp1 hp2 him] at l2
    have kk2 : ∀ p, p < h.length → h2[p]? = h[p]? := fun p hp => (k2 p (.inl hp)).trans (kk1 p hp)
    have d2 : h2[h.length + 2]? = some (.dct 0 kvs) := (k2 _ (.inr rfl)).trans d1
    have r1 := row_ok (i := m) (sq kk1) him
    have r2 := row_ok (i := m) (sq kk2) him
    have hix := opIx_d (k := dn (g m - 1)) d1 rfl (hlast _ _ hp)
    have hpos := (wf.step (m - 1) (by omega)).1
    rw [show m - 1 + 1 = m by omega] at hpos
    have edn : dn (g m - 1) = .int ((g m : Int) - 1) := by
      have z : ((g m - 1 : Nat) : Int) = (g m : Int) - 1 := by omega
      show D.int ((g m - 1 : Nat) : Int) = _
      rw [z]
    rw [edn] at hix
    unfold dn at hix e2
    have hput := opPut_d (k := .int (g m : Int)) (v := .int (m : Int)) d2 rfl (by show _ < 16777216; omega)
    have bl := isL_of b2
    have tl := isL_of top0
    simp [tl, e1, r1, hix, b1, bl, e2, r2, hput]
    refine ⟨l2.other (.inr rfl), fun p hp => ?_, dput kvs (.int (g m : Int)) (.int (m : Int)), ?_, ?_, ?_⟩
    · rw [List.getElem?_set_ne (by omega)]
      exact kk2 p hp
    · rw [List.getElem?_set_self (get_lt d2)]
    · have := dput_len kvs (.int (g m : Int)) (.int (m : Int))
      omega
    · rintro d q ⟨q1, q2, q3⟩
      rw [look_dput]
      by_cases hd : d = g m
      · subst hd
        have : q = m := by
          rcases Nat.lt_or_ge q m with z | z
          · exact absurd rfl (q3 m z (by omega))
          · omega
        subst this
        exact if_pos rfl
      · have hqm : q ≠ m := fun z => hd (by rw [← q2, z])
        rw [if_neg (show ¬ D.int (g m : Int) = dn d from fun z => hd (dn_inj (show dn (g m) = dn d from z)).symm)]
        exact hlast d q ⟨by omega, q2, fun j j1 j2 => q3 j j1 (by omega)⟩
  · rintro e h' ⟨⟨s, rfl⟩, hll, hkeep, _⟩
    rw [show 1 + (n - 1) = n by omega] at hll
    simp
    exact ⟨hll.weak fun p hp => .inl hp, hkeep⟩
end
end K30
set_option Elab.async false
set_option linter.all false
set_option autoImplicit false
namespace K30
open PySem TM TR
section
variable {g : Nat → Nat} {w : Nat → Str} {n : Nat} {h : Hh} {a y : Nat} {ex : Nat → Prop}
theorem ks_get {v : Nat} (hv : v < n) : (ks g n n)[v]? = some (kids g n v) := by
  unfold ks
  rw [List.getElem?_map, List.getElem?_range hv]
  simp [yk_end hv]
theorem len_sum {l : List Nat} {f : Nat → Nat} (hf : ∀ v ∈ l, 1 ≤ f v) : l.length ≤ (l.map f).sum := by
  induction l with
  | nil => simp
  | cons c l ih =>
    rw [List.length_cons, List.map_cons, List.sum_cons]
    have := hf c List.mem_cons_self
    have := ih fun v hv => hf v (List.mem_cons_of_mem _ hv)
    omega
theorem within_law {x z : Nat} (hl : LL h y (ks g n n) ex) (hn : n < 1000) (wf : WF g n) (hx : x < n) (hz : z < n) :
    (F_law_within [.ref y, dn x, dn z] h).post fun d h' => d = .bl (decide (x ≤ z ∧ z < En g n x)) ∧ LL h' y (ks g n n) ex ∧ ∀ p, ex p → h'[p]? = h[p]? := by
  have ax := isEnd (g := g) hx
  have hlow : ∀ p, ex p → p < h.length := by
    obtain ⟨bs, q⟩ := hl
    exact q.low
  refine post_fn rfl ?_
  simp [B_law_within]
  refine ends_then (while_go (Q := fun e h' => LL h' y (ks g n n) ex ∧ (∀ p, ex p → h'[p]? = h[p]?) ∧ ¬ (x ≤ z ∧ z < En g n x))
    (fun e h' k => (∃ s, e = [.val (.ref y), .val (dn x), .val (dn z), .val (.ref h.length), s]) ∧ LL h' y (ks g n n) (fun p => ex p ∨ p = h.length) ∧ (∀ p, ex p → h'[p]? = h[p]?) ∧
      ∃ st : List Nat, h'[h.length]? = some (.lst (st.map dn)) ∧ (∀ v ∈ st, v < n) ∧ ((x ≤ z ∧ z < En g n x) ↔ ∃ v ∈ st, v ≤ z ∧ z < En g n v) ∧ k = (st.map fun c => En g n c - c).sum ∧ k ≤ n) (En g n x - x)
    (by have := ax.le; show _ < 1000000; omega) ?_ ?_) ?_
  · refine ⟨⟨_, rfl⟩, hl.keep, fun p hp => ?_, [x], by simp, by simpa using hx, by simp, by simp, by have := ax.le; omega⟩
    obtain ⟨bs, q⟩ := hl
    rw [List.getElem?_append_left (q.low p hp)]
  · rintro e h' k ⟨⟨s, rfl⟩, hll, hkeep, st, ht, hst, hiff, rfl, hk⟩
    have hlen := fLen_s (seq_lst ht)
    rw [List.length_map] at hlen
    rcases List.eq_nil_or_concat st with rfl | ⟨xs, v, rfl⟩
    · left
      refine ⟨h', ?_, hll.weak fun p hp => .inl hp, hkeep, ?_⟩
      · simp at hlen
        simp [hlen]
      · rw [hiff]
        simp
    · right
      refine ⟨h', ?_, ?_⟩
      · simp [hlen]
      · have hv : v < n := hst v (by simp)
        have av := isEnd (g := g) hv
        have tl := isL_of ht
        rw [List.concat_eq_append, List.map_append, List.map_cons, List.map_nil] at ht
        have hpop := pop_ok ht
        have l1 := hll.other (o := .lst (xs.map dn)) (.inr rfl)
        obtain ⟨b, b1, b2, b3, b4⟩ := l1.get (ks_get hv)
        have t1 : (h'.set h.length (.lst (xs.map dn)))[h.length]? = some (.lst (xs.map dn)) := List.getElem?_set_self (get_lt ht)
        have hext := ext_ok t1 b2 (by
          have h1 : (kids g n v).length < n := kids_len hv
          have h2 := len_sum (l := xs ++ [v]) (f := fun c => En g n c - c) fun u hu => by
            have := (isEnd (g := g) (hst u (by simpa using hu))).lt
            omega
          rw [List.concat_eq_append] at hk
          rw [List.length_append] at h2
          rw [List.length_map, List.length_map]
          show _ ≤ 16777216
          omega)
        by_cases hvz : v = z
        · subst hvz
          have e0 : opEq (dn v) (dn v) (h'.set h.length (.lst (xs.map dn))) = .ok (.bl true) (h'.set h.length (.lst (xs.map dn))) := by unfold dn; simp
          simp [tl, hpop, e0]
          refine ⟨hiff.mpr ⟨v, by simp, Nat.le_refl _, av.lt⟩, l1.weak fun p hp => .inl hp, fun p hp => ?_⟩
          rw [List.getElem?_set_ne (by have := hlow p hp; omega)]
          exact hkeep p hp
        · have e0 : opEq (dn v) (dn z) (h'.set h.length (.lst (xs.map dn))) = .ok (.bl false) (h'.set h.length (.lst (xs.map dn))) := by unfold dn; simp; omega
          have b1' : opIx (.ref y) (dn v) (h'.set h.length (.lst (xs.map dn))) = .ok (.ref b) (h'.set h.length (.lst (xs.map dn))) := b1
          simp [tl, hpop, e0, isL_of t1, b1', hext]
          have hsum := (kids_chain wf hv).sum
          refine ⟨(xs.map fun c => En g n c - c).sum + (En g n v - (v + 1)), by have := av.lt; omega, hll.other (.inr rfl), fun p hp => ?_, xs ++ kids g n v, ?_, ?_, ?_, ?_, ?_⟩
          · rw [List.getElem?_set_ne (by have := hlow p hp; omega)]
            exact hkeep p hp
          · rw [List.getElem?_set_self (get_lt ht), List.map_append]
          · intro u hu
            rcases List.mem_append.mp hu with hu | hu
            · exact hst u (by simp [hu])
            · exact ((kids_chain wf hv).mem u hu).2.1
          · rw [hiff]
            constructor
            · rintro ⟨u, hu, h1, h2⟩
              rw [List.concat_eq_append] at hu
              rcases List.mem_append.mp hu with hu | hu
              · exact ⟨u, List.mem_append_left _ hu, h1, h2⟩
              · have : u = v := by simpa using hu
                subst this
                obtain ⟨c, c1, c2, c3⟩ := (kids_chain wf hv).find (u := z) (by omega) h2
                exact ⟨c, List.mem_append_right _ c1, c2, c3⟩
            · rintro ⟨u, hu, h1, h2⟩
              rcases List.mem_append.mp hu with hu | hu
              · exact ⟨u, by simp [hu], h1, h2⟩
              · obtain ⟨c1, c2, c3, c4⟩ := (kids_chain wf hv).mem u hu
                exact ⟨v, by simp, by omega, by omega⟩
          · rw [List.map_append, List.sum_append, hsum]
          · rw [List.concat_eq_append, List.map_append, List.sum_append] at hk
            simp at hk
            have := av.lt
            omega
  · rintro e h' ⟨hll, hkeep, hno⟩
    simp
    exact ⟨by omega, hll, hkeep⟩
end
end K30
set_option Elab.async false
set_option linter.all false
set_option autoImplicit false
namespace K30
open PySem TM TR
/-- a node with its depth, on the stack -/
def en2 (p : Nat × Nat) : D := .tup [dn p.1, dn p.2]
section
variable {g : Nat → Nat} {w : Nat → Str} {n : Nat} {h : Hh} {a y : Nat} {ex : Nat → Prop}
theorem flat_law {Y : Nat → List Nat} {L : List (Nat × Str)} {K : List (List Nat)} (hs : seqAt h a = some (tr g w n)) (ha : ex a) (hl : LL h y K ex) (hK : ∀ v, v < n → K[v]? = some (Y v)) (hY : ∀ v, v < n → ∀ c ∈ Y v, c < n) (h0 : 0 < n) (ho : Out Y w [(0, 0)] L) (hL : L.length < 1000) :
    (F_law_flat [.ref a, .ref y] h).post fun d h' => ∃ r, d = .ref r ∧ h.length ≤ r ∧ h'[r]? = some (.lst (L.map enc)) ∧ LL h' y K ex ∧ ∀ p, ex p → h'[p]? = h[p]? := by
  have hlow : ∀ p, ex p → p < h.length := by
    obtain ⟨bs, q⟩ := hl
    exact q.low
  have sq : ∀ {h' : Hh}, (∀ p, ex p → h'[p]? = h[p]?) → seqAt h' a = some (tr g w n) := fun {h'} hp => by
    unfold seqAt at hs ⊢
    rw [hp a ha]
    exact hs
  refine post_fn rfl ?_
  simp [B_law_flat]
  refine ends_then (while_go (Q := fun e h' => (∃ s t u, e = [.val (.ref a), .val (.ref y), .val (.ref h.length), .val (.ref (h.length + 1)), s, t, u]) ∧ h'[h.length]? = some (.lst (L.map enc)) ∧ LL h' y K ex ∧ ∀ p, ex p → h'[p]? = h[p]?)
    (fun e h' k => (∃ s t u, e = [.val (.ref a), .val (.ref y), .val (.ref h.length), .val (.ref (h.length + 1)), s, t, u]) ∧ LL h' y K (fun p => (ex p ∨ p = h.length) ∨ p = h.length + 1) ∧ (∀ p, ex p → h'[p]? = h[p]?) ∧
      ∃ (st : List (Nat × Nat)) (made rest : List (Nat × Str)), h'[h.length + 1]? = some (.lst (st.map en2)) ∧ h'[h.length]? = some (.lst (made.map enc)) ∧ (∀ p ∈ st, p.1 < n) ∧ Out Y w st.reverse rest ∧ made ++ rest = L ∧ k = rest.length) L.length
    (by show _ < 1000000; omega) ?_ ?_) ?_
  · refine ⟨⟨_, _, _, rfl⟩, ?_, fun p hp => ?_, [(0, 0)], [], L, by simp [en2, dn], by simp, by simpa using h0, ho, rfl, rfl⟩
    · have := (hl.keep (o := .lst [])).keep (o := .lst [.tup [.int 0, .int 0]])
      simpa using this
    · rw [List.getElem?_append_left (hlow p hp)]
  · rintro e h' k ⟨⟨s, t, u, rfl⟩, hll, hkeep, st, made, rest, ht, hm, hst, hout, hmr, rfl⟩
    have hlen := fLen_s (seq_lst ht)
    rw [List.length_map] at hlen
    rcases List.eq_nil_or_concat st with rfl | ⟨xs, ⟨v, d⟩, rfl⟩
    · left
      cases hout
      simp at hlen
      refine ⟨h', by simp [hlen], ⟨_, _, _, rfl⟩, ?_, hll.weak fun p hp => .inl (.inl hp), hkeep⟩
      rw [hm, ← hmr, List.append_nil]
    · right
      refine ⟨h', by simp [hlen], ?_⟩
      rw [List.concat_eq_append, List.reverse_append] at hout
      have hlr := hout.len
      cases hout with
      | step hout =>
        rename_i l
        have hv : v < n := hst (v, d) (by simp)
        have tl := isL_of ht
        rw [List.concat_eq_append, List.map_append, List.map_cons, List.map_nil] at ht
        have hpop := pop_ok ht
        have l1 := hll.other (o := .lst (xs.map en2)) (.inr rfl)
        have m1 : (h'.set (h.length + 1) (.lst (xs.map en2)))[h.length]? = some (.lst (made.map enc)) := by rw [List.getElem?_set_ne (by omega)]; exact hm
        have r1 := row_ok (i := v) (sq (h' := h'.set (h.length + 1) (.lst (xs.map en2))) fun p hp => by rw [List.getElem?_set_ne (by have := hlow p hp; omega)]; exact hkeep p hp) hv
        have happ := app_ok (d := enc (d, w v)) m1 (by
          have := congrArg List.length hmr
          simp at this
          rw [List.length_map]
          show _ < 16777216
          omega)
        generalize hh1 : h'.set (h.length + 1) (.lst (xs.map en2)) = h1 at *
        have t1 : h1[h.length + 1]? = some (.lst (xs.map en2)) := by rw [← hh1]; exact List.getElem?_set_self (get_lt ht)
        have k1 : ∀ p, ex p → h1[p]? = h[p]? := fun p hp => by
          rw [← hh1, List.getElem?_set_ne (by have := hlow p hp; omega)]
          exact hkeep p hp
        have l2 := l1.other (o := .lst (made.map enc ++ [enc (d, w v)])) (.inl (.inr rfl))
        have t2 : (h1.set h.length (.lst (made.map enc ++ [enc (d, w v)])))[h.length + 1]? = some (.lst (xs.map en2)) := by rw [List.getElem?_set_ne (by omega)]; exact t1
        have m2 : (h1.set h.length (.lst (made.map enc ++ [enc (d, w v)])))[h.length]? = some (.lst (made.map enc ++ [enc (d, w v)])) := List.getElem?_set_self (get_lt m1)
        have k2 : ∀ p, ex p → (h1.set h.length (.lst (made.map enc ++ [enc (d, w v)])))[p]? = h[p]? := fun p hp => by
          rw [List.getElem?_set_ne (by have := hlow p hp; omega)]
          exact k1 p hp
        generalize h1.set h.length (.lst (made.map enc ++ [enc (d, w v)])) = h2 at *
        obtain ⟨b, b1, b2, b3, b4⟩ := l2.get (hK v hv)
        have ml := isL_of m1
        have eix : opIx (.tup [.int (g v : Int), .str (w v)]) (.int 1) h1 = .ok (.str (w v)) h1 := rfl
        have b1' : opIx (.ref y) (dn v) h2 = .ok (.ref b) h2 := b1
        have r1' : opIx (.ref a) (dn v) h1 = .ok (.tup [.int (g v : Int), .str (w v)]) h1 := r1
        have happ' : mAppend (.ref h.length) [.tup [dn d, .str (w v)]] h1 = .ok .non h2 := happ
        have een : en2 (v, d) = .tup [dn v, dn d] := rfl
        rw [een] at hpop
        simp [tl, hpop, r1', ml, happ', b1', seq_lst b2]
        have hlb : ((Y v).map dn).length = (Y v).length := by simp
        rw [← hlb]
        have hrl : xs.length + (Y v).length ≤ l.length := by
          have := hout.len
          simp at this
          omega
        have hll2 : l.length < L.length := by
          have := congrArg List.length hmr
          simp at this
          omega
        refine ends_last (for_rev (fun i e h3 => (∃ s, e = [.val (.ref a), .val (.ref y), .val (.ref h.length), .val (.ref (h.length + 1)), s, .val (dn v), .val (dn d)]) ∧ LL h3 y K (fun p => (ex p ∨ p = h.length) ∨ p = h.length + 1) ∧ (∀ p, p ≠ h.length + 1 → h3[p]? = h2[p]?) ∧
          h3[h.length + 1]? = some (.lst ((xs ++ ((Y v).reverse.take i).map fun c => (c, d + 1)).map en2))) (by simp; show _ < 1000000; omega) ?_ ?_ ?_) ?_
        · rintro i e h3 ⟨_, _, q, _⟩
          refine seq_lst ?_
          rw [q b (fun z => b4 (.inr z))]
          exact b2
        · refine ⟨⟨_, rfl⟩, l2, fun p _ => rfl, ?_⟩
          simpa using t2
        · rintro i e h3 c hc ⟨⟨s, rfl⟩, l3, q3, t3⟩
          refine ⟨_, rfl, ?_⟩
          rw [← List.map_reverse, List.getElem?_map] at hc
          cases hci : (Y v).reverse[i]? with
          | none => rw [hci] at hc; cases hc
          | some c' =>
            rw [hci] at hc
            cases hc
            have hil := (List.getElem?_eq_some_iff.mp hci).1
            simp at hil
            have ha3 := app_ok (d := en2 (c', d + 1)) t3 (by simp; show _ < 16777216; omega)
            have e5 : (D.tup [dn c', .int ((d : Int) + 1)]) = en2 (c', d + 1) := rfl
            have eadd : opAdd (dn d) (.int 1) h3 = .ok (.int ((d : Int) + 1)) h3 := rfl
            simp [isL_of t3, eadd, e5, ha3]
            refine ⟨l3.other (.inr rfl), fun p hp => ?_, ?_⟩
            · rw [List.getElem?_set_ne (fun z => hp z.symm)]
              exact q3 p hp
            · rw [List.getElem?_set_self (get_lt t3)]
              have e7 : ((Y v).map (en2 ∘ fun c => (c, d + 1))).reverse[i]? = some (en2 (c', d + 1)) := by rw [← List.map_reverse, List.getElem?_map, hci]; rfl
              rw [List.take_succ, e7]
              simp
        · rintro e h3 ⟨⟨s, rfl⟩, l3, q3, t3⟩
          rw [hlb, List.take_of_length_le (by simp)] at t3
          refine ⟨l.length, by simp, ⟨_, _, _, rfl⟩, l3, fun p hp => ?_, _, t3, made ++ [(d, w v)], ?_, fun c d' hp => ?_, l, ?_, ?_, rfl⟩
          · rw [q3 p (by have := hlow p hp; omega)]
            exact k2 p hp
          · rw [q3 _ (by omega), m2]
            simp
          · rcases List.mem_append.mp hp with hp | hp
            · exact hst (c, d') (by simp [hp])
            · obtain ⟨c1, hc, e8⟩ := List.mem_map.mp hp
              cases e8
              exact hY v hv c (by simpa using hc)
          · rw [List.reverse_append, ← List.map_reverse, List.reverse_reverse]
            exact hout
          · rw [← hmr]
            simp
  · rintro e h' ⟨⟨s, t, u, rfl⟩, hm, hll, hkeep⟩
    simp
    exact ⟨hm, hll, hkeep⟩
end
end K30
set_option Elab.async false
set_option linter.all false
set_option autoImplicit false
namespace K30
open PySem TM TR
section
variable {g : Nat → Nat} {w : Nat → Str} {n : Nat} {h : Hh} {a y : Nat} {ex : Nat → Prop}
def code (k : Int) : D := .tup [.int k, .bl true, .bl true, .bl false]
/-- the rows behind the move -/
noncomputable def moved (g : Nat → Nat) (n : Nat) (w : Nat → Str) (y x z : Nat) : List (Nat × Str) := if spot g n y x z ≤ x
  then seg (fun u => (g u, w u)) 0 (spot g n y x z) ++ part' g n w y x ++ seg (fun u => (g u, w u)) (spot g n y x z) x ++ seg (fun u => (g u, w u)) (En g n x) n
  else seg (fun u => (g u, w u)) 0 x ++ seg (fun u => (g u, w u)) (En g n x) (spot g n y x z) ++ part' g n w y x ++ seg (fun u => (g u, w u)) (spot g n y x z) n
theorem due_no1 {x y z : Int} (hs : seqAt h a = some (tr g w n)) (hc : x < 1 ∨ (n : Int) ≤ x ∨ y < 0 ∨ (n : Int) ≤ y) : F_law_due [.ref a, .int x, .int y, .int z] h = .ok (code 1) h := by
  simp [F_law_due, B_law_due, len_ok hs]
  rw [if_pos (by omega)]
  rfl
theorem keep_seq {h h' : Hh} {xs : List D} (hs : seqAt h a = some xs) (hk : ∀ p, p < h.length → h'[p]? = h[p]?) : seqAt h' a = some xs := by
  unfold seqAt at hs ⊢
  cases hz : h[a]? with
  | none => rw [hz] at hs; cases hs
  | some o => rw [hk a (get_lt hz), hz]; rw [hz] at hs; exact hs
theorem due_no2 {x y : Nat} {z : Int} (hs : seqAt h a = some (tr g w n)) (hn : n < 1000) (wf : WF g n) (h1 : 1 ≤ x) (hx : x < n) (hy : y < n) (hc : x ≤ y ∧ y < En g n x) :
    (F_law_due [.ref a, .int x, .int y, .int z] h).post fun d h' => d = code 2 ∧ ∀ p, p < h.length → h'[p]? = h[p]? := by
  obtain ⟨_, H1, e1, Y, rfl, l1, k1⟩ := young_law hs hn wf
  obtain ⟨_, H2, e2, rfl, l2, k2⟩ := within_law l1 hn wf hx hy
  rw [decide_eq_true hc] at e2
  refine ⟨code 2, H2, ?_, rfl, fun p hp => (k2 p hp).trans (k1 p hp)⟩
  unfold dn at e2
  simp [F_law_due, B_law_due, len_ok hs]
  rw [if_neg (by omega)]
  simp [e1, e2]
  rfl
/-- the lists without x, ahead of i -/
noncomputable def kx (g : Nat → Nat) (n x i : Nat) : List (List Nat) := (List.range n).map fun v => if v < i then (kids g n v).filter (fun c => decide (c ≠ x)) else kids g n v
theorem kx_0 {x : Nat} : kx g n x 0 = ks g n n := by
  unfold kx ks
  apply List.map_congr_left
  intro v hv
  rw [List.mem_range] at hv
  rw [if_neg (by omega), yk_end hv]
theorem kx_get {x i v : Nat} (hv : v < n) : (kx g n x i)[v]? = some (if v < i then (kids g n v).filter (fun c => decide (c ≠ x)) else kids g n v) := by
  unfold kx
  rw [List.getElem?_map, List.getElem?_range hv]
  rfl
theorem kx_step {x i : Nat} (hi : i < n) : (kx g n x i).set i ((kids g n i).filter fun c => decide (c ≠ x)) = kx g n x (i + 1) := by
  apply List.ext_getElem?
  intro v
  by_cases hv : v < n
  · rw [kx_get hv]
    by_cases hvi : i = v
    · subst hvi
      rw [List.getElem?_set_self (by simpa [kx] using hi), if_pos (by omega)]
    · rw [List.getElem?_set_ne hvi, kx_get hv]
      congr 1
      by_cases h : v < i
      · rw [if_pos h, if_pos (by omega)]
      · rw [if_neg h, if_neg (by omega)]
  · rw [List.getElem?_eq_none (by simp [kx]; omega), List.getElem?_eq_none (by simp [kx]; omega)]
theorem take_out {x : Nat} {Y a : Nat} {s4 s5 s6 s7 s8 s9 : TM.Slot} {z y : Int} (hl : LL h Y (ks g n n) ex) (hn : n < 1000) :
    (forN (.rng 0 1 n) (.one 5) (sSub opPut (eVar 4) (eVar 5) (eComp (iLst (eBin opIx (eVar 4) (eVar 5))) (.one 7) [7] (tE (eBin opNe (eVar 7) (eVar 1))) (eVar 7))) fuel 0 [.val (.ref a), .val (.int (x : Nat)), .val (.int y), .val (.int z), .val (.ref Y), s5, s6, s7, s8, s9] h).ends false
      (fun e h' => (∃ s, e = [.val (.ref a), .val (.int (x : Nat)), .val (.int y), .val (.int z), .val (.ref Y), s, s6, s7, s8, s9]) ∧ LL h' Y (kx g n x n) ex ∧ ∀ p, ex p → h'[p]? = h[p]?) fun _ _ => False := by
  refine for_rng (fun i e h' => (∃ s, e = [.val (.ref a), .val (.int (x : Nat)), .val (.int y), .val (.int z), .val (.ref Y), s, s6, s7, s8, s9]) ∧ LL h' Y (kx g n x i) ex ∧ ∀ p, ex p → h'[p]? = h[p]?) (by show _ < 1000000; omega) ⟨⟨_, rfl⟩, by rw [kx_0]; exact hl, fun p _ => rfl⟩ ?_
  rintro i e h' hi ⟨⟨s, rfl⟩, l1, k1⟩
  refine ⟨_, rfl, ?_⟩
  have hv := kx_get (g := g) (x := x) (i := i) hi
  rw [if_neg (Nat.lt_irrefl _)] at hv
  obtain ⟨b, b1, b2, b3, b4⟩ := l1.get hv
  obtain ⟨h2, e2, l2, k2⟩ := l1.repl (v := i) (ks' := (kids g n i).filter fun c => decide (c ≠ x)) (by simpa [kx] using hi)
  rw [kx_step hi] at l2
  have hcomp := comp_lst (h := h') (e := [.val (.ref a), .val (.int (x : Nat)), .val (.int y), .val (.int z), .val (.ref Y), .val (.int i), s6, .no, s8, s9]) (tg := .one 7) (tt := tE (eBin opNe (eVar 7) (eVar 1))) (a := eVar 7)
    ((kids g n i).map fun (u : Nat) => D.int (u : Int)) (fun d => if d = .int x then none else some d) (by have := kids_len (g := g) hi; rw [List.length_map]; show _ < 1000000; omega) (seq_lst b2) fun d hd => by
      obtain ⟨c, hc, rfl⟩ := List.mem_map.mp hd
      refine ⟨_, rfl, decide (c ≠ x), ?_, ?_, ?_⟩
      · simp
        omega
      · intro z
        simp at z
        simp
        omega
      · intro z
        simp at z
        simp [z]
  rw [ints_ne] at hcomp
  have ef : ((kids g n i).filter fun (c : Nat) => decide ((c : Int) ≠ (x : Int))).map (fun (u : Nat) => D.int (u : Int)) = ((kids g n i).filter fun c => decide (c ≠ x)).map dn := by
    simp [Int.ofNat_inj]
    intro c _ _
    rfl
  rw [ef] at hcomp
  simp [b1, seq_lst b2]
  rw [hcomp]
  simp only [ne_eq, decide_not] at e2
  simp [e2]
  exact ⟨l2, fun p hp => (k2 p hp).trans (k1 p hp)⟩

theorem kx_ins {x y z : Nat} (hy : y < n) {v : Nat} (hv : v < n) : ((kx g n x n).set y ((others g n y x).take z ++ x :: (others g n y x).drop z))[v]? = some (young' g n y x z v) := by
  by_cases hvy : y = v
  · subst hvy
    rw [List.getElem?_set_self (by simpa [kx] using hy)]
    unfold young'
    rw [if_pos rfl]
  · rw [List.getElem?_set_ne hvy, kx_get hv, if_pos hv]
    unfold young'
    rw [if_neg (fun z => hvy z.symm)]
theorem due_pre {x y : Nat} {z : Int} (hs : seqAt h a = some (tr g w n)) (hn : n < 1000) (wf : WF g n) (h1 : 1 ≤ x) (hx : x < n) (hy : y < n) (hc : ¬ (x ≤ y ∧ y < En g n x)) :
    ∃ H Y s, LL H Y (kx g n x n) (fun p => p < h.length) ∧ (∀ p, p < h.length → H[p]? = h[p]?) ∧ F_law_due [.ref a, .int x, .int y, .int z] h =
      (sSeq (sIf (tOr (tE (eBin opLt (eVar 3) (eC (.int 0)))) (tE (eBin opGt (eVar 3) (eBlt fLen (aCons (eBin opIx (eVar 4) (eVar 2)) aNil))))) (sRet (eTup (aCons (eC (.int 2)) (aCons (eC (.bl true)) (aCons (eC (.bl true)) (aCons (eC (.bl false)) aNil)))))) sNil)
        (sSeq (sExpr (eMeth isL mInsert (eBin opIx (eVar 4) (eVar 2)) (aCons (eVar 3) (aCons (eVar 1) aNil))))
          (sSeq (sSet (.one 6) (eCall F_law_flat (aCons (eVar 0) (aCons (eVar 4) aNil))))
            (sSeq (sIf (tE (eBin opGt (eBlt fMax (aCons (eComp (iLst (eVar 6)) (.many [8, 9]) [8, 9] tYes (eVar 8)) aNil)) (eC (.int 30)))) (sRet (eTup (aCons (eC (.int 3)) (aCons (eC (.bl true)) (aCons (eC (.bl true)) (aCons (eC (.bl false)) aNil)))))) sNil)
              (sRet (eVar 6))))) [.val (.ref a), .val (.int x), .val (.int y), .val (.int z), .val (.ref Y), s, .no, .no, .no, .no] H).out := by
  obtain ⟨_, H1, e1, Y, rfl, l1, k1⟩ := young_law hs hn wf
  obtain ⟨_, H2, e2, rfl, l2, k2⟩ := within_law l1 hn wf hx hy
  rw [decide_eq_false hc] at e2
  have s1 : seqAt H2 a = some (tr g w n) := keep_seq hs fun p hp => (k2 p hp).trans (k1 p hp)
  have ht := take_out (a := a) (x := x) (y := (y : Int)) (z := z) (s4 := .no) (s5 := .no) (s6 := .no) (s7 := .no) (s8 := .no) (s9 := .no) l2 hn
  unfold dn at e2
  have c1 : ¬ ((x : Int) < 1 ∨ n ≤ x ∨ (y : Int) < 0 ∨ n ≤ y) := by omega
  generalize hr : forN (.rng 0 1 n) (.one 5) (sSub opPut (eVar 4) (eVar 5) (eComp (iLst (eBin opIx (eVar 4) (eVar 5))) (.one 7) [7] (tE (eBin opNe (eVar 7) (eVar 1))) (eVar 7))) fuel 0 [.val (.ref a), .val (.int (x : Nat)), .val (.int (y : Int)), .val (.int z), .val (.ref Y), .no, .no, .no, .no, .no] H2 = r at ht
  cases r with
  | nx e' H3 =>
    obtain ⟨⟨s, rfl⟩, l3, k3⟩ := ht
    refine ⟨H3, Y, s, l3, fun p hp => (k3 p hp).trans ((k2 p hp).trans (k1 p hp)), ?_⟩
    have sm : small (n : Int) = true := small_lt (by omega) (by omega)
    simp [F_law_due, B_law_due, len_ok hs]
    rw [if_neg (by omega)]
    simp [e1, e2, len_ok s1, sm]
    rw [hr]
    simp
  | rt d H3 => exact ht.elim
  | ct e' H3 => cases ht.1
  | bk e' H3 => exact ht.elim
  | exc c e' H3 => exact ht.elim
  | bad => exact ht.elim
end
end K30
set_option Elab.async false
set_option linter.all false
set_option autoImplicit false
namespace K30
open PySem TM TR
section
variable {g : Nat → Nat} {w : Nat → Str} {n : Nat} {h : Hh} {a y : Nat} {ex : Nat → Prop}
theorem others_len {x y : Nat} (hy : y < n) : (others g n y x).length < n := by
  have := kids_len (g := g) hy
  unfold others
  exact Nat.lt_of_le_of_lt (List.length_filter_le _ _) this
theorem due_no3 {x y : Nat} {z : Int} (hs : seqAt h a = some (tr g w n)) (hn : n < 1000) (wf : WF g n) (h1 : 1 ≤ x) (hx : x < n) (hy : y < n) (hc : ¬ (x ≤ y ∧ y < En g n x)) (hz : z < 0 ∨ ((others g n y x).length : Int) < z) :
    (F_law_due [.ref a, .int x, .int y, .int z] h).post fun d h' => d = code 2 ∧ ∀ p, p < h.length → h'[p]? = h[p]? := by
  obtain ⟨H, Y, s, l1, k1, e⟩ := due_pre (z := z) hs hn wf h1 hx hy hc
  have hv := kx_get (g := g) (x := x) (i := n) hy
  rw [if_pos hy] at hv
  obtain ⟨b, b1, b2, _, _⟩ := l1.get hv
  have hlen := fLen_s (seq_lst b2)
  rw [List.length_map] at hlen
  refine ⟨code 2, H, ?_, rfl, k1⟩
  rw [e]
  have ho : ((kids g n y).filter fun c => decide (c ≠ x)).length = (others g n y x).length := rfl
  rw [ho] at hlen
  simp [b1, hlen]
  rw [if_pos (by omega)]
  rfl
theorem moved_len {x y z : Nat} (wf : WF g n) (h1 : 1 ≤ x) (hx : x < n) (hy : y < n) (hc : ¬ (x ≤ y ∧ y < En g n x)) : (moved g n w y x z).length = n := by
  have ax := isEnd (g := g) hx
  have h2 := ax.lt
  have h3 := ax.le
  have sle := spot_le (g := g) (n := n) (elder := y) (node := x) (at_ := z) wf hy
  have so := spot_out (g := g) (n := n) (elder := y) (node := x) (at_ := z) wf hx hy hc
  unfold moved part'
  by_cases hs : spot g n y x z ≤ x
  · rw [if_pos hs]
    simp only [List.length_append, seg_length]
    omega
  · have := so (by omega)
    rw [if_neg hs]
    simp only [List.length_append, seg_length]
    omega
theorem young'_lt {x y z v c : Nat} (hx : x < n) (hv : v < n) (hc : c ∈ young' g n y x z v) : c < n := by
  unfold young' at hc
  split at hc
  · rename_i hvy
    subst hvy
    rcases List.mem_append.mp hc with h | h
    · have h := List.mem_of_mem_take h
      unfold others at h
      have := (mem_kids.mp (List.mem_filter.mp h).1)
      have := (isEnd (g := g) hv).le
      omega
    · rcases List.mem_cons.mp h with rfl | h
      · exact hx
      · have h := List.mem_of_mem_drop h
        unfold others at h
        have := (mem_kids.mp (List.mem_filter.mp h).1)
        have := (isEnd (g := g) hv).le
        omega
  · have := (mem_kids.mp (List.mem_filter.mp hc).1)
    have := (isEnd (g := g) hv).le
    omega
theorem due_yes {x y z : Nat} (hs : seqAt h a = some (tr g w n)) (hn : n < 1000) (wf : WF g n) (h1 : 1 ≤ x) (hx : x < n) (hy : y < n) (hc : ¬ (x ≤ y ∧ y < En g n x)) (hz : z ≤ (others g n y x).length) :
    (F_law_due [.ref a, .int x, .int y, .int z] h).post fun d h' => (∀ p, p < h.length → h'[p]? = h[p]?) ∧ (((∃ r ∈ moved g n w y x z, 30 < r.1) ∧ d = code 3) ∨ (∀ r ∈ moved g n w y x z, r.1 ≤ 30) ∧ ∃ r, d = .ref r ∧ h.length ≤ r ∧ h'[r]? = some (.lst ((moved g n w y x z).map enc))) := by
  have ha : a < h.length := by
    unfold seqAt at hs
    cases hz : h[a]? with
    | none => rw [hz] at hs; cases hs
    | some o => exact get_lt hz
  obtain ⟨H, Y, s, l1, k1, e⟩ := due_pre (z := (z : Int)) hs hn wf h1 hx hy hc
  have hv := kx_get (g := g) (x := x) (i := n) hy
  rw [if_pos hy] at hv
  obtain ⟨b, b1, b2, _, _⟩ := l1.get hv
  have hol := others_len (g := g) (x := x) hy
  have hlen := fLen_s (seq_lst b2)
  rw [List.length_map] at hlen
  have ho : (kids g n y).filter (fun c => decide (c ≠ x)) = others g n y x := rfl
  rw [ho] at hlen b2 hv
  obtain ⟨H1, e1, l2, k2⟩ := l1.ins (u := x) (i := z) b1 hv (by show _ < 16777216; omega) (by omega)
  have kk : ∀ p, p < h.length → H1[p]? = h[p]? := fun p hp => (k2 p hp).trans (k1 p hp)
  have hout := moved_all (w := w) (at_ := z) wf h1 hx hy hc
  have hml := moved_len (w := w) (z := z) wf h1 hx hy hc
  obtain ⟨_, H2, e2, r, rfl, hr, hrl, l3, k3⟩ := flat_law (Y := young' g n y x z) (L := moved g n w y x z) (keep_seq hs kk) ha l2 (fun v hv => kx_ins hy hv) (fun v hv c hc => young'_lt hx hv hc) wf.pos hout (by omega)
  have hne : moved g n w y x z ≠ [] := fun z => by rw [z] at hml; have := wf.pos; simp at hml; omega
  obtain ⟨m, m1, m2, m3⟩ := fMax_l (h := H2 ++ [.lst (((moved g n w y x z).map fun x => (x.1 : Int)).map D.int)]) (r := H2.length) (l := (moved g n w y x z).map fun x => (x.1 : Int)) (seq_lst get_new) (by simpa using hne)
  have hcomp := comp_map (h := H2) (e := [.val (.ref a), .val (.int x), .val (.int y), .val (.int z), .val (.ref Y), s, .val (.ref r), .no, .no, .no]) (tg := .many [8, 9]) (a := eVar 8) (r := r) ((moved g n w y x z).map enc) (fun d => match d with | .tup [x, _] => x | x => x) (by rw [List.length_map, hml]; show _ < 1000000; omega) (seq_lst hrl) fun d hd => by
    obtain ⟨x, _, rfl⟩ := List.mem_map.mp hd
    exact ⟨_, rfl, by simp [enc]⟩
  have ee : ((moved g n w y x z).map enc).map (fun d => match d with | .tup [x, _] => x | x => x) = ((moved g n w y x z).map fun x => (x.1 : Int)).map D.int := by
    simp [enc]
  rw [ee] at hcomp
  have hr2 : h.length ≤ H1.length := by
    rcases Nat.lt_or_ge H1.length h.length with z | z
    · have := kk H1.length z
      rw [List.getElem?_eq_none (Nat.le_refl _), List.getElem?_eq_getElem z] at this
      cases this
    · exact z
  have hkeep : ∀ p, p < h.length → (H2 ++ [O.lst (((moved g n w y x z).map fun x => (x.1 : Int)).map D.int)])[p]? = h[p]? := fun p hp => by
    have hp2 := (k3 p hp).trans (kk p hp)
    have : p < H2.length := by
      rw [List.getElem?_eq_getElem hp] at hp2
      exact get_lt hp2
    rw [List.getElem?_append_left this]
    exact hp2
  unfold dn at e1
  refine ⟨if 30 < m then code 3 else .ref r, H2 ++ [.lst (((moved g n w y x z).map fun x => (x.1 : Int)).map D.int)], ?_, hkeep, ?_⟩
  · rw [e]
    simp at m1 hcomp
    simp [b1, hlen]
    rw [if_neg (by omega)]
    simp [b1, isL_of b2, e1, e2, seq_lst hrl, hcomp, m1]
    by_cases hm : 30 < m
    · simp [hm]
      rfl
    · simp [hm]
  · by_cases hm : 30 < m
    · rw [if_pos hm]
      obtain ⟨q, hq, rfl⟩ := List.mem_map.mp m2
      exact .inl ⟨⟨q, hq, by omega⟩, rfl⟩
    · rw [if_neg hm]
      refine .inr ⟨fun q hq => ?_, r, rfl, by omega, Pre.one.get hrl⟩
      have := m3 _ (List.mem_map.mpr ⟨q, hq, rfl⟩)
      omega
end
end K30
set_option Elab.async false
set_option linter.all false
set_option autoImplicit false
namespace K30
open PySem TM TR
section
variable {g : Nat → Nat} {w : Nat → Str} {n : Nat} {h : Hh} {a y : Nat}
/-- rows as data -/
def rowP (r : Nat × Str) : PyData := .tuple [.int r.1, .str r.2]
theorem pd_row {m : Nat} {r : Nat × Str} (hw : PyData.strOk r.2 = true) : pd (m + 2) h (enc r) = some (rowP r) := by
  unfold enc rowP
  simp [pd, pdAll, hw]
theorem pd_rows {L : List (Nat × Str)} {r : Nat} (hs : seqAt h r = some (L.map enc)) (hw : ∀ x ∈ L, PyData.strOk x.2 = true) : pd deep h (.ref r) = some (.list (L.map rowP)) := by
  have : pdAll (pd (17 + 2) h) (L.map enc) = some (L.map rowP) := by
    clear hs
    induction L with
    | nil => rfl
    | cons x L ih =>
      rw [List.map_cons, List.map_cons]
      unfold pdAll
      rw [pd_row (hw x List.mem_cons_self), ih fun y hy => hw y (List.mem_cons_of_mem _ hy)]
  show pd (19 + 1) h (.ref r) = _
  unfold pd
  simp only
  rw [hs]
  simp only
  rw [show (19 : Nat) = 17 + 2 from rfl, this]
  rfl
theorem eq_code {k : Int} : opEq (code k) (code k) h = .ok (.bl true) h := by
  refine opEq_yes (p := .tuple [.int k, .bool true, .bool true, .bool false]) ?_ ?_ <;> rfl
/-- told: by how the move ends -/
theorem told_exc {x y z : Int} {h' : Hh} {c : Nat} {k : Int} (hm : F_moved_part [.ref a, .int x, .int y, .int z] (h ++ [.lst []]) = .exc ⟨c, []⟩ h') (hk : (c = 2 ∧ k = 1) ∨ (c = 3 ∧ k = 2) ∨ (c = 1 ∧ k = 3)) :
    F_law_told [.ref a, .int x, .int y, .int z] h = .ok (code k) h' := by
  rcases hk with ⟨rfl, rfl⟩ | ⟨rfl, rfl⟩ | ⟨rfl, rfl⟩
  · simp [F_law_told, B_law_told, hm, caught, sub, unpinE, Slot.unpin, code, opIx, ixAt]
  · simp [F_law_told, B_law_told, hm, caught, sub, unpinE, Slot.unpin, code, opIx, ixAt]
  · simp [F_law_told, B_law_told, hm, caught, sub, unpinE, Slot.unpin, code, opIx, ixAt]
theorem told_ok {x y z : Int} {h' : Hh} {r : Nat} (hm : F_moved_part [.ref a, .int x, .int y, .int z] (h ++ [.lst []]) = .ok (.ref r) h') :
    F_law_told [.ref a, .int x, .int y, .int z] h = .ok (.ref r) h' := by
  simp [F_law_told, B_law_told, hm, opIx, ixAt]
theorem alike_code {k : Int} : F_law_alike [code k, code k] h = .ok (.bl true) h := by
  have := eq_code (h := h) (k := k)
  unfold code at this
  simp [F_law_alike, B_law_alike, code, tyOf, isTy, this]
theorem alike_rows {L : List (Nat × Str)} {p q : Nat} (hp : h[p]? = some (.lst (L.map enc))) (hq : h[q]? = some (.lst (L.map enc))) (hw : ∀ x ∈ L, PyData.strOk x.2 = true) (hL : L.length < 1000) :
    F_law_alike [.ref p, .ref q] h = .ok (.bl true) h := by
  have l1 := fLen_s (seq_lst hp)
  have l2 := fLen_s (seq_lst hq)
  rw [List.length_map] at l1 l2
  have e1 := opEq_yes (pd_rows (seq_lst hp) hw) (pd_rows (seq_lst hq) hw)
  have : (F_law_alike [.ref p, .ref q] h).post fun d h' => d = .bl true ∧ h' = h := by
    refine post_fn rfl ?_
    simp [B_law_alike, tyOf, hp, hq, isTy, l1, l2, seq_lst hp]
    refine ends_then (for_lst (xs := L.map enc) (fun i e h' => (∃ s, e = [.val (.ref p), .val (.ref q), s]) ∧ h' = h) (by rw [List.length_map]; show _ < 1000000; omega) (fun i e h' hI => by rw [hI.2]; exact seq_lst hp) ⟨⟨_, rfl⟩, rfl⟩ ?_) ?_
    · rintro i e h' d hd ⟨⟨s, rfl⟩, rfl⟩
      refine ⟨_, rfl, ?_⟩
      obtain ⟨x, hx, rfl⟩ := List.mem_map.mp (List.mem_of_getElem? hd)
      simp [enc, tyOf, isTy]
    · rintro e h' ⟨⟨s, rfl⟩, rfl⟩
      simp [e1]
  obtain ⟨d, h', e, rfl, rfl⟩ := this
  exact e
end
end K30
set_option Elab.async false
set_option linter.all false
set_option autoImplicit false
namespace K30
open PySem TM TR
section
variable {h : Hh} {a : Nat}
theorem str_app {x y : Str} : (x ++ y).length = x.length + y.length := by
  show (x.cps ++ y.cps).size = x.cps.size + y.cps.size
  simp
theorem ok_app {x y : Str} (hx : PyData.strOk x = true) (hy : PyData.strOk y = true) : PyData.strOk (x ++ y) = true := by
  unfold PyData.strOk at hx hy ⊢
  show (x.cps ++ y.cps).all _ = true
  simp [hx, hy]
def abc : Str := "abcdefghijklmnopqrstuvwxyz0123456789+-*=<"
theorem abc_len : abc.cps.toList.length = 41 := by decide +kernel
theorem abc_ok : abc.cps.toList.all (fun c => decide (c < 0x110000)) = true := by decide +kernel
theorem abc_ix {i : Int} (h0 : 0 ≤ i) (h1 : i < 41) : ∃ c, opIx (.str abc) (.int i) h = .ok (.str ⟨#[c]⟩) h ∧ c < 0x110000 := by
  have hl : i.toNat < abc.cps.toList.length := by rw [abc_len]; omega
  refine ⟨abc.cps.toList[i.toNat], ?_, ?_⟩
  · unfold opIx
    simp only
    have hz : abc.length ≤ sizeMax := by decide +kernel
    rw [if_pos hz, ixAt_nn h0 (by rw [abc_len]; omega)]
    simp only [Option.bind_some]
    rw [List.getElem?_eq_getElem hl]
  · have := List.all_eq_true.mp abc_ok _ (List.getElem_mem hl)
    simpa using this
theorem word_ok {i : Int} (h0 : 0 ≤ i) (h1 : i < 4611686018427387904) : (F_law_word [.int i] h).post fun d h' => ∃ z, d = .str z ∧ PyData.strOk z = true ∧ Pre h h' := by
  refine post_fn rfl ?_
  by_cases hc : i % 4 < 2
  · have hj : i / 4 % 4 = 0 ∨ i / 4 % 4 = 1 ∨ i / 4 % 4 = 2 ∨ i / 4 % 4 = 3 := by omega
    have hs : seqAt (h ++ [.lst [.str "a", .str "b", .str "ab", .str "x1"]]) h.length = some [.str "a", .str "b", .str "ab", .str "x1"] := by simp
    rcases hj with e | e | e | e
    · have hx := opIx_n (j := 0) hs rfl
      simp at hx
      simp [B_law_word, hc, e, hx]
      exact ⟨by decide +kernel, ⟨_, rfl⟩⟩
    · have hx := opIx_n (j := 1) hs rfl
      simp at hx
      simp [B_law_word, hc, e, hx]
      exact ⟨by decide +kernel, ⟨_, rfl⟩⟩
    · have hx := opIx_n (j := 2) hs rfl
      simp at hx
      simp [B_law_word, hc, e, hx]
      exact ⟨by decide +kernel, ⟨_, rfl⟩⟩
    · have hx := opIx_n (j := 3) hs rfl
      simp at hx
      simp [B_law_word, hc, e, hx]
      exact ⟨by decide +kernel, ⟨_, rfl⟩⟩
  · have sm : small (1 + i / 4 % 12) = true := small_lt (by omega) (by omega)
    simp [B_law_word, hc, sm]
    refine ends_then (for_rng (fun k e h' => (∃ (num : Int) (z : Str) (s : TM.Slot), e = [.val (.int num), .val (.str z), s] ∧ 0 ≤ num ∧ num < 4611686018427387904 ∧ PyData.strOk z = true ∧ z.length ≤ k) ∧ h' = h) (by show _ < 1000000; omega) ⟨⟨i, _, _, rfl, h0, h1, by decide +kernel, by decide +kernel⟩, rfl⟩ ?_) ?_
    · rintro k e h' hk ⟨⟨num, z, s, rfl, n0, n1, hz, hl⟩, rfl⟩
      refine ⟨_, rfl, ?_⟩
      have f1 : facOk num = true := by unfold facOk; simp only [decide_eq_true_eq]; omega
      have f2 : facOk 48271 = true := by decide
      obtain ⟨c, c1, c2⟩ := abc_ix (h := h') (i := (num * num + 48271 * num + (k : Int)) % 2147483647 / 64 % 41) (by omega) (by omega)
      unfold abc at c1
      have hkk : k < 100 := by omega
      have hadd : opAdd (.str z) (.str ⟨#[c]⟩) h' = .ok (.str (z ++ ⟨#[c]⟩)) h' := by
        unfold opAdd
        simp only
        rw [if_pos (by show z.length + 1 ≤ 16777216; omega)]
      simp [f1, f2, c1, hadd]
      refine ⟨_, _, ⟨rfl, rfl⟩, by omega, by omega, ok_app hz ?_, ?_⟩
      · unfold PyData.strOk
        simpa using c2
      · rw [str_app]
        show z.length + 1 ≤ k + 1
        omega
    · rintro e h' ⟨⟨num, z, s, rfl, n0, n1, hz, hl⟩, rfl⟩
      simp
      exact ⟨hz, Pre.rfl'⟩

/-- rows of a tree that may grow -/
structure Good (R : List (Nat × Str)) : Prop where
  ne : 0 < R.length
  root : ∀ r, R[0]? = some r → r.1 = 0
  step : ∀ (i : Nat) (r s : Nat × Str), R[i]? = some r → R[i + 1]? = some s → 1 ≤ s.1 ∧ s.1 ≤ r.1 + 1
  all : ∀ r ∈ R, r.1 ≤ 30 ∧ PyData.strOk r.2 = true
theorem Good.snoc {R : List (Nat × Str)} {l s : Nat × Str} (q : Good R) (hl : R[R.length - 1]? = some l) (h1 : 1 ≤ s.1) (h2 : s.1 ≤ l.1 + 1) (h3 : s.1 ≤ 30) (h4 : PyData.strOk s.2 = true) : Good (R ++ [s]) := by
  have hn := q.ne
  refine ⟨by simp, fun r e => ?_, fun i r t e1 e2 => ?_, fun r hr => ?_⟩
  · rw [List.getElem?_append_left hn] at e
    exact q.root r e
  · by_cases hi : i + 1 < R.length
    · rw [List.getElem?_append_left hi] at e2
      rw [List.getElem?_append_left (by omega)] at e1
      exact q.step i r t e1 e2
    · have hi' : i + 1 = R.length := by
        have := (List.getElem?_eq_some_iff.mp e2).1
        simp at this
        omega
      rw [List.getElem?_append_left (by omega), show i = R.length - 1 by omega, hl] at e1
      cases e1
      rw [hi', List.getElem?_append_right (Nat.le_refl _)] at e2
      simp at e2
      subst e2
      exact ⟨h1, h2⟩
  · rcases List.mem_append.mp hr with hr | hr
    · exact q.all r hr
    · simp at hr
      subst hr
      exact ⟨h3, h4⟩
theorem Good.take {R : List (Nat × Str)} {k : Nat} (q : Good R) (hk : 0 < k) : Good (R.take k) := by
  have hn := q.ne
  refine ⟨by simp; omega, fun r e => q.root r ?_, fun i r t e1 e2 => q.step i r t ?_ ?_, fun r hr => q.all r (List.mem_of_mem_take hr)⟩
  · rw [List.getElem?_take, if_pos hk] at e
    exact e
  · rw [List.getElem?_take] at e1
    split at e1
    · exact e1
    · cases e1
  · rw [List.getElem?_take] at e2
    split at e2
    · exact e2
    · cases e2
def gR (R : List (Nat × Str)) (i : Nat) : Nat := (R[i]?.map (·.1)).getD 0
def wR (R : List (Nat × Str)) (i : Nat) : Str := (R[i]?.map (·.2)).getD default
theorem tr_R (R : List (Nat × Str)) : R.map enc = tr (gR R) (wR R) R.length := by
  apply List.ext_getElem?
  intro i
  by_cases hi : i < R.length
  · rw [tr_get hi, List.getElem?_map, List.getElem?_eq_getElem hi]
    simp [enc, gR, wR, hi]
  · rw [List.getElem?_eq_none (by simpa using hi), List.getElem?_eq_none (by rw [tr_len]; omega)]
theorem Good.wf {R : List (Nat × Str)} (q : Good R) : WF (gR R) R.length := by
  have hn := q.ne
  refine ⟨hn, ?_, fun i hi => ?_⟩
  · have := q.root R[0] (List.getElem?_eq_getElem hn)
    unfold gR
    rw [List.getElem?_eq_getElem hn]
    exact this
  · have e1 : R[i]? = some R[i] := List.getElem?_eq_getElem (by omega)
    have e2 : R[i + 1]? = some R[i + 1] := List.getElem?_eq_getElem hi
    have := q.step i _ _ e1 e2
    unfold gR
    rw [e1, e2]
    exact this
theorem Good.gw {R : List (Nat × Str)} (q : Good R) {i : Nat} (hi : i < R.length) : gR R i ≤ 30 ∧ PyData.strOk (wR R i) = true := by
  have := q.all R[i] (List.getElem_mem hi)
  unfold gR wR
  rw [List.getElem?_eq_getElem hi]
  exact this
theorem cell_ok {xs : List Int} {k : Nat} (hs : seqAt h a = some (xs.map D.int)) : ∃ v : Int, F_law_cell_at [.ref a, .int k] h = .ok (.int v) h := by
  have hl := fLen_s hs
  rw [List.length_map] at hl
  by_cases hk : k < xs.length
  · have hx := opIx_n (j := k) (d := .int xs[k]) hs (by simp [hk])
    refine ⟨xs[k], ?_⟩
    simp [F_law_cell_at, B_law_cell_at, hl, hk, hx]
  · refine ⟨0, ?_⟩
    simp [F_law_cell_at, B_law_cell_at, hl, hk]
theorem number_ok {c m : Int} (hm : 0 ≤ m) : ∃ v : Int, F_law_number [.int c, .int m] h = .ok (.int v) h := by
  have h60 : (0 : Int) < 10 ^ 60 := by decide +kernel
  by_cases h5 : c % 12 = 5
  · refine ⟨m + c / 12 % 10 ^ 60, ?_⟩
    simp [F_law_number, B_law_number, h5, h60]
  · by_cases h7 : c % 12 = 7
    · refine ⟨0 - 1 - c / 12 % 10 ^ 60, ?_⟩
      simp [F_law_number, B_law_number, h7, h60]
    · refine ⟨c / 12 % (m + 4) - 2, ?_⟩
      have : 0 < m + 4 := by omega
      simp [F_law_number, B_law_number, h5, h7, h60, this]
end
end K30
set_option Elab.async false
set_option linter.all false
set_option autoImplicit false
namespace K30
open PySem TM TR
section
variable {h : Hh} {a : Nat}
theorem cut_take {α : Type} {xs : List α} {b : Nat} : TM.cut xs none (some (b : Int)) = xs.take b := by
  unfold TM.cut
  rw [cutIx_n]
  simp only [cutIx, Nat.sub_zero, List.drop_zero]
  rcases Nat.le_total b xs.length with z | z
  · rw [Nat.min_eq_left z]
  · rw [Nat.min_eq_right z, List.take_of_length_le (Nat.le_refl _), List.take_of_length_le z]
theorem keep_len {h h' : Hh} (hk : ∀ p, p < h.length → h'[p]? = h[p]?) : h.length ≤ h'.length := by
  rcases Nat.lt_or_ge h'.length h.length with z | z
  · have := hk h'.length z
    rw [List.getElem?_eq_none (Nat.le_refl _), List.getElem?_eq_getElem z] at this
    cases this
  · exact z
theorem Pre.keep {h h' : Hh} (q : Pre h h') : ∀ p, p < h.length → h'[p]? = h[p]? := by
  obtain ⟨t, rfl⟩ := q
  intro p hp
  rw [List.getElem?_append_left hp]
theorem tree_law {c : Nat} {xs : List Int} (hs : seqAt h c = some (xs.map D.int)) (hx : xs.length ≤ 63) :
    (F_law_tree [.ref c, .int 200] h).post fun d h' => ∃ (r : Nat) (R : List (Nat × Str)), d = .ref r ∧ h.length ≤ r ∧ (∀ p, p < h.length → h'[p]? = h[p]?) ∧ h'[r]? = some (.lst (R.map enc)) ∧ Good R ∧ R.length ≤ 200 := by
  have hl := fLen_s hs
  rw [List.length_map] at hl
  obtain ⟨_, h1, e1, z, rfl, z1, p1⟩ := word_ok (h := h) (i := (xs.length : Int)) (by omega) (by omega)
  have hlen1 := p1.len
  refine post_fn rfl ?_
  simp [B_law_tree, hl, e1, seqAt_app (p1.seq hs)]
  have hxl : (xs.map D.int).length = xs.length := by simp
  refine ends_then (for_lst (xs := xs.map D.int) (fun i e h' => (∃ s3 s4 s5 s6, e = [.val (.ref c), .val (.int 200), .val (.ref h1.length), s3, s4, s5, s6]) ∧ (∀ p, p < h.length → h'[p]? = h[p]?) ∧
    ∃ R : List (Nat × Str), h'[h1.length]? = some (.lst (R.map enc)) ∧ Good R ∧ R.length ≤ 1 + 4 * i) (by rw [hxl]; show _ < 1000000; omega) (fun i e h' hI => keep_seq hs hI.2.1) ?_ ?_) ?_
  · refine ⟨⟨_, _, _, _, rfl⟩, Pre.keep (p1.trans Pre.one), [(0, z)], by simp [enc], ⟨by simp, by simp, by simp, ?_⟩, by simp⟩
    intro r hr
    simp at hr
    subst hr
    exact ⟨by omega, z1⟩
  · rintro i e h' d hd ⟨⟨s3, s4, s5, s6, rfl⟩, hk, R, hR, gR, hRl⟩
    refine ⟨_, rfl, ?_⟩
    rw [List.getElem?_map] at hd
    cases hxi : xs[i]? with
    | none => rw [hxi] at hd; cases hd
    | some cell =>
      rw [hxi] at hd
      cases hd
      have hil := (List.getElem?_eq_some_iff.mp hxi).1
      have f1 : facOk 48271 = true := by decide
      generalize hnum : cell * 48271 % 2147483647 = num
      have n0 : 0 ≤ num := by omega
      have n1 : num < 2147483647 := by omega
      have sm : small (1 + num / 16 % 4) = true := small_lt (by omega) (by omega)
      simp [f1, hnum, sm]
      refine ends_last (for_rng (fun k e h3 => (∃ s5 s6, e = [.val (.ref c), .val (.int 200), .val (.ref h1.length), .val (.int cell), .val (.int num), s5, s6]) ∧ (∀ p, p < h.length → h3[p]? = h[p]?) ∧
        ∃ R : List (Nat × Str), h3[h1.length]? = some (.lst (R.map enc)) ∧ Good R ∧ R.length ≤ 1 + 4 * i + k) (by show _ < 1000000; omega) ⟨⟨_, _, rfl⟩, hk, R, hR, gR, by omega⟩ ?_) ?_
      · rintro k e h3 hkl ⟨⟨s5, s6, rfl⟩, hk3, R3, hR3, gR3, hRl3⟩
        refine ⟨_, rfl, ?_⟩
        have hne := gR3.ne
        have hlast : R3[R3.length - 1]? = some R3[R3.length - 1] := List.getElem?_eq_getElem (by omega)
        generalize R3[R3.length - 1] = l at hlast
        have hix := opIx_s (h := h3) (r := h1.length) (i := -1) (d := .tup [.int l.1, .str l.2]) (seq_lst hR3) (ixAt_last (by simpa using hne)) (by rw [List.length_map, List.getElem?_map, hlast]; rfl)
        have hl30 := (gR3.all l (List.mem_of_getElem? hlast)).1
        have f2 : facOk (2 * (k : Int) + 3) = true := by unfold facOk; simp only [decide_eq_true_eq]; omega
        have f3 : facOk 69621 = true := by decide
        have f4 : facOk 2 = true := by decide
        obtain ⟨_, h4, e4, z4, rfl, zok, p4⟩ := word_ok (h := h3) (i := num * (2 * (k : Int) + 3) * 69621 % 2147483629) (by omega) (by omega)
        have hR4 := p4.get hR3
        have fin : ∀ deep : Int, 1 ≤ deep → deep ≤ l.1 + 1 → deep ≤ 30 → ∃ h5, mAppend (.ref h1.length) [.tup [.int deep, .str z4]] h4 = .ok .non h5 ∧ (∀ p, p < h.length → h5[p]? = h[p]?) ∧
            ∃ R : List (Nat × Str), h5[h1.length]? = some (.lst (R.map enc)) ∧ Good R ∧ R.length ≤ 1 + 4 * i + (k + 1) := fun deep d1 d2 d3 => by
          refine ⟨_, app_ok hR4 (by rw [List.length_map]; show _ < 16777216; omega), fun p hp => ?_, R3 ++ [(deep.toNat, z4)], ?_, gR3.snoc hlast (by omega) (by omega) (by omega) zok, by simp; omega⟩
          · rw [List.getElem?_set_ne (by omega), Pre.keep p4 p (Nat.lt_of_lt_of_le hp (keep_len hk3))]
            exact hk3 p hp
          · rw [List.getElem?_set_self (get_lt hR4)]
            simp [enc, show ((deep.toNat : Nat) : Int) = deep by omega]
        simp [hix, f2, f3, f4]
        generalize hm0 : (if 30 < (l.1 : Int) + 1 then (30 : Int) else (l.1 : Int) + 1) = m0
        have m1 : 1 ≤ m0 := by split at hm0 <;> omega
        have m2 : m0 ≤ l.1 + 1 := by split at hm0 <;> omega
        have m3 : m0 ≤ 30 := by split at hm0 <;> omega
        by_cases h5 : 5 < num % 16
        · have hr1 := Int.emod_nonneg (num / 64 * (2 * (k : Int) + 3)) (show m0 ≠ 0 by omega)
          have hr2 := Int.emod_lt_of_pos (num / 64 * (2 * (k : Int) + 3)) (show 0 < m0 by omega)
          obtain ⟨h5', e5, k5, R5, g5⟩ := fin (1 + num / 64 * (2 * (k : Int) + 3) % m0) (by omega) (by omega) (by omega)
          simp [h5, show 0 < m0 by omega, isL_of hR3, e4, e5, f2, f3, f4]
          exact ⟨k5, R5, g5⟩
        · obtain ⟨h5', e5, k5, R5, g5⟩ := fin m0 m1 m2 m3
          simp [h5, isL_of hR3, e4, e5, f2, f3, f4]
          exact ⟨k5, R5, g5⟩
      · rintro e h3 ⟨⟨s5, s6, rfl⟩, hk3, R3, hR3, gR3, hRl3⟩
        exact ⟨⟨_, _, _, _, rfl⟩, hk3, R3, hR3, gR3, by omega⟩
  · rintro e h' ⟨⟨s3, s4, s5, s6, rfl⟩, hk, R, hR, gR, hRl⟩
    have hc := opCut_s (lo := none) (hi := some ((200 : Nat) : Int)) (seq_lst hR)
    rw [cut_take, ← List.map_take] at hc
    simp at hc
    simp [hc]
    have := keep_len hk
    refine ⟨by omega, fun p hp => ?_, R.take 200, by rw [List.map_take], gR.take (by omega), by simp; omega⟩
    rw [List.getElem?_append_left (by omega)]
    exact hk p hp
end
end K30
set_option Elab.async false
set_option linter.all false
set_option autoImplicit false
namespace K30
open PySem TM TR
section
variable {g : Nat → Nat} {w : Nat → Str} {n : Nat}
def Kept (h h' : Hh) : Prop := ∀ p, p < h.length → h'[p]? = h[p]?
theorem Kept.trans {a b c : Hh} (x : Kept a b) (y : Kept b c) : Kept a c := fun p hp => (y p (Nat.lt_of_lt_of_le hp (keep_len x))).trans (x p hp)
theorem Kept.get {h h' : Hh} {r : Nat} {o : O} (x : Kept h h') (e : h[r]? = some o) : h'[r]? = some o := (x r (get_lt e)).trans e
theorem mem_moved {x y z : Nat} (wf : WF g n) (hx : x < n) (hy : y < n) (hc : ¬ (x ≤ y ∧ y < En g n x)) {r : Nat × Str} (hr : r ∈ moved g n w y x z) : r ∈ part' g n w y x ∨ ∃ u, u < n ∧ r = (g u, w u) := by
  have ax := isEnd (g := g) hx
  have sle := spot_le (g := g) (n := n) (elder := y) (node := x) (at_ := z) wf hy
  have ms : ∀ {l u : Nat}, u ≤ n → r ∈ seg (fun u => (g u, w u)) l u → r ∈ part' g n w y x ∨ ∃ u, u < n ∧ r = (g u, w u) := fun {l u} hu h => by
    obtain ⟨i, i1, i2, e⟩ := mem_seg.mp h
    exact .inr ⟨i, by omega, e.symm⟩
  unfold moved at hr
  split at hr
  · simp only [List.mem_append] at hr
    rcases hr with ((hr | hr) | hr) | hr
    · exact ms sle hr
    · exact .inl hr
    · exact ms (Nat.le_of_lt hx) hr
    · exact ms (Nat.le_refl _) hr
  · simp only [List.mem_append] at hr
    rcases hr with ((hr | hr) | hr) | hr
    · exact ms (Nat.le_of_lt hx) hr
    · exact ms sle hr
    · exact .inl hr
    · exact ms (Nat.le_refl _) hr
theorem part_sub {x y z : Nat} {r : Nat × Str} (hr : r ∈ part' g n w y x) : r ∈ moved g n w y x z := by
  unfold moved
  split <;> simp only [List.mem_append] <;> simp [hr]
/-- what is due and what is told, the same -/
def Codes (g : Nat → Nat) (w : Nat → Str) (n : Nat) (x y z k : Int) : Prop :=
  (∀ (h : Hh) (a : Nat), seqAt h a = some (tr g w n) → (F_law_due [.ref a, .int x, .int y, .int z] h).post fun d h' => d = code k ∧ Kept h h') ∧
  (∀ (h : Hh) (a : Nat), h[a]? = some (.lst (tr g w n)) → (F_law_told [.ref a, .int x, .int y, .int z] h).post fun d h' => d = code k ∧ Kept h h')
def Lists (g : Nat → Nat) (w : Nat → Str) (n : Nat) (x y z : Int) (L : List (Nat × Str)) : Prop :=
  (∀ (h : Hh) (a : Nat), seqAt h a = some (tr g w n) → (F_law_due [.ref a, .int x, .int y, .int z] h).post fun d h' => Kept h h' ∧ ∃ r, d = .ref r ∧ h.length ≤ r ∧ h'[r]? = some (.lst (L.map enc))) ∧
  (∀ (h : Hh) (a : Nat), h[a]? = some (.lst (tr g w n)) → (F_law_told [.ref a, .int x, .int y, .int z] h).post fun d h' => Kept h h' ∧ ∃ r, d = .ref r ∧ h.length ≤ r ∧ h'[r]? = some (.lst (L.map enc)))
theorem outcome (wf : WF g n) (hn : n ≤ 200) (hg : ∀ u, u < n → g u ≤ 30) (hw : ∀ u, u < n → PyData.strOk (w u) = true) (x y z : Int) :
    (∃ k, Codes g w n x y z k) ∨ ∃ L, Lists g w n x y z L ∧ L.length < 1000 ∧ ∀ r ∈ L, PyData.strOk r.2 = true := by
  have one : ∀ {h : Hh}, Pre h (h ++ [.lst []]) := Pre.one
  by_cases c1 : x < 1 ∨ (n : Int) ≤ x ∨ y < 0 ∨ (n : Int) ≤ y
  · refine .inl ⟨1, fun h a hs => ⟨_, _, due_no1 hs c1, rfl, fun p _ => rfl⟩, fun h a ha => ?_⟩
    have hs := seqAt_app (seq_lst ha) [.lst []]
    exact ⟨_, _, told_exc (moved_no1 hs c1) (.inl ⟨rfl, rfl⟩), rfl, Pre.keep one⟩
  · obtain ⟨X, rfl⟩ : ∃ X : Nat, x = X := ⟨x.toNat, by omega⟩
    obtain ⟨Y, rfl⟩ : ∃ Y : Nat, y = Y := ⟨y.toNat, by omega⟩
    have h1 : 1 ≤ X := by omega
    have hX : X < n := by omega
    have hY : Y < n := by omega
    by_cases c2 : X ≤ Y ∧ Y < En g n X
    · refine .inl ⟨2, fun h a hs => due_no2 hs (by omega) wf h1 hX hY c2, fun h a ha => ?_⟩
      have hs := seqAt_app (seq_lst ha) [.lst []]
      exact ⟨_, _, told_exc (moved_no2 hs (by omega) h1 hX hY c2) (.inr (.inl ⟨rfl, rfl⟩)), rfl, Pre.keep one⟩
    · by_cases c3 : z < 0 ∨ ((others g n Y X).length : Int) < z
      · refine .inl ⟨2, fun h a hs => due_no3 hs (by omega) wf h1 hX hY c2 c3, fun h a ha => ?_⟩
        have hs := seqAt_app (seq_lst ha) [.lst []]
        obtain ⟨h', e, p⟩ := moved_no3 hs (by omega) h1 hX hY c2 c3
        exact ⟨_, _, told_exc e (.inr (.inl ⟨rfl, rfl⟩)), rfl, Pre.keep (one.trans p)⟩
      · obtain ⟨Z, rfl⟩ : ∃ Z : Nat, z = Z := ⟨z.toNat, by omega⟩
        have hZ : Z ≤ (others g n Y X).length := by omega
        by_cases c4 : ∃ r ∈ part' g n w Y X, 30 < r.1
        · refine .inl ⟨3, fun h a hs => ?_, fun h a ha => ?_⟩
          · obtain ⟨d, h', e, k, hd⟩ := due_yes hs (by omega) wf h1 hX hY c2 hZ
            rcases hd with ⟨_, rfl⟩ | ⟨hle, _⟩
            · exact ⟨_, _, e, rfl, k⟩
            · obtain ⟨r, hr, h30⟩ := c4
              have := hle r (part_sub hr)
              omega
          · have ha' := one.get ha
            obtain ⟨h', p, hd⟩ := moved_yes (seq_lst ha') ha' (by omega) wf h1 hX hY c2 hZ
            rcases hd with ⟨_, e⟩ | ⟨hle, _⟩
            · exact ⟨_, _, told_exc e (.inr (.inr ⟨rfl, rfl⟩)), rfl, Pre.keep (one.trans p)⟩
            · obtain ⟨r, hr, h30⟩ := c4
              have := hle r hr
              omega
        · refine .inr ⟨moved g n w Y X Z, ⟨fun h a hs => ?_, fun h a ha => ?_⟩, by rw [moved_len wf h1 hX hY c2]; omega, fun r hr => ?_⟩
          · obtain ⟨d, h', e, k, hd⟩ := due_yes hs (by omega) wf h1 hX hY c2 hZ
            rcases hd with ⟨⟨r, hr, h30⟩, _⟩ | ⟨_, r, rfl, hr, hrl⟩
            · rcases mem_moved wf hX hY c2 hr with hp | ⟨u, hu, rfl⟩
              · exact absurd ⟨r, hp, h30⟩ c4
              · have := hg u hu
                dsimp only at h30
                omega
            · exact ⟨_, _, e, k, r, rfl, hr, hrl⟩
          · have ha' := one.get ha
            obtain ⟨h', p, hd⟩ := moved_yes (seq_lst ha') ha' (by omega) wf h1 hX hY c2 hZ
            rcases hd with ⟨hp, _⟩ | ⟨_, r, e, hr, hrl⟩
            · exact absurd hp c4
            · exact ⟨_, _, told_ok e, Pre.keep (one.trans p), r, rfl, by simp at hr; omega, hrl⟩
          · rcases mem_moved wf hX hY c2 hr with hp | ⟨u, hu, rfl⟩
            · obtain ⟨u, u1, u2, rfl⟩ := mem_seg.mp hp
              have := (isEnd (g := g) hX).le
              exact hw u (by omega)
            · exact hw u hu
end
end K30
set_option Elab.async false
set_option linter.all false
set_option autoImplicit false
namespace K30
open PySem TM TR
theorem Kept.app {h : Hh} {t : Hh} : Kept h (h ++ t) := fun p hp => List.getElem?_append_left hp
theorem Kept.seq {h h' : Hh} {r : Nat} {xs : List D} (x : Kept h h') (e : seqAt h r = some xs) : seqAt h' r = some xs := keep_seq e x
theorem list_copy {h : Hh} {r : Nat} {xs : List D} (hs : seqAt h r = some xs) : fList [.ref r] h = .ok (.ref h.length) (h ++ [.lst xs]) := by
  unfold fList
  simp only
  split
  · rename_i t kvs z
    exact absurd z (seq_nd hs t kvs)
  · rw [hs]
    rfl
theorem law_true : ∀ ns : List Int, ns.length ≤ 63 → ∃ h', F_law [.ref 0] [.frz (ns.map D.int)] = .ok (.bl true) h' := by
  intro ns hns
  have hs0 : seqAt [O.frz (ns.map D.int)] 0 = some (ns.map D.int) := rfl
  have h60 : (0 : Int) < 10 ^ 60 := by decide +kernel
  -- the tree
  have hcut := opCut_s (lo := none) (hi := some ((63 : Nat) : Int)) hs0
  rw [cut_take] at hcut
  have hcs : seqAt ([O.frz (ns.map D.int)] ++ [.lst ((ns.map D.int).take 63)]) 1 = some ((ns.take 63).map D.int) := by rw [List.map_take]; rfl
  obtain ⟨_, H1, e1, r, R, rfl, hr, k1, g1, good, hR⟩ := tree_law hcs (by simp; omega)
  have K1 : Kept [O.frz (ns.map D.int)] H1 := Kept.trans Kept.app k1
  have hsR := tr_R R
  have wf := good.wf
  generalize hg : gR R = g at *
  generalize hw : wR R = w at *
  have hgl : ∀ u, u < R.length → g u ≤ 30 := fun u hu => by rw [← hg]; exact (good.gw hu).1
  have hwl : ∀ u, u < R.length → PyData.strOk (w u) = true := fun u hu => by rw [← hw]; exact (good.gw hu).2
  rw [hsR] at g1
  generalize hn : R.length = n at *
  have s1 := seq_lst g1
  have sc := K1.seq hs0
  obtain ⟨v0, c0⟩ := cell_ok (k := 0) sc
  obtain ⟨v1, c1⟩ := cell_ok (k := 1) sc
  obtain ⟨x, n0⟩ := number_ok (h := H1) (c := v0 * 69621 % 10 ^ 60) (m := (n : Int)) (by omega)
  obtain ⟨y, n1⟩ := number_ok (h := H1) (c := v1 * 16807 % 10 ^ 60) (m := (n : Int)) (by omega)
  -- the young at that depth
  have hcomp := comp_rng (h := H1) (lo := 0) (n := n) (tg := .one 9) (tt := tAnd (tE (eBin opGe (eVar 3) (eC (.int 0)))) (tAnd (tE (eBin opLt (eVar 3) (eBlt fLen (aCons (eVar 1) aNil)))) (tE (eBin opEq (eBin opIx (eBin opIx (eVar 1) (eVar 9)) (eC (.int 0))) (eBin opAdd (eBin opIx (eBin opIx (eVar 1) (eVar 3)) (eC (.int 0))) (eC (.int 1)))))))
    (a := eVar 9) (e := [.val (.ref 0), .val (.ref r), .val (.int x), .val (.int y), .no, .no, .no, .no, .no, .no])
    (fun k => decide (0 ≤ y ∧ y < n ∧ g k = g y.toNat + 1)) (fun (k : Nat) => .int (k : Int)) (by show _ < 1000000; omega) fun i i1 i2 => by
      refine ⟨_, rfl, ?_, fun _ => by simp⟩
      have ri := row_ok (i := i) s1 (by omega)
      by_cases hy0 : 0 ≤ y
      · by_cases hyn : y < n
        · have ry := row_ok (i := y.toNat) s1 (by omega)
          rw [show ((y.toNat : Nat) : Int) = y by omega] at ry
          simp [hy0, hyn, len_ok s1, ri, ry]
          omega
        · simp [hy0, hyn, len_ok s1]
      · simp [hy0]
  rw [show ((0 : Nat) : Int) = 0 from rfl] at hcomp
  generalize hYL : ((List.range' 0 n).filter fun k => decide (0 ≤ y ∧ y < n ∧ g k = g y.toNat + 1)).map (fun (k : Nat) => D.int (k : Int)) = YL at hcomp
  have sR2 := seqAt_app s1 [.lst YL]
  obtain ⟨v2, c2⟩ := cell_ok (k := 2) (seqAt_app sc [.lst YL])
  obtain ⟨z, n2⟩ := number_ok (h := H1 ++ [.lst YL]) (c := v2 * 39373 % 10 ^ 60) (m := (YL.length : Int) % 9) (by omega)
  have lY := fLen_s (h := H1 ++ [.lst YL]) (r := H1.length) (seq_lst get_new)
  have sm : small (n : Int) = true := small_lt (by omega) (by omega)
  have f1 : facOk 69621 = true := by decide
  have f2 : facOk 16807 = true := by decide
  have f3 : facOk 39373 = true := by decide
  have lR := len_ok s1
  have hRw : ∀ q ∈ R, PyData.strOk q.2 = true := fun q hq => (good.all q hq).2
  simp at hcut e1 c0 c1 c2 n0 n1 n2
  rcases outcome wf hR hgl hwl x y z with ⟨k, hd, ht⟩ | ⟨L, ⟨hd, ht⟩, hL, hLw⟩
  · obtain ⟨_, H3, e3, rfl, k3⟩ := hd _ _ sR2
    have s3 := k3.seq sR2
    have e4 := list_copy s3
    have g4 : (H3 ++ [O.lst (tr g w n)])[H3.length]? = some (.lst (tr g w n)) := get_new
    obtain ⟨_, H5, e5, rfl, k5⟩ := ht _ _ g4
    have g5 := k5.get g4
    have s5 := k5.seq (seqAt_app s3 [.lst (tr g w n)])
    have q5 := opNe_no (h := H5) (x := .ref H3.length) (y := .ref r) (pd_rows (L := R) (by rw [hsR]; exact seq_lst g5) hRw) (pd_rows (L := R) (by rw [hsR]; exact s5) hRw)
    obtain ⟨_, H6, e6, rfl, k6⟩ := ht _ _ g5
    have a5 := alike_code (h := H5) (k := k)
    have a6 := alike_code (h := H6) (k := k)
    refine ⟨H6, ?_⟩
    have ty5 : tyOf (code k) H5 = some .tuple := rfl
    have it5 : isTy .tuple .list = false := rfl
    simp [F_law, B_law, hcut, e1, c0, c1, f1, f2, f3, h60, lR, n0, n1, sm, hcomp, c2, lY, n2, e3, e4, e5, a5, q5, ty5, it5, e6, a6]
  · obtain ⟨_, H3, e3, k3, q, rfl, hq, gq⟩ := hd _ _ sR2
    have s3 := k3.seq sR2
    have e4 := list_copy s3
    have g4 : (H3 ++ [O.lst (tr g w n)])[H3.length]? = some (.lst (tr g w n)) := get_new
    obtain ⟨_, H5, e5, k5, f, rfl, hf, gf⟩ := ht _ _ g4
    have g5 := k5.get g4
    have s5 := k5.seq (seqAt_app s3 [.lst (tr g w n)])
    have gq5 : H5[q]? = some (.lst (L.map enc)) := k5.get (Pre.one.get gq)
    have q5 := opNe_no (h := H5) (x := .ref H3.length) (y := .ref r) (pd_rows (L := R) (by rw [hsR]; exact seq_lst g5) hRw) (pd_rows (L := R) (by rw [hsR]; exact s5) hRw)
    have a5 := alike_rows gf gq5 hLw hL
    have app := app_ok (d := .tup [.int 1, .str "z"]) gf (by rw [List.length_map]; show _ < 16777216; omega)
    have hl4 := get_lt g4
    have hq3 := get_lt gq
    simp at hf
    have g6 : (H5.set f (.lst (L.map enc ++ [.tup [.int 1, .str "z"]])))[H3.length]? = some (.lst (tr g w n)) := by rw [List.getElem?_set_ne (by omega)]; exact g5
    have gq6 : (H5.set f (.lst (L.map enc ++ [.tup [.int 1, .str "z"]])))[q]? = some (.lst (L.map enc)) := by rw [List.getElem?_set_ne (by omega)]; exact gq5
    obtain ⟨_, H7, e7, k7, f2', rfl, hf2, gf2⟩ := ht _ _ g6
    have a7 := alike_rows gf2 (k7.get gq6) hLw hL
    refine ⟨H7, ?_⟩
    have ty5 : tyOf (.ref f) H5 = some .list := by
      unfold tyOf
      simp only
      rw [gf]
    have it5 : isTy .list .list = true := rfl
    simp [F_law, B_law, hcut, e1, c0, c1, f1, f2, f3, h60, lR, n0, n1, sm, hcomp, c2, lY, n2, e3, e4, e5, a5, q5, ty5, it5, isL_of gf, app, e7, a7]
end K30
set_option Elab.async false
set_option linter.all false
set_option autoImplicit false
set_option maxRecDepth 100000
set_option maxHeartbeats 4000000
namespace K30
open PySem PySem.Spec PyProof.Rows L2 TM
def top (i : Nat) : Stmt := PySem.Challenge.pw_treemend_k30_a_part_moved.main.body.getD i (.Pass ⟨0, 0, 0, 0⟩)
abbrev st_check_node : Stmt := top 7
abbrev st_end_of : Stmt := top 8
abbrev st_young_of : Stmt := top 9
abbrev st_part_of : Stmt := top 10
abbrev st_others_of : Stmt := top 12
abbrev st_deepest_of : Stmt := top 13
abbrev st_moved_part : Stmt := top 14
abbrev st_law_cell_at : Stmt := top 16
abbrev st_law_word : Stmt := top 17
abbrev st_law_tree : Stmt := top 18
abbrev st_law_young : Stmt := top 19
abbrev st_law_flat : Stmt := top 20
abbrev st_law_within : Stmt := top 21
abbrev st_law_due : Stmt := top 22
abbrev st_law_told : Stmt := top 23
abbrev st_law_alike : Stmt := top 24
abbrev st_law_number : Stmt := top 25
abbrev st_law : Stmt := top 26
structure Ads where
  f_check_node : Addr
  d_check_node : FuncData
  f_end_of : Addr
  d_end_of : FuncData
  f_young_of : Addr
  d_young_of : FuncData
  f_part_of : Addr
  d_part_of : FuncData
  f_others_of : Addr
  d_others_of : FuncData
  f_deepest_of : Addr
  d_deepest_of : FuncData
  f_moved_part : Addr
  d_moved_part : FuncData
  f_law_cell_at : Addr
  d_law_cell_at : FuncData
  f_law_word : Addr
  d_law_word : FuncData
  f_law_tree : Addr
  d_law_tree : FuncData
  f_law_young : Addr
  d_law_young : FuncData
  f_law_flat : Addr
  d_law_flat : FuncData
  f_law_within : Addr
  d_law_within : FuncData
  f_law_due : Addr
  d_law_due : FuncData
  f_law_told : Addr
  d_law_told : FuncData
  f_law_alike : Addr
  d_law_alike : FuncData
  f_law_number : Addr
  d_law_number : FuncData
  f_law : Addr
  d_law : FuncData
abbrev KU (cl : Nat → Addr) : List (Nat × Value) := [(0, .ref (cl 0)), (1, .ref (cl 1)), (2, .ref (cl 2)), (3, .ref (cl 3)), (99, .type "ValueError")]
/-- what the top has written -/
structure Txt (K : PySem.W.Frag) (mg : Str → Option Value) (cl : Nat → Addr) (A : Ads) : Prop where
  F_check_node : L2.Fun K "check_node" "check_node" st_check_node A.f_check_node A.d_check_node
  m_check_node : mg "check_node" = some (.ref A.f_check_node)
  k_check_node : PySem.W.keepIn K (.ref A.f_check_node) = true
  b_check_node : Binds K A.d_check_node ["tree", "node"] []
  F_end_of : L2.Fun K "end_of" "end_of" st_end_of A.f_end_of A.d_end_of
  m_end_of : mg "end_of" = some (.ref A.f_end_of)
  k_end_of : PySem.W.keepIn K (.ref A.f_end_of) = true
  b_end_of : Binds K A.d_end_of ["tree", "node"] []
  F_young_of : L2.Fun K "young_of" "young_of" st_young_of A.f_young_of A.d_young_of
  m_young_of : mg "young_of" = some (.ref A.f_young_of)
  k_young_of : PySem.W.keepIn K (.ref A.f_young_of) = true
  b_young_of : Binds K A.d_young_of ["tree", "node"] []
  F_part_of : L2.Fun K "part_of" "part_of" st_part_of A.f_part_of A.d_part_of
  m_part_of : mg "part_of" = some (.ref A.f_part_of)
  k_part_of : PySem.W.keepIn K (.ref A.f_part_of) = true
  b_part_of : Binds K A.d_part_of ["tree", "node"] []
  F_others_of : L2.Fun K "others_of" "others_of" st_others_of A.f_others_of A.d_others_of
  m_others_of : mg "others_of" = some (.ref A.f_others_of)
  k_others_of : PySem.W.keepIn K (.ref A.f_others_of) = true
  b_others_of : Binds K A.d_others_of ["tree", "elder", "node"] []
  F_deepest_of : L2.Fun K "deepest_of" "deepest_of" st_deepest_of A.f_deepest_of A.d_deepest_of
  m_deepest_of : mg "deepest_of" = some (.ref A.f_deepest_of)
  k_deepest_of : PySem.W.keepIn K (.ref A.f_deepest_of) = true
  b_deepest_of : Binds K A.d_deepest_of ["part"] []
  F_moved_part : L2.Fun K "moved_part" "moved_part" st_moved_part A.f_moved_part A.d_moved_part
  m_moved_part : mg "moved_part" = some (.ref A.f_moved_part)
  k_moved_part : PySem.W.keepIn K (.ref A.f_moved_part) = true
  b_moved_part : Binds K A.d_moved_part ["tree", "node", "elder", "at"] []
  F_law_cell_at : L2.Fun K "_law_cell_at" "_law_cell_at" st_law_cell_at A.f_law_cell_at A.d_law_cell_at
  m_law_cell_at : mg "_law_cell_at" = some (.ref A.f_law_cell_at)
  k_law_cell_at : PySem.W.keepIn K (.ref A.f_law_cell_at) = true
  b_law_cell_at : Binds K A.d_law_cell_at ["script", "k"] []
  F_law_word : L2.Fun K "_law_word" "_law_word" st_law_word A.f_law_word A.d_law_word
  m_law_word : mg "_law_word" = some (.ref A.f_law_word)
  k_law_word : PySem.W.keepIn K (.ref A.f_law_word) = true
  b_law_word : Binds K A.d_law_word ["number"] []
  F_law_tree : L2.Fun K "_law_tree" "_law_tree" st_law_tree A.f_law_tree A.d_law_tree
  m_law_tree : mg "_law_tree" = some (.ref A.f_law_tree)
  k_law_tree : PySem.W.keepIn K (.ref A.f_law_tree) = true
  b_law_tree : Binds K A.d_law_tree ["cells", "most"] []
  F_law_young : L2.Fun K "_law_young" "_law_young" st_law_young A.f_law_young A.d_law_young
  m_law_young : mg "_law_young" = some (.ref A.f_law_young)
  k_law_young : PySem.W.keepIn K (.ref A.f_law_young) = true
  b_law_young : Binds K A.d_law_young ["tree"] []
  F_law_flat : L2.Fun K "_law_flat" "_law_flat" st_law_flat A.f_law_flat A.d_law_flat
  m_law_flat : mg "_law_flat" = some (.ref A.f_law_flat)
  k_law_flat : PySem.W.keepIn K (.ref A.f_law_flat) = true
  b_law_flat : Binds K A.d_law_flat ["tree", "young"] []
  F_law_within : L2.Fun K "_law_within" "_law_within" st_law_within A.f_law_within A.d_law_within
  m_law_within : mg "_law_within" = some (.ref A.f_law_within)
  k_law_within : PySem.W.keepIn K (.ref A.f_law_within) = true
  b_law_within : Binds K A.d_law_within ["young", "node", "other"] []
  F_law_due : L2.Fun K "_law_due" "_law_due" st_law_due A.f_law_due A.d_law_due
  m_law_due : mg "_law_due" = some (.ref A.f_law_due)
  k_law_due : PySem.W.keepIn K (.ref A.f_law_due) = true
  b_law_due : Binds K A.d_law_due ["tree", "node", "elder", "at"] []
  F_law_told : L2.Fun K "_law_told" "_law_told" st_law_told A.f_law_told A.d_law_told
  m_law_told : mg "_law_told" = some (.ref A.f_law_told)
  k_law_told : PySem.W.keepIn K (.ref A.f_law_told) = true
  b_law_told : Binds K A.d_law_told ["tree", "node", "elder", "at"] []
  F_law_alike : L2.Fun K "_law_alike" "_law_alike" st_law_alike A.f_law_alike A.d_law_alike
  m_law_alike : mg "_law_alike" = some (.ref A.f_law_alike)
  k_law_alike : PySem.W.keepIn K (.ref A.f_law_alike) = true
  b_law_alike : Binds K A.d_law_alike ["found", "due"] []
  F_law_number : L2.Fun K "_law_number" "_law_number" st_law_number A.f_law_number A.d_law_number
  m_law_number : mg "_law_number" = some (.ref A.f_law_number)
  k_law_number : PySem.W.keepIn K (.ref A.f_law_number) = true
  b_law_number : Binds K A.d_law_number ["cell", "many"] []
  F_law : L2.Fun K "law" "law" st_law A.f_law A.d_law
  m_law : mg "law" = some (.ref A.f_law)
  k_law : PySem.W.keepIn K (.ref A.f_law) = true
  b_law : Binds K A.d_law ["script"] []
  n_ValueError : mg "ValueError" = none
  n_bool : mg "bool" = none
  n_int : mg "int" = none
  n_isinstance : mg "isinstance" = none
  n_len : mg "len" = none
  n_list : mg "list" = none
  n_max : mg "max" = none
  n_min : mg "min" = none
  n_range : mg "range" = none
  n_reversed : mg "reversed" = none
  n_str : mg "str" = none
  n_tuple : mg "tuple" = none
  c_DEEP : ∃ t, mg "DEEP" = some (.int 30 t)
  x_MendError : XC K mg "MendError" (cl 0)
  x_TooMany : XC K mg "TooMany" (cl 1)
  x_NoNode : XC K mg "NoNode" (cl 2)
  x_NoPlace : XC K mg "NoPlace" (cl 3)
  ec : ∀ c ∈ CS, ExcC K (cl c)
  em : ∀ c ∈ CS, ∀ k ∈ [1, 2, 3], PySem.W.exmOne K (.ref (cl c)) (.ref (cl k)) = some (sub c k)
  ko : ∀ c ∈ CS, ∀ x ∈ KU cl, PySem.W.kitOne K (.ref (cl c)) x.2 = some (sub c x.1)
section
variable {P : Program} {w : World} {K : PySem.W.Frag} {mg : Str → Option Value} {base : Heap} {cl : Nat → Addr} {A : Ads}
theorem sc_check_node : FnScope ["tree", "node"] ["tree", "node"] (defScope st_check_node) := ⟨rfl, rfl, rfl, by decide +kernel, rfl, by decide +kernel, by decide +kernel⟩
theorem ok_check_node (T : Txt K mg cl A) : FnOk P w K mg base (L2.CX P w) 1 A.f_check_node A.d_check_node ["tree", "node"] (spF (kp0 K cl) 2 F_check_node) :=
  fun_ok T.F_check_node sc_check_node rfl rfl fun cdv Ar outer s H E hr => by
    have nd := sc_check_node.nd
    have tk : Takes (cxOf (L2.CX P w) P w K mg base ["tree", "node"] "check_node" (defScope st_check_node) A.f_check_node cdv Ar outer s H E) (fun c od _ H => E c od H) := takes_of rfl rfl rfl rfl
    have po := passes_of (X := cxOf (L2.CX P w) P w K mg base ["tree", "node"] "check_node" (defScope st_check_node) A.f_check_node cdv Ar outer s H E) rfl
    exact rss_one (rs_if (rt_pw (rw_or (rt_cmp so_lt (re_var 1) (re_int)) (rw_or1 (rt_cmp so_ge (re_var 1) (re_len T.n_len (ra_cons (re_var 0) ra_nil)))))) (rss_one (rs_raise rfl tk F.excBase_ValueError T.x_NoNode.xi T.x_NoNode.g T.x_NoNode.kp (raises_own T.x_NoNode.bs T.x_NoNode.ty) rfl)) (rss_nil))
theorem sc_end_of : FnScope ["tree", "node", "stop"] ["tree", "node"] (defScope st_end_of) := ⟨rfl, rfl, rfl, by decide +kernel, rfl, by decide +kernel, by decide +kernel⟩
theorem ok_end_of (T : Txt K mg cl A) : FnOk P w K mg base (L2.CX P w) 2 A.f_end_of A.d_end_of ["tree", "node"] (spF (kp0 K cl) 2 F_end_of) :=
  fun_ok T.F_end_of sc_end_of rfl rfl fun cdv Ar outer s H E hr => by
    have nd := sc_end_of.nd
    have tk : Takes (cxOf (L2.CX P w) P w K mg base ["tree", "node", "stop"] "end_of" (defScope st_end_of) A.f_end_of cdv Ar outer s H E) (fun c od _ H => E c od H) := takes_of rfl rfl rfl rfl
    have po := passes_of (X := cxOf (L2.CX P w) P w K mg base ["tree", "node", "stop"] "end_of" (defScope st_end_of) A.f_end_of cdv Ar outer s H E) rfl
    exact rss_cons (rs_expr (re_call (ok_check_node T) rfl (hr.mono (by decide)) T.m_check_node T.k_check_node T.b_check_node tk (ra_cons (re_var 0) (ra_cons (re_var 1) ra_nil)))) (rss_cons (rs_set 2 nd (re_bin so_add (re_var 1) (re_int))) (rss_cons (rs_while po (rt_pw (rw_and (rt_cmp so_lt (re_var 2) (re_len T.n_len (ra_cons (re_var 0) ra_nil))) (rw_and1 (rt_cmp so_gt (re_ix (u1 hr) (re_ix (u1 hr) (re_var 0) (re_var 2)) (re_int)) (re_ix (u1 hr) (re_ix (u1 hr) (re_var 0) (re_var 1)) (re_int)))))) (rss_one (rs_aug 2 nd ip_addI (re_int)))) (rss_one (rs_ret (re_var 2)))))
theorem sc_young_of : FnScope ["tree", "node", "stop", "there"] ["tree", "node"] (defScope st_young_of) := ⟨rfl, rfl, rfl, by decide +kernel, rfl, by decide +kernel, by decide +kernel⟩
theorem ok_young_of (T : Txt K mg cl A) : FnOk P w K mg base (L2.CX P w) 3 A.f_young_of A.d_young_of ["tree", "node"] (spF (kp0 K cl) 2 F_young_of) :=
  fun_ok T.F_young_of sc_young_of rfl rfl fun cdv Ar outer s H E hr => by
    have nd := sc_young_of.nd
    have tk : Takes (cxOf (L2.CX P w) P w K mg base ["tree", "node", "stop", "there"] "young_of" (defScope st_young_of) A.f_young_of cdv Ar outer s H E) (fun c od _ H => E c od H) := takes_of rfl rfl rfl rfl
    have po := passes_of (X := cxOf (L2.CX P w) P w K mg base ["tree", "node", "stop", "there"] "young_of" (defScope st_young_of) A.f_young_of cdv Ar outer s H E) rfl
    exact rss_cons (rs_set 2 nd (re_call (ok_end_of T) rfl (hr.mono (by decide)) T.m_end_of T.k_end_of T.b_end_of tk (ra_cons (re_var 0) (ra_cons (re_var 1) ra_nil)))) (rss_one (rs_ret (re_comp (own := [("there", 3)]) rfl nd (ri_rng2 T.n_range (ra_cons (re_bin so_add (re_var 1) (re_int)) (ra_cons (re_var 2) ra_nil))) (blk_of (by kernel_rfl)) (by decide) (fun _ _ _ _ _ => rg_one 3 nd) (fun _ _ _ _ _ => rts_one (rt_cmp (so_eq hr.units) (re_ix (u1 hr) (re_ix (u1 hr) (re_var 0) (re_var 3)) (re_int)) (re_bin so_add (re_ix (u1 hr) (re_ix (u1 hr) (re_var 0) (re_var 1)) (re_int)) (re_int)))) (fun _ _ _ _ _ => re_var 3))))
theorem sc_part_of : FnScope ["tree", "node", "deep", "word"] ["tree", "node"] (defScope st_part_of) := ⟨rfl, rfl, rfl, by decide +kernel, rfl, by decide +kernel, by decide +kernel⟩
theorem ok_part_of (T : Txt K mg cl A) : FnOk P w K mg base (L2.CX P w) 3 A.f_part_of A.d_part_of ["tree", "node"] (spF (kp0 K cl) 2 F_part_of) :=
  fun_ok T.F_part_of sc_part_of rfl rfl fun cdv Ar outer s H E hr => by
    have nd := sc_part_of.nd
    have tk : Takes (cxOf (L2.CX P w) P w K mg base ["tree", "node", "deep", "word"] "part_of" (defScope st_part_of) A.f_part_of cdv Ar outer s H E) (fun c od _ H => E c od H) := takes_of rfl rfl rfl rfl
    have po := passes_of (X := cxOf (L2.CX P w) P w K mg base ["tree", "node", "deep", "word"] "part_of" (defScope st_part_of) A.f_part_of cdv Ar outer s H E) rfl
    exact rss_one (rs_ret (re_comp (own := [("deep", 2), ("word", 3)]) rfl nd (ri_lst (re_cut (re_var 0) (rp_some (re_var 1)) (rp_some (re_call (ok_end_of T) rfl (hr.mono (by decide)) T.m_end_of T.k_end_of T.b_end_of tk (ra_cons (re_var 0) (ra_cons (re_var 1) ra_nil)))))) (blk_of (by kernel_rfl)) (by decide) (fun _ _ _ _ _ => rg_many rfl (rgs_cons (rg_one 2 nd) (rgs_cons (rg_one 3 nd) (rgs_nil)))) (fun _ _ _ _ _ => rts_nil) (fun _ _ _ _ _ => re_tup (ra_cons (re_bin so_sub (re_var 2) (re_ix (u1 hr) (re_ix (u1 hr) (re_var 0) (re_var 1)) (re_int))) (ra_cons (re_var 3) ra_nil)))))
theorem sc_others_of : FnScope ["tree", "elder", "node", "there"] ["tree", "elder", "node"] (defScope st_others_of) := ⟨rfl, rfl, rfl, by decide +kernel, rfl, by decide +kernel, by decide +kernel⟩
theorem ok_others_of (T : Txt K mg cl A) : FnOk P w K mg base (L2.CX P w) 4 A.f_others_of A.d_others_of ["tree", "elder", "node"] (spF (kp0 K cl) 3 F_others_of) :=
  fun_ok T.F_others_of sc_others_of rfl rfl fun cdv Ar outer s H E hr => by
    have nd := sc_others_of.nd
    have tk : Takes (cxOf (L2.CX P w) P w K mg base ["tree", "elder", "node", "there"] "others_of" (defScope st_others_of) A.f_others_of cdv Ar outer s H E) (fun c od _ H => E c od H) := takes_of rfl rfl rfl rfl
    have po := passes_of (X := cxOf (L2.CX P w) P w K mg base ["tree", "elder", "node", "there"] "others_of" (defScope st_others_of) A.f_others_of cdv Ar outer s H E) rfl
    exact rss_one (rs_ret (re_comp (own := [("there", 3)]) rfl nd (ri_lst (re_call (ok_young_of T) rfl (hr.mono (by decide)) T.m_young_of T.k_young_of T.b_young_of tk (ra_cons (re_var 0) (ra_cons (re_var 1) ra_nil)))) (blk_of (by kernel_rfl)) (by decide) (fun _ _ _ _ _ => rg_one 3 nd) (fun _ _ _ _ _ => rts_one (rt_cmp (so_ne hr.units) (re_var 3) (re_var 2))) (fun _ _ _ _ _ => re_var 3)))
theorem sc_deepest_of : FnScope ["part", "deep", "word"] ["part"] (defScope st_deepest_of) := ⟨rfl, rfl, rfl, by decide +kernel, rfl, by decide +kernel, by decide +kernel⟩
theorem ok_deepest_of (T : Txt K mg cl A) : FnOk P w K mg base (L2.CX P w) 1 A.f_deepest_of A.d_deepest_of ["part"] (spF (kp0 K cl) 1 F_deepest_of) :=
  fun_ok T.F_deepest_of sc_deepest_of rfl rfl fun cdv Ar outer s H E hr => by
    have nd := sc_deepest_of.nd
    have tk : Takes (cxOf (L2.CX P w) P w K mg base ["part", "deep", "word"] "deepest_of" (defScope st_deepest_of) A.f_deepest_of cdv Ar outer s H E) (fun c od _ H => E c od H) := takes_of rfl rfl rfl rfl
    have po := passes_of (X := cxOf (L2.CX P w) P w K mg base ["part", "deep", "word"] "deepest_of" (defScope st_deepest_of) A.f_deepest_of cdv Ar outer s H E) rfl
    exact rss_one (rs_ret (re_max rfl T.n_max (ra_cons (re_comp (own := [("deep", 1), ("word", 2)]) rfl nd (ri_lst (re_var 0)) (blk_of (by kernel_rfl)) (by decide) (fun _ _ _ _ _ => rg_many rfl (rgs_cons (rg_one 1 nd) (rgs_cons (rg_one 2 nd) (rgs_nil)))) (fun _ _ _ _ _ => rts_nil) (fun _ _ _ _ _ => re_var 1)) ra_nil)))
theorem sc_moved_part : FnScope ["tree", "node", "elder", "at", "stop", "young", "more", "part", "spot", "deep", "word"] ["tree", "node", "elder", "at"] (defScope st_moved_part) := ⟨rfl, rfl, rfl, by decide +kernel, rfl, by decide +kernel, by decide +kernel⟩
theorem ok_moved_part (T : Txt K mg cl A) : FnOk P w K mg base (L2.CX P w) 5 A.f_moved_part A.d_moved_part ["tree", "node", "elder", "at"] (spF (kp0 K cl) 4 F_moved_part) :=
  fun_ok T.F_moved_part sc_moved_part rfl rfl fun cdv Ar outer s H E hr => by
    have nd := sc_moved_part.nd
    have tk : Takes (cxOf (L2.CX P w) P w K mg base ["tree", "node", "elder", "at", "stop", "young", "more", "part", "spot", "deep", "word"] "moved_part" (defScope st_moved_part) A.f_moved_part cdv Ar outer s H E) (fun c od _ H => E c od H) := takes_of rfl rfl rfl rfl
    have po := passes_of (X := cxOf (L2.CX P w) P w K mg base ["tree", "node", "elder", "at", "stop", "young", "more", "part", "spot", "deep", "word"] "moved_part" (defScope st_moved_part) A.f_moved_part cdv Ar outer s H E) rfl
    exact rss_cons (rs_if (rt_pw (rw_or (rt_cmp so_lt (re_var 1) (re_int)) (rw_or (rt_cmp so_ge (re_var 1) (re_len T.n_len (ra_cons (re_var 0) ra_nil))) (rw_or (rt_cmp so_lt (re_var 2) (re_int)) (rw_or1 (rt_cmp so_ge (re_var 2) (re_len T.n_len (ra_cons (re_var 0) ra_nil)))))))) (rss_one (rs_raise rfl tk F.excBase_ValueError T.x_NoNode.xi T.x_NoNode.g T.x_NoNode.kp (raises_own T.x_NoNode.bs T.x_NoNode.ty) rfl)) (rss_nil)) (rss_cons (rs_set 4 nd (re_call (ok_end_of T) rfl (hr.mono (by decide)) T.m_end_of T.k_end_of T.b_end_of tk (ra_cons (re_var 0) (ra_cons (re_var 1) ra_nil)))) (rss_cons (rs_if (rt_chain so_le so_lt (re_var 1) (re_var 2) (re_var 4)) (rss_one (rs_raise rfl tk F.excBase_ValueError T.x_NoPlace.xi T.x_NoPlace.g T.x_NoPlace.kp (raises_own T.x_NoPlace.bs T.x_NoPlace.ty) rfl)) (rss_nil)) (rss_cons (rs_set 5 nd (re_call (ok_others_of T) rfl (hr.mono (by decide)) T.m_others_of T.k_others_of T.b_others_of tk (ra_cons (re_var 0) (ra_cons (re_var 2) (ra_cons (re_var 1) ra_nil))))) (rss_cons (rs_if (rt_pw (rw_or (rt_cmp so_lt (re_var 3) (re_int)) (rw_or1 (rt_cmp so_gt (re_var 3) (re_len T.n_len (ra_cons (re_var 5) ra_nil)))))) (rss_one (rs_raise rfl tk F.excBase_ValueError T.x_NoPlace.xi T.x_NoPlace.g T.x_NoPlace.kp (raises_own T.x_NoPlace.bs T.x_NoPlace.ty) rfl)) (rss_nil)) (rss_cons (rs_set 6 nd (re_bin so_add (re_ix (u1 hr) (re_ix (u1 hr) (re_var 0) (re_var 2)) (re_int)) (re_int))) (rss_cons (rs_setc 7 (own := [("deep", 9), ("word", 10)]) rfl nd rfl (ri_lst (re_call (ok_part_of T) rfl (hr.mono (by decide)) T.m_part_of T.k_part_of T.b_part_of tk (ra_cons (re_var 0) (ra_cons (re_var 1) ra_nil)))) (blk_of (by kernel_rfl)) (by decide) (fun _ _ _ _ _ => rg_many rfl (rgs_cons (rg_one 9 nd) (rgs_cons (rg_one 10 nd) (rgs_nil)))) (fun _ _ _ _ _ => rts_nil) (fun _ _ _ _ _ => re_tup (ra_cons (re_bin so_add (re_var 9) (re_var 6)) (ra_cons (re_var 10) ra_nil)))) (rss_cons (rs_if (rt_cmp so_gt (re_call (ok_deepest_of T) rfl (hr.mono (by decide)) T.m_deepest_of T.k_deepest_of T.b_deepest_of tk (ra_cons (re_var 7) ra_nil)) (re_globI T.c_DEEP)) (rss_one (rs_raise rfl tk F.excBase_ValueError T.x_TooMany.xi T.x_TooMany.g T.x_TooMany.kp (raises_own T.x_TooMany.bs T.x_TooMany.ty) rfl)) (rss_nil)) (rss_cons (rs_set 8 nd (re_call (ok_end_of T) rfl (hr.mono (by decide)) T.m_end_of T.k_end_of T.b_end_of tk (ra_cons (re_var 0) (ra_cons (re_var 2) ra_nil)))) (rss_cons (rs_if (rt_cmp so_lt (re_var 3) (re_len T.n_len (ra_cons (re_var 5) ra_nil))) (rss_one (rs_set 8 nd (re_ix (u1 hr) (re_var 5) (re_var 3)))) (rss_nil)) (rss_cons (rs_if (rt_cmp so_le (re_var 8) (re_var 1)) (rss_one (rs_ret (re_bin so_add (re_bin so_add (re_bin so_add (re_cut (re_var 0) (rp_none) (rp_some (re_var 8))) (re_var 7)) (re_cut (re_var 0) (rp_some (re_var 8)) (rp_some (re_var 1)))) (re_cut (re_var 0) (rp_some (re_var 4)) (rp_none))))) (rss_nil)) (rss_one (rs_ret (re_bin so_add (re_bin so_add (re_bin so_add (re_cut (re_var 0) (rp_none) (rp_some (re_var 1))) (re_cut (re_var 0) (rp_some (re_var 4)) (rp_some (re_var 8)))) (re_var 7)) (re_cut (re_var 0) (rp_some (re_var 8)) (rp_none)))))))))))))))
theorem sc_law_cell_at : FnScope ["script", "k"] ["script", "k"] (defScope st_law_cell_at) := ⟨rfl, rfl, rfl, by decide +kernel, rfl, by decide +kernel, by decide +kernel⟩
theorem ok_law_cell_at (T : Txt K mg cl A) : FnOk P w K mg base (L2.CX P w) 1 A.f_law_cell_at A.d_law_cell_at ["script", "k"] (spF (kp0 K cl) 2 F_law_cell_at) :=
  fun_ok T.F_law_cell_at sc_law_cell_at rfl rfl fun cdv Ar outer s H E hr => by
    have nd := sc_law_cell_at.nd
    have tk : Takes (cxOf (L2.CX P w) P w K mg base ["script", "k"] "_law_cell_at" (defScope st_law_cell_at) A.f_law_cell_at cdv Ar outer s H E) (fun c od _ H => E c od H) := takes_of rfl rfl rfl rfl
    have po := passes_of (X := cxOf (L2.CX P w) P w K mg base ["script", "k"] "_law_cell_at" (defScope st_law_cell_at) A.f_law_cell_at cdv Ar outer s H E) rfl
    exact rss_cons (rs_if (rt_cmp so_lt (re_var 1) (re_len T.n_len (ra_cons (re_var 0) ra_nil))) (rss_one (rs_ret (re_ix (u1 hr) (re_var 0) (re_var 1)))) (rss_nil)) (rss_one (rs_ret (re_int)))
theorem sc_law_word : FnScope ["number", "word", "k"] ["number"] (defScope st_law_word) := ⟨rfl, rfl, rfl, by decide +kernel, rfl, by decide +kernel, by decide +kernel⟩
theorem ok_law_word (T : Txt K mg cl A) : FnOk P w K mg base (L2.CX P w) 1 A.f_law_word A.d_law_word ["number"] (spF (kp0 K cl) 1 F_law_word) :=
  fun_ok T.F_law_word sc_law_word rfl rfl fun cdv Ar outer s H E hr => by
    have nd := sc_law_word.nd
    have tk : Takes (cxOf (L2.CX P w) P w K mg base ["number", "word", "k"] "_law_word" (defScope st_law_word) A.f_law_word cdv Ar outer s H E) (fun c od _ H => E c od H) := takes_of rfl rfl rfl rfl
    have po := passes_of (X := cxOf (L2.CX P w) P w K mg base ["number", "word", "k"] "_law_word" (defScope st_law_word) A.f_law_word cdv Ar outer s H E) rfl
    exact rss_cons (rs_if (rt_cmp so_lt (re_bin so_mod (re_var 0) (re_int)) (re_int)) (rss_one (rs_ret (re_ix (u1 hr) (re_lst (ra_cons (re_str) (ra_cons (re_str) (ra_cons (re_str) (ra_cons (re_str) ra_nil))))) (re_bin so_mod (re_bin so_div (re_var 0) (re_int)) (re_int))))) (rss_nil)) (rss_cons (rs_set 1 nd (re_str)) (rss_cons (rs_for rfl po (ri_rng1 T.n_range (ra_cons (re_bin so_add (re_int) (re_bin so_mod (re_bin so_div (re_var 0) (re_int)) (re_int))) ra_nil)) (rg_one 2 nd) (rss_cons (rs_set 0 nd (re_bin so_mod (re_bin so_add (re_bin so_add (re_bin so_mul (re_var 0) (re_var 0)) (re_bin so_mul (re_int) (re_var 0))) (re_var 2)) (re_int))) (rss_one (rs_set 1 nd (re_bin so_add (re_var 1) (re_ix (u1 hr) (re_str) (re_bin so_mod (re_bin so_div (re_var 0) (re_int)) (re_int)))))))) (rss_one (rs_ret (re_var 1)))))
theorem sc_law_tree : FnScope ["cells", "most", "tree", "cell", "number", "k", "deep"] ["cells", "most"] (defScope st_law_tree) := ⟨rfl, rfl, rfl, by decide +kernel, rfl, by decide +kernel, by decide +kernel⟩
theorem ok_law_tree (T : Txt K mg cl A) : FnOk P w K mg base (L2.CX P w) 2 A.f_law_tree A.d_law_tree ["cells", "most"] (spF (kp0 K cl) 2 F_law_tree) :=
  fun_ok T.F_law_tree sc_law_tree rfl rfl fun cdv Ar outer s H E hr => by
    have nd := sc_law_tree.nd
    have tk : Takes (cxOf (L2.CX P w) P w K mg base ["cells", "most", "tree", "cell", "number", "k", "deep"] "_law_tree" (defScope st_law_tree) A.f_law_tree cdv Ar outer s H E) (fun c od _ H => E c od H) := takes_of rfl rfl rfl rfl
    have po := passes_of (X := cxOf (L2.CX P w) P w K mg base ["cells", "most", "tree", "cell", "number", "k", "deep"] "_law_tree" (defScope st_law_tree) A.f_law_tree cdv Ar outer s H E) rfl
    exact rss_cons (rs_set 2 nd (re_lst (ra_cons (re_tup (ra_cons (re_int) (ra_cons (re_call (ok_law_word T) rfl (hr.mono (by decide)) T.m_law_word T.k_law_word T.b_law_word tk (ra_cons (re_len T.n_len (ra_cons (re_var 0) ra_nil)) ra_nil)) ra_nil))) ra_nil))) (rss_cons (rs_for rfl po (ri_lst (re_var 0)) (rg_one 3 nd) (rss_cons (rs_set 4 nd (re_bin so_mod (re_bin so_mul (re_var 3) (re_int)) (re_int))) (rss_one (rs_for rfl po (ri_rng1 T.n_range (ra_cons (re_bin so_add (re_int) (re_bin so_mod (re_bin so_div (re_var 4) (re_int)) (re_int))) ra_nil)) (rg_one 5 nd) (rss_cons (rs_set 6 nd (re_min2 rfl T.n_min (ra_cons (re_bin so_add (re_ix (u1 hr) (re_ix (u1 hr) (re_var 2) (re_un so_neg (re_int))) (re_int)) (re_int)) (ra_cons (re_int) ra_nil)))) (rss_cons (rs_if (rt_cmp so_gt (re_bin so_mod (re_var 4) (re_int)) (re_int)) (rss_one (rs_set 6 nd (re_bin so_add (re_int) (re_bin so_mod (re_bin so_mul (re_bin so_div (re_var 4) (re_int)) (re_bin so_add (re_bin so_mul (re_int) (re_var 5)) (re_int))) (re_var 6))))) (rss_nil)) (rss_one (rs_expr (re_meth F.plainAttrs_list F.slot_list_append F.type_list_append sm_append ck_list (re_var 2) (ra_cons (re_tup (ra_cons (re_var 6) (ra_cons (re_call (ok_law_word T) rfl (hr.mono (by decide)) T.m_law_word T.k_law_word T.b_law_word tk (ra_cons (re_bin so_mod (re_bin so_mul (re_bin so_mul (re_var 4) (re_bin so_add (re_bin so_mul (re_int) (re_var 5)) (re_int))) (re_int)) (re_int)) ra_nil)) ra_nil))) ra_nil)))))))))) (rss_one (rs_ret (re_cut (re_var 2) (rp_none) (rp_some (re_var 1))))))
theorem sc_law_young : FnScope ["tree", "young", "last", "node"] ["tree"] (defScope st_law_young) := ⟨rfl, rfl, rfl, by decide +kernel, rfl, by decide +kernel, by decide +kernel⟩
theorem ok_law_young (T : Txt K mg cl A) : FnOk P w K mg base (L2.CX P w) 1 A.f_law_young A.d_law_young ["tree"] (spF (kp0 K cl) 1 F_law_young) :=
  fun_ok T.F_law_young sc_law_young rfl rfl fun cdv Ar outer s H E hr => by
    have nd := sc_law_young.nd
    have tk : Takes (cxOf (L2.CX P w) P w K mg base ["tree", "young", "last", "node"] "_law_young" (defScope st_law_young) A.f_law_young cdv Ar outer s H E) (fun c od _ H => E c od H) := takes_of rfl rfl rfl rfl
    have po := passes_of (X := cxOf (L2.CX P w) P w K mg base ["tree", "young", "last", "node"] "_law_young" (defScope st_law_young) A.f_law_young cdv Ar outer s H E) rfl
    exact rss_cons (rs_set 1 nd (re_lst (ra_cons (re_lst (ra_nil)) ra_nil))) (rss_cons (rs_set 2 nd (re_dct1 (re_int) (re_int))) (rss_cons (rs_for rfl po (ri_rng2 T.n_range (ra_cons (re_int) (ra_cons (re_len T.n_len (ra_cons (re_var 0) ra_nil)) ra_nil))) (rg_one 3 nd) (rss_cons (rs_expr (re_meth F.plainAttrs_list F.slot_list_append F.type_list_append sm_append ck_list (re_var 1) (ra_cons (re_lst (ra_nil)) ra_nil))) (rss_cons (rs_expr (re_meth F.plainAttrs_list F.slot_list_append F.type_list_append sm_append ck_list (re_ix (u1 hr) (re_var 1) (re_ix (u1 hr) (re_var 2) (re_bin so_sub (re_ix (u1 hr) (re_ix (u1 hr) (re_var 0) (re_var 3)) (re_int)) (re_int)))) (ra_cons (re_var 3) ra_nil))) (rss_one (rs_sub (u1 hr) (re_var 2) (re_ix (u1 hr) (re_ix (u1 hr) (re_var 0) (re_var 3)) (re_int)) (re_var 3)))))) (rss_one (rs_ret (re_var 1)))))
theorem sc_law_flat : FnScope ["tree", "young", "made", "todo", "there", "node", "deep"] ["tree", "young"] (defScope st_law_flat) := ⟨rfl, rfl, rfl, by decide +kernel, rfl, by decide +kernel, by decide +kernel⟩
theorem ok_law_flat (T : Txt K mg cl A) : FnOk P w K mg base (L2.CX P w) 1 A.f_law_flat A.d_law_flat ["tree", "young"] (spF (kp0 K cl) 2 F_law_flat) :=
  fun_ok T.F_law_flat sc_law_flat rfl rfl fun cdv Ar outer s H E hr => by
    have nd := sc_law_flat.nd
    have tk : Takes (cxOf (L2.CX P w) P w K mg base ["tree", "young", "made", "todo", "there", "node", "deep"] "_law_flat" (defScope st_law_flat) A.f_law_flat cdv Ar outer s H E) (fun c od _ H => E c od H) := takes_of rfl rfl rfl rfl
    have po := passes_of (X := cxOf (L2.CX P w) P w K mg base ["tree", "young", "made", "todo", "there", "node", "deep"] "_law_flat" (defScope st_law_flat) A.f_law_flat cdv Ar outer s H E) rfl
    exact rss_cons (rs_set 2 nd (re_lst (ra_nil))) (rss_cons (rs_set 3 nd (re_lst (ra_cons (re_tup (ra_cons (re_int) (ra_cons (re_int) ra_nil))) ra_nil))) (rss_cons (rs_while po (rt_cmp so_gt (re_len T.n_len (ra_cons (re_var 3) ra_nil)) (re_int)) (rss_cons (rs_asg (rg_many rfl (rgs_cons (rg_one 5 nd) (rgs_cons (rg_one 6 nd) (rgs_nil)))) (re_meth0 F.plainAttrs_list F.slot_list_pop F.type_list_pop sm_pop ck_list (re_var 3))) (rss_cons (rs_expr (re_meth F.plainAttrs_list F.slot_list_append F.type_list_append sm_append ck_list (re_var 2) (ra_cons (re_tup (ra_cons (re_var 6) (ra_cons (re_ix (u1 hr) (re_ix (u1 hr) (re_var 0) (re_var 5)) (re_int)) ra_nil))) ra_nil))) (rss_one (rs_for rfl po (ri_rev T.n_reversed (re_ix (u1 hr) (re_var 1) (re_var 5))) (rg_one 4 nd) (rss_one (rs_expr (re_meth F.plainAttrs_list F.slot_list_append F.type_list_append sm_append ck_list (re_var 3) (ra_cons (re_tup (ra_cons (re_var 4) (ra_cons (re_bin so_add (re_var 6) (re_int)) ra_nil))) ra_nil))))))))) (rss_one (rs_ret (re_var 2)))))
theorem sc_law_within : FnScope ["young", "node", "other", "todo", "here"] ["young", "node", "other"] (defScope st_law_within) := ⟨rfl, rfl, rfl, by decide +kernel, rfl, by decide +kernel, by decide +kernel⟩
theorem ok_law_within (T : Txt K mg cl A) : FnOk P w K mg base (L2.CX P w) 1 A.f_law_within A.d_law_within ["young", "node", "other"] (spF (kp0 K cl) 3 F_law_within) :=
  fun_ok T.F_law_within sc_law_within rfl rfl fun cdv Ar outer s H E hr => by
    have nd := sc_law_within.nd
    have tk : Takes (cxOf (L2.CX P w) P w K mg base ["young", "node", "other", "todo", "here"] "_law_within" (defScope st_law_within) A.f_law_within cdv Ar outer s H E) (fun c od _ H => E c od H) := takes_of rfl rfl rfl rfl
    have po := passes_of (X := cxOf (L2.CX P w) P w K mg base ["young", "node", "other", "todo", "here"] "_law_within" (defScope st_law_within) A.f_law_within cdv Ar outer s H E) rfl
    exact rss_cons (rs_set 3 nd (re_lst (ra_cons (re_var 1) ra_nil))) (rss_cons (rs_while po (rt_cmp so_gt (re_len T.n_len (ra_cons (re_var 3) ra_nil)) (re_int)) (rss_cons (rs_set 4 nd (re_meth0 F.plainAttrs_list F.slot_list_pop F.type_list_pop sm_pop ck_list (re_var 3))) (rss_cons (rs_if (rt_cmp (so_eq hr.units) (re_var 4) (re_var 2)) (rss_one (rs_ret (re_bl))) (rss_nil)) (rss_one (rs_expr (re_meth F.plainAttrs_list F.slot_list_extend F.type_list_extend sm_extend ck_list (re_var 3) (ra_cons (re_ix (u1 hr) (re_var 0) (re_var 4)) ra_nil))))))) (rss_one (rs_ret (re_bl))))
theorem sc_law_due : FnScope ["tree", "node", "elder", "at", "young", "there", "made", "k", "deep", "word"] ["tree", "node", "elder", "at"] (defScope st_law_due) := ⟨rfl, rfl, rfl, by decide +kernel, rfl, by decide +kernel, by decide +kernel⟩
theorem ok_law_due (T : Txt K mg cl A) : FnOk P w K mg base (L2.CX P w) 2 A.f_law_due A.d_law_due ["tree", "node", "elder", "at"] (spF (kp0 K cl) 4 F_law_due) :=
  fun_ok T.F_law_due sc_law_due rfl rfl fun cdv Ar outer s H E hr => by
    have nd := sc_law_due.nd
    have tk : Takes (cxOf (L2.CX P w) P w K mg base ["tree", "node", "elder", "at", "young", "there", "made", "k", "deep", "word"] "_law_due" (defScope st_law_due) A.f_law_due cdv Ar outer s H E) (fun c od _ H => E c od H) := takes_of rfl rfl rfl rfl
    have po := passes_of (X := cxOf (L2.CX P w) P w K mg base ["tree", "node", "elder", "at", "young", "there", "made", "k", "deep", "word"] "_law_due" (defScope st_law_due) A.f_law_due cdv Ar outer s H E) rfl
    exact rss_cons (rs_if (rt_pw (rw_or (rt_cmp so_lt (re_var 1) (re_int)) (rw_or (rt_cmp so_ge (re_var 1) (re_len T.n_len (ra_cons (re_var 0) ra_nil))) (rw_or (rt_cmp so_lt (re_var 2) (re_int)) (rw_or1 (rt_cmp so_ge (re_var 2) (re_len T.n_len (ra_cons (re_var 0) ra_nil)))))))) (rss_one (rs_ret (re_tup (ra_cons (re_int) (ra_cons (re_bl) (ra_cons (re_bl) (ra_cons (re_bl) ra_nil))))))) (rss_nil)) (rss_cons (rs_set 4 nd (re_call (ok_law_young T) rfl (hr.mono (by decide)) T.m_law_young T.k_law_young T.b_law_young tk (ra_cons (re_var 0) ra_nil))) (rss_cons (rs_if (rt_val (re_call (ok_law_within T) rfl (hr.mono (by decide)) T.m_law_within T.k_law_within T.b_law_within tk (ra_cons (re_var 4) (ra_cons (re_var 1) (ra_cons (re_var 2) ra_nil))))) (rss_one (rs_ret (re_tup (ra_cons (re_int) (ra_cons (re_bl) (ra_cons (re_bl) (ra_cons (re_bl) ra_nil))))))) (rss_nil)) (rss_cons (rs_for rfl po (ri_rng1 T.n_range (ra_cons (re_len T.n_len (ra_cons (re_var 0) ra_nil)) ra_nil)) (rg_one 5 nd) (rss_one (rs_sub (u1 hr) (re_var 4) (re_var 5) (re_comp (own := [("k", 7)]) rfl nd (ri_lst (re_ix (u1 hr) (re_var 4) (re_var 5))) (blk_of (by kernel_rfl)) (by decide) (fun _ _ _ _ _ => rg_one 7 nd) (fun _ _ _ _ _ => rts_one (rt_cmp (so_ne hr.units) (re_var 7) (re_var 1))) (fun _ _ _ _ _ => re_var 7))))) (rss_cons (rs_if (rt_pw (rw_or (rt_cmp so_lt (re_var 3) (re_int)) (rw_or1 (rt_cmp so_gt (re_var 3) (re_len T.n_len (ra_cons (re_ix (u1 hr) (re_var 4) (re_var 2)) ra_nil)))))) (rss_one (rs_ret (re_tup (ra_cons (re_int) (ra_cons (re_bl) (ra_cons (re_bl) (ra_cons (re_bl) ra_nil))))))) (rss_nil)) (rss_cons (rs_expr (re_meth F.plainAttrs_list F.slot_list_insert F.type_list_insert sm_insert ck_list (re_ix (u1 hr) (re_var 4) (re_var 2)) (ra_cons (re_var 3) (ra_cons (re_var 1) ra_nil)))) (rss_cons (rs_set 6 nd (re_call (ok_law_flat T) rfl (hr.mono (by decide)) T.m_law_flat T.k_law_flat T.b_law_flat tk (ra_cons (re_var 0) (ra_cons (re_var 4) ra_nil)))) (rss_cons (rs_if (rt_cmp so_gt (re_max rfl T.n_max (ra_cons (re_comp (own := [("deep", 8), ("word", 9)]) rfl nd (ri_lst (re_var 6)) (blk_of (by kernel_rfl)) (by decide) (fun _ _ _ _ _ => rg_many rfl (rgs_cons (rg_one 8 nd) (rgs_cons (rg_one 9 nd) (rgs_nil)))) (fun _ _ _ _ _ => rts_nil) (fun _ _ _ _ _ => re_var 8)) ra_nil)) (re_int)) (rss_one (rs_ret (re_tup (ra_cons (re_int) (ra_cons (re_bl) (ra_cons (re_bl) (ra_cons (re_bl) ra_nil))))))) (rss_nil)) (rss_one (rs_ret (re_var 6))))))))))
theorem sc_law_told : FnScope ["tree", "node", "elder", "at", "told", "found", "e"] ["tree", "node", "elder", "at"] (defScope st_law_told) := ⟨rfl, rfl, rfl, by decide +kernel, rfl, by decide +kernel, by decide +kernel⟩
theorem ok_law_told (T : Txt K mg cl A) : FnOk P w K mg base (L2.CX P w) 6 A.f_law_told A.d_law_told ["tree", "node", "elder", "at"] (spF (kp0 K cl) 4 F_law_told) :=
  fun_ok T.F_law_told sc_law_told rfl rfl fun cdv Ar outer s H E hr => by
    have nd := sc_law_told.nd
    have tk : Takes (cxOf (L2.CX P w) P w K mg base ["tree", "node", "elder", "at", "told", "found", "e"] "_law_told" (defScope st_law_told) A.f_law_told cdv Ar outer s H E) (fun c od _ H => E c od H) := takes_of rfl rfl rfl rfl
    have po := passes_of (X := cxOf (L2.CX P w) P w K mg base ["tree", "node", "elder", "at", "told", "found", "e"] "_law_told" (defScope st_law_told) A.f_law_told cdv Ar outer s H E) rfl
    exact rss_cons (rs_set 4 nd (re_tup (ra_cons (re_int) (ra_cons (re_bl) (ra_cons (re_bl) (ra_cons (re_bl) ra_nil)))))) (rss_cons (rs_set 5 nd (re_lst (ra_nil))) (rss_cons (rs_try rfl rfl rfl nd tk (fun W pn ex tk po => rss_one (rs_set 5 nd (re_call (ok_moved_part T) rfl (hr.mono (by decide)) T.m_moved_part T.k_moved_part T.b_moved_part tk (ra_cons (re_var 0) (ra_cons (re_var 1) (ra_cons (re_var 2) (ra_cons (re_var 3) ra_nil))))))) (HdOk.cons (i := 6) (k := 2) rfl rfl ⟨rfl, by decide, Or.inl T.x_NoNode.g⟩ (fun c hc => T.em c hc 2 (by decide)) (fun xc p ob pn hcs hz hf hfs => rss_one (rs_set 4 nd (re_tup (ra_cons (re_int) (ra_cons (re_isE (T.ec _ hcs) hz hf (rc_own T.x_MendError.g) (T.ko _ hcs (0, .ref (cl 0)) (by simp)) T.n_isinstance) (ra_cons (re_isE (T.ec _ hcs) hz hf (rc_ty T.n_ValueError (by decide +kernel)) (T.ko _ hcs (99, .type "ValueError") (by simp)) T.n_isinstance) (ra_cons (re_isEs (T.ec _ hcs) hz hf (rcs_cons (rc_own T.x_NoPlace.g) (rcs_cons (rc_own T.x_TooMany.g) rcs_nil)) (kit_list T.ko [(3, .ref (cl 3)), (1, .ref (cl 1))] (by simp) _ hcs) T.n_isinstance) ra_nil))))))) (HdOk.cons (i := 6) (k := 3) rfl rfl ⟨rfl, by decide, Or.inl T.x_NoPlace.g⟩ (fun c hc => T.em c hc 3 (by decide)) (fun xc p ob pn hcs hz hf hfs => rss_one (rs_set 4 nd (re_tup (ra_cons (re_int) (ra_cons (re_isE (T.ec _ hcs) hz hf (rc_own T.x_MendError.g) (T.ko _ hcs (0, .ref (cl 0)) (by simp)) T.n_isinstance) (ra_cons (re_isE (T.ec _ hcs) hz hf (rc_ty T.n_ValueError (by decide +kernel)) (T.ko _ hcs (99, .type "ValueError") (by simp)) T.n_isinstance) (ra_cons (re_isEs (T.ec _ hcs) hz hf (rcs_cons (rc_own T.x_NoNode.g) (rcs_cons (rc_own T.x_TooMany.g) rcs_nil)) (kit_list T.ko [(2, .ref (cl 2)), (1, .ref (cl 1))] (by simp) _ hcs) T.n_isinstance) ra_nil))))))) (HdOk.cons (i := 6) (k := 1) rfl rfl ⟨rfl, by decide, Or.inl T.x_TooMany.g⟩ (fun c hc => T.em c hc 1 (by decide)) (fun xc p ob pn hcs hz hf hfs => rss_one (rs_set 4 nd (re_tup (ra_cons (re_int) (ra_cons (re_isE (T.ec _ hcs) hz hf (rc_own T.x_MendError.g) (T.ko _ hcs (0, .ref (cl 0)) (by simp)) T.n_isinstance) (ra_cons (re_isE (T.ec _ hcs) hz hf (rc_ty T.n_ValueError (by decide +kernel)) (T.ko _ hcs (99, .type "ValueError") (by simp)) T.n_isinstance) (ra_cons (re_isEs (T.ec _ hcs) hz hf (rcs_cons (rc_own T.x_NoNode.g) (rcs_cons (rc_own T.x_NoPlace.g) rcs_nil)) (kit_list T.ko [(2, .ref (cl 2)), (3, .ref (cl 3))] (by simp) _ hcs) T.n_isinstance) ra_nil))))))) HdOk.nil)))) (rss_cons (rs_if (rt_cmp so_gt (re_ix (u1 hr) (re_var 4) (re_int)) (re_int)) (rss_one (rs_ret (re_var 4))) (rss_nil)) (rss_one (rs_ret (re_var 5))))))
theorem sc_law_alike : FnScope ["found", "due", "row"] ["found", "due"] (defScope st_law_alike) := ⟨rfl, rfl, rfl, by decide +kernel, rfl, by decide +kernel, by decide +kernel⟩
theorem ok_law_alike (T : Txt K mg cl A) : FnOk P w K mg base (L2.CX P w) 1 A.f_law_alike A.d_law_alike ["found", "due"] (spF (kp0 K cl) 2 F_law_alike) :=
  fun_ok T.F_law_alike sc_law_alike rfl rfl fun cdv Ar outer s H E hr => by
    have nd := sc_law_alike.nd
    have tk : Takes (cxOf (L2.CX P w) P w K mg base ["found", "due", "row"] "_law_alike" (defScope st_law_alike) A.f_law_alike cdv Ar outer s H E) (fun c od _ H => E c od H) := takes_of rfl rfl rfl rfl
    have po := passes_of (X := cxOf (L2.CX P w) P w K mg base ["found", "due", "row"] "_law_alike" (defScope st_law_alike) A.f_law_alike cdv Ar outer s H E) rfl
    exact rss_cons (rs_if (rt_val (re_isTy .tuple (re_var 1) T.n_isinstance T.n_tuple (by decide +kernel))) (rss_one (rs_ret (re_cmp (so_eq hr.units) (re_var 0) (re_var 1)))) (rss_nil)) (rss_cons (rs_if (rt_pw (rw_or (rt_not (rt_val (re_isTy .list (re_var 0) T.n_isinstance T.n_list (by decide +kernel)))) (rw_or1 (rt_cmp (so_ne hr.units) (re_len T.n_len (ra_cons (re_var 0) ra_nil)) (re_len T.n_len (ra_cons (re_var 1) ra_nil)))))) (rss_one (rs_ret (re_bl))) (rss_nil)) (rss_cons (rs_for rfl po (ri_lst (re_var 0)) (rg_one 2 nd) (rss_cons (rs_if (rt_pw (rw_or (rt_not (rt_val (re_isTy .tuple (re_var 2) T.n_isinstance T.n_tuple (by decide +kernel)))) (rw_or (rt_cmp (so_ne hr.units) (re_len T.n_len (ra_cons (re_var 2) ra_nil)) (re_int)) (rw_or1 (rt_not (rt_val (re_isTy .str (re_ix (u1 hr) (re_var 2) (re_int)) T.n_isinstance T.n_str (by decide +kernel)))))))) (rss_one (rs_ret (re_bl))) (rss_nil)) (rss_one (rs_if (rt_pw (rw_or (rt_not (rt_val (re_isTy .int (re_ix (u1 hr) (re_var 2) (re_int)) T.n_isinstance T.n_int (by decide +kernel)))) (rw_or1 (rt_val (re_isTy .bool (re_ix (u1 hr) (re_var 2) (re_int)) T.n_isinstance T.n_bool (by decide +kernel)))))) (rss_one (rs_ret (re_bl))) (rss_nil))))) (rss_one (rs_ret (re_cmp (so_eq hr.units) (re_var 0) (re_var 1))))))
theorem sc_law_number : FnScope ["cell", "many"] ["cell", "many"] (defScope st_law_number) := ⟨rfl, rfl, rfl, by decide +kernel, rfl, by decide +kernel, by decide +kernel⟩
theorem ok_law_number (T : Txt K mg cl A) : FnOk P w K mg base (L2.CX P w) 1 A.f_law_number A.d_law_number ["cell", "many"] (spF (kp0 K cl) 2 F_law_number) :=
  fun_ok T.F_law_number sc_law_number rfl rfl fun cdv Ar outer s H E hr => by
    have nd := sc_law_number.nd
    have tk : Takes (cxOf (L2.CX P w) P w K mg base ["cell", "many"] "_law_number" (defScope st_law_number) A.f_law_number cdv Ar outer s H E) (fun c od _ H => E c od H) := takes_of rfl rfl rfl rfl
    have po := passes_of (X := cxOf (L2.CX P w) P w K mg base ["cell", "many"] "_law_number" (defScope st_law_number) A.f_law_number cdv Ar outer s H E) rfl
    exact rss_cons (rs_if (rt_cmp (so_eq hr.units) (re_bin so_mod (re_var 0) (re_int)) (re_int)) (rss_one (rs_ret (re_bin so_add (re_var 1) (re_bin so_mod (re_bin so_div (re_var 0) (re_int)) (re_bin so_pow (re_int) (re_int)))))) (rss_nil)) (rss_cons (rs_if (rt_cmp (so_eq hr.units) (re_bin so_mod (re_var 0) (re_int)) (re_int)) (rss_one (rs_ret (re_bin so_sub (re_bin so_sub (re_int) (re_int)) (re_bin so_mod (re_bin so_div (re_var 0) (re_int)) (re_bin so_pow (re_int) (re_int)))))) (rss_nil)) (rss_one (rs_ret (re_bin so_sub (re_bin so_mod (re_bin so_div (re_var 0) (re_int)) (re_bin so_add (re_var 1) (re_int))) (re_int)))))
theorem sc_law : FnScope ["script", "tree", "node", "elder", "young", "at", "due", "handed", "found", "k"] ["script"] (defScope st_law) := ⟨rfl, rfl, rfl, by decide +kernel, rfl, by decide +kernel, by decide +kernel⟩
theorem ok_law (T : Txt K mg cl A) : FnOk P w K mg base (L2.CX P w) 7 A.f_law A.d_law ["script"] (spF (kp0 K cl) 1 F_law) :=
  fun_ok T.F_law sc_law rfl rfl fun cdv Ar outer s H E hr => by
    have nd := sc_law.nd
    have tk : Takes (cxOf (L2.CX P w) P w K mg base ["script", "tree", "node", "elder", "young", "at", "due", "handed", "found", "k"] "law" (defScope st_law) A.f_law cdv Ar outer s H E) (fun c od _ H => E c od H) := takes_of rfl rfl rfl rfl
    have po := passes_of (X := cxOf (L2.CX P w) P w K mg base ["script", "tree", "node", "elder", "young", "at", "due", "handed", "found", "k"] "law" (defScope st_law) A.f_law cdv Ar outer s H E) rfl
    exact rss_cons (rs_set 1 nd (re_call (ok_law_tree T) rfl (hr.mono (by decide)) T.m_law_tree T.k_law_tree T.b_law_tree tk (ra_cons (re_cut (re_var 0) (rp_none) (rp_some (re_int))) (ra_cons (re_int) ra_nil)))) (rss_cons (rs_set 2 nd (re_call (ok_law_number T) rfl (hr.mono (by decide)) T.m_law_number T.k_law_number T.b_law_number tk (ra_cons (re_bin so_mod (re_bin so_mul (re_call (ok_law_cell_at T) rfl (hr.mono (by decide)) T.m_law_cell_at T.k_law_cell_at T.b_law_cell_at tk (ra_cons (re_var 0) (ra_cons (re_int) ra_nil))) (re_int)) (re_bin so_pow (re_int) (re_int))) (ra_cons (re_len T.n_len (ra_cons (re_var 1) ra_nil)) ra_nil)))) (rss_cons (rs_set 3 nd (re_call (ok_law_number T) rfl (hr.mono (by decide)) T.m_law_number T.k_law_number T.b_law_number tk (ra_cons (re_bin so_mod (re_bin so_mul (re_call (ok_law_cell_at T) rfl (hr.mono (by decide)) T.m_law_cell_at T.k_law_cell_at T.b_law_cell_at tk (ra_cons (re_var 0) (ra_cons (re_int) ra_nil))) (re_int)) (re_bin so_pow (re_int) (re_int))) (ra_cons (re_len T.n_len (ra_cons (re_var 1) ra_nil)) ra_nil)))) (rss_cons (rs_setc 4 (own := [("k", 9)]) rfl nd rfl (ri_rng1 T.n_range (ra_cons (re_len T.n_len (ra_cons (re_var 1) ra_nil)) ra_nil)) (blk_of (by kernel_rfl)) (by decide) (fun _ _ _ _ _ => rg_one 9 nd) (fun _ _ _ _ _ => rts_one (rt_pw (rw_and (rt_cmp so_ge (re_var 3) (re_int)) (rw_and (rt_cmp so_lt (re_var 3) (re_len T.n_len (ra_cons (re_var 1) ra_nil))) (rw_and1 (rt_cmp (so_eq hr.units) (re_ix (u1 hr) (re_ix (u1 hr) (re_var 1) (re_var 9)) (re_int)) (re_bin so_add (re_ix (u1 hr) (re_ix (u1 hr) (re_var 1) (re_var 3)) (re_int)) (re_int)))))))) (fun _ _ _ _ _ => re_var 9)) (rss_cons (rs_set 5 nd (re_call (ok_law_number T) rfl (hr.mono (by decide)) T.m_law_number T.k_law_number T.b_law_number tk (ra_cons (re_bin so_mod (re_bin so_mul (re_call (ok_law_cell_at T) rfl (hr.mono (by decide)) T.m_law_cell_at T.k_law_cell_at T.b_law_cell_at tk (ra_cons (re_var 0) (ra_cons (re_int) ra_nil))) (re_int)) (re_bin so_pow (re_int) (re_int))) (ra_cons (re_bin so_mod (re_len T.n_len (ra_cons (re_var 4) ra_nil)) (re_int)) ra_nil)))) (rss_cons (rs_set 6 nd (re_call (ok_law_due T) rfl (hr.mono (by decide)) T.m_law_due T.k_law_due T.b_law_due tk (ra_cons (re_var 1) (ra_cons (re_var 2) (ra_cons (re_var 3) (ra_cons (re_var 5) ra_nil)))))) (rss_cons (rs_set 7 nd (re_list rfl T.n_list (ra_cons (re_var 1) ra_nil))) (rss_cons (rs_set 8 nd (re_call (ok_law_told T) rfl (hr.mono (by decide)) T.m_law_told T.k_law_told T.b_law_told tk (ra_cons (re_var 7) (ra_cons (re_var 2) (ra_cons (re_var 3) (ra_cons (re_var 5) ra_nil)))))) (rss_cons (rs_if (rt_pw (rw_or (rt_not (rt_val (re_call (ok_law_alike T) rfl (hr.mono (by decide)) T.m_law_alike T.k_law_alike T.b_law_alike tk (ra_cons (re_var 8) (ra_cons (re_var 6) ra_nil))))) (rw_or1 (rt_cmp (so_ne hr.units) (re_var 7) (re_var 1))))) (rss_one (rs_ret (re_bl))) (rss_nil)) (rss_cons (rs_if (rt_val (re_isTy .list (re_var 8) T.n_isinstance T.n_list (by decide +kernel))) (rss_one (rs_expr (re_meth F.plainAttrs_list F.slot_list_append F.type_list_append sm_append ck_list (re_var 8) (ra_cons (re_tup (ra_cons (re_int) (ra_cons (re_str) ra_nil))) ra_nil)))) (rss_nil)) (rss_one (rs_ret (re_call (ok_law_alike T) rfl (hr.mono (by decide)) T.m_law_alike T.k_law_alike T.b_law_alike tk (ra_cons (re_call (ok_law_told T) rfl (hr.mono (by decide)) T.m_law_told T.k_law_told T.b_law_told tk (ra_cons (re_var 7) (ra_cons (re_var 2) (ra_cons (re_var 3) (ra_cons (re_var 5) ra_nil))))) (ra_cons (re_var 6) ra_nil))))))))))))))
end
end K30
set_option Elab.async false
set_option linter.all false
set_option autoImplicit false
set_option maxRecDepth 100000
set_option maxHeartbeats 4000000
namespace K30
open PySem PySem.Spec PyProof.Rows L2 TM
theorem all_mk {P : Program} {w : World} {K : PySem.W.Frag} {h : Heap} {mg : Str → Option Value} {fa : Addr} (X : K.In h) (G : h.Ns mainGlobals mg) (hfa : mg "law" = some (.ref fa))
    {f_check_node : Addr} {od_check_node an_check_node : Option Addr} {sl_check_node : Array (Option Value)} {oc_check_node kV_check_node dc_check_node pm_check_node cd_check_node ct_check_node : Value}
    {f_end_of : Addr} {od_end_of an_end_of : Option Addr} {sl_end_of : Array (Option Value)} {oc_end_of kV_end_of dc_end_of pm_end_of cd_end_of ct_end_of : Value}
    {f_young_of : Addr} {od_young_of an_young_of : Option Addr} {sl_young_of : Array (Option Value)} {oc_young_of kV_young_of dc_young_of pm_young_of cd_young_of ct_young_of : Value}
    {f_part_of : Addr} {od_part_of an_part_of : Option Addr} {sl_part_of : Array (Option Value)} {oc_part_of kV_part_of dc_part_of pm_part_of cd_part_of ct_part_of : Value}
    {f_others_of : Addr} {od_others_of an_others_of : Option Addr} {sl_others_of : Array (Option Value)} {oc_others_of kV_others_of dc_others_of pm_others_of cd_others_of ct_others_of : Value}
    {f_deepest_of : Addr} {od_deepest_of an_deepest_of : Option Addr} {sl_deepest_of : Array (Option Value)} {oc_deepest_of kV_deepest_of dc_deepest_of pm_deepest_of cd_deepest_of ct_deepest_of : Value}
    {f_moved_part : Addr} {od_moved_part an_moved_part : Option Addr} {sl_moved_part : Array (Option Value)} {oc_moved_part kV_moved_part dc_moved_part pm_moved_part cd_moved_part ct_moved_part : Value}
    {f_law_cell_at : Addr} {od_law_cell_at an_law_cell_at : Option Addr} {sl_law_cell_at : Array (Option Value)} {oc_law_cell_at kV_law_cell_at dc_law_cell_at pm_law_cell_at cd_law_cell_at ct_law_cell_at : Value}
    {f_law_word : Addr} {od_law_word an_law_word : Option Addr} {sl_law_word : Array (Option Value)} {oc_law_word kV_law_word dc_law_word pm_law_word cd_law_word ct_law_word : Value}
    {f_law_tree : Addr} {od_law_tree an_law_tree : Option Addr} {sl_law_tree : Array (Option Value)} {oc_law_tree kV_law_tree dc_law_tree pm_law_tree cd_law_tree ct_law_tree : Value}
    {f_law_young : Addr} {od_law_young an_law_young : Option Addr} {sl_law_young : Array (Option Value)} {oc_law_young kV_law_young dc_law_young pm_law_young cd_law_young ct_law_young : Value}
    {f_law_flat : Addr} {od_law_flat an_law_flat : Option Addr} {sl_law_flat : Array (Option Value)} {oc_law_flat kV_law_flat dc_law_flat pm_law_flat cd_law_flat ct_law_flat : Value}
    {f_law_within : Addr} {od_law_within an_law_within : Option Addr} {sl_law_within : Array (Option Value)} {oc_law_within kV_law_within dc_law_within pm_law_within cd_law_within ct_law_within : Value}
    {f_law_due : Addr} {od_law_due an_law_due : Option Addr} {sl_law_due : Array (Option Value)} {oc_law_due kV_law_due dc_law_due pm_law_due cd_law_due ct_law_due : Value}
    {f_law_told : Addr} {od_law_told an_law_told : Option Addr} {sl_law_told : Array (Option Value)} {oc_law_told kV_law_told dc_law_told pm_law_told cd_law_told ct_law_told : Value}
    {f_law_alike : Addr} {od_law_alike an_law_alike : Option Addr} {sl_law_alike : Array (Option Value)} {oc_law_alike kV_law_alike dc_law_alike pm_law_alike cd_law_alike ct_law_alike : Value}
    {f_law_number : Addr} {od_law_number an_law_number : Option Addr} {sl_law_number : Array (Option Value)} {oc_law_number kV_law_number dc_law_number pm_law_number cd_law_number ct_law_number : Value}
    {f_law : Addr} {od_law an_law : Option Addr} {sl_law : Array (Option Value)} {oc_law kV_law dc_law pm_law cd_law ct_law : Value}
    {t_DEEP : Tok}
    {C_MendError C_TooMany C_NoNode C_NoPlace : Addr}
    (a_check_node : PySem.W.nsIn K mainGlobals "check_node" = some (some (.ref f_check_node)))
    (l_check_node : K.lookup f_check_node = some ⟨oc_check_node, od_check_node, .func (PySem.W.fnOf "check_node" "check_node" (defArgs st_check_node) (defBody st_check_node) (defScope st_check_node) .none kV_check_node dc_check_node pm_check_node an_check_node cd_check_node ct_check_node), sl_check_node⟩)
    (q_check_node : PySem.W.codeIn K cd_check_node "check_node" = true)
    (k_check_node : PySem.W.keepIn K (.ref f_check_node) = true)
    (a_end_of : PySem.W.nsIn K mainGlobals "end_of" = some (some (.ref f_end_of)))
    (l_end_of : K.lookup f_end_of = some ⟨oc_end_of, od_end_of, .func (PySem.W.fnOf "end_of" "end_of" (defArgs st_end_of) (defBody st_end_of) (defScope st_end_of) .none kV_end_of dc_end_of pm_end_of an_end_of cd_end_of ct_end_of), sl_end_of⟩)
    (q_end_of : PySem.W.codeIn K cd_end_of "end_of" = true)
    (k_end_of : PySem.W.keepIn K (.ref f_end_of) = true)
    (a_young_of : PySem.W.nsIn K mainGlobals "young_of" = some (some (.ref f_young_of)))
    (l_young_of : K.lookup f_young_of = some ⟨oc_young_of, od_young_of, .func (PySem.W.fnOf "young_of" "young_of" (defArgs st_young_of) (defBody st_young_of) (defScope st_young_of) .none kV_young_of dc_young_of pm_young_of an_young_of cd_young_of ct_young_of), sl_young_of⟩)
    (q_young_of : PySem.W.codeIn K cd_young_of "young_of" = true)
    (k_young_of : PySem.W.keepIn K (.ref f_young_of) = true)
    (a_part_of : PySem.W.nsIn K mainGlobals "part_of" = some (some (.ref f_part_of)))
    (l_part_of : K.lookup f_part_of = some ⟨oc_part_of, od_part_of, .func (PySem.W.fnOf "part_of" "part_of" (defArgs st_part_of) (defBody st_part_of) (defScope st_part_of) .none kV_part_of dc_part_of pm_part_of an_part_of cd_part_of ct_part_of), sl_part_of⟩)
    (q_part_of : PySem.W.codeIn K cd_part_of "part_of" = true)
    (k_part_of : PySem.W.keepIn K (.ref f_part_of) = true)
    (a_others_of : PySem.W.nsIn K mainGlobals "others_of" = some (some (.ref f_others_of)))
    (l_others_of : K.lookup f_others_of = some ⟨oc_others_of, od_others_of, .func (PySem.W.fnOf "others_of" "others_of" (defArgs st_others_of) (defBody st_others_of) (defScope st_others_of) .none kV_others_of dc_others_of pm_others_of an_others_of cd_others_of ct_others_of), sl_others_of⟩)
    (q_others_of : PySem.W.codeIn K cd_others_of "others_of" = true)
    (k_others_of : PySem.W.keepIn K (.ref f_others_of) = true)
    (a_deepest_of : PySem.W.nsIn K mainGlobals "deepest_of" = some (some (.ref f_deepest_of)))
    (l_deepest_of : K.lookup f_deepest_of = some ⟨oc_deepest_of, od_deepest_of, .func (PySem.W.fnOf "deepest_of" "deepest_of" (defArgs st_deepest_of) (defBody st_deepest_of) (defScope st_deepest_of) .none kV_deepest_of dc_deepest_of pm_deepest_of an_deepest_of cd_deepest_of ct_deepest_of), sl_deepest_of⟩)
    (q_deepest_of : PySem.W.codeIn K cd_deepest_of "deepest_of" = true)
    (k_deepest_of : PySem.W.keepIn K (.ref f_deepest_of) = true)
    (a_moved_part : PySem.W.nsIn K mainGlobals "moved_part" = some (some (.ref f_moved_part)))
    (l_moved_part : K.lookup f_moved_part = some ⟨oc_moved_part, od_moved_part, .func (PySem.W.fnOf "moved_part" "moved_part" (defArgs st_moved_part) (defBody st_moved_part) (defScope st_moved_part) .none kV_moved_part dc_moved_part pm_moved_part an_moved_part cd_moved_part ct_moved_part), sl_moved_part⟩)
    (q_moved_part : PySem.W.codeIn K cd_moved_part "moved_part" = true)
    (k_moved_part : PySem.W.keepIn K (.ref f_moved_part) = true)
    (a_law_cell_at : PySem.W.nsIn K mainGlobals "_law_cell_at" = some (some (.ref f_law_cell_at)))
    (l_law_cell_at : K.lookup f_law_cell_at = some ⟨oc_law_cell_at, od_law_cell_at, .func (PySem.W.fnOf "_law_cell_at" "_law_cell_at" (defArgs st_law_cell_at) (defBody st_law_cell_at) (defScope st_law_cell_at) .none kV_law_cell_at dc_law_cell_at pm_law_cell_at an_law_cell_at cd_law_cell_at ct_law_cell_at), sl_law_cell_at⟩)
    (q_law_cell_at : PySem.W.codeIn K cd_law_cell_at "_law_cell_at" = true)
    (k_law_cell_at : PySem.W.keepIn K (.ref f_law_cell_at) = true)
    (a_law_word : PySem.W.nsIn K mainGlobals "_law_word" = some (some (.ref f_law_word)))
    (l_law_word : K.lookup f_law_word = some ⟨oc_law_word, od_law_word, .func (PySem.W.fnOf "_law_word" "_law_word" (defArgs st_law_word) (defBody st_law_word) (defScope st_law_word) .none kV_law_word dc_law_word pm_law_word an_law_word cd_law_word ct_law_word), sl_law_word⟩)
    (q_law_word : PySem.W.codeIn K cd_law_word "_law_word" = true)
    (k_law_word : PySem.W.keepIn K (.ref f_law_word) = true)
    (a_law_tree : PySem.W.nsIn K mainGlobals "_law_tree" = some (some (.ref f_law_tree)))
    (l_law_tree : K.lookup f_law_tree = some ⟨oc_law_tree, od_law_tree, .func (PySem.W.fnOf "_law_tree" "_law_tree" (defArgs st_law_tree) (defBody st_law_tree) (defScope st_law_tree) .none kV_law_tree dc_law_tree pm_law_tree an_law_tree cd_law_tree ct_law_tree), sl_law_tree⟩)
    (q_law_tree : PySem.W.codeIn K cd_law_tree "_law_tree" = true)
    (k_law_tree : PySem.W.keepIn K (.ref f_law_tree) = true)
    (a_law_young : PySem.W.nsIn K mainGlobals "_law_young" = some (some (.ref f_law_young)))
    (l_law_young : K.lookup f_law_young = some ⟨oc_law_young, od_law_young, .func (PySem.W.fnOf "_law_young" "_law_young" (defArgs st_law_young) (defBody st_law_young) (defScope st_law_young) .none kV_law_young dc_law_young pm_law_young an_law_young cd_law_young ct_law_young), sl_law_young⟩)
    (q_law_young : PySem.W.codeIn K cd_law_young "_law_young" = true)
    (k_law_young : PySem.W.keepIn K (.ref f_law_young) = true)
    (a_law_flat : PySem.W.nsIn K mainGlobals "_law_flat" = some (some (.ref f_law_flat)))
    (l_law_flat : K.lookup f_law_flat = some ⟨oc_law_flat, od_law_flat, .func (PySem.W.fnOf "_law_flat" "_law_flat" (defArgs st_law_flat) (defBody st_law_flat) (defScope st_law_flat) .none kV_law_flat dc_law_flat pm_law_flat an_law_flat cd_law_flat ct_law_flat), sl_law_flat⟩)
    (q_law_flat : PySem.W.codeIn K cd_law_flat "_law_flat" = true)
    (k_law_flat : PySem.W.keepIn K (.ref f_law_flat) = true)
    (a_law_within : PySem.W.nsIn K mainGlobals "_law_within" = some (some (.ref f_law_within)))
    (l_law_within : K.lookup f_law_within = some ⟨oc_law_within, od_law_within, .func (PySem.W.fnOf "_law_within" "_law_within" (defArgs st_law_within) (defBody st_law_within) (defScope st_law_within) .none kV_law_within dc_law_within pm_law_within an_law_within cd_law_within ct_law_within), sl_law_within⟩)
    (q_law_within : PySem.W.codeIn K cd_law_within "_law_within" = true)
    (k_law_within : PySem.W.keepIn K (.ref f_law_within) = true)
    (a_law_due : PySem.W.nsIn K mainGlobals "_law_due" = some (some (.ref f_law_due)))
    (l_law_due : K.lookup f_law_due = some ⟨oc_law_due, od_law_due, .func (PySem.W.fnOf "_law_due" "_law_due" (defArgs st_law_due) (defBody st_law_due) (defScope st_law_due) .none kV_law_due dc_law_due pm_law_due an_law_due cd_law_due ct_law_due), sl_law_due⟩)
    (q_law_due : PySem.W.codeIn K cd_law_due "_law_due" = true)
    (k_law_due : PySem.W.keepIn K (.ref f_law_due) = true)
    (a_law_told : PySem.W.nsIn K mainGlobals "_law_told" = some (some (.ref f_law_told)))
    (l_law_told : K.lookup f_law_told = some ⟨oc_law_told, od_law_told, .func (PySem.W.fnOf "_law_told" "_law_told" (defArgs st_law_told) (defBody st_law_told) (defScope st_law_told) .none kV_law_told dc_law_told pm_law_told an_law_told cd_law_told ct_law_told), sl_law_told⟩)
    (q_law_told : PySem.W.codeIn K cd_law_told "_law_told" = true)
    (k_law_told : PySem.W.keepIn K (.ref f_law_told) = true)
    (a_law_alike : PySem.W.nsIn K mainGlobals "_law_alike" = some (some (.ref f_law_alike)))
    (l_law_alike : K.lookup f_law_alike = some ⟨oc_law_alike, od_law_alike, .func (PySem.W.fnOf "_law_alike" "_law_alike" (defArgs st_law_alike) (defBody st_law_alike) (defScope st_law_alike) .none kV_law_alike dc_law_alike pm_law_alike an_law_alike cd_law_alike ct_law_alike), sl_law_alike⟩)
    (q_law_alike : PySem.W.codeIn K cd_law_alike "_law_alike" = true)
    (k_law_alike : PySem.W.keepIn K (.ref f_law_alike) = true)
    (a_law_number : PySem.W.nsIn K mainGlobals "_law_number" = some (some (.ref f_law_number)))
    (l_law_number : K.lookup f_law_number = some ⟨oc_law_number, od_law_number, .func (PySem.W.fnOf "_law_number" "_law_number" (defArgs st_law_number) (defBody st_law_number) (defScope st_law_number) .none kV_law_number dc_law_number pm_law_number an_law_number cd_law_number ct_law_number), sl_law_number⟩)
    (q_law_number : PySem.W.codeIn K cd_law_number "_law_number" = true)
    (k_law_number : PySem.W.keepIn K (.ref f_law_number) = true)
    (a_law : PySem.W.nsIn K mainGlobals "law" = some (some (.ref f_law)))
    (l_law : K.lookup f_law = some ⟨oc_law, od_law, .func (PySem.W.fnOf "law" "law" (defArgs st_law) (defBody st_law) (defScope st_law) .none kV_law dc_law pm_law an_law cd_law ct_law), sl_law⟩)
    (q_law : PySem.W.codeIn K cd_law "law" = true)
    (k_law : PySem.W.keepIn K (.ref f_law) = true)
    (n_ValueError : PySem.W.nsIn K mainGlobals "ValueError" = some none)
    (n_bool : PySem.W.nsIn K mainGlobals "bool" = some none)
    (n_int : PySem.W.nsIn K mainGlobals "int" = some none)
    (n_isinstance : PySem.W.nsIn K mainGlobals "isinstance" = some none)
    (n_len : PySem.W.nsIn K mainGlobals "len" = some none)
    (n_list : PySem.W.nsIn K mainGlobals "list" = some none)
    (n_max : PySem.W.nsIn K mainGlobals "max" = some none)
    (n_min : PySem.W.nsIn K mainGlobals "min" = some none)
    (n_range : PySem.W.nsIn K mainGlobals "range" = some none)
    (n_reversed : PySem.W.nsIn K mainGlobals "reversed" = some none)
    (n_str : PySem.W.nsIn K mainGlobals "str" = some none)
    (n_tuple : PySem.W.nsIn K mainGlobals "tuple" = some none)
    (c_DEEP : PySem.W.nsIn K mainGlobals "DEEP" = some (some (.int 30 t_DEEP)))
    (a_MendError : PySem.W.nsIn K mainGlobals "MendError" = some (some (.ref C_MendError)))
    (xi_MendError : PySem.W.excIn K C_MendError [.type "ValueError", .type "Exception", .type "BaseException", .type "object"] "ValueError.__new__" = true)
    (kp_MendError : PySem.W.keepIn K (.ref C_MendError) = true)
    (bs_MendError : PySem.W.subIn K (.ref C_MendError) (.type "BaseException") = some true)
    (ty_MendError : PySem.W.typeIn K (.ref C_MendError) = some (.type "type"))
    (hd_MendError : PySem.W.hasDictIn K C_MendError = true)
    (a_TooMany : PySem.W.nsIn K mainGlobals "TooMany" = some (some (.ref C_TooMany)))
    (xi_TooMany : PySem.W.excIn K C_TooMany [.type "ValueError", .type "Exception", .type "BaseException", .type "object"] "ValueError.__new__" = true)
    (kp_TooMany : PySem.W.keepIn K (.ref C_TooMany) = true)
    (bs_TooMany : PySem.W.subIn K (.ref C_TooMany) (.type "BaseException") = some true)
    (ty_TooMany : PySem.W.typeIn K (.ref C_TooMany) = some (.type "type"))
    (hd_TooMany : PySem.W.hasDictIn K C_TooMany = true)
    (a_NoNode : PySem.W.nsIn K mainGlobals "NoNode" = some (some (.ref C_NoNode)))
    (xi_NoNode : PySem.W.excIn K C_NoNode [.type "ValueError", .type "Exception", .type "BaseException", .type "object"] "ValueError.__new__" = true)
    (kp_NoNode : PySem.W.keepIn K (.ref C_NoNode) = true)
    (bs_NoNode : PySem.W.subIn K (.ref C_NoNode) (.type "BaseException") = some true)
    (ty_NoNode : PySem.W.typeIn K (.ref C_NoNode) = some (.type "type"))
    (hd_NoNode : PySem.W.hasDictIn K C_NoNode = true)
    (a_NoPlace : PySem.W.nsIn K mainGlobals "NoPlace" = some (some (.ref C_NoPlace)))
    (xi_NoPlace : PySem.W.excIn K C_NoPlace [.type "ValueError", .type "Exception", .type "BaseException", .type "object"] "ValueError.__new__" = true)
    (kp_NoPlace : PySem.W.keepIn K (.ref C_NoPlace) = true)
    (bs_NoPlace : PySem.W.subIn K (.ref C_NoPlace) (.type "BaseException") = some true)
    (ty_NoPlace : PySem.W.typeIn K (.ref C_NoPlace) = some (.type "type"))
    (hd_NoPlace : PySem.W.hasDictIn K C_NoPlace = true)
    (hn : PySem.W.specialIn K (.builtin "object.__class__") "__get__" = some (some (.builtin "getset_descriptor.__get__")))
    (ht : PySem.W.takesIn K (.builtin "object.__class__") = some true)
    (hg_TooMany : PySem.W.findIn K (.ref C_TooMany) "__getattribute__" = some (some (.builtin "BaseException.__getattribute__")))
    (hk_TooMany : PySem.W.findIn K (.ref C_TooMany) "__getattr__" = some none)
    (ha_TooMany : PySem.W.findIn K (.ref C_TooMany) "__class__" = some (some (.builtin "object.__class__")))
    (hm_TooMany : PySem.W.mroIn K C_TooMany (.type "object") = some true)
    (s_TooMany_MendError : PySem.W.subIn K (.ref C_TooMany) (.ref C_MendError) = some true)
    (s_TooMany_TooMany : PySem.W.subIn K (.ref C_TooMany) (.ref C_TooMany) = some true)
    (s_TooMany_NoNode : PySem.W.subIn K (.ref C_TooMany) (.ref C_NoNode) = some false)
    (s_TooMany_NoPlace : PySem.W.subIn K (.ref C_TooMany) (.ref C_NoPlace) = some false)
    (e_TooMany_NoNode : (Value.ref C_TooMany == Value.ref C_NoNode) = false)
    (e_TooMany_NoPlace : (Value.ref C_TooMany == Value.ref C_NoPlace) = false)
    (v_TooMany : PySem.W.subIn K (.ref C_TooMany) (.type "ValueError") = some true)
    (hg_NoNode : PySem.W.findIn K (.ref C_NoNode) "__getattribute__" = some (some (.builtin "BaseException.__getattribute__")))
    (hk_NoNode : PySem.W.findIn K (.ref C_NoNode) "__getattr__" = some none)
    (ha_NoNode : PySem.W.findIn K (.ref C_NoNode) "__class__" = some (some (.builtin "object.__class__")))
    (hm_NoNode : PySem.W.mroIn K C_NoNode (.type "object") = some true)
    (s_NoNode_MendError : PySem.W.subIn K (.ref C_NoNode) (.ref C_MendError) = some true)
    (s_NoNode_TooMany : PySem.W.subIn K (.ref C_NoNode) (.ref C_TooMany) = some false)
    (s_NoNode_NoNode : PySem.W.subIn K (.ref C_NoNode) (.ref C_NoNode) = some true)
    (s_NoNode_NoPlace : PySem.W.subIn K (.ref C_NoNode) (.ref C_NoPlace) = some false)
    (e_NoNode_TooMany : (Value.ref C_NoNode == Value.ref C_TooMany) = false)
    (e_NoNode_NoPlace : (Value.ref C_NoNode == Value.ref C_NoPlace) = false)
    (v_NoNode : PySem.W.subIn K (.ref C_NoNode) (.type "ValueError") = some true)
    (hg_NoPlace : PySem.W.findIn K (.ref C_NoPlace) "__getattribute__" = some (some (.builtin "BaseException.__getattribute__")))
    (hk_NoPlace : PySem.W.findIn K (.ref C_NoPlace) "__getattr__" = some none)
    (ha_NoPlace : PySem.W.findIn K (.ref C_NoPlace) "__class__" = some (some (.builtin "object.__class__")))
    (hm_NoPlace : PySem.W.mroIn K C_NoPlace (.type "object") = some true)
    (s_NoPlace_MendError : PySem.W.subIn K (.ref C_NoPlace) (.ref C_MendError) = some true)
    (s_NoPlace_TooMany : PySem.W.subIn K (.ref C_NoPlace) (.ref C_TooMany) = some false)
    (s_NoPlace_NoNode : PySem.W.subIn K (.ref C_NoPlace) (.ref C_NoNode) = some false)
    (s_NoPlace_NoPlace : PySem.W.subIn K (.ref C_NoPlace) (.ref C_NoPlace) = some true)
    (e_NoPlace_TooMany : (Value.ref C_NoPlace == Value.ref C_TooMany) = false)
    (e_NoPlace_NoNode : (Value.ref C_NoPlace == Value.ref C_NoNode) = false)
    (v_NoPlace : PySem.W.subIn K (.ref C_NoPlace) (.type "ValueError") = some true)
    : ∃ cl : Nat → Addr, ∃ fd : FuncData, (∀ (s : Shared) (u : Value), BindsTo s fd ⟨[u], []⟩ [("script", u)]) ∧ ∀ base : Heap, K.In base → base.Ns mainGlobals mg → FnOk P w K mg base (L2.CX P w) 7 fa fd ["script"] (spF (kp0 K cl) 1 F_law) := by
  have e := hfa.symm.trans (PySem.W.mg_of X G a_law)
  cases e
  let cl : Nat → Addr := fun n => match n with
    | 0 => C_MendError
    | 1 => C_TooMany
    | 2 => C_NoNode
    | 3 => C_NoPlace
    | _ => 0
  let A : Ads := {
    f_check_node := f_check_node,
    d_check_node := PySem.W.fnOf "check_node" "check_node" (defArgs st_check_node) (defBody st_check_node) (defScope st_check_node) .none kV_check_node dc_check_node pm_check_node an_check_node cd_check_node ct_check_node,
    f_end_of := f_end_of,
    d_end_of := PySem.W.fnOf "end_of" "end_of" (defArgs st_end_of) (defBody st_end_of) (defScope st_end_of) .none kV_end_of dc_end_of pm_end_of an_end_of cd_end_of ct_end_of,
    f_young_of := f_young_of,
    d_young_of := PySem.W.fnOf "young_of" "young_of" (defArgs st_young_of) (defBody st_young_of) (defScope st_young_of) .none kV_young_of dc_young_of pm_young_of an_young_of cd_young_of ct_young_of,
    f_part_of := f_part_of,
    d_part_of := PySem.W.fnOf "part_of" "part_of" (defArgs st_part_of) (defBody st_part_of) (defScope st_part_of) .none kV_part_of dc_part_of pm_part_of an_part_of cd_part_of ct_part_of,
    f_others_of := f_others_of,
    d_others_of := PySem.W.fnOf "others_of" "others_of" (defArgs st_others_of) (defBody st_others_of) (defScope st_others_of) .none kV_others_of dc_others_of pm_others_of an_others_of cd_others_of ct_others_of,
    f_deepest_of := f_deepest_of,
    d_deepest_of := PySem.W.fnOf "deepest_of" "deepest_of" (defArgs st_deepest_of) (defBody st_deepest_of) (defScope st_deepest_of) .none kV_deepest_of dc_deepest_of pm_deepest_of an_deepest_of cd_deepest_of ct_deepest_of,
    f_moved_part := f_moved_part,
    d_moved_part := PySem.W.fnOf "moved_part" "moved_part" (defArgs st_moved_part) (defBody st_moved_part) (defScope st_moved_part) .none kV_moved_part dc_moved_part pm_moved_part an_moved_part cd_moved_part ct_moved_part,
    f_law_cell_at := f_law_cell_at,
    d_law_cell_at := PySem.W.fnOf "_law_cell_at" "_law_cell_at" (defArgs st_law_cell_at) (defBody st_law_cell_at) (defScope st_law_cell_at) .none kV_law_cell_at dc_law_cell_at pm_law_cell_at an_law_cell_at cd_law_cell_at ct_law_cell_at,
    f_law_word := f_law_word,
    d_law_word := PySem.W.fnOf "_law_word" "_law_word" (defArgs st_law_word) (defBody st_law_word) (defScope st_law_word) .none kV_law_word dc_law_word pm_law_word an_law_word cd_law_word ct_law_word,
    f_law_tree := f_law_tree,
    d_law_tree := PySem.W.fnOf "_law_tree" "_law_tree" (defArgs st_law_tree) (defBody st_law_tree) (defScope st_law_tree) .none kV_law_tree dc_law_tree pm_law_tree an_law_tree cd_law_tree ct_law_tree,
    f_law_young := f_law_young,
    d_law_young := PySem.W.fnOf "_law_young" "_law_young" (defArgs st_law_young) (defBody st_law_young) (defScope st_law_young) .none kV_law_young dc_law_young pm_law_young an_law_young cd_law_young ct_law_young,
    f_law_flat := f_law_flat,
    d_law_flat := PySem.W.fnOf "_law_flat" "_law_flat" (defArgs st_law_flat) (defBody st_law_flat) (defScope st_law_flat) .none kV_law_flat dc_law_flat pm_law_flat an_law_flat cd_law_flat ct_law_flat,
    f_law_within := f_law_within,
    d_law_within := PySem.W.fnOf "_law_within" "_law_within" (defArgs st_law_within) (defBody st_law_within) (defScope st_law_within) .none kV_law_within dc_law_within pm_law_within an_law_within cd_law_within ct_law_within,
    f_law_due := f_law_due,
    d_law_due := PySem.W.fnOf "_law_due" "_law_due" (defArgs st_law_due) (defBody st_law_due) (defScope st_law_due) .none kV_law_due dc_law_due pm_law_due an_law_due cd_law_due ct_law_due,
    f_law_told := f_law_told,
    d_law_told := PySem.W.fnOf "_law_told" "_law_told" (defArgs st_law_told) (defBody st_law_told) (defScope st_law_told) .none kV_law_told dc_law_told pm_law_told an_law_told cd_law_told ct_law_told,
    f_law_alike := f_law_alike,
    d_law_alike := PySem.W.fnOf "_law_alike" "_law_alike" (defArgs st_law_alike) (defBody st_law_alike) (defScope st_law_alike) .none kV_law_alike dc_law_alike pm_law_alike an_law_alike cd_law_alike ct_law_alike,
    f_law_number := f_law_number,
    d_law_number := PySem.W.fnOf "_law_number" "_law_number" (defArgs st_law_number) (defBody st_law_number) (defScope st_law_number) .none kV_law_number dc_law_number pm_law_number an_law_number cd_law_number ct_law_number,
    f_law := fa,
    d_law := PySem.W.fnOf "law" "law" (defArgs st_law) (defBody st_law) (defScope st_law) .none kV_law dc_law pm_law an_law cd_law ct_law }
  have T : Txt K mg cl A := {
    F_check_node := fun_mk (st := st_check_node) l_check_node q_check_node k_check_node,
    m_check_node := PySem.W.mg_of X G a_check_node,
    k_check_node := k_check_node,
    b_check_node := (fun_mk (st := st_check_node) l_check_node q_check_node k_check_node).binds (ps := ["tree", "node"]) fun _ _ _ _ _ _ us hl => match us, hl with | [_, _], _ => rfl,
    F_end_of := fun_mk (st := st_end_of) l_end_of q_end_of k_end_of,
    m_end_of := PySem.W.mg_of X G a_end_of,
    k_end_of := k_end_of,
    b_end_of := (fun_mk (st := st_end_of) l_end_of q_end_of k_end_of).binds (ps := ["tree", "node"]) fun _ _ _ _ _ _ us hl => match us, hl with | [_, _], _ => rfl,
    F_young_of := fun_mk (st := st_young_of) l_young_of q_young_of k_young_of,
    m_young_of := PySem.W.mg_of X G a_young_of,
    k_young_of := k_young_of,
    b_young_of := (fun_mk (st := st_young_of) l_young_of q_young_of k_young_of).binds (ps := ["tree", "node"]) fun _ _ _ _ _ _ us hl => match us, hl with | [_, _], _ => rfl,
    F_part_of := fun_mk (st := st_part_of) l_part_of q_part_of k_part_of,
    m_part_of := PySem.W.mg_of X G a_part_of,
    k_part_of := k_part_of,
    b_part_of := (fun_mk (st := st_part_of) l_part_of q_part_of k_part_of).binds (ps := ["tree", "node"]) fun _ _ _ _ _ _ us hl => match us, hl with | [_, _], _ => rfl,
    F_others_of := fun_mk (st := st_others_of) l_others_of q_others_of k_others_of,
    m_others_of := PySem.W.mg_of X G a_others_of,
    k_others_of := k_others_of,
    b_others_of := (fun_mk (st := st_others_of) l_others_of q_others_of k_others_of).binds (ps := ["tree", "elder", "node"]) fun _ _ _ _ _ _ us hl => match us, hl with | [_, _, _], _ => rfl,
    F_deepest_of := fun_mk (st := st_deepest_of) l_deepest_of q_deepest_of k_deepest_of,
    m_deepest_of := PySem.W.mg_of X G a_deepest_of,
    k_deepest_of := k_deepest_of,
    b_deepest_of := (fun_mk (st := st_deepest_of) l_deepest_of q_deepest_of k_deepest_of).binds (ps := ["part"]) fun _ _ _ _ _ _ us hl => match us, hl with | [_], _ => rfl,
    F_moved_part := fun_mk (st := st_moved_part) l_moved_part q_moved_part k_moved_part,
    m_moved_part := PySem.W.mg_of X G a_moved_part,
    k_moved_part := k_moved_part,
    b_moved_part := (fun_mk (st := st_moved_part) l_moved_part q_moved_part k_moved_part).binds (ps := ["tree", "node", "elder", "at"]) fun _ _ _ _ _ _ us hl => match us, hl with | [_, _, _, _], _ => rfl,
    F_law_cell_at := fun_mk (st := st_law_cell_at) l_law_cell_at q_law_cell_at k_law_cell_at,
    m_law_cell_at := PySem.W.mg_of X G a_law_cell_at,
    k_law_cell_at := k_law_cell_at,
    b_law_cell_at := (fun_mk (st := st_law_cell_at) l_law_cell_at q_law_cell_at k_law_cell_at).binds (ps := ["script", "k"]) fun _ _ _ _ _ _ us hl => match us, hl with | [_, _], _ => rfl,
    F_law_word := fun_mk (st := st_law_word) l_law_word q_law_word k_law_word,
    m_law_word := PySem.W.mg_of X G a_law_word,
    k_law_word := k_law_word,
    b_law_word := (fun_mk (st := st_law_word) l_law_word q_law_word k_law_word).binds (ps := ["number"]) fun _ _ _ _ _ _ us hl => match us, hl with | [_], _ => rfl,
    F_law_tree := fun_mk (st := st_law_tree) l_law_tree q_law_tree k_law_tree,
    m_law_tree := PySem.W.mg_of X G a_law_tree,
    k_law_tree := k_law_tree,
    b_law_tree := (fun_mk (st := st_law_tree) l_law_tree q_law_tree k_law_tree).binds (ps := ["cells", "most"]) fun _ _ _ _ _ _ us hl => match us, hl with | [_, _], _ => rfl,
    F_law_young := fun_mk (st := st_law_young) l_law_young q_law_young k_law_young,
    m_law_young := PySem.W.mg_of X G a_law_young,
    k_law_young := k_law_young,
    b_law_young := (fun_mk (st := st_law_young) l_law_young q_law_young k_law_young).binds (ps := ["tree"]) fun _ _ _ _ _ _ us hl => match us, hl with | [_], _ => rfl,
    F_law_flat := fun_mk (st := st_law_flat) l_law_flat q_law_flat k_law_flat,
    m_law_flat := PySem.W.mg_of X G a_law_flat,
    k_law_flat := k_law_flat,
    b_law_flat := (fun_mk (st := st_law_flat) l_law_flat q_law_flat k_law_flat).binds (ps := ["tree", "young"]) fun _ _ _ _ _ _ us hl => match us, hl with | [_, _], _ => rfl,
    F_law_within := fun_mk (st := st_law_within) l_law_within q_law_within k_law_within,
    m_law_within := PySem.W.mg_of X G a_law_within,
    k_law_within := k_law_within,
    b_law_within := (fun_mk (st := st_law_within) l_law_within q_law_within k_law_within).binds (ps := ["young", "node", "other"]) fun _ _ _ _ _ _ us hl => match us, hl with | [_, _, _], _ => rfl,
    F_law_due := fun_mk (st := st_law_due) l_law_due q_law_due k_law_due,
    m_law_due := PySem.W.mg_of X G a_law_due,
    k_law_due := k_law_due,
    b_law_due := (fun_mk (st := st_law_due) l_law_due q_law_due k_law_due).binds (ps := ["tree", "node", "elder", "at"]) fun _ _ _ _ _ _ us hl => match us, hl with | [_, _, _, _], _ => rfl,
    F_law_told := fun_mk (st := st_law_told) l_law_told q_law_told k_law_told,
    m_law_told := PySem.W.mg_of X G a_law_told,
    k_law_told := k_law_told,
    b_law_told := (fun_mk (st := st_law_told) l_law_told q_law_told k_law_told).binds (ps := ["tree", "node", "elder", "at"]) fun _ _ _ _ _ _ us hl => match us, hl with | [_, _, _, _], _ => rfl,
    F_law_alike := fun_mk (st := st_law_alike) l_law_alike q_law_alike k_law_alike,
    m_law_alike := PySem.W.mg_of X G a_law_alike,
    k_law_alike := k_law_alike,
    b_law_alike := (fun_mk (st := st_law_alike) l_law_alike q_law_alike k_law_alike).binds (ps := ["found", "due"]) fun _ _ _ _ _ _ us hl => match us, hl with | [_, _], _ => rfl,
    F_law_number := fun_mk (st := st_law_number) l_law_number q_law_number k_law_number,
    m_law_number := PySem.W.mg_of X G a_law_number,
    k_law_number := k_law_number,
    b_law_number := (fun_mk (st := st_law_number) l_law_number q_law_number k_law_number).binds (ps := ["cell", "many"]) fun _ _ _ _ _ _ us hl => match us, hl with | [_, _], _ => rfl,
    F_law := fun_mk (st := st_law) l_law q_law k_law,
    m_law := PySem.W.mg_of X G a_law,
    k_law := k_law,
    b_law := (fun_mk (st := st_law) l_law q_law k_law).binds (ps := ["script"]) fun _ _ _ _ _ _ us hl => match us, hl with | [_], _ => rfl,
    n_ValueError := PySem.W.mg_none_of X G n_ValueError,
    n_bool := PySem.W.mg_none_of X G n_bool,
    n_int := PySem.W.mg_none_of X G n_int,
    n_isinstance := PySem.W.mg_none_of X G n_isinstance,
    n_len := PySem.W.mg_none_of X G n_len,
    n_list := PySem.W.mg_none_of X G n_list,
    n_max := PySem.W.mg_none_of X G n_max,
    n_min := PySem.W.mg_none_of X G n_min,
    n_range := PySem.W.mg_none_of X G n_range,
    n_reversed := PySem.W.mg_none_of X G n_reversed,
    n_str := PySem.W.mg_none_of X G n_str,
    n_tuple := PySem.W.mg_none_of X G n_tuple,
    c_DEEP := ⟨_, PySem.W.mg_of X G c_DEEP⟩,
    x_MendError := ⟨PySem.W.mg_of X G a_MendError, xi_MendError, kp_MendError, bs_MendError, ty_MendError⟩,
    x_TooMany := ⟨PySem.W.mg_of X G a_TooMany, xi_TooMany, kp_TooMany, bs_TooMany, ty_TooMany⟩,
    x_NoNode := ⟨PySem.W.mg_of X G a_NoNode, xi_NoNode, kp_NoNode, bs_NoNode, ty_NoNode⟩,
    x_NoPlace := ⟨PySem.W.mg_of X G a_NoPlace, xi_NoPlace, kp_NoPlace, bs_NoPlace, ty_NoPlace⟩,
    ec := fun c hc => by
      simp only [CS, List.mem_cons, List.not_mem_nil, or_false] at hc
      rcases hc with rfl | rfl | rfl
      · exact ⟨hg_TooMany, hk_TooMany, bs_TooMany, hd_TooMany, ha_TooMany, hn, ht, hm_TooMany⟩
      · exact ⟨hg_NoNode, hk_NoNode, bs_NoNode, hd_NoNode, ha_NoNode, hn, ht, hm_NoNode⟩
      · exact ⟨hg_NoPlace, hk_NoPlace, bs_NoPlace, hd_NoPlace, ha_NoPlace, hn, ht, hm_NoPlace⟩,
    em := fun c hc => by
      simp only [CS, List.mem_cons, List.not_mem_nil, or_false] at hc
      rcases hc with rfl | rfl | rfl
      · intro k hk
        simp only [KU, List.mem_cons, List.not_mem_nil, or_false] at hk
        rcases hk with rfl | rfl | rfl
        · exact PySem.W.exm_ref bs_TooMany hd_TooMany ty_TooMany s_TooMany_TooMany
        · exact PySem.W.exm_ref bs_NoNode hd_NoNode ty_NoNode s_TooMany_NoNode
        · exact PySem.W.exm_ref bs_NoPlace hd_NoPlace ty_NoPlace s_TooMany_NoPlace
      · intro k hk
        simp only [KU, List.mem_cons, List.not_mem_nil, or_false] at hk
        rcases hk with rfl | rfl | rfl
        · exact PySem.W.exm_ref bs_TooMany hd_TooMany ty_TooMany s_NoNode_TooMany
        · exact PySem.W.exm_ref bs_NoNode hd_NoNode ty_NoNode s_NoNode_NoNode
        · exact PySem.W.exm_ref bs_NoPlace hd_NoPlace ty_NoPlace s_NoNode_NoPlace
      · intro k hk
        simp only [KU, List.mem_cons, List.not_mem_nil, or_false] at hk
        rcases hk with rfl | rfl | rfl
        · exact PySem.W.exm_ref bs_TooMany hd_TooMany ty_TooMany s_NoPlace_TooMany
        · exact PySem.W.exm_ref bs_NoNode hd_NoNode ty_NoNode s_NoPlace_NoNode
        · exact PySem.W.exm_ref bs_NoPlace hd_NoPlace ty_NoPlace s_NoPlace_NoPlace,
    ko := fun c hc => by
      simp only [CS, List.mem_cons, List.not_mem_nil, or_false] at hc
      rcases hc with rfl | rfl | rfl
      · intro k hk
        simp only [KU, List.mem_cons, List.not_mem_nil, or_false] at hk
        rcases hk with rfl | rfl | rfl | rfl | rfl
        · exact kone_up hd_MendError ty_MendError s_TooMany_MendError
        · exact kone_up hd_TooMany ty_TooMany s_TooMany_TooMany
        · exact kone_no hd_NoNode ty_NoNode s_TooMany_NoNode e_TooMany_NoNode
        · exact kone_no hd_NoPlace ty_NoPlace s_TooMany_NoPlace e_TooMany_NoPlace
        · exact kone_ty rfl v_TooMany
      · intro k hk
        simp only [KU, List.mem_cons, List.not_mem_nil, or_false] at hk
        rcases hk with rfl | rfl | rfl | rfl | rfl
        · exact kone_up hd_MendError ty_MendError s_NoNode_MendError
        · exact kone_no hd_TooMany ty_TooMany s_NoNode_TooMany e_NoNode_TooMany
        · exact kone_up hd_NoNode ty_NoNode s_NoNode_NoNode
        · exact kone_no hd_NoPlace ty_NoPlace s_NoNode_NoPlace e_NoNode_NoPlace
        · exact kone_ty rfl v_NoNode
      · intro k hk
        simp only [KU, List.mem_cons, List.not_mem_nil, or_false] at hk
        rcases hk with rfl | rfl | rfl | rfl | rfl
        · exact kone_up hd_MendError ty_MendError s_NoPlace_MendError
        · exact kone_no hd_TooMany ty_TooMany s_NoPlace_TooMany e_NoPlace_TooMany
        · exact kone_no hd_NoNode ty_NoNode s_NoPlace_NoNode e_NoPlace_NoNode
        · exact kone_up hd_NoPlace ty_NoPlace s_NoPlace_NoPlace
        · exact kone_ty rfl v_NoPlace }
  exact ⟨cl, _, fun s u => .of_eq rfl, fun base _ _ => ok_law T⟩
end K30
open PySem PySem.W PyProof.Rows
theorem PySem.Challenge.cw_treemend_k30_a_part_moved_holds : PySem.Challenge.rw_treemend_k30_a_part_moved.Holds := by
  w_on; o_law; k_head; (case hw => w_witness2)
  k_fill
  refine TM.walk_tm (l := PySem.Challenge.rw_treemend_k30_a_part_moved) (k := 7) (f := K30.F_law) rfl rfl ⟨rfl, by decide, by decide⟩ (fun w h Y => PySem.W.kIn_of Y) ?nl ?F K30.law_true
  case nl => exact fun w => TM.nolist_of (by kernel_rfl)
  case F =>
    intro w mg fa h KX G hmg
    refine' K30.all_mk KX G hmg ?a_check_node ?l_check_node ?q_check_node ?k_check_node ?a_end_of ?l_end_of ?q_end_of ?k_end_of ?a_young_of ?l_young_of ?q_young_of ?k_young_of ?a_part_of ?l_part_of ?q_part_of ?k_part_of ?a_others_of ?l_others_of ?q_others_of ?k_others_of ?a_deepest_of ?l_deepest_of ?q_deepest_of ?k_deepest_of ?a_moved_part ?l_moved_part ?q_moved_part ?k_moved_part ?a_law_cell_at ?l_law_cell_at ?q_law_cell_at ?k_law_cell_at ?a_law_word ?l_law_word ?q_law_word ?k_law_word ?a_law_tree ?l_law_tree ?q_law_tree ?k_law_tree ?a_law_young ?l_law_young ?q_law_young ?k_law_young ?a_law_flat ?l_law_flat ?q_law_flat ?k_law_flat ?a_law_within ?l_law_within ?q_law_within ?k_law_within ?a_law_due ?l_law_due ?q_law_due ?k_law_due ?a_law_told ?l_law_told ?q_law_told ?k_law_told ?a_law_alike ?l_law_alike ?q_law_alike ?k_law_alike ?a_law_number ?l_law_number ?q_law_number ?k_law_number ?a_law ?l_law ?q_law ?k_law ?n_ValueError ?n_bool ?n_int ?n_isinstance ?n_len ?n_list ?n_max ?n_min ?n_range ?n_reversed ?n_str ?n_tuple ?c_DEEP ?a_MendError ?xi_MendError ?kp_MendError ?bs_MendError ?ty_MendError ?hd_MendError ?a_TooMany ?xi_TooMany ?kp_TooMany ?bs_TooMany ?ty_TooMany ?hd_TooMany ?a_NoNode ?xi_NoNode ?kp_NoNode ?bs_NoNode ?ty_NoNode ?hd_NoNode ?a_NoPlace ?xi_NoPlace ?kp_NoPlace ?bs_NoPlace ?ty_NoPlace ?hd_NoPlace ?hn ?ht ?hg_TooMany ?hk_TooMany ?ha_TooMany ?hm_TooMany ?s_TooMany_MendError ?s_TooMany_TooMany ?s_TooMany_NoNode ?s_TooMany_NoPlace ?e_TooMany_NoNode ?e_TooMany_NoPlace ?v_TooMany ?hg_NoNode ?hk_NoNode ?ha_NoNode ?hm_NoNode ?s_NoNode_MendError ?s_NoNode_TooMany ?s_NoNode_NoNode ?s_NoNode_NoPlace ?e_NoNode_TooMany ?e_NoNode_NoPlace ?v_NoNode ?hg_NoPlace ?hk_NoPlace ?ha_NoPlace ?hm_NoPlace ?s_NoPlace_MendError ?s_NoPlace_TooMany ?s_NoPlace_NoNode ?s_NoPlace_NoPlace ?e_NoPlace_TooMany ?e_NoPlace_NoNode ?v_NoPlace
    (case a_check_node => k_is)
    (case l_check_node => k_is)
    (case q_check_node => k_is)
    (case k_check_node => k_is)
    (case a_end_of => k_is)
    (case l_end_of => k_is)
    (case q_end_of => k_is)
    (case k_end_of => k_is)
    (case a_young_of => k_is)
    (case l_young_of => k_is)
    (case q_young_of => k_is)
    (case k_young_of => k_is)
    (case a_part_of => k_is)
    (case l_part_of => k_is)
    (case q_part_of => k_is)
    (case k_part_of => k_is)
    (case a_others_of => k_is)
    (case l_others_of => k_is)
    (case q_others_of => k_is)
    (case k_others_of => k_is)
    (case a_deepest_of => k_is)
    (case l_deepest_of => k_is)
    (case q_deepest_of => k_is)
    (case k_deepest_of => k_is)
    (case a_moved_part => k_is)
    (case l_moved_part => k_is)
    (case q_moved_part => k_is)
    (case k_moved_part => k_is)
    (case a_law_cell_at => k_is)
    (case l_law_cell_at => k_is)
    (case q_law_cell_at => k_is)
    (case k_law_cell_at => k_is)
    (case a_law_word => k_is)
    (case l_law_word => k_is)
    (case q_law_word => k_is)
    (case k_law_word => k_is)
    (case a_law_tree => k_is)
    (case l_law_tree => k_is)
    (case q_law_tree => k_is)
    (case k_law_tree => k_is)
    (case a_law_young => k_is)
    (case l_law_young => k_is)
    (case q_law_young => k_is)
    (case k_law_young => k_is)
    (case a_law_flat => k_is)
    (case l_law_flat => k_is)
    (case q_law_flat => k_is)
    (case k_law_flat => k_is)
    (case a_law_within => k_is)
    (case l_law_within => k_is)
    (case q_law_within => k_is)
    (case k_law_within => k_is)
    (case a_law_due => k_is)
    (case l_law_due => k_is)
    (case q_law_due => k_is)
    (case k_law_due => k_is)
    (case a_law_told => k_is)
    (case l_law_told => k_is)
    (case q_law_told => k_is)
    (case k_law_told => k_is)
    (case a_law_alike => k_is)
    (case l_law_alike => k_is)
    (case q_law_alike => k_is)
    (case k_law_alike => k_is)
    (case a_law_number => k_is)
    (case l_law_number => k_is)
    (case q_law_number => k_is)
    (case k_law_number => k_is)
    (case a_law => k_is)
    (case l_law => k_is)
    (case q_law => k_is)
    (case k_law => k_is)
    (case n_ValueError => k_is)
    (case n_bool => k_is)
    (case n_int => k_is)
    (case n_isinstance => k_is)
    (case n_len => k_is)
    (case n_list => k_is)
    (case n_max => k_is)
    (case n_min => k_is)
    (case n_range => k_is)
    (case n_reversed => k_is)
    (case n_str => k_is)
    (case n_tuple => k_is)
    (case c_DEEP => k_is)
    (case a_MendError => k_is)
    (case xi_MendError => k_exc)
    (case kp_MendError => k_is)
    (case bs_MendError => k_is)
    (case ty_MendError => k_is)
    (case hd_MendError => k_is)
    (case a_TooMany => k_is)
    (case xi_TooMany => k_exc)
    (case kp_TooMany => k_is)
    (case bs_TooMany => k_is)
    (case ty_TooMany => k_is)
    (case hd_TooMany => k_is)
    (case a_NoNode => k_is)
    (case xi_NoNode => k_exc)
    (case kp_NoNode => k_is)
    (case bs_NoNode => k_is)
    (case ty_NoNode => k_is)
    (case hd_NoNode => k_is)
    (case a_NoPlace => k_is)
    (case xi_NoPlace => k_exc)
    (case kp_NoPlace => k_is)
    (case bs_NoPlace => k_is)
    (case ty_NoPlace => k_is)
    (case hd_NoPlace => k_is)
    (case hn => k_is)
    (case ht => k_is)
    (case hg_TooMany => k_is)
    (case hk_TooMany => k_is)
    (case ha_TooMany => k_is)
    (case hm_TooMany => k_is)
    (case s_TooMany_MendError => k_is)
    (case s_TooMany_TooMany => k_is)
    (case s_TooMany_NoNode => k_is)
    (case s_TooMany_NoPlace => k_is)
    (case e_TooMany_NoNode => rfl)
    (case e_TooMany_NoPlace => rfl)
    (case v_TooMany => k_is)
    (case hg_NoNode => k_is)
    (case hk_NoNode => k_is)
    (case ha_NoNode => k_is)
    (case hm_NoNode => k_is)
    (case s_NoNode_MendError => k_is)
    (case s_NoNode_TooMany => k_is)
    (case s_NoNode_NoNode => k_is)
    (case s_NoNode_NoPlace => k_is)
    (case e_NoNode_TooMany => rfl)
    (case e_NoNode_NoPlace => rfl)
    (case v_NoNode => k_is)
    (case hg_NoPlace => k_is)
    (case hk_NoPlace => k_is)
    (case ha_NoPlace => k_is)
    (case hm_NoPlace => k_is)
    (case s_NoPlace_MendError => k_is)
    (case s_NoPlace_TooMany => k_is)
    (case s_NoPlace_NoNode => k_is)
    (case s_NoPlace_NoPlace => k_is)
    (case e_NoPlace_TooMany => rfl)
    (case e_NoPlace_NoNode => rfl)
    (case v_NoPlace => k_is)
