import PyProof.Rows.All
import Wide.All
import OpenK.AllK
import Wide.FinOn
import HandS.ForMost
import HandS.Exc
import HandS.IsInst
import HandS.Wide
import HandS.WideBits
import HandS.Defaults
import HandS.Deep
import HandS.SortInts
import HandS.ToBytes
import HandS.Base
import HandS.Call
import HandS.Dict
import HandS.Keys
import KE.KeyNested
import KE.KDictCopyH
import KE.KDictSum
import HandS.TryOnly
import KE.GoesMore
import KE.GoesEnum
import KE.GoesZip
import HandS.Iter
import HandS.Bytes
import HandS.Text
import KE.KIndexOf
import KE.SortData
import HandS.Style
import HandS.TupAny
import HandS.More
import PyProof.Transfer
import HandS.DictComp
import HandS.CallRecv
import HandS.HeadEnd
import HandS.HeadHook2
import HandS.EndBits
import HandS.Head0
import HandS.Head1
import HandS.Head2
import KE.KStateDown
import PySem.Challenge.RW_seabridge_k08_whole_bearings
set_option Elab.async false
set_option linter.all false
set_option maxRecDepth 100000
set_option maxHeartbeats 0
/-! A layer of plain values over HandS (SB), the text of the program and the law compiled to it, the law in plain Lean. -/
/-! SB, part 1: plain values, the own heap, the combinators. No program in sight. -/
namespace SB
open PySem PySem.Spec PyProof.Rows L2

/-- a plain value: tuples, lists that no one changes any more, instances that no one changes any more, dicts likewise; ref: an object of the own heap -/
inductive W where
  | non | bl (b : Bool) | int (i : Int) | str (x : Str) | byt (b : Array UInt8)
  | tup (xs : List W) | fl (xs : List W) | obj (C : Str) (ks : List Str) (vs : List W) | fd (ks vs : List W)
  | ref (a : Nat) | scr (ns : List Int)
  deriving Inhabited
/-- an object that may change -/
inductive MO where
  | lst (xs : List W) | dic (kvs : List (W × W)) | lkd (kvs : List (W × W)) | dcN (kvs : List (W × W)) | lkN (kvs : List (W × W)) | ins (C : Str) (ks : List Str) (vs : List W)
abbrev Hm := List (Option MO)
inductive R (α : Type) where
  | ok (a : α) (S : Hm) | exc (C : Str) (v : W) (S : Hm) | stuck
def R.bind {α β : Type} (r : R α) (f : α → Hm → R β) : R β := match r with
  | .ok a S => f a S
  | .exc C v S => .exc C v S
  | .stuck => .stuck
@[simp] theorem R.bind_ok {α β : Type} (a : α) (S : Hm) (f : α → Hm → R β) : (R.ok a S).bind f = f a S := (rfl)
@[simp] theorem R.bind_stuck {α β : Type} (f : α → Hm → R β) : (R.stuck : R α).bind f = .stuck := (rfl)
@[simp] theorem R.bind_exc {α β : Type} (C : Str) (v : W) (S : Hm) (f : α → Hm → R β) : (R.exc C v S : R α).bind f = .exc C v S := (rfl)
theorem R.of_bind {α β : Type} {r : R α} {f : α → Hm → R β} {b : β} {S' : Hm} (h : r.bind f = .ok b S') : ∃ a S, r = .ok a S ∧ f a S = .ok b S' := by
  cases r with
  | ok a S => exact ⟨a, S, rfl, h⟩
  | exc C v S => cases h
  | stuck => cases h
/-- a slot: a value, or an object that this name alone holds -/
inductive Sv where
  | val (w : W) | own (o : MO)
abbrev Sl := List (Option Sv)
inductive Fl where
  | nx (σ : Sl) | bk (σ : Sl) | ct (σ : Sl) | rt (w : W)
/-- what is walked: things that stand, or things looked up at each turn (none: lost; some none: the end) -/
inductive Itr' where
  | seq (xs : List W) | dyn (at_ : Hm → Nat → Option (Option W))
abbrev E := Sl → Hm → R W
abbrev L := Sl → Hm → R (List W)
abbrev T := Sl → Hm → R Bool
abbrev As := Sl → Hm → R (List W)
abbrev I := Sl → Hm → R Itr'
abbrev St' := Sl → Hm → R Fl
abbrev Tg := W → Sl → Hm → R Sl
abbrev Fn := List W → Hm → R W

/-! ### reading -/
def heapAt (S : Hm) (a : Nat) : Option MO := match S[a]? with
  | some (some o) => some o
  | _ => none
/-- a list's items -/
def lstOf (S : Hm) : W → Option (List W)
  | .fl xs => some xs
  | .ref a => match heapAt S a with
    | some (.lst xs) => some xs
    | _ => none
  | _ => none
def seqOf (S : Hm) : W → Option (List W)
  | .tup xs => some xs
  | .fl xs => some xs
  | .ref a => match heapAt S a with
    | some (.lst xs) => some xs
    | _ => none
  | _ => none
def fldOf (S : Hm) (f : Str) : W → Option W
  | .obj _ ks vs => (ks.zip vs).lookup f
  | .ref a => match heapAt S a with
    | some (.ins _ ks vs) => (ks.zip vs).lookup f
    | _ => none
  | _ => none
def clsOf (S : Hm) : W → Option Str
  | .obj C _ _ => some C
  | .ref a => match heapAt S a with
    | some (.ins C _ _) => some C
    | _ => none
  | _ => none
def opt {α : Type} (o : Option α) (S : Hm) : R α := match o with
  | some a => .ok a S
  | none => .stuck
@[simp] theorem opt_some {α : Type} (a : α) (S : Hm) : opt (some a) S = .ok a S := (rfl)
@[simp] theorem opt_none {α : Type} (S : Hm) : opt (none : Option α) S = .stuck := (rfl)
theorem opt_ok {α : Type} {o : Option α} {S S' : Hm} {a : α} (h : opt o S = .ok a S') : o = some a ∧ S' = S := by
  cases o with
  | none => cases h
  | some b => cases h; exact ⟨rfl, rfl⟩
mutual
def toD : W → Option PyData
  | .non => some .none
  | .bl b => some (.bool b)
  | .int i => some (.int i)
  | .str x => some (.str x)
  | .tup xs => match toDs xs with
    | some ds => some (.tuple ds)
    | none => none
  | .fl xs => match toDs xs with
    | some ds => some (.list ds)
    | none => none
  | _ => none
def toDs : List W → Option (List PyData)
  | [] => some []
  | x :: xs => match toD x with
    | some d => (match toDs xs with
      | some ds => some (d :: ds)
      | none => none)
    | none => none
end
def deref (S : Hm) : W → W
  | .ref a => match heapAt S a with
    | some (.lst xs) => .fl xs
    | _ => .ref a
  | w => w
def eqD (S : Hm) (x y : W) : Option Bool := match toD (deref S x) with
  | some d => (match toD (deref S y) with
    | some e => if (SeqAt.shaped d && SeqAt.shaped e) = true then some (PyData.eqv d e) else none
    | none => none)
  | none => none
/-- == of plain data -/
def eqW (S : Hm) (x y : W) : Option Bool := match x with
  | .byt a => (match y with
    | .byt b => some (decide (a = b))
    | _ => none)
  | .str a => (match y with
    | .str b => some (decide (a = b))
    | _ => eqD S (.str a) y)
  | .int a => (match y with
    | .int b => some (decide (a = b))
    | _ => eqD S (.int a) y)
  | _ => eqD S x y

/-! ### operators, by values -/
def mulOk (i j : Int) : Bool := decide (i.natAbs.log2 + j.natAbs.log2 < 100000000)
def fAdd (x y : W) (S : Hm) : R W := match x with
  | .int i => (match y with
    | .int j => .ok (.int (i + j)) S
    | _ => .stuck)
  | .str a => (match y with
    | .str b => if a.length + b.length ≤ sizeLine then .ok (.str (a ++ b)) S else .stuck
    | _ => .stuck)
  | .byt a => (match y with
    | .byt b => if a.size + b.size ≤ 16777216 then .ok (.byt (a ++ b)) S else .stuck
    | _ => .stuck)
  | .tup a => (match y with
    | .tup b => if a ≠ [] ∧ b ≠ [] ∧ a.length + b.length ≤ sizeLine then .ok (.tup (a ++ b)) S else .stuck
    | _ => .stuck)
  | _ => match lstOf S x with
    | some a => (match lstOf S y with
      | some b => if a.length + b.length ≤ sizeLine then .ok (.fl (a ++ b)) S else .stuck
      | none => .stuck)
    | none => .stuck
def fSub (x y : W) (S : Hm) : R W := match x, y with
  | .int i, .int j => .ok (.int (i - j)) S
  | _, _ => .stuck
def fMul (x y : W) (S : Hm) : R W := match x, y with
  | .int i, .int j => if mulOk i j = true then .ok (.int (i * j)) S else .stuck
  | _, _ => .stuck
def fDiv (x y : W) (S : Hm) : R W := match x, y with
  | .int i, .int j => if j ≠ 0 ∧ j.natAbs.log2 < 9000 then .ok (.int (i.fdiv j)) S else .stuck
  | _, _ => .stuck
def fMod (x y : W) (S : Hm) : R W := match x, y with
  | .int i, .int j => if j ≠ 0 then .ok (.int (i.fmod j)) S else .stuck
  | _, _ => .stuck
def fPow (x y : W) (S : Hm) : R W := match x, y with
  | .int i, .int j => if 0 ≤ j ∧ j ≤ 1000000 ∧ i.natAbs < 2 ^ 64 then .ok (.int (i ^ j.toNat)) S else .stuck
  | _, _ => .stuck
def fShl (x y : W) (S : Hm) : R W := match x, y with
  | .int i, .int j => if 0 ≤ j ∧ j ≤ 1000000 ∧ i.natAbs < 2 ^ 64 then .ok (.int (i * 2 ^ j.toNat)) S else .stuck
  | _, _ => .stuck
def fShr (x y : W) (S : Hm) : R W := match x, y with
  | .int i, .int j => if 0 ≤ j then .ok (.int (i / 2 ^ j.toNat)) S else .stuck
  | _, _ => .stuck
def fAnd (x y : W) (S : Hm) : R W := match x, y with
  | .int i, .int j => .ok (.int (Builtin.bitAnd i j)) S
  | _, _ => .stuck
def fNeg (x : W) (S : Hm) : R W := match x with
  | .int i => .ok (.int (-i)) S
  | _ => .stuck
def fLt (x y : W) (S : Hm) : R W := match x, y with
  | .int i, .int j => .ok (.bl (decide (i < j))) S
  | _, _ => .stuck
def fLe (x y : W) (S : Hm) : R W := match x, y with
  | .int i, .int j => .ok (.bl (decide (i ≤ j))) S
  | _, _ => .stuck
def fGt (x y : W) (S : Hm) : R W := match x, y with
  | .int i, .int j => .ok (.bl (decide (j < i))) S
  | _, _ => .stuck
def fGe (x y : W) (S : Hm) : R W := match x, y with
  | .int i, .int j => .ok (.bl (decide (j ≤ i))) S
  | _, _ => .stuck
/-- two lists of different lengths -/
def lenNe (S : Hm) (x y : W) : Bool := match lstOf S x with
  | some xs => (match lstOf S y with
    | some ys => decide (xs.length ≠ ys.length)
    | none => false)
  | none => false
def fEq (x y : W) (S : Hm) : R W := match eqW S x y with
  | some b => .ok (.bl b) S
  | none => if lenNe S x y = true then .ok (.bl false) S else .stuck
def fNe (x y : W) (S : Hm) : R W := match eqW S x y with
  | some b => .ok (.bl (!b)) S
  | none => if lenNe S x y = true then .ok (.bl true) S else .stuck
def isNon : W → Bool
  | .non => true
  | _ => false
def fIsN (x y : W) (S : Hm) : R W := match y with
  | .non => .ok (.bl (isNon x)) S
  | _ => .stuck
def fNotN (x y : W) (S : Hm) : R W := match y with
  | .non => .ok (.bl (!isNon x)) S
  | _ => .stuck
def fIdx (x y : W) (S : Hm) : R W := match y with
  | .int i => (match x with
    | .str z => if z.length ≤ sizeLine then (match atI z.cps.toList i with
      | some c => .ok (.str ⟨#[c]⟩) S
      | none => .stuck) else .stuck
    | _ => match seqOf S x with
      | some xs => opt (atI xs i) S
      | none => .stuck)
  | _ => .stuck
/-- a part of a slice -/
def partI : W → Option Int
  | .int i => some i
  | _ => none
def cutG {α : Type} (xs : List α) (lo hi : Option Int) : List α := (xs.drop (HT.sIx xs.length 0 lo)).take (HT.sIx xs.length xs.length hi - HT.sIx xs.length 0 lo)

/-! ### expressions -/
def getSlot (σ : Sl) (i : Nat) : Option W := match σ[i]? with
  | some (some (.val w)) => some w
  | _ => none
def eVar (i : Nat) : E := fun σ S => opt (getSlot σ i) S
def eC (w : W) : E := fun _ S => .ok w S
def eBin (f : W → W → Hm → R W) (a b : E) : E := fun σ S => (a σ S).bind fun x S1 => (b σ S1).bind fun y S2 => f x y S2
def eUn (f : W → Hm → R W) (a : E) : E := fun σ S => (a σ S).bind fun x S1 => f x S1
def tBool (w : W) (S : Hm) : R Bool := match w with
  | .bl b => .ok b S
  | _ => .stuck
def tVal (a : E) : T := fun σ S => (a σ S).bind tBool
def eNot (a : E) : E := fun σ S => (tVal a σ S).bind fun b S1 => .ok (.bl (!b)) S1
def eAnd (a b : E) : E := fun σ S => (tVal a σ S).bind fun c S1 => if c = true then b σ S1 else .ok (.bl false) S1
def eOr (a b : E) : E := fun σ S => (tVal a σ S).bind fun c S1 => if c = true then .ok (.bl true) S1 else b σ S1
def eChain (f g : W → W → Hm → R W) (a b c : E) : E := fun σ S => (a σ S).bind fun x S1 => (b σ S1).bind fun y S2 => (f x y S2).bind fun z S3 => (tBool z S3).bind fun k S4 => if k = true then (c σ S4).bind fun w S5 => g y w S5 else .ok (.bl false) S4
def eIf (t : T) (a b : E) : E := fun σ S => (t σ S).bind fun c S1 => if c = true then a σ S1 else b σ S1
def tNot (t : T) : T := fun σ S => (t σ S).bind fun c S1 => .ok (!c) S1
def tAnd (t u : T) : T := fun σ S => (t σ S).bind fun c S1 => if c = true then u σ S1 else .ok false S1
def tOr (t u : T) : T := fun σ S => (t σ S).bind fun c S1 => if c = true then .ok true S1 else u σ S1
def tYes : T := fun _ S => .ok true S
def aNil : As := fun _ S => .ok [] S
def aCons (a : E) (r : As) : As := fun σ S => (a σ S).bind fun x S1 => (r σ S1).bind fun xs S2 => .ok (x :: xs) S2
def eTup (a : As) : E := fun σ S => (a σ S).bind fun xs S1 => if xs.length ≤ sizeLine then .ok (.tup xs) S1 else .stuck
def eCall (f : Fn) (a : As) : E := fun σ S => (a σ S).bind fun xs S1 => f xs S1
def eFld (a : E) (f : Str) : E := fun σ S => (a σ S).bind fun x S1 => opt (fldOf S1 f x) S1
/-- lists just made -/
def lDisp (a : As) : L := fun σ S => (a σ S).bind fun xs S1 => if xs.length ≤ sizeLine then .ok xs S1 else .stuck
def eFrz (l : L) : E := fun σ S => (l σ S).bind fun xs S1 => .ok (.fl xs) S1
def eHeap (l : L) : E := fun σ S => (l σ S).bind fun xs S1 => .ok (.ref S1.length) (S1 ++ [some (.lst xs)])
def wipeM (σ : Sl) : List Nat → Sl
  | [] => σ
  | v :: vs => (wipeM σ vs).set v none
def compL (tg : Tg) (cd : T) (el : E) : List W → Sl → Hm → R (List W)
  | [], _, S => .ok [] S
  | x :: xs, σ, S => (tg x σ S).bind fun σ1 S1 => (cd σ1 S1).bind fun b S2 => if b = true then (el σ1 S2).bind fun w S3 => (compL tg cd el xs σ S3).bind fun ws S4 => .ok (w :: ws) S4 else compL tg cd el xs σ S2
def compR (tg : Tg) (cd : T) (el : E) (at_ : Hm → Nat → Option (Option W)) : Nat → Nat → Sl → Hm → R (List W)
  | 0, _, _, _ => .stuck
  | n + 1, i, σ, S => match at_ S i with
    | none => .stuck
    | some none => .ok [] S
    | some (some x) => (tg x σ S).bind fun σ1 S1 => (cd σ1 S1).bind fun b S2 => if b = true then (el σ1 S2).bind fun w S3 => (compR tg cd el at_ n (i + 1) σ S3).bind fun ws S4 => .ok (w :: ws) S4 else compR tg cd el at_ n (i + 1) σ S2
def bigN : Nat := 16777216
def lComp (vs : List Nat) (tg : Tg) (it : I) (cd : T) (el : E) : L := fun σ S => (it σ S).bind fun i S1 => match i with
  | .seq xs => if xs.length ≤ sizeLine then compL tg cd el xs (wipeM σ vs) S1 else .stuck
  | .dyn at_ => compR tg cd el at_ bigN 0 (wipeM σ vs) S1

/-! ### what is walked -/
/-- a source: things that stand, or a list of the own heap -/
inductive Src where
  | fz (xs : List W) | rf (a : Nat)
def srcOf (S : Hm) : W → Option Src
  | .tup xs => some (.fz xs)
  | .fl xs => some (.fz xs)
  | .ref a => match heapAt S a with
    | some (.lst _) => some (.rf a)
    | _ => none
  | _ => none
def srcL (S : Hm) : Src → Option (List W)
  | .fz xs => some xs
  | .rf a => match heapAt S a with
    | some (.lst xs) => some xs
    | _ => none
/-- a text's signs, bytes as numbers -/
def sgnL (x : Str) : List W := x.cps.toList.map fun c => W.str ⟨#[c]⟩
def bytL (b : Array UInt8) : List W := b.toList.map fun c => W.int ((c.toNat : Nat) : Int)
def iVal (a : E) : I := fun σ S => (a σ S).bind fun x S1 => match srcOf S1 x with
  | some (.fz xs) => .ok (.seq xs) S1
  | some (.rf p) => .ok (.dyn fun S i => (srcL S (.rf p)).map fun xs => xs[i]?) S1
  | none => (match x with
    | .str z => .ok (.seq (sgnL z)) S1
    | .byt b => .ok (.seq (bytL b)) S1
    | _ => .stuck)
def enumL : Int → List W → List W
  | _, [] => []
  | i, x :: xs => .tup [.int i, x] :: enumL (i + 1) xs
def zipL : List W → List W → List W
  | x :: xs, y :: ys => .tup [x, y] :: zipL xs ys
  | _, _ => []
def iEnum (a : E) : I := fun σ S => (a σ S).bind fun x S1 => match srcOf S1 x with
  | some (.fz xs) => .ok (.seq (enumL 0 xs)) S1
  | some (.rf p) => .ok (.dyn fun S i => (srcL S (.rf p)).bind fun xs => match xs[i]? with
    | some x => some (some (.tup [.int i, x]))
    | none => if xs.length = i then some none else none) S1
  | none => .stuck
def iZip (a b : E) : I := fun σ S => (a σ S).bind fun x S1 => (b σ S1).bind fun y S2 => match srcOf S2 x with
  | some (.fz xs) => (match srcOf S2 y with
    | some (.fz ys) => .ok (.seq (zipL xs ys)) S2
    | some (.rf q) => .ok (.dyn fun S i => (srcL S (.rf q)).bind fun ys => zipAt xs ys i) S2
    | none => .stuck)
  | some (.rf p) => (match srcOf S2 y with
    | some s => .ok (.dyn fun S i => (srcL S (.rf p)).bind fun xs => (srcL S s).bind fun ys => zipAt xs ys i) S2
    | none => .stuck)
  | none => .stuck
where
  zipAt (xs ys : List W) (i : Nat) : Option (Option W) := match xs[i]? with
    | some x => (match ys[i]? with
      | some y => some (some (.tup [x, y]))
      | none => if ys.length = i then some none else none)
    | none => if xs.length = i ∧ i ≤ ys.length then some none else none
def rangeL (lo : Int) (n : Nat) : List W := (List.range n).map fun (i : Nat) => W.int (lo + (i : Int))
def rangeOk (i : Int) : Bool := decide (-(2 ^ 62) ≤ i) && decide (i < 2 ^ 62)
def iRange1 (a : E) : I := fun σ S => (a σ S).bind fun x S1 => match x with
  | .int j => if rangeOk j = true then .ok (.seq (rangeL 0 j.toNat)) S1 else .stuck
  | _ => .stuck
def iRange2 (a b : E) : I := fun σ S => (a σ S).bind fun x S1 => (b σ S1).bind fun y S2 => match x, y with
  | .int i, .int j => if (rangeOk i && rangeOk j) = true then .ok (.seq (rangeL i (j - i).toNat)) S2 else .stuck
  | _, _ => .stuck

/-! ### targets -/
def tgName (i : Nat) : Tg := fun w σ S => .ok (σ.set i (some (.val w))) S
def tgSeq : List Tg → List W → Sl → Hm → R Sl
  | [], [], σ, S => .ok σ S
  | t :: ts, x :: xs, σ, S => (t x σ S).bind fun σ1 S1 => tgSeq ts xs σ1 S1
  | _, _, _, _ => .stuck
def tgTup (ts : List Tg) : Tg := fun w σ S => match w with
  | .tup xs => if xs.length = ts.length then tgSeq ts xs σ S else .stuck
  | w => match lstOf S w with
    | some xs => if xs.length = ts.length then tgSeq ts xs σ S else .stuck
    | none => .stuck

/-! ### statements -/
def sNil : St' := fun σ S => .ok (.nx σ) S
def sSeq (a b : St') : St' := fun σ S => (a σ S).bind fun f S1 => match f with
  | .nx σ1 => b σ1 S1
  | f => .ok f S1
def sAsg (t : Tg) (e : E) : St' := fun σ S => (e σ S).bind fun w S1 => (t w σ S1).bind fun σ1 S2 => .ok (.nx σ1) S2
/-- a, b = x, y -/
def sPar (i j : Nat) (a b : E) : St' := fun σ S => (a σ S).bind fun x S1 => (b σ S1).bind fun y S2 => .ok (.nx ((σ.set i (some (.val x))).set j (some (.val y)))) S2
def sExpr (e : E) : St' := fun σ S => (e σ S).bind fun _ S1 => .ok (.nx σ) S1
def sRet (e : E) : St' := fun σ S => (e σ S).bind fun w S1 => .ok (.rt w) S1
def sIf (t : T) (a b : St') : St' := fun σ S => (t σ S).bind fun c S1 => if c = true then a σ S1 else b σ S1
def sNever : St' := fun _ _ => .stuck
def sBreak : St' := fun σ S => .ok (.bk σ) S
def sCont : St' := fun σ S => .ok (.ct σ) S
def forL (tg : Tg) (body : St') : List W → Sl → Hm → R Fl
  | [], σ, S => .ok (.nx σ) S
  | x :: xs, σ, S => (tg x σ S).bind fun σ1 S1 => (body σ1 S1).bind fun f S2 => match f with
    | .nx σ2 => forL tg body xs σ2 S2
    | .ct σ2 => forL tg body xs σ2 S2
    | .bk σ2 => .ok (.nx σ2) S2
    | .rt w => .ok (.rt w) S2
def forR (tg : Tg) (body : St') (at_ : Hm → Nat → Option (Option W)) : Nat → Nat → Sl → Hm → R Fl
  | 0, _, _, _ => .stuck
  | n + 1, i, σ, S => match at_ S i with
    | none => .stuck
    | some none => .ok (.nx σ) S
    | some (some x) => (tg x σ S).bind fun σ1 S1 => (body σ1 S1).bind fun f S2 => match f with
      | .nx σ2 => forR tg body at_ n (i + 1) σ2 S2
      | .ct σ2 => forR tg body at_ n (i + 1) σ2 S2
      | .bk σ2 => .ok (.nx σ2) S2
      | .rt w => .ok (.rt w) S2
def sFor (tg : Tg) (it : I) (body : St') : St' := fun σ S => (it σ S).bind fun i S1 => match i with
  | .seq xs => forL tg body xs σ S1
  | .dyn at_ => forR tg body at_ bigN 0 σ S1
def whileN (c : T) (body : St') : Nat → Sl → Hm → R Fl
  | 0, _, _ => .stuck
  | n + 1, σ, S => (c σ S).bind fun b S1 => if b = true then (body σ S1).bind fun f S2 => (match f with
      | .nx σ2 => whileN c body n σ2 S2
      | .ct σ2 => whileN c body n σ2 S2
      | .bk σ2 => .ok (.nx σ2) S2
      | .rt w => .ok (.rt w) S2) else .ok (.nx σ) S1
def hugeN : Nat := 2 ^ 64
def sWhile (c : T) (body : St') : St' := fun σ S => whileN c body hugeN σ S
/-- an own list of a name: made, grown, frozen, laid on the heap -/
def sOwn (i : Nat) (l : L) : St' := fun σ S => (l σ S).bind fun xs S1 => .ok (.nx (σ.set i (some (.own (.lst xs))))) S1
def getOwn (σ : Sl) (i : Nat) : Option MO := match σ[i]? with
  | some (some (.own o)) => some o
  | _ => none
def sApp (i : Nat) (e : E) : St' := fun σ S => (e σ S).bind fun w S1 => match getOwn σ i with
  | some (.lst xs) => if xs.length < sizeLine then .ok (.nx (σ.set i (some (.own (.lst (xs ++ [w])))))) S1 else .stuck
  | _ => .stuck
def sFrz (i : Nat) : St' := fun σ S => match getOwn σ i with
  | some (.lst xs) => .ok (.nx (σ.set i (some (.val (.fl xs))))) S
  | _ => .stuck
def sLay (i : Nat) : St' := fun σ S => match getOwn σ i with
  | some o => .ok (.nx (σ.set i (some (.val (.ref S.length))))) (S ++ [some o])
  | _ => .stuck

/-! ### a def -/
def startM (n : Nat) (ws : List W) : Sl := ws.map (fun w => some (.val w)) ++ List.replicate (n - ws.length) none
def runDef (n : Nat) (body : St') : Fn := fun ws S => (body (startM n ws) S).bind fun f S1 => match f with
  | .rt w => .ok w S1
  | .nx _ => .ok .non S1
  | _ => .stuck
end SB
/-! SB, part 1b: dicts whose keys are tuples, nested too: over HandS. -/
namespace SB
open PySem PySem.Spec PyProof.Rows L2
mutual
/-- a value as a key -/
inductive KeyN (K : PySem.W.Frag) (H : Hp) : NestedKey → V → Prop
  | num (i : Int) : KeyN K H (.num i) (.int i)
  | text (x : Str) : KeyN K H (.text x) (.str x)
  | tup {a : Addr} {vs : List V} {ks : List NestedKey} : SqT K H a vs → KeysN K H ks vs → KeyN K H (.tup ks) (.ref a)
inductive KeysN (K : PySem.W.Frag) (H : Hp) : List NestedKey → List V → Prop
  | nil : KeysN K H [] []
  | cons {k : NestedKey} {v : V} {ks : List NestedKey} {vs : List V} : KeyN K H k v → KeysN K H ks vs → KeysN K H (k :: ks) (v :: vs)
end
section
variable {X : Cx} {pins : List (Addr × Obj)} {σ : L2.St} {H : Hp} {s : Shared}
mutual
theorem key_is (I : Inv X pins σ H s) : ∀ {k : NestedKey} {v : V} {u : Value}, KeyN X.K H k v → RelV v u → NestedIs s.heap k u
  | _, _, _, .num i, r => by
    obtain ⟨t, rfl⟩ := r
    exact .int i t
  | _, _, _, .text x, r => by
    obtain ⟨t, rfl⟩ := r
    exact .text x t
  | _, _, _, .tup hq hk, r => by
    obtain ⟨its, rv, ⟨o, e, c, n, d⟩, _⟩ := I.tuple hq
    cases (show _ = Value.ref _ from r)
    exact .tup e c d (by simpa using keys_is I hk rv)
theorem keys_is (I : Inv X pins σ H s) : ∀ {ks : List NestedKey} {vs : List V} {us : List Value}, KeysN X.K H ks vs → Vals vs us → NestedAll s.heap ks us
  | _, _, _, .nil, r => by cases r; exact .nil
  | _, _, _, .cons h t, r => by
    cases r with
    | cons r1 r2 => exact .cons (key_is I h r1) (keys_is I t r2)
end
end
/-! ### the object -/
abbrev EN := NestedKey × Addr × V
def RelN (p : EN) (q : NestedKey × Addr × Value) : Prop := p.1 = q.1 ∧ p.2.1 = q.2.1 ∧ RelV p.2.2 q.2.2
def DN (P : Program) (w : World) (a : Addr) (kvs : List EN) (h : Heap) : Prop := (a == sysModules) = false ∧ kvs.length ≤ sizeLine ∧
  ∃ (xs : List (NestedKey × Addr × Value)) (o : Obj) (es : Array DictEntry) (ep : Nat), Paired RelN kvs xs ∧ h.get? a = some o ∧ o.ExactDict ∧ o.data = .dict es ep ∧ es.toList = xs.map (entryOfKey (nestedKind P w)) ∧ (xs.map (·.1)).Nodup
def extN (P : Program) (w : World) (a : Addr) (kvs : List EN) : HO := .ext (DN P w a kvs)
theorem extN_ok {P : Program} {w : World} {H : Hp} {h : Heap} {a : Addr} {kvs : List EN} (d : DN P w a kvs h) : ObjOk P w H h a (extN P w a kvs) := by
  obtain ⟨h1, h2, xs, o, es, ep, h3, h4, h5⟩ := d
  exact ⟨⟨h1, h2, xs, o, es, ep, h3, h4, h5⟩, ⟨o, h4⟩, fun ha hb ⟨g1, g2, xs, o, es, ep, g3, g4, g5⟩ k => ⟨g1, g2, xs, o, es, ep, g3, k o g4, g5⟩⟩
/-- a heap with one thing alone -/
def lone (d : Addr) (o : Obj) : Heap := { objs := (Array.replicate d { cls := .none, data := .freed }).push o }
theorem lone_at {d : Addr} {o : Obj} (h : o.isFreed = false) : (lone d o).get? d = some o := by
  unfold lone Heap.get?
  simp only [Array.getElem?_push, Array.size_replicate, if_true]
  unfold Obj.isFreed at h
  split
  · rename_i e
    cases e
    cases h
  · rfl
theorem lone_ne {d a : Addr} {o : Obj} (h : a ≠ d) : (lone d o).get? a = none := by
  unfold lone Heap.get?
  simp only [Array.getElem?_push, Array.size_replicate, h, if_false]
  by_cases hl : a < d
  · rw [Array.getElem?_replicate, if_pos hl]
  · rw [Array.getElem?_replicate, if_neg hl]
theorem get_notFreed {h : Heap} {a : Addr} {o : Obj} (e : h.get? a = some o) : o.isFreed = false := by
  unfold Heap.get? at e
  split at e
  · cases e
  · rename_i n
    cases hb : o.isFreed with
    | false => rfl
    | true =>
      exfalso
      rcases o with ⟨c, d, da, sl⟩
      cases da <;> first | exact n _ _ _ e | cases hb
/-- where it lies -/
theorem extN_at {P P' : Program} {w w' : World} {H : Hp} {h : Heap} {a d : Addr} {kvs : List EN} (x : ObjOk P w H h d (extN P' w' a kvs)) : DN P' w' d kvs h ∧ a = d := by
  obtain ⟨hd, ⟨o, ho⟩, st⟩ := x
  have e : a = d := by
    apply Classical.byContradiction
    intro ne
    obtain ⟨_, _, xs, o2, es, ep, _, g, _⟩ := st h (lone d o) hd fun o' e => by
      rw [ho] at e
      cases e
      exact lone_at (get_notFreed ho)
    rw [lone_ne ne] at g
    cases g
  exact ⟨e ▸ hd, e⟩
/-! ### look up, store -/
def atN (kvs : List EN) (k : NestedKey) : Option V := (kvs.find? fun x => decide (x.1 = k)).map (·.2.2)
def putN (kvs : List EN) (k : NestedKey) (b : Addr) (v : V) : List EN := if (atN kvs k).isSome = true then kvs.map (fun x => if x.1 = k then (x.1, x.2.1, v) else x) else kvs ++ [(k, b, v)]
section
variable {kvs : List EN} {xs : List (NestedKey × Addr × Value)}
theorem relN_at (r : Paired RelN kvs xs) (k : NestedKey) : RelO (atN kvs k) ((atKey xs k).map (·.2)) := by
  induction r with
  | nil => exact True.intro
  | @cons p q ps qs h t ih =>
    obtain ⟨h1, _, h2⟩ := h
    unfold atN atKey
    simp only [List.find?_cons]
    by_cases e : p.1 = k
    · have e' : q.1 = k := h1.symm.trans e
      simp only [e, e', decide_true, Option.map_some]
      exact h2
    · have e' : ¬ q.1 = k := fun z => e (h1.trans z)
      simp only [e, e', decide_false]
      exact ih
theorem relN_put (r : Paired RelN kvs xs) (k : NestedKey) {b : Addr} {v : V} {u : Value} (rv : RelV v u) : Paired RelN (putN kvs k b v) (storedH xs k b u) := by
  have e : (atN kvs k).isSome = (atKey xs k).isSome := by
    have := (relN_at r k).isSome_eq
    rw [Option.isSome_map] at this
    exact this
  unfold putN storedH
  rw [e]
  by_cases q : (atKey xs k).isSome = true
  · rw [if_pos q, if_pos q]
    clear e q
    induction r with
    | nil => exact .nil
    | @cons p q ps qs h t ih =>
      obtain ⟨h1, h2, h3⟩ := h
      rw [List.map_cons, List.map_cons]
      refine .cons ?_ ih
      unfold putAt
      by_cases e : p.1 = k
      · rw [if_pos e, if_pos (h1.symm.trans e)]; exact ⟨h1, h2, rv⟩
      · rw [if_neg e, if_neg (fun z => e (h1.trans z))]; exact ⟨h1, h2, h3⟩
  · rw [if_neg q, if_neg q]; exact Paired.snoc r ⟨rfl, rfl, rv⟩
theorem putN_len {k : NestedKey} {b : Addr} {v : V} : (putN kvs k b v).length ≤ kvs.length + 1 := by
  unfold putN
  split
  · rw [List.length_map]; omega
  · rw [List.length_append]; exact Nat.le_refl _
theorem putN_mem {k : NestedKey} {b : Addr} {v : V} : ∀ x ∈ putN kvs k b v, (x = (k, b, v)) ∨ ∃ y ∈ kvs, x.1 = y.1 ∧ x.2.1 = y.2.1 := fun x hx => by
  unfold putN at hx
  split at hx
  · obtain ⟨y, hy, rfl⟩ := List.mem_map.mp hx
    right
    refine ⟨y, hy, ?_⟩
    split <;> exact ⟨rfl, rfl⟩
  · rcases List.mem_append.mp hx with h | h
    · exact .inr ⟨x, h, rfl, rfl⟩
    · exact .inl (List.mem_singleton.mp h)
end
/-- all keys are keys -/
def KeysOk (K : PySem.W.Frag) (H : Hp) (kvs : List EN) : Prop := ∀ x ∈ kvs, KeyN K H x.1 (.ref x.2.1) ∧ x.1.depth ≤ 8
section
variable {X : Cx} {pins : List (Addr × Obj)} {σ : L2.St} {H : Hp} {s : Shared} {d b : Addr} {kvs : List EN} {k : NestedKey} {v : V} {u r : Value} {A : Around} {E : Value → Shared → Prop}
theorem dn_rd {d' : Addr} (I : Inv X pins σ H s) (e : Rd H d (extN X.prog X.w d' kvs)) (hk : KeysOk X.K H kvs) : kvs.length ≤ sizeLine ∧ (d == sysModules) = false ∧ ∃ xs, Paired RelN kvs xs ∧ s.heap.DictOfH (nestedKind X.prog X.w) d xs := by
  obtain ⟨⟨h1, h2, xs, o, es, ep, h3, h4, h5, h6, h7, h8⟩, _⟩ := extN_at (e.ok I.hok)
  refine ⟨h2, h1, xs, h3, o, es, ep, h4, h5, h6, h7, ?_, h8⟩
  clear e h2 h7 h8
  induction h3 with
  | nil => intro x hx; cases hx
  | @cons p q ps qs hq t ih =>
    intro x hx
    rcases List.mem_cons.mp hx with rfl | hx
    · obtain ⟨k1, k2⟩ := hk p List.mem_cons_self
      obtain ⟨e1, e2, _⟩ := hq
      rw [← e1, ← e2]
      exact ⟨key_is I k1 rfl, k2⟩
    · exact ih (fun y hy => hk y (List.mem_cons_of_mem _ hy)) x hx
theorem room_n (hu : A.units + 64 < cLine) : (nestedKind X.prog X.w).room A.in1 := by
  show A.in1.units + 8 < cLine
  show A.units + 1 + 8 < cLine
  omega
/-- what is asked of a key -/
theorem n_is (I : Inv X pins σ H s) (hk : KeyN X.K H k (.ref b)) (hd : k.depth ≤ 8) : (nestedKind X.prog X.w).is s.heap k b := ⟨key_is I hk rfl, hd⟩
theorem n_getItem {Q : Value → Shared → Prop} (hu : A.units + 64 < cLine) (I : Inv X pins σ H s) {d' : Addr} (e : Rd H d (extN X.prog X.w d' kvs)) (hks : KeysOk X.K H kvs) (hk : KeyN X.K H k (.ref b)) (hd : k.depth ≤ 8) (l : atN kvs k = some v) (h : ∀ w' s', Inv X pins σ H s' → RelV v w' → Q w' s') :
    wpAny (model X.prog X.w) A (getItem (.ref d) (.ref b)) Q E s := by
  obtain ⟨_, _, xs, rel, dd⟩ := dn_rd I e hks
  obtain ⟨w', hw, rw'⟩ := RelO.some_of (v := v) (o := (atKey xs k).map (·.2)) (by rw [← l]; exact relN_at rel k)
  obtain ⟨p, hp, hp2⟩ := Option.map_eq_some_iff.mp hw
  refine wpAny_getItem_heap (room_n hu) (n_is I hk hd) dd hp ?_
  rw [hp2]
  exact h w' _ (I.tok _) rw'
theorem n_isSome (I : Inv X pins σ H s) {xs : List (NestedKey × Addr × Value)} (rel : Paired RelN kvs xs) : (atN kvs k).isSome = (atKey xs k).isSome := by
  have := (relN_at rel k).isSome_eq
  rw [Option.isSome_map] at this
  exact this
theorem n_in {Q : Value → Shared → Prop} (hu : A.units + 64 < cLine) (I : Inv X pins σ H s) {d' : Addr} (e : Rd H d (extN X.prog X.w d' kvs)) (hks : KeysOk X.K H kvs) (hk : KeyN X.K H k (.ref b)) (hd : k.depth ≤ 8) (h : ∀ s', Inv X pins σ H s' → Q (.bool (atN kvs k).isSome) s') :
    wpAny (model X.prog X.w) A (compareOp .In (.ref b) (.ref d)) Q E s := by
  obtain ⟨_, lo, xs, rel, dd⟩ := dn_rd I e hks
  refine wpAny_in_heap (room_n hu) (n_is I hk hd) lo dd ?_
  rw [← n_isSome I rel]
  exact h _ (I.tok _)
theorem n_notIn {Q : Value → Shared → Prop} (hu : A.units + 64 < cLine) (I : Inv X pins σ H s) {d' : Addr} (e : Rd H d (extN X.prog X.w d' kvs)) (hks : KeysOk X.K H kvs) (hk : KeyN X.K H k (.ref b)) (hd : k.depth ≤ 8) (h : ∀ s', Inv X pins σ H s' → Q (.bool (!(atN kvs k).isSome)) s') :
    wpAny (model X.prog X.w) A (compareOp .NotIn (.ref b) (.ref d)) Q E s := by
  obtain ⟨_, lo, xs, rel, dd⟩ := dn_rd I e hks
  refine wpAny_notIn_heap (room_n hu) (n_is I hk hd) lo dd ?_
  rw [← n_isSome I rel]
  exact h _ (I.tok _)
theorem n_get2 {Q : Value → Shared → Prop} {z : V} (hu : A.units + 64 < cLine) (I : Inv X pins σ H s) {d' : Addr} (e : Rd H d (extN X.prog X.w d' kvs)) (hks : KeysOk X.K H kvs) (hk : KeyN X.K H k (.ref b)) (hd : k.depth ≤ 8) (rz : RelV z r) (h : ∀ w' s', Inv X pins σ H s' → RelV ((atN kvs k).getD z) w' → Q w' s') :
    wpAny (model X.prog X.w) A (call (.builtin "dict.get") [.ref d, .ref b, r]) Q E s := by
  obtain ⟨_, lo, xs, rel, dd⟩ := dn_rd I e hks
  refine call_meetsIn PySem.F.slot_dict_get dd.typeIs PySem.F.entry_dict_get (PySem.F.args_dict_get_3 _ _ _) (meetsH_dict_get_default (nestedKind X.prog X.w) d b lo r) ⟨room_n hu, k, xs, n_is I hk hd, dd, h _ _ (I.tok _) ?_⟩
  exact (relN_at rel k).getD rz
/-- behind a store -/
theorem n_stored {xs : List (NestedKey × Addr × Value)} {h' : Heap} {t' : Nat} (I : Inv X pins σ H s) {d' : Addr} (e : H d = some (extN X.prog X.w d' kvs)) (lo : (d == sysModules) = false) (rel : Paired RelN kvs xs) (hl : kvs.length < sizeLine) (rv : RelV v r)
    (dd : h'.DictOfH (nestedKind X.prog X.w) d (storedH xs k b r)) (hs : Heap.SameBut d s.heap h') : Inv X pins σ (upd H d (extN X.prog X.w d (putN kvs k b v))) { s with heap := h', toks := t' } := by
  obtain ⟨q, es, ep, hq, h2, h3, h4, _, h5⟩ := dd
  refine d_write I (by rw [e]; exact True.intro) hs ⟨q, hq⟩ (extN_ok ⟨lo, ?_, _, q, es, ep, relN_put rel k rv, hq, h2, h3, h4, h5⟩)
  have := putN_len (kvs := kvs) (k := k) (b := b) (v := v)
  omega
theorem n_setItem {Q : Unit → Shared → Prop} (hu : A.units + 64 < cLine) (I : Inv X pins σ H s) {d' : Addr} (e : H d = some (extN X.prog X.w d' kvs)) (hks : KeysOk X.K H kvs) (hk : KeyN X.K H k (.ref b)) (hd : k.depth ≤ 8) (hl : kvs.length < sizeLine) (rv : RelV v r)
    (h : ∀ s', Inv X pins σ (upd H d (extN X.prog X.w d (putN kvs k b v))) s' → Q () s') : wpAny (model X.prog X.w) A (setItem (.ref d) (.ref b) r) Q E s := by
  obtain ⟨z, lo, xs, rel, dd⟩ := dn_rd I (.inl e) hks
  refine wpAny_setItem_heap (hsz := by rw [← Paired.length rel]; exact z) (room_n hu) (n_is I hk hd) dd fun h' dd' hs => h _ (n_stored I e lo rel hl rv dd' hs)
theorem n_dictSet {Q : Unit → Shared → Prop} (hu : A.units + 64 < cLine) (I : Inv X pins σ H s) {d' : Addr} (e : H d = some (extN X.prog X.w d' kvs)) (hks : KeysOk X.K H kvs) (hk : KeyN X.K H k (.ref b)) (hd : k.depth ≤ 8) (hl : kvs.length < sizeLine) (rv : RelV v r)
    (h : ∀ s', Inv X pins σ (upd H d (extN X.prog X.w d (putN kvs k b v))) s' → Q () s') : wpAny (model X.prog X.w) A (dictSet d (.ref b) r) Q E s := by
  obtain ⟨z, lo, xs, rel, dd⟩ := dn_rd I (.inl e) hks
  refine wpAny_dictSet_heap (hsz := by rw [← Paired.length rel]; exact z) (show A.units + 8 < cLine by omega) (n_is I hk hd) dd fun h' dd' hs => h _ (n_stored I e lo rel hl rv dd' hs)
theorem dn_new {P : Program} {w : World} {H : Hp} (h : Heap) (hb : sysModules < h.objs.size) : ObjOk P w H (h.push { cls := .type "dict", data := .dict #[] }) h.objs.size (extN P w h.objs.size []) :=
  extN_ok ⟨beq_eq_false_iff_ne.mpr (Ne.symm (Nat.ne_of_lt hb)), Nat.zero_le _, [], _, #[], 0, .nil, Heap.get?_push_size _ rfl, ⟨rfl, rfl, rfl⟩, rfl, rfl, List.nodup_nil⟩
end
/-! ### rules -/
/-- what is known of a dict and a key -/
def NAt (X : Cx) (H : Hp) (x y : V) (a b : Addr) (kvs : List EN) (k : NestedKey) : Prop := ∃ a', x = .ref a ∧ y = .ref b ∧ Rd H a (extN X.prog X.w a' kvs) ∧ KeysOk X.K H kvs ∧ KeyN X.K H k (.ref b) ∧ k.depth ≤ 8
/-- a is such a dict -/
def IsN (X : Cx) (H : Hp) (a : Addr) : Prop := ∃ a' kvs, Rd H a (extN X.prog X.w a' kvs) ∧ KeysOk X.K H kvs
def tNGet (X : Cx) (td ty : TE) : TE := fun σ H Q => td σ H fun x H1 => ty σ H1 fun y H2 => ∃ a b kvs k v, NAt X H2 x y a b kvs k ∧ atN kvs k = some v ∧ Q v H2
def tNIn (X : Cx) (n : Bool) (ty td : TE) : TE := fun σ H Q => ty σ H fun y H1 => td σ H1 fun x H2 => ∃ a b kvs k, NAt X H2 x y a b kvs k ∧ Q (.bl (xor n (atN kvs k).isSome)) H2
def tNGet2 (X : Cx) (td ty tx : TE) : TE := fun σ H Q => td σ H fun x H1 => ∃ a, x = .ref a ∧ IsN X H1 a ∧ ty σ H1 fun y H2 => tx σ H2 fun z H3 => ∃ b kvs k, NAt X H3 x y a b kvs k ∧ Q ((atN kvs k).getD z) H3
def sNPutA (X : Cx) (td ty tv : TE) : TS := fun D σ H => tv σ H fun v H1 => td σ H1 fun x H2 => ty σ H2 fun y H3 => ∃ a b kvs k a', x = .ref a ∧ y = .ref b ∧ H3 a = some (extN X.prog X.w a' kvs) ∧ KeysOk X.K H3 kvs ∧ KeyN X.K H3 k (.ref b) ∧ k.depth ≤ 8 ∧ kvs.length < sizeLine ∧
  D.nx σ (upd H3 a (extN X.prog X.w a (putN kvs k b v)))
section
variable {X : Cx} {o i e f value : Expr} {pos pos' apos cpos : Pos} {td ty tx tv : TE}
theorem n_type {pins : List (Addr × Obj)} {σ : L2.St} {H : Hp} {s : Shared} {a : Addr} (I : Inv X pins σ H s) (h : IsN X H a) : s.TypeIs (.ref a) "dict" ∧ ∀ b, Value.ref a = .ref b → ∃ ob, s.heap.get? b = some ob ∧ ob.dict = none := by
  obtain ⟨a', kvs, e, hk⟩ := h
  obtain ⟨_, _, xs, _, dd⟩ := dn_rd I e hk
  refine ⟨dd.typeIs, fun b q => ?_⟩
  cases q
  obtain ⟨ob, _, _, h1, h2, _⟩ := dd
  exact ⟨ob, h1, h2.2.1⟩
theorem pe_dnewN : PE X (.Dict [] [] pos) (fun _ H Q => ∀ p, H p = none → Q (.ref p) (upd H p (extN X.prog X.w p []))) := ⟨fun pins s σ H Q I h =>
  wpAny_Dict_empty ⟨.ref s.heap.objs.size, _, I.laid (a := s.heap.objs.size) (o := extN X.prog X.w s.heap.objs.size []) (t' := s.toks) (fun _ _ q => Heap.get?_push_of_some _ q) (Nat.le_refl _) (dn_new s.heap I.big), rfl, h _ (I.hok.fresh (Nat.le_refl _))⟩⟩
theorem pe_nget (hu : X.A.units + 64 < cLine) (ho : PE X o td) (hi : PE X i ty) (hs : NoSl i) : PE X (.Subscript o i pos) (tNGet X td ty) := by
  refine ⟨fun pins s σ H Q I h => ?_⟩
  refine subD_of PySem.F.slot_dict_getitem.lookup hs (thn (ho.run pins s σ H _ I h) fun u s1 ⟨x, H1, I1, rx, q1⟩ => thn (hi.run pins s1 σ H1 _ I1 q1) fun iv s2 ⟨y, H2, I2, ry, a, b, kvs, k, v, ⟨a', ex, ey, e, hks, hk, hd⟩, l, q2⟩ => ?_)
  subst ex ey
  cases (show u = Value.ref a from rx)
  cases (show iv = Value.ref b from ry)
  exact ⟨(n_type I2 ⟨a', kvs, e, hks⟩).1, n_getItem hu I2 e hks hk hd l fun w' s3 I3 rw' => ⟨v, H2, I3, rw', q2⟩⟩
theorem pc_nin (hu : X.A.units + 64 < cLine) (hi : PE X i ty) (ho : PE X o td) : PC X .In i o (tNIn X false ty td) := by
  refine ⟨fun pins s σ H Q I h => ?_⟩
  refine thn (hi.run pins s σ H _ I h) fun iv s1 ⟨y, H1, I1, ry, q1⟩ => thn (ho.run pins s1 σ H1 _ I1 q1) fun u s2 ⟨x, H2, I2, rx, a, b, kvs, k, ⟨a', ex, ey, e, hks, hk, hd⟩, q2⟩ => ?_
  subst ex ey
  cases (show u = Value.ref a from rx)
  cases (show iv = Value.ref b from ry)
  rw [Bool.false_xor] at q2
  exact n_in hu I2 e hks hk hd fun s3 I3 => ⟨.bl (atN kvs k).isSome, H2, I3, rfl, q2⟩
theorem pc_nnotin (hu : X.A.units + 64 < cLine) (hi : PE X i ty) (ho : PE X o td) : PC X .NotIn i o (tNIn X true ty td) := by
  refine ⟨fun pins s σ H Q I h => ?_⟩
  refine thn (hi.run pins s σ H _ I h) fun iv s1 ⟨y, H1, I1, ry, q1⟩ => thn (ho.run pins s1 σ H1 _ I1 q1) fun u s2 ⟨x, H2, I2, rx, a, b, kvs, k, ⟨a', ex, ey, e, hks, hk, hd⟩, q2⟩ => ?_
  subst ex ey
  cases (show u = Value.ref a from rx)
  cases (show iv = Value.ref b from ry)
  rw [Bool.true_xor] at q2
  exact n_notIn hu I2 e hks hk hd fun s3 I3 => ⟨.bl (!(atN kvs k).isSome), H2, I3, rfl, q2⟩
theorem pe_nget2 (hu : X.A.units + 64 < cLine) (ho : PE X o td) (he : PE X e ty) (hf : PE X f tx) (m : M2 X o "get" apos e f cpos) : PE X (.Call (.Attribute o "get" apos) [e, f] [] cpos) (tNGet2 X td ty tx) := by
  refine ⟨fun pins s σ H Q I h => ?_⟩
  refine wpAny_Call_method m.base m.few m.line PySem.F.plainAttrs_dict PySem.F.slot_dict_get PySem.F.type_dict_get (thn (ho.run pins s σ H _ I h) fun u s1 ⟨x, H1, I1, rx, a, ex, d, q1⟩ => ?_)
  subst ex
  cases (show u = Value.ref a from rx)
  obtain ⟨t1, t2⟩ := n_type I1 d
  refine ⟨t1, t2, ?_⟩
  rw [m.trees]
  refine Calls.callWith_builtin rfl (Calls.evalArgs_plain (Calls.spliced_cons (thn (he.run pins s1 σ H1 _ I1 q1) fun iv s2 ⟨y, H2, I2, ry, q2⟩ =>
    Calls.spliced_cons (thn (hf.run pins s2 σ H2 _ I2 q2) fun fv s3 ⟨z, H3, I3, rz, b, kvs, k, ⟨a', ex, ey, e, hks, hk, hd⟩, q3⟩ => Calls.spliced_nil ?_))))
  subst ey
  cases (show iv = Value.ref b from ry)
  exact n_get2 hu I3 e hks hk hd rz fun w' s4 I4 rw' => ⟨_, H3, I4, rw', q3⟩
theorem ps_nput (hu : X.A.units + 64 < cLine) (ho : PE X o td) (hi : PE X i ty) (hv : PE X value tv) (hs : swapsWith value (some (.Subscript o i pos')) pos.line X.env = pure false) :
    PS X (.Assign [.Subscript o i pos'] value pos) (sNPutA X td ty tv) := by
  refine ⟨fun pins s σ H D I h => ?_⟩
  refine wpAny_Assign_Subscript (thn (hv.run pins s σ H _ I h) fun r s1 ⟨v, H1, I1, rv, q1⟩ => thn (ho.run pins s1 σ H1 _ I1 q1) fun u s2 ⟨x, H2, I2, rx, q2⟩ => thn (hi.run pins s2 σ H2 _ I2 q2) fun iv s3 ⟨y, H3, I3, ry, a, b, kvs, k, a', ex, ey, e, hks, hk, hd, hl, q3⟩ => ?_) hs
  subst ex ey
  cases (show u = Value.ref a from rx)
  cases (show iv = Value.ref b from ry)
  exact n_setItem hu I3 e hks hk hd hl rv fun s4 I4 => ⟨σ, _, I4, q3⟩
end
end SB
/-! SB, part 2: how plain values and the own heap lie in the layer's heap. -/
namespace SB
open PySem PySem.Spec PyProof.Rows L2

/-- the fixed part: the written part, where the classes stand -/
structure Cn where
  K : PySem.W.Frag
  cls : Str → Option Addr
  P : Program
  w : World
/-- a moment: what is frozen, where the own heap's objects lie, how many there were, the layer's heap -/
structure Gh where
  Fz : Addr → Prop
  rho : Nat → Addr
  n : Nat
  H : Hp
  pin : Addr := 0
/-- an instance -/
def isIns : MO → Bool
  | .ins _ _ _ => true
  | _ => false
/-- a tuple of the written part -/
def KTup (K : PySem.W.Frag) (a : Addr) (xs : List V) : Prop :=
  ∃ (o : Obj) (its : Array Value) (n : Nat), K.lookup a = some o ∧ o.cls = .type "tuple" ∧ (o.dict = none ∧ o.data = .seq its n) ∧ its.size ≤ sizeLine ∧ Vals xs its.toList
/-- a list of the written part -/
def KLst (K : PySem.W.Frag) (a : Addr) (xs : List V) : Prop :=
  ∃ (o : Obj) (its : Array Value) (n : Nat), K.lookup a = some o ∧ o.cls = .type "list" ∧ o.dict = none ∧ o.data = .seq its n ∧ its.size ≤ sizeLine ∧ Vals xs its.toList
def keyW : W → Option Key
  | .int i => some (.inl i)
  | .str x => some (.inr x)
  | _ => none
mutual
/-- a key of any depth -/
def keyN : W → Option NestedKey
  | .int i => some (.num i)
  | .str x => some (.text x)
  | .tup ws => match keyNs ws with
    | some ks => some (.tup ks)
    | none => none
  | _ => none
def keyNs : List W → Option (List NestedKey)
  | [] => some []
  | w :: ws => match keyN w with
    | some k => (match keyNs ws with
      | some ks => some (k :: ks)
      | none => none)
    | none => none
end
/-- a tuple as a key -/
def keyT : W → Option NestedKey
  | .tup ws => match keyN (.tup ws) with
    | some k => if k.depth ≤ 8 then some k else none
    | none => none
  | _ => none
mutual
def RW (c : Cn) (g : Gh) : W → V → Prop
  | .non, v => v = .non
  | .bl b, v => v = .bl b
  | .int i, v => v = .int i
  | .str x, v => v = .str x
  | .byt b, v => v = .byt b
  | .tup ws, v => ∃ p vs, v = .ref p ∧ ((g.Fz p ∧ g.H p = some (.tup vs)) ∨ KTup c.K p vs) ∧ ws.length ≤ sizeLine ∧ RWs c g ws vs
  | .fl ws, v => ∃ p vs, v = .ref p ∧ g.Fz p ∧ g.H p = some (.lst vs) ∧ ws.length ≤ sizeLine ∧ RWs c g ws vs
  | .obj C ks ws, v => ∃ p cA dx fs, v = .ref p ∧ g.Fz p ∧ c.cls C = some cA ∧ g.H p = some (.ins cA dx fs) ∧ fs.map (·.1) = ks ∧ RWs c g ws (fs.map (·.2))
  | .fd ks ws, v => ∃ p kvs, v = .ref p ∧ g.Fz p ∧ g.H p = some (.dK kvs) ∧ ks.map keyW = kvs.map (fun q => some q.1) ∧ RWs c g ws (kvs.map (·.2))
  | .ref a, v => a < g.n ∧ v = .ref (g.rho a)
  | .scr ns, v => ∃ p, v = .ref p ∧ ((∃ o, g.H p = some (.frz o (.lst (ns.map V.int)))) ∨ KLst c.K p (ns.map V.int)) ∧ ns.length ≤ 1000
def RWs (c : Cn) (g : Gh) : List W → List V → Prop
  | [], vs => vs = []
  | w :: ws, vs => ∃ v r, vs = v :: r ∧ RW c g w v ∧ RWs c g ws r
end
/-- an object of the own heap -/
def RO (c : Cn) (g : Gh) (o : MO) (h : Option HO) : Prop := match o with
  | .lst ws => ∃ vs, h = some (.lst vs) ∧ ws.length ≤ sizeLine ∧ RWs c g ws vs
  | .dic kvs => ∃ es : List (Key × V), h = some (.dK es) ∧ kvs.map (fun q => keyW q.1) = es.map (fun q => some q.1) ∧ RWs c g (kvs.map (·.2)) (es.map (·.2))
  | .lkd kvs => ∃ (o : Obj) (es : List (Key × V)), h = some (.frz o (.dK es)) ∧ kvs.map (fun q => keyW q.1) = es.map (fun q => some q.1) ∧ RWs c g (kvs.map (·.2)) (es.map (·.2))
  | .dcN kvs => ∃ (a : Addr) (es : List EN), h = some (extN c.P c.w a es) ∧ kvs.map (fun q => keyT q.1) = es.map (fun x => some x.1) ∧ RWs c g (kvs.map (·.1)) (es.map fun x => V.ref x.2.1) ∧ RWs c g (kvs.map (·.2)) (es.map (·.2.2))
  | .lkN kvs => ∃ (o : Obj) (a : Addr) (es : List EN), h = some (.frz o (extN c.P c.w a es)) ∧ kvs.map (fun q => keyT q.1) = es.map (fun x => some x.1) ∧ RWs c g (kvs.map (·.1)) (es.map fun x => V.ref x.2.1) ∧ RWs c g (kvs.map (·.2)) (es.map (·.2.2))
  | .ins C ks ws => ∃ cA dx fs, h = some (.ins cA dx fs) ∧ c.cls C = some cA ∧ fs.map (·.1) = ks ∧ RWs c g ws (fs.map (·.2))
def live (g : Gh) (S : Hm) (p : Addr) : Prop := ∃ a o, heapAt S a = some o ∧ g.rho a = p
structure HRel (c : Cn) (g : Gh) (S : Hm) : Prop where
  n : g.n = S.length
  ob : ∀ a o, heapAt S a = some o → RO c g o (g.H (g.rho a)) ∧ ¬ g.Fz (g.rho a)
  inj : ∀ a b oa ob, heapAt S a = some oa → heapAt S b = some ob → g.rho a = g.rho b → a = b
  fz : ∀ p, g.Fz p → g.H p ≠ none
structure Ext (g : Gh) (S : Hm) (g' : Gh) (S' : Hm) : Prop where
  fz : ∀ p, g.Fz p → g'.Fz p
  old : ∀ p, g.H p ≠ none → g'.Fz p → g.Fz p
  keep : ∀ p o, g.H p = some o → ¬ live g S p → g'.H p = some o
  tr : ∀ p, g.H p ≠ none → g'.H p ≠ none
  lv : ∀ p, live g' S' p → live g S p ∨ g.H p = none
  rho : ∀ a, a < g.n → g'.rho a = g.rho a
  n : g.n ≤ g'.n
  lk : ∀ p o u, g.H p = some (.frz o u) → g'.H p = some (.frz o u)
structure SRel (c : Cn) (g0 : Gh) (S0 : Hm) (sm : Sl) (σ : L2.St) (g : Gh) (S : Hm) : Prop where
  h : HRel c g S
  x : Ext g0 S0 g S
  len : sm.length = σ.length
  val : ∀ (i : Nat) (w : W), sm[i]? = some (some (.val w)) → ∃ v, σ[i]? = some (some v) ∧ RW c g w v
  own : ∀ (i : Nat) (o : MO), sm[i]? = some (some (.own o)) → ∃ p, σ[i]? = some (some (.ref p)) ∧ RO c g o (g.H p) ∧ ¬ g.Fz p ∧ ¬ live g S p ∧ g0.H p = none
  sep : ∀ (i j : Nat) (o u : MO), i ≠ j → sm[i]? = some (some (.own o)) → sm[j]? = some (some (.own u)) → σ[i]? ≠ σ[j]?
  pn : ∀ (i : Nat) (o : MO), sm[i]? = some (some (.own o)) → isIns o = true → σ[i]? = some (some (.ref g0.pin))

theorem heapAt_lt {S : Hm} {a : Nat} {o : MO} (h : heapAt S a = some o) : a < S.length := by
  unfold heapAt at h
  split at h
  · rename_i e
    exact (List.getElem?_eq_some_iff.mp e).1
  · cases h
theorem Ext.refl (g : Gh) (S : Hm) : Ext g S g S := ⟨fun _ h => h, fun _ _ h => h, fun _ _ h _ => h, fun _ h => h, fun _ h => .inl h, fun _ _ => rfl, Nat.le_refl _, fun _ _ _ h => h⟩
theorem Ext.trans {g g1 g2 : Gh} {S S1 S2 : Hm} (a : Ext g S g1 S1) (b : Ext g1 S1 g2 S2) : Ext g S g2 S2 where
  fz := fun p h => b.fz p (a.fz p h)
  old := fun p h z => a.old p h (b.old p (a.tr p h) z)
  keep := fun p o h nl => b.keep p o (a.keep p o h nl) fun z => by
    rcases a.lv p z with z | z
    · exact nl z
    · rw [h] at z; cases z
  tr := fun p h => b.tr p (a.tr p h)
  lv := fun p z => by
    rcases b.lv p z with z | z
    · exact a.lv p z
    · by_cases h : g.H p = none
      · exact .inr h
      · exact absurd z (a.tr p h)
  rho := fun x h => (b.rho x (Nat.lt_of_lt_of_le h a.n)).trans (a.rho x h)
  n := Nat.le_trans a.n b.n
  lk := fun p o u h => b.lk p o u (a.lk p o u h)
theorem HRel.nolive {c : Cn} {g : Gh} {S : Hm} (h : HRel c g S) {p : Addr} (z : g.Fz p) : ¬ live g S p := fun ⟨a, o, e, r⟩ => by
  have := (h.ob a o e).2
  rw [r] at this
  exact this z
/-- what a value leans on is kept -/
structure Le (g g' : Gh) : Prop where
  fz : ∀ p, g.Fz p → g'.Fz p
  keep : ∀ p o, g.Fz p → g.H p = some o → g'.H p = some o
  rho : ∀ a, a < g.n → g'.rho a = g.rho a
  n : g.n ≤ g'.n
  lk : ∀ p o u, g.H p = some (.frz o u) → g'.H p = some (.frz o u)
theorem Ext.le {c : Cn} {g g' : Gh} {S S' : Hm} (h : HRel c g S) (x : Ext g S g' S') : Le g g' := ⟨x.fz, fun p o f e => x.keep p o e (h.nolive f), x.rho, x.n, x.lk⟩
mutual
theorem RW.le {c : Cn} {g g' : Gh} (x : Le g g') : ∀ (w : W) (v : V), RW c g w v → RW c g' w v
  | .non, _, r => r
  | .bl _, _, r => r
  | .int _, _, r => r
  | .str _, _, r => r
  | .byt _, _, r => r
  | .tup ws, v, r => by
    unfold RW at r ⊢
    obtain ⟨p, vs, e, r1, z, r2⟩ := r
    refine ⟨p, vs, e, ?_, z, RWs.le x ws vs r2⟩
    rcases r1 with ⟨f, r1⟩ | r1
    · exact .inl ⟨x.fz p f, x.keep p _ f r1⟩
    · exact .inr r1
  | .fl ws, v, r => by
    unfold RW at r ⊢
    obtain ⟨p, vs, e, f, r1, z, r2⟩ := r
    exact ⟨p, vs, e, x.fz p f, x.keep p _ f r1, z, RWs.le x ws vs r2⟩
  | .obj C ks ws, v, r => by
    unfold RW at r ⊢
    obtain ⟨p, cA, dx, fs, e, f, e2, r1, e3, r2⟩ := r
    exact ⟨p, cA, dx, fs, e, x.fz p f, e2, x.keep p _ f r1, e3, RWs.le x ws _ r2⟩
  | .fd ks ws, v, r => by
    unfold RW at r ⊢
    obtain ⟨p, kvs, e, f, r1, e3, r2⟩ := r
    exact ⟨p, kvs, e, x.fz p f, x.keep p _ f r1, e3, RWs.le x ws _ r2⟩
  | .ref a, v, r => by
    unfold RW at r ⊢
    obtain ⟨z, e⟩ := r
    exact ⟨Nat.lt_of_lt_of_le z x.n, by rw [x.rho a z]; exact e⟩
  | .scr ns, v, r => by
    unfold RW at r ⊢
    obtain ⟨p, e, r1, z⟩ := r
    refine ⟨p, e, ?_, z⟩
    rcases r1 with ⟨o, r1⟩ | r1
    · exact .inl ⟨o, x.lk p _ _ r1⟩
    · exact .inr r1
theorem RWs.le {c : Cn} {g g' : Gh} (x : Le g g') : ∀ (ws : List W) (vs : List V), RWs c g ws vs → RWs c g' ws vs
  | [], _, r => by unfold RWs at r ⊢; exact r
  | w :: ws, _, r => by
    unfold RWs at r ⊢
    obtain ⟨v, t, e, r1, r2⟩ := r
    exact ⟨v, t, e, RW.le x w v r1, RWs.le x ws t r2⟩
end
theorem RW.mono {c : Cn} {g g' : Gh} {S S' : Hm} (h : HRel c g S) (x : Ext g S g' S') (w : W) (v : V) (r : RW c g w v) : RW c g' w v := RW.le (x.le h) w v r
theorem RWs.mono {c : Cn} {g g' : Gh} {S S' : Hm} (h : HRel c g S) (x : Ext g S g' S') (ws : List W) (vs : List V) (r : RWs c g ws vs) : RWs c g' ws vs := RWs.le (x.le h) ws vs r
theorem RWs.length {c : Cn} {g : Gh} : ∀ {ws : List W} {vs : List V}, RWs c g ws vs → ws.length = vs.length
  | [], _, r => by unfold RWs at r; subst r; rfl
  | w :: ws, _, r => by
    unfold RWs at r
    obtain ⟨v, t, e, r1, r2⟩ := r
    subst e
    rw [List.length_cons, List.length_cons, RWs.length r2]
theorem RWs.nil {c : Cn} {g : Gh} : RWs c g [] [] := by unfold RWs; rfl
theorem RWs.cons {c : Cn} {g : Gh} {w : W} {ws : List W} {v : V} {vs : List V} (a : RW c g w v) (b : RWs c g ws vs) : RWs c g (w :: ws) (v :: vs) := by unfold RWs; exact ⟨v, vs, rfl, a, b⟩
theorem RWs.cons' {c : Cn} {g : Gh} {w : W} {ws : List W} {vs : List V} (r : RWs c g (w :: ws) vs) : ∃ v t, vs = v :: t ∧ RW c g w v ∧ RWs c g ws t := by unfold RWs at r; exact r
theorem RWs.get {c : Cn} {g : Gh} : ∀ {ws : List W} {vs : List V} {i : Nat} {w : W}, RWs c g ws vs → ws[i]? = some w → ∃ v, vs[i]? = some v ∧ RW c g w v
  | [], _, _, _, _, e => by simp at e
  | x :: xs, _, 0, _, r, e => by
    obtain ⟨v, t, rfl, r1, r2⟩ := r.cons'
    simp at e; subst e
    exact ⟨v, rfl, r1⟩
  | x :: xs, _, i + 1, w, r, e => by
    obtain ⟨v, t, rfl, r1, r2⟩ := r.cons'
    obtain ⟨u, h1, h2⟩ := RWs.get (i := i) r2 (by simpa using e)
    exact ⟨u, by simpa using h1, h2⟩
theorem RWs.append {c : Cn} {g : Gh} : ∀ {ws xs : List W} {vs ys : List V}, RWs c g ws vs → RWs c g xs ys → RWs c g (ws ++ xs) (vs ++ ys)
  | [], _, _, _, r, q => by unfold RWs at r; subst r; exact q
  | w :: ws, _, _, _, r, q => by
    obtain ⟨v, t, rfl, r1, r2⟩ := r.cons'
    exact .cons r1 (RWs.append r2 q)
theorem RWs.take {c : Cn} {g : Gh} : ∀ {ws : List W} {vs : List V} (n : Nat), RWs c g ws vs → RWs c g (ws.take n) (vs.take n)
  | _, _, 0, _ => by simp only [List.take_zero]; exact .nil
  | [], _, n + 1, r => by unfold RWs at r; subst r; simp only [List.take_nil]; exact .nil
  | w :: ws, _, n + 1, r => by
    obtain ⟨v, t, rfl, r1, r2⟩ := r.cons'
    simp only [List.take_succ_cons]
    exact .cons r1 (RWs.take n r2)
theorem RWs.drop {c : Cn} {g : Gh} : ∀ {ws : List W} {vs : List V} (n : Nat), RWs c g ws vs → RWs c g (ws.drop n) (vs.drop n)
  | _, _, 0, r => by simp only [List.drop_zero]; exact r
  | [], _, n + 1, r => by unfold RWs at r; subst r; simp only [List.drop_nil]; exact .nil
  | w :: ws, _, n + 1, r => by
    obtain ⟨v, t, rfl, r1, r2⟩ := r.cons'
    simp only [List.drop_succ_cons]
    exact RWs.drop n r2
theorem RO.le {c : Cn} {g g' : Gh} (x : Le g g') {o : MO} {u : Option HO} (r : RO c g o u) : RO c g' o u := by
  cases o with
  | lst ws => obtain ⟨vs, e, z, q⟩ := r; exact ⟨vs, e, z, RWs.le x _ _ q⟩
  | dic kvs => obtain ⟨es, e, z, q⟩ := r; exact ⟨es, e, z, RWs.le x _ _ q⟩
  | lkd kvs => obtain ⟨o, es, e, z, q⟩ := r; exact ⟨o, es, e, z, RWs.le x _ _ q⟩
  | dcN kvs => obtain ⟨a, es, e, z, k, q⟩ := r; exact ⟨a, es, e, z, RWs.le x _ _ k, RWs.le x _ _ q⟩
  | lkN kvs => obtain ⟨o, a, es, e, z, k, q⟩ := r; exact ⟨o, a, es, e, z, RWs.le x _ _ k, RWs.le x _ _ q⟩
  | ins C ks ws => obtain ⟨cA, dx, fs, e, e2, e3, q⟩ := r; exact ⟨cA, dx, fs, e, e2, e3, RWs.le x _ _ q⟩
theorem RO.mono {c : Cn} {g g' : Gh} {S S' : Hm} (h : HRel c g S) (x : Ext g S g' S') {o : MO} {u : Option HO} (r : RO c g o u) : RO c g' o u := RO.le (x.le h) r
theorem RO.some {c : Cn} {g : Gh} {o : MO} {u : Option HO} (r : RO c g o u) : u ≠ none := by
  cases o with
  | lst ws => obtain ⟨vs, e, z, q⟩ := r; rw [e]; intro z; cases z
  | dic kvs => obtain ⟨es, e, z, q⟩ := r; rw [e]; intro z; cases z
  | lkd kvs => obtain ⟨o, es, e, z, q⟩ := r; rw [e]; intro z; cases z
  | dcN kvs => obtain ⟨a, es, e, z, q⟩ := r; rw [e]; intro z; cases z
  | lkN kvs => obtain ⟨o, a, es, e, z, q⟩ := r; rw [e]; intro z; cases z
  | ins C ks ws => obtain ⟨cA, dx, fs, e, e2, e3, q⟩ := r; rw [e]; intro z; cases z
/-- the slots behind an expression -/
theorem SRel.step {c : Cn} {g0 g g' : Gh} {S0 S S' : Hm} {sm : Sl} {σ : L2.St} (r : SRel c g0 S0 sm σ g S) (h : HRel c g' S') (x : Ext g S g' S') : SRel c g0 S0 sm σ g' S' where
  h := h
  x := r.x.trans x
  len := r.len
  val := fun i w e => by
    obtain ⟨v, e1, r1⟩ := r.val i w e
    exact ⟨v, e1, RW.mono r.h x w v r1⟩
  own := fun i o e => by
    obtain ⟨p, e1, r1, f, nl, z⟩ := r.own i o e
    have hp : g.H p ≠ none := r1.some
    refine ⟨p, e1, ?_, fun q => f (x.old p hp q), fun q => ?_, z⟩
    · cases e2 : g.H p with
      | none => exact absurd e2 hp
      | some u =>
        rw [x.keep p u e2 nl]
        rw [e2] at r1
        exact RO.mono r.h x r1
    · rcases x.lv p q with q | q
      · exact nl q
      · exact hp q
  sep := r.sep
  pn := r.pn
/-- a new object, frozen as it is made -/
def Gh.fresh (g : Gh) (p : Addr) (o : HO) : Gh := { g with Fz := fun q => q = p ∨ g.Fz q, H := upd g.H p o }
/-- a new object, not frozen -/
def Gh.lay (g : Gh) (p : Addr) (o : HO) : Gh := { g with H := upd g.H p o }
theorem live_lay {g : Gh} {S : Hm} {p q : Addr} {o : HO} : live (g.lay p o) S q ↔ live g S q := Iff.rfl
theorem live_fresh {g : Gh} {S : Hm} {p q : Addr} {o : HO} : live (g.fresh p o) S q ↔ live g S q := Iff.rfl
theorem HRel.rho_some {c : Cn} {g : Gh} {S : Hm} (h : HRel c g S) {a : Nat} {o : MO} (e : heapAt S a = some o) : g.H (g.rho a) ≠ none := (h.ob a o e).1.some
theorem Ext.lay {c : Cn} {g : Gh} {S : Hm} (h : HRel c g S) {p : Addr} (np : g.H p = none) (o : HO) : Ext g S (g.lay p o) S where
  fz := fun _ z => z
  old := fun _ _ z => z
  keep := fun q u e _ => by
    show upd g.H p o q = some u
    rw [upd_ne (ne_of_none e np)]; exact e
  tr := fun q z => by
    show upd g.H p o q ≠ none
    unfold upd; split
    · intro y; cases y
    · exact z
  lv := fun _ z => .inl z
  rho := fun _ _ => rfl
  n := Nat.le_refl _
  lk := fun q u w e => by
    show upd g.H p o q = _
    rw [upd_ne (ne_of_none e np)]; exact e
theorem Ext.fresh {c : Cn} {g : Gh} {S : Hm} (h : HRel c g S) {p : Addr} (np : g.H p = none) (o : HO) : Ext g S (g.fresh p o) S where
  fz := fun _ z => .inr z
  old := fun q hq z => by
    rcases z with z | z
    · subst z; exact absurd np hq
    · exact z
  keep := fun q u e _ => by
    show upd g.H p o q = some u
    rw [upd_ne (ne_of_none e np)]; exact e
  tr := fun q z => by
    show upd g.H p o q ≠ none
    unfold upd; split
    · intro y; cases y
    · exact z
  lv := fun _ z => .inl z
  rho := fun _ _ => rfl
  n := Nat.le_refl _
  lk := fun q u w e => by
    show upd g.H p o q = _
    rw [upd_ne (ne_of_none e np)]; exact e
theorem HRel.lay {c : Cn} {g : Gh} {S : Hm} (h : HRel c g S) {p : Addr} (np : g.H p = none) (o : HO) : HRel c (g.lay p o) S where
  n := h.n
  ob := fun a u e => by
    obtain ⟨r, f⟩ := h.ob a u e
    have ne : g.rho a ≠ p := fun z => by rw [z, np] at r; exact r.some rfl
    refine ⟨?_, f⟩
    show RO c (g.lay p o) u (upd g.H p o (g.rho a))
    rw [upd_ne ne]
    exact RO.mono h (Ext.lay h np o) r
  inj := h.inj
  fz := fun q z => (Ext.lay h np o).tr q (h.fz q z)
theorem HRel.fresh {c : Cn} {g : Gh} {S : Hm} (h : HRel c g S) {p : Addr} (np : g.H p = none) (o : HO) : HRel c (g.fresh p o) S where
  n := h.n
  ob := fun a u e => by
    obtain ⟨r, f⟩ := h.ob a u e
    have ne : g.rho a ≠ p := fun z => by rw [z, np] at r; exact r.some rfl
    refine ⟨?_, fun z => ?_⟩
    · show RO c (g.fresh p o) u (upd g.H p o (g.rho a))
      rw [upd_ne ne]
      exact RO.mono h (Ext.fresh h np o) r
    · rcases z with z | z
      · exact ne z
      · exact f z
  inj := h.inj
  fz := fun q z => by
    show upd g.H p o q ≠ none
    rcases z with z | z
    · subst z; rw [upd_same]; intro y; cases y
    · exact (Ext.fresh h np o).tr q (h.fz q z)
/-- one more frozen -/
def Gh.frz (g : Gh) (p : Addr) : Gh := { g with Fz := fun q => q = p ∨ g.Fz q }
theorem Gh.frz_le (g : Gh) (p : Addr) : Le g (g.frz p) := ⟨fun _ z => .inr z, fun _ _ _ e => e, fun _ _ => rfl, Nat.le_refl _, fun _ _ _ e => e⟩
theorem HRel.frz {c : Cn} {g : Gh} {S : Hm} (h : HRel c g S) {p : Addr} (hp : g.H p ≠ none) (nl : ¬ live g S p) : HRel c (g.frz p) S where
  n := h.n
  ob := fun a o e => by
    obtain ⟨r, f⟩ := h.ob a o e
    refine ⟨RO.le (g.frz_le p) r, fun z => ?_⟩
    rcases z with z | z
    · exact nl ⟨a, o, e, z⟩
    · exact f z
  inj := h.inj
  fz := fun q z => by
    rcases z with z | z
    · subst z; exact hp
    · exact h.fz q z
theorem Ext.frz {c : Cn} {g0 g : Gh} {S0 S : Hm} (x : Ext g0 S0 g S) {p : Addr} (np : g0.H p = none) : Ext g0 S0 (g.frz p) S where
  fz := fun q z => .inr (x.fz q z)
  old := fun q hq z => by
    rcases z with z | z
    · subst z; exact absurd np hq
    · exact x.old q hq z
  keep := x.keep
  tr := x.tr
  lv := x.lv
  rho := x.rho
  n := x.n
  lk := x.lk
/-- an object is laid on the own heap -/
def Gh.put (g : Gh) (p : Addr) : Gh := { g with rho := fun a => if a = g.n then p else g.rho a, n := g.n + 1 }
theorem Gh.put_le (g : Gh) (p : Addr) : Le g (g.put p) := ⟨fun _ z => z, fun _ _ _ e => e, fun a h => by show (if a = g.n then p else g.rho a) = _; rw [if_neg (Nat.ne_of_lt h)], Nat.le_succ _, fun _ _ _ e => e⟩
theorem heapAt_app {S : Hm} {o : MO} {a : Nat} : heapAt (S ++ [some o]) a = if a = S.length then some o else heapAt S a := by
  unfold heapAt
  by_cases h : a = S.length
  · subst h; simp
  · rw [if_neg h]
    by_cases h2 : a < S.length
    · rw [List.getElem?_append_left h2]
    · rw [List.getElem?_eq_none (by simp; omega), List.getElem?_eq_none (by omega)]
theorem live_put {c : Cn} {g : Gh} {S : Hm} (h : HRel c g S) {p : Addr} {o : MO} {q : Addr} : live (g.put p) (S ++ [some o]) q ↔ live g S q ∨ q = p := by
  constructor
  · rintro ⟨a, u, e, r⟩
    rw [heapAt_app] at e
    by_cases ha : a = S.length
    · right
      rw [← r]
      show (if a = g.n then p else g.rho a) = p
      rw [if_pos (ha.trans h.n.symm)]
    · rw [if_neg ha] at e
      refine .inl ⟨a, u, e, ?_⟩
      rw [← r]
      show _ = (if a = g.n then p else g.rho a)
      rw [if_neg (by rw [h.n]; exact ha)]
  · rintro (⟨a, u, e, r⟩ | rfl)
    · have ha := heapAt_lt e
      refine ⟨a, u, by rw [heapAt_app, if_neg (Nat.ne_of_lt ha)]; exact e, ?_⟩
      show (if a = g.n then p else g.rho a) = q
      rw [if_neg (by rw [h.n]; exact Nat.ne_of_lt ha)]
      exact r
    · exact ⟨S.length, o, by rw [heapAt_app, if_pos rfl], by show (if S.length = g.n then q else _) = q; rw [if_pos h.n.symm]⟩
theorem HRel.put {c : Cn} {g : Gh} {S : Hm} (h : HRel c g S) {p : Addr} {o : MO} (r : RO c g o (g.H p)) (f : ¬ g.Fz p) (nl : ¬ live g S p) : HRel c (g.put p) (S ++ [some o]) where
  n := by show g.n + 1 = _; rw [h.n]; simp
  ob := fun a u e => by
    rw [heapAt_app] at e
    by_cases ha : a = S.length
    · rw [if_pos ha] at e
      cases e
      show RO c (g.put p) o (g.H (if a = g.n then p else g.rho a)) ∧ ¬ g.Fz (if a = g.n then p else g.rho a)
      rw [if_pos (ha.trans h.n.symm)]
      exact ⟨RO.le (g.put_le p) r, f⟩
    · rw [if_neg ha] at e
      show RO c (g.put p) u (g.H (if a = g.n then p else g.rho a)) ∧ ¬ g.Fz (if a = g.n then p else g.rho a)
      rw [if_neg (by rw [h.n]; exact ha)]
      exact ⟨RO.le (g.put_le p) (h.ob a u e).1, (h.ob a u e).2⟩
  inj := fun a b oa ob ea eb e => by
    rw [heapAt_app] at ea eb
    have e : (if a = g.n then p else g.rho a) = (if b = g.n then p else g.rho b) := e
    rw [h.n] at e
    by_cases ha : a = S.length
    · by_cases hb : b = S.length
      · rw [ha, hb]
      · rw [if_pos ha, if_neg hb] at e
        rw [if_neg hb] at eb
        exact absurd ⟨b, ob, eb, e.symm⟩ nl
    · rw [if_neg ha] at e ea
      by_cases hb : b = S.length
      · rw [if_pos hb] at e
        exact absurd ⟨a, oa, ea, e⟩ nl
      · rw [if_neg hb] at e eb
        exact h.inj a b oa ob ea eb e
  fz := h.fz
theorem Ext.put {c : Cn} {g0 g : Gh} {S0 S : Hm} (h : HRel c g S) (x : Ext g0 S0 g S) {p : Addr} (np : g0.H p = none) (o : MO) : Ext g0 S0 (g.put p) (S ++ [some o]) where
  fz := x.fz
  old := x.old
  keep := x.keep
  tr := x.tr
  lv := fun q z => by
    rcases (live_put h).mp z with z | z
    · exact x.lv q z
    · subst z; exact .inr np
  rho := fun a ha => ((g.put_le p).rho a (Nat.lt_of_lt_of_le ha x.n)).trans (x.rho a ha)
  n := Nat.le_trans x.n (Nat.le_succ _)
  lk := x.lk
/-- an object is changed -/
def Gh.chg (g : Gh) (p : Addr) (o : HO) : Gh := { g with H := upd g.H p o }
def noFrz (o : HO) : Prop := ∀ a u, o ≠ .frz a u
theorem Gh.chg_le {g : Gh} {p : Addr} {o u : HO} (f : ¬ g.Fz p) (hp : g.H p = some u) (nf : noFrz u) : Le g (g.chg p o) where
  fz := fun _ z => z
  keep := fun q x fq e => by
    show upd g.H p o q = some x
    rw [upd_ne (fun z => by rw [z] at fq; exact f fq)]; exact e
  rho := fun _ _ => rfl
  n := Nat.le_refl _
  lk := fun q x y e => by
    show upd g.H p o q = _
    rw [upd_ne (fun z => by rw [z, hp] at e; cases e; exact nf _ _ rfl)]; exact e
theorem HRel.chg {c : Cn} {g : Gh} {S : Hm} (h : HRel c g S) {p : Addr} {o u : HO} (f : ¬ g.Fz p) (nl : ¬ live g S p) (hp : g.H p = some u) (nf : noFrz u) : HRel c (g.chg p o) S where
  n := h.n
  ob := fun a x e => by
    obtain ⟨r, f'⟩ := h.ob a x e
    have ne : g.rho a ≠ p := fun z => nl ⟨a, x, e, z⟩
    refine ⟨?_, f'⟩
    show RO c (g.chg p o) x (upd g.H p o (g.rho a))
    rw [upd_ne ne]
    exact RO.le (Gh.chg_le f hp nf) r
  inj := h.inj
  fz := fun q z => by
    show upd g.H p o q ≠ none
    rw [upd_ne (fun y => by rw [y] at z; exact f z)]; exact h.fz q z
theorem Ext.chg {g0 g : Gh} {S0 S : Hm} (x : Ext g0 S0 g S) {p : Addr} {o u : HO} (np : g0.H p = none) (hp : g.H p = some u) : Ext g0 S0 (g.chg p o) S where
  fz := x.fz
  old := x.old
  keep := fun q y e nl => by
    show upd g.H p o q = some y
    rw [upd_ne (fun z => by rw [z, np] at e; cases e)]; exact x.keep q y e nl
  tr := fun q e => by
    show upd g.H p o q ≠ none
    unfold upd; split
    · intro z; cases z
    · exact x.tr q e
  lv := x.lv
  rho := x.rho
  n := x.n
  lk := fun q y z e => by
    show upd g.H p o q = _
    rw [upd_ne (fun w => by rw [w, np] at e; cases e)]; exact x.lk q y z e
theorem SRel.chg {c : Cn} {g0 g : Gh} {S0 S : Hm} {sm : Sl} {σ : L2.St} (r : SRel c g0 S0 sm σ g S) {i : Nat} {o : MO} {o' : MO} {p : Addr} {u : HO} (e : sm[i]? = some (some (.own o))) (es : σ[i]? = some (some (.ref p)))
    (f : ¬ g.Fz p) (nl : ¬ live g S p) (np : g0.H p = none) (hp : g.H p = some u) (nf : noFrz u) {w : HO} (ro : RO c (g.chg p w) o' (some w)) (hii : isIns o' = isIns o := by rfl) : SRel c g0 S0 (sm.set i (some (.own o'))) σ (g.chg p w) S := by
  have le := Gh.chg_le (o := w) f hp nf
  refine ⟨r.h.chg f nl hp nf, r.x.chg np hp, by simp [r.len], fun j x ej => ?_, fun j x ej => ?_, fun j k x y n e1 e2 => ?_, fun j x ej ix => ?_⟩
  · rw [List.getElem?_set] at ej
    by_cases hi : i = j
    · rw [if_pos hi] at ej; split at ej <;> cases ej
    · rw [if_neg hi] at ej
      obtain ⟨v, e1, q⟩ := r.val j x ej
      exact ⟨v, e1, RW.le le x v q⟩
  · rw [List.getElem?_set] at ej
    by_cases hi : i = j
    · rw [if_pos hi] at ej
      subst hi
      split at ej
      · cases ej
        refine ⟨p, es, ?_, f, nl, np⟩
        show RO c (g.chg p w) o' (upd g.H p w p)
        rw [upd_same]; exact ro
      · cases ej
    · rw [if_neg hi] at ej
      obtain ⟨q, e1, ro', f', nl', np'⟩ := r.own j x ej
      refine ⟨q, e1, ?_, f', nl', np'⟩
      have ne : q ≠ p := fun z => r.sep i j o x hi e ej (by rw [es, e1, z])
      show RO c (g.chg p w) x (upd g.H p w q)
      rw [upd_ne ne]
      exact RO.le le ro'
  · have key : ∀ (j : Nat) (x : MO), (sm.set i (some (.own o')))[j]? = some (some (.own x)) → ∃ x', sm[j]? = some (some (.own x')) := fun j x ej => by
      rw [List.getElem?_set] at ej
      by_cases hi : i = j
      · subst hi; exact ⟨o, e⟩
      · rw [if_neg hi] at ej; exact ⟨x, ej⟩
    obtain ⟨x', e1'⟩ := key j x e1
    obtain ⟨y', e2'⟩ := key k y e2
    exact r.sep j k x' y' n e1' e2'
  · rw [List.getElem?_set] at ej
    by_cases hi : i = j
    · rw [if_pos hi] at ej
      subst hi
      split at ej
      · cases ej
        exact r.pn i o e (by rw [← hii]; exact ix)
      · cases ej
    · rw [if_neg hi] at ej
      exact r.pn j x ej ix
/-- locked -/
def isLk : MO → Bool
  | .lkd _ => true
  | .lkN _ => true
  | _ => false
theorem noFrz_of {c : Cn} {g : Gh} {o : MO} {u : HO} (hk : isLk o = false) (r : RO c g o (some u)) : noFrz u := by
  intro a x z
  subst z
  cases o with
  | lst ws => obtain ⟨vs, e, _⟩ := r; cases e
  | dic kvs => obtain ⟨es, e, _⟩ := r; cases e
  | lkd kvs => cases hk
  | dcN kvs => obtain ⟨a, es, e, _⟩ := r; cases e
  | lkN kvs => cases hk
  | ins C ks ws => obtain ⟨cA, dx, fs, e, _⟩ := r; cases e
theorem heapAt_set {S : Hm} {a b : Nat} {o : MO} (ha : a < S.length) : heapAt (S.set a (some o)) b = if b = a then some o else heapAt S b := by
  unfold heapAt
  rw [List.getElem?_set]
  by_cases h : a = b
  · subst h; rw [if_pos rfl, if_pos ha, if_pos rfl]
  · rw [if_neg h, if_neg (Ne.symm h)]
theorem live_set {g : Gh} {S : Hm} {a : Nat} {o o' : MO} {p : Addr} {w : HO} (e : heapAt S a = some o) : live (g.chg p w) (S.set a (some o')) q ↔ live g S q := by
  have ha := heapAt_lt e
  constructor
  · rintro ⟨b, u, eb, r⟩
    rw [heapAt_set ha] at eb
    by_cases hb : b = a
    · exact ⟨a, o, e, by rw [← hb]; exact r⟩
    · rw [if_neg hb] at eb; exact ⟨b, u, eb, r⟩
  · rintro ⟨b, u, eb, r⟩
    by_cases hb : b = a
    · exact ⟨a, o', by rw [heapAt_set ha, if_pos rfl], by rw [← hb]; exact r⟩
    · exact ⟨b, u, by rw [heapAt_set ha, if_neg hb]; exact eb, r⟩
/-- an object of the own heap is changed -/
theorem HRel.hchg {c : Cn} {g : Gh} {S : Hm} (h : HRel c g S) {a : Nat} {o o' : MO} {w : HO} (e : heapAt S a = some o) (ro : RO c (g.chg (g.rho a) w) o' (some w)) (hk : isLk o = false := by rfl) :
    HRel c (g.chg (g.rho a) w) (S.set a (some o')) ∧ Ext g S (g.chg (g.rho a) w) (S.set a (some o')) := by
  have ha := heapAt_lt e
  obtain ⟨r0, f0⟩ := h.ob a o e
  obtain ⟨u, hu⟩ : ∃ u, g.H (g.rho a) = some u := by
    cases q : g.H (g.rho a) with
    | none => exact absurd q r0.some
    | some u => exact ⟨u, rfl⟩
  have nf : noFrz u := noFrz_of hk (by rw [← hu]; exact r0)
  have le := Gh.chg_le (o := w) f0 hu nf
  refine ⟨⟨by rw [List.length_set]; exact h.n, fun b x eb => ?_, fun b d ob od eb ed z => ?_, fun q z => ?_⟩, ⟨fun _ z => z, fun _ _ z => z, fun q x eq nl => ?_, fun q z => ?_, fun q z => .inl ((live_set e).mp z), fun _ _ => rfl, Nat.le_refl _, fun q x y eq => ?_⟩⟩
  · rw [heapAt_set ha] at eb
    by_cases hb : b = a
    · rw [if_pos hb] at eb
      cases eb
      subst hb
      refine ⟨?_, f0⟩
      show RO c _ o' (upd g.H (g.rho b) w (g.rho b))
      rw [upd_same]; exact ro
    · rw [if_neg hb] at eb
      obtain ⟨r1, f1⟩ := h.ob b x eb
      refine ⟨?_, f1⟩
      show RO c _ x (upd g.H (g.rho a) w (g.rho b))
      rw [upd_ne fun z => hb (h.inj b a x o eb e z)]
      exact RO.le le r1
  · obtain ⟨ob', eb'⟩ : ∃ x, heapAt S b = some x := by
      rw [heapAt_set ha] at eb
      by_cases hb : b = a
      · exact ⟨o, by rw [hb]; exact e⟩
      · rw [if_neg hb] at eb; exact ⟨ob, eb⟩
    obtain ⟨od', ed'⟩ : ∃ x, heapAt S d = some x := by
      rw [heapAt_set ha] at ed
      by_cases hb : d = a
      · exact ⟨o, by rw [hb]; exact e⟩
      · rw [if_neg hb] at ed; exact ⟨od, ed⟩
    exact h.inj b d ob' od' eb' ed' z
  · show upd g.H (g.rho a) w q ≠ none
    rw [upd_ne (fun y => by rw [y] at z; exact f0 z)]; exact h.fz q z
  · show upd g.H (g.rho a) w q = some x
    rw [upd_ne (fun y => nl ⟨a, o, e, y.symm⟩)]; exact eq
  · show upd g.H (g.rho a) w q ≠ none
    unfold upd; split
    · intro z; cases z
    · exact z
  · show upd g.H (g.rho a) w q = _
    rw [upd_ne (fun z => by rw [z, hu] at eq; cases eq; exact nf _ _ rfl)]; exact eq
end SB
/-! SB, part 3: each combinator tells what Python's construct does (expressions). -/
namespace SB
open PySem PySem.Spec PyProof.Rows L2

/-! ### readings -/
def tE (c : Cn) (m : E) : TE := fun σ H Q => ∃ g0 S0 sm g S, g.H = H ∧ SRel c g0 S0 sm σ g S ∧ ∃ w S', m sm S = .ok w S' ∧ ∀ g' v, HRel c g' S' → Ext g S g' S' → RW c g' w v → Q v g'.H
def tT (c : Cn) (m : T) : TT := fun σ H Q => ∃ g0 S0 sm g S, g.H = H ∧ SRel c g0 S0 sm σ g S ∧ ∃ b S', m sm S = .ok b S' ∧ ∀ g', HRel c g' S' → Ext g S g' S' → Q b g'.H
def tA (c : Cn) (m : As) : TA := fun σ H Q => ∃ g0 S0 sm g S, g.H = H ∧ SRel c g0 S0 sm σ g S ∧ ∃ ws S', m sm S = .ok ws S' ∧ ∀ g' vs, HRel c g' S' → Ext g S g' S' → RWs c g' ws vs → Q vs g'.H
/-- a list just made: no one else holds it -/
def tLs (c : Cn) (m : L) : TE := fun σ H Q => ∃ g0 S0 sm g S, g.H = H ∧ SRel c g0 S0 sm σ g S ∧ ∃ ws S', m sm S = .ok ws S' ∧
  ∀ g' p vs, HRel c g' S' → Ext g S g' S' → g'.H p = some (.lst vs) → ws.length ≤ sizeLine → RWs c g' ws vs → ¬ g'.Fz p → ¬ live g' S' p → g.H p = none → Q (.ref p) g'.H
theorem PEimp {X : Cx} {e : Expr} {t t' : TE} (h : PE X e t) (i : ∀ σ H Q, t' σ H Q → t σ H Q) : PE X e t' := ⟨fun pins s σ H Q I hw => h.run pins s σ H Q I (i σ H Q hw)⟩
theorem PTimp {X : Cx} {e : Expr} {t t' : TT} (h : PT X e t) (i : ∀ σ H Q, t' σ H Q → t σ H Q) : PT X e t' := ⟨fun pins s σ H Q I hw => h.run pins s σ H Q I (i σ H Q hw)⟩
theorem PWimp {X : Cx} {e : Expr} {t t' : TT} (h : PW X e t) (i : ∀ σ H Q, t' σ H Q → t σ H Q) : PW X e t' := ⟨fun wh pins s σ H Q I hw => h.run wh pins s σ H Q I (i σ H Q hw)⟩
theorem PAimp {X : Cx} {es : List Expr} {t t' : TA} (h : PA X es t) (i : ∀ σ H Q, t' σ H Q → t σ H Q) : PA X es t' := ⟨fun pos pins s σ H Q I hw => h.run pos pins s σ H Q I (i σ H Q hw)⟩
theorem PSimp {X : Cx} {st : Stmt} {t t' : TS} (h : PS X st t) (i : ∀ D σ H, t' D σ H → t D σ H) : PS X st t' := ⟨fun pins s σ H D I hw => h.run pins s σ H D I (i D σ H hw)⟩
theorem PSsimp {X : Cx} {st : List Stmt} {t t' : TS} (h : PSs X st t) (i : ∀ D σ H, t' D σ H → t D σ H) : PSs X st t' := ⟨fun pins s σ H D I hw => h.run pins s σ H D I (i D σ H hw)⟩

section
variable {c : Cn} {X : Cx} {e a b d : Expr} {ma mb md : E} {pos : Pos} {j : Nat}

/-! ### names, constants -/
theorem e_var {i : Nat} {x : Str} (hN : X.N[i]? = some x) (hv : Vis X.env.scope x) (hd : (x == ("__debug__" : Str)) = false) (hcd : (x == ("__classdict__" : Str)) = false) : PE X (.Name x pos) (tE c (eVar i)) := by
  refine PEimp (pe_var hN hv hd hcd) fun σ H Q h => ?_
  obtain ⟨g0, S0, sm, g, S, rfl, r, w, S', e, q⟩ := h
  obtain ⟨e1, rfl⟩ := opt_ok (show opt (getSlot sm i) S = .ok w S' from e)
  have e2 : sm[i]? = some (some (.val w)) := by
    unfold getSlot at e1
    split at e1
    · rename_i h1
      cases e1
      exact h1
    · cases e1
  obtain ⟨v, e3, r3⟩ := r.val i w e2
  exact ⟨v, e3, q g v r.h (Ext.refl g S') r3⟩
theorem e_const {e : Expr} {v : V} {w : W} (h : PE X e (tC v)) (hr : ∀ g, RW c g w v) : PE X e (tE c (eC w)) := by
  refine PEimp h fun σ H Q h => ?_
  obtain ⟨g0, S0, sm, g, S, rfl, r, w', S', e, q⟩ := h
  cases e
  exact q g v r.h (Ext.refl g S) (hr g)
theorem e_int {i : Int} : PE X (.Constant (.int i) j pos) (tE c (eC (.int i))) := e_const pe_int fun g => by unfold RW; rfl
theorem e_bl {k : Bool} : PE X (.Constant (.bool k) j pos) (tE c (eC (.bl k))) := e_const pe_bl fun g => by unfold RW; rfl
theorem e_non : PE X (.Constant .none j pos) (tE c (eC .non)) := e_const pe_non fun g => by unfold RW; rfl
theorem e_str {x : Str} : PE X (.Constant (.str x) j pos) (tE c (eC (.str x))) := e_const pe_str fun g => by unfold RW; rfl
theorem e_byt {x : List UInt8} : PE X (.Constant (.bytes x) j pos) (tE c (eC (.byt x.toArray))) := e_const (v := .byt x.toArray) pe_byt fun g => by unfold RW; rfl
/-- a module's constant -/
theorem e_glob {x : Str} {v : V} {u : Value} {w : W} (hg : Gl X x) (hm : X.mg x = some u) (r : RelV v u) (hr : ∀ g, RW c g w v) (hd : (x == ("__debug__" : Str)) = false) : PE X (.Name x pos) (tE c (eC w)) := e_const (pe_glob hg hm r hd) hr

/-! ### the pattern: one thing, then another -/
theorem tE_two {f : W → W → Hm → R W} {σ : L2.St} {H : Hp} {Q : VK} {r : R2} (h : tE c (eBin f ma mb) σ H Q)
    (hs : ∀ g S x y v u w S' Q, HRel c g S → RW c g x v → RW c g y u → f x y S = .ok w S' → (∀ g' v', HRel c g' S' → Ext g S g' S' → RW c g' w v' → Q v' g'.H) → r v u g.H Q) :
    tE c ma σ H fun v H1 => tE c mb σ H1 fun u H2 => r v u H2 Q := by
  obtain ⟨g0, S0, sm, g, S, rfl, rl, w, S', e, q⟩ := h
  obtain ⟨x, S1, e1, e⟩ := R.of_bind (show (ma sm S).bind (fun x S1 => (mb sm S1).bind fun y S2 => f x y S2) = .ok w S' from e)
  obtain ⟨y, S2, e2, e3⟩ := R.of_bind e
  refine ⟨g0, S0, sm, g, S, rfl, rl, x, S1, e1, fun g1 v h1 x1 r1 => ?_⟩
  refine ⟨g0, S0, sm, g1, S1, rfl, rl.step h1 x1, y, S2, e2, fun g2 u h2 x2 r2 => ?_⟩
  exact hs g2 S2 x y v u w S' Q h2 (RW.mono h1 x2 x v r1) r2 e3 fun g' v' h' x' r' => q g' v' h' ((x1.trans x2).trans x') r'
/-- an operator's meaning -/
def OpS (c : Cn) (f : W → W → Hm → R W) (r : R2) : Prop :=
  ∀ g S x y v u w S' Q, HRel c g S → RW c g x v → RW c g y u → f x y S = .ok w S' → (∀ g' v', HRel c g' S' → Ext g S g' S' → RW c g' w v' → Q v' g'.H) → r v u g.H Q
theorem e_bin {op : Operator} {r : R2} {f : W → W → Hm → R W} (ho : OpR X (binaryOp op) r) (hs : OpS c f r) (ha : PE X a (tE c ma)) (hb : PE X b (tE c mb)) : PE X (.BinOp a op b pos) (tE c (eBin f ma mb)) :=
  PEimp (pe_op ho ha hb) fun σ H Q h => tE_two h hs
theorem e_cmp {op : CmpOp} {r : R2} {f : W → W → Hm → R W} (ho : OpR X (compareOp op) r) (hs : OpS c f r) (ha : PE X a (tE c ma)) (hb : PE X b (tE c mb)) (hm : behindInMarks op b = false) : PE X (.Compare a [op] [b] pos) (tE c (eBin f ma mb)) :=
  PEimp (pe_cmpR ho ha hb hm) fun σ H Q h => tE_two h hs
/-- a value that is a bool, as a test -/
theorem tT_val {σ : L2.St} {H : Hp} {Q : Bool → Hp → Prop} (h : tT c (tVal ma) σ H Q) : tE c ma σ H fun v H1 => ∃ k, v = .bl k ∧ Q k H1 := by
  obtain ⟨g0, S0, sm, g, S, rfl, rl, b, S', e, q⟩ := h
  obtain ⟨x, S1, e1, e⟩ := R.of_bind (show (ma sm S).bind tBool = .ok b S' from e)
  refine ⟨g0, S0, sm, g, S, rfl, rl, x, S1, e1, fun g1 v h1 x1 r1 => ?_⟩
  cases x with
  | bl k =>
    cases e
    unfold RW at r1
    exact ⟨_, r1, q g1 h1 x1⟩
  | _ => cases e
theorem t_cmp {op : CmpOp} {r : R2} {f : W → W → Hm → R W} (ho : OpR X (compareOp op) r) (hs : OpS c f r) (ha : PE X a (tE c ma)) (hb : PE X b (tE c mb)) (hm : behindInMarks op b = false) : PT X (.Compare a [op] [b] pos) (tT c (tVal (eBin f ma mb))) :=
  PTimp (pt_cmpR ho ha hb hm) fun σ H Q h => tE_two (tT_val h) hs
theorem t_val (h : PE X e (tE c ma)) (he : ∀ whole, isTrue e X.env whole = (do let v ← whole; standAt e.pos; holding [v] (truthy v))) : PT X e (tT c (tVal ma)) :=
  PTimp (pt_val h he) fun σ H Q h => tT_val h

/-! ### chains -/
theorem tE_chain {f f' : W → W → Hm → R W} {r r' : R2} (hs : OpS c f r) (hs' : OpS c f' r') {σ : L2.St} {H : Hp} {Q : VK} (h : tE c (eChain f f' ma mb md) σ H Q) : tChain r r' (tE c ma) (tE c mb) (tE c md) σ H Q := by
  obtain ⟨g0, S0, sm, g, S, rfl, rl, w, S', e, q⟩ := h
  obtain ⟨x, S1, e1, e⟩ := R.of_bind (show (ma sm S).bind (fun x S1 => (mb sm S1).bind fun y S2 => (f x y S2).bind fun z S3 => (tBool z S3).bind fun k S4 => if k = true then (md sm S4).bind fun w S5 => f' y w S5 else .ok (.bl false) S4) = .ok w S' from e)
  obtain ⟨y, S2, e2, e⟩ := R.of_bind e
  obtain ⟨z, S3, e3, e⟩ := R.of_bind e
  obtain ⟨k, S4, e4, e⟩ := R.of_bind e
  refine ⟨g0, S0, sm, g, S, rfl, rl, x, S1, e1, fun g1 v h1 x1 r1 => ?_⟩
  refine ⟨g0, S0, sm, g1, S1, rfl, rl.step h1 x1, y, S2, e2, fun g2 u h2 x2 r2 => ?_⟩
  refine hs g2 S2 x y v u z S3 _ h2 (RW.mono h1 x2 x v r1) r2 e3 fun g3 v3 h3 x3 r3 => ?_
  cases z with
  | bl k' =>
    cases e4
    unfold RW at r3
    refine ⟨_, r3, ?_⟩
    have rl3 := (((rl.step h1 x1).step h2 x2).step h3 x3)
    cases k with
    | true =>
      rw [if_pos rfl] at e ⊢
      obtain ⟨w1, S5, e5, e6⟩ := R.of_bind e
      refine ⟨g0, S0, sm, g3, S3, rfl, rl3, w1, S5, e5, fun g4 v4 h4 x4 r4 => ?_⟩
      exact hs' g4 S5 y w1 u v4 w S' Q h4 (RW.mono h3 x4 y u (RW.mono h2 x3 y u r2)) r4 e6 fun g' v' h' x' r' => q g' v' h' ((((x1.trans x2).trans x3).trans x4).trans x') r'
    | false =>
      rw [if_neg Bool.false_ne_true] at e ⊢
      cases e
      exact q g3 _ h3 ((x1.trans x2).trans x3) (by unfold RW; rfl)
  | _ => cases e4
theorem e_chain {op op' : CmpOp} {r r' : R2} {f f' : W → W → Hm → R W} (ho : OpR X (compareOp op) r) (ho' : OpR X (compareOp op') r') (hs : OpS c f r) (hs' : OpS c f' r') (ha : PE X a (tE c ma)) (hb : PE X b (tE c mb)) (hd : PE X d (tE c md))
    (hm : lastMarks [op, op'] [b, d] = false) : PE X (.Compare a [op, op'] [b, d] pos) (tE c (eChain f f' ma mb md)) :=
  PEimp (pe_chain ho ho' ha hb hd hm) fun σ H Q h => tE_chain hs hs' h
theorem t_chain {op op' : CmpOp} {r r' : R2} {f f' : W → W → Hm → R W} (ho : OpR X (compareOp op) r) (ho' : OpR X (compareOp op') r') (hs : OpS c f r) (hs' : OpS c f' r') (ha : PE X a (tE c ma)) (hb : PE X b (tE c mb)) (hd : PE X d (tE c md))
    (hm : lastMarks [op, op'] [b, d] = false) : PT X (.Compare a [op, op'] [b, d] pos) (tT c (tVal (eChain f f' ma mb md))) :=
  PTimp (pt_chain ho ho' ha hb hd hm) fun σ H Q h => tE_chain hs hs' (tT_val h)

/-! ### and, or, not, if -/
variable {ta tb td : T} {rest : List Expr}
theorem t_not (ha : PT X a (tT c ta)) : PT X (.UnaryOp .Not a pos) (tT c (tNot ta)) :=
  PTimp (pt_not ha) fun σ H Q h => by
    obtain ⟨g0, S0, sm, g, S, rfl, rl, b, S', e, q⟩ := h
    obtain ⟨k, S1, e1, e⟩ := R.of_bind (show (ta sm S).bind (fun c S1 => .ok (!c) S1) = .ok b S' from e)
    cases e
    exact ⟨g0, S0, sm, g, S, rfl, rl, k, _, e1, q⟩
theorem tT_and {σ : L2.St} {H : Hp} {Q : Bool → Hp → Prop} (h : tT c (SB.tAnd ta tb) σ H Q) : L2.tAnd (tT c ta) (tT c tb) σ H Q := by
  obtain ⟨g0, S0, sm, g, S, rfl, rl, b, S', e, q⟩ := h
  obtain ⟨k, S1, e1, e⟩ := R.of_bind (show (ta sm S).bind (fun c S1 => if c = true then tb sm S1 else .ok false S1) = .ok b S' from e)
  refine ⟨g0, S0, sm, g, S, rfl, rl, k, S1, e1, fun g1 h1 x1 => ?_⟩
  cases k with
  | true =>
    rw [if_pos rfl] at e ⊢
    exact ⟨g0, S0, sm, g1, S1, rfl, rl.step h1 x1, b, S', e, fun g' h' x' => q g' h' (x1.trans x')⟩
  | false =>
    rw [if_neg Bool.false_ne_true] at e ⊢
    cases e
    exact q g1 h1 x1
theorem tT_or {σ : L2.St} {H : Hp} {Q : Bool → Hp → Prop} (h : tT c (SB.tOr ta tb) σ H Q) : L2.tOr (tT c ta) (tT c tb) σ H Q := by
  obtain ⟨g0, S0, sm, g, S, rfl, rl, b, S', e, q⟩ := h
  obtain ⟨k, S1, e1, e⟩ := R.of_bind (show (ta sm S).bind (fun c S1 => if c = true then .ok true S1 else tb sm S1) = .ok b S' from e)
  refine ⟨g0, S0, sm, g, S, rfl, rl, k, S1, e1, fun g1 h1 x1 => ?_⟩
  cases k with
  | true =>
    rw [if_pos rfl] at e ⊢
    cases e
    exact q g1 h1 x1
  | false =>
    rw [if_neg Bool.false_ne_true] at e ⊢
    exact ⟨g0, S0, sm, g1, S1, rfl, rl.step h1 x1, b, S', e, fun g' h' x' => q g' h' (x1.trans x')⟩
theorem w_and1 (ha : PT X a (tT c ta)) : PW X (.BoolOp .And [a] pos) (tT c ta) := pw_and1 ha
theorem w_or1 (ha : PT X a (tT c ta)) : PW X (.BoolOp .Or [a] pos) (tT c ta) := pw_or1 ha
theorem w_and (ha : PT X a (tT c ta)) (hb : PW X (.BoolOp .And (b :: rest) pos) (tT c tb)) : PW X (.BoolOp .And (a :: b :: rest) pos) (tT c (SB.tAnd ta tb)) := PWimp (pw_and ha hb) fun σ H Q h => tT_and h
theorem w_or (ha : PT X a (tT c ta)) (hb : PW X (.BoolOp .Or (b :: rest) pos) (tT c tb)) : PW X (.BoolOp .Or (a :: b :: rest) pos) (tT c (SB.tOr ta tb)) := PWimp (pw_or ha hb) fun σ H Q h => tT_or h
theorem e_one {op} (h : PE X a (tE c ma)) : PE X (.BoolOp op [a] pos) (tE c ma) := pe_one h
theorem e_and (ha : PE X a (tE c ma)) (hb : PE X (.BoolOp .And (b :: rest) pos) (tE c mb)) : PE X (.BoolOp .And (a :: b :: rest) pos) (tE c (eAnd ma mb)) :=
  PEimp (pe_and ha hb) fun σ H Q h => by
    obtain ⟨g0, S0, sm, g, S, rfl, rl, w, S', e, q⟩ := h
    obtain ⟨k, S1, e1, e⟩ := R.of_bind (show (tVal ma sm S).bind (fun c S1 => if c = true then mb sm S1 else .ok (.bl false) S1) = .ok w S' from e)
    refine tT_val (c := c) ⟨g0, S0, sm, g, S, rfl, rl, k, S1, e1, fun g1 h1 x1 => ?_⟩
    cases k with
    | true =>
      rw [if_pos rfl] at e ⊢
      exact ⟨g0, S0, sm, g1, S1, rfl, rl.step h1 x1, w, S', e, fun g' v h' x' r' => q g' v h' (x1.trans x') r'⟩
    | false =>
      rw [if_neg Bool.false_ne_true] at e ⊢
      cases e
      exact q g1 _ h1 x1 (by unfold RW; rfl)
theorem e_or (ha : PE X a (tE c ma)) (hb : PE X (.BoolOp .Or (b :: rest) pos) (tE c mb)) : PE X (.BoolOp .Or (a :: b :: rest) pos) (tE c (eOr ma mb)) :=
  PEimp (pe_or ha hb) fun σ H Q h => by
    obtain ⟨g0, S0, sm, g, S, rfl, rl, w, S', e, q⟩ := h
    obtain ⟨k, S1, e1, e⟩ := R.of_bind (show (tVal ma sm S).bind (fun c S1 => if c = true then .ok (.bl true) S1 else mb sm S1) = .ok w S' from e)
    refine tT_val (c := c) ⟨g0, S0, sm, g, S, rfl, rl, k, S1, e1, fun g1 h1 x1 => ?_⟩
    cases k with
    | true =>
      rw [if_pos rfl] at e ⊢
      cases e
      exact q g1 _ h1 x1 (by unfold RW; rfl)
    | false =>
      rw [if_neg Bool.false_ne_true] at e ⊢
      exact ⟨g0, S0, sm, g1, S1, rfl, rl.step h1 x1, w, S', e, fun g' v h' x' r' => q g' v h' (x1.trans x') r'⟩
theorem e_not (ha : PE X a (tE c ma)) : PE X (.UnaryOp .Not a pos) (tE c (eNot ma)) :=
  PEimp (pe_not ha) fun σ H Q h => by
    obtain ⟨g0, S0, sm, g, S, rfl, rl, w, S', e, q⟩ := h
    obtain ⟨k, S1, e1, e⟩ := R.of_bind (show (tVal ma sm S).bind (fun b S1 => .ok (.bl (!b)) S1) = .ok w S' from e)
    cases e
    exact tT_val (c := c) ⟨g0, S0, sm, g, S, rfl, rl, k, _, e1, fun g1 h1 x1 => q g1 _ h1 x1 (by unfold RW; rfl)⟩
theorem e_if (ht : PT X d (tT c td)) (ha : PE X a (tE c ma)) (hb : PE X b (tE c mb)) : PE X (.IfExp d a b pos) (tE c (eIf td ma mb)) :=
  PEimp (pe_ifExp ht ha hb) fun σ H Q h => by
    obtain ⟨g0, S0, sm, g, S, rfl, rl, w, S', e, q⟩ := h
    obtain ⟨k, S1, e1, e⟩ := R.of_bind (show (td sm S).bind (fun c S1 => if c = true then ma sm S1 else mb sm S1) = .ok w S' from e)
    refine ⟨g0, S0, sm, g, S, rfl, rl, k, S1, e1, fun g1 h1 x1 => ?_⟩
    cases k with
    | true =>
      rw [if_pos rfl] at e ⊢
      exact ⟨g0, S0, sm, g1, S1, rfl, rl.step h1 x1, w, S', e, fun g' v h' x' r' => q g' v h' (x1.trans x') r'⟩
    | false =>
      rw [if_neg Bool.false_ne_true] at e ⊢
      exact ⟨g0, S0, sm, g1, S1, rfl, rl.step h1 x1, w, S', e, fun g' v h' x' r' => q g' v h' (x1.trans x') r'⟩

/-! ### arguments, tuples -/
variable {es : List Expr} {m : As}
theorem a_nil : PA X [] (tA c aNil) := PAimp pa_nil fun σ H Q h => by
  obtain ⟨g0, S0, sm, g, S, rfl, rl, ws, S', e, q⟩ := h
  cases e
  exact q g _ rl.h (Ext.refl g S) .nil
theorem a_cons (ha : PE X e (tE c ma)) (hr : PA X es (tA c m)) (hs : starEach (e :: es) X.env = (false, eval e X.env) :: starEach es X.env) : PA X (e :: es) (tA c (aCons ma m)) := PAimp (pa_cons ha hr hs) fun σ H Q h => by
  obtain ⟨g0, S0, sm, g, S, rfl, rl, ws, S', e, q⟩ := h
  obtain ⟨x, S1, e1, e⟩ := R.of_bind (show (ma sm S).bind (fun x S1 => (m sm S1).bind fun xs S2 => .ok (x :: xs) S2) = .ok ws S' from e)
  obtain ⟨xs, S2, e2, e⟩ := R.of_bind e
  cases e
  refine ⟨g0, S0, sm, g, S, rfl, rl, x, S1, e1, fun g1 v h1 x1 r1 => ?_⟩
  exact ⟨g0, S0, sm, g1, S1, rfl, rl.step h1 x1, xs, _, e2, fun g2 vs h2 x2 r2 => q g2 _ h2 (x1.trans x2) (.cons (RW.mono h1 x2 x v r1) r2)⟩
/-- a new tuple, frozen -/
theorem new_tup {g : Gh} {S : Hm} {ws : List W} {vs : List V} (h : HRel c g S) (z : ws.length ≤ sizeLine) (r : RWs c g ws vs) {p : Addr} (np : g.H p = none) :
    HRel c (g.fresh p (.tup vs)) S ∧ Ext g S (g.fresh p (.tup vs)) S ∧ RW c (g.fresh p (.tup vs)) (.tup ws) (.ref p) := by
  refine ⟨h.fresh np _, Ext.fresh h np _, ?_⟩
  unfold RW
  exact ⟨p, vs, rfl, .inl ⟨.inl rfl, upd_same⟩, z, RWs.mono h (Ext.fresh h np _) _ _ r⟩
/-- a new list, frozen -/
theorem new_lst {g : Gh} {S : Hm} {ws : List W} {vs : List V} (h : HRel c g S) (z : ws.length ≤ sizeLine) (r : RWs c g ws vs) {p : Addr} (np : g.H p = none) :
    HRel c (g.fresh p (.lst vs)) S ∧ Ext g S (g.fresh p (.lst vs)) S ∧ RW c (g.fresh p (.lst vs)) (.fl ws) (.ref p) := by
  refine ⟨h.fresh np _, Ext.fresh h np _, ?_⟩
  unfold RW
  exact ⟨p, vs, rfl, .inl rfl, upd_same, z, RWs.mono h (Ext.fresh h np _) _ _ r⟩
theorem e_tup {k : Nat} (ha : PA X es (tA c m)) : PE X (.Tuple es k pos) (tE c (eTup m)) := PEimp (pe_tup ha) fun σ H Q h => by
  obtain ⟨g0, S0, sm, g, S, rfl, rl, w, S', e, q⟩ := h
  obtain ⟨ws, S1, e1, e⟩ := R.of_bind (show (m sm S).bind (fun xs S1 => if xs.length ≤ sizeLine then .ok (.tup xs) S1 else .stuck) = .ok w S' from e)
  refine ⟨g0, S0, sm, g, S, rfl, rl, ws, S1, e1, fun g1 vs h1 x1 r1 => ?_⟩
  split at e
  · rename_i hz
    cases e
    refine ⟨by rw [← r1.length]; exact hz, fun p np => ?_⟩
    obtain ⟨h2, x2, r2⟩ := new_tup h1 hz r1 np
    exact q _ _ h2 (x1.trans x2) r2
  · cases e
theorem e_disp (ha : PA X es (tA c m)) : PE X (.List es pos) (tLs c (lDisp m)) := PEimp (pe_lst ha) fun σ H Q h => by
  obtain ⟨g0, S0, sm, g, S, rfl, rl, ws', S', e, q⟩ := h
  obtain ⟨ws, S1, e1, e⟩ := R.of_bind (show (m sm S).bind (fun xs S1 => if xs.length ≤ sizeLine then .ok xs S1 else .stuck) = .ok ws' S' from e)
  refine ⟨g0, S0, sm, g, S, rfl, rl, ws, S1, e1, fun g1 vs h1 x1 r1 => ?_⟩
  split at e
  · rename_i hz
    cases e
    refine ⟨by rw [← r1.length]; exact hz, fun p np => ?_⟩
    have np0 : g.H p = none := by
      cases q0 : g.H p with
      | none => rfl
      | some u => exact absurd np (x1.tr p (by rw [q0]; intro z; cases z))
    refine q (g1.lay p (.lst vs)) p vs (h1.lay np _) (x1.trans (Ext.lay h1 np _)) upd_same hz (RWs.mono h1 (Ext.lay h1 np _) _ _ r1) (fun f => ?_) (fun l => ?_) np0
    · exact h1.fz p f np
    · obtain ⟨a, o, ea, ra⟩ := l
      exact h1.rho_some ea (by rw [show g1.rho a = p from ra]; exact np)
  · cases e
/-- a list just made is frozen; it is laid on the own heap -/
theorem frz_read {m : L} {σ : L2.St} {H : Hp} {Q : VK} (h : tE c (eFrz m) σ H Q) : tLs c m σ H Q := by
  obtain ⟨g0, S0, sm, g, S, rfl, rl, w, S', e, q⟩ := h
  obtain ⟨ws, S1, e1, e⟩ := R.of_bind (show (m sm S).bind (fun xs S1 => .ok (.fl xs) S1) = .ok w S' from e)
  cases e
  refine ⟨g0, S0, sm, g, S, rfl, rl, ws, _, e1, fun g1 p vs h1 x1 hp z r1 f nl np => ?_⟩
  refine q (g1.frz p) _ (h1.frz (by rw [hp]; intro z; cases z) nl) (x1.frz (c := c) np) ?_
  unfold RW
  exact ⟨p, vs, rfl, .inl rfl, hp, z, RWs.le (g1.frz_le p) _ _ r1⟩
theorem e_frz {m : L} (h : PE X e (tLs c m)) : PE X e (tE c (eFrz m)) := PEimp h fun σ H Q h => frz_read h
theorem heap_read {m : L} {σ : L2.St} {H : Hp} {Q : VK} (h : tE c (eHeap m) σ H Q) : tLs c m σ H Q := by
  obtain ⟨g0, S0, sm, g, S, rfl, rl, w, S', e, q⟩ := h
  obtain ⟨ws, S1, e1, e⟩ := R.of_bind (show (m sm S).bind (fun xs S1 => .ok (.ref S1.length) (S1 ++ [some (.lst xs)])) = .ok w S' from e)
  cases e
  refine ⟨g0, S0, sm, g, S, rfl, rl, ws, _, e1, fun g1 p vs h1 x1 hp z r1 f nl np => ?_⟩
  refine q (g1.put p) _ (h1.put (o := .lst ws) ⟨vs, hp, z, r1⟩ f nl) (x1.put h1 np _) ?_
  unfold RW
  refine ⟨?_, ?_⟩
  · show S1.length < g1.n + 1
    rw [h1.n]; exact Nat.lt_succ_self _
  · show V.ref p = V.ref (if S1.length = g1.n then p else g1.rho S1.length)
    rw [if_pos h1.n.symm]
theorem e_heap {m : L} (h : PE X e (tLs c m)) : PE X e (tE c (eHeap m)) := PEimp h fun σ H Q h => heap_read h
end
end SB
/-! SB, part 4: the operators' meanings. -/
namespace SB
open PySem PySem.Spec PyProof.Rows L2

section
variable {c : Cn} {g : Gh} {S : Hm} {v : V}
theorem rw_int {i : Int} : RW c g (.int i) v ↔ v = .int i := by unfold RW; exact Iff.rfl
theorem rw_bl {b : Bool} : RW c g (.bl b) v ↔ v = .bl b := by unfold RW; exact Iff.rfl
theorem rw_str {x : Str} : RW c g (.str x) v ↔ v = .str x := by unfold RW; exact Iff.rfl
theorem rw_byt {x : Array UInt8} : RW c g (.byt x) v ↔ v = .byt x := by unfold RW; exact Iff.rfl
theorem rw_non : RW c g .non v ↔ v = .non := by unfold RW; exact Iff.rfl
theorem rw_tup {ws : List W} : RW c g (.tup ws) v ↔ ∃ p vs, v = .ref p ∧ ((g.Fz p ∧ g.H p = some (.tup vs)) ∨ KTup c.K p vs) ∧ ws.length ≤ sizeLine ∧ RWs c g ws vs := by unfold RW; exact Iff.rfl
theorem rw_fl {ws : List W} : RW c g (.fl ws) v ↔ ∃ p vs, v = .ref p ∧ g.Fz p ∧ g.H p = some (.lst vs) ∧ ws.length ≤ sizeLine ∧ RWs c g ws vs := by unfold RW; exact Iff.rfl
theorem rw_ref {a : Nat} : RW c g (.ref a) v ↔ a < g.n ∧ v = .ref (g.rho a) := by unfold RW; exact Iff.rfl
theorem rw_obj {C : Str} {ks : List Str} {ws : List W} : RW c g (.obj C ks ws) v ↔ ∃ p cA dx fs, v = .ref p ∧ g.Fz p ∧ c.cls C = some cA ∧ g.H p = some (.ins cA dx fs) ∧ fs.map (·.1) = ks ∧ RWs c g ws (fs.map (·.2)) := by unfold RW; exact Iff.rfl
theorem rw_fd {ks ws : List W} : RW c g (.fd ks ws) v ↔ ∃ p kvs, v = .ref p ∧ g.Fz p ∧ g.H p = some (.dK kvs) ∧ ks.map keyW = kvs.map (fun q => some q.1) ∧ RWs c g ws (kvs.map (·.2)) := by unfold RW; exact Iff.rfl
theorem rw_scr {ns : List Int} : RW c g (.scr ns) v ↔ ∃ p, v = .ref p ∧ ((∃ o, g.H p = some (.frz o (.lst (ns.map V.int)))) ∨ KLst c.K p (ns.map V.int)) ∧ ns.length ≤ 1000 := by unfold RW; exact Iff.rfl
theorem ktup_sq {K : PySem.W.Frag} {H : Hp} {p : Addr} {vs : List V} (h : KTup K p vs) : SqT K H p vs := by
  obtain ⟨o, its, n, h1, h2, h3, h4, h5⟩ := h
  exact .inr ⟨o, its, n, h1, h2, h3.2, h4, h5⟩
theorem sqt_of {p : Addr} {vs : List V} (h : (g.Fz p ∧ g.H p = some (.tup vs)) ∨ KTup c.K p vs) : SqT c.K g.H p vs := by
  rcases h with ⟨_, h⟩ | h
  · exact .inl (.inl h)
  · exact ktup_sq h
theorem lst_at {w : W} {ws : List W} (h : HRel c g S) (r : RW c g w v) (e : lstOf S w = some ws) : ∃ p vs, v = .ref p ∧ g.H p = some (.lst vs) ∧ ws.length ≤ sizeLine ∧ RWs c g ws vs := by
  cases w with
  | fl xs =>
    cases e
    obtain ⟨p, vs, e1, _, e2, z, r2⟩ := rw_fl.mp r
    exact ⟨p, vs, e1, e2, z, r2⟩
  | ref a =>
    simp only [lstOf] at e
    split at e
    · rename_i xs hx
      cases e
      obtain ⟨_, e1⟩ := rw_ref.mp r
      obtain ⟨vs, e2, z, r2⟩ := (h.ob a _ hx).1
      exact ⟨_, vs, e1, e2, z, r2⟩
    · cases e
  | _ => cases e
theorem seq_at {w : W} {ws : List W} (h : HRel c g S) (r : RW c g w v) (e : seqOf S w = some ws) : ∃ p vs, v = .ref p ∧ (SqL c.K g.H p vs ∨ SqT c.K g.H p vs) ∧ ws.length ≤ sizeLine ∧ RWs c g ws vs := by
  cases w with
  | tup xs =>
    cases e
    obtain ⟨p, vs, e1, e2, z, r2⟩ := rw_tup.mp r
    exact ⟨p, vs, e1, .inr (sqt_of e2), z, r2⟩
  | fl xs =>
    obtain ⟨p, vs, e1, e2, z, r2⟩ := lst_at (ws := ws) h r e
    exact ⟨p, vs, e1, .inl (.of e2), z, r2⟩
  | ref a =>
    obtain ⟨p, vs, e1, e2, z, r2⟩ := lst_at (ws := ws) h r e
    exact ⟨p, vs, e1, .inl (.of e2), z, r2⟩
  | _ => cases e

/-! ### plain data -/
mutual
theorem toD_dp : ∀ (w : W) (v : V) (d : PyData), RW c g w v → toD w = some d → Dp c.K g.H v d
  | .non, v, d, r, e => by
    cases (show some PyData.none = some d from e); rw [rw_non.mp r]; exact .non
  | .bl b, v, d, r, e => by
    cases (show some (PyData.bool b) = some d from e); rw [rw_bl.mp r]; exact .bl b
  | .int i, v, d, r, e => by
    cases (show some (PyData.int i) = some d from e); rw [rw_int.mp r]; exact .int i
  | .str x, v, d, r, e => by
    cases (show some (PyData.str x) = some d from e); rw [rw_str.mp r]; exact .str x
  | .tup ws, v, d, r, e => by
    obtain ⟨p, vs, e1, e2, z, r2⟩ := rw_tup.mp r
    unfold toD at e
    split at e
    · rename_i ds hd
      cases e
      subst e1
      exact .tup (sqt_of e2) (toDs_dp ws vs ds r2 hd)
    · cases e
  | .fl ws, v, d, r, e => by
    obtain ⟨p, vs, e1, _, e2, z, r2⟩ := rw_fl.mp r
    unfold toD at e
    split at e
    · rename_i ds hd
      cases e
      subst e1
      exact .lst (.of e2) (toDs_dp ws vs ds r2 hd)
    · cases e
  | .byt _, _, _, _, e => by unfold toD at e; cases e
  | .obj _ _ _, _, _, _, e => by unfold toD at e; cases e
  | .fd _ _, _, _, _, e => by unfold toD at e; cases e
  | .ref _, _, _, _, e => by unfold toD at e; cases e
  | .scr _, _, _, _, e => by unfold toD at e; cases e
theorem toDs_dp : ∀ (ws : List W) (vs : List V) (ds : List PyData), RWs c g ws vs → toDs ws = some ds → DpAll c.K g.H vs ds
  | [], vs, ds, r, e => by
    unfold RWs at r
    cases (show some [] = some ds from e)
    rw [r]; exact .nil
  | w :: ws, vs, ds, r, e => by
    obtain ⟨v, t, rfl, r1, r2⟩ := r.cons'
    unfold toDs at e
    split at e
    · rename_i d hd
      split at e
      · rename_i es hes
        cases e
        exact .cons (toD_dp w v d r1 hd) (toDs_dp ws t es r2 hes)
      · cases e
    · cases e
end
theorem deref_dp {w : W} {d : PyData} (h : HRel c g S) (r : RW c g w v) (e : toD (deref S w) = some d) : Dp c.K g.H v d := by
  cases w with
  | ref a =>
    unfold deref at e
    simp only at e
    split at e
    · rename_i xs hx
      obtain ⟨_, e1⟩ := rw_ref.mp r
      obtain ⟨vs, e2, z, r2⟩ := (h.ob a _ hx).1
      unfold toD at e
      split at e
      · rename_i ds hd
        cases e
        subst e1
        exact .lst (.of e2) (toDs_dp xs vs ds r2 hd)
      · cases e
    · unfold toD at e; cases e
  | _ => exact toD_dp _ v d r e
end

section
variable {c : Cn}
theorem s_sub : OpS c fSub (rI0 fun i j => .int (i - j)) := fun g S x y v u w S' Q h rx ry e q => by
  unfold fSub at e
  split at e
  · cases e
    exact ⟨_, _, rw_int.mp rx, rw_int.mp ry, q g _ h (Ext.refl g S) (rw_int.mpr rfl)⟩
  · cases e
theorem s_mul : OpS c fMul (rI CMulX fun i j => .int (i * j)) := fun g S x y v u w S' Q h rx ry e q => by
  unfold fMul at e
  split at e
  · rename_i i j
    split at e
    · rename_i hz
      cases e
      have hz' : i.natAbs.log2 + j.natAbs.log2 < 100000000 := of_decide_eq_true hz
      refine ⟨_, _, rw_int.mp rx, rw_int.mp ry, ?_, q g _ h (Ext.refl g S) (rw_int.mpr rfl)⟩
      unfold CMulX
      first | omega | (have b : ∀ x : Int, Builtin.Int.intBits x ≤ x.natAbs.log2 + 1 := fun x => by
                        unfold Builtin.Int.intBits
                        split <;> omega
                       have h1 := b i
                       have h2 := b j
                       omega)
    · cases e
  · cases e
theorem op_fdivS {X : Cx} : OpR X (binaryOp .FloorDiv) (rI (fun _ j => j ≠ 0 ∧ j.natAbs.log2 < 9000) fun i j => .int (i.fdiv j)) := opI fun i j _ _ _ _ _ hc q => floordiv_int hc.1 q (.inl (PyProof.noPylong_of_log2 hc.2))
theorem s_fdiv : OpS c fDiv (rI (fun _ j => j ≠ 0 ∧ j.natAbs.log2 < 9000) fun i j => .int (i.fdiv j)) := fun g S x y v u w S' Q h rx ry e q => by
  unfold fDiv at e
  split at e
  · split at e
    · rename_i hz
      cases e
      exact ⟨_, _, rw_int.mp rx, rw_int.mp ry, hz, q g _ h (Ext.refl g S) (rw_int.mpr rfl)⟩
    · cases e
  · cases e
theorem s_mod : OpS c fMod (rI (fun _ j => j ≠ 0) fun i j => .int (i.fmod j)) := fun g S x y v u w S' Q h rx ry e q => by
  unfold fMod at e
  split at e
  · split at e
    · rename_i hz
      cases e
      exact ⟨_, _, rw_int.mp rx, rw_int.mp ry, hz, q g _ h (Ext.refl g S) (rw_int.mpr rfl)⟩
    · cases e
  · cases e
theorem s_pow : OpS c fPow (rI CPow fun i j => .int (i ^ j.toNat)) := fun g S x y v u w S' Q h rx ry e q => by
  unfold fPow at e
  split at e
  · split at e
    · rename_i hz
      cases e
      exact ⟨_, _, rw_int.mp rx, rw_int.mp ry, hz, q g _ h (Ext.refl g S) (rw_int.mpr rfl)⟩
    · cases e
  · cases e
theorem s_shl : OpS c fShl (rI CPow fun i j => .int (i * 2 ^ j.toNat)) := fun g S x y v u w S' Q h rx ry e q => by
  unfold fShl at e
  split at e
  · split at e
    · rename_i hz
      cases e
      exact ⟨_, _, rw_int.mp rx, rw_int.mp ry, hz, q g _ h (Ext.refl g S) (rw_int.mpr rfl)⟩
    · cases e
  · cases e
theorem s_shr : OpS c fShr (rI (fun _ j => 0 ≤ j) fun i j => .int (i / 2 ^ j.toNat)) := fun g S x y v u w S' Q h rx ry e q => by
  unfold fShr at e
  split at e
  · split at e
    · rename_i hz
      cases e
      exact ⟨_, _, rw_int.mp rx, rw_int.mp ry, hz, q g _ h (Ext.refl g S) (rw_int.mpr rfl)⟩
    · cases e
  · cases e
theorem s_and : OpS c fAnd (rI0 fun i j => .int (Builtin.bitAnd i j)) := fun g S x y v u w S' Q h rx ry e q => by
  unfold fAnd at e
  split at e
  · cases e
    exact ⟨_, _, rw_int.mp rx, rw_int.mp ry, q g _ h (Ext.refl g S) (rw_int.mpr rfl)⟩
  · cases e
theorem s_lt : OpS c fLt (rI0 fun i j => .bl (decide (i < j))) := fun g S x y v u w S' Q h rx ry e q => by
  unfold fLt at e
  split at e
  · cases e
    exact ⟨_, _, rw_int.mp rx, rw_int.mp ry, q g _ h (Ext.refl g S) (rw_bl.mpr rfl)⟩
  · cases e
theorem s_le : OpS c fLe (rI0 fun i j => .bl (decide (i ≤ j))) := fun g S x y v u w S' Q h rx ry e q => by
  unfold fLe at e
  split at e
  · cases e
    exact ⟨_, _, rw_int.mp rx, rw_int.mp ry, q g _ h (Ext.refl g S) (rw_bl.mpr rfl)⟩
  · cases e
theorem s_gt : OpS c fGt (rI0 fun i j => .bl (decide (j < i))) := fun g S x y v u w S' Q h rx ry e q => by
  unfold fGt at e
  split at e
  · cases e
    exact ⟨_, _, rw_int.mp rx, rw_int.mp ry, q g _ h (Ext.refl g S) (rw_bl.mpr rfl)⟩
  · cases e
theorem s_ge : OpS c fGe (rI0 fun i j => .bl (decide (j ≤ i))) := fun g S x y v u w S' Q h rx ry e q => by
  unfold fGe at e
  split at e
  · cases e
    exact ⟨_, _, rw_int.mp rx, rw_int.mp ry, q g _ h (Ext.refl g S) (rw_bl.mpr rfl)⟩
  · cases e
/-! ### + -/
def rAddS (K : PySem.W.Frag) : R2 := fun x y H Q => (rI0 (fun i j => .int (i + j)) x y H Q ∨ (∃ i j, x = .str i ∧ y = .str j ∧ i.length + j.length ≤ sizeLine ∧ Q (.str (i ++ j)) H)) ∨
  ((∃ i j, x = .byt i ∧ y = .byt j ∧ i.size + j.size ≤ 16777216 ∧ Q (.byt (i ++ j)) H) ∨ (rCatT K x y H Q ∨ rCat x y H Q))
theorem op_addS {X : Cx} : OpR X (binaryOp .Add) (rAddS X.K) := (op_add.or op_add_str).or (op_add_byt.or (op_catT.or op_cat))
theorem lst_cases {S : Hm} {x : W} {a : List W} (e : lstOf S x = some a) : (∃ xs, x = .fl xs) ∨ ∃ p, x = .ref p := by
  cases x with
  | fl xs => exact .inl ⟨xs, rfl⟩
  | ref p => exact .inr ⟨p, rfl⟩
  | _ => cases e
theorem s_add : OpS c fAdd (rAddS c.K) := fun g S x y v u w S' Q h rx ry e q => by
  have lists : ∀ a b, lstOf S x = some a → lstOf S y = some b → a.length + b.length ≤ sizeLine → w = .fl (a ++ b) → S' = S → rAddS c.K v u g.H Q := fun a b e1 e2 z ew es => by
    subst ew es
    obtain ⟨p, vs, rfl, hp, z1, r1⟩ := lst_at h rx e1
    obtain ⟨p2, vs2, rfl, hp2, z2, r2⟩ := lst_at h ry e2
    refine .inr (.inr (.inr ⟨p, p2, vs, vs2, rfl, rfl, hp, hp2, by rw [← r1.length, ← r2.length]; exact z, fun l nl => ?_⟩))
    obtain ⟨h3, x3, r3⟩ := new_lst h (by rw [List.length_append]; exact z) (r1.append r2) nl
    exact q _ _ h3 x3 r3
  unfold fAdd at e
  split at e
  · split at e
    · cases e
      exact .inl (.inl ⟨_, _, rw_int.mp rx, rw_int.mp ry, q g _ h (Ext.refl g S) (rw_int.mpr rfl)⟩)
    · cases e
  · split at e
    · split at e
      · rename_i hz
        cases e
        exact .inl (.inr ⟨_, _, rw_str.mp rx, rw_str.mp ry, hz, q g _ h (Ext.refl g S) (rw_str.mpr rfl)⟩)
      · cases e
    · cases e
  · split at e
    · split at e
      · rename_i hz
        cases e
        exact .inr (.inl ⟨_, _, rw_byt.mp rx, rw_byt.mp ry, hz, q g _ h (Ext.refl g S) (rw_byt.mpr rfl)⟩)
      · cases e
    · cases e
  · rename_i a
    split at e
    · rename_i b
      split at e
      · rename_i hz
        obtain ⟨n1, n2, hz⟩ := hz
        cases e
        obtain ⟨p, vs, rfl, hp, z1, r1⟩ := rw_tup.mp rx
        obtain ⟨p2, vs2, rfl, hp2, z2, r2⟩ := rw_tup.mp ry
        have l1 := r1.length
        have l2 := r2.length
        have ne : vs ≠ [] := fun z => by
          subst z
          cases a with
          | nil => exact n1 rfl
          | cons _ _ => simp at l1
        have ne2 : vs2 ≠ [] := fun z => by
          subst z
          cases b with
          | nil => exact n2 rfl
          | cons _ _ => simp at l2
        refine .inr (.inr (.inl ⟨p, p2, vs, vs2, rfl, rfl, sqt_of hp, sqt_of hp2, ne, by rw [← l1, ← l2]; exact hz, fun z => absurd z ne2, fun _ l nl => ?_⟩))
        obtain ⟨h3, x3, r3⟩ := new_tup h (by rw [List.length_append]; exact hz) (r1.append r2) nl
        exact q _ _ h3 x3 r3
      · cases e
    · cases e
  · split at e
    · rename_i a e1
      split at e
      · rename_i b e2
        split at e
        · rename_i hz
          cases e
          exact lists a b e1 e2 hz rfl rfl
        · cases e
      · cases e
    · cases e

/-! ### ==, != -/
def rEqL (K : PySem.W.Frag) (b : Bool) : R2 := fun x y H Q => ∃ p q xs ys, x = .ref p ∧ y = .ref q ∧ SqL K H p xs ∧ SqL K H q ys ∧ xs.length ≠ ys.length ∧ Q (.bl b) H
theorem op_eqL {X : Cx} (hu : X.A.units < cLine) : OpR X (compareOp .Eq) (rEqL X.K false) := by
  intro pins s σ H x y v u Q I rx ry h
  obtain ⟨p, q, xs, ys, rfl, rfl, h1, h2, hne, k⟩ := h
  cases rx; cases ry
  obtain ⟨its, r1, p1, _⟩ := I.list h1
  obtain ⟨jts, r2, p2, _⟩ := I.list h2
  refine SeqAt.eq_list_lengthsAt p1.isList p2.isList ?_ hu ⟨.bl false, H, I, rfl, k⟩
  simp only [List.size_toArray, bne_iff_ne]
  rw [← r1.length, ← r2.length]
  exact hne
theorem op_neL {X : Cx} (hu : X.A.units < cLine) : OpR X (compareOp .NotEq) (rEqL X.K true) := by
  intro pins s σ H x y v u Q I rx ry h
  obtain ⟨p, q, xs, ys, rfl, rfl, h1, h2, hne, k⟩ := h
  cases rx; cases ry
  obtain ⟨its, r1, p1, _⟩ := I.list h1
  obtain ⟨jts, r2, p2, _⟩ := I.list h2
  refine SeqAt.RcNeAt.lists_lengths p1.isList p2.isList ?_ hu X.prog X.w X.xe _ ⟨.bl true, H, I, rfl, k⟩
  simp only [List.size_toArray, bne_iff_ne]
  rw [← r1.length, ← r2.length]
  exact hne
theorem lenNe_at {g : Gh} {S : Hm} {x y : W} {v u : V} (h : HRel c g S) (rx : RW c g x v) (ry : RW c g y u) (e : lenNe S x y = true) : ∃ p q xs ys, v = .ref p ∧ u = .ref q ∧ SqL c.K g.H p xs ∧ SqL c.K g.H q ys ∧ xs.length ≠ ys.length := by
  unfold lenNe at e
  split at e
  · rename_i xs hx
    split at e
    · rename_i ys hy
      obtain ⟨p, vs, rfl, h1, _, r1⟩ := lst_at h rx hx
      obtain ⟨q, us, rfl, h2, _, r2⟩ := lst_at h ry hy
      exact ⟨p, q, vs, us, rfl, rfl, .of h1, .of h2, by rw [← r1.length, ← r2.length]; exact of_decide_eq_true e⟩
    · cases e
  · cases e
def rEqS (K : PySem.W.Frag) : R2 := fun x y H Q => (rEq x y H Q ∨ rEqD K x y H Q) ∨ rEqL K false x y H Q
def rNeS (K : PySem.W.Frag) : R2 := fun x y H Q => (rNe x y H Q ∨ rNeD K x y H Q) ∨ rEqL K true x y H Q
theorem op_eqS {X : Cx} (hu : X.A.units + 64 < cLine) : OpR X (compareOp .Eq) (rEqS X.K) := (op_eq.or (op_eqD hu)).or (op_eqL (by omega))
theorem op_neS {X : Cx} (hu : X.A.units + 64 < cLine) : OpR X (compareOp .NotEq) (rNeS X.K) := (op_ne.or (op_neD hu)).or (op_neL (by omega))
theorem eqW_cases {g : Gh} {S : Hm} {x y : W} {v u : V} {b : Bool} (h : HRel c g S) (rx : RW c g x v) (ry : RW c g y u) (e : eqW S x y = some b) :
    (scal v u = true ∧ decide (v = u) = b) ∨ ∃ d f, Dp c.K g.H v d ∧ Dp c.K g.H u f ∧ SeqAt.shaped d = true ∧ SeqAt.shaped f = true ∧ PyData.eqv d f = b := by
  have data : eqD S x y = some b → ∃ d f, Dp c.K g.H v d ∧ Dp c.K g.H u f ∧ SeqAt.shaped d = true ∧ SeqAt.shaped f = true ∧ PyData.eqv d f = b := fun e => by
    unfold eqD at e
    split at e
    · rename_i d hd
      split at e
      · rename_i f hf
        split at e
        · rename_i hz
          cases e
          obtain ⟨z1, z2⟩ := Bool.and_eq_true_iff.mp hz
          exact ⟨d, f, deref_dp h rx hd, deref_dp h ry hf, z1, z2, rfl⟩
        · cases e
      · cases e
    · cases e
  unfold eqW at e
  split at e
  · split at e
    · cases e
      rw [rw_byt.mp rx, rw_byt.mp ry]
      refine .inl ⟨rfl, ?_⟩
      simp only [V.byt.injEq]
    · cases e
  · split at e
    · cases e
      rw [rw_str.mp rx, rw_str.mp ry]
      refine .inl ⟨rfl, ?_⟩
      simp only [V.str.injEq]
    · exact .inr (data e)
  · split at e
    · cases e
      rw [rw_int.mp rx, rw_int.mp ry]
      refine .inl ⟨rfl, ?_⟩
      simp only [V.int.injEq]
    · exact .inr (data e)
  · exact .inr (data e)
theorem s_eq : OpS c fEq (rEqS c.K) := fun g S x y v u w S' Q h rx ry e q => by
  unfold fEq at e
  split at e
  · rename_i b hb
    cases e
    have fin : Q (.bl b) g.H := q g _ h (Ext.refl g S) (rw_bl.mpr rfl)
    rcases eqW_cases h rx ry hb with ⟨e1, e2⟩ | ⟨d, f, d1, d2, z1, z2, e2⟩
    · exact .inl (.inl ⟨e1, by rw [e2]; exact fin⟩)
    · exact .inl (.inr ⟨d, f, d1, d2, z1, z2, by rw [e2]; exact fin⟩)
  · split at e
    · rename_i hl
      cases e
      obtain ⟨p, q', xs, ys, h1, h2, h3, h4, h5⟩ := lenNe_at h rx ry hl
      exact .inr ⟨p, q', xs, ys, h1, h2, h3, h4, h5, q g _ h (Ext.refl g S) (rw_bl.mpr rfl)⟩
    · cases e
theorem s_ne : OpS c fNe (rNeS c.K) := fun g S x y v u w S' Q h rx ry e q => by
  unfold fNe at e
  split at e
  · rename_i b hb
    cases e
    have fin : Q (.bl (!b)) g.H := q g _ h (Ext.refl g S) (rw_bl.mpr rfl)
    rcases eqW_cases h rx ry hb with ⟨e1, e2⟩ | ⟨d, f, d1, d2, z1, z2, e2⟩
    · exact .inl (.inl ⟨e1, by rw [e2]; exact fin⟩)
    · exact .inl (.inr ⟨d, f, d1, d2, z1, z2, by rw [e2]; exact fin⟩)
  · split at e
    · rename_i hl
      cases e
      obtain ⟨p, q', xs, ys, h1, h2, h3, h4, h5⟩ := lenNe_at h rx ry hl
      exact .inr ⟨p, q', xs, ys, h1, h2, h3, h4, h5, q g _ h (Ext.refl g S) (rw_bl.mpr rfl)⟩
    · cases e
theorem isNon_iff {g : Gh} {x : W} {v : V} (r : RW c g x v) : decide (v = .non) = isNon x := by
  cases x with
  | non => rw [rw_non.mp r]; rfl
  | bl b => rw [rw_bl.mp r]; rfl
  | int b => rw [rw_int.mp r]; rfl
  | str b => rw [rw_str.mp r]; rfl
  | byt b => rw [rw_byt.mp r]; rfl
  | tup b => obtain ⟨p, vs, e, _⟩ := rw_tup.mp r; rw [e]; rfl
  | fl b => obtain ⟨p, vs, e, _⟩ := rw_fl.mp r; rw [e]; rfl
  | obj b k w => obtain ⟨p, vs, dx, fs, e, _⟩ := rw_obj.mp r; rw [e]; rfl
  | fd b w => obtain ⟨p, vs, e, _⟩ := rw_fd.mp r; rw [e]; rfl
  | ref b => obtain ⟨_, e⟩ := rw_ref.mp r; rw [e]; rfl
  | scr b => obtain ⟨p, e, _⟩ := rw_scr.mp r; rw [e]; rfl
theorem s_isN : OpS c fIsN (fun x y H Q => y = .non ∧ Q (.bl (decide (x = .non))) H) := fun g S x y v u w S' Q h rx ry e q => by
  unfold fIsN at e
  split at e
  · cases e
    exact ⟨rw_non.mp ry, q g _ h (Ext.refl g S) (rw_bl.mpr (by rw [isNon_iff rx]))⟩
  · cases e
theorem s_notN : OpS c fNotN (fun x y H Q => y = .non ∧ Q (.bl (!decide (x = .non))) H) := fun g S x y v u w S' Q h rx ry e q => by
  unfold fNotN at e
  split at e
  · cases e
    exact ⟨rw_non.mp ry, q g _ h (Ext.refl g S) (rw_bl.mpr (by rw [isNon_iff rx]))⟩
  · cases e

/-! ### one operand -/
def UnS (c : Cn) (f : W → Hm → R W) (r : V → Hp → VK → Prop) : Prop :=
  ∀ g S x v w S' Q, HRel c g S → RW c g x v → f x S = .ok w S' → (∀ g' v', HRel c g' S' → Ext g S g' S' → RW c g' w v' → Q v' g'.H) → r v g.H Q
theorem tE_un {ma : E} {f : W → Hm → R W} {σ : L2.St} {H : Hp} {Q : VK} {r : V → Hp → VK → Prop} (h : tE c (eUn f ma) σ H Q) (hs : UnS c f r) : tE c ma σ H fun v H1 => r v H1 Q := by
  obtain ⟨g0, S0, sm, g, S, rfl, rl, w, S', e, q⟩ := h
  obtain ⟨x, S1, e1, e⟩ := R.of_bind (show (ma sm S).bind (fun x S1 => f x S1) = .ok w S' from e)
  refine ⟨g0, S0, sm, g, S, rfl, rl, x, S1, e1, fun g1 v h1 x1 r1 => ?_⟩
  exact hs g1 S1 x v w S' Q h1 r1 e fun g' v' h' x' r' => q g' v' h' (x1.trans x') r'
theorem s_neg : UnS c fNeg (rU fun i => .int (-i)) := fun g S x v w S' Q h rx e q => by
  unfold fNeg at e
  split at e
  · cases e
    exact ⟨_, rw_int.mp rx, q g _ h (Ext.refl g S) (rw_int.mpr rfl)⟩
  · cases e
theorem e_neg {X : Cx} {a : Expr} {ma : E} {pos : Pos} (ha : PE X a (tE c ma)) : PE X (.UnaryOp .USub a pos) (tE c (eUn fNeg ma)) := PEimp (pe_un un_neg ha) fun σ H Q h => tE_un h s_neg

/-! ### subscripts -/
theorem atI_rel {g : Gh} {ws : List W} {vs : List V} {i : Int} {w : W} (r : RWs c g ws vs) (e : atI ws i = some w) : ∃ v, atI vs i = some v ∧ RW c g w v := by
  unfold atI at e ⊢
  rw [← r.length]
  cases q : ixN ws.length i with
  | none => rw [q] at e; cases e
  | some j =>
    rw [q] at e
    obtain ⟨v, e1, r1⟩ := r.get (i := j) e
    exact ⟨v, e1, r1⟩
theorem s_idx : OpS c fIdx (rIx c.K) := fun g S x y v u w S' Q h rx ry e q => by
  unfold fIdx at e
  split at e
  · rename_i i
    split at e
    · rename_i z
      split at e
      · rename_i hz
        split at e
        · rename_i k hk
          cases e
          exact .inr (.inr ⟨z, i, k, rw_str.mp rx, rw_int.mp ry, hz, hk, q g _ h (Ext.refl g S) (rw_str.mpr rfl)⟩)
        · cases e
      · cases e
    · split at e
      · rename_i xs hx
        obtain ⟨e1, rfl⟩ := opt_ok e
        obtain ⟨p, vs, rfl, hp, _, r2⟩ := seq_at h rx hx
        obtain ⟨v', e2, r3⟩ := atI_rel r2 e1
        have fin := q g v' h (Ext.refl g S') r3
        rcases hp with hp | hp
        · exact .inl ⟨p, vs, i, v', rfl, rw_int.mp ry, hp, e2, fin⟩
        · exact .inr (.inl ⟨p, vs, i, v', rfl, rw_int.mp ry, hp, e2, fin⟩)
      · cases e
  · cases e
theorem e_idx {X : Cx} {a b : Expr} {ma mb : E} {pos : Pos} (hK : X.K = c.K) (ha : PE X a (tE c ma)) (hb : PE X b (tE c mb)) (hs : PlainIx b) : PE X (.Subscript a b pos) (tE c (eBin fIdx ma mb)) :=
  PEimp (pe_ix ix_seq ha hb hs) fun σ H Q h => by rw [hK]; exact tE_two h s_idx
end
end SB
/-! SB, part 5: targets, what is walked, loops, comprehensions, statements. -/
namespace SB
open PySem PySem.Spec PyProof.Rows L2

theorem Le.refl (g : Gh) : Le g g := ⟨fun _ z => z, fun _ _ _ e => e, fun _ _ => rfl, Nat.le_refl _, fun _ _ _ e => e⟩
theorem Le.trans {g g1 g2 : Gh} (a : Le g g1) (b : Le g1 g2) : Le g g2 := ⟨fun p z => b.fz p (a.fz p z), fun p o f e => b.keep p o (a.fz p f) (a.keep p o f e), fun x h => (b.rho x (Nat.lt_of_lt_of_le h a.n)).trans (a.rho x h), Nat.le_trans a.n b.n, fun p o u e => b.lk p o u (a.lk p o u e)⟩
/-- only these places differ -/
structure Agree (ix : List Nat) (σ σ' : L2.St) : Prop where
  len : σ'.length = σ.length
  at_ : ∀ i, i ∉ ix → σ'[i]? = σ[i]?
theorem Agree.refl (ix : List Nat) (σ : L2.St) : Agree ix σ σ := ⟨rfl, fun _ _ => rfl⟩
theorem Agree.trans {ix : List Nat} {σ σ1 σ2 : L2.St} (a : Agree ix σ σ1) (b : Agree ix σ1 σ2) : Agree ix σ σ2 := ⟨b.len.trans a.len, fun i h => (b.at_ i h).trans (a.at_ i h)⟩
theorem Agree.mono {ix iy : List Nat} {σ σ1 : L2.St} (a : Agree ix σ σ1) (h : ∀ i ∈ ix, i ∈ iy) : Agree iy σ σ1 := ⟨a.len, fun i z => a.at_ i fun y => z (h i y)⟩
theorem wipe_at {σ : L2.St} {i : Nat} : ∀ {vs : List Nat}, (wipe σ vs)[i]? = if i ∈ vs then (σ[i]?).map (fun _ => none) else σ[i]?
  | [] => by simp [wipe]
  | v :: vs => by
    unfold wipe
    rw [List.getElem?_set, wipe_length]
    have ih := @wipe_at σ i vs
    by_cases e : v = i
    · subst e
      rw [if_pos rfl, if_pos List.mem_cons_self]
      by_cases hl : v < σ.length
      · rw [if_pos hl, List.getElem?_eq_getElem hl]; rfl
      · rw [if_neg hl, List.getElem?_eq_none (by omega)]; rfl
    · rw [if_neg e, ih]
      by_cases m : i ∈ vs
      · rw [if_pos m, if_pos (List.mem_cons_of_mem _ m)]
      · rw [if_neg m, if_neg fun z => by
          rcases List.mem_cons.mp z with z | z
          · exact e z.symm
          · exact m z]
theorem Agree.wipe {vs : List Nat} {σ σ' : L2.St} (a : Agree vs σ σ') : L2.wipe σ' vs = L2.wipe σ vs := by
  apply List.ext_getElem?
  intro i
  rw [wipe_at, wipe_at]
  by_cases h : i ∈ vs
  · rw [if_pos h, if_pos h]
    by_cases hl : i < σ.length
    · rw [List.getElem?_eq_getElem hl, List.getElem?_eq_getElem (by rw [a.len]; exact hl)]; rfl
    · have l := a.len
      rw [List.getElem?_eq_none (l := σ) (by omega), List.getElem?_eq_none (l := σ') (by omega)]
  · rw [if_neg h, if_neg h]; exact a.at_ i h
theorem wipe_wipe {vs : List Nat} {σ : L2.St} : L2.wipe (L2.wipe σ vs) vs = L2.wipe σ vs := by
  apply List.ext_getElem?
  intro i
  rw [wipe_at, wipe_at]
  by_cases h : i ∈ vs
  · rw [if_pos h, if_pos h]; cases σ[i]? <;> rfl
  · rw [if_neg h, if_neg h]
theorem wipeM_at {σ : Sl} {i : Nat} {x : Sv} : ∀ {vs : List Nat}, (wipeM σ vs)[i]? = some (some x) → σ[i]? = some (some x) ∧ i ∉ vs
  | [], h => ⟨h, by simp⟩
  | v :: vs, h => by
    unfold wipeM at h
    by_cases hi : v = i
    · subst hi
      rw [List.getElem?_set] at h
      rw [if_pos rfl] at h
      split at h <;> cases h
    · rw [List.getElem?_set_ne hi] at h
      obtain ⟨h1, h2⟩ := wipeM_at h
      exact ⟨h1, by simp only [List.mem_cons, not_or]; exact ⟨fun e => hi e.symm, h2⟩⟩
theorem wipeM_length (σ : Sl) : ∀ vs : List Nat, (wipeM σ vs).length = σ.length
  | [] => rfl
  | v :: vs => by unfold wipeM; rw [List.length_set, wipeM_length σ vs]

section
variable {c : Cn} {g0 g g' : Gh} {S0 S S' : Hm} {sm : Sl} {σ : L2.St}
/-- a name's place gets a value -/
theorem SRel.setv {i : Nat} {w : W} {v : V} (r : SRel c g0 S0 sm σ g S) (rv : RW c g w v) : SRel c g0 S0 (sm.set i (some (.val w))) (σ.set i (some v)) g S where
  h := r.h
  x := r.x
  len := by simp [r.len]
  val := fun j u e => by
    rw [List.getElem?_set] at e ⊢
    by_cases hi : i = j
    · rw [if_pos hi] at e ⊢
      rw [← r.len]
      split at e
      · rename_i hl
        cases e
        exact ⟨v, by rw [if_pos hl], rv⟩
      · cases e
    · rw [if_neg hi] at e ⊢
      exact r.val j u e
  own := fun j o e => by
    rw [List.getElem?_set] at e
    by_cases hi : i = j
    · rw [if_pos hi] at e
      split at e <;> cases e
    · rw [if_neg hi] at e
      obtain ⟨p, e1, q⟩ := r.own j o e
      exact ⟨p, by rw [List.getElem?_set_ne hi]; exact e1, q⟩
  sep := fun j k o u n e1 e2 => by
    rw [List.getElem?_set] at e1 e2
    by_cases hj : i = j
    · rw [if_pos hj] at e1; split at e1 <;> cases e1
    · by_cases hk : i = k
      · rw [if_pos hk] at e2; split at e2 <;> cases e2
      · rw [if_neg hj] at e1
        rw [if_neg hk] at e2
        rw [List.getElem?_set_ne hj, List.getElem?_set_ne hk]
        exact r.sep j k o u n e1 e2
  pn := fun j o e ix => by
    rw [List.getElem?_set] at e
    by_cases hi : i = j
    · rw [if_pos hi] at e
      split at e <;> cases e
    · rw [if_neg hi] at e
      rw [List.getElem?_set_ne hi]
      exact r.pn j o e ix
/-- a name's place gets an object that no one else holds -/
theorem SRel.seto {i : Nat} {o : MO} {p : Addr} (r : SRel c g0 S0 sm σ g S) (ro : RO c g o (g.H p)) (f : ¬ g.Fz p) (nl : ¬ live g S p) (np : g0.H p = none) (ne : ∀ j u, j ≠ i → sm[j]? = some (some (.own u)) → σ[j]? ≠ some (some (.ref p))) (hno : isIns o = false := by rfl) :
    SRel c g0 S0 (sm.set i (some (.own o))) (σ.set i (some (.ref p))) g S where
  h := r.h
  x := r.x
  len := by simp [r.len]
  val := fun j u e => by
    rw [List.getElem?_set] at e
    by_cases hi : i = j
    · rw [if_pos hi] at e
      split at e <;> cases e
    · rw [if_neg hi] at e
      obtain ⟨v, e1, q⟩ := r.val j u e
      exact ⟨v, by rw [List.getElem?_set_ne hi]; exact e1, q⟩
  own := fun j u e => by
    rw [List.getElem?_set] at e
    by_cases hi : i = j
    · rw [if_pos hi] at e
      split at e
      · rename_i hl
        cases e
        exact ⟨p, by rw [List.getElem?_set, if_pos hi, if_pos (by rw [← r.len]; exact hl)], ro, f, nl, np⟩
      · cases e
    · rw [if_neg hi] at e
      obtain ⟨q, e1, z⟩ := r.own j u e
      exact ⟨q, by rw [List.getElem?_set_ne hi]; exact e1, z⟩
  sep := fun j k o1 u n e1 e2 => by
    rw [List.getElem?_set] at e1 e2
    by_cases hj : i = j
    · rw [if_pos hj] at e1
      have hk : i ≠ k := fun z => n (hj.symm.trans z)
      rw [if_neg hk] at e2
      have hl : i < sm.length := by
        split at e1
        · assumption
        · cases e1
      rw [List.getElem?_set_ne hk, List.getElem?_set, if_pos hj, if_pos (by rw [← r.len]; exact hl)]
      exact fun z => ne k u (Ne.symm hk) e2 z.symm
    · rw [if_neg hj] at e1
      by_cases hk : i = k
      · rw [if_pos hk] at e2
        have hl : i < sm.length := by
          split at e2
          · assumption
          · cases e2
        rw [List.getElem?_set_ne hj, List.getElem?_set, if_pos hk, if_pos (by rw [← r.len]; exact hl)]
        exact ne j o1 (Ne.symm hj) e1
      · rw [if_neg hk] at e2
        rw [List.getElem?_set_ne hj, List.getElem?_set_ne hk]
        exact r.sep j k o1 u n e1 e2
  pn := fun j o e ix => by
    rw [List.getElem?_set] at e
    by_cases hi : i = j
    · rw [if_pos hi] at e
      split at e
      · cases e
        rw [hno] at ix; cases ix
      · cases e
    · rw [if_neg hi] at e
      rw [List.getElem?_set_ne hi]
      exact r.pn j o e ix
theorem SRel.wipe (r : SRel c g0 S0 sm σ g S) (vs : List Nat) : SRel c g0 S0 (wipeM sm vs) (L2.wipe σ vs) g S where
  h := r.h
  x := r.x
  len := by rw [wipeM_length, wipe_length, r.len]
  val := fun i w e => by
    obtain ⟨e1, n⟩ := wipeM_at e
    obtain ⟨v, e2, q⟩ := r.val i w e1
    exact ⟨v, by rw [wipe_at, if_neg n]; exact e2, q⟩
  own := fun i w e => by
    obtain ⟨e1, n⟩ := wipeM_at e
    obtain ⟨v, e2, q⟩ := r.own i w e1
    exact ⟨v, by rw [wipe_at, if_neg n]; exact e2, q⟩
  sep := fun i j o u n e1 e2 => by
    obtain ⟨e1, n1⟩ := wipeM_at e1
    obtain ⟨e2, n2⟩ := wipeM_at e2
    rw [wipe_at, if_neg n1, wipe_at, if_neg n2]
    exact r.sep i j o u n e1 e2
  pn := fun i o e ix => by
    obtain ⟨e1, n1⟩ := wipeM_at e
    rw [wipe_at, if_neg n1]
    exact r.pn i o e1 ix
end

/-! ### targets -/
def tG (c : Cn) (ix : List Nat) (t : Tg) : TG := fun v σ H Q => ∃ g0 S0 sm g S w, g.H = H ∧ SRel c g0 S0 sm σ g S ∧ RW c g w v ∧ ∃ sm' S', t w sm S = .ok sm' S' ∧
  ∀ g' σ', SRel c g0 S0 sm' σ' g' S' → Ext g S g' S' → Agree ix σ σ' → Q σ' g'.H
def tGs (c : Cn) (ix : List Nat) (ts : List Tg) : TGs := fun vs σ H Q => ∃ g0 S0 sm g S ws, g.H = H ∧ SRel c g0 S0 sm σ g S ∧ RWs c g ws vs ∧ ∃ sm' S', tgSeq ts ws sm S = .ok sm' S' ∧
  ∀ g' σ', SRel c g0 S0 sm' σ' g' S' → Ext g S g' S' → Agree ix σ σ' → Q σ' g'.H
theorem PGimp {X : Cx} {e : Expr} {t t' : TG} (h : PG X e t) (i : ∀ v σ H Q, t' v σ H Q → t v σ H Q) : PG X e t' := ⟨fun pins s σ H v u Q I r hw => h.run pins s σ H v u Q I r (i v σ H Q hw)⟩
theorem PGsimp {X : Cx} {es : List Expr} {t t' : TGs} (h : PGs X es t) (i : ∀ v σ H Q, t' v σ H Q → t v σ H Q) : PGs X es t' := ⟨fun pins s σ H v u Q I r hw => h.run pins s σ H v u Q I r (i v σ H Q hw)⟩
section
variable {c : Cn} {X : Cx} {pos : Pos}
theorem g_name {i : Nat} {x : Str} (hN : X.N.Nodup) (hi : X.N[i]? = some x) (hx : Loc X.env.scope x) (hf : X.fn x = true ∨ X.env.scope.names.lookup x = some .local) : PG X (.Name x pos) (tG c [i] (tgName i)) :=
  PGimp (pg_name hN hi hx hf) fun v σ H Q h => by
    obtain ⟨g0, S0, sm, g, S, w, rfl, rl, rv, sm', S', e, q⟩ := h
    cases e
    refine q g _ (rl.setv rv) (Ext.refl g S) ⟨by simp, fun j hj => ?_⟩
    rw [List.getElem?_set_ne fun z => hj (by rw [z]; exact List.mem_cons_self)]
theorem g_nil : PGs X [] (tGs c [] []) := PGsimp pgs_nil fun v σ H Q h => by
  obtain ⟨g0, S0, sm, g, S, ws, rfl, rl, rv, sm', S', e, q⟩ := h
  cases ws with
  | nil =>
    cases e
    unfold RWs at rv
    exact ⟨rv, q g σ rl (Ext.refl g S) (.refl _ _)⟩
  | cons _ _ => cases e
theorem g_cons {e : Expr} {es : List Expr} {t : Tg} {ts : List Tg} {ix iy : List Nat} (h1 : PG X e (tG c ix t)) (h2 : PGs X es (tGs c iy ts))
    (hs : (assignEach (e :: es) X.env).map (·.2) = assign e X.env :: (assignEach es X.env).map (·.2)) : PGs X (e :: es) (tGs c (ix ++ iy) (t :: ts)) := PGsimp (pgs_cons h1 h2 hs) fun v σ H Q h => by
  obtain ⟨g0, S0, sm, g, S, ws, rfl, rl, rv, sm', S', e, q⟩ := h
  cases ws with
  | nil => cases e
  | cons w ws =>
    obtain ⟨v, r, rfl, r1, r2⟩ := rv.cons'
    obtain ⟨sm1, S1, e1, e2⟩ := R.of_bind (show (t w sm S).bind (fun σ1 S1 => tgSeq ts ws σ1 S1) = .ok sm' S' from e)
    refine ⟨v, r, rfl, g0, S0, sm, g, S, w, rfl, rl, r1, sm1, S1, e1, fun g1 σ1 rl1 x1 a1 => ?_⟩
    refine ⟨g0, S0, sm1, g1, S1, ws, rfl, rl1, RWs.mono rl.h x1 _ _ r2, sm', S', e2, fun g2 σ2 rl2 x2 a2 => ?_⟩
    exact q g2 σ2 rl2 (x1.trans x2) ((a1.mono fun i z => List.mem_append_left _ z).trans (a2.mono fun i z => List.mem_append_right _ z))
theorem g_tup {es : List Expr} {k : Nat} {ts : List Tg} {ix : List Nat} (hK : X.K = c.K) (hc : X.calm = true) (h : PGs X es (tGs c ix ts)) (hn : (assignEach es X.env).length = ts.length) (hst : (assignEach es X.env).findIdx? (·.1) = none) :
    PG X (.Tuple es k pos) (tG c ix (tgTup ts)) := ⟨fun pins s σ H v u Q I r h' => by
  obtain ⟨g0, S0, sm, g, S, w, rfl, rl, rv, sm', S', e, q⟩ := h'
  have lst : (match lstOf S w with
      | some xs => if xs.length = ts.length then tgSeq ts xs sm S else .stuck
      | none => .stuck) = SB.R.ok sm' S' → wpAny (model X.prog X.w) X.A (assign (.Tuple es k pos) X.env u) (fun _ s' => ∃ σ' H', Inv X pins σ' H' s' ∧ Q σ' H') X.xe s := fun e => by
    cases hs : lstOf S w with
    | none => rw [hs] at e; cases e
    | some ws =>
      rw [hs] at e
      simp only at e
      split at e
      · rename_i hl
        obtain ⟨p, vs, rfl, hp, z, r2⟩ := lst_at rl.h rv hs
        exact (pg_lst hc h hn hst).run pins s σ _ _ u Q I r ⟨p, vs, rfl, .inl (.inl hp), by rw [← r2.length]; exact hl, ⟨g0, S0, sm, g, S, ws, rfl, rl, r2, sm', S', e, q⟩⟩
      · cases e
  cases w with
  | tup ws =>
    obtain ⟨p, vs, rfl, hp, z, r2⟩ := rw_tup.mp rv
    have e : (if ws.length = ts.length then tgSeq ts ws sm S else .stuck) = .ok sm' S' := e
    split at e
    · rename_i hl
      exact (pg_tup hc h hn hst).run pins s σ _ _ u Q I r ⟨p, vs, rfl, by rw [hK]; exact sqt_of hp, by rw [← r2.length]; exact hl, ⟨g0, S0, sm, g, S, ws, rfl, rl, r2, sm', S', e, q⟩⟩
    · cases e
  | _ => exact lst e⟩
end

end SB
/-! SB, part 6: enumerate and zip over lists and tuples, in any mix. -/
namespace SB
open PySem PySem.Spec PyProof.Rows L2

inductive Sk where
  | l | t
def SqK (k : Sk) (K : PySem.W.Frag) (H : Hp) (a : Addr) (xs : List V) : Prop := match k with
  | .l => SqL K H a xs
  | .t => SqT K H a xs
def IterK (k : Sk) (h : Heap) (it a : Addr) (i : Nat) : Prop := match k with
  | .l => h.IsListIter it a i
  | .t => h.IsTupleIter it a i
def SeqR (k : Sk) (h : Heap) (a : Addr) (items : Array Value) : Prop := match k with
  | .l => h.IsList a items
  | .t => h.IsTuple a items
def itObj (k : Sk) (a : Addr) : Obj := match k with
  | .l => { cls := .type "list_iterator", data := .fields #[.ref a, .int 0 0] }
  | .t => { cls := .type "tuple_iterator", data := .fields #[.ref a, .int 0 0] }
theorem begK (k : Sk) (a : Addr) (items : Array Value) : Begins (.ref a) (itObj k a) fun h => SeqR k h a items := by
  cases k with
  | l => exact begins_list a items
  | t => exact begins_tuple a items
theorem iterK_new {k : Sk} {h : Heap} {it a : Addr} (e : h.get? it = some (itObj k a)) : IterK k h it a 0 := by
  cases k with
  | l => exact ⟨_, e, rfl, rfl⟩
  | t => exact ⟨_, e, rfl, rfl⟩
theorem drawsK {prog : Program} {w : World} {A : Around} (hh : A.handled = none) (k : Sk) (it a : Addr) (hne : a ≠ it) (items : Array Value) :
    Draws prog w A it [it, a] items.size (fun i v => items[i]? = some v) (fun i h => IterK k h it a i ∧ SeqR k h a items) := by
  cases k with
  | l => exact Draws.list hh it a hne items
  | t => exact Draws.tuple hh it a hne items
theorem iterK_obj {k : Sk} {h : Heap} {it a : Addr} {i : Nat} (st : IterK k h it a i) : ∃ o, h.get? it = some o ∧ (∀ v, o.data ≠ .cell v) ∧ (o.cls = .type "list_iterator" ∨ o.cls = .type "tuple_iterator") := by
  cases k with
  | l => obtain ⟨o, e, cc, d⟩ := st; exact ⟨o, e, (fun v q => by rw [d] at q; cases q), .inl cc⟩
  | t => obtain ⟨o, e, cc, d⟩ := st; exact ⟨o, e, (fun v q => by rw [d] at q; cases q), .inr cc⟩
theorem seqR_obj {k : Sk} {h : Heap} {a : Addr} {items : Array Value} (st : SeqR k h a items) : ∃ o, h.get? a = some o ∧ (o.cls = .type "list" ∨ o.cls = .type "tuple") := by
  cases k with
  | l => obtain ⟨o, e, cc, _⟩ := st; exact ⟨o, e, .inl cc⟩
  | t => obtain ⟨o, e, cc, _⟩ := st; exact ⟨o, e, .inr cc⟩
theorem apart_it {k k' : Sk} {h : Heap} {it a b : Addr} {i : Nat} {items : Array Value} (st : IterK k h it a i) (sr : SeqR k' h b items) : b ≠ it := fun z => by
  obtain ⟨o, e, _, c1⟩ := iterK_obj st
  obtain ⟨u, e2, c2⟩ := seqR_obj sr
  rw [z, e] at e2
  cases e2
  rcases c1 with c1 | c1 <;> rcases c2 with c2 | c2 <;> (rw [c1] at c2; exact absurd c2 (by decide))
theorem apart_cls {k : Sk} {h : Heap} {b e : Addr} {items : Array Value} {o : Obj} {n : String} (sr : SeqR k h b items) (he : h.get? e = some o) (hc : o.cls = .type n) (hn : n ≠ "list") (hn2 : n ≠ "tuple") : b ≠ e := fun z => by
  obtain ⟨u, e2, c2⟩ := seqR_obj sr
  rw [z, he] at e2
  cases e2
  rcases c2 with c2 | c2 <;> (rw [hc] at c2; injection c2 with c2; first | exact hn c2 | exact hn2 c2)
theorem iterK_at {k : Sk} {h h' : Heap} {it a : Addr} {i : Nat} (st : IterK k h it a i) (q : ∀ o, h.get? it = some o → h'.get? it = some o) : IterK k h' it a i := by
  cases k with
  | l => exact Heap.IsListIter.at st q
  | t => obtain ⟨o, e, r⟩ := st; exact ⟨o, q o e, r⟩
section
variable {X : Cx} {pins : List (Addr × Obj)} {σ : L2.St} {H : Hp} {s : Shared} {a : Addr} {xs ys : List V} {k : Sk}
theorem seqK (I : Inv X pins σ H s) (h : SqK k X.K H a xs) : ∃ its : List Value, Vals xs its ∧ SeqR k s.heap a its.toArray ∧ xs.length ≤ sizeLine := by
  cases k with
  | l => obtain ⟨its, r, p, z⟩ := I.list h; exact ⟨its, r, p.isList, z⟩
  | t => obtain ⟨its, r, p, z⟩ := I.tuple h; exact ⟨its, r, p, z⟩
theorem seqK_inj (I : Inv X pins σ H s) (h : SqK k X.K H a xs) (h' : SqK k X.K H a ys) : xs = ys := by
  cases k with
  | l => exact I.list_inj h h'
  | t => exact I.tuple_inj h h'
end

/-! ### enumerate -/
def IteK (k : Sk) (K : PySem.W.Frag) (a : Addr) : It :=
  ⟨fun i H => ∃ (xs : List V) (x : V), SqK k K H a xs ∧ xs[i]? = some x, fun i H v H' => ∃ T x, v = .ref T ∧ H T = none ∧ H' = upd H T (.tup [.int (i : Nat), x]) ∧ ∀ xs, SqK k K H a xs → xs[i]? = some x, fun i H => ∃ xs : List V, SqK k K H a xs ∧ xs.length = i⟩
theorem turn_enumK {P : Program} {w : World} {K : PySem.W.Frag} {elts : List Expr} {kk : Nat} {tpos : Pos} (k : Sk) (a e it : Addr) :
    Turn P w K (.Tuple elts kk tpos) (IteK k K a) [e, it] e (fun i h => (∃ old, IsEnum h e it ((i : Nat) : Int) old) ∧ IterK k h it a i ∧ e ≠ it) where
  mem := by simp
  obj := fun i h st b hb => by
    obtain ⟨⟨old, he⟩, hi, _⟩ := st
    obtain ⟨o, ho, hd, _⟩ := iterK_obj hi
    have e' : b = e ∨ b = it := by simpa using hb
    rcases e' with z | z
    · rw [z]; exact ⟨_, he, fun v q => nomatch q⟩
    · rw [z]; exact ⟨o, ho, hd⟩
  keep := fun i h h' st k => let ⟨⟨old, he⟩, hi, hne⟩ := st; ⟨⟨old, k e (by simp) _ he⟩, iterK_at hi fun o q => k it (by simp) o q, hne⟩
  item := by
    intro X hP hw hK hc i pins s σ H E I hf st hg
    subst hP hw hK
    obtain ⟨⟨old, he⟩, hit, hne⟩ := st
    obtain ⟨xs, x, hq, hx⟩ := hg
    obtain ⟨its, rv, p, hz⟩ := seqK I hq
    obtain ⟨u, hu, ru⟩ := rv.get hx
    have hel : e < s.heap.objs.size := Heap.lt_size he
    have hil : it < s.heap.objs.size := by obtain ⟨o, q, _⟩ := iterK_obj hit; exact Heap.lt_size q
    have hae : a ≠ e := apart_cls p he rfl (by decide) (by decide)
    have D := drawsK (prog := X.prog) (w := X.w) (A := X.A.in1) (I.ok.hd hc) k it a (apart_it hit p) its.toArray
    have hlt : i < its.toArray.size := by
      have := (List.getElem?_eq_some_iff.mp hu).1
      simpa using this
    refine wpAny_pyNext_enum_itemD D he ⟨hit, p⟩ hlt hne (by simp [hne, Ne.symm hae]) fun y h' tk hy ho hst' hT hsz hk => ?_
    have ey : y = u := by
      have h1 : its[i]? = some y := by simpa using hy
      rw [hu] at h1
      exact (Option.some.inj h1).symm
    subst ey
    refine ⟨_, rfl, wpAny_letOwnedTupleGo_enum (s := { s with heap := h', toks := tk + 1 }) ho fun h'' he' sb => ?_⟩
    have hT2 : h''.get? s.heap.objs.size = some { cls := .type "tuple", data := .seq #[.int i tk, y] } := (sb.2 _ (Nat.ne_of_gt hel)).trans hT
    have new : ObjOk X.prog X.w (upd H s.heap.objs.size (.tup [.int (i : Nat), x])) h'' s.heap.objs.size (.tup [.int (i : Nat), x]) :=
      ⟨by show 2 ≤ sizeLine; decide, [.int i tk, y], .cons ⟨_, rfl⟩ (.cons ru .nil), ⟨_, hT2, rfl, _, rfl⟩⟩
    have I1 : Inv X pins σ (upd H s.heap.objs.size (.tup [.int (i : Nat), x])) { s with heap := h'', toks := tk + 1 } :=
      I.turnedNew (ch := [e, it]) (fun b ob hb q => (sb.2 b (fun z => hb (by simp [z]))).trans (hk b ob (fun z => hb (by simp [z])) (fun z => hb (by simp [z])) q)) hf (Nat.le_refl _) new
    refine ⟨.ref s.heap.objs.size, _, I1, rfl, ⟨_, x, rfl, I.hok.fresh (Nat.le_refl _), rfl, fun ys hy => by rw [seqK_inj I hy hq]; exact hx⟩, ⟨⟨y, ?_⟩, iterK_at hst'.1 fun o q => (sb.2 it (Ne.symm hne)).trans q, hne⟩, fun b hb => ?_⟩
    · have e1 : ((i + 1 : Nat) : Int) = (i : Int) + 1 := by omega
      rw [e1]; exact he'
    · have hb' : b < s.heap.objs.size := by
        have e' : b = e ∨ b = it := by simpa using hb
        rcases e' with z | z
        · rw [z]; exact hel
        · rw [z]; exact hil
      rw [upd_ne (Nat.ne_of_lt hb')]
      exact (hf b hb).1
  done := by
    intro X hP hw hK hc i pins s σ H E I hf st hg
    subst hP hw hK
    obtain ⟨⟨old, he⟩, hit, hne⟩ := st
    obtain ⟨xs, hq, hx⟩ := hg
    obtain ⟨its, rv, p, hz⟩ := seqK I hq
    obtain ⟨f0, f1, f2, f3, f4, f5⟩ := hf it (by simp)
    have hl := rv.length
    have D := drawsK (prog := X.prog) (w := X.w) (A := X.A.in1) (I.ok.hd hc) k it a (apart_it hit p) its.toArray
    have en : i = its.toArray.size := by simp; omega
    subst en
    exact wpAny_pyNext_enum_endD D he ⟨hit, p⟩ fun h' eb => ⟨rfl, I.turned (t' := s.toks) (fun b o hb q => eb b o hb q) f0 f1 f3 f4 f5⟩
  self := fun A i s Q E st h => let ⟨⟨_, he⟩, _⟩ := st; wpAny_pyIter_enum he h
set_option maxHeartbeats 1000000 in
theorem meets_enumB1 {v : Value} {o : Obj} {H : Heap → Prop} (B : Begins v o H) :
    Meets (Builtin.«enumerate.__new__» ⟨[.type "enumerate", v], []⟩) (fun _ R s => H s.heap ∧
      R (.ok (.ret (.ref (s.heap.push o).objs.size))) { s with heap := (s.heap.push o).push { cls := .type "enumerate", data := .fields #[.none, .bool false, .ref s.heap.objs.size, rawInt 0, .none, .none] } }) :=
  .of_wp fun prog w A R s h => by
    obtain ⟨hp, g, d, tk, os⟩ := s; obtain ⟨h1, h⟩ := h
    have hsub := sub_enumerate
    have q1 : ∀ {A' : Around} {E : Value → Shared → Prop} {Q : Value → Shared → Prop}, Q (.ref hp.objs.size) ⟨hp.push o, g, d, tk, os⟩ → wpAny (model prog w) A' (pyIter v) Q E ⟨hp, g, d, tk, os⟩ :=
      fun q => B.iter prog w _ _ ⟨hp, g, d, tk, os⟩ _ h1 q
    wp_walk using q1
    refine wpAny_stack_any fun st => wpAny_pure ?_
    split
    · rename_i c _ _ _ _ _
      cases (c == Value.type "enumerate")
      · wp_walk using q1
        exact ⟨_, rfl, h⟩
      · wp_walk using q1
        exact ⟨_, rfl, h⟩
    · wp_walk using q1
      exact ⟨_, rfl, h⟩
theorem enum_begins1 {prog : Program} {w : World} {A : Around} {E : Value → Shared → Prop} {s : Shared} {v : Value} {o : Obj} {H : Heap → Prop} {Q : Value → Shared → Prop} (B : Begins v o H) (h1 : H s.heap)
    (h : ∀ h', IsEnum h' (s.heap.objs.size + 1) s.heap.objs.size 0 .none → h'.get? s.heap.objs.size = some o → h'.objs.size = s.heap.objs.size + 2 →
      (∀ b o, s.heap.get? b = some o → h'.get? b = some o) → Q (.ref (s.heap.objs.size + 1)) { s with heap := h' }) :
    wpAny (model prog w) A (call (.type "enumerate") [v]) Q E s := by
  refine callType_new F.called_enumerate (by decide) (F.typeCall_enumerate_1 _) (F.newCall_enumerate_1 _) (fun obj => F.args_object_init_2 obj _) F.entry_enumerate_new
    (meets_enumB1 B) ⟨h1, ?_⟩
  have hz : (s.heap.push o).objs.size = s.heap.objs.size + 1 := Heap.size_push ..
  show _ ∧ _
  rw [hz]
  have he : IsEnum ((s.heap.push o).push { cls := .type "enumerate", data := .fields #[.none, .bool false, .ref s.heap.objs.size, rawInt 0, .none, .none] }) (s.heap.objs.size + 1) s.heap.objs.size 0 .none := by
    have := Heap.get?_push_size (s.heap.push o) (o := { cls := .type "enumerate", data := .fields #[.none, .bool false, .ref s.heap.objs.size, rawInt 0, .none, .none] }) rfl
    rw [hz] at this; exact this
  refine ⟨⟨_, he, rfl⟩, h _ he (Heap.get?_push_of_some _ (Heap.get?_push_size _ B.free)) (by rw [Heap.size_push, hz]) fun b o x => Heap.get?_push_of_some _ (Heap.get?_push_of_some _ x)⟩
def iEnumK (K : PySem.W.Frag) (ta : TA) : TI := fun σ H R => ta σ H fun vs H1 => ∃ k a xs, vs = [.ref a] ∧ SqK k K H1 a xs ∧ R (IteK k K a) H1
theorem pi_enumK {X : Cx} {e : Expr} {ta : TA} {p pos tpos : Pos} {elts : List Expr} {kk : Nat} (hg : Gl X "enumerate") (hm : X.mg "enumerate" = none) (ha : PA X [e] ta) (hs : starEach [e] X.env = [(false, eval e X.env)]) :
    PI X (.Tuple elts kk tpos) (.Call (.Name "enumerate" p) [e] [] pos) (iEnumK X.K ta) := by
  refine ⟨fun pins s σ H R I h => ?_⟩
  refine Call_ (ld_blt I hg hm boot_enumerate (PyProof.Rows.callWith_type1 (thn (ha.run pos pins s σ H _ I h) fun us s1 ⟨vs, H1, I1, r1, q1⟩ => ?_) hs rfl))
  obtain ⟨k, a, xs, ex, hq, q⟩ := q1
  subst ex
  cases r1 with
  | cons r rr =>
    cases rr
    cases r
    obtain ⟨its, rv, p', hz⟩ := seqK I1 hq
    refine enum_begins1 (begK k a its.toArray) p' fun h' he hit hsz hk => wpAny_pyIter_enum he ?_
    have I2 : Inv X pins σ H1 { s1 with heap := h' } := I1.kept (t' := s1.toks) hk
    refine ⟨s1.heap.objs.size + 1, [s1.heap.objs.size + 1, s1.heap.objs.size], _, _, H1, rfl, I2, turn_enumK k a (s1.heap.objs.size + 1) s1.heap.objs.size, ⟨⟨.none, he⟩, iterK_new hit, Nat.succ_ne_self _⟩, fun b hb => ?_, q⟩
    have e' : b = s1.heap.objs.size + 1 ∨ b = s1.heap.objs.size := by simpa using hb
    have hle : s1.heap.objs.size ≤ b := by
      rcases e' with z | z
      · rw [z]; exact Nat.le_add_right _ _
      · rw [z]; exact Nat.le_refl _
    exact I1.fpOk hle (I1.hok.fresh hle)

/-! ### zip -/
def ItzK (k l : Sk) (K : PySem.W.Frag) (a b : Addr) : It :=
  ⟨fun i H => ∃ (xs ys : List V) (x y : V), SqK k K H a xs ∧ SqK l K H b ys ∧ xs[i]? = some x ∧ ys[i]? = some y,
    fun i H v H' => ∃ T x y, v = .ref T ∧ H T = none ∧ H' = upd H T (.tup [x, y]) ∧ (∀ xs, SqK k K H a xs → xs[i]? = some x) ∧ ∀ ys, SqK l K H b ys → ys[i]? = some y,
    fun i H => ∃ xs ys : List V, SqK k K H a xs ∧ SqK l K H b ys ∧ i ≤ xs.length ∧ i ≤ ys.length ∧ (xs.length = i ∨ ys.length = i)⟩
/-- the cells lie apart, but for the lists themselves -/
structure Zap (z TI TO i1 i2 : Addr) : Prop where
  TIz : TI ≠ z
  TOz : TO ≠ z
  TITO : TI ≠ TO
  TIi1 : TI ≠ i1
  TIi2 : TI ≠ i2
  zi1 : z ≠ i1
  zi2 : z ≠ i2
  Ti1 : TO ≠ i1
  Ti2 : TO ≠ i2
  i12 : i1 ≠ i2
theorem turn_zipK {P : Program} {w : World} {K : PySem.W.Frag} {elts : List Expr} {kk : Nat} {tpos : Pos} (k l : Sk) {a b z TI TO i1 i2 : Addr} (D : Zap z TI TO i1 i2) (aO : a ≠ TO) (bO : b ≠ TO) :
    Turn P w K (.Tuple elts kk tpos) (ItzK k l K a b) [z, TI, TO, i1, i2] z (fun i h => IsZip h z TI TO .none ∧ IsTupOf2 h TI (.ref i1) (.ref i2) ∧ (∃ x y, IsTupOf2 h TO x y) ∧ IterK k h i1 a i ∧ IterK l h i2 b i) where
  mem := by simp
  obj := fun i h st c hc => by
    obtain ⟨hz, hTI, ⟨x, y, hTO⟩, h1, h2⟩ := st
    obtain ⟨o1, e1, d1, _⟩ := iterK_obj h1
    obtain ⟨o2, e2, d2, _⟩ := iterK_obj h2
    have e' : c = z ∨ c = TI ∨ c = TO ∨ c = i1 ∨ c = i2 := by simpa using hc
    rcases e' with q | q | q | q | q
    · rw [q]; exact ⟨_, hz, fun v q => nomatch q⟩
    · rw [q]; exact ⟨_, hTI, fun v q => nomatch q⟩
    · rw [q]; exact ⟨_, hTO, fun v q => nomatch q⟩
    · rw [q]; exact ⟨o1, e1, d1⟩
    · rw [q]; exact ⟨o2, e2, d2⟩
  keep := fun i h h' st k => by
    obtain ⟨hz, hTI, ⟨x, y, hTO⟩, h1, h2⟩ := st
    exact ⟨k z (by simp) _ hz, k TI (by simp) _ hTI, ⟨x, y, k TO (by simp) _ hTO⟩, iterK_at h1 fun o q => k i1 (by simp) o q, iterK_at h2 fun o q => k i2 (by simp) o q⟩
  item := by
    intro X hP hw hK hc i pins s σ H E I hf st hg
    subst hP hw hK
    obtain ⟨hz, hTI, ⟨x0, y0, hTO⟩, h1, h2⟩ := st
    obtain ⟨xs, ys, x, y, hqx, hqy, hx, hy⟩ := hg
    obtain ⟨its, rv, p, _⟩ := seqK I hqx
    obtain ⟨its2, rv2, p2, _⟩ := seqK I hqy
    obtain ⟨u, hu, ru⟩ := rv.get hx
    obtain ⟨u2, hu2, ru2⟩ := rv2.get hy
    have hzl : z < s.heap.objs.size := Heap.lt_size hz
    have D1 := drawsK (prog := X.prog) (w := X.w) (A := X.A.in1) (I.ok.hd hc) k i1 a (apart_it h1 p) its.toArray
    have D2 := drawsK (prog := X.prog) (w := X.w) (A := X.A.in1) (I.ok.hd hc) l i2 b (apart_it h2 p2) its2.toArray
    have az : a ≠ z := apart_cls p hz rfl (by decide) (by decide)
    have bz : b ≠ z := apart_cls p2 hz rfl (by decide) (by decide)
    have ai2 : a ≠ i2 := apart_it h2 p
    have bi1 : b ≠ i1 := apart_it h1 p2
    have S : ZipSep2 z TI TO i1 i2 [i1, a] [i2, b] := ⟨D.TIz, D.TOz, D.TITO, D.TIi1, by simp, by simp [D.zi1, Ne.symm az], by simp [D.Ti1, Ne.symm aO], D.TIi2, by simp, by simp [D.zi2, Ne.symm bz], by simp [D.Ti2, Ne.symm bO], by simp [D.i12, Ne.symm bi1], by simp [Ne.symm D.i12, Ne.symm ai2]⟩
    have l1 : i < its.toArray.size := by simpa using (List.getElem?_eq_some_iff.mp hu).1
    have l2 : i < its2.toArray.size := by simpa using (List.getElem?_eq_some_iff.mp hu2).1
    refine wpAny_pyNext_zipD2_item S D1 D2 hz hTI hTO ⟨h1, p⟩ ⟨h2, p2⟩ l1 l2 fun v1 v2 h' tk y1 y2 z' TO' h1' h2' hT hsz hk => ?_
    have ev1 : v1 = u := by
      have q : its[i]? = some v1 := by simpa using y1
      rw [hu] at q; exact (Option.some.inj q).symm
    have ev2 : v2 = u2 := by
      have q : its2[i]? = some v2 := by simpa using y2
      rw [hu2] at q; exact (Option.some.inj q).symm
    subst ev1 ev2
    refine ⟨_, rfl, wpAny_letOwnedTupleGo_zip (s := { s with heap := h', toks := tk }) z' fun h'' z'' sb => ?_⟩
    have hT2 : h''.get? s.heap.objs.size = some { cls := .type "tuple", data := .seq #[v1, v2] } := (sb.2 _ (Nat.ne_of_gt hzl)).trans hT
    have new : ObjOk X.prog X.w (upd H s.heap.objs.size (.tup [x, y])) h'' s.heap.objs.size (.tup [x, y]) :=
      ⟨by show 2 ≤ sizeLine; decide, [v1, v2], .cons ru (.cons ru2 .nil), ⟨_, hT2, rfl, _, rfl⟩⟩
    have I1 : Inv X pins σ (upd H s.heap.objs.size (.tup [x, y])) { s with heap := h'', toks := tk } :=
      I.turnedNew (t' := tk) (ch := [z, TI, TO, i1, i2]) (fun c o hb q => (sb.2 c (fun q' => hb (by simp [q']))).trans (hk c o (fun q' => hb (by simp [q'])) (fun q' => hb (by simp [q'])) (fun q' => hb (by simp [q'])) (fun q' => hb (by simp [q'])) q)) hf (Nat.le_refl _) new
    refine ⟨.ref s.heap.objs.size, _, I1, rfl, ⟨_, x, y, rfl, I.hok.fresh (Nat.le_refl _), rfl, fun l hl => by rw [seqK_inj I hl hqx]; exact hx, fun l hl => by rw [seqK_inj I hl hqy]; exact hy⟩, ⟨z'', ?_, ⟨v1, v2, ?_⟩, ?_, ?_⟩, fun c hcm => ?_⟩
    · exact (sb.2 _ D.TIz).trans (hk _ _ D.TIz D.TITO D.TIi1 D.TIi2 hTI)
    · exact (sb.2 _ D.TOz).trans TO'
    · exact iterK_at h1'.1 fun o q => (sb.2 _ (Ne.symm D.zi1)).trans q
    · exact iterK_at h2'.1 fun o q => (sb.2 _ (Ne.symm D.zi2)).trans q
    · have hlt : c < s.heap.objs.size := by
        obtain ⟨o1, e1, _⟩ := iterK_obj h1
        obtain ⟨o2, e2, _⟩ := iterK_obj h2
        have e' : c = z ∨ c = TI ∨ c = TO ∨ c = i1 ∨ c = i2 := by simpa using hcm
        rcases e' with q | q | q | q | q
        · rw [q]; exact hzl
        · rw [q]; exact Heap.lt_size hTI
        · rw [q]; exact Heap.lt_size hTO
        · rw [q]; exact Heap.lt_size e1
        · rw [q]; exact Heap.lt_size e2
      rw [upd_ne (Nat.ne_of_lt hlt)]
      exact (hf c hcm).1
  done := by
    intro X hP hw hK hc i pins s σ H E I hf st hg
    subst hP hw hK
    obtain ⟨hz, hTI, ⟨x0, y0, hTO⟩, h1, h2⟩ := st
    obtain ⟨xs, ys, hqx, hqy, b1, b2, hend⟩ := hg
    obtain ⟨its, rv, p, _⟩ := seqK I hqx
    obtain ⟨its2, rv2, p2, _⟩ := seqK I hqy
    have l1 := rv.length
    have l2 := rv2.length
    have D1 := drawsK (prog := X.prog) (w := X.w) (A := X.A.in1) (I.ok.hd hc) k i1 a (apart_it h1 p) its.toArray
    have D2 := drawsK (prog := X.prog) (w := X.w) (A := X.A.in1) (I.ok.hd hc) l i2 b (apart_it h2 p2) its2.toArray
    have az : a ≠ z := apart_cls p hz rfl (by decide) (by decide)
    have bz : b ≠ z := apart_cls p2 hz rfl (by decide) (by decide)
    have ai2 : a ≠ i2 := apart_it h2 p
    have bi1 : b ≠ i1 := apart_it h1 p2
    have S : ZipSep2 z TI TO i1 i2 [i1, a] [i2, b] := ⟨D.TIz, D.TOz, D.TITO, D.TIi1, by simp, by simp [D.zi1, Ne.symm az], by simp [D.Ti1, Ne.symm aO], D.TIi2, by simp, by simp [D.zi2, Ne.symm bz], by simp [D.Ti2, Ne.symm bO], by simp [D.i12, Ne.symm bi1], by simp [Ne.symm D.i12, Ne.symm ai2]⟩
    have he : i = its.toArray.size ∨ i = its2.toArray.size := by
      rcases hend with q | q
      · left; simp; omega
      · right; simp; omega
    exact wpAny_pyNext_zipD2_end S D1 D2 hz hTI hTO ⟨h1, p⟩ ⟨h2, p2⟩ (by simp; omega) (by simp; omega) he fun h' tk hk => ⟨rfl, I.turnedL (t' := tk) (ch := [z, TI, TO, i1, i2]) (fun c o hb q =>
      hk c o (fun q' => hb (by simp [q'])) (fun q' => hb (by simp [q'])) (fun q' => hb (by simp [q'])) (fun q' => hb (by simp [q'])) q) hf⟩
  self := fun A i s Q E st h => wpAny_pyIter_zip st.1 h
def iZipK (K : PySem.W.Frag) (ta : TA) : TI := fun σ H R => ta σ H fun vs H1 => ∃ k l a b xs ys, vs = [.ref a, .ref b] ∧ SqK k K H1 a xs ∧ SqK l K H1 b ys ∧ R (ItzK k l K a b) H1
theorem pi_zipK {X : Cx} {e e2 : Expr} {ta : TA} {p pos tpos : Pos} {elts : List Expr} {kk : Nat} (hg : Gl X "zip") (hm : X.mg "zip" = none) (ha : PA X [e, e2] ta)
    (hs : starEach [e, e2] X.env = (false, eval e X.env) :: starEach [e2] X.env) (hpl : (backTo pos (starEach [e2] X.env)).any (·.1) = false) :
    PI X (.Tuple elts kk tpos) (.Call (.Name "zip" p) [e, e2] [] pos) (iZipK X.K ta) := by
  refine ⟨fun pins s σ H R I h => ?_⟩
  refine Call_ (ld_blt I hg hm PyProof.Rows.boot_zip (PyProof.Rows.callWith_type1 (thn (ha.run pos pins s σ H _ I h) fun us s1 ⟨vs, H1, I1, r1, q1⟩ => ?_) hs hpl))
  obtain ⟨k, l, a, b, xs, ys, ex, hqx, hqy, q⟩ := q1
  subst ex
  cases r1 with
  | cons r rr =>
    cases rr with
    | cons r' rr =>
      cases rr
      cases r
      cases r'
      obtain ⟨its, rv, p1, _⟩ := seqK I1 hqx
      obtain ⟨its2, rv2, p2, _⟩ := seqK I1 hqy
      have la : a < s1.heap.objs.size := by obtain ⟨o, e, _⟩ := seqR_obj p1; exact Heap.lt_size e
      have lb : b < s1.heap.objs.size := by obtain ⟨o, e, _⟩ := seqR_obj p2; exact Heap.lt_size e
      refine zip_begins2 (begK k a its.toArray) (begK l b its2.toArray) p1 p2 fun h' hz hTI hTO h1 h2 hsz hk => wpAny_pyIter_zip hz ?_
      have I2 : Inv X pins σ H1 { s1 with heap := h' } := I1.kept (t' := s1.toks) hk
      have key : ∀ n : Nat, Zap (n + 4) (n + 2) (n + 3) n (n + 1) := fun n => ⟨show (n + 2 : Nat) ≠ n + 4 by omega, show (n + 3 : Nat) ≠ n + 4 by omega, show (n + 2 : Nat) ≠ n + 3 by omega, show (n + 2 : Nat) ≠ n by omega, show (n + 2 : Nat) ≠ n + 1 by omega, show (n + 4 : Nat) ≠ n by omega, show (n + 4 : Nat) ≠ n + 1 by omega, show (n + 3 : Nat) ≠ n by omega, show (n + 3 : Nat) ≠ n + 1 by omega, show (n : Nat) ≠ n + 1 by omega⟩
      have far : ∀ n m : Nat, m < n → m ≠ n + 3 := fun n m q => by omega
      refine ⟨s1.heap.objs.size + 4, [s1.heap.objs.size + 4, s1.heap.objs.size + 2, s1.heap.objs.size + 3, s1.heap.objs.size, s1.heap.objs.size + 1], _, _, H1, rfl, I2, turn_zipK k l (key _) (far _ _ la) (far _ _ lb), ⟨hz, hTI, ⟨_, _, hTO⟩, iterK_new h1, iterK_new h2⟩, fun c hcm => ?_, q⟩
      have e' : c = s1.heap.objs.size + 4 ∨ c = s1.heap.objs.size + 2 ∨ c = s1.heap.objs.size + 3 ∨ c = s1.heap.objs.size ∨ c = s1.heap.objs.size + 1 := by simpa using hcm
      have hle : s1.heap.objs.size ≤ c := by
        rcases e' with z | z | z | z | z
        · rw [z]; exact Nat.le_add_right _ _
        · rw [z]; exact Nat.le_add_right _ _
        · rw [z]; exact Nat.le_add_right _ _
        · rw [z]; exact Nat.le_refl _
        · rw [z]; exact Nat.le_add_right _ _
      exact I1.fpOk hle (I1.hok.fresh hle)
end SB
/-! SB, part 7: what is walked; loops, comprehensions. -/
namespace SB
open PySem PySem.Spec PyProof.Rows L2

/-- at turn i it yields w -/
def Yl (c : Cn) (g' : Gh) (S' : Hm) (J : It) (i : Nat) (w : W) : Prop := J.go i g'.H ∧ ∀ v H', J.yld i g'.H v H' → ∃ g'', g''.H = H' ∧ HRel c g'' S' ∧ Ext g' S' g'' S' ∧ RW c g'' w v
def ItOk (c : Cn) (g : Gh) (it : Itr') (J : It) : Prop := ∀ g' S', HRel c g' S' → Le g g' → ∀ i, match it with
  | .seq xs => (∀ x, xs[i]? = some x → Yl c g' S' J i x) ∧ (xs.length = i → J.stop i g'.H)
  | .dyn at_ => (∀ x, at_ S' i = some (some x) → Yl c g' S' J i x) ∧ (at_ S' i = some none → J.stop i g'.H)
def tI (c : Cn) (m : I) : TI := fun σ H R => ∃ g0 S0 sm g S, g.H = H ∧ SRel c g0 S0 sm σ g S ∧ ∃ it S', m sm S = .ok it S' ∧ ∀ g' J, HRel c g' S' → Ext g S g' S' → ItOk c g' it J → R J g'.H
theorem PIimp {X : Cx} {tg e : Expr} {t t' : TI} (h : PI X tg e t) (i : ∀ σ H R, t' σ H R → t σ H R) : PI X tg e t' := ⟨fun pins s σ H R I hw => h.run pins s σ H R I (i σ H R hw)⟩
section
variable {c : Cn}
/-- where a source lies -/
def SrcAt (c : Cn) (g : Gh) (s : Src) (k : Sk) (p : Addr) : Prop := match s with
  | .fz xs => ∃ vs, SqK k c.K g.H p vs ∧ RWs c g xs vs ∧ (g.Fz p ∨ k = .t ∧ KTup c.K p vs) ∧ ∀ g', Le g g' → SqK k c.K g'.H p vs
  | .rf a => k = .l ∧ a < g.n ∧ p = g.rho a
def kOf : W → Sk
  | .tup _ => .t
  | _ => .l
theorem src_at {g : Gh} {S : Hm} {x : W} {v : V} {s : Src} (h : HRel c g S) (r : RW c g x v) (e : srcOf S x = some s) : ∃ p, v = .ref p ∧ SrcAt c g s (kOf x) p := by
  cases x with
  | tup xs =>
    cases e
    obtain ⟨p, vs, rfl, hp, z, r2⟩ := rw_tup.mp r
    refine ⟨p, rfl, vs, sqt_of hp, r2, ?_, fun g' l => ?_⟩
    · rcases hp with ⟨f, _⟩ | hp
      · exact .inl f
      · exact .inr ⟨rfl, hp⟩
    · rcases hp with ⟨f, hp⟩ | hp
      · exact .inl (.inl (l.keep p _ f hp))
      · exact ktup_sq hp
  | fl xs =>
    cases e
    obtain ⟨p, vs, rfl, f, hp, z, r2⟩ := rw_fl.mp r
    exact ⟨p, rfl, vs, SqL.of hp, r2, .inl f, fun g' l => SqL.of (l.keep p _ f hp)⟩
  | ref a =>
    simp only [srcOf] at e
    split at e
    · cases e
      obtain ⟨ha, rfl⟩ := rw_ref.mp r
      exact ⟨_, rfl, rfl, ha, rfl⟩
    · cases e
  | _ => cases e
theorem SrcAt.mono {g g' : Gh} {s : Src} {k : Sk} {p : Addr} (l : Le g g') (r : SrcAt c g s k p) : SrcAt c g' s k p := by
  cases s with
  | fz xs =>
    obtain ⟨vs, h1, h2, h3, h4⟩ := r
    exact ⟨vs, h4 g' l, RWs.le l _ _ h2, h3.imp (l.fz p) id, fun g2 l2 => h4 g2 (l.trans l2)⟩
  | rf a =>
    obtain ⟨h1, h2, h3⟩ := r
    exact ⟨h1, Nat.lt_of_lt_of_le h2 l.n, by rw [l.rho a h2]; exact h3⟩
/-- its items now -/
theorem SrcAt.now {g : Gh} {S : Hm} {s : Src} {k : Sk} {p : Addr} {xs : List W} (h : HRel c g S) (r : SrcAt c g s k p) (e : srcL S s = some xs) : ∃ vs, SqK k c.K g.H p vs ∧ RWs c g xs vs := by
  cases s with
  | fz ys =>
    cases e
    obtain ⟨vs, h1, h2, _⟩ := r
    exact ⟨vs, h1, h2⟩
  | rf a =>
    obtain ⟨rfl, ha, rfl⟩ := r
    simp only [srcL] at e
    split at e
    · rename_i zs hz
      cases e
      obtain ⟨vs, e2, z, r2⟩ := (h.ob a _ hz).1
      exact ⟨vs, SqL.of e2, r2⟩
    · cases e
theorem srcL_of {S : Hm} {x : W} {s : Src} (e : srcOf S x = some s) : ∃ xs, srcL S s = some xs := by
  cases x with
  | tup xs => cases e; exact ⟨xs, rfl⟩
  | fl xs => cases e; exact ⟨xs, rfl⟩
  | ref a =>
    simp only [srcOf] at e
    split at e
    · rename_i zs hz
      cases e
      refine ⟨zs, ?_⟩
      simp only [srcL, hz]
    · cases e
  | _ => cases e
/-- one thing after another -/
def ItlK (k : Sk) (K : PySem.W.Frag) (a : Addr) : It := match k with
  | .l => Itl K a
  | .t => Itt K a
theorem yl_one {g : Gh} {S : Hm} {k : Sk} {p : Addr} {xs : List W} {vs : List V} {i : Nat} {x : W} (h : HRel c g S) (hp : SqK k c.K g.H p vs) (r : RWs c g xs vs) (e : xs[i]? = some x) : Yl c g S (ItlK k c.K p) i x := by
  obtain ⟨v, e2, rv⟩ := r.get e
  cases k with
  | l =>
    refine ⟨⟨vs, v, hp, e2⟩, fun v' H' y => ?_⟩
    obtain ⟨rfl, y⟩ := y
    have e3 := y vs hp
    rw [e2] at e3; cases e3
    exact ⟨g, rfl, h, Ext.refl _ _, rv⟩
  | t =>
    refine ⟨⟨vs, v, hp, e2⟩, fun v' H' y => ?_⟩
    obtain ⟨rfl, y⟩ := y
    have e3 := y vs hp
    rw [e2] at e3; cases e3
    exact ⟨g, rfl, h, Ext.refl _ _, rv⟩
theorem st_one {g : Gh} {k : Sk} {p : Addr} {vs : List V} {i : Nat} (hp : SqK k c.K g.H p vs) (e : vs.length ≤ i) : (ItlK k c.K p).stop i g.H := by
  cases k with
  | l => exact ⟨vs, hp, e⟩
  | t => exact ⟨vs, hp, e⟩
theorem ok_one {g : Gh} {S : Hm} {s : Src} {k : Sk} {p : Addr} (r : SrcAt c g s k p) : ItOk c g (match s with
    | .fz xs => .seq xs
    | .rf a => .dyn fun S i => (srcL S (.rf a)).map fun xs => xs[i]?) (ItlK k c.K p) := by
  intro g' S' h' l i
  have r' := r.mono l
  cases s with
  | fz xs =>
    obtain ⟨vs, hp, rv⟩ := r'.now (S := S') h' rfl
    exact ⟨fun x e => yl_one h' hp rv e, fun e => st_one hp (by rw [← rv.length]; omega)⟩
  | rf a =>
    refine ⟨fun x e => ?_, fun e => ?_⟩
    · have e : ((srcL S' (.rf a)).map fun xs => xs[i]?) = some (some x) := e
      obtain ⟨xs, e1, e2⟩ := Option.map_eq_some_iff.mp e
      obtain ⟨vs, hp, rv⟩ := r'.now h' e1
      exact yl_one h' hp rv e2
    · have e : ((srcL S' (.rf a)).map fun xs => xs[i]?) = some none := e
      obtain ⟨xs, e1, e2⟩ := Option.map_eq_some_iff.mp e
      obtain ⟨vs, hp, rv⟩ := r'.now h' e1
      exact st_one hp (by rw [← rv.length]; exact List.getElem?_eq_none_iff.mp e2)
end
section
variable {c : Cn} {X : Cx} {pos : Pos} {tg l l2 : Expr} {ma mb : E}
theorem ok_str {g : Gh} {x : Str} : ItOk c g (.seq (sgnL x)) (Its x) := by
  intro g' S' h' l i
  unfold sgnL
  refine ⟨fun w e => ?_, fun e => ?_⟩
  · rw [List.getElem?_map] at e
    obtain ⟨z, e1, e2⟩ := Option.map_eq_some_iff.mp e
    have hz : x.cps[i]? = some z := by rw [← Array.getElem?_toList]; exact e1
    subst e2
    refine ⟨(Array.getElem?_eq_some_iff.mp hz).1, fun v H' y => ?_⟩
    obtain ⟨rfl, d, hd, rfl⟩ := y
    rw [hz] at hd; cases hd
    exact ⟨g', rfl, h', Ext.refl _ _, rw_str.mpr rfl⟩
  · rw [List.length_map, Array.length_toList] at e
    show x.cps.size ≤ i
    omega
theorem ok_byt {g : Gh} {x : Array UInt8} : ItOk c g (.seq (bytL x)) (Itb x) := by
  intro g' S' h' l i
  unfold bytL
  refine ⟨fun w e => ?_, fun e => ?_⟩
  · rw [List.getElem?_map] at e
    obtain ⟨z, e1, e2⟩ := Option.map_eq_some_iff.mp e
    have hz : x[i]? = some z := by rw [← Array.getElem?_toList]; exact e1
    subst e2
    refine ⟨(Array.getElem?_eq_some_iff.mp hz).1, fun v H' y => ?_⟩
    obtain ⟨rfl, d, hd, rfl⟩ := y
    rw [hz] at hd; cases hd
    exact ⟨g', rfl, h', Ext.refl _ _, rw_int.mpr rfl⟩
  · rw [List.length_map, Array.length_toList] at e
    show x.size ≤ i
    omega
theorem i_val (hK : X.K = c.K) (hl : PE X l (tE c ma)) : PI X tg l (tI c (iVal ma)) := by
  refine ⟨fun pins s σ H R I h => ?_⟩
  obtain ⟨g0, S0, sm, g, S, rfl, rl, it, S', e, q⟩ := h
  obtain ⟨x, S1, e1, e⟩ := SB.R.of_bind e
  cases hs : srcOf S1 x with
  | none =>
    rw [hs] at e
    cases x with
    | str z =>
      cases e
      exact (pi_str hl).run pins s σ _ R I ⟨g0, S0, sm, g, S, rfl, rl, _, _, e1, fun g1 v h1 x1 r1 => ⟨z, rw_str.mp r1, q g1 _ h1 x1 ok_str⟩⟩
    | byt z =>
      cases e
      exact (pi_byt hl).run pins s σ _ R I ⟨g0, S0, sm, g, S, rfl, rl, _, _, e1, fun g1 v h1 x1 r1 => ⟨z, rw_byt.mp r1, q g1 _ h1 x1 ok_byt⟩⟩
    | _ => cases e
  | some sr =>
    rw [hs] at e
    have ok : ∀ g1 v, HRel c g1 S1 → Ext g S g1 S1 → RW c g1 x v → ∃ p, v = .ref p ∧ (∃ vs, SqK (kOf x) c.K g1.H p vs) ∧ R (ItlK (kOf x) c.K p) g1.H := fun g1 v h1 x1 r1 => by
      obtain ⟨p, rfl, hp⟩ := src_at h1 r1 hs
      obtain ⟨xs, ex⟩ := srcL_of hs
      obtain ⟨vs, hv, _⟩ := hp.now h1 ex
      refine ⟨p, rfl, ⟨vs, hv⟩, ?_⟩
      have := ok_one (S := S1) hp
      cases sr with
      | fz xs => cases e; exact q g1 _ h1 x1 this
      | rf a => cases e; exact q g1 _ h1 x1 this
    have eS : S1 = S' := by
      cases sr <;> (cases e; rfl)
    subst eS
    have lists : kOf x = .l → wpAny (model X.prog X.w) X.A (eval l X.env) (fun v s1 => wpAny (model X.prog X.w) X.A (pyIter v) (PIE X pins σ tg R) X.xe s1) X.xe s := fun k => by
      refine (pi_list hl).run pins s σ _ R I ⟨g0, S0, sm, g, S, rfl, rl, _, _, e1, fun g1 v h1 x1 r1 => ?_⟩
      obtain ⟨p, rfl, ⟨vs, hv⟩, hR⟩ := ok g1 v h1 x1 r1
      rw [hK]
      rw [k] at hv hR
      exact ⟨p, rfl, ⟨vs, hv⟩, hR⟩
    cases x with
    | tup xs =>
      refine (pi_tup hl).run pins s σ _ R I ⟨g0, S0, sm, g, S, rfl, rl, _, _, e1, fun g1 v h1 x1 r1 => ?_⟩
      obtain ⟨p, rfl, ⟨vs, hv⟩, hR⟩ := ok g1 v h1 x1 r1
      rw [hK]
      exact ⟨p, rfl, ⟨vs, hv⟩, hR⟩
    | _ => exact lists rfl

/-! ### ranges -/
theorem rangeL_at {lo : Int} {n i : Nat} {x : W} (e : (rangeL lo n)[i]? = some x) : i < n ∧ x = .int (lo + (i : Int)) := by
  unfold rangeL at e
  rw [List.getElem?_map] at e
  by_cases h : i < n
  · rw [List.getElem?_range h] at e
    cases e
    exact ⟨h, rfl⟩
  · rw [List.getElem?_eq_none (by simp; omega)] at e
    cases e
theorem ok_range {g : Gh} {lo : Int} {n : Nat} : ItOk c g (.seq (rangeL lo n)) (Itr lo n) := by
  intro g' S' h' l i
  refine ⟨fun x e => ?_, fun e => ?_⟩
  · obtain ⟨h1, rfl⟩ := rangeL_at e
    refine ⟨h1, fun v H' y => ?_⟩
    obtain ⟨rfl, rfl⟩ := y
    exact ⟨g', rfl, h', Ext.refl _ _, rw_int.mpr rfl⟩
  · have : (rangeL lo n).length = n := by unfold rangeL; simp
    show n ≤ i
    omega
theorem star_ne {e : Expr} {es : List Expr} {env : Env} (h : ∀ a p, e ≠ .Starred a p) : starEach (e :: es) env = (false, eval e env) :: starEach es env := by
  cases e <;> first | rfl | exact absurd rfl (h _ _)
theorem i_range1 {p : Pos} (hg : Gl X "range") (hm : X.mg "range" = none) (hl : PE X l (tE c ma)) (h1 : ∀ a p, l ≠ .Starred a p) : PI X tg (.Call (.Name "range" p) [l] [] pos) (tI c (iRange1 ma)) :=
  PIimp (pi_range1 hg hm (pa_cons hl pa_nil (star_ne h1)) (star_ne h1)) fun σ H R h => by
    obtain ⟨g0, S0, sm, g, S, rfl, rl, it, S', e, q⟩ := h
    obtain ⟨x, S1, e1, e⟩ := SB.R.of_bind e
    refine ⟨g0, S0, sm, g, S, rfl, rl, x, S1, e1, fun g1 v h1 x1 r1 => ?_⟩
    cases x with
    | int j =>
      have e : (if rangeOk j = true then SB.R.ok (Itr'.seq (rangeL 0 j.toNat)) S1 else .stuck) = .ok it S' := e
      split at e
      · rename_i hz
        cases e
        obtain ⟨z1, z2⟩ := Bool.and_eq_true_iff.mp hz
        rw [rw_int.mp r1]
        exact ⟨j, rfl, of_decide_eq_true z1, of_decide_eq_true z2, q g1 _ h1 x1 ok_range⟩
      · cases e
    | _ => cases e
theorem i_range2 {p : Pos} (hg : Gl X "range") (hm : X.mg "range" = none) (hl : PE X l (tE c ma)) (hl2 : PE X l2 (tE c mb)) (h1 : ∀ a p, l ≠ .Starred a p) (h2 : ∀ a p, l2 ≠ .Starred a p) : PI X tg (.Call (.Name "range" p) [l, l2] [] pos) (tI c (iRange2 ma mb)) :=
  PIimp (pi_range2 hg hm (pa_cons hl (pa_cons hl2 pa_nil (star_ne h2)) (star_ne h1)) (by rw [star_ne h1, star_ne h2]; rfl) (star_ne h2)) fun σ H R h => by
    obtain ⟨g0, S0, sm, g, S, rfl, rl, it, S', e, q⟩ := h
    obtain ⟨x, S1, e1, e⟩ := SB.R.of_bind e
    obtain ⟨y, S2, e2, e⟩ := SB.R.of_bind e
    refine ⟨g0, S0, sm, g, S, rfl, rl, x, S1, e1, fun g1 v h1 x1 r1 => ?_⟩
    refine ⟨g0, S0, sm, g1, S1, rfl, rl.step h1 x1, y, S2, e2, fun g2 u h2 x2 r2 => ?_⟩
    split at e
    · rename_i i j _
      split at e
      · rename_i hz
        cases e
        obtain ⟨z1, z2⟩ := Bool.and_eq_true_iff.mp hz
        obtain ⟨z3, z4⟩ := Bool.and_eq_true_iff.mp z1
        obtain ⟨z5, z6⟩ := Bool.and_eq_true_iff.mp z2
        rw [rw_int.mp r1, rw_int.mp r2]
        exact ⟨i, j, rfl, ⟨of_decide_eq_true z3, of_decide_eq_true z4, of_decide_eq_true z5, of_decide_eq_true z6⟩, q g2 _ h2 (x1.trans x2) ok_range⟩
      · cases e
    · cases e

/-! ### enumerate, zip -/
theorem enumL_at : ∀ {xs : List W} {k : Int} {i : Nat} {w : W}, (enumL k xs)[i]? = some w → ∃ x, xs[i]? = some x ∧ w = .tup [.int (k + (i : Int)), x]
  | [], _, _, _, e => by simp [enumL] at e
  | x :: xs, k, 0, w, e => by
    simp [enumL] at e
    exact ⟨x, rfl, by rw [← e]; simp⟩
  | x :: xs, k, i + 1, w, e => by
    have e' : (enumL (k + 1) xs)[i]? = some w := by simpa [enumL] using e
    obtain ⟨y, h1, h2⟩ := enumL_at e'
    exact ⟨y, by simpa using h1, by rw [h2]; congr 3; omega⟩
theorem enumL_length : ∀ (xs : List W) (k : Int), (enumL k xs).length = xs.length
  | [], _ => rfl
  | x :: xs, k => by simp [enumL, enumL_length xs]
theorem yl_enum {g : Gh} {S : Hm} {k : Sk} {p : Addr} {xs : List W} {vs : List V} {i : Nat} {x : W} (h : HRel c g S) (hp : SqK k c.K g.H p vs) (r : RWs c g xs vs) (e : xs[i]? = some x) : Yl c g S (IteK k c.K p) i (.tup [.int (i : Int), x]) := by
  obtain ⟨v, e2, rv⟩ := r.get e
  refine ⟨⟨vs, v, hp, e2⟩, fun v' H' y => ?_⟩
  obtain ⟨T, u, rfl, nT, rfl, y⟩ := y
  have e3 := y vs hp
  rw [e2] at e3; cases e3
  obtain ⟨h1, x1, r1⟩ := new_tup (ws := [.int (i : Int), x]) (vs := [.int (i : Nat), v]) h (by show 2 ≤ sizeLine; decide) (.cons (rw_int.mpr rfl) (.cons rv .nil)) nT
  exact ⟨_, rfl, h1, x1, r1⟩
theorem i_enum {p tpos : Pos} {elts : List Expr} {kk : Nat} (hK : X.K = c.K) (hg : Gl X "enumerate") (hm : X.mg "enumerate" = none) (hl : PE X l (tE c ma)) (h1 : ∀ a p, l ≠ .Starred a p) :
    PI X (.Tuple elts kk tpos) (.Call (.Name "enumerate" p) [l] [] pos) (tI c (iEnum ma)) := PIimp (pi_enumK hg hm (pa_cons hl pa_nil (star_ne h1)) (star_ne h1)) fun σ H R h => by
  obtain ⟨g0, S0, sm, g, S, rfl, rl, it, S', e, q⟩ := h
  obtain ⟨x, S1, e1, e⟩ := SB.R.of_bind e
  refine ⟨g0, S0, sm, g, S, rfl, rl, x, S1, e1, fun g1 v h1 x1 r1 => ?_⟩
  cases hs : srcOf S1 x with
  | none => rw [hs] at e; cases e
  | some sr =>
    rw [hs] at e
    obtain ⟨p, rfl, hp⟩ := src_at h1 r1 hs
    obtain ⟨xs, ex⟩ := srcL_of hs
    obtain ⟨vs, hv, _⟩ := hp.now h1 ex
    rw [hK]
    refine ⟨kOf x, p, vs, rfl, hv, ?_⟩
    cases sr with
    | fz xs =>
      cases e
      refine q g1 _ h1 x1 fun g' S' h' l i => ?_
      obtain ⟨vs, hp', rv⟩ := (hp.mono l).now (S := S') h' rfl
      refine ⟨fun w ew => ?_, fun ew => ⟨vs, hp', ?_⟩⟩
      · obtain ⟨y, e3, rfl⟩ := enumL_at ew
        rw [show (0 : Int) + (i : Int) = (i : Int) by omega]
        exact yl_enum h' hp' rv e3
      · rw [enumL_length] at ew
        rw [← rv.length]; exact ew
    | rf a =>
      cases e
      refine q g1 _ h1 x1 fun g' S' h' l i => ⟨fun w ew => ?_, fun ew => ?_⟩
      · obtain ⟨xs, e3, e4⟩ := Option.bind_eq_some_iff.mp ew
        obtain ⟨vs, hp', rv⟩ := (hp.mono l).now h' e3
        split at e4
        · rename_i y hy
          cases e4
          exact yl_enum h' hp' rv hy
        · split at e4 <;> cases e4
      · obtain ⟨xs, e3, e4⟩ := Option.bind_eq_some_iff.mp ew
        obtain ⟨vs, hp', rv⟩ := (hp.mono l).now h' e3
        split at e4
        · cases e4
        · split at e4
          · rename_i hn
            exact ⟨vs, hp', by rw [← rv.length]; exact hn⟩
          · cases e4
theorem zipL_at : ∀ {xs ys : List W} {i : Nat} {w : W}, (zipL xs ys)[i]? = some w → ∃ x y, xs[i]? = some x ∧ ys[i]? = some y ∧ w = .tup [x, y]
  | [], ys, i, w, e => by cases ys <;> simp [zipL] at e
  | _ :: _, [], _, _, e => by simp [zipL] at e
  | x :: xs, y :: ys, 0, w, e => by
    simp [zipL] at e
    exact ⟨x, y, rfl, rfl, e.symm⟩
  | x :: xs, y :: ys, i + 1, w, e => by
    have e' : (zipL xs ys)[i]? = some w := by simpa [zipL] using e
    obtain ⟨a, b, h1, h2, h3⟩ := zipL_at e'
    exact ⟨a, b, by simpa using h1, by simpa using h2, h3⟩
theorem zipL_length : ∀ (xs ys : List W), (zipL xs ys).length = min xs.length ys.length
  | [], ys => by cases ys <;> simp [zipL]
  | _ :: _, [] => by simp [zipL]
  | x :: xs, y :: ys => by
    simp only [zipL, List.length_cons, zipL_length xs ys]
    omega
theorem yl_zip {g : Gh} {S : Hm} {k l : Sk} {p p2 : Addr} {xs ys : List W} {vs us : List V} {i : Nat} {x y : W} (h : HRel c g S) (hp : SqK k c.K g.H p vs) (hp2 : SqK l c.K g.H p2 us) (r : RWs c g xs vs) (r2 : RWs c g ys us)
    (e : xs[i]? = some x) (e2 : ys[i]? = some y) : Yl c g S (ItzK k l c.K p p2) i (.tup [x, y]) := by
  obtain ⟨v, e3, rv⟩ := r.get e
  obtain ⟨u, e4, ru⟩ := r2.get e2
  refine ⟨⟨vs, us, v, u, hp, hp2, e3, e4⟩, fun v' H' y => ?_⟩
  obtain ⟨T, x1, x2, rfl, nT, rfl, y1, y2⟩ := y
  have e5 := y1 vs hp
  rw [e3] at e5; cases e5
  have e6 := y2 us hp2
  rw [e4] at e6; cases e6
  obtain ⟨h1, x1, r1⟩ := new_tup (c := c) (ws := [x, y]) (vs := [v, u]) h (by show 2 ≤ sizeLine; decide) (.cons rv (.cons ru .nil)) nT
  exact ⟨_, rfl, h1, x1, r1⟩
theorem zipAt_ok {g : Gh} {S : Hm} {k l : Sk} {p p2 : Addr} {xs ys : List W} {vs us : List V} {i : Nat} (h : HRel c g S) (hp : SqK k c.K g.H p vs) (hp2 : SqK l c.K g.H p2 us) (r : RWs c g xs vs) (r2 : RWs c g ys us) :
    (∀ w, iZip.zipAt xs ys i = some (some w) → Yl c g S (ItzK k l c.K p p2) i w) ∧ (iZip.zipAt xs ys i = some none → (ItzK k l c.K p p2).stop i g.H) := by
  have l1 := r.length
  have l2 := r2.length
  constructor
  · intro w e
    unfold iZip.zipAt at e
    split at e
    · rename_i x hx
      split at e
      · rename_i y hy
        cases e
        exact yl_zip h hp hp2 r r2 hx hy
      · split at e <;> cases e
    · split at e <;> cases e
  · intro e
    unfold iZip.zipAt at e
    split at e
    · rename_i x hx
      have hlt := (List.getElem?_eq_some_iff.mp hx).1
      split at e
      · cases e
      · split at e
        · rename_i hn
          exact ⟨vs, us, hp, hp2, by omega, by omega, .inr (by omega)⟩
        · cases e
    · split at e
      · rename_i hn
        exact ⟨vs, us, hp, hp2, by omega, by omega, .inl (by omega)⟩
      · cases e
theorem i_zip {p tpos : Pos} {elts : List Expr} {kk : Nat} (hK : X.K = c.K) (hg : Gl X "zip") (hm : X.mg "zip" = none) (hl : PE X l (tE c ma)) (hl2 : PE X l2 (tE c mb)) (h1 : ∀ a p, l ≠ .Starred a p) (h2 : ∀ a p, l2 ≠ .Starred a p) :
    PI X (.Tuple elts kk tpos) (.Call (.Name "zip" p) [l, l2] [] pos) (tI c (iZip ma mb)) :=
  PIimp (pi_zipK hg hm (pa_cons hl (pa_cons hl2 pa_nil (star_ne h2)) (star_ne h1)) (star_ne h1) (by rw [star_ne h2]; rfl)) fun σ H R h => by
  obtain ⟨g0, S0, sm, g, S, rfl, rl, it, S', e, q⟩ := h
  obtain ⟨x, S1, e1, e⟩ := SB.R.of_bind e
  obtain ⟨y, S2, e2, e⟩ := SB.R.of_bind e
  refine ⟨g0, S0, sm, g, S, rfl, rl, x, S1, e1, fun g1 v h1 x1 r1 => ?_⟩
  refine ⟨g0, S0, sm, g1, S1, rfl, rl.step h1 x1, y, S2, e2, fun g2 u h2 x2 r2 => ?_⟩
  have r1 := RW.mono h1 x2 x v r1
  cases hs : srcOf S2 x with
  | none => rw [hs] at e; cases e
  | some sr =>
    rw [hs] at e
    cases ht : srcOf S2 y with
    | none =>
      rw [ht] at e
      cases sr <;> cases e
    | some tr =>
      rw [ht] at e
      obtain ⟨p, rfl, hp⟩ := src_at h2 r1 hs
      obtain ⟨p2, rfl, hp2⟩ := src_at h2 r2 ht
      obtain ⟨xs, ex⟩ := srcL_of hs
      obtain ⟨vs, hv, _⟩ := hp.now h2 ex
      obtain ⟨ys, ey⟩ := srcL_of ht
      obtain ⟨us, hu, _⟩ := hp2.now h2 ey
      rw [hK]
      refine ⟨kOf x, kOf y, p, p2, vs, us, rfl, hv, hu, ?_⟩
      have two : ∀ (g' : Gh) (S' : Hm), HRel c g' S' → Le g2 g' → ∀ (xs ys : List W) (i : Nat), srcL S' sr = some xs → srcL S' tr = some ys →
          (∀ w, iZip.zipAt xs ys i = some (some w) → Yl c g' S' (ItzK (kOf x) (kOf y) c.K p p2) i w) ∧ (iZip.zipAt xs ys i = some none → (ItzK (kOf x) (kOf y) c.K p p2).stop i g'.H) := fun g' S' h' l xs ys i q1 q2 => by
        obtain ⟨vs, hv, rv⟩ := (hp.mono l).now h' q1
        obtain ⟨us, hu, ru⟩ := (hp2.mono l).now h' q2
        exact zipAt_ok h' hv hu rv ru
      cases sr with
      | fz xs =>
        cases tr with
        | fz ys =>
          cases e
          refine q g2 _ h2 (x1.trans x2) fun g' S' h' l i => ?_
          obtain ⟨t1, t2⟩ := two g' S' h' l xs ys i rfl rfl
          refine ⟨fun w ew => t1 w ?_, fun ew => t2 ?_⟩
          · obtain ⟨a, b, e3, e4, rfl⟩ := zipL_at ew
            unfold iZip.zipAt
            rw [e3, e4]
          · rw [zipL_length] at ew
            unfold iZip.zipAt
            by_cases hlt : i < xs.length
            · rw [List.getElem?_eq_getElem hlt, List.getElem?_eq_none (by omega)]
              simp only
              rw [if_pos (by omega)]
            · rw [List.getElem?_eq_none (by omega)]
              simp only
              rw [if_pos ⟨by omega, by omega⟩]
        | rf b =>
          cases e
          refine q g2 _ h2 (x1.trans x2) fun g' S' h' l i => ⟨fun w ew => ?_, fun ew => ?_⟩
          · obtain ⟨ys, e3, e4⟩ := Option.bind_eq_some_iff.mp ew
            exact (two g' S' h' l xs ys i rfl e3).1 w e4
          · obtain ⟨ys, e3, e4⟩ := Option.bind_eq_some_iff.mp ew
            exact (two g' S' h' l xs ys i rfl e3).2 e4
      | rf a =>
        cases e
        refine q g2 _ h2 (x1.trans x2) fun g' S' h' l i => ⟨fun w ew => ?_, fun ew => ?_⟩
        · obtain ⟨xs, e3, e4⟩ := Option.bind_eq_some_iff.mp ew
          obtain ⟨ys, e5, e6⟩ := Option.bind_eq_some_iff.mp e4
          exact (two g' S' h' l xs ys i e3 e5).1 w e6
        · obtain ⟨xs, e3, e4⟩ := Option.bind_eq_some_iff.mp ew
          obtain ⟨ys, e5, e6⟩ := Option.bind_eq_some_iff.mp e4
          exact (two g' S' h' l xs ys i e3 e5).2 e6
end
end SB
/-! SB, part 8: statements, loops, comprehensions. -/
namespace SB
open PySem PySem.Spec PyProof.Rows L2

def EndOk (c : Cn) (g0 : Gh) (S0 : Hm) (g : Gh) (S' : Hm) (D : Ends) (fl : Fl) : Prop := match fl with
  | .nx sm' => ∀ g' σ', SRel c g0 S0 sm' σ' g' S' → Le g g' → D.nx σ' g'.H
  | .bk sm' => ∀ g' σ', SRel c g0 S0 sm' σ' g' S' → Le g g' → D.bk σ' g'.H
  | .ct sm' => ∀ g' σ', SRel c g0 S0 sm' σ' g' S' → Le g g' → D.ct σ' g'.H
  | .rt w => ∀ g' v, HRel c g' S' → Ext g0 S0 g' S' → Le g g' → RW c g' w v → D.rt v g'.H
def tS (c : Cn) (m : St') : TS := fun D σ H => ∃ g0 S0 sm g S, g.H = H ∧ SRel c g0 S0 sm σ g S ∧ ∃ fl S', m sm S = .ok fl S' ∧ EndOk c g0 S0 g S' D fl
theorem EndOk.mono {c : Cn} {g0 g g1 : Gh} {S0 S' : Hm} {D : Ends} {fl : Fl} (l : Le g g1) (h : EndOk c g0 S0 g S' D fl) : EndOk c g0 S0 g1 S' D fl := by
  cases fl with
  | nx sm => exact fun g' σ' r l' => h g' σ' r (l.trans l')
  | bk sm => exact fun g' σ' r l' => h g' σ' r (l.trans l')
  | ct sm => exact fun g' σ' r l' => h g' σ' r (l.trans l')
  | rt w => exact fun g' v h1 x l' r => h g' v h1 x (l.trans l') r
theorem EndOk.of {c : Cn} {g0 g : Gh} {S0 S' : Hm} {D D' : Ends} {fl : Fl} (h : EndOk c g0 S0 g S' D fl) (nx : (∀ sm, fl ≠ .nx sm) ∨ D'.nx = D.nx) (rt : D'.rt = D.rt) (bk : D'.bk = D.bk) (ct : D'.ct = D.ct) : EndOk c g0 S0 g S' D' fl := by
  cases fl with
  | nx sm =>
    rcases nx with nx | nx
    · exact absurd rfl (nx sm)
    · intro g' σ' r l'; rw [nx]; exact h g' σ' r l'
  | bk sm => intro g' σ' r l'; rw [bk]; exact h g' σ' r l'
  | ct sm => intro g' σ' r l'; rw [ct]; exact h g' σ' r l'
  | rt w => intro g' v h1 x l r; rw [rt]; exact h g' v h1 x l r

section
variable {c : Cn} {X : Cx} {pos : Pos} {e : Expr} {st : Stmt} {sts : List Stmt} {ma : E} {m n : St'}
theorem s_nil : PSs X [] (tS c sNil) := PSsimp pss_nil fun D σ H h => by
  obtain ⟨g0, S0, sm, g, S, rfl, rl, fl, S', e, q⟩ := h
  cases e
  exact q g σ rl (Le.refl g)
theorem s_cons (h1 : PS X st (tS c m)) (h2 : PSs X sts (tS c n)) : PSs X (st :: sts) (tS c (sSeq m n)) := PSsimp (pss_cons h1 h2) fun D σ H h => by
  obtain ⟨g0, S0, sm, g, S, rfl, rl, fl, S', e, q⟩ := h
  obtain ⟨f, S1, e1, e⟩ := SB.R.of_bind e
  refine ⟨g0, S0, sm, g, S, rfl, rl, f, S1, e1, ?_⟩
  cases f with
  | nx sm1 => exact fun g1 σ1 rl1 l1 => ⟨g0, S0, sm1, g1, S1, rfl, rl1, fl, S', e, q.mono l1⟩
  | bk sm1 => cases e; exact q
  | ct sm1 => cases e; exact q
  | rt w => cases e; exact q
theorem s_pass : PS X (.Pass pos) (tS c sNil) := PSimp ps_pass fun D σ H h => by
  obtain ⟨g0, S0, sm, g, S, rfl, rl, fl, S', e, q⟩ := h
  cases e
  exact q g σ rl (Le.refl g)
theorem s_doc {x : Str} {j : Nat} {pos' : Pos} : PS X (.Expr (.Constant (.str x) j pos) pos') (tS c sNil) := PSimp ps_doc fun D σ H h => by
  obtain ⟨g0, S0, sm, g, S, rfl, rl, fl, S', e, q⟩ := h
  cases e
  exact q g σ rl (Le.refl g)
theorem s_break : PS X (.Break pos) (tS c sBreak) := PSimp ps_break fun D σ H h => by
  obtain ⟨g0, S0, sm, g, S, rfl, rl, fl, S', e, q⟩ := h
  cases e
  exact q g σ rl (Le.refl g)
theorem s_cont : PS X (.Continue pos) (tS c sCont) := PSimp ps_continue fun D σ H h => by
  obtain ⟨g0, S0, sm, g, S, rfl, rl, fl, S', e, q⟩ := h
  cases e
  exact q g σ rl (Le.refl g)
theorem s_never : PS X st (tS c sNever) := PSimp ps_never fun D σ H h => by
  obtain ⟨g0, S0, sm, g, S, rfl, rl, fl, S', e, q⟩ := h
  cases e
theorem s_expr (he : PE X e (tE c ma)) (hs : swapsWith e none pos.line X.env = pure false) : PS X (.Expr e pos) (tS c (sExpr ma)) := PSimp (ps_expr he hs) fun D σ H h => by
  obtain ⟨g0, S0, sm, g, S, rfl, rl, fl, S', e, q⟩ := h
  obtain ⟨x, S1, e1, e⟩ := SB.R.of_bind e
  cases e
  exact ⟨g0, S0, sm, g, S, rfl, rl, x, _, e1, fun g1 v h1 x1 r1 => q g1 σ (rl.step h1 x1) (x1.le rl.h)⟩
theorem s_ret (he : PE X e (tE c ma)) : PS X (.Return (some e) pos) (tS c (sRet ma)) := PSimp (ps_ret he) fun D σ H h => by
  obtain ⟨g0, S0, sm, g, S, rfl, rl, fl, S', e, q⟩ := h
  obtain ⟨x, S1, e1, e⟩ := SB.R.of_bind e
  cases e
  exact ⟨g0, S0, sm, g, S, rfl, rl, x, _, e1, fun g1 v h1 x1 r1 => q g1 v h1 (rl.x.trans x1) (x1.le rl.h) r1⟩
theorem s_retN : PS X (.Return none pos) (tS c (sRet (eC .non))) := PSimp ps_retN fun D σ H h => by
  obtain ⟨g0, S0, sm, g, S, rfl, rl, fl, S', e, q⟩ := h
  cases e
  exact q g _ rl.h rl.x (Le.refl g) (rw_non.mpr rfl)
theorem s_if {t : Expr} {mt : T} {a b : List Stmt} (ht : PT X t (tT c mt)) (ha : PSs X a (tS c m)) (hb : PSs X b (tS c n)) : PS X (.If t a b pos) (tS c (sIf mt m n)) := PSimp (ps_if ht ha hb) fun D σ H h => by
  obtain ⟨g0, S0, sm, g, S, rfl, rl, fl, S', e, q⟩ := h
  obtain ⟨k, S1, e1, e⟩ := SB.R.of_bind e
  refine ⟨g0, S0, sm, g, S, rfl, rl, k, S1, e1, fun g1 h1 x1 => ?_⟩
  cases k with
  | true =>
    rw [if_pos rfl] at e ⊢
    exact ⟨g0, S0, sm, g1, S1, rfl, rl.step h1 x1, fl, S', e, q.mono (x1.le rl.h)⟩
  | false =>
    rw [if_neg Bool.false_ne_true] at e ⊢
    exact ⟨g0, S0, sm, g1, S1, rfl, rl.step h1 x1, fl, S', e, q.mono (x1.le rl.h)⟩
theorem s_asg {tg : Expr} {ix : List Nat} {t : Tg} (he : PE X e (tE c ma)) (hg : PG X tg (tG c ix t)) (hs : swapsWithSole [tg] e pos.line X.env = pure false) (hw : swappedStores [tg] e X.env = pure none)
    (h1 : (assignEach [tg] X.env).map (·.2) = [assign tg X.env]) : PS X (.Assign [tg] e pos) (tS c (sAsg t ma)) := PSimp (ps_asg he hg hs hw h1) fun D σ H h => by
  obtain ⟨g0, S0, sm, g, S, rfl, rl, fl, S', e, q⟩ := h
  obtain ⟨x, S1, e1, e⟩ := SB.R.of_bind e
  obtain ⟨sm2, S2, e2, e⟩ := SB.R.of_bind e
  cases e
  refine ⟨g0, S0, sm, g, S, rfl, rl, x, S1, e1, fun g1 v h1 x1 r1 => ?_⟩
  exact ⟨g0, S0, sm, g1, S1, x, rfl, rl.step h1 x1, r1, sm2, _, e2, fun g2 σ2 rl2 x2 a2 => q g2 σ2 rl2 ((x1.le rl.h).trans (x2.le h1))⟩
/-- a list just made becomes a name's own -/
theorem s_own {i : Nat} {x : Str} {l : L} {pos' : Pos} (hN : X.N.Nodup) (hi : X.N[i]? = some x) (hx : Loc X.env.scope x) (hf : X.fn x = true ∨ X.env.scope.names.lookup x = some .local) (he : PE X e (tLs c l)) (hs : swapsWith e (some (.Name x pos')) pos.line X.env = pure false) :
    PS X (.Assign [.Name x pos'] e pos) (tS c (sOwn i l)) := PSimp (ps_set hN hi hx he hs hf) fun D σ H h => by
  obtain ⟨g0, S0, sm, g, S, rfl, rl, fl, S', e, q⟩ := h
  obtain ⟨ws, S1, e1, e⟩ := SB.R.of_bind e
  cases e
  refine ⟨g0, S0, sm, g, S, rfl, rl, ws, _, e1, fun g1 p vs h1 x1 hp z r1 f nl np => ?_⟩
  have rl1 := rl.step h1 x1
  have np0 : g0.H p = none := by
    cases q0 : g0.H p with
    | none => rfl
    | some u => exact absurd np (rl.x.tr p (by rw [q0]; intro z; cases z))
  refine q g1 _ (rl1.seto (o := .lst ws) ⟨vs, hp, z, r1⟩ f nl np0 fun j u _ ej hj => ?_) (x1.le rl.h)
  obtain ⟨p', ep, ro, _⟩ := rl.own j u ej
  rw [ep] at hj
  cases hj
  exact ro.some np
theorem s_ownLc {i : Nat} {x : Str} {l : L} {t : TE} {py spos : Pos} (h : PS X (.Assign [.Name x py] e spos) (tAsg t (gName i))) (ht : ∀ σ H Q, tLs c l σ H Q → t σ H Q) : PS X (.Assign [.Name x py] e spos) (tS c (sOwn i l)) := PSimp h fun D σ H h => by
  refine ht _ _ _ ?_
  obtain ⟨g0, S0, sm, g, S, rfl, rl, fl, S', e, q⟩ := h
  obtain ⟨ws, S1, e1, e⟩ := SB.R.of_bind e
  cases e
  refine ⟨g0, S0, sm, g, S, rfl, rl, ws, _, e1, fun g1 p vs h1 x1 hp z r1 f nl np => ?_⟩
  have rl1 := rl.step h1 x1
  have np0 : g0.H p = none := by
    cases q0 : g0.H p with
    | none => rfl
    | some u => exact absurd np (rl.x.tr p (by rw [q0]; intro z; cases z))
  refine q g1 _ (rl1.seto (o := .lst ws) ⟨vs, hp, z, r1⟩ f nl np0 fun j u _ ej hj => ?_) (x1.le rl.h)
  obtain ⟨p', ep, ro, _⟩ := rl.own j u ej
  rw [ep] at hj
  cases hj
  exact ro.some np
theorem s_setLc {i : Nat} {x : Str} {t : TE} {py spos : Pos} (h : PS X (.Assign [.Name x py] e spos) (tAsg t (gName i))) (ht : ∀ σ H Q, tE c ma σ H Q → t σ H Q) : PS X (.Assign [.Name x py] e spos) (tS c (sAsg (tgName i) ma)) := PSimp h fun D σ H h => by
  refine ht _ _ _ ?_
  obtain ⟨g0, S0, sm, g, S, rfl, rl, fl, S', e, q⟩ := h
  obtain ⟨x, S1, e1, e⟩ := SB.R.of_bind e
  cases e
  exact ⟨g0, S0, sm, g, S, rfl, rl, x, _, e1, fun g1 v h1 x1 r1 => q g1 _ ((rl.step h1 x1).setv r1) (x1.le rl.h)⟩
/-- a, b = x, y -/
theorem s_par {i j : Nat} {x y : Str} {a b : Expr} {mb : E} {px py pt : Pos} {kt k2 : Nat} {pt2 : Pos} (hc : X.calm = true) (hN : X.N.Nodup) (hi : X.N[i]? = some x) (hj : X.N[j]? = some y) (hij : i ≠ j)
    (hx : X.env.scope.names.lookup x = some .local) (hy : X.env.scope.names.lookup y = some .local) (ha : PE X a (tE c ma)) (hb : PE X b (tE c mb)) (n1 : ∀ u p, a ≠ .Starred u p) (n2 : ∀ u p, b ≠ .Starred u p)
    (hw : swappedStores [.Tuple [.Name x px, .Name y py] kt pt] (.Tuple [a, b] k2 pt2) X.env = pure (some [x, y])) :
    PS X (.Assign [.Tuple [.Name x px, .Name y py] kt pt] (.Tuple [a, b] k2 pt2) pos) (tS c (sPar i j ma mb)) := PSimp (ps_par hc hN hi hj hij hx hy (pa_cons ha (pa_cons hb pa_nil (star_ne n2)) (star_ne n1)) hw) fun D σ H h => by
  obtain ⟨g0, S0, sm, g, S, rfl, rl, fl, S', e, q⟩ := h
  obtain ⟨u, S1, e1, e⟩ := SB.R.of_bind e
  obtain ⟨w, S2, e2, e⟩ := SB.R.of_bind e
  cases e
  refine ⟨g0, S0, sm, g, S, rfl, rl, u, S1, e1, fun g1 v1 h1 x1 r1 => ?_⟩
  refine ⟨g0, S0, sm, g1, S1, rfl, rl.step h1 x1, w, _, e2, fun g2 v2 h2 x2 r2 => ?_⟩
  refine ⟨v1, v2, rfl, q g2 _ ?_ ((x1.le rl.h).trans (x2.le h1))⟩
  exact (((rl.step h1 x1).step h2 x2).setv (RW.mono h1 x2 u v1 r1)).setv r2
/-- an own list grows -/
theorem s_app {i : Nat} {x : Str} {a : Expr} {pos' p2 p3 : Pos} (hN : X.N[i]? = some x) (hv : Vis X.env.scope x) (hd : (x == ("__debug__" : Str)) = false) (hcd : (x == ("__classdict__" : Str)) = false) (ha : PE X a (tE c ma)) (n1 : ∀ u p, a ≠ .Starred u p)
    (hb : attributeBase (.Name x pos') "append" X.env (eval (.Name x pos') X.env) = eval (.Name x pos') X.env) (hl : (p2.endLine == p3.line) = true) : PS X (.Expr (.Call (.Attribute (.Name x pos') "append" p2) [a] [] p3) pos) (tS c (sApp i ma)) := by
  refine PSimp (ps_expr (pe_bm PySem.F.plainAttrs_list PySem.F.slot_list_append PySem.F.type_list_append mt_append (pe_var (i := i) hN hv hd hcd) (pa_cons ha pa_nil (star_ne n1)) hb (by rw [star_ne n1]; rfl) hl (star_ne n1) rfl) rfl) fun D σ H h => ?_
  obtain ⟨g0, S0, sm, g, S, rfl, rl, fl, S', e, q⟩ := h
  obtain ⟨w, S1, e1, e⟩ := SB.R.of_bind e
  unfold getOwn at e
  split at e
  · rename_i xs ho
    split at ho
    · rename_i o eo
      cases ho
      split at e
      · rename_i hz
        cases e
        obtain ⟨p, es, ro, f, nl, np⟩ := rl.own i _ eo
        obtain ⟨vs, hp, z, rv⟩ := ro
        refine ⟨.ref p, es, .inl ⟨rfl, _, .inl (.inl hp)⟩, g0, S0, sm, g, S, rfl, rl, w, _, e1, fun g1 v h1 x1 r1 => ?_⟩
        have rl1 := rl.step h1 x1
        obtain ⟨p', es', ro', f', nl', np'⟩ := rl1.own i _ eo
        rw [es] at es'
        cases es'
        obtain ⟨vs', hp', z', rv'⟩ := ro'
        refine ⟨p, vs', v, rfl, rfl, hp', by rw [← rv'.length]; exact hz, ?_⟩
        have nf : noFrz (.lst vs') := fun _ _ z => by cases z
        refine q (g1.chg p (.lst (vs' ++ [v]))) σ (rl1.chg eo es f' nl' np' hp' nf ⟨_, rfl, ?_, ?_⟩) ((x1.le rl.h).trans (Gh.chg_le f' hp' nf))
        · simp; omega
        · exact (RWs.le (Gh.chg_le f' hp' nf) _ _ rv').append (.cons (RW.le (Gh.chg_le f' hp' nf) _ _ r1) .nil)
      · cases e
    · cases ho
  · cases e
/-- an own list is frozen, laid on the own heap: nothing is done -/
theorem s_ghost {k : St'} (h : PS X st (tS c m)) (hk : ∀ (g0 : Gh) (S0 : Hm) (sm : Sl) (σ : L2.St) (g : Gh) (S : Hm) (fl : Fl) (S1 : Hm), SRel c g0 S0 sm σ g S → k sm S = .ok fl S1 → ∃ sm' g', fl = .nx sm' ∧ g'.H = g.H ∧ SRel c g0 S0 sm' σ g' S1 ∧ Le g g') : PS X st (tS c (sSeq k m)) := PSimp h fun D σ H h => by
  obtain ⟨g0, S0, sm, g, S, rfl, rl, fl, S', e, q⟩ := h
  obtain ⟨f, S1, e1, e⟩ := SB.R.of_bind e
  obtain ⟨sm', g', rfl, eh, rl', le⟩ := hk g0 S0 sm σ g S f S1 rl e1
  exact ⟨g0, S0, sm', g', S1, eh, rl', fl, S', e, q.mono le⟩
theorem k_frz {i : Nat} (g0 : Gh) (S0 : Hm) (sm : Sl) (σ : L2.St) (g : Gh) (S : Hm) (fl : Fl) (S1 : Hm) (rl : SRel c g0 S0 sm σ g S) (e : sFrz i sm S = .ok fl S1) : ∃ sm' g', fl = .nx sm' ∧ g'.H = g.H ∧ SRel c g0 S0 sm' σ g' S1 ∧ Le g g' := by
  unfold sFrz getOwn at e
  split at e
  · rename_i xs ho
    split at ho
    · rename_i o eo
      cases ho
      cases e
      obtain ⟨p, es, ro, f, nl, np⟩ := rl.own i _ eo
      obtain ⟨vs, hp, z, rv⟩ := ro
      have hs : σ.set i (some (.ref p)) = σ := by
        apply List.ext_getElem?
        intro j
        rw [List.getElem?_set]
        by_cases hj : i = j
        · subst hj
          rw [if_pos rfl, es, if_pos (List.getElem?_eq_some_iff.mp es).1]
        · rw [if_neg hj]
      have le := g.frz_le p
      refine ⟨_, g.frz p, rfl, rfl, ?_, le⟩
      have base : SRel c g0 S0 (sm.set i none) σ (g.frz p) S := by
        refine ⟨rl.h.frz (by rw [hp]; intro z; cases z) nl, rl.x.frz (c := c) np, by simp [rl.len], fun j x ej => ?_, fun j x ej => ?_, fun j k x y n e1 e2 => ?_, fun j x ej ix => ?_⟩
        · rw [List.getElem?_set] at ej
          by_cases hi : i = j
          · rw [if_pos hi] at ej; split at ej <;> cases ej
          · rw [if_neg hi] at ej
            obtain ⟨v, e1, q⟩ := rl.val j x ej
            exact ⟨v, e1, RW.le le x v q⟩
        · rw [List.getElem?_set] at ej
          by_cases hi : i = j
          · rw [if_pos hi] at ej; split at ej <;> cases ej
          · rw [if_neg hi] at ej
            obtain ⟨p2, e1, ro', f', nl', np'⟩ := rl.own j x ej
            refine ⟨p2, e1, RO.le le ro', fun z => ?_, nl', np'⟩
            rcases z with z | z
            · exact rl.sep i j _ x hi eo ej (by rw [es, e1, z])
            · exact f' z
        · rw [List.getElem?_set] at e1 e2
          by_cases hj : i = j
          · rw [if_pos hj] at e1; split at e1 <;> cases e1
          · by_cases hk : i = k
            · rw [if_pos hk] at e2; split at e2 <;> cases e2
            · rw [if_neg hj] at e1
              rw [if_neg hk] at e2
              exact rl.sep j k x y n e1 e2
        · rw [List.getElem?_set] at ej
          by_cases hi : i = j
          · rw [if_pos hi] at ej; split at ej <;> cases ej
          · rw [if_neg hi] at ej
            exact rl.pn j x ej ix
      have fin := base.setv (i := i) (w := .fl xs) (v := .ref p) (rw_fl.mpr ⟨p, vs, rfl, .inl rfl, hp, z, RWs.le le _ _ rv⟩)
      rw [hs, List.set_set] at fin
      exact fin
    · cases ho
  · cases e
theorem k_lay {i : Nat} (g0 : Gh) (S0 : Hm) (sm : Sl) (σ : L2.St) (g : Gh) (S : Hm) (fl : Fl) (S1 : Hm) (rl : SRel c g0 S0 sm σ g S) (e : sLay i sm S = .ok fl S1) : ∃ sm' g', fl = .nx sm' ∧ g'.H = g.H ∧ SRel c g0 S0 sm' σ g' S1 ∧ Le g g' := by
  unfold sLay getOwn at e
  split at e
  · rename_i o ho
    split at ho
    · rename_i o' eo
      cases ho
      cases e
      obtain ⟨p, es, ro, f, nl, np⟩ := rl.own i _ eo
      have hs : σ.set i (some (.ref p)) = σ := by
        apply List.ext_getElem?
        intro j
        rw [List.getElem?_set]
        by_cases hj : i = j
        · subst hj
          rw [if_pos rfl, es, if_pos (List.getElem?_eq_some_iff.mp es).1]
        · rw [if_neg hj]
      have le := g.put_le p
      refine ⟨_, g.put p, rfl, rfl, ?_, le⟩
      have base : SRel c g0 S0 (sm.set i none) σ (g.put p) (S ++ [some o]) := by
        refine ⟨rl.h.put ro f nl, rl.x.put rl.h np o, by simp [rl.len], fun j x ej => ?_, fun j x ej => ?_, fun j k x y n e1 e2 => ?_, fun j x ej ix => ?_⟩
        · rw [List.getElem?_set] at ej
          by_cases hi : i = j
          · rw [if_pos hi] at ej; split at ej <;> cases ej
          · rw [if_neg hi] at ej
            obtain ⟨v, e1, q⟩ := rl.val j x ej
            exact ⟨v, e1, RW.le le x v q⟩
        · rw [List.getElem?_set] at ej
          by_cases hi : i = j
          · rw [if_pos hi] at ej; split at ej <;> cases ej
          · rw [if_neg hi] at ej
            obtain ⟨p2, e1, ro', f', nl', np'⟩ := rl.own j x ej
            refine ⟨p2, e1, RO.le le ro', f', fun z => ?_, np'⟩
            rcases (live_put rl.h).mp z with z | z
            · exact nl' z
            · exact rl.sep i j _ x hi eo ej (by rw [es, e1, z])
        · rw [List.getElem?_set] at e1 e2
          by_cases hj : i = j
          · rw [if_pos hj] at e1; split at e1 <;> cases e1
          · by_cases hk : i = k
            · rw [if_pos hk] at e2; split at e2 <;> cases e2
            · rw [if_neg hj] at e1
              rw [if_neg hk] at e2
              exact rl.sep j k x y n e1 e2
        · rw [List.getElem?_set] at ej
          by_cases hi : i = j
          · rw [if_pos hi] at ej; split at ej <;> cases ej
          · rw [if_neg hi] at ej
            exact rl.pn j x ej ix
      have fin := base.setv (i := i) (w := .ref S.length) (v := .ref p) (rw_ref.mpr ⟨by show S.length < g.n + 1; rw [rl.h.n]; exact Nat.lt_succ_self _, by show V.ref p = V.ref (if S.length = g.n then p else _); rw [if_pos rl.h.n.symm]⟩)
      rw [hs, List.set_set] at fin
      exact fin
    · cases ho
  · cases e

/-! ### while -/
theorem s_while {t : Expr} {mt : T} {body : List Stmt} (hp : PassesOwn (model X.prog X.w) X.A X.env X.xe) (ht : PT X t (tT c mt)) (hb : PSs X body (tS c m)) : PS X (.While t body [] pos) (tS c (sWhile mt m)) := PSimp (ps_while hp ht hb) fun D σ H h => by
  obtain ⟨g0, S0, sm, g, S, rfl, rl, fl, S', e, q⟩ := h
  refine ⟨fun k σ H => ∃ sm g1 S, g1.H = H ∧ SRel c g0 S0 sm σ g1 S ∧ Le g g1 ∧ ∃ fl S', whileN mt m k sm S = .ok fl S' ∧ EndOk c g0 S0 g1 S' D fl ∧ ∀ sm', fl ≠ .bk sm' ∧ fl ≠ .ct sm', ⟨hugeN, sm, g, S, rfl, rl, Le.refl g, fl, S', e, q, ?_⟩, ?_⟩
  · have key : ∀ (k : Nat) (sm : Sl) (S : Hm) (fl : Fl) (S' : Hm), whileN mt m k sm S = .ok fl S' → ∀ sm', fl ≠ .bk sm' ∧ fl ≠ .ct sm' := by
      intro k
      induction k with
      | zero => intro sm S fl S' e; cases e
      | succ k ih =>
        intro sm S fl S' e
        obtain ⟨b, S1, e1, e⟩ := SB.R.of_bind e
        cases b with
        | true =>
          rw [if_pos rfl] at e
          obtain ⟨f, S2, e2, e⟩ := SB.R.of_bind e
          cases f with
          | nx σ2 => exact ih σ2 S2 fl S' e
          | ct σ2 => exact ih σ2 S2 fl S' e
          | bk σ2 => cases e; exact fun _ => ⟨fun z => by (cases z), fun z => by (cases z)⟩
          | rt w => cases e; exact fun _ => ⟨fun z => by (cases z), fun z => by (cases z)⟩
        | false =>
          rw [if_neg Bool.false_ne_true] at e
          cases e
          exact fun _ => ⟨fun z => by (cases z), fun z => by (cases z)⟩
    exact key _ _ _ _ _ e
  · rintro k σ1 H1 ⟨sm1, g1, S1, rfl, rl1, l1, fl, S', e, q, nb⟩
    cases k with
    | zero => cases e
    | succ k =>
      obtain ⟨b, S2, e1, e⟩ := SB.R.of_bind e
      refine ⟨g0, S0, sm1, g1, S1, rfl, rl1, b, S2, e1, fun g2 h2 x2 => ?_⟩
      have rl2 := rl1.step h2 x2
      have l2 := x2.le rl1.h
      dsimp only
      cases b with
      | true =>
        rw [if_pos rfl] at e ⊢
        obtain ⟨f, S3, e3, e⟩ := SB.R.of_bind e
        refine ⟨fun σ' H' => ∃ sm g1 S, g1.H = H' ∧ SRel c g0 S0 sm σ' g1 S ∧ Le g g1 ∧ ∃ fl S', whileN mt m k sm S = .ok fl S' ∧ EndOk c g0 S0 g1 S' D fl ∧ ∀ sm', fl ≠ .bk sm' ∧ fl ≠ .ct sm', fun σ' H' hN => ⟨k, Nat.lt_succ_self k, hN⟩, ?_⟩
        refine ⟨g0, S0, sm1, g2, S2, rfl, rl2, f, S3, e3, ?_⟩
        cases f with
        | nx σ2 => exact fun g3 σ3 rl3 l3 => ⟨σ2, g3, S3, rfl, rl3, (l1.trans l2).trans l3, fl, S', e, q.mono (l2.trans l3), nb⟩
        | ct σ2 => exact fun g3 σ3 rl3 l3 => ⟨σ2, g3, S3, rfl, rl3, (l1.trans l2).trans l3, fl, S', e, q.mono (l2.trans l3), nb⟩
        | bk σ2 => cases e; exact fun g3 σ3 rl3 l3 => q g3 σ3 rl3 (l2.trans l3)
        | rt w => cases e; exact fun g3 v h3 x3 l3 r3 => q g3 v h3 x3 (l2.trans l3) r3
      | false =>
        rw [if_neg Bool.false_ne_true] at e ⊢
        cases e
        exact q g2 σ1 rl2 l2

/-! ### for -/
theorem s_for {tg iter : Expr} {body : List Stmt} {mi : I} {ix : List Nat} {t : Tg} (hp : PassesOwn (model X.prog X.w) X.A X.env X.xe) (hc : X.calm = true) (hi : PI X tg iter (tI c mi)) (hg : PG X tg (tG c ix t)) (hb : PSs X body (tS c m))
    (hs : ∀ x, foldedSetIterable iter X.env x = pure x) : PS X (.For tg iter body [] pos) (tS c (sFor t mi m)) := PSimp (ps_for hp hc hi hg hb hs) fun D σ H h => by
  obtain ⟨g0, S0, sm, g, S, rfl, rl, fl, S', e, q⟩ := h
  obtain ⟨it, S1, e1, e⟩ := SB.R.of_bind e
  refine ⟨g0, S0, sm, g, S, rfl, rl, it, S1, e1, fun g1 J h1 x1 ok => ?_⟩
  have rl1 := rl.step h1 x1
  have q1 := q.mono (x1.le rl.h)
  -- one turn, whatever is walked
  cases it with
  | seq xs =>
    refine ⟨fun i k σ H => i + k = xs.length ∧ ∃ sm g2 S, g2.H = H ∧ SRel c g0 S0 sm σ g2 S ∧ Le g1 g2 ∧ ∃ fl S', forL t m (xs.drop i) sm S = .ok fl S' ∧ EndOk c g0 S0 g2 S' D fl, ⟨xs.length, by omega, sm, g1, S1, rfl, rl1, Le.refl _, fl, S', e, q1⟩, ?_⟩
    rintro i k σ2 H2 ⟨hk, sm2, g2, S2, rfl, rl2, l2, fl, S', e, q⟩
    obtain ⟨okx, oke⟩ := ok g2 S2 rl2.h l2 i
    by_cases hlt : i < xs.length
    · refine .inr ?_
      have ex : xs[i]? = some xs[i] := List.getElem?_eq_getElem hlt
      obtain ⟨go, yl⟩ := okx _ ex
      rw [List.drop_eq_getElem_cons hlt] at e
      obtain ⟨sm3, S3, e3, e⟩ := SB.R.of_bind e
      obtain ⟨f, S4, e4, e⟩ := SB.R.of_bind e
      refine ⟨go, fun σ' H' => ∃ sm g3 S, g3.H = H' ∧ SRel c g0 S0 sm σ' g3 S ∧ Le g1 g3 ∧ ∃ fl S', forL t m (xs.drop (i + 1)) sm S = .ok fl S' ∧ EndOk c g0 S0 g3 S' D fl, fun σ' H' hN => ⟨k - 1, by omega, by omega, hN⟩, fun v H' y => ?_⟩
      obtain ⟨g3, rfl, h3, x3, r3⟩ := yl v H' y
      refine ⟨g0, S0, sm2, g3, S2, _, rfl, rl2.step h3 x3, r3, sm3, S3, e3, fun g4 σ4 rl4 x4 a4 => ?_⟩
      have l4 : Le g2 g4 := (x3.le rl2.h).trans (x4.le h3)
      refine ⟨g0, S0, sm3, g4, S3, rfl, rl4, f, S4, e4, ?_⟩
      cases f with
      | nx σ5 => exact fun g5 σ' rl5 l5 => ⟨σ5, g5, S4, rfl, rl5, (l2.trans l4).trans l5, fl, S', e, q.mono (l4.trans l5)⟩
      | ct σ5 => exact fun g5 σ' rl5 l5 => ⟨σ5, g5, S4, rfl, rl5, (l2.trans l4).trans l5, fl, S', e, q.mono (l4.trans l5)⟩
      | bk σ5 => cases e; exact fun g5 σ' rl5 l5 => q g5 σ' rl5 (l4.trans l5)
      | rt w => cases e; exact fun g5 v h5 x5 l5 r5 => q g5 v h5 x5 (l4.trans l5) r5
    · refine .inl ⟨oke (by omega), ?_⟩
      rw [List.drop_eq_nil_of_le (by omega)] at e
      cases e
      exact q g2 σ2 rl2 (Le.refl _)
  | dyn at_ =>
    refine ⟨fun i k σ H => i + k = bigN ∧ ∃ sm g2 S, g2.H = H ∧ SRel c g0 S0 sm σ g2 S ∧ Le g1 g2 ∧ ∃ fl S', forR t m at_ k i sm S = .ok fl S' ∧ EndOk c g0 S0 g2 S' D fl, ⟨bigN, by omega, sm, g1, S1, rfl, rl1, Le.refl _, fl, S', e, q1⟩, ?_⟩
    rintro i k σ2 H2 ⟨hk, sm2, g2, S2, rfl, rl2, l2, fl, S', e, q⟩
    obtain ⟨okx, oke⟩ := ok g2 S2 rl2.h l2 i
    cases k with
    | zero => cases e
    | succ k =>
      unfold forR at e
      split at e
      · cases e
      · rename_i hat
        refine .inl ⟨oke hat, ?_⟩
        cases e
        exact q g2 σ2 rl2 (Le.refl _)
      · rename_i x hat
        refine .inr ?_
        obtain ⟨go, yl⟩ := okx _ hat
        obtain ⟨sm3, S3, e3, e⟩ := SB.R.of_bind e
        obtain ⟨f, S4, e4, e⟩ := SB.R.of_bind e
        refine ⟨go, fun σ' H' => ∃ sm g3 S, g3.H = H' ∧ SRel c g0 S0 sm σ' g3 S ∧ Le g1 g3 ∧ ∃ fl S', forR t m at_ k (i + 1) sm S = .ok fl S' ∧ EndOk c g0 S0 g3 S' D fl, fun σ' H' hN => ⟨k, Nat.lt_succ_self k, by omega, hN⟩, fun v H' y => ?_⟩
        obtain ⟨g3, rfl, h3, x3, r3⟩ := yl v H' y
        refine ⟨g0, S0, sm2, g3, S2, _, rfl, rl2.step h3 x3, r3, sm3, S3, e3, fun g4 σ4 rl4 x4 a4 => ?_⟩
        have l4 : Le g2 g4 := (x3.le rl2.h).trans (x4.le h3)
        refine ⟨g0, S0, sm3, g4, S3, rfl, rl4, f, S4, e4, ?_⟩
        cases f with
        | nx σ5 => exact fun g5 σ' rl5 l5 => ⟨σ5, g5, S4, rfl, rl5, (l2.trans l4).trans l5, fl, S', e, q.mono (l4.trans l5)⟩
        | ct σ5 => exact fun g5 σ' rl5 l5 => ⟨σ5, g5, S4, rfl, rl5, (l2.trans l4).trans l5, fl, S', e, q.mono (l4.trans l5)⟩
        | bk σ5 => cases e; exact fun g5 σ' rl5 l5 => q g5 σ' rl5 (l4.trans l5)
        | rt w => cases e; exact fun g5 v h5 x5 l5 r5 => q g5 v h5 x5 (l4.trans l5) r5
end
end SB
/-! SB, part 9: list comprehensions. -/
namespace SB
open PySem PySem.Spec PyProof.Rows L2

/-- an object that no name holds alone is changed -/
theorem SRel.chgO {c : Cn} {g0 g : Gh} {S0 S : Hm} {sm : Sl} {σ : L2.St} (r : SRel c g0 S0 sm σ g S) {p : Addr} {u w : HO} (ne : ∀ (i : Nat) (o : MO), sm[i]? = some (some (.own o)) → σ[i]? ≠ some (some (.ref p)))
    (f : ¬ g.Fz p) (nl : ¬ live g S p) (np : g0.H p = none) (hp : g.H p = some u) (nf : noFrz u) : SRel c g0 S0 sm σ (g.chg p w) S := by
  have le := Gh.chg_le (o := w) f hp nf
  refine ⟨r.h.chg f nl hp nf, r.x.chg np hp, r.len, fun j x ej => ?_, fun j x ej => ?_, r.sep, r.pn⟩
  · obtain ⟨v, e1, q⟩ := r.val j x ej
    exact ⟨v, e1, RW.le le x v q⟩
  · obtain ⟨q, e1, ro', f', nl', np'⟩ := r.own j x ej
    refine ⟨q, e1, ?_, f', nl', np'⟩
    have hne : q ≠ p := fun z => ne j x ej (by rw [e1, z])
    show RO c (g.chg p w) x (upd g.H p w q)
    rw [upd_ne hne]
    exact RO.le le ro'
/-- between two turns of a comprehension: acc is made, kont S makes the rest -/
def CInv (c : Cn) (g0 : Gh) (S0 : Hm) (smw : Sl) (σw : L2.St) (g1 : Gh) (S1 : Hm) (D : Addr) (ws : List W) (S' : Hm) (i : Nat) (kont : Hm → R (List W)) (H : Hp) : Prop :=
  ∃ g2 S2 acc accV, g2.H = H ∧ SRel c g0 S0 smw σw g2 S2 ∧ Ext g1 S1 g2 S2 ∧ g2.H D = some (.lst accV) ∧ ¬ g2.Fz D ∧ ¬ live g2 S2 D ∧ RWs c g2 acc accV ∧ acc.length ≤ i ∧ ∃ rest, kont S2 = .ok rest S' ∧ ws = acc ++ rest
section
variable {c : Cn} {g0 g1 : Gh} {S0 S1 S' : Hm} {smw : Sl} {σ : L2.St} {vs : List Nat} {D : Addr} {ws : List W} {t : Tg} {cd : T} {el : E} {ix : List Nat}
theorem comp_turn (np0 : g0.H D = none) (np1 : g1.H D = none) (ne : ∀ (i : Nat) (o : MO), smw[i]? = some (some (.own o)) → (L2.wipe σ vs)[i]? ≠ some (some (.ref D))) (hix : ∀ i ∈ ix, i ∈ vs) {i : Nat} (hi : i < sizeLine) {H : Hp} {kont : Hm → R (List W)} {J : It} {x : W} {g2 : Gh} {S2 : Hm} {acc : List W} {accV : List V}
    (rl2 : SRel c g0 S0 smw (L2.wipe σ vs) g2 S2) (x2 : Ext g1 S1 g2 S2) (hD : g2.H D = some (.lst accV)) (f2 : ¬ g2.Fz D) (n2 : ¬ live g2 S2 D) (ra : RWs c g2 acc accV) (la : acc.length ≤ i) {rest : List W}
    (e : (t x smw S2).bind (fun σ1 S1 => (cd σ1 S1).bind fun b S2 => if b = true then (el σ1 S2).bind fun w S3 => (kont S3).bind fun ws S4 => .ok (w :: ws) S4 else kont S2) = .ok rest S') (ew : ws = acc ++ rest)
    (yl : ∀ v H', J.yld i g2.H v H' → ∃ g'', g''.H = H' ∧ HRel c g'' S2 ∧ Ext g2 S2 g'' S2 ∧ RW c g'' x v) (v : V) (H' : Hp) (y : J.yld i g2.H v H') :
    tG c ix t v (L2.wipe σ vs) H' fun σ2 H2 => L2.wipe σ2 vs = L2.wipe σ vs ∧ tT c cd σ2 H2 fun b H3 =>
      if b = true then tE c el σ2 H3 fun y H4 => ∃ acc, H4 D = some (.lst acc) ∧ acc.length < sizeLine ∧ CInv c g0 S0 smw (L2.wipe σ vs) g1 S1 D ws S' (i + 1) kont (upd H4 D (.lst (acc ++ [y]))) else CInv c g0 S0 smw (L2.wipe σ vs) g1 S1 D ws S' (i + 1) kont H3 := by
  obtain ⟨g3, rfl, h3, x3, r3⟩ := yl v H' y
  have rl3 := rl2.step h3 x3
  obtain ⟨sm3, S3, e3, e⟩ := SB.R.of_bind e
  obtain ⟨b, S4, e4, e⟩ := SB.R.of_bind e
  refine ⟨g0, S0, smw, g3, S2, x, rfl, rl3, r3, sm3, S3, e3, fun g4 σ4 rl4 x4 a4 => ⟨?_, ?_⟩⟩
  · rw [(a4.mono hix).wipe, wipe_wipe]
  refine ⟨g0, S0, sm3, g4, S3, rfl, rl4, b, S4, e4, fun g5 h5 x5 => ?_⟩
  have hDn : g2.H D ≠ none := by rw [hD]; intro z; cases z
  have stay : ∀ (g : Gh) (S : Hm), Ext g2 S2 g S → g.H D = some (.lst accV) ∧ ¬ g.Fz D ∧ ¬ live g S D := fun g S x => ⟨x.keep D _ hD n2, fun z => f2 (x.old D hDn z), fun z => by
    rcases x.lv D z with z | z
    · exact n2 z
    · exact hDn z⟩
  dsimp only
  cases b with
  | true =>
    rw [if_pos rfl] at e ⊢
    obtain ⟨w, S5, e5, e⟩ := SB.R.of_bind e
    obtain ⟨ws', S6, e6, e⟩ := SB.R.of_bind e
    cases e
    refine ⟨g0, S0, sm3, g5, S4, rfl, rl4.step h5 x5, w, S5, e5, fun g6 v6 h6 x6 r6 => ?_⟩
    have x36 := (x4.trans x5).trans x6
    have x26 := x3.trans x36
    obtain ⟨d1, d2, d3⟩ := stay g6 S5 x26
    have ra6 := RWs.mono rl2.h x26 _ _ ra
    refine ⟨accV, d1, by rw [← ra6.length]; omega, g6.chg D (.lst (accV ++ [v6])), S5, acc ++ [w], accV ++ [v6], rfl, ?_, ?_, upd_same, d2, d3, ?_, by simp; omega, ws', e6, by rw [ew]; simp⟩
    · exact (rl3.step h6 x36).chgO ne d2 d3 np0 d1 (fun _ _ z => by cases z)
    · exact (x2.trans x26).chg np1 d1
    · have le := Gh.chg_le (o := .lst (accV ++ [v6])) d2 d1 (fun _ _ z => by cases z)
      exact (RWs.le le _ _ ra6).append (.cons (RW.le le _ _ r6) .nil)
  | false =>
    rw [if_neg Bool.false_ne_true] at e ⊢
    have x25 := x3.trans (x4.trans x5)
    obtain ⟨d1, d2, d3⟩ := stay g5 S4 x25
    exact ⟨g5, S4, acc, accV, rfl, rl3.step h5 (x4.trans x5), x2.trans x25, d1, d2, d3, RWs.mono rl2.h x25 _ _ ra, by omega, rest, e, ew⟩
end
theorem lc_read {c : Cn} {mi : I} {t : Tg} {ix vs : List Nat} {cd : T} {el : E} (hix : ∀ i ∈ ix, i ∈ vs) {σ : L2.St} {H : Hp} {Q : VK} (h : tLs c (lComp vs t mi cd el) σ H Q) : tLc (tI c mi) (tG c ix t) (tT c cd) (tE c el) vs σ H Q := by
  obtain ⟨g0, S0, sm, g, S, rfl, rl, ws, S', e, q⟩ := h
  obtain ⟨it, S1, e1, e⟩ := SB.R.of_bind e
  refine ⟨g0, S0, sm, g, S, rfl, rl, it, S1, e1, fun g1 J h1 x1 ok D nD => ?_⟩
  have rl1 := rl.step h1 x1
  have rlw := rl1.wipe vs
  have np : g.H D = none := by
    cases q0 : g.H D with
    | none => rfl
    | some u => exact absurd nD (x1.tr D (by rw [q0]; intro z; cases z))
  have np0 : g0.H D = none := by
    cases q0 : g0.H D with
    | none => rfl
    | some u => exact absurd np (rl.x.tr D (by rw [q0]; intro z; cases z))
  have ne : ∀ (i : Nat) (o : MO), (wipeM sm vs)[i]? = some (some (.own o)) → (L2.wipe σ vs)[i]? ≠ some (some (.ref D)) := fun i o ei z => by
    obtain ⟨p, ep, ro, _⟩ := rlw.own i o ei
    rw [ep] at z
    cases z
    exact ro.some nD
  have fD : ¬ g1.Fz D := fun z => h1.fz D z nD
  have lD : ¬ live g1 S1 D := fun ⟨a, o, ea, ra⟩ => h1.rho_some ea (by rw [show g1.rho a = D from ra]; exact nD)
  have start : ∀ (kont : Hm → R (List W)), kont S1 = .ok ws S' → CInv c g0 S0 (wipeM sm vs) (L2.wipe σ vs) g1 S1 D ws S' 0 kont (upd g1.H D (.lst [])) := fun kont ek =>
    ⟨g1.lay D (.lst []), S1, [], [], rfl, rlw.step (h1.lay nD _) (Ext.lay h1 nD _), Ext.lay h1 nD _, upd_same, fD, lD, .nil, Nat.le_refl _, ws, ek, rfl⟩
  have fin : ∀ (kont : Hm → R (List W)) (i : Nat) (H : Hp), i ≤ sizeLine → (∀ S, kont S = .ok [] S) → CInv c g0 S0 (wipeM sm vs) (L2.wipe σ vs) g1 S1 D ws S' i kont H → Q (.ref D) H := fun kont i H hi hk ⟨g2, S2, acc, accV, eH, rl2, x2, hD, f2, n2, ra, la, rest, ek, ew⟩ => by
    subst eH
    rw [hk] at ek
    cases ek
    rw [List.append_nil] at ew
    subst ew
    exact q g2 D accV rl2.h (x1.trans x2) hD (by omega) ra f2 n2 np
  have hz : sizeLine = 16777216 := sizeLine_eq
  cases it with
  | seq xs =>
    have e : (if xs.length ≤ sizeLine then compL t cd el xs (wipeM sm vs) S1 else .stuck) = .ok ws S' := e
    split at e
    · rename_i hlen
      refine ⟨fun i k H => i + k = xs.length ∧ CInv c g0 S0 (wipeM sm vs) (L2.wipe σ vs) g1 S1 D ws S' i (compL t cd el (xs.drop i) (wipeM sm vs)) H, ⟨xs.length, by omega, start _ e⟩, ?_⟩
      rintro i k H2 ⟨hk, hc⟩
      by_cases hlt : i < xs.length
      · obtain ⟨g2, S2, acc, accV, rfl, rl2, x2, hD, f2, n2, ra, la, rest, ek, ew⟩ := hc
        obtain ⟨okx, oke⟩ := ok g2 S2 rl2.h (x2.le h1) i
        obtain ⟨go, yl⟩ := okx _ (List.getElem?_eq_getElem hlt)
        rw [List.drop_eq_getElem_cons hlt] at ek
        refine .inr ⟨go, CInv c g0 S0 (wipeM sm vs) (L2.wipe σ vs) g1 S1 D ws S' (i + 1) (compL t cd el (xs.drop (i + 1)) (wipeM sm vs)), fun H' hN => ⟨k - 1, by omega, by omega, hN⟩, fun v H' y => ?_⟩
        exact comp_turn np0 nD ne hix (by omega) rl2 x2 hD f2 n2 ra la ek ew yl v H' y (H := H')
      · have hc' := hc
        obtain ⟨g2, S2, acc, accV, rfl, rl2, x2, _⟩ := hc'
        obtain ⟨okx, oke⟩ := ok g2 S2 rl2.h (x2.le h1) i
        refine .inl ⟨oke (by omega), fin _ i _ (by omega) (fun S => ?_) hc⟩
        rw [List.drop_eq_nil_of_le (by omega)]
        rfl
    · cases e
  | dyn at_ =>
    have e : compR t cd el at_ bigN 0 (wipeM sm vs) S1 = .ok ws S' := e
    refine ⟨fun i k H => i + k = bigN ∧ CInv c g0 S0 (wipeM sm vs) (L2.wipe σ vs) g1 S1 D ws S' i (compR t cd el at_ k i (wipeM sm vs)) H, ⟨bigN, by omega, start _ e⟩, ?_⟩
    rintro i k H2 ⟨hk, g2, S2, acc, accV, rfl, rl2, x2, hD, f2, n2, ra, la, rest, ek, ew⟩
    obtain ⟨okx, oke⟩ := ok g2 S2 rl2.h (x2.le h1) i
    have hb : bigN = 16777216 := rfl
    cases k with
    | zero => cases ek
    | succ k =>
      unfold compR at ek
      split at ek
      · cases ek
      · rename_i hat
        refine .inl ⟨oke hat, ?_⟩
        cases ek
        rw [List.append_nil] at ew
        subst ew
        exact q g2 D accV rl2.h (x1.trans x2) hD (by omega) ra f2 n2 np
      · rename_i x hat
        obtain ⟨go, yl⟩ := okx _ hat
        refine .inr ⟨go, CInv c g0 S0 (wipeM sm vs) (L2.wipe σ vs) g1 S1 D ws S' (i + 1) (compR t cd el at_ k (i + 1) (wipeM sm vs)), fun H' hN => ⟨k, Nat.lt_succ_self k, by omega, hN⟩, fun v H' y => ?_⟩
        exact comp_turn np0 nD ne hix (by omega) rl2 x2 hD f2 n2 ra la ek ew yl v H' y (H := H')
section
variable {c : Cn} {X : Cx}
theorem PTsimp {ifs : List Expr} {t t' : TT} (h : PTs X ifs t) (i : ∀ σ H Q, t' σ H Q → t σ H Q) : PTs X ifs t' := ⟨fun pins s σ H Q I hw => h.run pins s σ H Q I (i σ H Q hw)⟩
theorem ts_nil : PTs X [] (tT c SB.tYes) := PTsimp pts_nil fun σ H Q h => by
  obtain ⟨g0, S0, sm, g, S, rfl, rl, b, S', e, q⟩ := h
  cases e
  exact q g rl.h (Ext.refl _ _)
theorem ts_one {e : Expr} {m : T} (h : PT X e (tT c m)) : PTs X [e] (tT c m) := pts_one h
end
end SB
/-! SB, part 10: attributes, calls, built-ins, instances. -/
namespace SB
open PySem PySem.Spec PyProof.Rows L2

/-! ### the semantics -/
def putKV (f : Str) (w : W) : List Str → List W → List Str × List W
  | k :: ks, v :: vs => if k = f then (k :: ks, w :: vs) else ((k :: (putKV f w ks vs).1), (v :: (putKV f w ks vs).2))
  | _, _ => ([f], [w])
def keysAt (S : Hm) : W → List Str
  | .obj _ ks _ => ks
  | .ref a => match heapAt S a with
    | some (.ins _ ks _) => ks
    | _ => []
  | _ => []
def eCallD (f : Fn) (dws : List W) (a : As) : E := fun σ S => (a σ S).bind fun xs S1 => f (xs ++ dws) S1
/-- o.m(..): tab tells the class's def -/
def eMeth (m : Str) (tab : Str → Option Fn) (o : E) (a : As) : E := fun σ S => (o σ S).bind fun x S1 => match clsOf S1 x with
  | some C => (match tab C with
    | some f => if (keysAt S1 x).contains m = true then .stuck else (a σ S1).bind fun xs S2 => f (x :: xs) S2
    | none => .stuck)
  | none => .stuck
abbrev Fi := List W → Hm → R (List Str × List W)
/-- a new instance that no one changes any more -/
def eMk (C : Str) (f : Fi) (dws : List W) (a : As) : E := fun σ S => (a σ S).bind fun xs S1 => (f (xs ++ dws) S1).bind fun r S2 => .ok (.obj C r.1 r.2) S2
/-- a new instance on the own heap -/
def eMkH (C : Str) (f : Fn) (dws : List W) (a : As) : E := fun σ S => (a σ S).bind fun xs S1 => (f (.ref S1.length :: (xs ++ dws)) (S1 ++ [some (.ins C [] [])])).bind fun r S2 => match r with
  | .non => .ok (.ref S1.length) S2
  | _ => .stuck
/-- self.f = e -/
def sSetF (i : Nat) (f : Str) (e : E) : St' := fun σ S => (e σ S).bind fun w S1 => match σ[i]? with
  | some (some (.own (.ins C ks vs))) => if ks.length < 1000 then .ok (.nx (σ.set i (some (.own (.ins C (putKV f w ks vs).1 (putKV f w ks vs).2))))) S1 else .stuck
  | some (some (.val (.ref a))) => (match heapAt S1 a with
    | some (.ins C ks vs) => if ks.length < 1000 then .ok (.nx σ) (S1.set a (some (.ins C (putKV f w ks vs).1 (putKV f w ks vs).2))) else .stuck
    | _ => .stuck)
  | _ => .stuck
def slotAt (σ : Sl) (i : Nat) : Option Sv := match σ[i]? with
  | some (some s) => some s
  | _ => none
/-- an __init__ of an instance that is frozen behind it -/
def runInit (n : Nat) (C : Str) (body : St') : Fi := fun ws S => (body (some (.own (.ins C [] [])) :: startM (n - 1) ws) S).bind fun f S1 => match f with
  | .nx σ => (match slotAt σ 0 with
    | some (.own (.ins D ks vs)) => if D = C then .ok (ks, vs) S1 else .stuck
    | _ => .stuck)
  | _ => .stuck
/-- types -/
inductive Ty where
  | b (n : String) | c (C : Str)
  deriving DecidableEq
def tyW (S : Hm) : W → Option Ty
  | .non => some (.b "NoneType")
  | .bl _ => some (.b "bool")
  | .int _ => some (.b "int")
  | .str _ => some (.b "str")
  | .byt _ => some (.b "bytes")
  | .tup _ => some (.b "tuple")
  | .fl _ => some (.b "list")
  | .fd _ _ => some (.b "dict")
  | .obj C _ _ => some (.c C)
  | .ref a => match heapAt S a with
    | some (.lst _) => some (.b "list")
    | some (.dic _) => some (.b "dict")
    | some (.lkd _) => none
    | some (.dcN _) => none
    | some (.lkN _) => none
    | some (.ins C _ _) => some (.c C)
    | none => none
  | .scr _ => none
def isTy (t n : Ty) : Bool := match t, n with
  | .b a, .b n => (a == n) || (a == "bool" && n == "int")
  | .c C, .c D => decide (C = D)
  | _, _ => false
def eIsi (ns : List Ty) (a : E) : E := fun σ S => (a σ S).bind fun x S1 => match tyW S1 x with
  | some t => .ok (.bl (ns.any fun n => isTy t n)) S1
  | none => .stuck
/-- built-ins: from the values of the arguments -/
def fLen (ws : List W) (S : Hm) : R W := match ws with
  | [.str z] => if z.length ≤ sizeLine then .ok (.int z.length) S else .stuck
  | [.byt z] => if z.size ≤ sizeLine then .ok (.int z.size) S else .stuck
  | [x] => (match seqOf S x with
    | some xs => .ok (.int xs.length) S
    | none => .stuck)
  | _ => .stuck
def fAbs (ws : List W) (S : Hm) : R W := match ws with
  | [.int i] => .ok (.int (if i < 0 then -i else i)) S
  | _ => .stuck
def fInt (ws : List W) (S : Hm) : R W := match ws with
  | [.int i] => .ok (.int i) S
  | [.bl b] => .ok (.int (if b then 1 else 0)) S
  | _ => .stuck
def blsW : List W → Option (List Bool)
  | [] => some []
  | .bl b :: r => (blsW r).map (b :: ·)
  | _ => none
def intsW : List W → Option (List Int)
  | [] => some []
  | .int i :: r => (intsW r).map (i :: ·)
  | _ => none
def fAll (ws : List W) (S : Hm) : R W := match ws with
  | [x] => (match (lstOf S x).bind blsW with
    | some bs => .ok (.bl (bs.all id)) S
    | none => .stuck)
  | _ => .stuck
def fAny (ws : List W) (S : Hm) : R W := match ws with
  | [x] => (match (lstOf S x).bind blsW with
    | some bs => .ok (.bl (bs.any id)) S
    | none => .stuck)
  | _ => .stuck
def fSum (ws : List W) (S : Hm) : R W := match ws with
  | [x] => (match (lstOf S x).bind intsW with
    | some ns => .ok (.int ns.sum) S
    | none => .stuck)
  | _ => .stuck
def fMax2 (ws : List W) (S : Hm) : R W := match ws with
  | [.int i, .int j] => .ok (.int (if j > i then j else i)) S
  | _ => .stuck
def fMin2 (ws : List W) (S : Hm) : R W := match ws with
  | [.int i, .int j] => .ok (.int (if j < i then j else i)) S
  | _ => .stuck
/-- tuple(list), list(..) -/
def fTuple (ws : List W) (S : Hm) : R W := match ws with
  | [.tup xs] => .ok (.tup xs) S
  | [x] => (match lstOf S x with
    | some xs => .ok (.tup xs) S
    | none => .stuck)
  | _ => .stuck
def lCall (f : List W → Hm → R (List W)) (a : As) : L := fun σ S => (a σ S).bind fun xs S1 => f xs S1
def fList (ws : List W) (S : Hm) : R (List W) := match ws with
  | [x] => opt (seqOf S x) S
  | _ => .stuck
/-- the script's copy, slices of lists -/
abbrev P' := Sl → Hm → R (Option Int)
def pNone : P' := fun _ S => .ok none S
def pSome (e : E) : P' := fun σ S => (e σ S).bind fun w S1 => match w with
  | .int i => .ok (some i) S1
  | _ => .stuck
def cutSrc (S : Hm) : W → Option (List W)
  | .scr ns => some (ns.map W.int)
  | w => lstOf S w
def lSlice (a : E) (lo hi : P') : L := fun σ S => (a σ S).bind fun x S1 => (lo σ S1).bind fun l S2 => (hi σ S2).bind fun h S3 => match cutSrc S3 x with
  | some xs => .ok (cutG xs l h) S3
  | none => .stuck
/-- xs + ys, a new list -/
def lCat (a b : E) : L := fun σ S => (a σ S).bind fun x S1 => (b σ S1).bind fun y S2 => match lstOf S2 x with
  | some xs => (match lstOf S2 y with
    | some ys => if xs.length + ys.length ≤ sizeLine then .ok (xs ++ ys) S2 else .stuck
    | none => .stuck)
  | none => .stuck
/-- xs.append(e), xs.pop(i) of a list of the own heap -/
def fAppend (x : W) (ws : List W) (S : Hm) : R W := match x, ws with
  | .ref a, [w] => (match heapAt S a with
    | some (.lst xs) => if xs.length < sizeLine then .ok .non (S.set a (some (.lst (xs ++ [w])))) else .stuck
    | _ => .stuck)
  | _, _ => .stuck
def fPopAt (x : W) (ws : List W) (S : Hm) : R W := match x, ws with
  | .ref a, [.int 0] => (match heapAt S a with
    | some (.lst (y :: ys)) => .ok y (S.set a (some (.lst ys)))
    | _ => .stuck)
  | _, _ => .stuck
def eBm (f : W → List W → Hm → R W) (o : E) (a : As) : E := fun σ S => (o σ S).bind fun x S1 => match lstOf S1 x with
  | some _ => (a σ S1).bind fun ws S2 => f x ws S2
  | none => .stuck

/-! ### facts of the written part -/
def bTypes : List String := ["NoneType", "bool", "int", "str", "bytes", "tuple", "list", "dict"]
structure KOk (c : Cn) (flds : List Str) : Prop where
  cl : ∀ C a, c.cls C = some a → Cls c.K a
  na : ∀ C a f, c.cls C = some a → f ∈ flds → NoAttr c.K a f
  ha : ∀ C a, c.cls C = some a → PySem.W.findIn c.K (.ref a) "__class__" = some (some (.builtin "object.__class__"))
  hn : PySem.W.specialIn c.K (.builtin "object.__class__") "__get__" = some (some (.builtin "getset_descriptor.__get__"))
  htk : PySem.W.takesIn c.K (.builtin "object.__class__") = some true
  hm : ∀ C a, c.cls C = some a → PySem.W.mroIn c.K a (.type "object") = some true
  kb : ∀ C a n, c.cls C = some a → n ∈ bTypes → PySem.W.kitOne c.K (.ref a) (.type n) = some false
  kc : ∀ C a D b, c.cls C = some a → c.cls D = some b → PySem.W.kitOne c.K (.ref a) (.ref b) = some (decide (C = D))
  kt : ∀ C a n, c.cls C = some a → n ∈ bTypes → PySem.W.kitOne c.K (.type n) (.ref a) = some false

section
variable {c : Cn} {flds : List Str} {X : Cx} {pos : Pos} {e o : Expr} {es : List Expr} {ma mo : E} {as : As}

/-! ### attributes -/
theorem zip_lookup {g : Gh} {f : Str} {w : W} : ∀ {ks : List Str} {ws : List W} {fs : List (Str × V)}, fs.map (·.1) = ks → RWs c g ws (fs.map (·.2)) → (ks.zip ws).lookup f = some w → ∃ v, fs.lookup f = some v ∧ RW c g w v
  | [], _, _, _, _, e => by simp at e
  | k :: ks, ws, [], e1, _, _ => by simp at e1
  | k :: ks, [], (k', v) :: fs, _, r, _ => by
    have := r.length
    simp at this
  | k :: ks, x :: ws, (k', v) :: fs, e1, r, e => by
    simp only [List.map_cons, List.cons.injEq] at e1
    obtain ⟨e0, e1⟩ := e1
    subst e0
    obtain ⟨v', t, h1, h2, h3⟩ := r.cons'
    simp only [List.map_cons, List.cons.injEq] at h1
    obtain ⟨rfl, rfl⟩ := h1
    rw [List.zip_cons_cons, List.lookup_cons] at e
    rw [List.lookup_cons]
    cases hb : f == k' with
    | true =>
      rw [hb] at e
      cases e
      exact ⟨v, rfl, h2⟩
    | false =>
      rw [hb] at e
      exact zip_lookup e1 h3 e
/-- where an instance lies -/
theorem ins_at {g : Gh} {S : Hm} {x : W} {v : V} {C : Str} (h : HRel c g S) (r : RW c g x v) (e : clsOf S x = some C) :
    ∃ p cA dx fs, v = .ref p ∧ c.cls C = some cA ∧ g.H p = some (.ins cA dx fs) ∧ fs.map (·.1) = keysAt S x ∧ ∀ f w, fldOf S f x = some w → ∃ u, fs.lookup f = some u ∧ RW c g w u := by
  cases x with
  | obj D ks ws =>
    cases e
    obtain ⟨p, cA, dx, fs, rfl, f, hc, hp, hk, r2⟩ := rw_obj.mp r
    exact ⟨p, cA, dx, fs, rfl, hc, hp, hk, fun f w ew => zip_lookup hk r2 ew⟩
  | ref a =>
    simp only [clsOf] at e
    split at e
    · rename_i D ks ws hx
      cases e
      obtain ⟨_, rfl⟩ := rw_ref.mp r
      obtain ⟨cA, dx, fs, hp, hc, hk, r2⟩ := (h.ob a _ hx).1
      refine ⟨_, cA, dx, fs, rfl, hc, hp, ?_, fun f w ew => ?_⟩
      · simp only [keysAt, hx]; exact hk
      · simp only [fldOf, hx] at ew
        exact zip_lookup hk r2 ew
    · cases e
  | _ => cases e
theorem fld_cls {S : Hm} {x : W} {f : Str} {w : W} (e : fldOf S f x = some w) : ∃ C, clsOf S x = some C := by
  cases x with
  | obj D ks ws => exact ⟨D, rfl⟩
  | ref a =>
    simp only [fldOf] at e
    split at e
    · rename_i D ks ws hx
      exact ⟨D, by simp only [clsOf, hx]⟩
    · cases e
  | _ => cases e
theorem e_fld {f : Str} (hK : X.K = c.K) (k : KOk c flds) (hf : f ∈ flds) (he : PE X e (tE c ma)) (hb : attributeBase e f X.env (eval e X.env) = eval e X.env) : PE X (.Attribute e f pos) (tE c (eFld ma f)) := PEimp (pe_fld he hb) fun σ H Q h => by
  obtain ⟨g0, S0, sm, g, S, rfl, rl, w, S', e, q⟩ := h
  obtain ⟨x, S1, e1, e⟩ := SB.R.of_bind e
  obtain ⟨e2, rfl⟩ := opt_ok e
  refine ⟨g0, S0, sm, g, S, rfl, rl, x, _, e1, fun g1 v h1 x1 r1 => ?_⟩
  obtain ⟨C, hC⟩ := fld_cls e2
  obtain ⟨p, cA, dx, fs, rfl, hc, hp, hk, hl⟩ := ins_at h1 r1 hC
  obtain ⟨u, hu, ru⟩ := hl f w e2
  rw [hK]
  exact ⟨p, cA, dx, fs, u, rfl, hp, k.cl C cA hc, k.na C cA f hc hf, hu, q g1 u h1 x1 ru⟩

/-! ### calls -/
def spM (c : Cn) (n : Nat) (m : Fn) : Sp := fun vs H Q _ => ∃ g S ws, g.H = H ∧ HRel c g S ∧ RWs c g ws vs ∧ ws.length = n ∧ ∃ w S', m ws S = .ok w S' ∧ ∀ g' v, HRel c g' S' → Ext g S g' S' → RW c g' w v → Q v g'.H
def spI (c : Cn) (n : Nat) (C : Str) (m : Fi) : Sp := fun vs H Q _ => ∃ x rest dx cA g S ws, vs = .ref x :: rest ∧ c.cls C = some cA ∧ g.H x = none ∧ g.H dx = none ∧ dx ≠ x ∧ H = upd (upd g.H dx (.own x)) x (.ins cA dx []) ∧ HRel c g S ∧ RWs c g ws rest ∧ ws.length + 1 = n ∧
  ∃ r S', m ws S = .ok r S' ∧ ∀ g', HRel c g' S' → Ext g S g' S' → RW c g' (.obj C r.1 r.2) (.ref x) → Q .non g'.H
/-- the def at fA, called with so many values: m, behind the values the defaults dws -/
structure CallOk (P : Program) (w : World) (K : PySem.W.Frag) (mg : Str → Option Value) (base : Heap) (c : Cn) (k : Nat) (fA : Addr) (sp : Nat → Sp) (dws : List W) : Prop where
  ex : ∃ fd ps n ds dvs, FnOk P w K mg base CX0 k fA fd ps (sp n) ∧ Binds K fd ps ds ∧ Vals dvs ds ∧ ∀ g, RWs c g dws dvs
  kp : PySem.W.keepIn K (.ref fA) = true
def CallN (P : Program) (w : World) (K : PySem.W.Frag) (mg : Str → Option Value) (base : Heap) (c : Cn) (k : Nat) (fA : Addr) (nn : Nat) (m : Fn) (dws : List W) : Prop :=
  (∃ fd ps ds dvs, FnOk P w K mg base CX0 k fA fd ps (spM c nn m) ∧ Binds K fd ps ds ∧ Vals dvs ds ∧ ∀ g, RWs c g dws dvs) ∧ PySem.W.keepIn K (.ref fA) = true
theorem call_read {m : Fn} {dws : List W} {dvs : List V} {nn : Nat} (hd : ∀ g, RWs c g dws dvs) (hl : ∀ σ S ws S', as σ S = .ok ws S' → ws.length + dws.length = nn) {σ : L2.St} {H : Hp} {Q : VK} (h : tE c (eCallD m dws as) σ H Q) : tCall (spM c nn m) dvs E0 (tA c as) σ H Q := by
  obtain ⟨g0, S0, sm, g, S, rfl, rl, w, S', e, q⟩ := h
  obtain ⟨xs, S1, e1, e⟩ := SB.R.of_bind e
  refine ⟨g0, S0, sm, g, S, rfl, rl, xs, S1, e1, fun g1 vs h1 x1 r1 => ?_⟩
  refine ⟨g1, S1, xs ++ dws, rfl, h1, r1.append (hd g1), by rw [List.length_append]; exact hl _ _ _ _ e1, w, S', e, fun g' v h' x' r' => q g' v h' (x1.trans x') r'⟩
/-- how many arguments -/
def AsN (as : As) (n : Nat) : Prop := ∀ σ S ws S', as σ S = .ok ws S' → ws.length = n
theorem asN_nil : AsN aNil 0 := fun σ S ws S' e => by cases e; rfl
theorem asN_cons {n : Nat} (h : AsN as n) : AsN (aCons ma as) (n + 1) := fun σ S ws S' e => by
  obtain ⟨x, S1, e1, e⟩ := SB.R.of_bind e
  obtain ⟨xs, S2, e2, e⟩ := SB.R.of_bind e
  cases e
  rw [List.length_cons, h _ _ _ _ e2]
theorem e_call {f : Addr} {x : Str} {m : Fn} {dws : List W} {k nn n : Nat} {p : Pos} (F : CallN X.prog X.w X.K X.mg X.base c k f nn m dws) (hr : Room k X.A) (hg : Gl X x) (hm : X.mg x = some (.ref f)) (hn : AsN as n) (hnn : n + dws.length = nn)
    (ha : PA X (e :: es) (tA c as)) (hdb : (x == ("__debug__" : Str)) = false) (he : starEach (e :: es) X.env = (false, eval e X.env) :: starEach es X.env) (hpl : (backTo pos (starEach es X.env)).any (·.1) = false) :
    PE X (.Call (.Name x p) (e :: es) [] pos) (tE c (eCallD m dws as)) := by
  obtain ⟨⟨fd, ps, ds, dvs, F, hb, hv, hd⟩, hk⟩ := F
  exact PEimp (pe_call F hr hg hm hk hb hv pass0 ha hdb he hpl) fun σ H Q h => call_read hd (fun σ S ws S' ea => by rw [hn _ _ _ _ ea]; exact hnn) h
theorem e_call0 {f : Addr} {x : Str} {m : Fn} {dws : List W} {k nn : Nat} {p : Pos} (F : CallN X.prog X.w X.K X.mg X.base c k f nn m dws) (hr : Room k X.A) (hg : Gl X x) (hm : X.mg x = some (.ref f)) (hnn : dws.length = nn)
    (hdb : (x == ("__debug__" : Str)) = false) : PE X (.Call (.Name x p) [] [] pos) (tE c (eCallD m dws aNil)) := by
  obtain ⟨⟨fd, ps, ds, dvs, F, hb, hv, hd⟩, hk⟩ := F
  refine PEimp (pe_call0 F hr hg hm hk hb hv pass0 hdb) fun σ H Q h => ?_
  obtain ⟨g0, S0, sm, g, S, rfl, rl, w, S', e, q⟩ := h
  obtain ⟨xs, S1, e1, e⟩ := SB.R.of_bind e
  cases e1
  exact ⟨g, S, dws, rfl, rl.h, hd g, hnn, w, S', e, q⟩
/-! ### methods, by the class of the value -/
def tMethD (X : Cx) (m : Str) (ta : TE) (t : TA) : TE := fun σ H Q => ta σ H fun x H1 => ∃ a C dx fs k f fd ps sp ds dvs, x = .ref a ∧ H1 a = some (.ins C dx fs) ∧ Cls X.K C ∧ Meth X.K C m f ∧ FnOk X.prog X.w X.K X.mg X.base CX0 k f fd ps sp ∧ Room k X.A ∧ Binds X.K fd ps ds ∧ Vals dvs ds ∧
  fs.lookup m = none ∧ t σ H1 fun vs H2 => sp (x :: (vs ++ dvs)) H2 Q E0
theorem pe_methD {pl : Sem Bool} {m : Str} {apos : Pos} {ta : TE} {t : TA} (he : PE X o ta) (ha : PA X (e :: es) t)
    (hst : starEach (e :: es) X.env = (false, eval e X.env) :: starEach es X.env) (hpl : (backTo pos (starEach es X.env)).any (·.1) = false)
    (ht : eval (.Call (.Attribute o m apos) (e :: es) [] pos) X.env = (do
      let ov ← eval o X.env
      standAt apos.atName
      let (f, first) ← holding [ov] (getMethod ov m pl)
      callWith pos f first (backTo pos (starEach (e :: es) X.env)) (backToKw pos (keywordEach [] X.env)))) :
    PE X (.Call (.Attribute o m apos) (e :: es) [] pos) (tMethD X m ta t) := by
  refine ⟨fun pins s σ H Q I h => ?_⟩
  refine PySem.W.methodCall_KW (pl := pl) (thn (he.run pins s σ H _ I h) fun u s1 ⟨x, H1, I1, rx, a, C, dx, fs, k, f, fd, ps, sp, ds, dvs, ex, ea, c, hm, F, hr, hb, hd, l, q⟩ => ?_) ht
  subst ex
  obtain rfl : u = Value.ref a := rx
  refine getmeth_ok I1 ea c hm l ?_
  refine PySem.W.callWith_K (first := [.ref a]) (h₀ := X.base) I.ok.mod.kin hm.kp (thn (ha.run pos pins s1 σ H1 _ I1 q) fun us s2 ⟨vs, H2, I2, r, q2⟩ => ⟨I2.kIn, ?_⟩) hst hpl
  exact run_fn (us := .ref a :: us) (vs := .ref a :: vs) F hr hb hd pass0 I2 (.cons rfl r) q2
theorem pe_methD0 {pl : Sem Bool} {m : Str} {apos : Pos} {ta : TE} (he : PE X o ta)
    (ht : eval (.Call (.Attribute o m apos) [] [] pos) X.env = (do
      let ov ← eval o X.env
      standAt apos.atName
      let (f, first) ← holding [ov] (getMethod ov m pl)
      callWith pos f first (backTo pos (starEach [] X.env)) (backToKw pos (keywordEach [] X.env)))) :
    PE X (.Call (.Attribute o m apos) [] [] pos) (tMethD X m ta tNil) := by
  refine ⟨fun pins s σ H Q I h => ?_⟩
  refine PySem.W.methodCall_KW (pl := pl) (thn (he.run pins s σ H _ I h) fun u s1 ⟨x, H1, I1, rx, a, C, dx, fs, k, f, fd, ps, sp, ds, dvs, ex, ea, c, hm, F, hr, hb, hd, l, q⟩ => ?_) ht
  subst ex
  obtain rfl : u = Value.ref a := rx
  refine getmeth_ok I1 ea c hm l ?_
  exact PySem.W.callWith_K0 (first := [.ref a]) I1.kIn hm.kp (run_fn (us := [.ref a]) (vs := [.ref a]) F hr hb hd pass0 I1 (.cons rfl .nil) q)
/-- what the table must be: for each class that has it the def, and how its arguments are filled up -/
def TabOk (P : Program) (w : World) (K : PySem.W.Frag) (mg : Str → Option Value) (base : Heap) (c : Cn) (k : Nat) (m : Str) (n : Nat) (tab : Str → Option Fn) : Prop := ∀ C f, tab C = some f → ∀ cA, c.cls C = some cA → ∃ fA nn m' dws, Meth K cA m fA ∧ CallN P w K mg base c k fA nn m' dws ∧ n + 1 + dws.length = nn ∧ f = fun ws S => m' (ws ++ dws) S
theorem lookup_none {fs : List (Str × V)} {m : Str} (h : ((fs.map (·.1)).contains m) ≠ true) : fs.lookup m = none := by
  induction fs with
  | nil => rfl
  | cons p r ih =>
    obtain ⟨k, v⟩ := p
    have h : ¬ ((m == k || (List.map (fun x => x.fst) r).contains m) = true) := h
    rw [Bool.or_eq_true, not_or] at h
    rw [List.lookup_cons]
    have h1 : (m == k) = false := Bool.not_eq_true _ ▸ h.1
    rw [h1]
    exact ih h.2
theorem meth_read {m : Str} {tab : Str → Option Fn} {k n : Nat} (hK : X.K = c.K) (kk : ∀ C a, c.cls C = some a → Cls c.K a) (hr : Room k X.A) (ht : TabOk X.prog X.w X.K X.mg X.base c k m n tab) (hn : AsN as n) {σ : L2.St} {H : Hp} {Q : VK} (h : tE c (eMeth m tab mo as) σ H Q) : tMethD X m (tE c mo) (tA c as) σ H Q := by
  obtain ⟨g0, S0, sm, g, S, rfl, rl, w, S', e, q⟩ := h
  obtain ⟨x, S1, e1, e⟩ := SB.R.of_bind e
  refine ⟨g0, S0, sm, g, S, rfl, rl, x, S1, e1, fun g1 v h1 x1 r1 => ?_⟩
  split at e
  · rename_i C hC
    split at e
    · rename_i f hf
      split at e
      · cases e
      · rename_i hks
        obtain ⟨xs, S2, e2, e⟩ := SB.R.of_bind e
        obtain ⟨p, cA, dx, fs, rfl, hc, hp, hk, _⟩ := ins_at h1 r1 hC
        obtain ⟨fA, nn, m', dws, hm, ⟨⟨fd, ps, ds, dvs, F, hb, hv, hd⟩, _⟩, hnn, rfl⟩ := ht C f hf cA hc
        refine ⟨p, cA, dx, fs, k, fA, fd, ps, spM c nn m', ds, dvs, rfl, hp, by rw [hK]; exact kk C cA hc, hm, F, hr, hb, hv, lookup_none (by rw [hk]; exact hks), ?_⟩
        refine ⟨g0, S0, sm, g1, S1, rfl, rl.step h1 x1, xs, S2, e2, fun g2 vs h2 x2 r2 => ?_⟩
        refine ⟨g2, S2, x :: (xs ++ dws), rfl, h2, .cons (RW.mono h1 x2 _ _ r1) (r2.append (hd g2)), ?_, w, S', e, fun g' v h' x' r' => q g' v h' ((x1.trans x2).trans x') r'⟩
        rw [List.length_cons, List.length_append, hn _ _ _ _ e2]
        omega
    · cases e
  · cases e
end
end SB
/-! SB, part 11: built-ins, isinstance, slices, lists of the own heap, instances made. -/
namespace SB
open PySem PySem.Spec PyProof.Rows L2
section
variable {c : Cn} {flds : List Str} {X : Cx} {pos p pos' : Pos} {e o : Expr} {es : List Expr} {ma mb mo : E} {as : As}

/-! ### built-ins by name -/
def CaS (c : Cn) (f : Fn) (r : List V → Hp → VK → Prop) : Prop :=
  ∀ g S ws vs w S' Q, HRel c g S → RWs c g ws vs → f ws S = .ok w S' → (∀ g' v', HRel c g' S' → Ext g S g' S' → RW c g' w v' → Q v' g'.H) → r vs g.H Q
theorem tE_ca {f : Fn} {r : List V → Hp → VK → Prop} {σ : L2.St} {H : Hp} {Q : VK} (h : tE c (eCall f as) σ H Q) (hs : CaS c f r) : tCB r (tA c as) σ H Q := by
  obtain ⟨g0, S0, sm, g, S, rfl, rl, w, S', e, q⟩ := h
  obtain ⟨xs, S1, e1, e⟩ := SB.R.of_bind e
  exact ⟨g0, S0, sm, g, S, rfl, rl, xs, S1, e1, fun g1 vs h1 x1 r1 => hs g1 S1 xs vs w S' Q h1 r1 e fun g' v' h' x' r' => q g' v' h' (x1.trans x') r'⟩
theorem e_bltF {id : String} {x : Str} {f : Fn} {r : List V → Hp → VK → Prop} (hc : CallR X (.builtin id) r) (hs : CaS c f r) (hv : bootBuiltins x = some (.builtin id)) (hg : Gl X x) (hm : X.mg x = none) (ha : PA X (e :: es) (tA c as)) (hn : x ≠ "__name__")
    (hdb : (x == ("__debug__" : Str)) = false) (h1 : ∀ u q, e ≠ .Starred u q) (hpl : (backTo pos (starEach es X.env)).any (·.1) = false) : PE X (.Call (.Name x p) (e :: es) [] pos) (tE c (eCall f as)) :=
  PEimp (pe_callB hc hg hm hv ha hn hdb (star_ne h1) hpl) fun σ H Q h => tE_ca h hs
theorem e_bltT {T : String} {x : Str} {f : Fn} {r : List V → Hp → VK → Prop} (hc : CallR X (.type T) r) (hs : CaS c f r) (hv : bootBuiltins x = some (.type T)) (hg : Gl X x) (hm : X.mg x = none) (ha : PA X (e :: es) (tA c as)) (hn : x ≠ "__name__")
    (hdb : (x == ("__debug__" : Str)) = false) (h1 : ∀ u q, e ≠ .Starred u q) (hpl : (backTo pos (starEach es X.env)).any (·.1) = false) : PE X (.Call (.Name x p) (e :: es) [] pos) (tE c (eCall f as)) :=
  PEimp (pe_callTy hc hg hm hv ha hn hdb (star_ne h1) hpl) fun σ H Q h => tE_ca h hs
theorem RWs.one {g : Gh} {w : W} {vs : List V} (r : RWs c g [w] vs) : ∃ v, vs = [v] ∧ RW c g w v := by
  obtain ⟨v, t, rfl, r1, r2⟩ := r.cons'
  unfold RWs at r2
  subst r2
  exact ⟨v, rfl, r1⟩
theorem RWs.two {g : Gh} {w w' : W} {vs : List V} (r : RWs c g [w, w'] vs) : ∃ v v', vs = [v, v'] ∧ RW c g w v ∧ RW c g w' v' := by
  obtain ⟨v, t, rfl, r1, r2⟩ := r.cons'
  obtain ⟨v', rfl, r3⟩ := r2.one
  exact ⟨v, v', rfl, r1, r3⟩
theorem ca_len : CaS c fLen (fun xs H Q => ∃ x n, xs = [x] ∧ LenV c.K x H n ∧ Q (.int n) H) := fun g S ws vs w S' Q h r e q => by
  have seqs : ∀ x xs, ws = [x] → seqOf S x = some xs → w = .int xs.length → S' = S → ∃ y n, vs = [y] ∧ LenV c.K y g.H n ∧ Q (.int n) g.H := fun x xs ew es ew2 eS => by
    subst ew ew2 eS
    obtain ⟨v, rfl, rv⟩ := r.one
    obtain ⟨p, us, rfl, hp, z, ru⟩ := seq_at h rv es
    refine ⟨.ref p, us.length, rfl, ?_, ?_⟩
    · rcases hp with hp | hp
      · exact .inl ⟨us, hp, rfl⟩
      · exact .inr ⟨us, hp, rfl⟩
    · refine q g _ h (Ext.refl g S') ?_
      rw [rw_int, ru.length]
  unfold fLen at e
  split at e
  · split at e
    · rename_i hz
      cases e
      obtain ⟨v, rfl, rv⟩ := r.one
      rw [rw_str] at rv
      subst rv
      exact ⟨_, _, rfl, ⟨hz, rfl⟩, q g _ h (Ext.refl g S) (rw_int.mpr rfl)⟩
    · cases e
  · split at e
    · rename_i hz
      cases e
      obtain ⟨v, rfl, rv⟩ := r.one
      rw [rw_byt] at rv
      subst rv
      exact ⟨_, _, rfl, ⟨hz, rfl⟩, q g _ h (Ext.refl g S) (rw_int.mpr rfl)⟩
    · cases e
  · split at e
    · rename_i hs
      cases e
      exact seqs _ _ rfl hs rfl rfl
    · cases e
  · cases e
theorem ca_abs : CaS c fAbs (fun xs H Q => ∃ i, xs = [.int i] ∧ Q (.int (if i < 0 then -i else i)) H) := fun g S ws vs w S' Q h r e q => by
  unfold fAbs at e
  split at e
  · cases e
    obtain ⟨v, rfl, rv⟩ := r.one
    rw [rw_int] at rv
    subst rv
    exact ⟨_, rfl, q g _ h (Ext.refl g S) (rw_int.mpr rfl)⟩
  · cases e
theorem ca_int : CaS c fInt (fun xs H Q => (∃ i, xs = [.int i] ∧ Q (.int i) H) ∨ ∃ k, xs = [.bl k] ∧ Q (.int (if k then 1 else 0)) H) := fun g S ws vs w S' Q h r e q => by
  unfold fInt at e
  split at e
  · cases e
    obtain ⟨v, rfl, rv⟩ := r.one
    rw [rw_int] at rv
    subst rv
    exact .inl ⟨_, rfl, q g _ h (Ext.refl g S) (rw_int.mpr rfl)⟩
  · cases e
    obtain ⟨v, rfl, rv⟩ := r.one
    rw [rw_bl] at rv
    subst rv
    exact .inr ⟨_, rfl, q g _ h (Ext.refl g S) (rw_int.mpr rfl)⟩
  · cases e
theorem bls_of {g : Gh} : ∀ {ws : List W} {vs : List V} {bs : List Bool}, RWs c g ws vs → blsW ws = some bs → vs = bs.map V.bl
  | [], vs, bs, r, e => by
    cases e
    unfold RWs at r
    exact r
  | w :: ws, vs, bs, r, e => by
    obtain ⟨v, t, rfl, r1, r2⟩ := r.cons'
    cases w with
    | bl b =>
      simp only [blsW, Option.map_eq_some_iff] at e
      obtain ⟨bs', e', rfl⟩ := e
      rw [rw_bl] at r1
      rw [r1, bls_of r2 e']
      rfl
    | _ => cases e
theorem ints_of {g : Gh} : ∀ {ws : List W} {vs : List V} {bs : List Int}, RWs c g ws vs → intsW ws = some bs → vs = bs.map V.int
  | [], vs, bs, r, e => by
    cases e
    unfold RWs at r
    exact r
  | w :: ws, vs, bs, r, e => by
    obtain ⟨v, t, rfl, r1, r2⟩ := r.cons'
    cases w with
    | int b =>
      simp only [intsW, Option.map_eq_some_iff] at e
      obtain ⟨bs', e', rfl⟩ := e
      rw [rw_int] at r1
      rw [r1, ints_of r2 e']
      rfl
    | _ => cases e
theorem ca_all : CaS c fAll (rAll c.K) := fun g S ws vs w S' Q h r e q => by
  unfold fAll at e
  split at e
  · split at e
    · rename_i x bs hb
      cases e
      obtain ⟨xs, h1, h2⟩ := Option.bind_eq_some_iff.mp hb
      obtain ⟨v, rfl, rv⟩ := r.one
      obtain ⟨p, us, rfl, hp, z, ru⟩ := lst_at h rv h1
      rw [bls_of ru h2] at hp
      exact ⟨p, bs, rfl, .inl (.inl hp), q g _ h (Ext.refl g S) (rw_bl.mpr rfl)⟩
    · cases e
  · cases e
theorem ca_any : CaS c fAny (rAny c.K) := fun g S ws vs w S' Q h r e q => by
  unfold fAny at e
  split at e
  · split at e
    · rename_i x bs hb
      cases e
      obtain ⟨xs, h1, h2⟩ := Option.bind_eq_some_iff.mp hb
      obtain ⟨v, rfl, rv⟩ := r.one
      obtain ⟨p, us, rfl, hp, z, ru⟩ := lst_at h rv h1
      rw [bls_of ru h2] at hp
      exact ⟨p, bs, rfl, .inl (.inl hp), q g _ h (Ext.refl g S) (rw_bl.mpr rfl)⟩
    · cases e
  · cases e
theorem ca_sum : CaS c fSum (rSum c.K) := fun g S ws vs w S' Q h r e q => by
  unfold fSum at e
  split at e
  · split at e
    · rename_i x bs hb
      cases e
      obtain ⟨xs, h1, h2⟩ := Option.bind_eq_some_iff.mp hb
      obtain ⟨v, rfl, rv⟩ := r.one
      obtain ⟨p, us, rfl, hp, z, ru⟩ := lst_at h rv h1
      rw [ints_of ru h2] at hp
      exact ⟨p, bs, rfl, .inl (.inl hp), q g _ h (Ext.refl g S) (rw_int.mpr rfl)⟩
    · cases e
  · cases e
theorem ca_max2 : CaS c fMax2 (fun xs H Q => ∃ i j, xs = [.int i, .int j] ∧ Q (.int (if j > i then j else i)) H) := fun g S ws vs w S' Q h r e q => by
  unfold fMax2 at e
  split at e
  · cases e
    obtain ⟨v, v', rfl, rv, rv'⟩ := r.two
    rw [rw_int] at rv rv'
    subst rv rv'
    exact ⟨_, _, rfl, q g _ h (Ext.refl g S) (rw_int.mpr rfl)⟩
  · cases e
theorem ca_min2 : CaS c fMin2 (fun xs H Q => ∃ i j, xs = [.int i, .int j] ∧ Q (.int (if j < i then j else i)) H) := fun g S ws vs w S' Q h r e q => by
  unfold fMin2 at e
  split at e
  · cases e
    obtain ⟨v, v', rfl, rv, rv'⟩ := r.two
    rw [rw_int] at rv rv'
    subst rv rv'
    exact ⟨_, _, rfl, q g _ h (Ext.refl g S) (rw_int.mpr rfl)⟩
  · cases e
theorem ca_tuple : CaS c fTuple (fun xs H Q => ∃ p ys, xs = [.ref p] ∧ ((SqL c.K H p ys ∧ ∀ l, H l = none → Q (.ref l) (upd H l (.tup ys))) ∨ (SqT c.K H p ys ∧ Q (.ref p) H))) := fun g S ws vs w S' Q h r e q => by
  unfold fTuple at e
  split at e
  · cases e
    obtain ⟨v, rfl, rv⟩ := r.one
    have rv' := rv
    obtain ⟨p, us, rfl, hp, z, ru⟩ := rw_tup.mp rv
    exact ⟨p, us, rfl, .inr ⟨sqt_of hp, q g _ h (Ext.refl g S) rv'⟩⟩
  · split at e
    · rename_i hx
      cases e
      obtain ⟨v, rfl, rv⟩ := r.one
      obtain ⟨p, us, rfl, hp, z, ru⟩ := lst_at h rv hx
      refine ⟨p, us, rfl, .inl ⟨.inl (.inl hp), fun l nl => ?_⟩⟩
      obtain ⟨h', x', r'⟩ := new_tup h z ru nl
      exact q _ _ h' x' r'
    · cases e
  · cases e
/-- list(xs): a new list -/
theorem e_list {x : Str} (hx : x = "list") (hg : Gl X x) (hm : X.mg x = none) (hK : X.K = c.K) (ha : PA X (e :: es) (tA c as)) (h1 : ∀ u q, e ≠ .Starred u q) (hpl : (backTo pos (starEach es X.env)).any (·.1) = false) :
    PE X (.Call (.Name x p) (e :: es) [] pos) (tLs c (lCall fList as)) := by
  subst hx
  refine PEimp (pe_callTy call_list_of hg hm PyProof.Rows.boot_list ha (by decide) (by decide) (star_ne h1) hpl) fun σ H Q h => ?_
  obtain ⟨g0, S0, sm, g, S, rfl, rl, ws, S', e, q⟩ := h
  obtain ⟨xs, S1, e1, e⟩ := SB.R.of_bind e
  refine ⟨g0, S0, sm, g, S, rfl, rl, xs, S1, e1, fun g1 vs h1 x1 r1 => ?_⟩
  unfold fList at e
  split at e
  · obtain ⟨e2, rfl⟩ := opt_ok e
    obtain ⟨v, rfl, rv⟩ := r1.one
    obtain ⟨p, us, rfl, hp, z, ru⟩ := seq_at h1 rv e2
    rw [hK]
    refine ⟨p, us, rfl, hp, fun l nl => ?_⟩
    refine q (g1.lay l (.lst us)) l us (h1.lay nl _) (x1.trans (Ext.lay h1 nl _)) upd_same z (RWs.mono h1 (Ext.lay h1 nl _) _ _ ru) (fun z => h1.fz l z nl) (fun ⟨a, o, ea, ra⟩ => h1.rho_some ea (by rw [show g1.rho a = l from ra]; exact nl)) ?_
    cases q0 : g.H l with
    | none => rfl
    | some u => exact absurd nl (x1.tr l (by rw [q0]; intro z; cases z))
  · cases e

/-! ### isinstance -/
theorem ty_at (k : KOk c flds) {g : Gh} {S : Hm} {x : W} {v : V} {T : Ty} (h : HRel c g S) (r : RW c g x v) (e : tyW S x = some T) : ∃ t, TyX c.K g.H v t ∧ ((∃ n, T = .b n ∧ t = .type n ∧ n ∈ bTypes) ∨ ∃ C cA, T = .c C ∧ c.cls C = some cA ∧ t = .ref cA) := by
  cases x with
  | non => cases e; rw [rw_non] at r; subst r; exact ⟨_, .base .non, .inl ⟨_, rfl, rfl, by decide⟩⟩
  | bl b => cases e; rw [rw_bl] at r; subst r; exact ⟨_, .base (.bl b), .inl ⟨_, rfl, rfl, by decide⟩⟩
  | int b => cases e; rw [rw_int] at r; subst r; exact ⟨_, .base (.int b), .inl ⟨_, rfl, rfl, by decide⟩⟩
  | str b => cases e; rw [rw_str] at r; subst r; exact ⟨_, .base (.str b), .inl ⟨_, rfl, rfl, by decide⟩⟩
  | byt b => cases e; rw [rw_byt] at r; subst r; exact ⟨_, .byt b, .inl ⟨_, rfl, rfl, by decide⟩⟩
  | tup xs =>
    cases e
    obtain ⟨p, vs, rfl, hp, _⟩ := rw_tup.mp r
    rcases hp with ⟨_, hp⟩ | ⟨o, its, n, h1, h2, _⟩
    · exact ⟨_, .base (.tup hp), .inl ⟨_, rfl, rfl, by decide⟩⟩
    · exact ⟨_, .kTuple h1 h2, .inl ⟨_, rfl, rfl, by decide⟩⟩
  | fl xs =>
    cases e
    obtain ⟨p, vs, rfl, _, hp, _⟩ := rw_fl.mp r
    exact ⟨_, .base (.lst hp), .inl ⟨_, rfl, rfl, by decide⟩⟩
  | fd ks ws =>
    cases e
    obtain ⟨p, kvs, rfl, _, hp, _⟩ := rw_fd.mp r
    exact ⟨_, .base (.dK hp), .inl ⟨_, rfl, rfl, by decide⟩⟩
  | obj C ks ws =>
    cases e
    obtain ⟨p, cA, dx, fs, rfl, _, hc, hp, _⟩ := rw_obj.mp r
    exact ⟨_, .base (.ins hp (k.cl C cA hc) (k.ha C cA hc) k.hn k.htk (k.hm C cA hc)), .inr ⟨C, cA, rfl, hc, rfl⟩⟩
  | ref a =>
    obtain ⟨_, rfl⟩ := rw_ref.mp r
    simp only [tyW] at e
    split at e
    · rename_i xs hx
      cases e
      obtain ⟨vs, hp, _⟩ := (h.ob a _ hx).1
      exact ⟨_, .base (.lst hp), .inl ⟨_, rfl, rfl, by decide⟩⟩
    · rename_i xs hx
      cases e
      obtain ⟨vs, hp, _⟩ := (h.ob a _ hx).1
      exact ⟨_, .base (.dK hp), .inl ⟨_, rfl, rfl, by decide⟩⟩
    · cases e
    · cases e
    · cases e
    · rename_i C ks ws hx
      cases e
      obtain ⟨cA, dx, fs, hp, hc, _⟩ := (h.ob a _ hx).1
      exact ⟨_, .base (.ins hp (k.cl C cA hc) (k.ha C cA hc) k.hn k.htk (k.hm C cA hc)), .inr ⟨C, cA, rfl, hc, rfl⟩⟩
    · cases e
  | scr ns => cases e
theorem kit_bb : ∀ a ∈ bTypes, ∀ n ∈ bTypes, kitB a n = some (isTy (.b a) (.b n)) := by decide +kernel
/-- a class named: how it stands -/
def TyName (c : Cn) (T : Ty) (v : V) (u : Value) : Prop := (∃ n, T = .b n ∧ n ∈ bTypes ∧ v = .ty n ∧ u = .type n) ∨ ∃ C cA, T = .c C ∧ c.cls C = some cA ∧ v = .ref cA ∧ u = .ref cA
theorem TyName.cls {T : Ty} {v : V} {u : Value} (h : TyName c T v u) : ClsV v u := by
  rcases h with ⟨n, _, _, rfl, rfl⟩ | ⟨C, cA, _, _, rfl, rfl⟩
  · exact .ty n
  · exact .own cA
theorem kit_at (k : KOk c flds) {T D : Ty} {t u : Value} {v : V} (h : (∃ n, T = .b n ∧ t = .type n ∧ n ∈ bTypes) ∨ ∃ C cA, T = .c C ∧ c.cls C = some cA ∧ t = .ref cA) (hd : TyName c D v u) : PySem.W.kitOne c.K t u = some (isTy T D) := by
  rcases h with ⟨n, rfl, rfl, hn⟩ | ⟨C, cA, rfl, hc, rfl⟩
  · rcases hd with ⟨m, rfl, hm, _, rfl⟩ | ⟨D, dA, rfl, hdc, _, rfl⟩
    · exact kit_ty (kit_bb n hn m hm)
    · exact k.kt D dA n hdc hn
  · rcases hd with ⟨m, rfl, hm, _, rfl⟩ | ⟨D, dA, rfl, hdc, _, rfl⟩
    · exact k.kb C cA m hc hm
    · exact k.kc C cA D dA hc hdc
theorem e_isi {x : Str} {en : Expr} {T : Ty} {v : V} {u : Value} (hx : x = "isinstance") (k : KOk c flds) (hK : X.K = c.K) (hg : Gl X x) (hm : X.mg x = none) (he : PE X e (tE c ma)) (hn : PE X en (tC v)) (ht : TyName c T v u) (h1 : ∀ u q, e ≠ .Starred u q) (h2 : ∀ u q, en ≠ .Starred u q) :
    PE X (.Call (.Name x p) [e, en] [] pos) (tE c (eIsi [T] ma)) := by
  subst hx
  refine PEimp (pe_callB call_isi hg hm PyProof.Rows.boot_isinstance (pa_cons he (pa_cons hn pa_nil (star_ne h2)) (star_ne h1)) (by decide) (by decide) (star_ne h1) (by rw [star_ne h2]; rfl)) fun σ H Q h => ?_
  obtain ⟨g0, S0, sm, g, S, rfl, rl, w, S', e, q⟩ := h
  obtain ⟨x, S1, e1, e⟩ := SB.R.of_bind e
  refine ⟨g0, S0, sm, g, S, rfl, rl, x, S1, e1, fun g1 vx h1 x1 r1 => ?_⟩
  split at e
  · rename_i t ht2
    cases e
    obtain ⟨tv, hty, hcase⟩ := ty_at k h1 r1 ht2
    rw [hK]
    refine ⟨vx, v, tv, u, _, rfl, ht.cls, hty, kit_at k hcase ht, ?_⟩
    refine q g1 _ h1 x1 ?_
    simp only [List.any_cons, List.any_nil, Bool.or_false]
    rw [rw_bl]
  · cases e

/-! ### slices -/
def tP (c : Cn) (m : P') : TO := fun σ H Q => ∃ g0 S0 sm g S, g.H = H ∧ SRel c g0 S0 sm σ g S ∧ ∃ o S', m sm S = .ok o S' ∧ ∀ g', HRel c g' S' → Ext g S g' S' → Q o g'.H
theorem POimp {X : Cx} {e : Option Expr} {t t' : TO} (h : PO X e t) (i : ∀ σ H Q, t' σ H Q → t σ H Q) : PO X e t' := ⟨fun pins s σ H Q I hw => h.run pins s σ H Q I (i σ H Q hw)⟩
theorem p_none : PO X none (tP c pNone) := POimp po_none fun σ H Q h => by
  obtain ⟨g0, S0, sm, g, S, rfl, rl, o, S', e, q⟩ := h
  cases e
  exact q g rl.h (Ext.refl g _)
theorem p_some (he : PE X e (tE c ma)) : PO X (some e) (tP c (pSome ma)) := POimp (po_some he) fun σ H Q h => by
  obtain ⟨g0, S0, sm, g, S, rfl, rl, o, S', e, q⟩ := h
  obtain ⟨x, S1, e1, e⟩ := SB.R.of_bind e
  refine ⟨g0, S0, sm, g, S, rfl, rl, x, S1, e1, fun g1 v h1 x1 r1 => ?_⟩
  split at e
  · cases e
    exact ⟨_, rw_int.mp r1, q g1 h1 x1⟩
  · cases e
theorem cutG_V (vs : List V) (lo hi : Option Int) : cutV vs lo hi = cutG vs lo hi := rfl
theorem RWs.cut {g : Gh} {ws : List W} {vs : List V} (r : RWs c g ws vs) (lo hi : Option Int) : RWs c g (cutG ws lo hi) (cutV vs lo hi) := by
  unfold cutG cutV
  rw [r.length]
  exact (r.drop _).take _
theorem rws_ints {g : Gh} : ∀ ns : List Int, RWs c g (ns.map W.int) (ns.map V.int)
  | [] => .nil
  | n :: ns => .cons (rw_int.mpr rfl) (rws_ints ns)
theorem cut_at {g : Gh} {S : Hm} {x : W} {v : V} {ws : List W} (h : HRel c g S) (r : RW c g x v) (e : cutSrc S x = some ws) : ∃ p vs, v = .ref p ∧ SqL c.K g.H p vs ∧ ws.length ≤ sizeLine ∧ RWs c g ws vs := by
  have lst : lstOf S x = some ws → ∃ p vs, v = .ref p ∧ SqL c.K g.H p vs ∧ ws.length ≤ sizeLine ∧ RWs c g ws vs := fun e => by
    obtain ⟨p, vs, rfl, hp, z, rr⟩ := lst_at h r e
    exact ⟨p, vs, rfl, .inl (.inl hp), z, rr⟩
  cases x with
  | scr ns =>
    cases e
    obtain ⟨p, rfl, hp, z⟩ := rw_scr.mp r
    have hz : sizeLine = 16777216 := sizeLine_eq
    refine ⟨p, ns.map V.int, rfl, ?_, by rw [List.length_map]; omega, rws_ints ns⟩
    rcases hp with ⟨o, hp⟩ | hp
    · exact .inl (.inr ⟨o, hp⟩)
    · exact .inr hp
  | _ => exact lst e
theorem e_slice {lo hi : Option Expr} {ml mh : P'} {p2 : Pos} (hK : X.K = c.K) (he : PE X e (tE c ma)) (hl : PO X lo (tP c ml)) (hh : PO X hi (tP c mh)) : PE X (.Subscript e (.Slice lo hi none p2) pos) (tLs c (lSlice ma ml mh)) :=
  PEimp (pe_slice sl_list he hl hh) fun σ H Q h => by
    obtain ⟨g0, S0, sm, g, S, rfl, rl, ws, S', e, q⟩ := h
    obtain ⟨x, S1, e1, e⟩ := SB.R.of_bind e
    obtain ⟨l, S2, e2, e⟩ := SB.R.of_bind e
    obtain ⟨u, S3, e3, e⟩ := SB.R.of_bind e
    refine ⟨g0, S0, sm, g, S, rfl, rl, x, S1, e1, fun g1 v h1 x1 r1 => ?_⟩
    have rl1 := rl.step h1 x1
    refine ⟨g0, S0, sm, g1, S1, rfl, rl1, l, S2, e2, fun g2 h2 x2 => ?_⟩
    refine ⟨g0, S0, sm, g2, S2, rfl, rl1.step h2 x2, u, S3, e3, fun g3 h3 x3 => ?_⟩
    have r3 := RW.mono h1 (x2.trans x3) _ _ r1
    split at e
    · rename_i xs hx
      cases e
      obtain ⟨p, vs, rfl, hp, z, rr⟩ := cut_at h3 r3 hx
      rw [hK]
      refine ⟨p, vs, rfl, hp, fun d nd => ?_⟩
      have rc := rr.cut l u
      refine q (g3.lay d (.lst (cutV vs l u))) d (cutV vs l u) (h3.lay nd _) (((x1.trans x2).trans x3).trans (Ext.lay h3 nd _)) upd_same ?_ (RWs.mono h3 (Ext.lay h3 nd _) _ _ rc) (fun z => h3.fz d z nd) (fun ⟨a, o, ea, ra⟩ => h3.rho_some ea (by rw [show g3.rho a = d from ra]; exact nd)) ?_
      · rw [rc.length]
        exact Nat.le_trans (cutV_length vs l u) (by rw [← rr.length]; exact z)
      · cases q0 : g.H d with
        | none => rfl
        | some y => exact absurd nd (((x1.trans x2).trans x3).tr d (by rw [q0]; intro z; cases z))
    · cases e

theorem e_cat {a b : Expr} (hK : X.K = c.K) (ha : PE X a (tE c ma)) (hb : PE X b (tE c mb)) : PE X (.BinOp a .Add b pos) (tLs c (lCat ma mb)) := PEimp (pe_op op_addS ha hb) fun σ H Q h => by
  obtain ⟨g0, S0, sm, g, S, rfl, rl, ws, S', e, q⟩ := h
  obtain ⟨x, S1, e1, e⟩ := SB.R.of_bind e
  obtain ⟨y, S2, e2, e⟩ := SB.R.of_bind e
  refine ⟨g0, S0, sm, g, S, rfl, rl, x, S1, e1, fun g1 v h1 x1 r1 => ?_⟩
  refine ⟨g0, S0, sm, g1, S1, rfl, rl.step h1 x1, y, S2, e2, fun g2 u h2 x2 r2 => ?_⟩
  have r1' := RW.mono h1 x2 _ _ r1
  split at e
  · rename_i xs hx
    split at e
    · rename_i ys hy
      split at e
      · rename_i hz
        cases e
        obtain ⟨p, vs, rfl, hp, z, rr⟩ := lst_at h2 r1' hx
        obtain ⟨p2, us, rfl, hp2, z2, ru⟩ := lst_at h2 r2 hy
        refine .inr (.inr (.inr ⟨p, p2, vs, us, rfl, rfl, hp, hp2, by rw [← rr.length, ← ru.length]; exact hz, fun d nd => ?_⟩))
        have rc := rr.append ru
        refine q (g2.lay d (.lst (vs ++ us))) d (vs ++ us) (h2.lay nd _) ((x1.trans x2).trans (Ext.lay h2 nd _)) upd_same (by rw [List.length_append]; exact hz) (RWs.mono h2 (Ext.lay h2 nd _) _ _ rc) (fun z => h2.fz d z nd) (fun ⟨a, o, ea, ra⟩ => h2.rho_some ea (by rw [show g2.rho a = d from ra]; exact nd)) ?_
        cases q0 : g.H d with
        | none => rfl
        | some y => exact absurd nd ((x1.trans x2).tr d (by rw [q0]; intro z; cases z))
      · cases e
    · cases e
  · cases e

/-! ### lists of the own heap -/
def BmS (c : Cn) (f : W → List W → Hm → R W) (r : V → List V → Hp → VK → Prop) : Prop :=
  ∀ g S x ws v vs w S' Q, HRel c g S → RW c g x v → RWs c g ws vs → f x ws S = .ok w S' → (∀ g' v', HRel c g' S' → Ext g S g' S' → RW c g' w v' → Q v' g'.H) → r v vs g.H Q
theorem tE_bm {f : W → List W → Hm → R W} {r : V → List V → Hp → VK → Prop} (hK : X.K = c.K) (hs : BmS c f r) {σ : L2.St} {H : Hp} {Q : VK} (h : tE c (eBm f mo as) σ H Q) : tBM X.K "list" r (tE c mo) (tA c as) σ H Q := by
  obtain ⟨g0, S0, sm, g, S, rfl, rl, w, S', e, q⟩ := h
  obtain ⟨x, S1, e1, e⟩ := SB.R.of_bind e
  refine ⟨g0, S0, sm, g, S, rfl, rl, x, S1, e1, fun g1 v h1 x1 r1 => ?_⟩
  split at e
  · rename_i xs hx
    obtain ⟨ws, S2, e2, e⟩ := SB.R.of_bind e
    obtain ⟨p, us, rfl, hp, z, ru⟩ := lst_at h1 r1 hx
    refine ⟨.inl ⟨rfl, us, .inl (.inl hp)⟩, g0, S0, sm, g1, S1, rfl, rl.step h1 x1, ws, S2, e2, fun g2 vs h2 x2 r2 => ?_⟩
    exact hs g2 S2 x ws (.ref p) vs w S' Q h2 (RW.mono h1 x2 _ _ r1) r2 e fun g' v' h' x' r' => q g' v' h' ((x1.trans x2).trans x') r'
  · cases e
theorem bm_append : BmS c fAppend rAppend := fun g S x ws v vs w S' Q h rx rs e q => by
  unfold fAppend at e
  split at e
  · rename_i a y
    split at e
    · rename_i xs hx
      split at e
      · rename_i hz
        cases e
        obtain ⟨_, rfl⟩ := rw_ref.mp rx
        obtain ⟨u, rfl, ru⟩ := rs.one
        obtain ⟨us, hp, z, rus⟩ := (h.ob a _ hx).1
        have f0 := (h.ob a _ hx).2
        have le := Gh.chg_le (o := .lst (us ++ [u])) f0 hp (fun _ _ z => by cases z)
        obtain ⟨h', x'⟩ := h.hchg (w := .lst (us ++ [u])) hx (show RO c _ (.lst (xs ++ [y])) _ from ⟨_, rfl, by rw [List.length_append, List.length_singleton]; omega, (RWs.le le _ _ rus).append (.cons (RW.le le _ _ ru) .nil)⟩)
        exact ⟨_, us, u, rfl, rfl, hp, by rw [← rus.length]; exact hz, q _ _ h' x' (rw_non.mpr rfl)⟩
      · cases e
    · cases e
  · cases e
theorem bm_popAt : BmS c fPopAt rPopAt := fun g S x ws v vs w S' Q h rx rs e q => by
  unfold fPopAt at e
  split at e
  · rename_i a
    split at e
    · rename_i y ys hx
      cases e
      obtain ⟨_, rfl⟩ := rw_ref.mp rx
      obtain ⟨u, rfl, ru⟩ := rs.one
      rw [rw_int] at ru
      subst ru
      obtain ⟨us, hp, z, rus⟩ := (h.ob a _ hx).1
      obtain ⟨u0, us', rfl, r1, r2⟩ := rus.cons'
      have f0 := (h.ob a _ hx).2
      have le := Gh.chg_le (o := .lst us') f0 hp (fun _ _ z => by cases z)
      obtain ⟨h', x'⟩ := h.hchg (w := .lst us') hx (show RO c _ (.lst ys) _ from ⟨_, rfl, by rw [List.length_cons] at z; omega, RWs.le le _ _ r2⟩)
      refine ⟨_, u0 :: us', 0, 0, u0, rfl, rfl, hp, by decide, by decide, ?_, rfl, ?_⟩
      · unfold seqIndex?
        simp
      · exact q _ _ h' x' (RW.le le _ _ r1)
    · cases e
  · cases e
theorem e_happ {x : Str} {a : Expr} {p2 : Pos} (hx : x = "append") (ho : PE X o (tE c mo)) (ha : PE X a (tE c ma)) (n1 : ∀ u p, a ≠ .Starred u p) (hK : X.K = c.K)
    (hb : attributeBase o x X.env (eval o X.env) = eval o X.env) (hl : (p2.endLine == pos.line) = true) : PE X (.Call (.Attribute o x p2) [a] [] pos) (tE c (eBm fAppend mo (aCons ma aNil))) := by
  subst hx
  exact PEimp (pe_bm PySem.F.plainAttrs_list PySem.F.slot_list_append PySem.F.type_list_append mt_append ho (a_cons ha a_nil (star_ne n1)) hb (by rw [star_ne n1]; rfl) hl (star_ne n1) rfl) fun σ H Q h => tE_bm hK bm_append h
theorem e_hpop {x : Str} {a : Expr} {p2 : Pos} (hx : x = "pop") (ho : PE X o (tE c mo)) (ha : PE X a (tE c ma)) (n1 : ∀ u p, a ≠ .Starred u p) (hK : X.K = c.K)
    (hb : attributeBase o x X.env (eval o X.env) = eval o X.env) (hl : (p2.endLine == pos.line) = true) : PE X (.Call (.Attribute o x p2) [a] [] pos) (tE c (eBm fPopAt mo (aCons ma aNil))) := by
  subst hx
  exact PEimp (pe_bm PySem.F.plainAttrs_list PySem.F.slot_list_pop PySem.F.type_list_pop mt_popAt ho (a_cons ha a_nil (star_ne n1)) hb (by rw [star_ne n1]; rfl) hl (star_ne n1) rfl) fun σ H Q h => tE_bm hK bm_popAt h
end
end SB
/-! SB, part 12: argument lists without stars, methods, instances made, fields set, defs. -/
namespace SB
open PySem PySem.Spec PyProof.Rows L2

/-! ### argument lists -/
def notStar : Expr → Bool
  | .Starred _ _ => false
  | _ => true
theorem notStar_ne {e : Expr} (h : notStar e = true) : ∀ u p, e ≠ .Starred u p := fun u p z => by subst z; cases h
theorem star_map {env : Env} : ∀ {es : List Expr}, es.all notStar = true → starEach es env = es.map fun e => (false, eval e env)
  | [], _ => rfl
  | e :: es, h => by
    rw [List.all_cons, Bool.and_eq_true] at h
    rw [star_ne (notStar_ne h.1), star_map h.2]
    rfl
theorem star_plain {env : Env} {pos : Pos} {es : List Expr} (h : es.all notStar = true) : (backTo pos (starEach es env)).any (·.1) = false := by
  rw [star_map h]
  unfold backTo
  rw [List.map_map]
  induction es with
  | nil => rfl
  | cons e es ih =>
    rw [List.all_cons, Bool.and_eq_true] at h
    rw [List.map_cons, List.any_cons, ih h.2]
    rfl
theorem star_all {env : Env} {pos : Pos} {es : List Expr} (h : es.all notStar = true) : (backTo pos (starEach es env)).all (fun x => !x.1) = true := by
  have := star_plain (env := env) (pos := pos) h
  rw [List.any_eq_false] at this
  rw [List.all_eq_true]
  intro x hx
  have := this x hx
  cases hb : x.1 with
  | true => exact absurd hb this
  | false => rfl
theorem meth_ht {o : Expr} {m : Str} {apos pos : Pos} {es : List Expr} {env : Env} (hb : attributeBase o m env (eval o env) = eval o env) (hl : (apos.endLine == pos.line) = true) (hs : es.all notStar = true) (hn : decide (es.length < 30) = true) :
    eval (.Call (.Attribute o m apos) es [] pos) env = (do
      let ov ← eval o env
      standAt apos.atName
      let (f, first) ← holding [ov] (getMethod ov m (do return (← importBound o env).getD true))
      callWith pos f first (backTo pos (starEach es env)) (backToKw pos (keywordEach [] env))) := by
  have hf : methodCallForm (es.length + ([] : List Keyword).length) (backTo pos (starEach es env)) (backToKw pos (keywordEach [] env)) = true := by
    unfold methodCallForm
    rw [star_all hs]
    show (true && true && decide (es.length + 0 + 0 < 30)) = true
    simpa using hn
  rw [arm_eval_Call, hb]
  unfold methodCall
  rw [hf]
  unfold methodCallPos calleeOf
  rw [hl]
  rfl

section
variable {c : Cn} {flds : List Str} {X : Cx} {pos apos p pos' : Pos} {e o : Expr} {es : List Expr} {ma mb mo : E} {as : As}
theorem e_meth {m : Str} {tab : Str → Option Fn} {k n : Nat} (hK : X.K = c.K) (kk : ∀ C a, c.cls C = some a → Cls c.K a) (hr : Room k X.A) (ht : TabOk X.prog X.w X.K X.mg X.base c k m n tab) (hn : AsN as n) (he : PE X o (tE c mo)) (ha : PA X es (tA c as))
    (hs : es.all notStar = true) (hb : attributeBase o m X.env (eval o X.env) = eval o X.env) (hl : (apos.endLine == pos.line) = true) (hlen : decide (es.length < 30) = true) (h0 : es = [] → as = aNil) : PE X (.Call (.Attribute o m apos) es [] pos) (tE c (eMeth m tab mo as)) := by
  cases es with
  | nil =>
    refine PEimp (pe_methD0 he (meth_ht hb hl hs hlen)) fun σ H Q h => ?_
    have h2 := meth_read hK kk hr ht hn h
    obtain ⟨g0, S0, sm, g, S, e1, e2, w, S1, e3, h3⟩ := h2
    refine ⟨g0, S0, sm, g, S, e1, e2, w, S1, e3, fun g' v h' x' r' => ?_⟩
    obtain ⟨a, C, dx, fs, k, f, fd, ps, sp, ds, dvs, q1, q2, q3, q4, q5, q6, q7, q8, q9, q10⟩ := h3 g' v h' x' r'
    refine ⟨a, C, dx, fs, k, f, fd, ps, sp, ds, dvs, q1, q2, q3, q4, q5, q6, q7, q8, q9, ?_⟩
    have e0 := h0 rfl
    subst e0
    obtain ⟨g0, S0, sm, g, S, eH, rl, ws, S2, ea, qq⟩ := (show tA c aNil σ g'.H (fun vs H2 => sp (v :: (vs ++ dvs)) H2 Q E0) from q10)
    cases ea
    have := qq g [] rl.h (Ext.refl g S) .nil
    rw [eH] at this
    exact this
  | cons e es =>
    rw [List.all_cons, Bool.and_eq_true] at hs
    refine PEimp (pe_methD he ha (star_ne (notStar_ne hs.1)) (star_plain hs.2) (meth_ht hb hl (by rw [List.all_cons, hs.1, hs.2]; rfl) hlen)) fun σ H Q h => meth_read hK kk hr ht hn h

/-! ### instances -/
theorem no_live {g : Gh} {S : Hm} {p : Addr} (h : HRel c g S) (np : g.H p = none) : ¬ live g S p := fun ⟨a, o, ea, ra⟩ => h.rho_some ea (by rw [show g.rho a = p from ra]; exact np)
theorem no_fz {g : Gh} {S : Hm} {p : Addr} (h : HRel c g S) (np : g.H p = none) : ¬ g.Fz p := fun z => h.fz p z np
theorem mk_read {C : Str} {cA : Addr} {f : Fi} {dws : List W} {dvs : List V} {n nn : Nat} (hC : c.cls C = some cA) (hd : ∀ g, RWs c g dws dvs) (hn : AsN as n) (hnn : n + dws.length + 1 = nn) {σ : L2.St} {H : Hp} {Q : VK} (h : tE c (eMk C f dws as) σ H Q) :
    tMake cA (spI c nn C f) dvs E0 (tA c as) σ H Q := by
  obtain ⟨g0, S0, sm, g, S, rfl, rl, w, S', e, q⟩ := h
  obtain ⟨xs, S1, e1, e⟩ := SB.R.of_bind e
  obtain ⟨r, S2, e2, e⟩ := SB.R.of_bind e
  cases e
  refine ⟨g0, S0, sm, g, S, rfl, rl, xs, S1, e1, fun g1 vs h1 x1 r1 x dx nx ndx ne => ?_⟩
  refine ⟨x, vs ++ dvs, dx, cA, g1, S1, xs ++ dws, rfl, hC, nx, ndx, ne, rfl, h1, r1.append (hd g1), by rw [List.length_append, hn _ _ _ _ e1]; exact hnn, r, _, e2, fun g' h' x' r' => ⟨rfl, q g' _ h' (x1.trans x') r'⟩⟩
theorem mkH_read {C : Str} {cA : Addr} {f : Fn} {dws : List W} {dvs : List V} {n nn : Nat} (hC : c.cls C = some cA) (hd : ∀ g, RWs c g dws dvs) (hn : AsN as n) (hnn : n + dws.length + 1 = nn) {σ : L2.St} {H : Hp} {Q : VK} (h : tE c (eMkH C f dws as) σ H Q) :
    tMake cA (spM c nn f) dvs E0 (tA c as) σ H Q := by
  obtain ⟨g0, S0, sm, g, S, rfl, rl, w, S', e, q⟩ := h
  obtain ⟨xs, S1, e1, e⟩ := SB.R.of_bind e
  obtain ⟨r, S2, e2, e⟩ := SB.R.of_bind e
  refine ⟨g0, S0, sm, g, S, rfl, rl, xs, S1, e1, fun g1 vs h1 x1 r1 x dx nx ndx ne => ?_⟩
  have hA := h1.lay ndx (.own x)
  have xA := Ext.lay h1 ndx (.own x)
  have nx2 : (g1.lay dx (.own x)).H x = none := by
    show upd g1.H dx (.own x) x = none
    rw [upd_ne (Ne.symm ne)]; exact nx
  have hB := hA.lay nx2 (.ins cA dx [])
  have xB := Ext.lay hA nx2 (.ins cA dx [])
  have nl : ¬ live g1 S1 x := no_live h1 nx
  have nf : ¬ g1.Fz x := no_fz h1 nx
  have ro : RO c ((g1.lay dx (.own x)).lay x (.ins cA dx [])) (.ins C [] []) (((g1.lay dx (.own x)).lay x (.ins cA dx [])).H x) := ⟨cA, dx, [], upd_same, hC, rfl, .nil⟩
  have hP := hB.put ro nf nl
  have xP : Ext g1 S1 (((g1.lay dx (.own x)).lay x (.ins cA dx [])).put x) (S1 ++ [some (.ins C [] [])]) := Ext.put hB (xA.trans xB) nx (.ins C [] [])
  have rx : RW c (((g1.lay dx (.own x)).lay x (.ins cA dx [])).put x) (.ref S1.length) (.ref x) := by
    rw [rw_ref]
    refine ⟨by show S1.length < g1.n + 1; rw [h1.n]; exact Nat.lt_succ_self _, ?_⟩
    show V.ref x = V.ref (if S1.length = g1.n then x else _)
    rw [if_pos h1.n.symm]
  refine ⟨_, _, .ref S1.length :: (xs ++ dws), rfl, hP, .cons rx ((RWs.mono h1 xP _ _ r1).append (hd _)), by rw [List.length_cons, List.length_append, hn _ _ _ _ e1]; exact hnn, r, S2, e2, fun g' v h' x' r' => ?_⟩
  split at e
  · cases e
    refine ⟨rw_non.mp r', q g' _ h' ((x1.trans xP).trans x') ?_⟩
    exact RW.mono hP x' _ _ rx
  · cases e

/-! ### self.f = e -/
theorem put_kv {g : Gh} {f : Str} {w : W} {v : V} (rw' : RW c g w v) : ∀ {ks : List Str} {ws : List W} {fs : List (Str × V)}, fs.map (·.1) = ks → RWs c g ws (fs.map (·.2)) → ((putF f v fs).map (·.1) = (putKV f w ks ws).1 ∧ RWs c g (putKV f w ks ws).2 ((putF f v fs).map (·.2)))
  | ks, ws, [], e, r => by
    simp only [List.map_nil] at e r
    subst e
    have : ws = [] := by
      cases ws with
      | nil => rfl
      | cons a b => have := r.length; simp at this
    subst this
    exact ⟨rfl, .cons rw' .nil⟩
  | ks, ws, (k, u) :: fs, e, r => by
    simp only [List.map_cons] at e r
    subst e
    cases ws with
    | nil => have := r.length; simp at this
    | cons a b =>
      obtain ⟨v', t, h1, h2, h3⟩ := r.cons'
      simp only [List.cons.injEq] at h1
      obtain ⟨rfl, rfl⟩ := h1
      unfold putF putKV
      by_cases hk : k = f
      · rw [if_pos hk, if_pos hk]
        exact ⟨rfl, .cons rw' h3⟩
      · rw [if_neg hk, if_neg hk]
        obtain ⟨i1, i2⟩ := put_kv (f := f) (w := w) rw' (ks := fs.map (·.1)) (ws := b) rfl h3
        exact ⟨by simp only [List.map_cons]; rw [i1], .cons h2 i2⟩
theorem keys_len {g : Gh} {ks : List Str} {fs : List (Str × V)} (e : fs.map (·.1) = ks) : fs.length = ks.length := by rw [← e, List.length_map]
theorem s_setF {i : Nat} {x f : Str} {value : Expr} {p2 : Pos} (hK : X.K = c.K) (k : KOk c flds) (hf : f ∈ flds) (hN : X.N[i]? = some x) (hv : Vis X.env.scope x) (hd : (x == ("__debug__" : Str)) = false) (hcd : (x == ("__classdict__" : Str)) = false)
    (ha : PE X value (tE c ma)) (hs : swapsWith value (some (.Attribute (.Name x p) f p2)) pos.line X.env = pure false) : PS X (.Assign [.Attribute (.Name x p) f p2] value pos) (tS c (sSetF i f ma)) := by
  refine PSimp (ps_fld (pe_var (i := i) hN hv hd hcd) ha hs) fun D σ H h => ?_
  obtain ⟨g0, S0, sm, g, S, rfl, rl, fl, S', e, q⟩ := h
  obtain ⟨w, S1, e1, e⟩ := SB.R.of_bind e
  refine ⟨g0, S0, sm, g, S, rfl, rl, w, S1, e1, fun g1 v h1 x1 r1 => ?_⟩
  have rl1 := rl.step h1 x1
  split at e
  · rename_i C ks vs hsl
    split at e
    · rename_i hlen
      cases e
      obtain ⟨pa, ep, ro, f0, nl, np⟩ := rl1.own i _ hsl
      obtain ⟨cA, dx, fs, hp, hc, hk, rr⟩ := ro
      refine ⟨_, ep, pa, cA, dx, fs, rfl, hp, by rw [hK]; exact k.cl C cA hc, by rw [hK]; exact k.na C cA f hc hf, by rw [keys_len (g := g1) hk]; exact hlen, ?_⟩
      have nf : noFrz (.ins cA dx fs) := fun _ _ z => by cases z
      have le := Gh.chg_le (o := .ins cA dx (putF f v fs)) f0 hp nf
      obtain ⟨k1, k2⟩ := put_kv (f := f) r1 hk rr
      have ro2 : RO c (g1.chg pa (.ins cA dx (putF f v fs))) (.ins C (putKV f w ks vs).1 (putKV f w ks vs).2) (some (.ins cA dx (putF f v fs))) := ⟨cA, dx, _, rfl, hc, k1, RWs.le le _ _ k2⟩
      exact q (g1.chg pa (.ins cA dx (putF f v fs))) σ (rl1.chg hsl ep f0 nl np hp nf ro2) ((x1.le rl.h).trans le)
    · cases e
  · rename_i a hsl
    obtain ⟨u, eu, ru⟩ := rl1.val i _ hsl
    obtain ⟨_, rfl⟩ := rw_ref.mp ru
    split at e
    · rename_i C ks vs hx
      split at e
      · rename_i hlen
        cases e
        obtain ⟨cA, dx, fs, hp, hc, hk, rr⟩ := (h1.ob a _ hx).1
        have f0 := (h1.ob a _ hx).2
        refine ⟨_, eu, _, cA, dx, fs, rfl, hp, by rw [hK]; exact k.cl C cA hc, by rw [hK]; exact k.na C cA f hc hf, by rw [keys_len (g := g1) hk]; exact hlen, ?_⟩
        have nf : noFrz (.ins cA dx fs) := fun _ _ z => by cases z
        have le := Gh.chg_le (o := .ins cA dx (putF f v fs)) f0 hp nf
        obtain ⟨k1, k2⟩ := put_kv (f := f) r1 hk rr
        obtain ⟨h', x'⟩ := h1.hchg (w := .ins cA dx (putF f v fs)) hx (show RO c _ (.ins C (putKV f w ks vs).1 (putKV f w ks vs).2) _ from ⟨cA, dx, _, rfl, hc, k1, RWs.le le _ _ k2⟩)
        exact q _ σ (rl1.step h' x') ((x1.le rl.h).trans (x'.le h1))
      · cases e
    · cases e
  · cases e
end
end SB
/-! SB, part 13: a def by its body. -/
namespace SB
open PySem PySem.Spec PyProof.Rows L2
section
variable {c : Cn}
theorem startM_own {n : Nat} {ws : List W} {i : Nat} {o : MO} : (startM n ws)[i]? ≠ some (some (.own o)) := fun z => by
  unfold startM at z
  by_cases hi : i < ws.length
  · rw [List.getElem?_append_left (by simpa using hi), List.getElem?_map] at z
    cases hw : ws[i]? with
    | none => rw [hw] at z; cases z
    | some w' => rw [hw] at z; cases z
  · rw [List.getElem?_append_right (by simpa using hi), List.getElem?_replicate] at z
    split at z <;> cases z
theorem start_rel {g : Gh} {S : Hm} {N : List Str} {ws : List W} {vs : List V} (h : HRel c g S) (r : RWs c g ws vs) : SRel c g S (startM N.length ws) (L2.start N vs) g S := by
  have len := r.length
  refine ⟨h, Ext.refl g S, ?_, fun i w e => ?_, fun i o e => ?_, fun i j o u _ e _ => ?_, fun i o e _ => ?_⟩
  · unfold startM L2.start
    simp [len]
  · unfold startM at e
    unfold L2.start
    by_cases hi : i < ws.length
    · rw [List.getElem?_append_left (by simpa using hi), List.getElem?_map] at e
      cases hw : ws[i]? with
      | none => rw [hw] at e; cases e
      | some w' =>
        rw [hw] at e
        cases e
        obtain ⟨v, hv, rv⟩ := r.get hw
        exact ⟨v, by rw [List.getElem?_append_left (by simpa [← len] using hi), List.getElem?_map, hv]; rfl, rv⟩
    · rw [List.getElem?_append_right (by simpa using hi), List.getElem?_replicate] at e
      split at e <;> cases e
  · exact absurd e startM_own
  · exact absurd e startM_own
  · exact absurd e startM_own
theorem body_end {g : Gh} {S : Hm} {N : List Str} {ws : List W} {vs : List V} {m : St'} {w : W} {S' : Hm} {Q : VK} (h : HRel c g S) (r : RWs c g ws vs) (e : runDef N.length m ws S = .ok w S') (q : ∀ g' v, HRel c g' S' → Ext g S g' S' → RW c g' w v → Q v g'.H) :
    tS c m { nx := fun _ H' => Q .non H', rt := Q } (L2.start N vs) g.H := by
  obtain ⟨fl, S1, e1, e⟩ := SB.R.of_bind e
  refine ⟨g, S, _, g, S, rfl, start_rel h r, fl, S1, e1, ?_⟩
  cases fl with
  | nx sm =>
    cases e
    exact fun g' σ' rl _ => q g' .non rl.h rl.x (rw_non.mpr rfl)
  | rt w' =>
    cases e
    exact fun g' v h' x' _ r' => q g' v h' x' r'
  | bk sm => cases e
  | ct sm => cases e
variable {P : Program} {w : World} {K : PySem.W.Frag} {mg : Str → Option Value} {base : Heap} {x qual : Str} {params : Arguments} {body : List Stmt} {scope : Scope} {dvs : List V} {kws : List (Str × V)} {f : Addr} {fd : FuncData} {N ps : List Str} {k : Nat}
/-- a context of a def's body -/
structure BodyCx (P : Program) (w : World) (K : PySem.W.Frag) (mg : Str → Option Value) (base : Heap) (N : List Str) (scope : Scope) (k : Nat) (X : Cx) : Prop where
  prog : X.prog = P
  w : X.w = w
  K : X.K = K
  mg : X.mg = mg
  base : X.base = base
  N : X.N = N
  sc : X.env.scope = scope
  calm : X.calm = true
  room : Room k X.A
  fn : ∀ y, X.fn y = true
  ow : PassesOwn (model X.prog X.w) X.A X.env X.xe
theorem def_ok {m : St'} (F : FunD K x qual params body scope dvs kws f fd) (Sc : FnScope N ps scope) (hb : ∀ X, BodyCx P w K mg base N scope k X → PSs X body (tS c m)) :
    FnOk P w K mg base CX0 (k + 1) f fd ps (spM c ps.length (runDef N.length m)) := by
  refine F.ok Sc (fun vs H Q E ⟨g, S, ws, _, _, r, hl, _⟩ => by rw [← r.length]; exact hl) fun cdv A outer s H vs Q E hr hsp => ?_
  obtain ⟨g, S, ws, rfl, h, r, hl, wv, S', e, q⟩ := hsp
  refine ⟨tS c m, PSs.nox (hb _ ⟨rfl, rfl, rfl, rfl, rfl, rfl, rfl, rfl, hr, fun _ => rfl, PassesOwn.never⟩), body_end h r e q⟩
theorem init_end {g : Gh} {S : Hm} {N : List Str} {ws : List W} {vs : List V} {m : St'} {C : Str} {y dx cA : Addr} {r : List Str × List W} {S' : Hm} {Q : VK} (hC : c.cls C = some cA) (h : HRel c g S) (rr : RWs c g ws vs) (nx : g.H y = none) (ndx : g.H dx = none) (ne : dx ≠ y)
    (e : runInit N.length C m ws S = .ok r S') (q : ∀ g', HRel c g' S' → Ext g S g' S' → RW c g' (.obj C r.1 r.2) (.ref y) → Q .non g'.H) :
    tS c m { nx := fun _ H' => Q .non H', rt := Q } (L2.start N (.ref y :: vs)) (upd (upd g.H dx (.own y)) y (.ins cA dx [])) := by
  obtain ⟨fl, S1, e1, e⟩ := SB.R.of_bind e
  have hA := h.lay ndx (.own y)
  have xA := Ext.lay h ndx (.own y)
  have nx2 : (g.lay dx (.own y)).H y = none := by
    show upd g.H dx (.own y) y = none
    rw [upd_ne (Ne.symm ne)]; exact nx
  have hB := hA.lay nx2 (.ins cA dx [])
  have xB := Ext.lay hA nx2 (.ins cA dx [])
  have xAB := xA.trans xB
  have nl : ¬ live g S y := no_live h nx
  have nf : ¬ g.Fz y := no_fz h nx
  have ro : RO c ((g.lay dx (.own y)).lay y (.ins cA dx [])) (.ins C [] []) (((g.lay dx (.own y)).lay y (.ins cA dx [])).H y) := ⟨cA, dx, [], upd_same, hC, rfl, .nil⟩
  have xg : Ext { g with pin := y } S ((g.lay dx (.own y)).lay y (.ins cA dx [])) S := ⟨xAB.fz, xAB.old, xAB.keep, xAB.tr, xAB.lv, xAB.rho, xAB.n, xAB.lk⟩
  have rel : SRel c { g with pin := y } S (some (.own (.ins C [] [])) :: startM (N.length - 1) ws) (L2.start N (.ref y :: vs)) ((g.lay dx (.own y)).lay y (.ins cA dx [])) S := by
    have base := start_rel (N := N.tail) hB (RWs.mono h xAB _ _ rr)
    have tl : N.tail.length = N.length - 1 := List.length_tail
    rw [tl] at base
    have hst : L2.start N (.ref y :: vs) = some (.ref y) :: L2.start N.tail vs := by
      unfold L2.start
      rw [tl, List.map_cons, List.length_cons, List.cons_append]
      congr 3
      omega
    rw [hst]
    have only : ∀ (i : Nat) (o : MO), (some (Sv.own (.ins C [] [])) :: startM (N.length - 1) ws)[i]? = some (some (.own o)) → i = 0 ∧ o = .ins C [] [] := fun i o z => by
      cases i with
      | zero => cases z; exact ⟨rfl, rfl⟩
      | succ i =>
        rw [List.getElem?_cons_succ] at z
        exact absurd z startM_own
    refine ⟨hB, xg, by rw [List.length_cons, List.length_cons, base.len], fun i w ei => ?_, fun i o ei => ?_, fun i j o u hij ei ej => ?_, fun i o ei _ => ?_⟩
    · cases i with
      | zero => cases ei
      | succ i =>
        rw [List.getElem?_cons_succ] at ei ⊢
        exact base.val i w ei
    · obtain ⟨rfl, rfl⟩ := only i o ei
      exact ⟨y, rfl, ro, nf, nl, nx⟩
    · exact absurd ((only i o ei).1.trans (only j u ej).1.symm) hij
    · obtain ⟨rfl, rfl⟩ := only i o ei
      rfl
  refine ⟨_, S, _, _, S, rfl, rel, fl, S1, e1, ?_⟩
  cases fl with
  | nx sm =>
    refine fun g' σ' rl _ => ?_
    have e : (match slotAt sm 0 with
      | some (.own (.ins D ks vs)) => if D = C then R.ok (ks, vs) S1 else .stuck
      | _ => .stuck) = .ok r S' := e
    have xe : ∀ g' S', Ext { g with pin := y } S g' S' → Ext g S g' S' := fun g' S' x => ⟨x.fz, x.old, x.keep, x.tr, x.lv, x.rho, x.n, x.lk⟩
    split at e
    · rename_i D ks ws' hsl
      split at e
      · rename_i hD
        cases e
        subst hD
        have hsl' : sm[0]? = some (some (.own (.ins D ks ws'))) := by
          unfold slotAt at hsl
          split at hsl
          · rename_i z; cases hsl; exact z
          · cases hsl
        obtain ⟨p, ep, ro, f0, nl', np⟩ := rl.own 0 _ hsl'
        have epn := rl.pn 0 _ hsl' rfl
        rw [ep] at epn
        cases epn
        obtain ⟨cB, dy, fs, hp, hc, hk, rr'⟩ := ro
        have hpn : g'.H y ≠ none := by
          have hp' : g'.H y = some _ := hp
          rw [hp']; intro z; cases z
        refine q (g'.frz y) (rl.h.frz hpn nl') ((xe _ _ rl.x).frz (c := c) nx) ?_
        exact rw_obj.mpr ⟨y, cB, dy, fs, rfl, .inl rfl, hc, hp, hk, RWs.le (g'.frz_le y) _ _ rr'⟩
      · cases e
    · cases e
  | rt w' => cases e
  | bk sm => cases e
  | ct sm => cases e
theorem init_ok {m : St'} {C : Str} (F : FunD K x qual params body scope dvs kws f fd) (Sc : FnScope N ps scope) (hb : ∀ X, BodyCx P w K mg base N scope k X → PSs X body (tS c m)) :
    FnOk P w K mg base CX0 (k + 1) f fd ps (spI c ps.length C (runInit N.length C m)) := by
  refine F.ok Sc (fun vs H Q E ⟨x, rest, dx, cA, g, S, ws, e, _, _, _, _, _, _, r, hl, _⟩ => by rw [e, List.length_cons, ← r.length]; exact hl) fun cdv A outer s H vs Q E hr hsp => ?_
  obtain ⟨y, rest, dx, cA, g, S, ws, rfl, hC, nx, ndx, ne, rfl, h, r, hl, rr, S', e, q⟩ := hsp
  exact ⟨tS c m, PSs.nox (hb _ ⟨rfl, rfl, rfl, rfl, rfl, rfl, rfl, rfl, hr, fun _ => rfl, PassesOwn.never⟩), init_end hC h r nx ndx ne e q⟩
end
end SB
/-! SB, part 13b: in, index, op= at names. -/
namespace SB
open PySem PySem.Spec PyProof.Rows L2
/-- plain values that ask no heap -/
def lit : W → Option V
  | .non => some .non
  | .bl b => some (.bl b)
  | .int i => some (.int i)
  | .str x => some (.str x)
  | .byt b => some (.byt b)
  | _ => none
def lits : List W → Option (List V)
  | [] => some []
  | w :: ws => match lit w with
    | some v => (match lits ws with
      | some vs => some (v :: vs)
      | none => none)
    | none => none
/-- x in y: flat values in a list or tuple; data in a list; a sign in a text -/
def inD (S : Hm) (x y : W) : Option Bool := match toD (deref S x) with
  | some d => (match toD (deref S y) with
    | some (.list ds) => if (SeqAt.shaped d && SeqAt.shaped (.list ds)) = true then some (ds.any fun z => PyData.eqv z d) else none
    | _ => none)
  | none => none
def inW (S : Hm) (x y : W) : Option Bool := match y with
  | .str z => (match x with
    | .str c => (match c.cps.toList with
      | [k] => some (decide (k ∈ z.cps.toList))
      | _ => none)
    | _ => none)
  | _ => match lit x, (seqOf S y).bind lits with
    | some v, some vs => if (flatV v && vs.all flatV) = true then some (inV v vs) else inD S x y
    | _, _ => inD S x y
def fIn (x y : W) (S : Hm) : R W := match inW S x y with
  | some b => .ok (.bl b) S
  | none => .stuck
def fNotIn (x y : W) (S : Hm) : R W := match inW S x y with
  | some b => .ok (.bl (!b)) S
  | none => .stuck
section
variable {c : Cn} {X : Cx}
theorem lit_rw {W0 : W} {v u : V} {g : Gh} (h : lit W0 = some v) (r : RW c g W0 u) : u = v := by
  cases W0 <;> cases h
  · exact rw_non.mp r
  · exact rw_bl.mp r
  · exact rw_int.mp r
  · exact rw_str.mp r
  · exact rw_byt.mp r
theorem lits_rw {g : Gh} : ∀ {ws : List W} {vs us : List V}, lits ws = some vs → RWs c g ws us → us = vs
  | [], vs, us, h, r => by
    cases h
    unfold RWs at r
    exact r
  | w :: ws, vs, us, h, r => by
    obtain ⟨u, t, rfl, r1, r2⟩ := r.cons'
    unfold lits at h
    split at h
    · rename_i v hv
      split at h
      · rename_i vs' hvs
        cases h
        rw [lit_rw hv r1, lits_rw hvs r2]
      · cases h
    · cases h
def rInSg : R2 := fun x y H Q => ∃ (k : Nat) (z : Str), x = .str ⟨#[k]⟩ ∧ y = .str z ∧ Q (.bl (decide (k ∈ z.cps.toList))) H
def rNotInSg : R2 := fun x y H Q => ∃ (k : Nat) (z : Str), x = .str ⟨#[k]⟩ ∧ y = .str z ∧ Q (.bl (!decide (k ∈ z.cps.toList))) H
def rInS2 (K : PySem.W.Frag) : R2 := fun x y H Q => rIn K false x y H Q ∨ (rInD K x y H Q ∨ rInSg x y H Q)
def rNotInS2 (K : PySem.W.Frag) : R2 := fun x y H Q => rIn K true x y H Q ∨ (rNotInD K x y H Q ∨ rNotInSg x y H Q)
theorem op_in2 (hu : X.A.units + 65 < cLine) : OpR X (compareOp .In) (rInS2 X.K) := op_in_seq.or ((op_inD hu).or op_in_sign)
theorem op_notIn2 (hu : X.A.units + 65 < cLine) : OpR X (compareOp .NotIn) (rNotInS2 X.K) := op_notIn_seq.or ((op_notInD hu).or op_notIn_sign)
def InC (c : Cn) (g : Gh) (v u : V) (b : Bool) : Prop :=
  (∃ p xs, u = .ref p ∧ (SqL c.K g.H p xs ∨ SqT c.K g.H p xs) ∧ flatV v = true ∧ xs.all flatV = true ∧ inV v xs = b) ∨ (∃ d ds, Dp c.K g.H v d ∧ Dp c.K g.H u (.list ds) ∧ SeqAt.shaped d = true ∧ SeqAt.shaped (.list ds) = true ∧ (ds.any fun z => PyData.eqv z d) = b) ∨
    ∃ (k : Nat) (z : Str), v = .str ⟨#[k]⟩ ∧ u = .str z ∧ decide (k ∈ z.cps.toList) = b
theorem in_cases {g : Gh} {S : Hm} {x y : W} {v u : V} {b : Bool} (h : HRel c g S) (rx : RW c g x v) (ry : RW c g y u) (e : inW S x y = some b) : InC c g v u b := by
  have deep : inD S x y = some b → ∃ d ds, Dp c.K g.H v d ∧ Dp c.K g.H u (.list ds) ∧ SeqAt.shaped d = true ∧ SeqAt.shaped (.list ds) = true ∧ (ds.any fun z => PyData.eqv z d) = b := fun e => by
    unfold inD at e
    split at e
    · rename_i d hd
      split at e
      · rename_i ds hds
        split at e
        · rename_i hs
          cases e
          rw [Bool.and_eq_true] at hs
          exact ⟨d, ds, deref_dp h rx hd, deref_dp h ry hds, hs.1, hs.2, rfl⟩
        · cases e
      · cases e
    · cases e
  have seqs : (match lit x, (seqOf S y).bind lits with
    | some v, some vs => if (flatV v && vs.all flatV) = true then some (inV v vs) else inD S x y
    | _, _ => inD S x y) = some b → InC c g v u b := fun e => by
    split at e
    · rename_i v' vs hv hvs
      split at e
      · rename_i hf
        cases e
        rw [Bool.and_eq_true] at hf
        obtain ⟨ws, h1, h2⟩ := Option.bind_eq_some_iff.mp hvs
        obtain ⟨p, us, rfl, hp, z, ru⟩ := seq_at h ry h1
        have e1 := lit_rw hv rx
        have e2 := lits_rw h2 ru
        subst e1 e2
        exact .inl ⟨p, us, rfl, hp, hf.1, hf.2, rfl⟩
      · exact .inr (.inl (deep e))
    · exact .inr (.inl (deep e))
  unfold inW at e
  split at e
  · split at e
    · rename_i cx
      split at e
      · rename_i k hk
        cases e
        have : cx = ⟨#[k]⟩ := by
          obtain ⟨a⟩ := cx
          have : a.toList = [k] := hk
          congr 1
          exact Array.toList_inj.mp this
        subst this
        exact .inr (.inr ⟨k, _, rw_str.mp rx, rw_str.mp ry, rfl⟩)
      · cases e
    · cases e
  · exact seqs e
theorem s_in : OpS c fIn (rInS2 c.K) := fun g S x y v u w S' Q h rx ry e q => by
  unfold fIn at e
  split at e
  · rename_i b hb
    cases e
    have fin := q g (.bl b) h (Ext.refl g S) (rw_bl.mpr rfl)
    rcases in_cases h rx ry hb with ⟨p, xs, h1, h2, h3, h4, h5⟩ | ⟨d, ds, h1, h2, h3, h4, h5⟩ | ⟨k, z, h1, h2, h3⟩
    · exact .inl ⟨p, xs, h1, h2, h3, h4, by rw [if_neg Bool.false_ne_true, h5]; exact fin⟩
    · exact .inr (.inl ⟨d, ds, h1, h2, h3, h4, by rw [h5]; exact fin⟩)
    · exact .inr (.inr ⟨k, z, h1, h2, by rw [h3]; exact fin⟩)
  · cases e
theorem s_notIn : OpS c fNotIn (rNotInS2 c.K) := fun g S x y v u w S' Q h rx ry e q => by
  unfold fNotIn at e
  split at e
  · rename_i b hb
    cases e
    have fin := q g (.bl (!b)) h (Ext.refl g S) (rw_bl.mpr rfl)
    rcases in_cases h rx ry hb with ⟨p, xs, h1, h2, h3, h4, h5⟩ | ⟨d, ds, h1, h2, h3, h4, h5⟩ | ⟨k, z, h1, h2, h3⟩
    · exact .inl ⟨p, xs, h1, h2, h3, h4, by rw [if_pos rfl, h5]; exact fin⟩
    · exact .inr (.inl ⟨d, ds, h1, h2, h3, h4, by rw [h5]; exact fin⟩)
    · exact .inr (.inr ⟨k, z, h1, h2, by rw [h3]; exact fin⟩)
  · cases e
end
end SB
/-! SB, part 13c: sorted of data. -/
namespace SB
open PySem PySem.Spec PyProof.Rows L2
def datW (w : W) : PyData := (toD w).getD .none
structure SrtOk (ws : List W) : Prop where
  dat : ∀ w ∈ ws, toD w = some (datW w)
  al : PySem.W.AllAlike (ws.map datW)
  so : PySem.W.Sortable (ws.map datW)
  dep : ∀ w ∈ ws, (datW w).depth ≤ 60
def leW (a b : W) : Bool := PySem.W.dataLe false datW a b
open Classical in
noncomputable def fSorted (ws : List W) (S : Hm) : R (List W) := match ws with
  | [x] => (match lstOf S x with
    | some xs => if SrtOk xs then .ok (xs.mergeSort leW) S else .stuck
    | none => .stuck)
  | _ => .stuck
def srtV (xs : List V) (ds : List PyData) : List V := ((xs.zip ds).mergeSort (PySem.W.dataLe false Prod.snd)).map Prod.fst
def rSrt (K : PySem.W.Frag) : List V → Hp → VK → Prop := fun vs H Q => ∃ (a : Addr) (xs : List V) (ds : List PyData), vs = [V.ref a] ∧ SqL K H a xs ∧ DpAll K H xs ds ∧ PySem.W.AllAlike ds ∧ PySem.W.Sortable ds ∧ (∀ d ∈ ds, d.depth ≤ 60) ∧
  ∀ p, H p = none → Q (.ref p) (upd H p (.lst (srtV xs ds)))
section
variable {c : Cn} {X : Cx}
theorem dpAll_len {K : PySem.W.Frag} {H : Hp} : ∀ {xs : List V} {ds : List PyData}, DpAll K H xs ds → xs.length = ds.length
  | _, _, .nil => rfl
  | _, _, .cons _ h => by rw [List.length_cons, List.length_cons, dpAll_len h]
theorem each_of {pins : List (Addr × Obj)} {σ : L2.St} {H : Hp} {s : Shared} (I : Inv X pins σ H s) : ∀ {xs : List V} {us : List Value} {ds : List PyData}, Vals xs us → DpAll X.K H xs ds →
    PySem.W.EachIs (fun v (b : V × PyData) => RelV b.1 v) us (xs.zip ds) ∧ PySem.W.EachIs (fun v (b : V × PyData) => ∃ as, Reads s.heap v b.2 as) us (xs.zip ds)
  | _, _, _, .nil, .nil => ⟨.nil, .nil⟩
  | _, _, _, .cons r t, .cons d h => by
    obtain ⟨h1, h2⟩ := each_of I t h
    exact ⟨.cons r h1, .cons (Dp.reads I _ _ _ d r) h2⟩
theorem vals_each : ∀ {us : List Value} {bs : List (V × PyData)}, PySem.W.EachIs (fun v (b : V × PyData) => RelV b.1 v) us bs → Vals (bs.map Prod.fst) us
  | _, _, .nil => .nil
  | _, _, .cons r t => .cons r (vals_each t)
theorem cr_srt (hu : X.A.units + 64 < cLine) : CallR X (.builtin "sorted") (rSrt X.K) := by
  intro pins s σ H vs us Q I r h
  obtain ⟨a, xs, ds, rfl, hs, hd, hal, hso, hdep, q⟩ := h
  obtain ⟨its, rv, hl, hz⟩ := I.list hs
  obtain ⟨u, rfl, ru⟩ := vals1 r
  obtain rfl : u = Value.ref a := ru
  obtain ⟨h1, h2⟩ := each_of I rv hd
  have hlen := dpAll_len hd
  have e2 : (xs.zip ds).map Prod.snd = ds := List.map_snd_zip (by omega)
  refine PySem.W.sorted_data (enc := Prod.snd) hl.isList h1 h2 (by rw [e2]; exact hal) (by rw [e2]; exact hso) (by rw [List.length_zip]; omega) (fun b hb => ?_) fun out hout he => ?_
  · have : b.2 ∈ ds := by rw [← e2]; exact List.mem_map.mpr ⟨b, hb, rfl⟩
    have := hdep _ this
    omega
  · refine ⟨.ref (s.heap.objs.size + 1), upd H (s.heap.objs.size + 1) (.lst (srtV xs ds)), I.laid (t' := s.toks) (fun b o e => sortedAll_old e) (Nat.le_succ _) ⟨?_, out, _, vals_each he, (sortedAll_at s.heap its out.toArray).choose_spec⟩, rfl, q _ (I.hok.fresh (Nat.le_succ _))⟩
    unfold srtV
    rw [List.length_map, List.length_mergeSort, List.length_zip]
    omega
theorem toDs_map : ∀ {ws : List W}, (∀ w ∈ ws, toD w = some (datW w)) → toDs ws = some (ws.map datW)
  | [], _ => rfl
  | w :: ws, h => by
    simp only [toDs, List.map_cons]
    rw [h w List.mem_cons_self, toDs_map fun x hx => h x (List.mem_cons_of_mem _ hx)]
theorem rws_pairs {g : Gh} : ∀ {m : List (W × V)}, (∀ p ∈ m, RW c g p.1 p.2) → RWs c g (m.map Prod.fst) (m.map Prod.snd)
  | [], _ => .nil
  | p :: m, h => .cons (h p List.mem_cons_self) (rws_pairs fun q hq => h q (List.mem_cons_of_mem _ hq))
theorem pairs_rws {g : Gh} : ∀ {ws : List W} {xs : List V}, RWs c g ws xs → ∀ p ∈ ws.zip xs, RW c g p.1 p.2
  | [], xs, r, p, hp => by simp at hp
  | w :: ws, xs, r, p, hp => by
    obtain ⟨v, t, rfl, r1, r2⟩ := r.cons'
    rw [List.zip_cons_cons] at hp
    rcases List.mem_cons.mp hp with rfl | hp
    · exact r1
    · exact pairs_rws r2 p hp
theorem srt_rws {g : Gh} {ws : List W} {xs : List V} (r : RWs c g ws xs) : RWs c g (ws.mergeSort leW) (srtV xs (ws.map datW)) := by
  have hl := r.length
  have e1 := PySem.W.sort_maps (r := fun (a b : W × V) => PySem.W.dataLe false datW a.1 b.1) (s := leW) Prod.fst (l := ws.zip xs) (fun a _ b _ => rfl)
  rw [List.map_fst_zip (by omega)] at e1
  have e2 := PySem.W.sort_maps (r := fun (a b : W × V) => PySem.W.dataLe false datW a.1 b.1) (s := PySem.W.dataLe false (Prod.snd : V × PyData → PyData)) (fun p : W × V => (p.2, datW p.1)) (l := ws.zip xs) (fun a _ b _ => rfl)
  have e3 : (ws.zip xs).map (fun p : W × V => (p.2, datW p.1)) = xs.zip (ws.map datW) := by
    clear e1 e2
    induction ws generalizing xs with
    | nil => simp
    | cons w ws ih =>
      obtain ⟨v, t, rfl, r1, r2⟩ := r.cons'
      simp only [List.zip_cons_cons, List.map_cons]
      rw [ih r2 r2.length]
  rw [e3] at e2
  unfold srtV
  rw [← e1, ← e2, List.map_map]
  refine rws_pairs fun p hp => pairs_rws r p ?_
  exact (List.mergeSort_perm _ _).mem_iff.mp hp
theorem e_sorted {x : Str} {e : Expr} {ma : E} {p pos : Pos} (hx : x = "sorted") (hg : Gl X x) (hm : X.mg x = none) (hK : X.K = c.K) (hu : X.A.units + 64 < cLine) (ha : PE X e (tE c ma)) (h1 : ∀ u q, e ≠ .Starred u q) :
    PE X (.Call (.Name x p) [e] [] pos) (tLs c (lCall fSorted (aCons ma aNil))) := by
  subst hx
  refine PEimp (pe_callB (cr_srt hu) hg hm PyProof.Rows.boot_sorted (a_cons ha a_nil (star_ne h1)) (by decide) (by decide) (star_ne h1) rfl) fun σ H Q h => ?_
  obtain ⟨g0, S0, sm, g, S, rfl, rl, ws, S', e, q⟩ := h
  obtain ⟨xs, S1, e1, e⟩ := SB.R.of_bind e
  refine ⟨g0, S0, sm, g, S, rfl, rl, xs, S1, e1, fun g1 vs h1 x1 r1 => ?_⟩
  unfold fSorted at e
  split at e
  · split at e
    · rename_i ys hy
      split at e
      · rename_i ok
        cases e
        obtain ⟨v, rfl, rv⟩ := r1.one
        obtain ⟨p, us, rfl, hp, z, ru⟩ := lst_at h1 rv hy
        rw [hK]
        refine ⟨p, us, ys.map datW, rfl, .inl (.inl hp), toDs_dp _ _ _ ru (toDs_map ok.dat), ok.al, ok.so, fun d hd => ?_, fun l nl => ?_⟩
        · obtain ⟨w, hw, rfl⟩ := List.mem_map.mp hd
          exact ok.dep w hw
        · have rs := srt_rws ru
          refine q (g1.lay l (.lst (srtV us (ys.map datW)))) l _ (h1.lay nl _) (x1.trans (Ext.lay h1 nl _)) upd_same (by rw [List.length_mergeSort]; exact z) (RWs.mono h1 (Ext.lay h1 nl _) _ _ rs) (fun z => h1.fz l z nl) (fun ⟨a, o, ea, ra⟩ => h1.rho_some ea (by rw [show g1.rho a = l from ra]; exact nl)) ?_
          cases q0 : g.H l with
          | none => rfl
          | some u => exact absurd nl (x1.tr l (by rw [q0]; intro z; cases z))
      · cases e
    · cases e
  · cases e
end
end SB
/-! SB, part 13d: three stores swapped, tuples compared, cut; places in a constant. -/
namespace SB
open PySem PySem.Spec PyProof.Rows L2
def sPar3 (i j l : Nat) (a b d : E) : St' := fun σ S => (a σ S).bind fun x S1 => (b σ S1).bind fun y S2 => (d σ S2).bind fun z S3 => .ok (.nx (((σ.set i (some (.val x))).set j (some (.val y))).set l (some (.val z)))) S3
/-- < of ints, of tuples of ints -/
def fLtT (x y : W) (S : Hm) : R W := match x with
  | .tup xs => (match y with
    | .tup ys => (match intsW xs with
      | some ns => (match intsW ys with
        | some ms => .ok (.bl (HT.lexLt ns ms)) S
        | none => .stuck)
      | none => .stuck)
    | _ => .stuck)
  | _ => fLt x y S
def eSliceT (a : E) (lo hi : P') : E := fun σ S => (a σ S).bind fun x S1 => (lo σ S1).bind fun l S2 => (hi σ S2).bind fun h S3 => match x with
  | .tup xs => .ok (.tup (cutG xs l h)) S3
  | _ => .stuck
def strsW : List W → Option (List Str)
  | [] => some []
  | .str x :: r => (strsW r).map (x :: ·)
  | _ => none
/-- C.index(e), C a constant tuple of texts -/
def fCIdx (ws : List W) (w : W) (S : Hm) : R W := match w with
  | .str k => (match strsW ws with
    | some ys => if k ∈ ys then .ok (.int (ys.idxOf k : Nat)) S else .stuck
    | none => .stuck)
  | _ => .stuck
section
variable {c : Cn} {flds : List Str} {X : Cx} {pos p : Pos} {e : Expr} {ma mb md : E}
theorem s_par3 {i j l : Nat} {x y z : Str} {a b d : Expr} {px py pz pt pos : Pos} {kt k2 : Nat} {pt2 : Pos} (hc : X.calm = true) (hN : X.N.Nodup) (hi : X.N[i]? = some x) (hj : X.N[j]? = some y) (hl : X.N[l]? = some z) (hij : i ≠ j) (hil : i ≠ l) (hjl : j ≠ l)
    (hx : X.env.scope.names.lookup x = some .local) (hy : X.env.scope.names.lookup y = some .local) (hz : X.env.scope.names.lookup z = some .local) (ha : PE X a (tE c ma)) (hb : PE X b (tE c mb)) (hd : PE X d (tE c md)) (n1 : ∀ u p, a ≠ .Starred u p) (n2 : ∀ u p, b ≠ .Starred u p) (n3 : ∀ u p, d ≠ .Starred u p)
    (hw : swappedStores [.Tuple [.Name x px, .Name y py, .Name z pz] kt pt] (.Tuple [a, b, d] k2 pt2) X.env = pure (some [x, y, z])) :
    PS X (.Assign [.Tuple [.Name x px, .Name y py, .Name z pz] kt pt] (.Tuple [a, b, d] k2 pt2) pos) (tS c (sPar3 i j l ma mb md)) :=
  PSimp (ps_par3 hc hN hi hj hl hij hil hjl hx hy hz (pa_cons ha (pa_cons hb (pa_cons hd pa_nil (star_ne n3)) (star_ne n2)) (star_ne n1)) hw) fun D σ H h => by
    obtain ⟨g0, S0, sm, g, S, rfl, rl, fl, S', e, q⟩ := h
    obtain ⟨w1, S1, e1, e⟩ := SB.R.of_bind e
    obtain ⟨w2, S2, e2, e⟩ := SB.R.of_bind e
    obtain ⟨w3, S3, e3, e⟩ := SB.R.of_bind e
    cases e
    refine ⟨g0, S0, sm, g, S, rfl, rl, w1, S1, e1, fun g1 v1 h1 x1 r1 => ?_⟩
    have rl1 := rl.step h1 x1
    refine ⟨g0, S0, sm, g1, S1, rfl, rl1, w2, S2, e2, fun g2 v2 h2 x2 r2 => ?_⟩
    have rl2 := rl1.step h2 x2
    refine ⟨g0, S0, sm, g2, S2, rfl, rl2, w3, _, e3, fun g3 v3 h3 x3 r3 => ?_⟩
    have rl3 := rl2.step h3 x3
    have l3 := ((x1.le rl.h).trans (x2.le h1)).trans (x3.le h2)
    exact ⟨v1, v2, v3, rfl, q g3 _ (((rl3.setv (RW.mono h2 x3 _ _ (RW.mono h1 x2 _ _ r1))).setv (RW.mono h2 x3 _ _ r2)).setv r3) l3⟩
def rLtS (K : PySem.W.Frag) : R2 := fun x y H Q => rI0 (fun i j => .bl (decide (i < j))) x y H Q ∨ rLtT K x y H Q
theorem op_ltS (hu : X.A.units < cLine) : OpR X (compareOp .Lt) (rLtS X.K) := op_lt.or (op_ltT hu)
theorem intsW_rw {g : Gh} : ∀ {ws : List W} {vs : List V} {ns : List Int}, RWs c g ws vs → intsW ws = some ns → vs = ns.map V.int := fun r e => ints_of r e
theorem s_ltT : OpS c fLtT (rLtS c.K) := fun g S x y v u w S' Q h rx ry e q => by
  unfold fLtT at e
  split at e
  · split at e
    · split at e
      · rename_i ns hn
        split at e
        · rename_i ms hm
          cases e
          obtain ⟨p1, vs, rfl, hp, _, r1⟩ := rw_tup.mp rx
          obtain ⟨p2, us, rfl, hp2, _, r2⟩ := rw_tup.mp ry
          have e1 := ints_of r1 hn
          have e2 := ints_of r2 hm
          subst e1 e2
          exact .inr ⟨p1, p2, ns, ms, rfl, rfl, sqt_of hp, sqt_of hp2, q g _ h (Ext.refl g S) (rw_bl.mpr rfl)⟩
        · cases e
      · cases e
    · cases e
  · exact .inl (s_lt g S x y v u w S' Q h rx ry e q)
theorem e_sliceT {lo hi : Option Expr} {ml mh : P'} {p2 : Pos} (hK : X.K = c.K) (he : PE X e (tE c ma)) (hl : PO X lo (tP c ml)) (hh : PO X hi (tP c mh)) : PE X (.Subscript e (.Slice lo hi none p2) pos) (tE c (eSliceT ma ml mh)) :=
  PEimp (pe_slice sl_tupA he hl hh) fun σ H Q h => by
    obtain ⟨g0, S0, sm, g, S, rfl, rl, ws, S', e, q⟩ := h
    obtain ⟨x, S1, e1, e⟩ := SB.R.of_bind e
    obtain ⟨l, S2, e2, e⟩ := SB.R.of_bind e
    obtain ⟨u, S3, e3, e⟩ := SB.R.of_bind e
    refine ⟨g0, S0, sm, g, S, rfl, rl, x, S1, e1, fun g1 v h1 x1 r1 => ?_⟩
    have rl1 := rl.step h1 x1
    refine ⟨g0, S0, sm, g1, S1, rfl, rl1, l, S2, e2, fun g2 h2 x2 => ?_⟩
    refine ⟨g0, S0, sm, g2, S2, rfl, rl1.step h2 x2, u, S3, e3, fun g3 h3 x3 => ?_⟩
    have r3 := RW.mono h1 (x2.trans x3) _ _ r1
    split at e
    · cases e
      have r3' := r3
      obtain ⟨p, vs, rfl, hp, z, rr⟩ := rw_tup.mp r3
      have rc := rr.cut l u
      have hx := (x1.trans x2).trans x3
      rw [hK]
      refine ⟨p, vs, rfl, sqt_of hp, fun hw => ?_, fun hw d nd => ?_⟩
      · refine q g3 _ h3 hx ?_
        have : cutG ‹List W› l u = ‹List W› := by
          unfold cutG
          rw [rr.length, hw.1, hw.2, List.drop_zero, Nat.sub_zero, ← rr.length, List.take_of_length_le (Nat.le_refl _)]
        rw [this]
        exact r3'
      · obtain ⟨h', x', r'⟩ := new_tup (ws := cutG ‹List W› l u) h3 (by rw [rc.length]; exact Nat.le_trans (cutV_length vs l u) (by rw [← rr.length]; exact z)) rc nd
        exact q _ _ h' (hx.trans x') r'
    · cases e
/-! ### C.index(e) -/
def rCIdx (a : Addr) (ys : List Str) : V → List V → Hp → VK → Prop := fun x xs H Q => ∃ k, x = .ref a ∧ xs = [.str k] ∧ k ∈ ys ∧ Q (.int (ys.idxOf k : Nat)) H
theorem mt_cidx {a : Addr} {ys : List Str} (ht : KTup X.K a (ys.map V.str)) : MtM X "tuple.index" (rCIdx a ys) := by
  intro pins s σ H x xs v us Q I rx rs h
  obtain ⟨k, rfl, rfl, hk, q⟩ := h
  cases rx
  obtain ⟨u, rfl, t, rfl⟩ := rs.one
  obtain ⟨its, r, hT, hz⟩ := I.tuple (ktup_sq (H := H) ht)
  exact SeqAt.tuple_index_strs hT (Vals.strs r) hk ⟨.int (ys.idxOf k : Nat), H, I.tok _, ⟨_, rfl⟩, q⟩
theorem strs_rw {g : Gh} : ∀ {ws : List W} {vs : List V} {ys : List Str}, RWs c g ws vs → strsW ws = some ys → vs = ys.map V.str
  | [], vs, ys, r, e => by
    cases e
    unfold RWs at r
    exact r
  | w :: ws, vs, ys, r, e => by
    obtain ⟨v, t, rfl, r1, r2⟩ := r.cons'
    cases w with
    | str b =>
      simp only [strsW, Option.map_eq_some_iff] at e
      obtain ⟨bs', e', rfl⟩ := e
      rw [rw_str] at r1
      rw [r1, strs_rw r2 e']
      rfl
    | _ => cases e
theorem e_cidx {x m : Str} {a : Expr} {ws : List W} {u : Value} {v : V} {p2 : Pos} (hm2 : m = "index") (hg : Gl X x) (hm : X.mg x = some u) (hr : RelV v u) (hv : ∀ g, RW c g (.tup ws) v) (hK : X.K = c.K) (hdb : (x == ("__debug__" : Str)) = false) (ha : PE X a (tE c ma)) (n1 : ∀ u p, a ≠ .Starred u p)
    (hl : (p2.endLine == pos.line) = true) : PE X (.Call (.Attribute (.Name x p) m p2) [a] [] pos) (tE c (eUn (fCIdx ws) ma)) := by
  subst hm2
  obtain ⟨q, vs, rfl, hp, hz, r0⟩ := rw_tup.mp (hv ⟨fun _ => False, fun _ => 0, 0, fun _ => none, 0⟩)
  have kt : KTup c.K q vs := by
    rcases hp with ⟨f, _⟩ | hp
    · exact f.elim
    · exact hp
  by_cases hs : ∃ ys, strsW ws = some ys
  · obtain ⟨ys, hys⟩ := hs
    have ev := strs_rw r0 hys
    subst ev
    have mt := mt_cidx (X := X) (a := q) (ys := ys) (by rw [hK]; exact kt)
    refine PEimp (pe_bm PySem.F.plainAttrs_tuple PySem.F.slot_tuple_index PySem.F.type_tuple_index mt (pe_glob hg hm hr hdb) (pa_cons ha pa_nil (star_ne n1)) rfl (by rw [star_ne n1]; rfl) hl (star_ne n1) rfl) fun σ H Q h => ?_
    obtain ⟨g0, S0, sm, g, S, rfl, rl, w, S', e, qq⟩ := h
    obtain ⟨x, S1, e1, e⟩ := SB.R.of_bind e
    obtain ⟨o, its, n, k1, k2, k3, k4, k5⟩ := kt
    refine ⟨.inr (.inl ⟨rfl, o, by rw [hK]; exact k1, k2, k3.1⟩), g0, S0, sm, g, S, rfl, rl, x, S1, e1, fun g1 v1 h1 x1 r1 => ?_⟩
    unfold fCIdx at e
    split at e
    · rename_i k
      rw [hys] at e
      simp only at e
      split at e
      · rename_i hk
        cases e
        rw [rw_str.mp r1]
        exact ⟨k, rfl, rfl, hk, qq g1 _ h1 x1 (rw_int.mpr rfl)⟩
      · cases e
    · cases e
  · refine ⟨fun pins s σ H Q I h => ?_⟩
    exfalso
    obtain ⟨g0, S0, sm, g, S, rfl, rl, w, S', e, qq⟩ := h
    obtain ⟨x, S1, e1, e⟩ := SB.R.of_bind e
    unfold fCIdx at e
    split at e
    · split at e
      · rename_i ys hys
        exact hs ⟨ys, hys⟩
      · cases e
    · cases e
end
end SB
/-! SB, part 13e: places in a list. -/
namespace SB
open PySem PySem.Spec PyProof.Rows L2
/-- xs.index(e): flat values -/
def fIndexL (x : W) (ws : List W) (S : Hm) : R W := match ws with
  | [w] => (match lit w, (lstOf S x).bind lits with
    | some v, some vs => if (flatV v && vs.all flatV) = true then (match vs.findIdx? (fun y => eqV y v) with
      | some j => .ok (.int (j : Nat)) S
      | none => .stuck) else .stuck
    | _, _ => .stuck)
  | _ => .stuck
section
variable {c : Cn} {X : Cx} {pos : Pos} {o : Expr} {ma mo : E}
theorem bm_index : BmS c fIndexL (rIndex c.K) := fun g S x ws v vs w S' Q h rx rs e q => by
  unfold fIndexL at e
  split at e
  · split at e
    · rename_i u us hu hus
      split at e
      · rename_i hf
        split at e
        · rename_i j hj
          cases e
          rw [Bool.and_eq_true] at hf
          obtain ⟨ys, h1, h2⟩ := Option.bind_eq_some_iff.mp hus
          obtain ⟨p, xs, rfl, hp, z, rr⟩ := lst_at h rx h1
          obtain ⟨v1, rfl, rv⟩ := rs.one
          have e1 := lit_rw hu rv
          have e2 := lits_rw h2 rr
          subst e1 e2
          obtain ⟨hlt, hjj, hno⟩ := List.findIdx?_eq_some_iff_getElem.mp hj
          refine ⟨p, _, _, j, _, rfl, rfl, .inl (.inl hp), hf.1, hf.2, List.getElem?_eq_getElem hlt, hjj, fun m z' hm hz' => ?_, q g _ h (Ext.refl g S) (rw_int.mpr rfl)⟩
          have hml : m < _ := Nat.lt_trans hm hlt
          rw [List.getElem?_eq_getElem hml] at hz'
          cases hz'
          have := hno m hm
          simpa using this
        · cases e
      · cases e
    · cases e
  · cases e
theorem e_hindex {x : Str} {a : Expr} {p2 : Pos} (hx : x = "index") (ho : PE X o (tE c mo)) (ha : PE X a (tE c ma)) (n1 : ∀ u p, a ≠ .Starred u p) (hK : X.K = c.K)
    (hb : attributeBase o x X.env (eval o X.env) = eval o X.env) (hl : (p2.endLine == pos.line) = true) : PE X (.Call (.Attribute o x p2) [a] [] pos) (tE c (eBm fIndexL mo (aCons ma aNil))) := by
  subst hx
  exact PEimp (pe_bm PySem.F.plainAttrs_list PySem.F.slot_list_index PySem.F.type_list_index mt_index ho (a_cons ha a_nil (star_ne n1)) hb (by rw [star_ne n1]; rfl) hl (star_ne n1) rfl) fun σ H Q h => by
    have := tE_bm hK bm_index h
    rw [← hK] at this
    exact this
end
end SB
/-! SB, part 13f: dicts of the own heap (keys ints and texts). -/
namespace SB
open PySem PySem.Spec PyProof.Rows L2
def isKey : W → Bool
  | .int _ => true
  | .str _ => true
  | _ => false
def keyB (a b : W) : Bool := match a, b with
  | .int i, .int j => decide (i = j)
  | .str x, .str y => decide (x = y)
  | _, _ => false
def getW : List (W × W) → W → Option W
  | [], _ => none
  | p :: r, k => if keyB p.1 k = true then some p.2 else getW r k
def hasW (kvs : List (W × W)) (k : W) : Bool := kvs.any fun p => keyB p.1 k
def putW (kvs : List (W × W)) (k v : W) : List (W × W) := if hasW kvs k = true then kvs.map (fun p => if keyB p.1 k = true then (p.1, v) else p) else kvs ++ [(k, v)]
/-- what a dict holds (also while it is walked) -/
def dicOf (S : Hm) : W → Option (List (W × W))
  | .ref a => (match heapAt S a with
    | some (.dic kvs) => some kvs
    | some (.lkd kvs) => some kvs
    | _ => none)
  | _ => none
def eDict0 : E := fun _ S => .ok (.ref S.length) (S ++ [some (.dic [])])
def fDGet (x y : W) (S : Hm) : R W := match dicOf S x with
  | some kvs => if isKey y = true then opt (getW kvs y) S else .stuck
  | none => .stuck
/-- d[k] -/
def eDGet (a b : E) : E := fun σ S => (a σ S).bind fun x S1 => (b σ S1).bind fun y S2 => fDGet x y S2
def fDIn (n : Bool) (y x : W) (S : Hm) : R W := match dicOf S x with
  | some kvs => if isKey y = true then .ok (.bl (xor n (getW kvs y).isSome)) S else .stuck
  | none => .stuck
/-- k in d (n: not in) -/
def eDIn (n : Bool) (a b : E) : E := fun σ S => (a σ S).bind fun y S1 => (b σ S1).bind fun x S2 => fDIn n y x S2
def eDGet1 (d a : E) : E := fun σ S => (d σ S).bind fun x S1 => (match dicOf S1 x with
  | some _ => (a σ S1).bind fun y S2 => (match dicOf S2 x with
    | some kvs => if isKey y = true then .ok ((getW kvs y).getD .non) S2 else .stuck
    | none => .stuck)
  | none => .stuck)
def eDGet2 (d a b : E) : E := fun σ S => (d σ S).bind fun x S1 => (match dicOf S1 x with
  | some _ => (a σ S1).bind fun y S2 => (b σ S2).bind fun z S3 => (match dicOf S3 x with
    | some kvs => if isKey y = true then .ok ((getW kvs y).getD z) S3 else .stuck
    | none => .stuck)
  | none => .stuck)
def fDPut (x y v : W) (S : Hm) : R Hm := match x with
  | .ref a => (match heapAt S a with
    | some (.dic kvs) => if isKey y = true then (if kvs.length < sizeLine then .ok (S.set a (some (.dic (putW kvs y v)))) S else .stuck) else .stuck
    | _ => .stuck)
  | _ => .stuck
/-- d[k] = v -/
def sDPut (d a e : E) : St' := fun σ S => (e σ S).bind fun v S1 => (d σ S1).bind fun x S2 => (a σ S2).bind fun y S3 => (fDPut x y v S3).bind fun S4 _ => .ok (.nx σ) S4
section
variable {c : Cn} {X : Cx} {pos pos' apos cpos : Pos} {o a b value : Expr} {mo ma mb mv : E}
theorem keyW_some {w : W} (h : isKey w = true) : ∃ k, keyW w = some k := by
  cases w <;> first | exact ⟨_, rfl⟩ | cases h
theorem keyW_kV {g : Gh} {w : W} {k : Key} {v : V} (h : keyW w = some k) (r : RW c g w v) : v = kV k := by
  cases w with
  | int i => cases h; exact rw_int.mp r
  | str x => cases h; exact rw_str.mp r
  | _ => cases h
theorem keyB_iff {a b : W} {k l : Key} (ha : keyW a = some k) (hb : keyW b = some l) : keyB a b = decide (k = l) := by
  cases a with
  | int i =>
    cases ha
    cases b with
    | int j => cases hb; simp [keyB]
    | str y => cases hb; simp [keyB]
    | _ => cases hb
  | str x =>
    cases ha
    cases b with
    | int j => cases hb; simp [keyB]
    | str y => cases hb; simp [keyB]
    | _ => cases hb
  | _ => cases ha
/-- entries, side by side -/
structure Ents (c : Cn) (g : Gh) (kvs : List (W × W)) (es : List (Key × V)) : Prop where
  k : kvs.map (fun q => keyW q.1) = es.map (fun q => some q.1)
  v : RWs c g (kvs.map (·.2)) (es.map (·.2))
theorem Ents.nil {g : Gh} : Ents c g [] [] := ⟨rfl, .nil⟩
theorem Ents.cons {g : Gh} {p : W × W} {kvs : List (W × W)} {e : Key × V} {es : List (Key × V)} (h1 : keyW p.1 = some e.1) (h2 : RW c g p.2 e.2) (h : Ents c g kvs es) : Ents c g (p :: kvs) (e :: es) :=
  ⟨by rw [List.map_cons, List.map_cons, h1, h.k], .cons h2 h.v⟩
theorem Ents.inv {g : Gh} {p : W × W} {kvs : List (W × W)} {es : List (Key × V)} (h : Ents c g (p :: kvs) es) : ∃ e es', es = e :: es' ∧ keyW p.1 = some e.1 ∧ RW c g p.2 e.2 ∧ Ents c g kvs es' := by
  obtain ⟨hk, hv⟩ := h
  cases es with
  | nil => cases hk
  | cons e es' =>
    rw [List.map_cons, List.map_cons] at hk hv
    obtain ⟨v, t, e1, r1, r2⟩ := hv.cons'
    cases e1
    obtain ⟨h1, h2⟩ := List.cons.inj hk
    exact ⟨e, es', rfl, h1, r1, h2, r2⟩
theorem Ents.length {g : Gh} {kvs : List (W × W)} {es : List (Key × V)} (h : Ents c g kvs es) : kvs.length = es.length := by
  have := congrArg List.length h.k
  simpa using this
theorem Ents.get {g : Gh} {k : W} {l : Key} (hk : keyW k = some l) : ∀ {kvs : List (W × W)} {es : List (Key × V)}, Ents c g kvs es → (getW kvs k = none ∧ valV es l = none) ∨ ∃ w v, getW kvs k = some w ∧ valV es l = some v ∧ RW c g w v
  | [], es, h => by
    have : es = [] := List.eq_nil_of_length_eq_zero (by rw [← h.length]; rfl)
    subst this
    exact .inl ⟨rfl, rfl⟩
  | p :: kvs, es, h => by
    obtain ⟨e, es', rfl, h1, h2, h3⟩ := h.inv
    have kb := keyB_iff h1 hk
    by_cases hx : e.1 = l
    · rw [valV_pos hx]
      unfold getW
      rw [kb, decide_eq_true hx, if_pos rfl]
      exact .inr ⟨_, _, rfl, rfl, h2⟩
    · rw [valV_neg hx]
      unfold getW
      rw [kb, decide_eq_false hx, if_neg Bool.false_ne_true]
      exact Ents.get hk h3
theorem Ents.has {g : Gh} {k : W} {l : Key} (hk : keyW k = some l) : ∀ {kvs : List (W × W)} {es : List (Key × V)}, Ents c g kvs es → hasW kvs k = es.any fun kv => decide (kv.1 = l)
  | [], es, h => by
    have : es = [] := List.eq_nil_of_length_eq_zero (by rw [← h.length]; rfl)
    subst this
    rfl
  | p :: kvs, es, h => by
    obtain ⟨e, es', rfl, h1, h2, h3⟩ := h.inv
    have ih := Ents.has hk h3
    unfold hasW at ih ⊢
    rw [List.any_cons, List.any_cons, ih, keyB_iff h1 hk]
theorem Ents.app {g : Gh} {p : W × W} {e : Key × V} (h1 : keyW p.1 = some e.1) (h2 : RW c g p.2 e.2) : ∀ {kvs : List (W × W)} {es : List (Key × V)}, Ents c g kvs es → Ents c g (kvs ++ [p]) (es ++ [e])
  | [], es, h => by
    have : es = [] := List.eq_nil_of_length_eq_zero (by rw [← h.length]; rfl)
    subst this
    exact .cons h1 h2 .nil
  | q :: kvs, es, h => by
    obtain ⟨e', es', rfl, h3, h4, h5⟩ := h.inv
    exact .cons h3 h4 (Ents.app h1 h2 h5)
theorem Ents.upd {g : Gh} {k v : W} {l : Key} {u : V} (hk : keyW k = some l) (hv : RW c g v u) : ∀ {kvs : List (W × W)} {es : List (Key × V)}, Ents c g kvs es → Ents c g (kvs.map fun p => if keyB p.1 k = true then (p.1, v) else p) (es.map fun kv => if kv.1 = l then (kv.1, u) else kv)
  | [], es, h => by
    have : es = [] := List.eq_nil_of_length_eq_zero (by rw [← h.length]; rfl)
    subst this
    exact .nil
  | p :: kvs, es, h => by
    obtain ⟨e, es', rfl, h1, h2, h3⟩ := h.inv
    have ih := Ents.upd hk hv h3
    rw [List.map_cons, List.map_cons, keyB_iff h1 hk]
    by_cases hx : e.1 = l
    · rw [decide_eq_true hx, if_pos rfl, if_pos hx]
      exact .cons h1 hv ih
    · rw [decide_eq_false hx, if_neg Bool.false_ne_true, if_neg hx]
      exact .cons h1 h2 ih
theorem Ents.put {g : Gh} {k v : W} {l : Key} {u : V} (hk : keyW k = some l) (hv : RW c g v u) {kvs : List (W × W)} {es : List (Key × V)} (h : Ents c g kvs es) : Ents c g (putW kvs k v) (putK es l u) := by
  unfold putW putK
  rw [h.has hk]
  split
  · exact h.upd hk hv
  · exact h.app (e := (l, u)) hk hv
theorem Ents.le {g g' : Gh} (x : Le g g') {kvs : List (W × W)} {es : List (Key × V)} (h : Ents c g kvs es) : Ents c g' kvs es := ⟨h.k, RWs.le x _ _ h.v⟩
theorem dic_at {g : Gh} {S : Hm} {x : W} {v : V} {kvs : List (W × W)} (h : HRel c g S) (r : RW c g x v) (e : dicOf S x = some kvs) : ∃ p es, v = .ref p ∧ Rd g.H p (.dK es) ∧ Ents c g kvs es := by
  cases x with
  | ref a =>
    obtain ⟨_, rfl⟩ := rw_ref.mp r
    simp only [dicOf] at e
    split at e
    · rename_i hx
      cases e
      obtain ⟨es, e1, e2, e3⟩ := (h.ob a _ hx).1
      exact ⟨_, es, rfl, .inl e1, e2, e3⟩
    · rename_i hx
      cases e
      obtain ⟨o, es, e1, e2, e3⟩ := (h.ob a _ hx).1
      exact ⟨_, es, rfl, .inr ⟨o, e1⟩, e2, e3⟩
    · cases e
  | _ => cases e
theorem e_dict0 : PE X (.Dict [] [] pos) (tE c eDict0) := PEimp pe_dnewK fun σ H Q h => by
  obtain ⟨g0, S0, sm, g, S, rfl, rl, w, S', e, q⟩ := h
  cases e
  intro p np
  have h1 := rl.h.lay np (.dK [])
  have x1 := Ext.lay rl.h np (.dK [])
  have nl : ¬ live (g.lay p (.dK [])) S p := fun ⟨a, o, ea, ra⟩ => rl.h.rho_some ea (by rw [show g.rho a = p from ra]; exact np)
  have nf : ¬ (g.lay p (.dK [])).Fz p := fun f => rl.h.fz p f np
  refine q ((g.lay p (.dK [])).put p) (.ref p) (h1.put (o := .dic []) ⟨[], upd_same, rfl, .nil⟩ nf nl) (x1.put h1 np _) ?_
  rw [rw_ref]
  refine ⟨?_, ?_⟩
  · show S.length < g.n + 1
    rw [rl.h.n]; exact Nat.lt_succ_self _
  · show V.ref p = V.ref (if S.length = g.n then p else g.rho S.length)
    rw [if_pos rl.h.n.symm]
theorem e_dget (hu : X.A.units + 1 < cLine) (ho : PE X o (tE c mo)) (hi : PE X a (tE c ma)) (hs : NoSl a) : PE X (.Subscript o a pos) (tE c (eDGet mo ma)) := PEimp (pe_dget hu ho hi hs) fun σ H Q h => by
  obtain ⟨g0, S0, sm, g, S, rfl, rl, w, S', e, q⟩ := h
  obtain ⟨x, S1, e1, e⟩ := SB.R.of_bind e
  obtain ⟨y, S2, e2, e⟩ := SB.R.of_bind e
  refine ⟨g0, S0, sm, g, S, rfl, rl, x, S1, e1, fun g1 v h1 x1 r1 => ?_⟩
  refine ⟨g0, S0, sm, g1, S1, rfl, rl.step h1 x1, y, S2, e2, fun g2 u h2 x2 r2 => ?_⟩
  unfold fDGet at e
  split at e
  · rename_i kvs hk
    split at e
    · rename_i hy
      obtain ⟨e3, rfl⟩ := opt_ok e
      obtain ⟨p, es, rfl, rd, en⟩ := dic_at h2 (RW.mono h1 x2 _ _ r1) hk
      obtain ⟨l, hl⟩ := keyW_some hy
      have := keyW_kV hl r2
      subst this
      rcases en.get hl with ⟨g1', _⟩ | ⟨w', v', g1', g2', rv⟩
      · rw [g1'] at e3; cases e3
      · rw [g1'] at e3
        cases e3
        exact ⟨p, v', rfl, .inl ⟨es, l, rd, rfl, g2'.symm⟩, q g2 v' h2 (x1.trans x2) rv⟩
    · cases e
  · cases e
theorem dgetR {g : Gh} {S : Hm} {x y : W} {p : V} {v : V} {kvs : List (W × W)} (h : HRel c g S) (rx : RW c g x p) (ry : RW c g y v) (hk : dicOf S x = some kvs) (hy : isKey y = true) : ∃ a r, p = .ref a ∧ DGet g.H a v r ∧ ((getW kvs y = none ∧ r = none) ∨ ∃ w u, getW kvs y = some w ∧ r = some u ∧ RW c g w u) := by
  obtain ⟨a, es, rfl, rd, en⟩ := dic_at h rx hk
  obtain ⟨l, hl⟩ := keyW_some hy
  have := keyW_kV hl ry
  subst this
  rcases en.get hl with ⟨g1, g2⟩ | ⟨w, u, g1, g2, rv⟩
  · exact ⟨a, none, rfl, .inl ⟨es, l, rd, rfl, g2.symm⟩, .inl ⟨g1, rfl⟩⟩
  · exact ⟨a, some u, rfl, .inl ⟨es, l, rd, rfl, g2.symm⟩, .inr ⟨w, u, g1, rfl, rv⟩⟩
theorem din_read {n : Bool} {σ : L2.St} {H : Hp} {Q : VK} (h : tE c (eDIn n ma mo) σ H Q) : tE c ma σ H fun y H1 => tE c mo σ H1 fun x H2 => ∃ a r, x = .ref a ∧ DGet H2 a y r ∧ Q (.bl (xor n r.isSome)) H2 := by
  obtain ⟨g0, S0, sm, g, S, rfl, rl, w, S', e, q⟩ := h
  obtain ⟨y, S1, e1, e⟩ := SB.R.of_bind e
  obtain ⟨x, S2, e2, e⟩ := SB.R.of_bind e
  refine ⟨g0, S0, sm, g, S, rfl, rl, y, S1, e1, fun g1 v h1 x1 r1 => ?_⟩
  refine ⟨g0, S0, sm, g1, S1, rfl, rl.step h1 x1, x, S2, e2, fun g2 u h2 x2 r2 => ?_⟩
  unfold fDIn at e
  split at e
  · rename_i kvs hk
    split at e
    · rename_i hy
      cases e
      obtain ⟨a, r, rfl, dg, hr⟩ := dgetR h2 r2 (RW.mono h1 x2 _ _ r1) hk hy
      refine ⟨a, r, rfl, dg, ?_⟩
      rcases hr with ⟨e3, rfl⟩ | ⟨w', u', e3, rfl, _⟩
      · have := q g2 (.bl (xor n (getW kvs y).isSome)) h2 (x1.trans x2) (rw_bl.mpr rfl)
        rw [e3] at this
        exact this
      · have := q g2 (.bl (xor n (getW kvs y).isSome)) h2 (x1.trans x2) (rw_bl.mpr rfl)
        rw [e3] at this
        exact this
    · cases e
  · cases e
theorem e_din (hu : X.A.units + 1 < cLine) (ho : PE X o (tE c mo)) (hi : PE X a (tE c ma)) (hb : behindInMarks .In o = false) : PE X (.Compare a [.In] [o] pos) (tE c (eDIn false ma mo)) :=
  PEimp (pe_cmp (pc_din hu hi ho) hb) fun σ H Q h => by
    have := din_read h
    simp only [Bool.false_xor] at this
    exact this
theorem e_dnotin (hu : X.A.units + 1 < cLine) (ho : PE X o (tE c mo)) (hi : PE X a (tE c ma)) (hb : behindInMarks .NotIn o = false) : PE X (.Compare a [.NotIn] [o] pos) (tE c (eDIn true ma mo)) :=
  PEimp (pe_cmp (pc_dnotin hu hi ho) hb) fun σ H Q h => by
    have := din_read h
    simp only [Bool.true_xor] at this
    exact this
theorem isD_of {g : Gh} {S : Hm} {x : W} {v : V} {kvs : List (W × W)} (h : HRel c g S) (r : RW c g x v) (e : dicOf S x = some kvs) : ∃ p, v = .ref p ∧ IsD g.H p := by
  obtain ⟨p, es, rfl, rd, _⟩ := dic_at h r e
  exact ⟨p, rfl, .inl ⟨es, rd⟩⟩
theorem e_dget1 (hu : X.A.units + 1 < cLine) (ho : PE X o (tE c mo)) (he : PE X a (tE c ma)) (m : M1 X o "get" apos a cpos) : PE X (.Call (.Attribute o "get" apos) [a] [] cpos) (tE c (eDGet1 mo ma)) := PEimp (pe_dget1 hu ho he m) fun σ H Q h => by
  obtain ⟨g0, S0, sm, g, S, rfl, rl, w, S', e, q⟩ := h
  obtain ⟨x, S1, e1, e⟩ := SB.R.of_bind e
  refine ⟨g0, S0, sm, g, S, rfl, rl, x, S1, e1, fun g1 v h1 x1 r1 => ?_⟩
  split at e
  · rename_i k0 hk0
    obtain ⟨y, S2, e2, e⟩ := SB.R.of_bind e
    obtain ⟨p, rfl, isd⟩ := isD_of h1 r1 hk0
    refine ⟨p, rfl, isd, g0, S0, sm, g1, S1, rfl, rl.step h1 x1, y, S2, e2, fun g2 u h2 x2 r2 => ?_⟩
    split at e
    · rename_i kvs hk
      split at e
      · rename_i hy
        cases e
        obtain ⟨a', r, ea, dg, hr⟩ := dgetR h2 (RW.mono h1 x2 _ _ r1) r2 hk hy
        cases ea
        refine ⟨r, dg, ?_⟩
        rcases hr with ⟨e3, rfl⟩ | ⟨w', u', e3, rfl, rv⟩
        · refine q g2 _ h2 (x1.trans x2) ?_
          rw [e3]; exact rw_non.mpr rfl
        · refine q g2 _ h2 (x1.trans x2) ?_
          rw [e3]; exact rv
      · cases e
    · cases e
  · cases e
theorem e_dget2 (hu : X.A.units + 1 < cLine) (ho : PE X o (tE c mo)) (he : PE X a (tE c ma)) (hb : PE X b (tE c mb)) (m : M2 X o "get" apos a b cpos) : PE X (.Call (.Attribute o "get" apos) [a, b] [] cpos) (tE c (eDGet2 mo ma mb)) := PEimp (pe_dget2 hu ho he hb m) fun σ H Q h => by
  obtain ⟨g0, S0, sm, g, S, rfl, rl, w, S', e, q⟩ := h
  obtain ⟨x, S1, e1, e⟩ := SB.R.of_bind e
  refine ⟨g0, S0, sm, g, S, rfl, rl, x, S1, e1, fun g1 v h1 x1 r1 => ?_⟩
  split at e
  · rename_i k0 hk0
    obtain ⟨y, S2, e2, e⟩ := SB.R.of_bind e
    obtain ⟨z, S3, e3, e⟩ := SB.R.of_bind e
    obtain ⟨p, rfl, isd⟩ := isD_of h1 r1 hk0
    refine ⟨p, rfl, isd, g0, S0, sm, g1, S1, rfl, rl.step h1 x1, y, S2, e2, fun g2 u h2 x2 r2 => ?_⟩
    refine ⟨g0, S0, sm, g2, S2, rfl, (rl.step h1 x1).step h2 x2, z, S3, e3, fun g3 u3 h3 x3 r3 => ?_⟩
    split at e
    · rename_i kvs hk
      split at e
      · rename_i hy
        cases e
        obtain ⟨a', r, ea, dg, hr⟩ := dgetR h3 (RW.mono h2 x3 _ _ (RW.mono h1 x2 _ _ r1)) (RW.mono h2 x3 _ _ r2) hk hy
        cases ea
        refine ⟨r, dg, ?_⟩
        rcases hr with ⟨e4, rfl⟩ | ⟨w', u', e4, rfl, rv⟩
        · refine q g3 _ h3 ((x1.trans x2).trans x3) ?_
          rw [e4]; exact r3
        · refine q g3 _ h3 ((x1.trans x2).trans x3) ?_
          rw [e4]; exact rv
      · cases e
    · cases e
  · cases e
theorem s_dput (hu : X.A.units + 1 < cLine) (ho : PE X o (tE c mo)) (hi : PE X a (tE c ma)) (hv : PE X value (tE c mv)) (hs : swapsWith value (some (.Subscript o a pos')) pos.line X.env = pure false) :
    PS X (.Assign [.Subscript o a pos'] value pos) (tS c (SB.sDPut mo ma mv)) := PSimp (ps_dput hu ho hi hv hs) fun D σ H h => by
  obtain ⟨g0, S0, sm, g, S, rfl, rl, fl, S', e, q⟩ := h
  obtain ⟨v, S1, e1, e⟩ := SB.R.of_bind e
  obtain ⟨x, S2, e2, e⟩ := SB.R.of_bind e
  obtain ⟨y, S3, e3, e⟩ := SB.R.of_bind e
  obtain ⟨S4, S5, e4, e⟩ := SB.R.of_bind e
  cases e
  refine ⟨g0, S0, sm, g, S, rfl, rl, v, S1, e1, fun g1 v1 h1 x1 r1 => ?_⟩
  have rl1 := rl.step h1 x1
  refine ⟨g0, S0, sm, g1, S1, rfl, rl1, x, S2, e2, fun g2 v2 h2 x2 r2 => ?_⟩
  have rl2 := rl1.step h2 x2
  refine ⟨g0, S0, sm, g2, S2, rfl, rl2, y, S3, e3, fun g3 v3 h3 x3 r3 => ?_⟩
  have rl3 := rl2.step h3 x3
  unfold fDPut at e4
  cases x with
  | ref p =>
    simp only at e4
    split at e4
    · rename_i kvs hx
      split at e4
      · rename_i hy
        split at e4
        · rename_i hz
          cases e4
          obtain ⟨_, ev⟩ := rw_ref.mp (RW.mono h2 x3 _ _ r2)
          subst ev
          obtain ⟨es, hp, ek, er⟩ := (h3.ob p _ hx).1
          have en : Ents c g3 kvs es := ⟨ek, er⟩
          obtain ⟨l, hl⟩ := keyW_some hy
          have := keyW_kV hl r3
          subst this
          have rv := RW.mono h2 x3 _ _ (RW.mono h1 x2 _ _ r1)
          have en2 := en.put hl rv
          have le := Gh.chg_le (o := .dK (putK es l v1)) (h3.ob p _ hx).2 hp (fun _ _ z => by cases z)
          obtain ⟨h', x'⟩ := h3.hchg (w := .dK (putK es l v1)) hx (show RO c _ (.dic (putW kvs y v)) _ from ⟨_, rfl, (en2.le le).k, (en2.le le).v⟩)
          refine ⟨g3.rho p, _, rfl, .inl ⟨es, l, hp, rfl, by rw [← en.length]; exact hz, rfl⟩, ?_⟩
          exact q _ _ (rl3.step h' x') ((((x1.le rl.h).trans (x2.le h1)).trans (x3.le h2)).trans (x'.le h3))
        · cases e4
      · cases e4
    · cases e4
  | _ => cases e4
end
end SB
/-! SB, part 13g: sorted of a dict. -/
namespace SB
open PySem PySem.Spec PyProof.Rows L2
def keyD : Key → PyData
  | .inl i => .int i
  | .inr x => .str x
section
variable {c : Cn} {X : Cx}
def rSrtD : List V → Hp → VK → Prop := fun vs H Q => ∃ (a : Addr) (es : List (Key × V)), vs = [V.ref a] ∧ Rd H a (.dK es) ∧ PySem.W.AllAlike (es.map fun e => keyD e.1) ∧ PySem.W.Sortable (es.map fun e => keyD e.1) ∧
  ∀ p, H p = none → Q (.ref p) (upd H p (.lst (srtV (es.map fun e => kV e.1) (es.map fun e => keyD e.1))))
theorem keyIs_both {k : Key} {v : Value} (h : keyIs k v = true) (hp : Heap) : RelV (kV k) v ∧ ∃ as, Reads hp v (keyD k) as ∧ as = [] := by
  rcases keyIs_shape h with ⟨i, t, rfl, rfl⟩ | ⟨x, t, rfl, rfl⟩
  · exact ⟨⟨t, rfl⟩, [], .int i t, rfl⟩
  · exact ⟨⟨t, rfl⟩, [], .str x t, rfl⟩
theorem each_keys {hp : Heap} : ∀ {vs : List (Key × Value)} {us : List Value}, us.length = vs.length → (∀ (j : Nat) (v : Value), us[j]? = some v → ∃ k x, vs[j]? = some (k, x) ∧ keyIs k v = true) →
    PySem.W.EachIs (fun v (b : V × PyData) => RelV b.1 v) us (vs.map fun e => (kV e.1, keyD e.1)) ∧ ∀ (D : Addr), PySem.W.EachIs (fun v (b : V × PyData) => ∃ as, Reads hp v b.2 as ∧ D ∉ as) us (vs.map fun e => (kV e.1, keyD e.1))
  | [], us, hl, h => by
    have : us = [] := List.eq_nil_of_length_eq_zero hl
    subst this
    exact ⟨.nil, fun _ => .nil⟩
  | e :: vs, [], hl, h => by cases hl
  | e :: vs, u :: us, hl, h => by
    obtain ⟨k, x, e1, e2⟩ := h 0 u rfl
    cases (show some e = some (k, x) from e1)
    obtain ⟨r1, as, r2, rfl⟩ := keyIs_both e2 hp
    obtain ⟨i1, i2⟩ := each_keys (hp := hp) (vs := vs) (us := us) (by simpa using hl) fun j v hj => h (j + 1) v hj
    exact ⟨.cons r1 i1, fun D => .cons ⟨[], r2, by simp⟩ (i2 D)⟩
theorem cr_srtD (hcalm : X.calm = true) (hu : X.A.units + 64 < cLine) : CallR X (.builtin "sorted") rSrtD := by
  intro pins s σ H xs us Q I r q
  obtain ⟨a, kvs, rfl, hd, hal, hso, q⟩ := q
  obtain ⟨u, rfl, rx⟩ := vals1 r
  cases rx
  obtain ⟨z, lo, vs, rel, dd⟩ := dk_rd I.hok hd
  obtain ⟨ep, hat⟩ := dd.dictAt
  have hkeys : kvs.map (·.1) = vs.map (·.1) := rel.keys
  have hl : vs.length = kvs.length := by
    have e := congrArg List.length hkeys
    rw [List.length_map, List.length_map] at e
    exact e.symm
  have h16 : vs.length ≤ sizeLine := by rw [hl]; exact z
  have ek : kvs.map (fun e => kV e.1) = vs.map (fun e => kV e.1) := by
    have := congrArg (List.map kV) hkeys
    rw [List.map_map, List.map_map] at this
    exact this
  have ed : kvs.map (fun e => keyD e.1) = vs.map (fun e => keyD e.1) := by
    have := congrArg (List.map keyD) hkeys
    rw [List.map_map, List.map_map] at this
    exact this
  rw [ed] at hal hso
  rw [ek, ed] at q
  refine Calls.call_function_entry PyProof.Rows.kind_sorted PyProof.Rows.plain_sorted PyProof.Rows.entry_sorted (PyProof.Rows.args_sorted1 _) ?_
  unfold Builtin.«sorted»
  refine wpAny_bind (m := checkCount "sorted" 1 1 _) (wpAny_pure ?_)
  refine wpAny_bind (PySem.W.kdu_collect (A := X.A.in1) (PySem.W.kdl_dict (knd := mixKind X.prog X.w) (kvs := vs) (ep := ep) lo) (I.ok.hd hcalm) hat h16 fun h' tk acc hk hacc => ?_)
  have hal' : acc.toList.length = vs.length := by rw [Array.length_toList, hacc.1]
  have I1 : Inv X pins σ H { s with heap := h', toks := tk } := I.kept hk
  refine wpAny_bind (wpAny_newList ?_ (by rw [hal']; exact h16))
  have hoL : (h'.push (seqObj "list" acc.toList.toArray 0)).get? h'.objs.size = some (seqObj "list" acc.toList.toArray 0) := Heap.get?_push_size _ rfl
  show wpAny _ _ _ _ _ { s with heap := h'.push (seqObj "list" acc.toList.toArray 0), toks := tk }
  obtain ⟨i1, i2⟩ := each_keys (hp := h'.push (seqObj "list" acc.toList.toArray 0)) (vs := vs) (us := acc.toList) hal' fun j v e => by
    obtain ⟨k, x, e1, e2⟩ := hacc.2 j v (by rw [← Array.getElem?_toList]; exact e)
    exact ⟨k, x, e1, e2⟩
  have em : (vs.map fun e => (kV e.1, keyD e.1)).map Prod.snd = vs.map fun e => keyD e.1 := by rw [List.map_map]; rfl
  have ez : (vs.map fun e => (kV e.1, keyD e.1)) = (vs.map fun e => kV e.1).zip (vs.map fun e => keyD e.1) := by
    rw [List.zip_map']
  refine wpAny_bind (wpAny_holding (PySem.W.list_sort_data (s := { s with heap := h'.push (seqObj "list" acc.toList.toArray 0), toks := tk }) (enc := Prod.snd) hoL i1 (i2 h'.objs.size) (by rw [em]; exact hal) (by rw [em]; exact hso) (by rw [List.length_map]; exact h16) (fun b hb => ?_) fun out hout he => ?_))
  · obtain ⟨e, _, rfl⟩ := List.mem_map.mp hb
    have : (keyD e.1).depth = 0 := by cases e.1 <;> rfl
    show X.A.in1.units + 1 + (keyD e.1).depth < cLine
    rw [this]
    show X.A.units + 1 + 1 + 0 < cLine
    omega
  · obtain ⟨e', he'⟩ := PyProof.Rows.sortedHeap_at (vs := acc.toList) (out := List.toArray out) hoL
    have hlen : (srtV (vs.map fun e => kV e.1) (vs.map fun e => keyD e.1)).length ≤ sizeLine := by
      unfold srtV
      rw [List.length_map, List.length_mergeSort, List.length_zip, List.length_map, List.length_map]
      omega
    refine wpAny_pure ⟨_, rfl, .ref h'.objs.size, upd H h'.objs.size (.lst (srtV (vs.map fun e => kV e.1) (vs.map fun e => keyD e.1))), I1.laid (t' := tk) (fun b u e => ?_) (Nat.le_refl _) ⟨hlen, out, e', ?_, he'⟩, rfl, q _ (I1.hok.fresh (Nat.le_refl _))⟩
    · have hb : b < h'.objs.size := Heap.lt_size e
      rw [PyProof.Rows.sortedHeap_old (Nat.ne_of_lt hb) (by rw [size_push']; exact Nat.lt_succ_of_lt hb)]
      exact Heap.get?_push_of_some _ e
    · unfold srtV
      rw [← ez]
      exact vals_each he
open Classical in
/-- sorted of a list, of a dict -/
noncomputable def fSortedX (ws : List W) (S : Hm) : R (List W) := match ws with
  | [x] => (match lstOf S x with
    | some xs => if SrtOk xs then .ok (xs.mergeSort leW) S else .stuck
    | none => (match dicOf S x with
      | some kvs => if SrtOk (kvs.map (·.1)) ∧ kvs.length ≤ sizeLine then .ok ((kvs.map (·.1)).mergeSort leW) S else .stuck
      | none => .stuck))
  | _ => .stuck
theorem keys_data {g : Gh} : ∀ {kvs : List (W × W)} {es : List (Key × V)}, Ents c g kvs es → (kvs.map (·.1)).map datW = es.map (fun e => keyD e.1) ∧ RWs c g (kvs.map (·.1)) (es.map fun e => kV e.1)
  | [], es, h => by
    have : es = [] := List.eq_nil_of_length_eq_zero (by rw [← h.length]; rfl)
    subst this
    exact ⟨rfl, .nil⟩
  | p :: kvs, es, h => by
    obtain ⟨e, es', rfl, h1, h2, h3⟩ := h.inv
    obtain ⟨i1, i2⟩ := keys_data h3
    have : datW p.1 = keyD e.1 ∧ RW c g p.1 (kV e.1) := by
      obtain ⟨p1, p2⟩ := p
      obtain ⟨e1, e2⟩ := e
      cases p1 with
      | int i => cases h1; exact ⟨rfl, rw_int.mpr rfl⟩
      | str x => cases h1; exact ⟨rfl, rw_str.mpr rfl⟩
      | _ => cases h1
    exact ⟨by rw [List.map_cons, List.map_cons, List.map_cons, i1, this.1], .cons this.2 i2⟩
theorem e_sortedX {x : Str} {e : Expr} {ma : E} {p pos : Pos} (hx : x = "sorted") (hcalm : X.calm = true) (hg : Gl X x) (hm : X.mg x = none) (hK : X.K = c.K) (hu : X.A.units + 64 < cLine) (ha : PE X e (tE c ma)) (h1 : ∀ u q, e ≠ .Starred u q) :
    PE X (.Call (.Name x p) [e] [] pos) (tLs c (lCall fSortedX (aCons ma aNil))) := by
  subst hx
  refine PEimp (pe_callB ((cr_srt hu).or (cr_srtD hcalm hu)) hg hm PyProof.Rows.boot_sorted (a_cons ha a_nil (star_ne h1)) (by decide) (by decide) (star_ne h1) rfl) fun σ H Q h => ?_
  obtain ⟨g0, S0, sm, g, S, rfl, rl, ws, S', e, q⟩ := h
  obtain ⟨xs, S1, e1, e⟩ := SB.R.of_bind e
  refine ⟨g0, S0, sm, g, S, rfl, rl, xs, S1, e1, fun g1 vs h1 x1 r1 => ?_⟩
  have fresh : ∀ l, g1.H l = none → g.H l = none := fun l nl => by
    cases q0 : g.H l with
    | none => rfl
    | some u => exact absurd nl (x1.tr l (by rw [q0]; intro z; cases z))
  unfold fSortedX at e
  split at e
  · split at e
    · rename_i ys hy
      split at e
      · rename_i ok
        cases e
        obtain ⟨v, rfl, rv⟩ := r1.one
        obtain ⟨p, us, rfl, hp, z, ru⟩ := lst_at h1 rv hy
        rw [hK]
        refine .inl ⟨p, us, ys.map datW, rfl, .inl (.inl hp), toDs_dp _ _ _ ru (toDs_map ok.dat), ok.al, ok.so, fun d hd => ?_, fun l nl => ?_⟩
        · obtain ⟨w, hw, rfl⟩ := List.mem_map.mp hd
          exact ok.dep w hw
        · have rs := srt_rws ru
          exact q (g1.lay l (.lst (srtV us (ys.map datW)))) l _ (h1.lay nl _) (x1.trans (Ext.lay h1 nl _)) upd_same (by rw [List.length_mergeSort]; exact z) (RWs.mono h1 (Ext.lay h1 nl _) _ _ rs) (fun z => h1.fz l z nl) (fun ⟨a, o, ea, ra⟩ => h1.rho_some ea (by rw [show g1.rho a = l from ra]; exact nl)) (fresh l nl)
      · cases e
    · split at e
      · rename_i kvs hk
        split at e
        · rename_i ok
          cases e
          obtain ⟨v, rfl, rv⟩ := r1.one
          obtain ⟨p, es, rfl, hp, en⟩ := dic_at h1 rv hk
          obtain ⟨k1, k2⟩ := keys_data en
          refine .inr ⟨p, es, rfl, hp, by rw [← k1]; exact ok.1.al, by rw [← k1]; exact ok.1.so, fun l nl => ?_⟩
          have rs := srt_rws k2
          rw [k1] at rs
          exact q (g1.lay l (.lst (srtV (es.map fun e => kV e.1) (es.map fun e => keyD e.1)))) l _ (h1.lay nl _) (x1.trans (Ext.lay h1 nl _)) upd_same (by rw [List.length_mergeSort, List.length_map]; exact ok.2) (RWs.mono h1 (Ext.lay h1 nl _) _ _ rs) (fun z => h1.fz l z nl) (fun ⟨a, o, ea, ra⟩ => h1.rho_some ea (by rw [show g1.rho a = l from ra]; exact nl)) (fresh l nl)
        · cases e
      · cases e
  · cases e
end
end SB
/-! SB, part 13h: instances frozen behind their making; dicts walked. -/
namespace SB
open PySem PySem.Spec PyProof.Rows L2
/-- a new instance, made on the own heap, then no one changes it any more -/
def eMkZ (C : Str) (f : Fn) (dws : List W) (a : As) : E := fun σ S => (a σ S).bind fun xs S1 => (f (.ref S1.length :: (xs ++ dws)) (S1 ++ [some (.ins C [] [])])).bind fun r S2 => match r with
  | .non => (match heapAt S2 S1.length with
    | some (.ins D ks vs) => if D = C then .ok (.obj C ks vs) (S2.set S1.length none) else .stuck
    | _ => .stuck)
  | _ => .stuck
theorem heapAt_kill {S : Hm} {a b : Nat} : heapAt (S.set a none) b = if b = a then none else heapAt S b := by
  unfold heapAt
  rw [List.getElem?_set]
  by_cases h : a = b
  · subst h
    rw [if_pos rfl, if_pos rfl]
    by_cases h2 : a < S.length
    · rw [if_pos h2]
    · rw [if_neg h2]
  · rw [if_neg h, if_neg (Ne.symm h)]
section
variable {c : Cn} {X : Cx} {as : As}
theorem HRel.kill {g : Gh} {S : Hm} (h : HRel c g S) (a : Nat) : HRel c g (S.set a none) := by
  have old : ∀ b o, heapAt (S.set a none) b = some o → heapAt S b = some o := fun b o e => by
    rw [heapAt_kill] at e
    split at e
    · cases e
    · exact e
  exact ⟨by rw [List.length_set]; exact h.n, fun b o e => h.ob b o (old b o e), fun b d ob od eb ed z => h.inj b d ob od (old b ob eb) (old d od ed) z, h.fz⟩
theorem Ext.kill {g : Gh} {S : Hm} (a : Nat) : Ext g S g (S.set a none) where
  fz := fun _ z => z
  old := fun _ _ z => z
  keep := fun _ _ e _ => e
  tr := fun _ z => z
  lv := fun p ⟨b, o, e, r⟩ => by
    rw [heapAt_kill] at e
    split at e
    · cases e
    · exact .inl ⟨b, o, e, r⟩
  rho := fun _ _ => rfl
  n := Nat.le_refl _
  lk := fun _ _ _ e => e
theorem mkZ_read {C : Str} {cA : Addr} {f : Fn} {dws : List W} {dvs : List V} {n nn : Nat} (hC : c.cls C = some cA) (hd : ∀ g, RWs c g dws dvs) (hn : AsN as n) (hnn : n + dws.length + 1 = nn) {σ : L2.St} {H : Hp} {Q : VK} (h : tE c (eMkZ C f dws as) σ H Q) :
    tMake cA (spM c nn f) dvs E0 (tA c as) σ H Q := by
  obtain ⟨g0, S0, sm, g, S, rfl, rl, w, S', e, q⟩ := h
  obtain ⟨xs, S1, e1, e⟩ := SB.R.of_bind e
  obtain ⟨r, S2, e2, e⟩ := SB.R.of_bind e
  refine ⟨g0, S0, sm, g, S, rfl, rl, xs, S1, e1, fun g1 vs h1 x1 r1 x dx nx ndx ne => ?_⟩
  have hA := h1.lay ndx (.own x)
  have xA := Ext.lay h1 ndx (.own x)
  have nx2 : (g1.lay dx (.own x)).H x = none := by
    show upd g1.H dx (.own x) x = none
    rw [upd_ne (Ne.symm ne)]; exact nx
  have hB := hA.lay nx2 (.ins cA dx [])
  have xB := Ext.lay hA nx2 (.ins cA dx [])
  have nl : ¬ live g1 S1 x := no_live h1 nx
  have nf : ¬ g1.Fz x := no_fz h1 nx
  have ro : RO c ((g1.lay dx (.own x)).lay x (.ins cA dx [])) (.ins C [] []) (((g1.lay dx (.own x)).lay x (.ins cA dx [])).H x) := ⟨cA, dx, [], upd_same, hC, rfl, .nil⟩
  have hP := hB.put ro nf nl
  have xP : Ext g1 S1 (((g1.lay dx (.own x)).lay x (.ins cA dx [])).put x) (S1 ++ [some (.ins C [] [])]) := Ext.put hB (xA.trans xB) nx (.ins C [] [])
  have rx : RW c (((g1.lay dx (.own x)).lay x (.ins cA dx [])).put x) (.ref S1.length) (.ref x) := by
    rw [rw_ref]
    refine ⟨by show S1.length < g1.n + 1; rw [h1.n]; exact Nat.lt_succ_self _, ?_⟩
    show V.ref x = V.ref (if S1.length = g1.n then x else _)
    rw [if_pos h1.n.symm]
  refine ⟨_, _, .ref S1.length :: (xs ++ dws), rfl, hP, .cons rx ((RWs.mono h1 xP _ _ r1).append (hd _)), by rw [List.length_cons, List.length_append, hn _ _ _ _ e1]; exact hnn, r, S2, e2, fun g' v h' x' r' => ?_⟩
  split at e
  · refine ⟨rw_non.mp r', ?_⟩
    split at e
    · rename_i D ks ws hx
      split at e
      · rename_i hD
        subst hD
        cases e
        have rx' := rw_ref.mp (RW.mono hP x' _ _ rx)
        have ex : x = g'.rho S1.length := by
          have := rx'.2
          exact V.ref.inj this
        obtain ⟨ro2, nf2⟩ := h'.ob _ _ hx
        rw [← ex] at ro2 nf2
        obtain ⟨cA2, dx2, fs, hp, hc2, hks, rws⟩ := ro2
        have xt := (x1.trans xP).trans x'
        have hk := h'.kill S1.length
        have xk : Ext g S g' (S2.set S1.length none) := xt.trans (Ext.kill _)
        have nlk : ¬ live g' (S2.set S1.length none) x := fun ⟨b, o, eb, rb⟩ => by
          rw [heapAt_kill] at eb
          split at eb
          · cases eb
          · rename_i hb
            exact hb (h'.inj b _ o _ eb hx (by rw [← ex]; exact rb))
        have np : g.H x = none := by
          cases q0 : g.H x with
          | none => rfl
          | some u => exact absurd nx (x1.tr x (by rw [q0]; intro z; cases z))
        refine q (g'.frz x) (.ref x) (hk.frz (by rw [hp]; intro z; cases z) nlk) (xk.frz (c := c) np) ?_
        rw [rw_obj]
        exact ⟨x, cA2, dx2, fs, rfl, .inl rfl, hc2, hp, hks, RWs.le (g'.frz_le x) _ _ rws⟩
      · cases e
    · cases e
  · cases e

/-! ### a dict walked: it is locked -/
/-- what is kept but for locks of dicts -/
structure Lw (g g' : Gh) : Prop where
  fz : ∀ p, g.Fz p → g'.Fz p
  keep : ∀ p o, g.Fz p → g.H p = some o → g'.H p = some o
  rho : ∀ a, a < g.n → g'.rho a = g.rho a
  n : g.n ≤ g'.n
  lk : ∀ p o xs, g.H p = some (.frz o (.lst xs)) → g'.H p = some (.frz o (.lst xs))
mutual
theorem RW.lw {g g' : Gh} (x : Lw g g') : ∀ (w : W) (v : V), RW c g w v → RW c g' w v
  | .non, _, r => r
  | .bl _, _, r => r
  | .int _, _, r => r
  | .str _, _, r => r
  | .byt _, _, r => r
  | .tup ws, v, r => by
    unfold RW at r ⊢
    obtain ⟨p, vs, e, r1, z, r2⟩ := r
    refine ⟨p, vs, e, ?_, z, RWs.lw x ws vs r2⟩
    rcases r1 with ⟨f, r1⟩ | r1
    · exact .inl ⟨x.fz p f, x.keep p _ f r1⟩
    · exact .inr r1
  | .fl ws, v, r => by
    unfold RW at r ⊢
    obtain ⟨p, vs, e, f, r1, z, r2⟩ := r
    exact ⟨p, vs, e, x.fz p f, x.keep p _ f r1, z, RWs.lw x ws vs r2⟩
  | .obj C ks ws, v, r => by
    unfold RW at r ⊢
    obtain ⟨p, cA, dx, fs, e, f, e2, r1, e3, r2⟩ := r
    exact ⟨p, cA, dx, fs, e, x.fz p f, e2, x.keep p _ f r1, e3, RWs.lw x ws _ r2⟩
  | .fd ks ws, v, r => by
    unfold RW at r ⊢
    obtain ⟨p, kvs, e, f, r1, e3, r2⟩ := r
    exact ⟨p, kvs, e, x.fz p f, x.keep p _ f r1, e3, RWs.lw x ws _ r2⟩
  | .ref a, v, r => by
    unfold RW at r ⊢
    obtain ⟨z, e⟩ := r
    exact ⟨Nat.lt_of_lt_of_le z x.n, by rw [x.rho a z]; exact e⟩
  | .scr ns, v, r => by
    unfold RW at r ⊢
    obtain ⟨p, e, r1, z⟩ := r
    refine ⟨p, e, ?_, z⟩
    rcases r1 with ⟨o, r1⟩ | r1
    · exact .inl ⟨o, x.lk p _ _ r1⟩
    · exact .inr r1
theorem RWs.lw {g g' : Gh} (x : Lw g g') : ∀ (ws : List W) (vs : List V), RWs c g ws vs → RWs c g' ws vs
  | [], _, r => by unfold RWs at r ⊢; exact r
  | w :: ws, _, r => by
    unfold RWs at r ⊢
    obtain ⟨v, t, e, r1, r2⟩ := r
    exact ⟨v, t, e, RW.lw x w v r1, RWs.lw x ws t r2⟩
end
theorem RO.lw {g g' : Gh} (x : Lw g g') {o : MO} {u : Option HO} (r : RO c g o u) : RO c g' o u := by
  cases o with
  | lst ws => obtain ⟨vs, e, z, q⟩ := r; exact ⟨vs, e, z, RWs.lw x _ _ q⟩
  | dic kvs => obtain ⟨es, e, z, q⟩ := r; exact ⟨es, e, z, RWs.lw x _ _ q⟩
  | lkd kvs => obtain ⟨o, es, e, z, q⟩ := r; exact ⟨o, es, e, z, RWs.lw x _ _ q⟩
  | dcN kvs => obtain ⟨a, es, e, z, k, q⟩ := r; exact ⟨a, es, e, z, RWs.lw x _ _ k, RWs.lw x _ _ q⟩
  | lkN kvs => obtain ⟨o, a, es, e, z, k, q⟩ := r; exact ⟨o, a, es, e, z, RWs.lw x _ _ k, RWs.lw x _ _ q⟩
  | ins C ks ws => obtain ⟨cA, dx, fs, e, e2, e3, q⟩ := r; exact ⟨cA, dx, fs, e, e2, e3, RWs.lw x _ _ q⟩
theorem Lw.unlock {g : Gh} {d : Addr} {o : Obj} {es : List (Key × V)} (hd : g.H d = some (.frz o (.dK es))) (f : ¬ g.Fz d) : Lw g (g.chg d (.dK es)) where
  fz := fun _ z => z
  keep := fun p u fp e => by
    show upd g.H d _ p = some u
    rw [upd_ne (fun z => by rw [z] at fp; exact f fp)]; exact e
  rho := fun _ _ => rfl
  n := Nat.le_refl _
  lk := fun p u xs e => by
    show upd g.H d _ p = _
    rw [upd_ne (fun z => by rw [z, hd] at e; cases e)]; exact e
/-- the dict at a is locked -/
theorem lock_rel {g : Gh} {S : Hm} {a : Nat} {kvs : List (W × W)} (h : HRel c g S) (e : heapAt S a = some (.dic kvs)) {es : List (Key × V)} (hd : g.H (g.rho a) = some (.dK es)) (en : Ents c g kvs es) (od : Obj) :
    HRel c (g.chg (g.rho a) (.frz od (.dK es))) (S.set a (some (.lkd kvs))) ∧ Ext g S (g.chg (g.rho a) (.frz od (.dK es))) (S.set a (some (.lkd kvs))) := by
  have le := Gh.chg_le (o := .frz od (.dK es)) (h.ob a _ e).2 hd (fun _ _ z => by cases z)
  exact h.hchg (w := .frz od (.dK es)) e (show RO c _ (.lkd kvs) _ from ⟨od, es, rfl, (en.le le).k, (en.le le).v⟩)
/-- it is given back -/
theorem unlock_hx {g0 g g2 : Gh} {S0 S S2 : Hm} {a : Nat} {kvs kvs2 : List (W × W)} {es : List (Key × V)} {od : Obj} (rh : HRel c g S) (rx : Ext g0 S0 g S) (e : heapAt S a = some (.dic kvs)) (hd : g.H (g.rho a) = some (.dK es)) (en : Ents c g kvs es)
    (r2h : HRel c g2 S2) (r2x : Ext g0 S0 g2 S2) (l : Le (g.chg (g.rho a) (.frz od (.dK es))) g2) (e2 : heapAt S2 a = some (.lkd kvs2)) :
    g2.rho a = g.rho a ∧ Lw g2 (g2.chg (g.rho a) (.dK es)) ∧ g2.H (g.rho a) = some (.frz od (.dK es)) ∧ HRel c (g2.chg (g.rho a) (.dK es)) (S2.set a (some (.dic kvs))) ∧ Ext g0 S0 (g2.chg (g.rho a) (.dK es)) (S2.set a (some (.dic kvs))) ∧ Le g (g2.chg (g.rho a) (.dK es)) := by
  have ha : a < g.n := by rw [rh.n]; exact heapAt_lt e
  have ea : g2.rho a = g.rho a := l.rho a ha
  have f0 := (rh.ob a _ e).2
  have f2 : ¬ g2.Fz (g.rho a) := by rw [← ea]; exact (r2h.ob a _ e2).2
  have h2 : g2.H (g.rho a) = some (.frz od (.dK es)) := l.lk _ _ _ (show upd g.H (g.rho a) _ (g.rho a) = _ from upd_same)
  have lw := Lw.unlock h2 f2
  have a2 := heapAt_lt e2
  -- from the beginning
  have lg : Le g (g2.chg (g.rho a) (.dK es)) := by
    refine ⟨fun p z => l.fz p z, fun p o fp ep => ?_, fun b hb => l.rho b hb, l.n, fun p o u ep => ?_⟩
    · show upd g2.H (g.rho a) (.dK es) p = some o
      have ne : p ≠ g.rho a := fun z => f0 (by rw [← z]; exact fp)
      rw [upd_ne ne]
      exact l.keep p o fp (show upd g.H (g.rho a) _ p = some o by rw [upd_ne ne]; exact ep)
    · show upd g2.H (g.rho a) (.dK es) p = _
      have ne : p ≠ g.rho a := fun z => by rw [z, hd] at ep; cases ep
      rw [upd_ne ne]
      exact l.lk p o u (show upd g.H (g.rho a) _ p = _ by rw [upd_ne ne]; exact ep)
  have lv : ∀ q, live (g2.chg (g.rho a) (.dK es)) (S2.set a (some (.dic kvs))) q ↔ live g2 S2 q := fun q => live_set e2
  refine ⟨ea, lw, h2, ?_, ?_, lg⟩
  · refine ⟨by rw [List.length_set]; exact r2h.n, fun b x eb => ?_, fun b d ob od' eb ed z => ?_, fun q z => ?_⟩
    · rw [heapAt_set a2] at eb
      by_cases hb : b = a
      · rw [if_pos hb] at eb
        cases eb
        subst hb
        show RO c _ (.dic kvs) (upd g2.H (g.rho b) (.dK es) (g2.rho b)) ∧ ¬ g2.Fz (g2.rho b)
        rw [ea]
        refine ⟨?_, f2⟩
        rw [upd_same]
        exact ⟨es, rfl, (en.le lg).k, (en.le lg).v⟩
      · rw [if_neg hb] at eb
        obtain ⟨ro, fb⟩ := r2h.ob b x eb
        refine ⟨?_, fb⟩
        show RO c _ x (upd g2.H (g.rho a) (.dK es) (g2.rho b))
        rw [upd_ne (fun z => hb (r2h.inj b a x _ eb e2 (by rw [z, ea])))]
        exact RO.lw lw ro
    · obtain ⟨x, ex⟩ : ∃ x, heapAt S2 b = some x := by
        rw [heapAt_set a2] at eb
        by_cases hb : b = a
        · exact ⟨_, by rw [hb]; exact e2⟩
        · rw [if_neg hb] at eb; exact ⟨ob, eb⟩
      obtain ⟨y, ey⟩ : ∃ x, heapAt S2 d = some x := by
        rw [heapAt_set a2] at ed
        by_cases hb : d = a
        · exact ⟨_, by rw [hb]; exact e2⟩
        · rw [if_neg hb] at ed; exact ⟨od', ed⟩
      exact r2h.inj b d x y ex ey z
    · show upd g2.H (g.rho a) (.dK es) q ≠ none
      rw [upd_ne (fun y => f2 (by rw [← y]; exact z))]
      exact r2h.fz q z
  · refine ⟨r2x.fz, r2x.old, fun p o ep nl => ?_, fun p z => ?_, fun p z => r2x.lv p ((lv p).mp z), r2x.rho, r2x.n, fun p o u ep => ?_⟩
    · show upd g2.H (g.rho a) (.dK es) p = some o
      by_cases hp : p = g.rho a
      · subst hp
        have := rx.keep _ o ep nl
        rw [hd] at this
        rw [upd_same]; exact this
      · rw [upd_ne hp]; exact r2x.keep p o ep nl
    · show upd g2.H (g.rho a) (.dK es) p ≠ none
      unfold upd; split
      · intro y; cases y
      · exact r2x.tr p z
    · show upd g2.H (g.rho a) (.dK es) p = _
      by_cases hp : p = g.rho a
      · subst hp
        have := rx.lk _ o u ep
        rw [hd] at this
        cases this
      · rw [upd_ne hp]; exact r2x.lk p o u ep
theorem unlock_rel {g0 g g2 : Gh} {S0 S S2 : Hm} {sm2 : Sl} {σ2 : L2.St} {a : Nat} {kvs kvs2 : List (W × W)} {es : List (Key × V)} {od : Obj} (rh : HRel c g S) (rx : Ext g0 S0 g S) (e : heapAt S a = some (.dic kvs)) (hd : g.H (g.rho a) = some (.dK es)) (en : Ents c g kvs es)
    (r2 : SRel c g0 S0 sm2 σ2 g2 S2) (l : Le (g.chg (g.rho a) (.frz od (.dK es))) g2) (e2 : heapAt S2 a = some (.lkd kvs2)) :
    g2.H (g.rho a) = some (.frz od (.dK es)) ∧ SRel c g0 S0 sm2 σ2 (g2.chg (g.rho a) (.dK es)) (S2.set a (some (.dic kvs))) ∧ Le g (g2.chg (g.rho a) (.dK es)) := by
  obtain ⟨ea, lw, h2, hh, xx, lg⟩ := unlock_hx rh rx e hd en r2.h r2.x l e2
  refine ⟨h2, ⟨hh, xx, r2.len, fun i w ei => ?_, fun i o ei => ?_, r2.sep, r2.pn⟩, lg⟩
  · obtain ⟨v, e3, q⟩ := r2.val i w ei
    exact ⟨v, e3, RW.lw lw w v q⟩
  · obtain ⟨p, e3, ro, f, nl, np⟩ := r2.own i o ei
    have ne : p ≠ g.rho a := fun z => nl ⟨a, _, e2, by rw [ea, z]⟩
    refine ⟨p, e3, ?_, f, fun z => nl ((live_set e2).mp z), np⟩
    show RO c _ o (upd g2.H (g.rho a) (.dK es) p)
    rw [upd_ne ne]
    exact RO.lw lw ro
/-- where the dict is found: a name, a field of a name -/
inductive Pth where
  | v (i : Nat) | f (i : Nat) (x : Str)
def Pth.e : Pth → E
  | .v i => eVar i
  | .f i x => eFld (eVar i) x
/-- a statement, the dict at p locked -/
def sLock (p : Pth) (m : St') : St' := fun σ S => match p.e σ S with
  | .ok (.ref a) _ => (match heapAt S a with
    | some (.dic kvs) => (m σ (S.set a (some (.lkd kvs)))).bind fun f S3 => (match heapAt S3 a with
      | some (.lkd _) => .ok f (S3.set a (some (.dic kvs)))
      | _ => .stuck)
    | _ => .stuck)
  | _ => .stuck
theorem s_lock {st : Stmt} {m : St'} {p : Pth} (h : PS X st (tS c m)) : PS X st (tS c (sLock p m)) := PSimp (ps_lock h) fun D σ H h => by
  obtain ⟨g0, S0, sm, g, S, rfl, rl, fl, S', e, q⟩ := h
  unfold sLock at e
  split at e
  · rename_i a _ _
    split at e
    · rename_i kvs hx
      obtain ⟨f, S3, e3, e⟩ := SB.R.of_bind e
      split at e
      · rename_i kvs2 hx3
        cases e
        obtain ⟨es, hd, ek, ev⟩ := (rl.h.ob a _ hx).1
        have en : Ents c g kvs es := ⟨ek, ev⟩
        refine ⟨g.rho a, .dK es, hd, trivial, fun od => ?_⟩
        obtain ⟨hl, xl⟩ := lock_rel rl.h hx hd en od
        refine ⟨g0, S0, sm, g.chg (g.rho a) (.frz od (.dK es)), S.set a (some (.lkd kvs)), rfl, rl.step hl xl, fl, S3, e3, ?_⟩
        cases fl with
        | nx sm2 =>
          intro g2 σ2 r2 l2
          obtain ⟨h2, sr, le⟩ := unlock_rel rl.h rl.x hx hd en r2 l2 hx3
          exact ⟨h2, q _ σ2 sr le⟩
        | bk sm2 =>
          intro g2 σ2 r2 l2
          obtain ⟨h2, sr, le⟩ := unlock_rel rl.h rl.x hx hd en r2 l2 hx3
          exact ⟨h2, q _ σ2 sr le⟩
        | ct sm2 =>
          intro g2 σ2 r2 l2
          obtain ⟨h2, sr, le⟩ := unlock_rel rl.h rl.x hx hd en r2 l2 hx3
          exact ⟨h2, q _ σ2 sr le⟩
        | rt w =>
          intro g2 v h2 x2 l2 r2
          obtain ⟨ea, lw, h3, hh, xx, lg⟩ := unlock_hx rl.h rl.x hx hd en h2 x2 l2 hx3
          exact ⟨h3, q _ v hh xx lg (RW.lw lw w v r2)⟩
      · cases e
    · cases e
  · cases e
/-- what of a dict is walked -/
inductive DK where
  | ky | vl | it
def dWalk (k : DK) (kvs : List (W × W)) : List W := match k with
  | .ky => kvs.map (·.1)
  | .vl => kvs.map (·.2)
  | .it => kvs.map fun p => .tup [p.1, p.2]
/-- a locked dict walked -/
def iDict (k : DK) (a : E) : I := fun σ S => (a σ S).bind fun x S1 => match x with
  | .ref p => (match heapAt S1 p with
    | some (.lkd kvs) => .ok (.seq (dWalk k kvs)) S1
    | _ => .stuck)
  | _ => .stuck
theorem Ents.at {g : Gh} {i : Nat} {p : W × W} : ∀ {kvs : List (W × W)} {es : List (Key × V)} {i : Nat}, Ents c g kvs es → kvs[i]? = some p → ∃ e, es[i]? = some e ∧ keyW p.1 = some e.1 ∧ RW c g p.2 e.2
  | [], es, i, h, e => by cases e
  | q :: kvs, es, 0, h, e => by
    obtain ⟨e', es', rfl, h1, h2, h3⟩ := h.inv
    cases e
    exact ⟨e', rfl, h1, h2⟩
  | q :: kvs, es, i + 1, h, e => by
    obtain ⟨e', es', rfl, h1, h2, h3⟩ := h.inv
    obtain ⟨e2, a1, a2, a3⟩ := Ents.at (i := i) (g := g) h3 e
    exact ⟨e2, a1, a2, a3⟩
theorem rw_key {g : Gh} {w : W} {k : Key} (h : keyW w = some k) : RW c g w (kV k) := by
  cases w with
  | int i => cases h; exact rw_int.mpr rfl
  | str x => cases h; exact rw_str.mpr rfl
  | _ => cases h
def dIt (k : DK) (d : Addr) (o : Obj) (es : List (Key × V)) : It := match k with
  | .ky => Itk d o es
  | .vl => Itd d o es
  | .it => Iti d o es
theorem dict_ok {k : DK} {g : Gh} {S : Hm} {d : Addr} {o : Obj} {kvs : List (W × W)} {es : List (Key × V)} (hd : g.H d = some (.frz o (.dK es))) (en : Ents c g kvs es) :
    ItOk c g (.seq (dWalk k kvs)) (dIt k d o es) := fun g' S' h' l i => by
  have hd' := l.lk _ _ _ hd
  have en' := en.le l
  have hlen := en.length
  cases k with
  | ky =>
    refine ⟨fun x hx => ?_, fun hx => ⟨hd', by rw [← hlen]; unfold dWalk at hx; rw [List.length_map] at hx; omega⟩⟩
    unfold dWalk at hx
    rw [List.getElem?_map] at hx
    obtain ⟨p, hp, rfl⟩ := Option.map_eq_some_iff.mp hx
    obtain ⟨e, e1, e2, e3⟩ := Ents.at (g := g') (i := i) en' hp
    refine ⟨⟨hd', (List.getElem?_eq_some_iff.mp e1).1⟩, fun v H' y => ?_⟩
    obtain ⟨rfl, k', v', e4, rfl⟩ := y
    rw [e1] at e4
    cases e4
    exact ⟨g', rfl, h', Ext.refl _ _, rw_key e2⟩
  | vl =>
    refine ⟨fun x hx => ?_, fun hx => ⟨hd', by rw [← hlen]; unfold dWalk at hx; rw [List.length_map] at hx; omega⟩⟩
    unfold dWalk at hx
    rw [List.getElem?_map] at hx
    obtain ⟨p, hp, rfl⟩ := Option.map_eq_some_iff.mp hx
    obtain ⟨e, e1, e2, e3⟩ := Ents.at (g := g') (i := i) en' hp
    refine ⟨⟨hd', (List.getElem?_eq_some_iff.mp e1).1⟩, fun v H' y => ?_⟩
    obtain ⟨rfl, k', e4⟩ := y
    rw [e1] at e4
    cases e4
    exact ⟨g', rfl, h', Ext.refl _ _, e3⟩
  | it =>
    refine ⟨fun x hx => ?_, fun hx => ⟨hd', by rw [← hlen]; unfold dWalk at hx; rw [List.length_map] at hx; omega⟩⟩
    unfold dWalk at hx
    rw [List.getElem?_map] at hx
    obtain ⟨p, hp, rfl⟩ := Option.map_eq_some_iff.mp hx
    obtain ⟨e, e1, e2, e3⟩ := Ents.at (g := g') (i := i) en' hp
    refine ⟨⟨hd', (List.getElem?_eq_some_iff.mp e1).1⟩, fun v H' y => ?_⟩
    obtain ⟨T, k', v', e4, rfl, nT, rfl⟩ := y
    rw [e1] at e4
    cases e4
    obtain ⟨h2, x2, r2⟩ := new_tup (ws := [p.1, p.2]) (vs := [kV k', v']) h' (by show 2 ≤ sizeLine; rw [sizeLine_eq]; decide) (.cons (rw_key e2) (.cons e3 .nil)) nT
    exact ⟨_, rfl, h2, x2, r2⟩
theorem idict_read {k : DK} {ma : E} {σ : L2.St} {H : Hp} {R : It → Hp → Prop} (h : tI c (iDict k ma) σ H R) : tE c ma σ H fun x H1 => ∃ d o es, x = .ref d ∧ H1 d = some (.frz o (.dK es)) ∧ R (dIt k d o es) H1 := by
  obtain ⟨g0, S0, sm, g, S, rfl, rl, it, S', e, q⟩ := h
  obtain ⟨x, S1, e1, e⟩ := SB.R.of_bind e
  refine ⟨g0, S0, sm, g, S, rfl, rl, x, S1, e1, fun g1 v h1 x1 r1 => ?_⟩
  cases x with
  | ref p =>
    simp only at e
    split at e
    · rename_i kvs hx
      cases e
      obtain ⟨o, es, hd, ek, ev⟩ := (h1.ob p _ hx).1
      obtain ⟨_, rfl⟩ := rw_ref.mp r1
      exact ⟨_, o, es, rfl, hd, q g1 _ h1 x1 (dict_ok (S := S') hd ⟨ek, ev⟩)⟩
    · cases e
  | _ => cases e
theorem i_items {elts : List Expr} {kk : Nat} {tpos apos cpos : Pos} {e : Expr} {ma : E} (he : PE X e (tE c ma)) (hbase : attributeBase e "items" X.env (eval e X.env) = eval e X.env) (hline : (apos.endLine == cpos.line) = true) :
    PI X (.Tuple elts kk tpos) (.Call (.Attribute e "items" apos) [] [] cpos) (tI c (iDict .it ma)) := PIimp (pi_items he hbase hline) fun σ H R h => idict_read h
theorem i_values {tg e : Expr} {apos cpos : Pos} {ma : E} (he : PE X e (tE c ma)) (hbase : attributeBase e "values" X.env (eval e X.env) = eval e X.env) (hline : (apos.endLine == cpos.line) = true) :
    PI X tg (.Call (.Attribute e "values" apos) [] [] cpos) (tI c (iDict .vl ma)) := PIimp (pi_values he hbase hline) fun σ H R h => idict_read h
theorem i_keys {tg e : Expr} {ma : E} (he : PE X e (tE c ma)) : PI X tg e (tI c (iDict .ky ma)) := PIimp (pi_keys he) fun σ H R h => by
  obtain ⟨g0, S0, sm, g, S, r1, r2, w, S', e1, q⟩ := idict_read h
  exact ⟨g0, S0, sm, g, S, r1, r2, w, S', e1, fun g' v h' x' r' => by
    obtain ⟨d, o, es, a1, a2, a3⟩ := q g' v h' x' r'
    exact ⟨d, o, a1, .inl ⟨es, a2, a3⟩⟩⟩
end
end SB
/-! SB, part 13i: extend, backwards, isinstance of two. -/
namespace SB
open PySem PySem.Spec PyProof.Rows L2
/-- an own list grows by a list -/
def sExt (i : Nat) (e : E) : St' := fun σ S => (e σ S).bind fun w S1 => match getOwn σ i with
  | some (.lst xs) => (match lstOf S1 w with
    | some ys => if xs.length + ys.length ≤ sizeLine then .ok (.nx (σ.set i (some (.own (.lst (xs ++ ys)))))) S1 else .stuck
    | none => .stuck)
  | _ => .stuck
/-- xs.extend(ys), xs on the own heap, ys another list -/
def fExtend (x : W) (ws : List W) (S : Hm) : R W := match x, ws with
  | .ref a, [w] => (match heapAt S a with
    | some (.lst xs) => (match lstOf S w with
      | some ys => if xs.length + ys.length ≤ sizeLine then .ok .non (S.set a (some (.lst (xs ++ ys)))) else .stuck
      | none => .stuck)
    | _ => .stuck)
  | _, _ => .stuck
def lRev (a : E) : L := fun σ S => (a σ S).bind fun x S1 => match lstOf S1 x with
  | some xs => .ok xs.reverse S1
  | none => .stuck
section
variable {c : Cn} {flds : List Str} {X : Cx} {pos p : Pos} {o e : Expr} {ma mo : E}
theorem s_ext {i : Nat} {x : Str} {a : Expr} {pos' p2 p3 : Pos} (hN : X.N[i]? = some x) (hv : Vis X.env.scope x) (hd : (x == ("__debug__" : Str)) = false) (hcd : (x == ("__classdict__" : Str)) = false) (ha : PE X a (tE c ma)) (n1 : ∀ u p, a ≠ .Starred u p)
    (hb : attributeBase (.Name x pos') "extend" X.env (eval (.Name x pos') X.env) = eval (.Name x pos') X.env) (hl : (p2.endLine == p3.line) = true) : PS X (.Expr (.Call (.Attribute (.Name x pos') "extend" p2) [a] [] p3) pos) (tS c (sExt i ma)) := by
  refine PSimp (ps_expr (pe_bm PySem.F.plainAttrs_list PySem.F.slot_list_extend PySem.F.type_list_extend mt_extend (pe_var (i := i) hN hv hd hcd) (pa_cons ha pa_nil (star_ne n1)) hb (by rw [star_ne n1]; rfl) hl (star_ne n1) rfl) rfl) fun D σ H h => ?_
  obtain ⟨g0, S0, sm, g, S, rfl, rl, fl, S', e, q⟩ := h
  obtain ⟨w, S1, e1, e⟩ := SB.R.of_bind e
  unfold getOwn at e
  split at e
  · rename_i xs ho
    split at ho
    · rename_i o eo
      cases ho
      split at e
      · rename_i ys hy
        split at e
        · rename_i hz
          cases e
          obtain ⟨p, es, ro, f, nl, np⟩ := rl.own i _ eo
          obtain ⟨vs, hp, z, rv⟩ := ro
          refine ⟨.ref p, es, .inl ⟨rfl, _, .inl (.inl hp)⟩, g0, S0, sm, g, S, rfl, rl, w, _, e1, fun g1 v h1 x1 r1 => ?_⟩
          have rl1 := rl.step h1 x1
          obtain ⟨p', es', ro', f', nl', np'⟩ := rl1.own i _ eo
          rw [es] at es'
          cases es'
          obtain ⟨vs', hp', z', rv'⟩ := ro'
          obtain ⟨b, us, rfl, hb2, z2, ru⟩ := lst_at h1 r1 hy
          refine ⟨p, b, vs', us, rfl, rfl, hp', hb2, by rw [← rv'.length, ← ru.length]; exact hz, ?_⟩
          have nf : noFrz (.lst vs') := fun _ _ z => by cases z
          refine q (g1.chg p (.lst (vs' ++ us))) σ (rl1.chg eo es f' nl' np' hp' nf ⟨_, rfl, ?_, ?_⟩) ((x1.le rl.h).trans (Gh.chg_le f' hp' nf))
          · rw [List.length_append]; exact hz
          · exact (RWs.le (Gh.chg_le f' hp' nf) _ _ rv').append (RWs.le (Gh.chg_le f' hp' nf) _ _ ru)
        · cases e
      · cases e
    · cases ho
  · cases e
theorem bm_extend : BmS c fExtend rExtend := fun g S x ws v vs w S' Q h rx rs e q => by
  unfold fExtend at e
  split at e
  · split at e
    · rename_i xs hx
      split at e
      · rename_i ys hy
        split at e
        · rename_i hz
          cases e
          obtain ⟨_, rfl⟩ := rw_ref.mp rx
          obtain ⟨vs', hp, z, rv⟩ := (h.ob _ _ hx).1
          obtain ⟨u, rfl, ru⟩ := rs.one
          obtain ⟨b, us, rfl, hb, z2, rus⟩ := lst_at h ru hy
          have f0 := (h.ob _ _ hx).2
          have le := Gh.chg_le (o := .lst (vs' ++ us)) f0 hp (fun _ _ z => by cases z)
          obtain ⟨h', x'⟩ := h.hchg (w := .lst (vs' ++ us)) hx (show RO c _ (.lst (xs ++ ys)) _ from ⟨_, rfl, by rw [List.length_append]; exact hz, (RWs.le le _ _ rv).append (RWs.le le _ _ rus)⟩)
          exact ⟨_, b, vs', us, rfl, rfl, hp, hb, by rw [← rv.length, ← rus.length]; exact hz, q _ _ h' x' (rw_non.mpr rfl)⟩
        · cases e
      · cases e
    · cases e
  · cases e
theorem e_hext {x : Str} {a : Expr} {p2 : Pos} (hx : x = "extend") (ho : PE X o (tE c mo)) (ha : PE X a (tE c ma)) (n1 : ∀ u p, a ≠ .Starred u p) (hK : X.K = c.K)
    (hb : attributeBase o x X.env (eval o X.env) = eval o X.env) (hl : (p2.endLine == pos.line) = true) : PE X (.Call (.Attribute o x p2) [a] [] pos) (tE c (eBm fExtend mo (aCons ma aNil))) := by
  subst hx
  exact PEimp (pe_bm PySem.F.plainAttrs_list PySem.F.slot_list_extend PySem.F.type_list_extend mt_extend ho (a_cons ha a_nil (star_ne n1)) hb (by rw [star_ne n1]; rfl) hl (star_ne n1) rfl) fun σ H Q h => tE_bm hK bm_extend h
theorem RWs.reverse {g : Gh} {ws : List W} {vs : List V} (r : RWs c g ws vs) : RWs c g ws.reverse vs.reverse := by
  induction ws generalizing vs with
  | nil =>
    unfold RWs at r
    subst r
    exact .nil
  | cons w ws ih =>
    obtain ⟨v, t, rfl, r1, r2⟩ := r.cons'
    rw [List.reverse_cons, List.reverse_cons]
    exact (ih r2).append (.cons r1 .nil)
theorem e_rev {k : Nat} {p1 p2 p3 : Pos} (hK : X.K = c.K) (he : PE X e (tE c ma)) : PE X (.Subscript e (.Slice none none (some (.UnaryOp .USub (.Constant (.int 1) k p1) p2)) p3) pos) (tLs c (lRev ma)) := PEimp (pe_revL he) fun σ H Q h => by
  obtain ⟨g0, S0, sm, g, S, rfl, rl, ws, S', e, q⟩ := h
  obtain ⟨x, S1, e1, e⟩ := SB.R.of_bind e
  refine ⟨g0, S0, sm, g, S, rfl, rl, x, S1, e1, fun g1 v h1 x1 r1 => ?_⟩
  split at e
  · rename_i xs hx
    cases e
    obtain ⟨p, vs, rfl, hp, z, rv⟩ := lst_at h1 r1 hx
    refine ⟨p, vs, rfl, .of hp, fun l nl => ?_⟩
    refine q (g1.lay l (.lst vs.reverse)) l _ (h1.lay nl _) (x1.trans (Ext.lay h1 nl _)) upd_same (by rw [List.length_reverse]; exact z) (RWs.mono h1 (Ext.lay h1 nl _) _ _ rv.reverse) (fun z => h1.fz l z nl) (fun ⟨a, o, ea, ra⟩ => h1.rho_some ea (by rw [show g1.rho a = l from ra]; exact nl)) ?_
    cases q0 : g.H l with
    | none => rfl
    | some u => exact absurd nl (x1.tr l (by rw [q0]; intro z; cases z))
  · cases e
theorem e_isi2 {x : Str} {en en2 : Expr} {T T2 : Ty} {v v2 : V} {u u2 : Value} {kk : Nat} {p2 : Pos} (hx : x = "isinstance") (k : KOk c flds) (hK : X.K = c.K) (hg : Gl X x) (hm : X.mg x = none) (he : PE X e (tE c ma)) (hn : PE X en (tC v)) (ht : TyName c T v u) (hn2 : PE X en2 (tC v2)) (ht2 : TyName c T2 v2 u2)
    (h1 : ∀ u q, e ≠ .Starred u q) (h2 : ∀ u q, en ≠ .Starred u q) (h3 : ∀ u q, en2 ≠ .Starred u q) :
    PE X (.Call (.Name x p) [e, .Tuple [en, en2] kk p2] [] pos) (tE c (eIsi [T, T2] ma)) := by
  subst hx
  have nst : ∀ u q, Expr.Tuple [en, en2] kk p2 ≠ .Starred u q := fun u q z => by cases z
  refine PEimp (pe_callB call_isiT hg hm PyProof.Rows.boot_isinstance (pa_cons he (pa_cons (pe_tup (pa_cons hn (pa_cons hn2 pa_nil (star_ne h3)) (star_ne h2))) pa_nil (star_ne nst)) (star_ne h1)) (by decide) (by decide) (star_ne h1) (by rw [star_ne nst]; rfl)) fun σ H Q h => ?_
  obtain ⟨g0, S0, sm, g, S, rfl, rl, w, S', e, q⟩ := h
  obtain ⟨x, S1, e1, e⟩ := SB.R.of_bind e
  refine ⟨g0, S0, sm, g, S, rfl, rl, x, S1, e1, fun g1 vx h1 x1 r1 => ?_⟩
  split at e
  · rename_i t htt
    cases e
    refine ⟨by show 2 ≤ sizeLine; rw [sizeLine_eq]; decide, fun tp np => ?_⟩
    have hl := h1.lay np (.tup [v, v2])
    have xl := Ext.lay h1 np (.tup [v, v2])
    obtain ⟨tv, hty, hcase⟩ := ty_at k hl (RW.mono h1 xl _ _ r1) (S := S') htt
    rw [hK]
    have k1 := kit_at k hcase ht
    have k2 := kit_at k hcase ht2
    refine ⟨vx, tp, [v, v2], tv, [u, u2], _, rfl, upd_same, .cons ht.cls (.cons ht2.cls .nil), hty, ?_, q _ _ hl (x1.trans xl) (rw_bl.mpr rfl)⟩
    unfold PySem.W.kitAny
    rw [k1]
    simp only [List.any_cons, List.any_nil, Bool.or_false]
    cases isTy t T with
    | true => rfl
    | false =>
      unfold PySem.W.kitAny
      rw [k2]
      cases isTy t T2 <;> rfl
  · cases e
end
end SB
/-! SB, part 13j: x += e, self.f += e, d[k] += e. -/
namespace SB
open PySem PySem.Spec PyProof.Rows L2
/-- x += e (ints) -/
def sAug (i : Nat) (e : E) : St' := fun σ S => match getSlot σ i with
  | some x => (e σ S).bind fun y S1 => (match x, y with
    | .int p, .int q => .ok (.nx (σ.set i (some (.val (.int (p + q)))))) S1
    | _, _ => .stuck)
  | none => .stuck
/-- o.f += e (ints), o an instance of the own heap -/
def sFAug (i : Nat) (f : Str) (e : E) : St' := fun σ S => match getSlot σ i with
  | some (.ref a) => (match heapAt S a with
    | some (.ins C0 _ _) => (match fldOf S f (.ref a) with
      | some (.int p) => (e σ S).bind fun y S1 => (match y with
        | .int q => (match heapAt S1 a with
          | some (.ins C ks vs) => if C = C0 ∧ ks.length < 1000 then .ok (.nx σ) (S1.set a (some (.ins C (putKV f (.int (p + q)) ks vs).1 (putKV f (.int (p + q)) ks vs).2))) else .stuck
          | _ => .stuck)
        | _ => .stuck)
      | _ => .stuck)
    | _ => .stuck)
  | _ => .stuck
section
variable {c : Cn} {flds : List Str} {X : Cx} {pos p : Pos} {e value : Expr} {ma : E}
theorem slot_of {sm : Sl} {i : Nat} {w : W} (h : getSlot sm i = some w) : sm[i]? = some (some (.val w)) := by
  unfold getSlot at h
  split at h
  · rename_i h1; cases h; exact h1
  · cases h
theorem s_aug {i : Nat} {x : Str} {pos' : Pos} (hN : X.N.Nodup) (hi : X.N[i]? = some x) (hx : Loc X.env.scope x) (hf : X.fn x = true ∨ X.env.scope.names.lookup x = some .local) (he : PE X e (tE c ma)) : PS X (.AugAssign (.Name x pos') .Add e pos) (tS c (SB.sAug i ma)) :=
  PSimp (ps_aug hN hi hx he ip_add hf) fun D σ H h => by
    obtain ⟨g0, S0, sm, g, S, rfl, rl, fl, S', e, q⟩ := h
    unfold SB.sAug at e
    split at e
    · rename_i w hw
      obtain ⟨y, S1, e1, e⟩ := SB.R.of_bind e
      cases w with
      | int a =>
        cases y with
        | int b =>
          cases e
          obtain ⟨v, ev, rv⟩ := rl.val i _ (slot_of hw)
          obtain rfl := rw_int.mp rv
          refine ⟨_, ev, g0, S0, sm, g, S, rfl, rl, _, _, e1, fun g1 u h1 x1 r1 => ?_⟩
          obtain rfl := rw_int.mp r1
          exact ⟨a, b, rfl, rfl, q g1 _ ((rl.step h1 x1).setv (rw_int.mpr rfl)) (x1.le rl.h)⟩
        | _ => cases e
      | _ => cases e
    · cases e
theorem s_faug {i : Nat} {x f : Str} {p2 : Pos} (hK : X.K = c.K) (k : KOk c flds) (hf : f ∈ flds) (hN : X.N[i]? = some x) (hv : Vis X.env.scope x) (hd : (x == ("__debug__" : Str)) = false) (hcd : (x == ("__classdict__" : Str)) = false)
    (ha : PE X value (tE c ma)) : PS X (.AugAssign (.Attribute (.Name x p) f p2) .Add value pos) (tS c (sFAug i f ma)) :=
  PSimp (ps_fldaug (pe_var (i := i) hN hv hd hcd) ha in_add) fun D σ H h => by
    obtain ⟨g0, S0, sm, g, S, rfl, rl, fl, S', e, q⟩ := h
    unfold sFAug at e
    split at e
    · rename_i a hs
      split at e
      · rename_i C0 ks0 vs0 hx0
        split at e
        · rename_i pv hfl
          obtain ⟨y, S1, e1, e⟩ := SB.R.of_bind e
          split at e
          · rename_i qv
            split at e
            · rename_i C ks vs hx
              split at e
              · rename_i hlen
                cases e
                obtain ⟨u, eu, ru⟩ := rl.val i _ (slot_of hs)
                obtain ⟨_, rfl⟩ := rw_ref.mp ru
                obtain ⟨cA, dx, fs, hp, hc, hk, rr⟩ := (rl.h.ob a _ hx0).1
                have hfl' : (ks0.zip vs0).lookup f = some (.int pv) := by
                  simp only [fldOf, hx0] at hfl
                  exact hfl
                obtain ⟨v, ev, rv⟩ := zip_lookup (g := g) hk rr hfl'
                obtain rfl := rw_int.mp rv
                refine ⟨_, eu, _, cA, dx, fs, _, rfl, hp, by rw [hK]; exact k.cl C0 cA hc, by rw [hK]; exact k.na C0 cA f hc hf, ev, ?_⟩
                refine ⟨g0, S0, sm, g, S, rfl, rl, _, _, e1, fun g1 u1 h1 x1 r1 => ?_⟩
                obtain rfl := rw_int.mp r1
                obtain ⟨cA1, dx1, fs1, hp1, hc1, hk1, rr1⟩ := (h1.ob a _ hx).1
                have f1 := (h1.ob a _ hx).2
                have er : g1.rho a = g.rho a := x1.rho a (by rw [rl.h.n]; exact heapAt_lt hx0)
                rw [er] at hp1 f1
                have ecc : cA1 = cA := by
                  have := hc1
                  rw [hlen.1, hc] at this
                  exact (Option.some.inj this).symm
                subst ecc
                refine ⟨pv, qv, rfl, rfl, dx1, fs1, hp1, by rw [keys_len (g := g1) hk1]; exact hlen.2, ?_⟩
                have nf : noFrz (.ins cA1 dx1 fs1) := fun _ _ z => by cases z
                have le := Gh.chg_le (o := .ins cA1 dx1 (putF f (.int (pv + qv)) fs1)) f1 hp1 nf
                obtain ⟨k1, k2⟩ := put_kv (f := f) (show RW c g1 (.int (pv + qv)) (.int (pv + qv)) from rw_int.mpr rfl) hk1 rr1
                obtain ⟨h', x'⟩ := h1.hchg (w := .ins cA1 dx1 (putF f (.int (pv + qv)) fs1)) hx (show RO c _ (.ins C (putKV f (.int (pv + qv)) ks vs).1 (putKV f (.int (pv + qv)) ks vs).2) _ from ⟨cA1, dx1, _, rfl, hc1, k1, RWs.le (by rw [er]; exact le) _ _ k2⟩)
                rw [er] at h' x'
                exact q _ σ ((rl.step h1 x1).step h' x') ((x1.le rl.h).trans (x'.le h1))
              · cases e
            · cases e
          · cases e
        · cases e
      · cases e
    · cases e
end
end SB
/-! SB, part 13l: dicts with tuple keys. -/
namespace SB
open PySem PySem.Spec PyProof.Rows L2
def getN (kvs : List (W × W)) (k : NestedKey) : Option W := (kvs.find? fun q => decide (keyT q.1 = some k)).map (·.2)
def putNW (kvs : List (W × W)) (y : W) (k : NestedKey) (v : W) : List (W × W) := if (getN kvs k).isSome = true then kvs.map (fun q => if keyT q.1 = some k then (q.1, v) else q) else kvs ++ [(y, v)]
def dcnOf (S : Hm) : W → Option (List (W × W))
  | .ref a => (match heapAt S a with
    | some (.dcN kvs) => some kvs
    | some (.lkN kvs) => some kvs
    | _ => none)
  | _ => none
def eDictN : E := fun _ S => .ok (.ref S.length) (S ++ [some (.dcN [])])
def fNGet (x y : W) (S : Hm) : R W := match dcnOf S x with
  | some kvs => (match keyT y with
    | some k => opt (getN kvs k) S
    | none => .stuck)
  | none => .stuck
def eNGet (a b : E) : E := fun σ S => (a σ S).bind fun x S1 => (b σ S1).bind fun y S2 => fNGet x y S2
def fNIn (n : Bool) (y x : W) (S : Hm) : R W := match dcnOf S x with
  | some kvs => (match keyT y with
    | some k => .ok (.bl (xor n (getN kvs k).isSome)) S
    | none => .stuck)
  | none => .stuck
def eNIn (n : Bool) (a b : E) : E := fun σ S => (a σ S).bind fun y S1 => (b σ S1).bind fun x S2 => fNIn n y x S2
def eNGet2 (d a b : E) : E := fun σ S => (d σ S).bind fun x S1 => (match dcnOf S1 x with
  | some _ => (a σ S1).bind fun y S2 => (b σ S2).bind fun z S3 => (match dcnOf S3 x with
    | some kvs => (match keyT y with
      | some k => .ok ((getN kvs k).getD z) S3
      | none => .stuck)
    | none => .stuck)
  | none => .stuck)
def fNPut (x y v : W) (S : Hm) : R Hm := match x with
  | .ref a => (match heapAt S a with
    | some (.dcN kvs) => (match keyT y with
      | some k => if kvs.length < sizeLine then .ok (S.set a (some (.dcN (putNW kvs y k v)))) S else .stuck
      | none => .stuck)
    | _ => .stuck)
  | _ => .stuck
def sNPut (d a e : E) : St' := fun σ S => (e σ S).bind fun v S1 => (d σ S1).bind fun x S2 => (a σ S2).bind fun y S3 => (fNPut x y v S3).bind fun S4 _ => .ok (.nx σ) S4
section
variable {c : Cn} {X : Cx} {pos pos' apos cpos : Pos} {o a b value : Expr} {mo ma mb mv : E}
mutual
theorem rw_keyN {g : Gh} : ∀ {w : W} {k : NestedKey} {v : V}, keyN w = some k → RW c g w v → KeyN c.K g.H k v
  | .int i, k, v, h, r => by
    simp only [keyN] at h
    cases h
    rw [rw_int.mp r]
    exact .num i
  | .str x, k, v, h, r => by
    simp only [keyN] at h
    cases h
    rw [rw_str.mp r]
    exact .text x
  | .tup ws, k, v, h, r => by
    simp only [keyN] at h
    split at h
    · rename_i ks hk
      cases h
      obtain ⟨p, vs, rfl, hp, _, rr⟩ := rw_tup.mp r
      exact .tup (sqt_of hp) (rw_keyNs hk rr)
    · cases h
  | .non, k, v, h, r => by simp [keyN] at h
  | .bl _, k, v, h, r => by simp [keyN] at h
  | .byt _, k, v, h, r => by simp [keyN] at h
  | .fl _, k, v, h, r => by simp [keyN] at h
  | .obj _ _ _, k, v, h, r => by simp [keyN] at h
  | .fd _ _, k, v, h, r => by simp [keyN] at h
  | .ref _, k, v, h, r => by simp [keyN] at h
  | .scr _, k, v, h, r => by simp [keyN] at h
theorem rw_keyNs {g : Gh} : ∀ {ws : List W} {ks : List NestedKey} {vs : List V}, keyNs ws = some ks → RWs c g ws vs → KeysN c.K g.H ks vs
  | [], ks, vs, h, r => by
    simp only [keyNs] at h
    cases h
    unfold RWs at r
    subst r
    exact .nil
  | w :: ws, ks, vs, h, r => by
    simp only [keyNs] at h
    obtain ⟨v, t, rfl, r1, r2⟩ := r.cons'
    split at h
    · rename_i k hk
      split at h
      · rename_i kt hkt
        cases h
        exact .cons (rw_keyN hk r1) (rw_keyNs hkt r2)
      · cases h
    · cases h
end
theorem keyT_at {g : Gh} {w : W} {k : NestedKey} {v : V} (h : keyT w = some k) (r : RW c g w v) : ∃ p, v = .ref p ∧ KeyN c.K g.H k (.ref p) ∧ k.depth ≤ 8 := by
  unfold keyT at h
  split at h
  · split at h
    · rename_i k' hk
      split at h
      · rename_i hd
        cases h
        obtain ⟨p, vs, rfl, _⟩ := rw_tup.mp r
        exact ⟨p, rfl, rw_keyN hk r, hd⟩
      · cases h
    · cases h
  · cases h
structure EntsN (c : Cn) (g : Gh) (kvs : List (W × W)) (es : List EN) : Prop where
  t : kvs.map (fun q => keyT q.1) = es.map (fun x => some x.1)
  k : RWs c g (kvs.map (·.1)) (es.map fun x => V.ref x.2.1)
  v : RWs c g (kvs.map (·.2)) (es.map (·.2.2))
theorem EntsN.nil {g : Gh} : EntsN c g [] [] := ⟨rfl, .nil, .nil⟩
theorem EntsN.inv {g : Gh} {p : W × W} {kvs : List (W × W)} {es : List EN} (h : EntsN c g (p :: kvs) es) : ∃ e es', es = e :: es' ∧ keyT p.1 = some e.1 ∧ RW c g p.1 (.ref e.2.1) ∧ RW c g p.2 e.2.2 ∧ EntsN c g kvs es' := by
  obtain ⟨h1, h2, h3⟩ := h
  cases es with
  | nil => simp at h1
  | cons e es =>
    simp only [List.map_cons, List.cons.injEq] at h1 h2 h3
    obtain ⟨v, t, e1, r1, r2⟩ := h2.cons'
    obtain ⟨v', t', e1', r1', r2'⟩ := h3.cons'
    cases e1
    cases e1'
    exact ⟨e, es, rfl, h1.1, r1, r1', h1.2, r2, r2'⟩
theorem EntsN.cons {g : Gh} {p : W × W} {kvs : List (W × W)} {e : EN} {es : List EN} (h1 : keyT p.1 = some e.1) (h2 : RW c g p.1 (.ref e.2.1)) (h3 : RW c g p.2 e.2.2) (h : EntsN c g kvs es) : EntsN c g (p :: kvs) (e :: es) :=
  ⟨by rw [List.map_cons, List.map_cons, h1, h.t], by rw [List.map_cons, List.map_cons]; exact .cons h2 h.k, by rw [List.map_cons, List.map_cons]; exact .cons h3 h.v⟩
theorem EntsN.length {g : Gh} {kvs : List (W × W)} {es : List EN} (h : EntsN c g kvs es) : kvs.length = es.length := by
  have := congrArg List.length h.t
  rwa [List.length_map, List.length_map] at this
theorem EntsN.le {g g' : Gh} (x : Le g g') {kvs : List (W × W)} {es : List EN} (h : EntsN c g kvs es) : EntsN c g' kvs es := ⟨h.t, RWs.le x _ _ h.k, RWs.le x _ _ h.v⟩
theorem EntsN.keys {g : Gh} : ∀ {kvs : List (W × W)} {es : List EN}, EntsN c g kvs es → KeysOk c.K g.H es
  | [], es, h => by
    have := h.length
    cases es with
    | nil => intro x hx; cases hx
    | cons e es => simp at this
  | p :: kvs, es, h => by
    obtain ⟨e, es', rfl, h1, h2, _, h4⟩ := h.inv
    intro x hx
    rcases List.mem_cons.mp hx with rfl | hx
    · obtain ⟨q, eq, hk, hd⟩ := keyT_at h1 h2
      cases eq
      exact ⟨hk, hd⟩
    · exact h4.keys x hx
theorem getN_cons {p : W × W} {kvs : List (W × W)} {k : NestedKey} : getN (p :: kvs) k = if keyT p.1 = some k then some p.2 else getN kvs k := by
  unfold getN
  rw [List.find?_cons]
  by_cases h : keyT p.1 = some k
  · simp [h]
  · simp [h]
theorem atN_cons {p : EN} {kvs : List EN} {k : NestedKey} : atN (p :: kvs) k = if p.1 = k then some p.2.2 else atN kvs k := by
  unfold atN
  rw [List.find?_cons]
  by_cases h : p.1 = k
  · simp [h]
  · simp [h]
theorem EntsN.get {g : Gh} {k : NestedKey} : ∀ {kvs : List (W × W)} {es : List EN}, EntsN c g kvs es → (getN kvs k = none ∧ atN es k = none) ∨ ∃ w v, getN kvs k = some w ∧ atN es k = some v ∧ RW c g w v
  | [], es, h => by
    have := h.length
    cases es with
    | nil => exact .inl ⟨rfl, rfl⟩
    | cons e es => simp at this
  | p :: kvs, es, h => by
    obtain ⟨e, es', rfl, h1, h2, h3, h4⟩ := h.inv
    rw [getN_cons, atN_cons, h1]
    by_cases q : e.1 = k
    · rw [if_pos (by rw [q]), if_pos q]
      exact .inr ⟨p.2, e.2.2, rfl, rfl, h3⟩
    · rw [if_neg (fun z => q (Option.some.inj z)), if_neg q]
      exact h4.get
theorem EntsN.isSome {g : Gh} {k : NestedKey} {kvs : List (W × W)} {es : List EN} (h : EntsN c g kvs es) : (getN kvs k).isSome = (atN es k).isSome := by
  rcases h.get (k := k) with ⟨a, b⟩ | ⟨w, v, a, b, _⟩ <;> rw [a, b] <;> rfl
theorem EntsN.upd {g : Gh} {k : NestedKey} {v : W} {u : V} (hv : RW c g v u) : ∀ {kvs : List (W × W)} {es : List EN}, EntsN c g kvs es → EntsN c g (kvs.map fun q => if keyT q.1 = some k then (q.1, v) else q) (es.map fun x => if x.1 = k then (x.1, x.2.1, u) else x)
  | [], es, h => by
    have := h.length
    cases es with
    | nil => exact .nil
    | cons e es => simp at this
  | p :: kvs, es, h => by
    obtain ⟨e, es', rfl, h1, h2, h3, h4⟩ := h.inv
    rw [List.map_cons, List.map_cons]
    refine .cons ?_ ?_ ?_ (h4.upd hv)
    · rw [h1]
      by_cases q : e.1 = k
      · rw [if_pos (by rw [q]), if_pos q]; exact h1
      · rw [if_neg (fun z => q (Option.some.inj z)), if_neg q]; exact h1
    · rw [h1]
      by_cases q : e.1 = k
      · rw [if_pos (by rw [q]), if_pos q]; exact h2
      · rw [if_neg (fun z => q (Option.some.inj z)), if_neg q]; exact h2
    · rw [h1]
      by_cases q : e.1 = k
      · rw [if_pos (by rw [q]), if_pos q]; exact hv
      · rw [if_neg (fun z => q (Option.some.inj z)), if_neg q]; exact h3
theorem EntsN.app {g : Gh} {p : W × W} {e : EN} (h1 : keyT p.1 = some e.1) (h2 : RW c g p.1 (.ref e.2.1)) (h3 : RW c g p.2 e.2.2) {kvs : List (W × W)} {es : List EN} (h : EntsN c g kvs es) : EntsN c g (kvs ++ [p]) (es ++ [e]) :=
  ⟨by rw [List.map_append, List.map_append, h.t, List.map_cons, List.map_cons, h1]; rfl, by rw [List.map_append, List.map_append]; exact h.k.append (.cons h2 .nil), by rw [List.map_append, List.map_append]; exact h.v.append (.cons h3 .nil)⟩
theorem EntsN.put {g : Gh} {k : NestedKey} {y v : W} {p : Addr} {u : V} (hy : keyT y = some k) (ry : RW c g y (.ref p)) (hv : RW c g v u) {kvs : List (W × W)} {es : List EN} (h : EntsN c g kvs es) : EntsN c g (putNW kvs y k v) (putN es k p u) := by
  unfold putNW putN
  rw [h.isSome]
  by_cases q : (atN es k).isSome = true
  · rw [if_pos q, if_pos q]; exact h.upd hv
  · rw [if_neg q, if_neg q]; exact h.app hy ry hv
theorem dcn_at {g : Gh} {S : Hm} {x : W} {v : V} {kvs : List (W × W)} (h : HRel c g S) (r : RW c g x v) (e : dcnOf S x = some kvs) : ∃ p a es, v = .ref p ∧ Rd g.H p (extN c.P c.w a es) ∧ EntsN c g kvs es := by
  unfold dcnOf at e
  split at e
  · rename_i a
    obtain ⟨_, rfl⟩ := rw_ref.mp r
    split at e
    · rename_i hx
      cases e
      obtain ⟨a', es, hp, t, k, q⟩ := (h.ob a _ hx).1
      exact ⟨_, a', es, rfl, .inl hp, t, k, q⟩
    · rename_i hx
      cases e
      obtain ⟨od, a', es, hp, t, k, q⟩ := (h.ob a _ hx).1
      exact ⟨_, a', es, rfl, .inr ⟨od, hp⟩, t, k, q⟩
    · cases e
  · cases e
/-- the context is the layer's -/
structure XC (X : Cx) (c : Cn) : Prop where
  K : X.K = c.K
  P : X.prog = c.P
  w : X.w = c.w
theorem e_dictN (hx : XC X c) : PE X (.Dict [] [] pos) (tE c eDictN) := PEimp pe_dnewN fun σ H Q h => by
  obtain ⟨g0, S0, sm, g, S, rfl, rl, w, S', e, q⟩ := h
  cases e
  intro p np
  rw [hx.P, hx.w]
  have h1 := rl.h.lay np (extN c.P c.w p [])
  have x1 := Ext.lay rl.h np (extN c.P c.w p [])
  have nl : ¬ live (g.lay p (extN c.P c.w p [])) S p := fun ⟨a, o, ea, ra⟩ => rl.h.rho_some ea (by rw [show g.rho a = p from ra]; exact np)
  have nf : ¬ (g.lay p (extN c.P c.w p [])).Fz p := fun f => rl.h.fz p f np
  refine q ((g.lay p (extN c.P c.w p [])).put p) (.ref p) (h1.put (o := .dcN []) ⟨p, [], upd_same, rfl, .nil, .nil⟩ nf nl) (x1.put h1 np _) ?_
  rw [rw_ref]
  refine ⟨?_, ?_⟩
  · show S.length < g.n + 1
    rw [rl.h.n]; exact Nat.lt_succ_self _
  · show V.ref p = V.ref (if S.length = g.n then p else g.rho S.length)
    rw [if_pos rl.h.n.symm]
theorem nat_at (hx : XC X c) {g : Gh} {S : Hm} {x y : W} {u v : V} {kvs : List (W × W)} {k : NestedKey} (h : HRel c g S) (rx : RW c g x u) (ry : RW c g y v) (hd : dcnOf S x = some kvs) (hy : keyT y = some k) :
    ∃ a b es, NAt X g.H u v a b es k ∧ EntsN c g kvs es := by
  obtain ⟨p, a', es, rfl, rd, en⟩ := dcn_at h rx hd
  obtain ⟨b, rfl, hk, hdp⟩ := keyT_at hy ry
  exact ⟨p, b, es, ⟨a', rfl, rfl, by rw [hx.P, hx.w]; exact rd, by rw [hx.K]; exact en.keys, by rw [hx.K]; exact hk, hdp⟩, en⟩
theorem e_nget (hx : XC X c) (hu : X.A.units + 64 < cLine) (ho : PE X o (tE c mo)) (hi : PE X a (tE c ma)) (hs : NoSl a) : PE X (.Subscript o a pos) (tE c (eNGet mo ma)) := PEimp (pe_nget hu ho hi hs) fun σ H Q h => by
  obtain ⟨g0, S0, sm, g, S, rfl, rl, w, S', e, q⟩ := h
  obtain ⟨x, S1, e1, e⟩ := SB.R.of_bind e
  obtain ⟨y, S2, e2, e⟩ := SB.R.of_bind e
  refine ⟨g0, S0, sm, g, S, rfl, rl, x, S1, e1, fun g1 v h1 x1 r1 => ?_⟩
  refine ⟨g0, S0, sm, g1, S1, rfl, rl.step h1 x1, y, S2, e2, fun g2 u h2 x2 r2 => ?_⟩
  unfold fNGet at e
  split at e
  · rename_i kvs hk
    split at e
    · rename_i k hy
      obtain ⟨e3, rfl⟩ := opt_ok e
      obtain ⟨p, b, es, na, en⟩ := nat_at hx h2 (RW.mono h1 x2 _ _ r1) r2 hk hy
      rcases en.get (k := k) with ⟨g1', _⟩ | ⟨w', v', g1', g2', rv⟩
      · rw [g1'] at e3; cases e3
      · rw [g1'] at e3
        cases e3
        exact ⟨p, b, es, k, v', na, g2', q g2 v' h2 (x1.trans x2) rv⟩
    · cases e
  · cases e
theorem nin_read (hx : XC X c) {n : Bool} {σ : L2.St} {H : Hp} {Q : VK} (h : tE c (eNIn n ma mo) σ H Q) : tNIn X n (tE c ma) (tE c mo) σ H Q := by
  obtain ⟨g0, S0, sm, g, S, rfl, rl, w, S', e, q⟩ := h
  obtain ⟨y, S1, e1, e⟩ := SB.R.of_bind e
  obtain ⟨x, S2, e2, e⟩ := SB.R.of_bind e
  refine ⟨g0, S0, sm, g, S, rfl, rl, y, S1, e1, fun g1 v h1 x1 r1 => ?_⟩
  refine ⟨g0, S0, sm, g1, S1, rfl, rl.step h1 x1, x, S2, e2, fun g2 u h2 x2 r2 => ?_⟩
  unfold fNIn at e
  split at e
  · rename_i kvs hk
    split at e
    · rename_i k hy
      cases e
      obtain ⟨p, b, es, na, en⟩ := nat_at hx h2 r2 (RW.mono h1 x2 _ _ r1) hk hy
      refine ⟨p, b, es, k, na, ?_⟩
      rw [← en.isSome]
      exact q g2 _ h2 (x1.trans x2) (rw_bl.mpr rfl)
    · cases e
  · cases e
theorem e_nin (hx : XC X c) (hu : X.A.units + 64 < cLine) (ho : PE X o (tE c mo)) (hi : PE X a (tE c ma)) (hb : behindInMarks .In o = false) : PE X (.Compare a [.In] [o] pos) (tE c (eNIn false ma mo)) :=
  PEimp (pe_cmp (pc_nin hu hi ho) hb) fun σ H Q h => nin_read hx h
theorem e_nnotin (hx : XC X c) (hu : X.A.units + 64 < cLine) (ho : PE X o (tE c mo)) (hi : PE X a (tE c ma)) (hb : behindInMarks .NotIn o = false) : PE X (.Compare a [.NotIn] [o] pos) (tE c (eNIn true ma mo)) :=
  PEimp (pe_cmp (pc_nnotin hu hi ho) hb) fun σ H Q h => nin_read hx h
theorem e_nget2 (hx : XC X c) (hu : X.A.units + 64 < cLine) (ho : PE X o (tE c mo)) (he : PE X a (tE c ma)) (hb : PE X b (tE c mb)) (m : M2 X o "get" apos a b cpos) : PE X (.Call (.Attribute o "get" apos) [a, b] [] cpos) (tE c (eNGet2 mo ma mb)) := PEimp (pe_nget2 hu ho he hb m) fun σ H Q h => by
  obtain ⟨g0, S0, sm, g, S, rfl, rl, w, S', e, q⟩ := h
  obtain ⟨x, S1, e1, e⟩ := SB.R.of_bind e
  refine ⟨g0, S0, sm, g, S, rfl, rl, x, S1, e1, fun g1 v h1 x1 r1 => ?_⟩
  split at e
  · rename_i k0 hk0
    obtain ⟨y, S2, e2, e⟩ := SB.R.of_bind e
    obtain ⟨z, S3, e3, e⟩ := SB.R.of_bind e
    obtain ⟨p, a', es, rfl, rd, en⟩ := dcn_at h1 r1 hk0
    refine ⟨p, rfl, ⟨a', es, by rw [hx.P, hx.w]; exact rd, by rw [hx.K]; exact en.keys⟩, g0, S0, sm, g1, S1, rfl, rl.step h1 x1, y, S2, e2, fun g2 u h2 x2 r2 => ?_⟩
    refine ⟨g0, S0, sm, g2, S2, rfl, (rl.step h1 x1).step h2 x2, z, S3, e3, fun g3 u3 h3 x3 r3 => ?_⟩
    split at e
    · rename_i kvs hk
      split at e
      · rename_i k hy
        cases e
        obtain ⟨p', b, es', na, en'⟩ := nat_at hx h3 (RW.mono h2 x3 _ _ (RW.mono h1 x2 _ _ r1)) (RW.mono h2 x3 _ _ r2) hk hy
        obtain ⟨a2, ea, na⟩ := na
        cases ea
        refine ⟨b, es', k, ⟨a2, rfl, na⟩, ?_⟩
        rcases en'.get (k := k) with ⟨e4, e5⟩ | ⟨w', u', e4, e5, rv⟩
        · rw [e5]
          refine q g3 _ h3 ((x1.trans x2).trans x3) ?_
          rw [e4]; exact r3
        · rw [e5]
          refine q g3 _ h3 ((x1.trans x2).trans x3) ?_
          rw [e4]; exact rv
      · cases e
    · cases e
  · cases e
theorem s_nput (hx : XC X c) (hu : X.A.units + 64 < cLine) (ho : PE X o (tE c mo)) (hi : PE X a (tE c ma)) (hv : PE X value (tE c mv)) (hs : swapsWith value (some (.Subscript o a pos')) pos.line X.env = pure false) :
    PS X (.Assign [.Subscript o a pos'] value pos) (tS c (SB.sNPut mo ma mv)) := PSimp (ps_nput hu ho hi hv hs) fun D σ H h => by
  obtain ⟨g0, S0, sm, g, S, rfl, rl, fl, S', e, q⟩ := h
  obtain ⟨v, S1, e1, e⟩ := SB.R.of_bind e
  obtain ⟨x, S2, e2, e⟩ := SB.R.of_bind e
  obtain ⟨y, S3, e3, e⟩ := SB.R.of_bind e
  obtain ⟨S4, S5, e4, e⟩ := SB.R.of_bind e
  cases e
  refine ⟨g0, S0, sm, g, S, rfl, rl, v, S1, e1, fun g1 v1 h1 x1 r1 => ?_⟩
  have rl1 := rl.step h1 x1
  refine ⟨g0, S0, sm, g1, S1, rfl, rl1, x, S2, e2, fun g2 v2 h2 x2 r2 => ?_⟩
  have rl2 := rl1.step h2 x2
  refine ⟨g0, S0, sm, g2, S2, rfl, rl2, y, S3, e3, fun g3 v3 h3 x3 r3 => ?_⟩
  have rl3 := rl2.step h3 x3
  unfold fNPut at e4
  cases x with
  | ref p =>
    simp only at e4
    split at e4
    · rename_i kvs hxp
      split at e4
      · rename_i k hy
        split at e4
        · rename_i hz
          cases e4
          obtain ⟨_, ev⟩ := rw_ref.mp (RW.mono h2 x3 _ _ r2)
          subst ev
          obtain ⟨a', es, hp, et, ek, er⟩ := (h3.ob p _ hxp).1
          have en : EntsN c g3 kvs es := ⟨et, ek, er⟩
          obtain ⟨b, rfl, hk, hdp⟩ := keyT_at hy r3
          have rv := RW.mono h2 x3 _ _ (RW.mono h1 x2 _ _ r1)
          have en2 := en.put hy r3 rv
          have le := Gh.chg_le (o := extN c.P c.w (g3.rho p) (putN es k b v1)) (h3.ob p _ hxp).2 hp (fun _ _ z => by cases z)
          obtain ⟨h', x'⟩ := h3.hchg (w := extN c.P c.w (g3.rho p) (putN es k b v1)) hxp (show RO c _ (.dcN (putNW kvs y k v)) _ from ⟨_, _, rfl, (en2.le le).t, (en2.le le).k, (en2.le le).v⟩)
          refine ⟨g3.rho p, b, es, k, a', rfl, rfl, by rw [hx.P, hx.w]; exact hp, by rw [hx.K]; exact en.keys, by rw [hx.K]; exact hk, hdp, by rw [← en.length]; exact hz, ?_⟩
          rw [hx.P, hx.w]
          exact q _ _ (rl3.step h' x') ((((x1.le rl.h).trans (x2.le h1)).trans (x3.le h2)).trans (x'.le h3))
        · cases e4
      · cases e4
    · cases e4
  | _ => cases e4
end
end SB
/-! SB, part 13n: sorted of a dict with tuple keys. -/
namespace SB
open PySem PySem.Spec PyProof.Rows L2
section
variable {c : Cn} {X : Cx}
def rSrtN (X : Cx) : List V → Hp → VK → Prop := fun vs H Q => ∃ (a a' : Addr) (es : List EN) (ds : List PyData), vs = [V.ref a] ∧ Rd H a (extN X.prog X.w a' es) ∧ KeysOk X.K H es ∧ DpAll X.K H (es.map fun x => V.ref x.2.1) ds ∧ PySem.W.AllAlike ds ∧ PySem.W.Sortable ds ∧ (∀ d ∈ ds, d.depth ≤ 60) ∧
  ∀ p, H p = none → Q (.ref p) (upd H p (.lst (srtV (es.map fun x => V.ref x.2.1) ds)))
theorem each_D {hp : Heap} {D : Addr} {o : Obj} (hD : D = hp.objs.size) {us : List Value} {bs : List (V × PyData)} (h : PySem.W.EachIs (fun v (b : V × PyData) => ∃ as, Reads hp v b.2 as) us bs) :
    PySem.W.EachIs (fun v (b : V × PyData) => ∃ as, Reads (hp.push o) v b.2 as ∧ D ∉ as) us bs :=
  h.mono fun v b ⟨as, r⟩ => ⟨as, PyProof.Rows.Reads.keeps (fun b o' e => Heap.get?_push_of_some _ e) r, fun m => by
    obtain ⟨o', e⟩ := PyProof.On.reads_mem_get r D m
    exact absurd hD (Nat.ne_of_lt (Heap.lt_size e))⟩
theorem cr_srtN (hcalm : X.calm = true) (hu : X.A.units + 64 < cLine) : CallR X (.builtin "sorted") (rSrtN X) := by
  intro pins s σ H xs us Q I r q
  obtain ⟨a, a', es, ds, rfl, hd, hks, hdp, hal, hso, hdep, q⟩ := q
  obtain ⟨u, rfl, rx⟩ := vals1 r
  cases rx
  obtain ⟨z, lo, ks, rel, o, ens, ep, ho, hx, hdat, he, hx1, hx2⟩ := dn_rd I hd hks
  have raw : s.heap.DictRaw a ens ep := ⟨o, ho, hx, hdat⟩
  have hsz : ens.size = ks.length := size_of_entries he
  have hlen : es.length = ks.length := Paired.length rel
  have keys : ∀ (j : Nat), (ens[j]?).map (·.key) = ((es.map fun x => V.ref x.2.1)[j]?).map fun v => match v with
      | .ref b => Value.ref b
      | _ => Value.none := fun j => by
    rw [entry_at he j]
    rw [List.getElem?_map]
    clear hdp q hks hd raw hsz hlen he z hx1 hx2
    induction rel generalizing j with
    | nil => rfl
    | @cons p q ps qs h t ih =>
      cases j with
      | zero =>
        obtain ⟨_, h2, _⟩ := h
        simp only [List.getElem?_cons_zero, Option.map_some, entryOfKey]
        rw [h2]
      | succ j => simpa using ih j
  refine Calls.call_function_entry PyProof.Rows.kind_sorted PyProof.Rows.plain_sorted PyProof.Rows.entry_sorted (PyProof.Rows.args_sorted1 _) ?_
  unfold Builtin.«sorted»
  refine wpAny_bind (m := checkCount "sorted" 1 1 _) (wpAny_pure ?_)
  refine wpAny_bind (PySem.W.kdu_collect (A := X.A.in1) (PySem.KdlSrc.rawDict (es := ens) (ep := ep) lo) (I.ok.hd hcalm) raw (by omega) fun h' tk acc hk hacc => ?_)
  have hal' : acc.toList.length = es.length := by rw [Array.length_toList, hacc.1]; omega
  have I1 : Inv X pins σ H { s with heap := h', toks := tk } := I.kept hk
  have rv : Vals (es.map fun x => V.ref x.2.1) acc.toList := by
    have : acc.toList = es.map fun x => Value.ref x.2.1 := by
      apply List.ext_getElem?
      intro j
      have kj := keys j
      cases hj : acc.toList[j]? with
      | none =>
        have := List.getElem?_eq_none_iff.mp hj
        rw [List.getElem?_eq_none (by rw [List.length_map]; omega)]
      | some v =>
        obtain ⟨hi, hv⟩ := hacc.2 j v (by rw [← Array.getElem?_toList]; exact hj)
        rw [Array.getElem?_eq_getElem hi, List.getElem?_map] at kj
        rw [List.getElem?_map]
        cases hes : es[j]? with
        | none => rw [hes] at kj; cases kj
        | some x =>
          rw [hes] at kj
          simp only [Option.map_some, Option.some.injEq] at kj
          rw [hv, kj]
          rfl
    rw [this]
    clear q hks hd raw hsz hlen he keys hal' hdp rel z hacc this
    induction es with
    | nil => exact .nil
    | cons e es ih => exact .cons rfl ih
  refine wpAny_bind (wpAny_newList ?_ (by rw [hal']; exact z))
  have hoL : (h'.push (seqObj "list" acc.toList.toArray 0)).get? h'.objs.size = some (seqObj "list" acc.toList.toArray 0) := Heap.get?_push_size _ rfl
  show wpAny _ _ _ _ _ { s with heap := h'.push (seqObj "list" acc.toList.toArray 0), toks := tk }
  obtain ⟨i1, i2⟩ := each_of I1 rv hdp
  have i3 := each_D (D := h'.objs.size) (o := seqObj "list" acc.toList.toArray 0) rfl i2
  have hdl := dpAll_len hdp
  have em : ((es.map fun x => V.ref x.2.1).zip ds).map Prod.snd = ds := List.map_snd_zip (by omega)
  refine wpAny_bind (wpAny_holding (PySem.W.list_sort_data (s := { s with heap := h'.push (seqObj "list" acc.toList.toArray 0), toks := tk }) (enc := Prod.snd) hoL i1 i3 (by rw [em]; exact hal) (by rw [em]; exact hso) (by rw [List.length_zip, List.length_map]; omega) (fun b hb => ?_) fun out hout he => ?_))
  · have hb2 : b.2 ∈ ds := by rw [← em]; exact List.mem_map.mpr ⟨b, hb, rfl⟩
    have := hdep _ hb2
    show X.A.in1.units + 1 + b.2.depth < cLine
    show X.A.units + 1 + 1 + b.2.depth < cLine
    omega
  · obtain ⟨e', he'⟩ := PyProof.Rows.sortedHeap_at (vs := acc.toList) (out := List.toArray out) hoL
    have hl2 : (srtV (es.map fun x => V.ref x.2.1) ds).length ≤ sizeLine := by
      unfold srtV
      rw [List.length_map, List.length_mergeSort, List.length_zip, List.length_map]
      omega
    refine wpAny_pure ⟨_, rfl, .ref h'.objs.size, upd H h'.objs.size (.lst (srtV (es.map fun x => V.ref x.2.1) ds)), I1.laid (t' := tk) (fun b u e => ?_) (Nat.le_refl _) ⟨hl2, out, e', ?_, he'⟩, rfl, q _ (I1.hok.fresh (Nat.le_refl _))⟩
    · have hb : b < h'.objs.size := Heap.lt_size e
      rw [PyProof.Rows.sortedHeap_old (Nat.ne_of_lt hb) (by rw [size_push']; exact Nat.lt_succ_of_lt hb)]
      exact Heap.get?_push_of_some _ e
    · unfold srtV
      exact vals_each he
open Classical in
/-- sorted of a list, of a dict of any kind -/
noncomputable def fSortedY (ws : List W) (S : Hm) : R (List W) := match ws with
  | [x] => (match dcnOf S x with
    | some kvs => if SrtOk (kvs.map (·.1)) ∧ kvs.length ≤ sizeLine then .ok ((kvs.map (·.1)).mergeSort leW) S else .stuck
    | none => fSortedX [x] S)
  | _ => .stuck
open Classical in
theorem e_sortedY {x : Str} {e : Expr} {ma : E} {p pos : Pos} (hx : x = "sorted") (hxc : XC X c) (hcalm : X.calm = true) (hg : Gl X x) (hm : X.mg x = none) (hu : X.A.units + 64 < cLine) (ha : PE X e (tE c ma)) (h1 : ∀ u q, e ≠ .Starred u q) :
    PE X (.Call (.Name x p) [e] [] pos) (tLs c (lCall fSortedY (aCons ma aNil))) := by
  refine ⟨fun pins s σ H Q I h => ?_⟩
  obtain ⟨g0, S0, sm, g, S, rfl, rl, ws, S', e, q⟩ := h
  obtain ⟨xs, S1, e1, e⟩ := SB.R.of_bind e
  cases xs with
  | nil => cases e
  | cons y ys =>
    cases ys with
    | cons z zs => cases e
    | nil =>
      have e : (match dcnOf S1 y with
        | some kvs => if SrtOk ((kvs : List (W × W)).map (·.1)) ∧ kvs.length ≤ sizeLine then SB.R.ok ((kvs.map (·.1)).mergeSort leW) S1 else SB.R.stuck
        | none => fSortedX [y] S1) = SB.R.ok ws S' := e
      cases hd : dcnOf S1 y with
      | none =>
        rw [hd] at e
        refine (e_sortedX (c := c) hx hcalm hg hm hxc.K hu ha h1).run pins s σ _ Q I ⟨g0, S0, sm, g, S, rfl, rl, ws, S', ?_, q⟩
        show (aCons ma aNil sm S).bind fSortedX = _
        rw [e1]
        exact e
      | some kvs =>
        rw [hd] at e
        simp only at e
        split at e
        · rename_i ok
          cases e
          subst hx
          refine (pe_callB (cr_srtN hcalm hu) hg hm PyProof.Rows.boot_sorted (a_cons ha a_nil (star_ne h1)) (by decide) (by decide) (star_ne h1) rfl).run pins s σ _ Q I ⟨g0, S0, sm, g, S, rfl, rl, [y], _, e1, fun g1 vs h1 x1 r1 => ?_⟩
          obtain ⟨v, rfl, rv⟩ := r1.one
          obtain ⟨p, a', es, rfl, hp, en⟩ := dcn_at h1 rv hd
          have fresh : ∀ l, g1.H l = none → g.H l = none := fun l nl => by
            cases q0 : g.H l with
            | none => rfl
            | some u => exact absurd nl (x1.tr l (by rw [q0]; intro z; cases z))
          refine ⟨p, a', es, (kvs.map (·.1)).map datW, rfl, by rw [hxc.P, hxc.w]; exact hp, by rw [hxc.K]; exact en.keys, by rw [hxc.K]; exact toDs_dp _ _ _ en.k (toDs_map ok.1.dat), ok.1.al, ok.1.so, fun d hd => ?_, fun l nl => ?_⟩
          · obtain ⟨w, hw, rfl⟩ := List.mem_map.mp hd
            exact ok.1.dep w hw
          · have rs := srt_rws en.k
            exact q (g1.lay l (.lst (srtV (es.map fun x => V.ref x.2.1) ((kvs.map (·.1)).map datW)))) l _ (h1.lay nl _) (x1.trans (Ext.lay h1 nl _)) upd_same (by rw [List.length_mergeSort, List.length_map]; exact ok.2) (RWs.mono h1 (Ext.lay h1 nl _) _ _ rs) (fun z => h1.fz l z nl) (fun ⟨a, o, ea, ra⟩ => h1.rho_some ea (by rw [show g1.rho a = l from ra]; exact nl)) (fresh l nl)
        · cases e
end
end SB
/-! SB, part 13m: dict comprehensions, whatever the kind of the dict: over HandS. -/
namespace SB
open PySem PySem.Spec PyProof.Rows L2
/-- a kind of dicts: the empty one, a store -/
structure DKind (X : Cx) where
  em : Addr → HO
  Put : Hp → Addr → V → V → Hp → Prop
  new : ∀ (H : Hp) (h : Heap), sysModules < h.objs.size → ObjOk X.prog X.w H (h.push { cls := .type "dict", data := .dict #[] }) h.objs.size (em h.objs.size)
  put : ∀ {Y : Cx} {pins : List (Addr × Obj)} {σ : L2.St} {H H' : Hp} {s : Shared} {D : Addr} {y z : V} {u r : Value} {E : Value → Shared → Prop} {Q : Unit → Shared → Prop}, Y.prog = X.prog → Y.w = X.w → Y.K = X.K → Y.A = X.A → Inv Y pins σ H s → Put H D y z H' →
    RelV y u → RelV z r → (∀ s', Inv Y pins σ H' s' → Q () s') → wpAny (model Y.prog Y.w) Y.A (dictSet D u r) Q E s
/-- {k: v for target in iter if ..} -/
def tDcG {X : Cx} (d : DKind X) (wi : TI) (g : TG) (tt : TT) (tk tv : TE) (vs : List Nat) : TE := fun σ H Q => wi σ H fun J H1 => ∀ D, H1 D = none → ∃ W : Nat → Nat → Hp → Prop, (∃ m, W 0 m (upd H1 D (d.em D))) ∧ ∀ i m H, W i m H →
  (J.stop i H ∧ Q (.ref D) H) ∨ (J.go i H ∧ ∃ Nx : Hp → Prop, (∀ H', Nx H' → ∃ m', m' < m ∧ W (i + 1) m' H') ∧ ∀ x H', J.yld i H x H' → g x (L2.wipe σ vs) H' fun σ2 H2 => L2.wipe σ2 vs = L2.wipe σ vs ∧ tt σ2 H2 fun b H3 =>
    if b = true then tk σ2 H3 fun y H4 => tv σ2 H4 fun z H5 => ∃ H6, d.Put H5 D y z H6 ∧ Nx H6 else Nx H3)
section
variable {X : Cx}
theorem pe_dcG {kx vx tg iter : Expr} {ifs : List Expr} {scope : Scope} {own : List (Str × Nat)} {pos : Pos} {wi : TI} {g : TG} {tt : TT} {tk tv : TE} (d : DKind X) (hc : X.calm = true) (hN : X.N.Nodup) (hi : PI X tg iter wi) (ok : BlkOk X.N X.env.scope scope own)
    (hg : ∀ (s : Shared) (H : Hp) (C : Addr) (cl : List (Str × Addr)) (fp : List Addr), PG (X.blk s H scope (compEnvC scope cl C X.env) fp) tg g) (ht : ∀ (s : Shared) (H : Hp) (C : Addr) (cl : List (Str × Addr)) (fp : List Addr), PTs (X.blk s H scope (compEnvC scope cl C X.env) fp) ifs tt)
    (hk : ∀ (s : Shared) (H : Hp) (C : Addr) (cl : List (Str × Addr)) (fp : List Addr), PE (X.blk s H scope (compEnvC scope cl C X.env) fp) kx tk)
    (he : ∀ (s : Shared) (H : Hp) (C : Addr) (cl : List (Str × Addr)) (fp : List Addr), PE (X.blk s H scope (compEnvC scope cl C X.env) fp) vx tv) (hs : ∀ x, foldedSetIterable iter X.env x = pure x) :
    PE X (.DictComp kx vx [⟨tg, iter, ifs, 0⟩] scope pos) (tDcG d wi g tt tk tv (own.map (·.2))) := by
  refine ⟨fun pins s σ H Q I h => ?_⟩
  rw [arm_eval_DictComp]
  have free : ∀ y ∈ scope.names, y.2 = .free → ∃ c, X.env.cells.lookup y.1 = some c := fun y hy e => (ok.free y hy e).elim (fun k => I.ok.has _ (.inl k)) fun k => I.ok.has _ (.inr k)
  refine wpAny_comprehension_free (use := none) rfl hs (closure_ok free) ok.kind (fun y hy e => by rw [ok.uniq y hy, e])
    (thn (hi.run pins s σ H _ I h) fun xv s1 hx => thn hx fun itv s2 h2 => ?_)
  obtain ⟨it, fp, tn, J, H2, rfl, I2, T, st2, f2, q⟩ := h2
  refine wpAny_newObj_type (newEnv_comp ?_)
  generalize hD : s2.heap.objs.size = D
  obtain ⟨W, ⟨m0, w0⟩, turn⟩ := q D (I2.hok.fresh (Nat.le_of_eq hD))
  -- behind the dict's making
  generalize hs3 : ({ s2 with heap := s2.heap.push { cls := .type "dict", data := .dict #[] } } : Shared) = s3
  have h3 : s3.heap = s2.heap.push { cls := .type "dict", data := .dict #[] } := by rw [← hs3]
  have I3 : Inv X pins σ (upd H2 D (d.em D)) s3 := by
    rw [← hs3]
    refine I2.laid (t' := s2.toks) (fun b o e => Heap.get?_push_of_some _ e) (Nat.le_of_eq hD) ?_
    have := d.new (upd H2 D (d.em D)) s2.heap I2.big
    rwa [hD] at this
  have old : ∀ b ∈ fp, b < s2.heap.objs.size := fun b hb => let ⟨_, e, _⟩ := T.obj _ _ st2 b hb; Heap.lt_size e
  have f3 : ∀ b ∈ fp, FpOk X pins (upd H2 D (d.em D)) b ∧ b < s3.heap.objs.size := fun b hb => by
    have lt := old b hb
    have ne : b ≠ D := by rw [← hD]; exact Nat.ne_of_lt lt
    exact ⟨⟨(upd_ne ne).trans (f2 b hb).1, (f2 b hb).2⟩, by rw [h3, Heap.size_push]; exact Nat.lt_succ_of_lt lt⟩
  have st3 : tn 0 s3.heap := T.keep _ _ _ st2 fun b _ o e => by rw [h3]; exact Heap.get?_push_of_some _ e
  have I4 := block_start I3 ok hN f3
  have pg := hg s3 (upd H2 D (d.em D)) s3.heap.objs.size (cellsFrom (s3.heap.objs.size + 1) scope.names (cloFrom X.env.cells scope.names [])) fp
  have pt := ht s3 (upd H2 D (d.em D)) s3.heap.objs.size (cellsFrom (s3.heap.objs.size + 1) scope.names (cloFrom X.env.cells scope.names [])) fp
  have pk := hk s3 (upd H2 D (d.em D)) s3.heap.objs.size (cellsFrom (s3.heap.objs.size + 1) scope.names (cloFrom X.env.cells scope.names [])) fp
  have pv := he s3 (upd H2 D (d.em D)) s3.heap.objs.size (cellsFrom (s3.heap.objs.size + 1) scope.names (cloFrom X.env.cells scope.names [])) fp
  have nfp : ∀ b ∈ fp, (upd H2 D (d.em D)) b = none := fun b hb => (f3 b hb).1.1
  show codeAny _ _ (.compStart (.DictComp kx vx [⟨tg, iter, ifs, 0⟩] scope pos) 0 (.ref it) (.ref D) (compEnvC scope (cellsFrom (s3.heap.objs.size + 1) scope.names (cloFrom X.env.cells scope.names [])) s3.heap.objs.size X.env)) _ _
  generalize hce : compEnvC scope (cellsFrom (s3.heap.objs.size + 1) scope.names (cloFrom X.env.cells scope.names [])) s3.heap.objs.size X.env = ce at I4 pg pt pk pv ⊢
  have cL : ce.locals = s3.heap.objs.size := by subst hce; rfl
  generalize hH3 : upd H2 D (d.em D) = H3 at I3 I4 pg pt pk pv w0 nfp f3
  generalize hs4 : ({ s3 with heap := pushCells (s3.heap.push { cls := .type "dict", data := .dict #[] }) scope.names } : Shared) = s4 at I4 ⊢
  have st4 : tn 0 s4.heap := T.keep _ _ _ st3 fun b _ o e => by rw [← hs4]; exact pushCells_keeps _ _ _ _ (Heap.get?_push_of_some _ e)
  have fpk : ∀ {σ' : L2.St} {H' : Hp} {s' : Shared}, Inv (X.blk s3 H3 scope ce fp) [] σ' H' s' → (∀ b ∈ fp, H' b = none) → ∀ b ∈ fp, FpOk (X.blk s3 H3 scope ce fp) [] H' b := fun {σ' H' s'} I' hn b hb =>
    ⟨hn b hb, (I'.ok.exf b hb).1, I'.ok.exfs b hb, .inl hb, fun x c e => (I'.ok.exf b hb).2 x c e, fun p hp => absurd (show p ∈ ([] : List (Addr × Obj)) ++ [] from hp) (by simp)⟩
  have loop : codeAny (model X.prog X.w) X.A (.compLoop (.DictComp kx vx [⟨tg, iter, ifs, 0⟩] scope pos) 0 (.ref it) (.ref D) ce)
      (compPost (model X.prog X.w) X.A X.xe none (EP X pins σ Q) (.ref D) s3.heap.objs.size) s4 := by
    refine compLoop_anyD (fun n s' => ∃ i H', Inv (X.blk s3 H3 scope ce fp) [] (L2.wipe σ (own.map (·.2))) H' s' ∧ tn i s'.heap ∧ (∀ b ∈ fp, H' b = none) ∧ W i n H') ?_ m0 ⟨0, H3, I4, st4, nfp, w0⟩
    rintro n s5 ⟨i, H5, I5, st5, n5, w5⟩
    rcases turn i n H5 w5 with ⟨stop, qq⟩ | ⟨go, Nx, hNx, step⟩
    · refine thnF (T.done (X.blk s3 H3 scope ce fp) rfl rfl rfl hc i [] s5 _ H5 (fun _ _ => False) I5 (fpk I5 n5) st5 stop) fun r s6 ⟨hr, I6⟩ => ?_
      subst hr
      have I7 : Inv X pins σ H5 s6 := I3.call' (ch := fp) I6.os I6.base I6.hok I6.bare fun b hb => ⟨(f3 b hb).1.2.2.2.1, (f3 b hb).1.2.1, (f3 b hb).1.2.2.2.2.1, (f3 b hb).1.2.2.2.2.2⟩
      have nC : H5 s3.heap.objs.size = none := by
        have z : H5 ce.locals = none := I6.free
        rwa [cL] at z
      obtain ⟨m, hn, _⟩ := I6.loc
      have hn : s6.heap.Ns ce.locals m := hn
      rw [cL] at hn
      obtain ⟨k0, k1, _, k3, k4, k5⟩ := I3.fpOk (Nat.le_refl _) nC
      exact ⟨m, hn, fun h'' sb => ⟨.ref D, H5, I7.turned (t' := s6.toks) (fun b o hb e => (sb.2 b hb).trans e) k0 k1 k3 k4 k5, rfl, qq⟩⟩
    · refine thnF (T.item (X.blk s3 H3 scope ce fp) rfl rfl rfl hc i [] s5 _ H5 (fun _ _ => False) I5 (fpk I5 n5) st5 go) fun r s6 ⟨u, hr, h6⟩ => ?_
      subst hr
      refine thnF h6 fun _ s7 ⟨x, H7, I7, r7, y7, st7, n7⟩ => ?_
      refine thnF (pg.run _ s7 _ H7 x u _ (I7.pinned (fpk I7 n7) (T.obj _ _ st7)) r7 (step x H7 y7)) fun _ s8 ⟨σ8, H8, I8, hw8, q8⟩ => ?_
      refine thnF (pt.run _ s8 σ8 H8 _ I8 q8) fun b s9 ⟨H9, I9, q9⟩ => ?_
      have fin : ∀ {s' : Shared} {H' : Hp}, Inv (X.blk s3 H3 scope ce fp) ([] ++ pinsAt fp s7.heap) σ8 H' s' → Nx H' → ∃ m, m < n ∧ ∃ i H', Inv (X.blk s3 H3 scope ce fp) [] (L2.wipe σ (own.map (·.2))) H' s' ∧ tn i s'.heap ∧ (∀ b ∈ fp, H' b = none) ∧ W i m H' := fun {s' H'} I' nx => by
        obtain ⟨m', hm, w'⟩ := hNx H' nx
        have pin' : ∀ b ∈ fp, ∀ o, s7.heap.get? b = some o → s'.heap.get? b = some o ∧ H' b = none := fun b hb o e =>
          let z := I'.pin (b, o) (List.mem_append_right _ (List.mem_append_right _ (mem_pinsAt hb e)))
          ⟨z.1, z.2.1⟩
        refine ⟨m', hm, i + 1, H', (I'.unpinned (pins := [])).weak (by rw [← hw8, wipe_length]) (fun j v e => ?_), T.keep _ _ _ st7 fun b hb o e => (pin' b hb o e).1, fun b hb => ?_, w'⟩
        · rw [← hw8] at e
          exact (wipe_some e).1
        · obtain ⟨o, e, _⟩ := T.obj _ _ st7 b hb
          exact (pin' b hb o e).2
      cases b with
      | false =>
        simp only [Bool.false_eq_true, if_false] at q9 ⊢
        exact fin I9 q9
      | true =>
        simp only [if_true] at q9 ⊢
        refine thnF (pk.run _ s9 σ8 H9 _ I9 q9) fun z s10 ⟨yk, H10, I10, r10, q10⟩ => ?_
        refine thnF (pv.run _ s10 σ8 H10 _ I10 q10) fun z2 s11 ⟨yv, H11, I11, r11, H12, pu, nx⟩ => ?_
        exact d.put (Y := X.blk s3 H3 scope ce fp) rfl rfl rfl rfl I11 pu r10 r11 fun s12 I12 => fin I12 nx
  exact codeAny_compStart_dict loop (T.self X.A 0 _ _ _ st4 loop)
/-- ints and texts as keys -/
def kindK (X : Cx) : DKind X where
  em := fun _ => .dK []
  Put := fun H D y z H' => ∃ kvs k, y = kV k ∧ H D = some (.dK kvs) ∧ kvs.length < sizeLine ∧ H' = upd H D (.dK (putK kvs k z))
  new := fun H h hb => dk_empty h hb
  put := fun {Y pins σ H H' s D y z u r E Q} _ _ _ _ I p ry rz h => by
    obtain ⟨kvs, k, rfl, e, hl, rfl⟩ := p
    exact d_dictSet I e hl ry rz h
/-- tuples as keys -/
def kindN (X : Cx) (hu : X.A.units + 64 < cLine) : DKind X where
  em := fun D => extN X.prog X.w D []
  Put := fun H D y z H' => ∃ b kvs k a', y = .ref b ∧ H D = some (extN X.prog X.w a' kvs) ∧ KeysOk X.K H kvs ∧ KeyN X.K H k (.ref b) ∧ k.depth ≤ 8 ∧ kvs.length < sizeLine ∧ H' = upd H D (extN X.prog X.w D (putN kvs k b z))
  new := fun H h hb => dn_new h hb
  put := fun {Y pins σ H H' s D y z u r E Q} eP ew eK eA I p ry rz h => by
    obtain ⟨b, kvs, k, a', rfl, e, hks, hk, hd, hl, rfl⟩ := p
    cases (show u = Value.ref b from ry)
    rw [← eP, ← ew] at e h
    rw [← eK] at hks hk
    exact n_dictSet (by rw [eA]; exact hu) I e hks hk hd hl rz h
end
end SB
/-! SB, part 13o: dict comprehensions. -/
namespace SB
open PySem PySem.Spec PyProof.Rows L2
def ePair (k v : E) : E := fun σ S => (k σ S).bind fun x S1 => (v σ S1).bind fun y S2 => .ok (.tup [x, y]) S2
def putP (n : Bool) (kvs : List (W × W)) (p : W) : Option (List (W × W)) := match p with
  | .tup [x, y] => if n = true then (match keyT x with
    | some k => some (putNW kvs x k y)
    | none => none) else if isKey x = true then some (putW kvs x y) else none
  | _ => none
def foldP (n : Bool) : List (W × W) → List W → Option (List (W × W))
  | kvs, [] => some kvs
  | kvs, p :: ps => match putP n kvs p with
    | some k2 => foldP n k2 ps
    | none => none
def moOf (n : Bool) (kvs : List (W × W)) : MO := if n = true then .dcN kvs else .dic kvs
/-- {k: v for t in it if cd}; n: the keys are tuples -/
def eDc (n : Bool) (vs : List Nat) (t : Tg) (it : I) (cd : T) (k v : E) : E := fun σ S => (lComp vs t it cd (ePair k v) σ S).bind fun ps S1 => match foldP n [] ps with
  | some kvs => .ok (.ref S1.length) (S1 ++ [some (moOf n kvs)])
  | none => .stuck
theorem foldP_app {n : Bool} : ∀ {ps qs : List W} {kvs r : List (W × W)}, foldP n kvs (ps ++ qs) = some r → ∃ m, foldP n kvs ps = some m ∧ foldP n m qs = some r
  | [], _, kvs, r, h => ⟨kvs, rfl, h⟩
  | p :: ps, qs, kvs, r, h => by
    rw [List.cons_append] at h
    unfold foldP at h
    cases e : putP n kvs p with
    | none => rw [e] at h; cases h
    | some k2 =>
      rw [e] at h
      obtain ⟨m, h1, h2⟩ := foldP_app h
      exact ⟨m, by unfold foldP; rw [e]; exact h1, h2⟩
theorem foldP_snoc {n : Bool} {ps : List W} {kvs m k2 : List (W × W)} {p : W} (h : foldP n kvs ps = some m) (h2 : putP n m p = some k2) : foldP n kvs (ps ++ [p]) = some k2 := by
  induction ps generalizing kvs with
  | nil =>
    cases h
    show foldP n _ [p] = _
    unfold foldP
    rw [h2]
    rfl
  | cons q ps ih =>
    unfold foldP at h
    rw [List.cons_append]
    unfold foldP
    cases e : putP n kvs q with
    | none => rw [e] at h; cases h
    | some k => rw [e] at h; exact ih h
theorem putP_len {n : Bool} {kvs k2 : List (W × W)} {p : W} (h : putP n kvs p = some k2) : k2.length ≤ kvs.length + 1 := by
  unfold putP at h
  split at h
  · split at h
    · split at h
      · cases h
        unfold putNW
        split
        · rw [List.length_map]; omega
        · rw [List.length_append]; exact Nat.le_refl _
      · cases h
    · split at h
      · cases h
        unfold putW
        split
        · rw [List.length_map]; omega
        · rw [List.length_append]; exact Nat.le_refl _
      · cases h
  · cases h
/-- what is between the layer's dicts and the heap's -/
structure DRel (c : Cn) {X : Cx} (n : Bool) (d : DKind X) : Prop where
  start : ∀ g D, RO c g (moOf n []) (some (d.em D))
  frz : ∀ D, noFrz (d.em D)
  step : ∀ (g : Gh) (D : Addr) (kvs k2 : List (W × W)) (x y : W) (u z : V), RO c g (moOf n kvs) (g.H D) → ¬ g.Fz D → putP n kvs (.tup [x, y]) = some k2 → RW c g x u → RW c g y z → kvs.length < sizeLine → ∃ ho, d.Put g.H D u z (upd g.H D ho) ∧ (∀ g', Le g g' → RO c g' (moOf n k2) (some ho))
theorem drelK (c : Cn) (X : Cx) : DRel c false (kindK X) where
  start := fun g D => ⟨[], rfl, rfl, .nil⟩
  frz := fun D a x z => by cases z
  step := fun g D kvs k2 x y u z ro f hp rx ry hl => by
    obtain ⟨es, hD, ek, er⟩ := ro
    have en : Ents c g kvs es := ⟨ek, er⟩
    unfold putP at hp
    simp only [Bool.false_eq_true, if_false] at hp
    split at hp
    · rename_i hy
      cases hp
      obtain ⟨l, hl'⟩ := keyW_some hy
      have := keyW_kV hl' rx
      subst this
      have en2 := en.put hl' ry
      exact ⟨.dK (putK es l z), ⟨es, l, rfl, hD, by rw [← en.length]; exact hl, rfl⟩, fun g' le => ⟨_, rfl, (en2.le le).k, (en2.le le).v⟩⟩
    · cases hp
theorem drelN {c : Cn} {X : Cx} (hx : XC X c) (hu : X.A.units + 64 < cLine) : DRel c true (kindN X hu) where
  start := fun g D => ⟨D, [], by rw [← hx.P, ← hx.w]; rfl, rfl, .nil, .nil⟩
  frz := fun D a x z => by cases z
  step := fun g D kvs k2 x y u z ro f hp rx ry hl => by
    obtain ⟨a', es, hD, et, ek, er⟩ := ro
    have en : EntsN c g kvs es := ⟨et, ek, er⟩
    unfold putP at hp
    simp only [if_true] at hp
    split at hp
    · rename_i k hy
      cases hp
      obtain ⟨b, rfl, hk, hd⟩ := keyT_at hy rx
      have en2 := en.put hy rx ry
      refine ⟨extN X.prog X.w D (putN es k b z), ⟨b, es, k, a', rfl, by rw [hx.P, hx.w]; exact hD, by rw [hx.K]; exact en.keys, by rw [hx.K]; exact hk, hd, by rw [← en.length]; exact hl, rfl⟩, fun g' le => ⟨_, _, by rw [hx.P, hx.w], (en2.le le).t, (en2.le le).k, (en2.le le).v⟩⟩
    · cases hp
def DInv (c : Cn) (n : Bool) (g0 : Gh) (S0 : Hm) (smw : Sl) (σw : L2.St) (g1 : Gh) (S1 : Hm) (D : Addr) (ws : List W) (S' : Hm) (i : Nat) (kont : Hm → R (List W)) (H : Hp) : Prop :=
  ∃ g2 S2 acc kvs u, g2.H = H ∧ SRel c g0 S0 smw σw g2 S2 ∧ Ext g1 S1 g2 S2 ∧ g2.H D = some u ∧ noFrz u ∧ RO c g2 (moOf n kvs) (g2.H D) ∧ ¬ g2.Fz D ∧ ¬ live g2 S2 D ∧ foldP n [] acc = some kvs ∧ kvs.length ≤ i ∧ ∃ rest, kont S2 = .ok rest S' ∧ ws = acc ++ rest
section
variable {c : Cn} {X : Cx} {n : Bool} {d : DKind X} {g0 g1 : Gh} {S0 S1 S' : Hm} {smw : Sl} {σ : L2.St} {vs : List Nat} {D : Addr} {ws : List W} {t : Tg} {cd : T} {ek ev : E} {ix : List Nat}
theorem moOf_nf {g : Gh} {kvs : List (W × W)} {u : HO} (h : RO c g (moOf n kvs) (some u)) : noFrz u := by
  refine noFrz_of ?_ h
  unfold moOf
  split <;> rfl
theorem dc_turn (dr : DRel c n d) (np0 : g0.H D = none) (np1 : g1.H D = none) (ne : ∀ (i : Nat) (o : MO), smw[i]? = some (some (.own o)) → (L2.wipe σ vs)[i]? ≠ some (some (.ref D))) (hix : ∀ i ∈ ix, i ∈ vs) {i : Nat} (hi : i < sizeLine) {kont : Hm → R (List W)} {J : It} {x : W} {g2 : Gh} {S2 : Hm} {acc : List W} {kvs fin : List (W × W)} {u0 : HO}
    (rl2 : SRel c g0 S0 smw (L2.wipe σ vs) g2 S2) (x2 : Ext g1 S1 g2 S2) (hD : g2.H D = some u0) (nf0 : noFrz u0) (ro2 : RO c g2 (moOf n kvs) (g2.H D)) (f2 : ¬ g2.Fz D) (n2 : ¬ live g2 S2 D) (fa : foldP n [] acc = some kvs) (la : kvs.length ≤ i) (ff : foldP n [] ws = some fin) {rest : List W}
    (e : (t x smw S2).bind (fun σ1 S1 => (cd σ1 S1).bind fun b S2 => if b = true then (ePair ek ev σ1 S2).bind fun w S3 => (kont S3).bind fun ws S4 => .ok (w :: ws) S4 else kont S2) = .ok rest S') (ew : ws = acc ++ rest)
    (yl : ∀ v H', J.yld i g2.H v H' → ∃ g'', g''.H = H' ∧ HRel c g'' S2 ∧ Ext g2 S2 g'' S2 ∧ RW c g'' x v) (v : V) (H' : Hp) (y : J.yld i g2.H v H') :
    tG c ix t v (L2.wipe σ vs) H' fun σ2 H2 => L2.wipe σ2 vs = L2.wipe σ vs ∧ tT c cd σ2 H2 fun b H3 =>
      if b = true then tE c ek σ2 H3 fun y H4 => tE c ev σ2 H4 fun z H5 => ∃ H6, d.Put H5 D y z H6 ∧ DInv c n g0 S0 smw (L2.wipe σ vs) g1 S1 D ws S' (i + 1) kont H6 else DInv c n g0 S0 smw (L2.wipe σ vs) g1 S1 D ws S' (i + 1) kont H3 := by
  obtain ⟨g3, rfl, h3, x3, r3⟩ := yl v H' y
  have rl3 := rl2.step h3 x3
  obtain ⟨sm3, S3, e3, e⟩ := SB.R.of_bind e
  obtain ⟨b, S4, e4, e⟩ := SB.R.of_bind e
  refine ⟨g0, S0, smw, g3, S2, x, rfl, rl3, r3, sm3, S3, e3, fun g4 σ4 rl4 x4 a4 => ⟨?_, ?_⟩⟩
  · rw [(a4.mono hix).wipe, wipe_wipe]
  refine ⟨g0, S0, sm3, g4, S3, rfl, rl4, b, S4, e4, fun g5 h5 x5 => ?_⟩
  have hDn : g2.H D ≠ none := by rw [hD]; intro z; cases z
  have stay : ∀ (g : Gh) (S : Hm), Ext g2 S2 g S → g.H D = some u0 ∧ ¬ g.Fz D ∧ ¬ live g S D ∧ RO c g (moOf n kvs) (g.H D) := fun g S x => by
    have e := x.keep D _ hD n2
    refine ⟨e, fun z => f2 (x.old D hDn z), fun z => ?_, ?_⟩
    · rcases x.lv D z with z | z
      · exact n2 z
      · exact hDn z
    · rw [e]
      rw [hD] at ro2
      exact RO.mono rl2.h x ro2
  dsimp only
  cases b with
  | true =>
    rw [if_pos rfl] at e ⊢
    obtain ⟨w, S5, e5, e⟩ := SB.R.of_bind e
    obtain ⟨ws', S6, e6, e⟩ := SB.R.of_bind e
    cases e
    obtain ⟨wk, S5a, e5a, e5⟩ := SB.R.of_bind e5
    obtain ⟨wv, S5b, e5b, e5⟩ := SB.R.of_bind e5
    cases e5
    refine ⟨g0, S0, sm3, g5, S4, rfl, rl4.step h5 x5, wk, S5a, e5a, fun g6 v6 h6 x6 r6 => ?_⟩
    refine ⟨g0, S0, sm3, g6, S5a, rfl, (rl4.step h5 x5).step h6 x6, wv, S5, e5b, fun g7 v7 h7 x7 r7 => ?_⟩
    have x37 := ((x4.trans x5).trans x6).trans x7
    have x27 := x3.trans x37
    obtain ⟨d1, d2, d3, d4⟩ := stay g7 S5 x27
    have rk := RW.mono h6 x7 _ _ r6
    -- the store
    rw [ew] at ff
    obtain ⟨m, fm, fm2⟩ := foldP_app ff
    rw [fa] at fm
    cases fm
    unfold foldP at fm2
    cases hp : putP n kvs (.tup [wk, wv]) with
    | none => rw [hp] at fm2; cases fm2
    | some k2 =>
      obtain ⟨ho, pu, ro'⟩ := dr.step g7 D kvs k2 wk wv v6 v7 d4 d2 hp rk r7 (by omega)
      have le := Gh.chg_le (o := ho) d2 d1 nf0
      have roN := ro' _ le
      refine ⟨_, pu, g7.chg D ho, S5, acc ++ [.tup [wk, wv]], k2, ho, rfl, ?_, ?_, upd_same, moOf_nf roN, ?_, d2, d3, foldP_snoc fa hp, by have := putP_len hp; omega, ws', e6, by rw [ew]; simp⟩
      · exact (rl3.step h7 x37).chgO ne d2 d3 np0 d1 nf0
      · exact (x2.trans x27).chg np1 d1
      · show RO c _ (moOf n k2) (upd g7.H D ho D)
        rw [upd_same]; exact roN
  | false =>
    rw [if_neg Bool.false_ne_true] at e ⊢
    have x25 := x3.trans (x4.trans x5)
    obtain ⟨d1, d2, d3, d4⟩ := stay g5 S4 x25
    exact ⟨g5, S4, acc, kvs, u0, rfl, rl3.step h5 (x4.trans x5), x2.trans x25, d1, nf0, d4, d2, d3, fa, by omega, rest, e, ew⟩
theorem dc_read {mi : I} (dr : DRel c n d) (hix : ∀ i ∈ ix, i ∈ vs) {H : Hp} {Q : VK} (h : tE c (eDc n vs t mi cd ek ev) σ H Q) : tDcG d (tI c mi) (tG c ix t) (tT c cd) (tE c ek) (tE c ev) vs σ H Q := by
  obtain ⟨g0, S0, sm, g, S, rfl, rl, w, S', e0, q⟩ := h
  obtain ⟨ws, S2', e, e'⟩ := SB.R.of_bind e0
  clear e0
  cases ff : foldP n [] ws with
  | none => rw [ff] at e'; cases e'
  | some fin =>
  rw [ff] at e'
  cases e'
  obtain ⟨it, S1, e1, e⟩ := SB.R.of_bind (α := Itr') e
  refine ⟨g0, S0, sm, g, S, rfl, rl, it, S1, e1, fun g1 J h1 x1 ok D nD => ?_⟩
  have rl1 := rl.step h1 x1
  have rlw := rl1.wipe vs
  have np : g.H D = none := by
    cases q0 : g.H D with
    | none => rfl
    | some u => exact absurd nD (x1.tr D (by rw [q0]; intro z; cases z))
  have np0 : g0.H D = none := by
    cases q0 : g0.H D with
    | none => rfl
    | some u => exact absurd np (rl.x.tr D (by rw [q0]; intro z; cases z))
  have ne : ∀ (i : Nat) (o : MO), (wipeM sm vs)[i]? = some (some (.own o)) → (L2.wipe σ vs)[i]? ≠ some (some (.ref D)) := fun i o ei z => by
    obtain ⟨p, ep, ro, _⟩ := rlw.own i o ei
    rw [ep] at z
    cases z
    exact ro.some nD
  have fD : ¬ g1.Fz D := fun z => h1.fz D z nD
  have lD : ¬ live g1 S1 D := fun ⟨a, o, ea, ra⟩ => h1.rho_some ea (by rw [show g1.rho a = D from ra]; exact nD)
  have start : ∀ (kont : Hm → R (List W)), kont S1 = .ok ws S2' → DInv c n g0 S0 (wipeM sm vs) (L2.wipe σ vs) g1 S1 D ws S2' 0 kont (upd g1.H D (d.em D)) := fun kont ek' =>
    ⟨g1.lay D (d.em D), S1, [], [], d.em D, rfl, rlw.step (h1.lay nD _) (Ext.lay h1 nD _), Ext.lay h1 nD _, upd_same, dr.frz D, (by show RO c _ _ (upd g1.H D _ D); rw [upd_same]; exact dr.start _ D), fD, lD, rfl, Nat.le_refl _, ws, ek', rfl⟩
  have done : ∀ (g2 : Gh) (S2 : Hm) (kvs : List (W × W)) (acc : List W), SRel c g0 S0 (wipeM sm vs) (L2.wipe σ vs) g2 S2 → Ext g1 S1 g2 S2 → RO c g2 (moOf n kvs) (g2.H D) → ¬ g2.Fz D → ¬ live g2 S2 D → foldP n [] acc = some kvs → acc = ws → S2 = S2' → Q (.ref D) g2.H := fun g2 S2 kvs acc rl2 x2 ro f2 n2 fa ea es => by
    subst ea es
    rw [ff] at fa
    cases fa
    refine q (g2.put D) _ (rl2.h.put (o := moOf n fin) ro f2 n2) ((x1.trans x2).put rl2.h np _) ?_
    rw [rw_ref]
    refine ⟨?_, ?_⟩
    · show S2.length < g2.n + 1
      rw [rl2.h.n]; exact Nat.lt_succ_self _
    · show V.ref D = V.ref (if S2.length = g2.n then D else g2.rho S2.length)
      rw [if_pos rl2.h.n.symm]
  have hz : sizeLine = 16777216 := sizeLine_eq
  cases it with
  | seq xs =>
    have e : (if xs.length ≤ sizeLine then compL t cd (ePair ek ev) xs (wipeM sm vs) S1 else .stuck) = .ok ws S2' := e
    split at e
    · rename_i hlen
      refine ⟨fun i k H => i + k = xs.length ∧ DInv c n g0 S0 (wipeM sm vs) (L2.wipe σ vs) g1 S1 D ws S2' i (compL t cd (ePair ek ev) (xs.drop i) (wipeM sm vs)) H, ⟨xs.length, by omega, start _ e⟩, ?_⟩
      rintro i k H2 ⟨hk, g2, S2, acc, kvs, u0, rfl, rl2, x2, hD, nf0, ro2, f2, n2, fa, la, rest, ekk, ew⟩
      obtain ⟨okx, oke⟩ := ok g2 S2 rl2.h (x2.le h1) i
      by_cases hlt : i < xs.length
      · obtain ⟨go, yl⟩ := okx _ (List.getElem?_eq_getElem hlt)
        rw [List.drop_eq_getElem_cons hlt] at ekk
        refine .inr ⟨go, DInv c n g0 S0 (wipeM sm vs) (L2.wipe σ vs) g1 S1 D ws S2' (i + 1) (compL t cd (ePair ek ev) (xs.drop (i + 1)) (wipeM sm vs)), fun H' hN => ⟨k - 1, by omega, by omega, hN⟩, fun v H' y => ?_⟩
        exact dc_turn dr np0 nD ne hix (by omega) rl2 x2 hD nf0 ro2 f2 n2 fa la ff ekk ew yl v H' y
      · rw [List.drop_eq_nil_of_le (by omega)] at ekk
        cases ekk
        rw [List.append_nil] at ew
        exact .inl ⟨oke (by omega), done g2 _ kvs acc rl2 x2 ro2 f2 n2 fa ew.symm rfl⟩
    · cases e
  | dyn at_ =>
    have e : compR t cd (ePair ek ev) at_ bigN 0 (wipeM sm vs) S1 = .ok ws S2' := e
    refine ⟨fun i k H => i + k = bigN ∧ DInv c n g0 S0 (wipeM sm vs) (L2.wipe σ vs) g1 S1 D ws S2' i (compR t cd (ePair ek ev) at_ k i (wipeM sm vs)) H, ⟨bigN, by omega, start _ e⟩, ?_⟩
    rintro i k H2 ⟨hk, g2, S2, acc, kvs, u0, rfl, rl2, x2, hD, nf0, ro2, f2, n2, fa, la, rest, ekk, ew⟩
    obtain ⟨okx, oke⟩ := ok g2 S2 rl2.h (x2.le h1) i
    have hb : bigN = 16777216 := rfl
    cases k with
    | zero => cases ekk
    | succ k =>
      unfold compR at ekk
      split at ekk
      · cases ekk
      · rename_i hat
        cases ekk
        rw [List.append_nil] at ew
        exact .inl ⟨oke hat, done g2 _ kvs acc rl2 x2 ro2 f2 n2 fa ew.symm rfl⟩
      · rename_i x hat
        obtain ⟨go, yl⟩ := okx _ hat
        refine .inr ⟨go, DInv c n g0 S0 (wipeM sm vs) (L2.wipe σ vs) g1 S1 D ws S2' (i + 1) (compR t cd (ePair ek ev) at_ k (i + 1) (wipeM sm vs)), fun H' hN => ⟨k, Nat.lt_succ_self k, by omega, hN⟩, fun v H' y => ?_⟩
        exact dc_turn dr np0 nD ne hix (by omega) rl2 x2 hD nf0 ro2 f2 n2 fa la ff ekk ew yl v H' y
end
end SB
/-! SB, part 13p: C() where there is no __init__; parts of lists or tuples. -/
namespace SB
open PySem PySem.Spec PyProof.Rows L2
structure Mk0 (K : PySem.W.Frag) (C : Addr) : Prop where
  makes : PySem.W.makesIn K C = true
  init : PySem.W.findIn K (.ref C) "__init__" = some (some (.builtin "object.__init__"))
  kp : PySem.W.keepIn K (.ref C) = true
section
variable {X : Cx} {C : Addr} {x : Str} {p pos : Pos}
theorem pe_bare (M : Mk0 X.K C) (hg : Gl X x) (hm : X.mg x = some (.ref C)) (hdb : (x == ("__debug__" : Str)) = false) :
    PE X (.Call (.Name x p) [] [] pos) (fun _ H Q => ∀ y dx, H y = none → H dx = none → dx ≠ y → Q (.ref y) (upd (upd H dx (.own y)) y (.ins C dx []))) := by
  refine ⟨fun pins s σ H Q I h => ?_⟩
  refine wpAny_Call_Name_kw (ld_glob I hg hm ?_ hdb)
  have I2 := Inv.made (C := C) I
  have q := h (s.heap.objs.size + 1) s.heap.objs.size (I.hok.fresh (Nat.le_succ _)) (I.hok.fresh (Nat.le_refl _)) (Nat.ne_of_lt (Nat.lt_succ_self _))
  refine PySem.W.callWith_K0 I.kIn M.kp (wpAny_call (make_map0 I.kIn M.makes M.init (fun self => PySem.W.Looks.of_pure (PySem.W.oi_bind self)) ?_))
  have Y := PySem.W.makes_of (M := model X.prog X.w) I.kIn M.makes
  have hx : ((s.heap.push PySem.W.emptyDict).push (PySem.W.instObj C s.heap.objs.size)).get? (s.heap.objs.size + 1) = some (PySem.W.instObj C s.heap.objs.size) := by
    have := Heap.get?_push_size (s.heap.push PySem.W.emptyDict) (o := PySem.W.instObj C s.heap.objs.size) rfl
    rwa [Heap.size_push] at this
  have t1 : PySem.W.Looks (model X.prog X.w) ((s.heap.push PySem.W.emptyDict).push (PySem.W.instObj C s.heap.objs.size)) (typeOf (.ref (s.heap.objs.size + 1))) (.ref C) := (PySem.W.Looks.ld hx).andThen .now
  have t2 : PySem.W.Looks (model X.prog X.w) ((s.heap.push PySem.W.emptyDict).push (PySem.W.instObj C s.heap.objs.size)) (isInstance (.ref (s.heap.objs.size + 1)) (.type "object")) true := t1.andThen (Y.top.keeps fun b o e => Heap.get?_push_of_some _ (Heap.get?_push_of_some _ e))
  refine codeAny_call_builtin PySem.W.oi_plain PySem.W.entry_oi (@PySem.W.check_slot (model X.prog X.w) _ _ _ "object.__init__" "object" "__init__" (.ref (s.heap.objs.size + 1)) [] [] _ PySem.W.oi_kind PySem.W.oi_split t2 (PySem.W.oi_args (.ref (s.heap.objs.size + 1))) ?_)
  rw [PySem.W.oi_run]
  exact wpAny_pure (And.intro rfl ⟨.ref (s.heap.objs.size + 1), _, I2, rfl, q⟩)
end
def eNew (C : Str) : E := fun _ S => .ok (.obj C [] []) S
section
variable {c : Cn} {X : Cx} {x : Str} {p pos : Pos}
theorem e_new {C : Str} {cA : Addr} (hC : c.cls C = some cA) (M : Mk0 X.K cA) (hg : Gl X x) (hm : X.mg x = some (.ref cA)) (hdb : (x == ("__debug__" : Str)) = false) : PE X (.Call (.Name x p) [] [] pos) (tE c (eNew C)) := PEimp (pe_bare M hg hm hdb) fun σ H Q h => by
  obtain ⟨g0, S0, sm, g, S, rfl, rl, w, S', e, q⟩ := h
  cases e
  intro y dx ny nd ne
  have hA := rl.h.lay nd (.own y)
  have xA := Ext.lay rl.h nd (.own y)
  have ny2 : (g.lay dx (.own y)).H y = none := by
    show upd g.H dx (.own y) y = none
    rw [upd_ne (Ne.symm ne)]; exact ny
  have hB := hA.lay ny2 (.ins cA dx [])
  have xB := xA.trans (Ext.lay hA ny2 (.ins cA dx []))
  have nl : ¬ live ((g.lay dx (.own y)).lay y (.ins cA dx [])) S y := fun ⟨a, o, ea, ra⟩ => rl.h.rho_some ea (by rw [show g.rho a = y from ra]; exact ny)
  have hy : ((g.lay dx (.own y)).lay y (.ins cA dx [])).H y = some (.ins cA dx []) := upd_same
  refine q (((g.lay dx (.own y)).lay y (.ins cA dx [])).frz y) (.ref y) (hB.frz (by rw [hy]; intro z; cases z) nl) (xB.frz (c := c) ny) ?_
  rw [rw_obj]
  exact ⟨y, cA, dx, [], rfl, .inl rfl, hC, hy, rfl, .nil⟩
end
/-- a part of a tuple or of a list -/
def eSliceX (a : E) (lo hi : P') : E := fun σ S => (a σ S).bind fun x S1 => (lo σ S1).bind fun l S2 => (hi σ S2).bind fun h S3 => match x with
  | .tup xs => .ok (.tup (cutG xs l h)) S3
  | x => match cutSrc S3 x with
    | some xs => .ok (.fl (cutG xs l h)) S3
    | none => .stuck
section
variable {c : Cn} {X : Cx} {pos : Pos} {e : Expr} {ma : E}
theorem e_sliceX {lo hi : Option Expr} {ml mh : P'} {p2 : Pos} (hK : X.K = c.K) (he : PE X e (tE c ma)) (hl : PO X lo (tP c ml)) (hh : PO X hi (tP c mh)) : PE X (.Subscript e (.Slice lo hi none p2) pos) (tE c (eSliceX ma ml mh)) := by
  refine ⟨fun pins s σ H Q I h => ?_⟩
  obtain ⟨g0, S0, sm, g, S, rfl, rl, w, S', e0, q⟩ := h
  obtain ⟨x, S1, e1, e⟩ := SB.R.of_bind e0
  obtain ⟨l, S2, e2, e⟩ := SB.R.of_bind e
  obtain ⟨u, S3, e3, e⟩ := SB.R.of_bind e
  have lists : (match cutSrc S3 x with
      | some xs => SB.R.ok (W.fl (cutG xs l u)) S3
      | none => SB.R.stuck) = SB.R.ok w S' → wpAny (model X.prog X.w) X.A (eval (.Subscript _ (.Slice lo hi none p2) pos) X.env) (EP X pins σ Q) X.xe s := fun e => by
    refine (e_frz (e_slice (c := c) (pos := pos) hK he hl hh)).run pins s σ _ Q I ⟨g0, S0, sm, g, S, rfl, rl, w, S', ?_, q⟩
    show (((ma sm S).bind fun x S1 => (ml sm S1).bind fun l S2 => (mh sm S2).bind fun h S3 => match cutSrc S3 x with
      | some xs => SB.R.ok (cutG xs l h) S3
      | none => SB.R.stuck).bind fun xs S1 => SB.R.ok (W.fl xs) S1) = _
    rw [e1]
    simp only [R.bind_ok]
    rw [e2]
    simp only [R.bind_ok]
    rw [e3]
    simp only [R.bind_ok]
    cases hc : cutSrc S3 x with
    | none => rw [hc] at e; cases e
    | some xs => rw [hc] at e; exact e
  cases x with
  | tup xs =>
    refine (e_sliceT (c := c) (pos := pos) hK he hl hh).run pins s σ _ Q I ⟨g0, S0, sm, g, S, rfl, rl, w, S', ?_, q⟩
    show ((ma sm S).bind fun x S1 => (ml sm S1).bind fun l S2 => (mh sm S2).bind fun h S3 => match x with
      | .tup xs => SB.R.ok (W.tup (cutG xs l h)) S3
      | _ => .stuck) = _
    rw [e1]
    simp only [R.bind_ok]
    rw [e2]
    simp only [R.bind_ok]
    rw [e3]
    simp only [R.bind_ok]
    exact e
  | _ => exact lists e
end
/-- xs.index(y), plain data -/
def fIndexD (x : W) (ws : List W) (S : Hm) : R W := match ws with
  | [w] => (match toD w, (lstOf S x).bind toDs with
    | some d, some ds => if (SeqAt.shaped (.list ds) && SeqAt.shaped d) = true then (match ds.findIdx? (fun z => PyData.eqv z d) with
      | some j => .ok (.int (j : Nat)) S
      | none => .stuck) else .stuck
    | _, _ => .stuck)
  | _ => .stuck
def fIndexY (x : W) (ws : List W) (S : Hm) : R W := match fIndexL x ws S with
  | .ok w S' => .ok w S'
  | _ => fIndexD x ws S
section
variable {c : Cn} {X : Cx} {pos : Pos} {o : Expr} {ma mo : E}
theorem bm_indexD : BmS c fIndexD (rIndexD c.K) := fun g S x ws v vs w S' Q h rx rs e q => by
  unfold fIndexD at e
  split at e
  · split at e
    · rename_i d ds hd hds
      split at e
      · rename_i hf
        split at e
        · rename_i j hj
          cases e
          rw [Bool.and_eq_true] at hf
          obtain ⟨ys, h1, h2⟩ := Option.bind_eq_some_iff.mp hds
          obtain ⟨p, xs, rfl, hp, z, rr⟩ := lst_at h rx h1
          obtain ⟨v1, rfl, rv⟩ := rs.one
          obtain ⟨hlt, hjj, hno⟩ := List.findIdx?_eq_some_iff_getElem.mp hj
          refine ⟨p, v1, d, ds, j, _, rfl, rfl, .lst (.inl (.inl hp)) (toDs_dp _ _ _ rr h2), toD_dp _ _ _ rv hd, hf.1, hf.2, List.getElem?_eq_getElem hlt, hjj, fun m z' hm hz' => ?_, q g _ h (Ext.refl g S) (rw_int.mpr rfl)⟩
          have hml : m < ds.length := Nat.lt_trans hm hlt
          rw [List.getElem?_eq_getElem hml] at hz'
          cases hz'
          have := hno m hm
          simpa using this
        · cases e
      · cases e
    · cases e
  · cases e
theorem e_hindexD {a : Expr} {p2 : Pos} (hu : X.A.units + 64 + 1 < cLine) (ho : PE X o (tE c mo)) (ha : PE X a (tE c ma)) (n1 : ∀ u p, a ≠ .Starred u p) (hK : X.K = c.K)
    (hb : attributeBase o "index" X.env (eval o X.env) = eval o X.env) (hl : (p2.endLine == pos.line) = true) : PE X (.Call (.Attribute o "index" p2) [a] [] pos) (tE c (eBm fIndexD mo (aCons ma aNil))) :=
  PEimp (pe_bm PySem.F.plainAttrs_list PySem.F.slot_list_index PySem.F.type_list_index (mt_indexD (by omega)) ho (a_cons ha a_nil (star_ne n1)) hb (by rw [star_ne n1]; rfl) hl (star_ne n1) rfl) fun σ H Q h => by
    have := tE_bm hK bm_indexD h
    rw [← hK] at this
    exact this
theorem e_hindexY {x : Str} {a : Expr} {p2 : Pos} (hx : x = "index") (hu : X.A.units + 64 + 1 < cLine) (ho : PE X o (tE c mo)) (ha : PE X a (tE c ma)) (n1 : ∀ u p, a ≠ .Starred u p) (hK : X.K = c.K)
    (hb : attributeBase o x X.env (eval o X.env) = eval o X.env) (hl : (p2.endLine == pos.line) = true) : PE X (.Call (.Attribute o x p2) [a] [] pos) (tE c (eBm fIndexY mo (aCons ma aNil))) := by
  refine ⟨fun pins s σ H Q I h => ?_⟩
  obtain ⟨g0, S0, sm, g, S, rfl, rl, w, S', e0, q⟩ := h
  obtain ⟨y, S1, e1, e⟩ := SB.R.of_bind e0
  cases hy : lstOf S1 y with
  | none => rw [hy] at e; cases e
  | some ys =>
  rw [hy] at e
  obtain ⟨ws, S2, e2, e⟩ := SB.R.of_bind e
  have same : ∀ f : W → List W → Hm → SB.R W, f y ws S2 = .ok w S' → eBm f mo (aCons ma aNil) sm S = .ok w S' := fun f ef => by
    show ((mo sm S).bind fun x S1 => match lstOf S1 x with
      | some _ => (aCons ma aNil sm S1).bind fun ws S2 => f x ws S2
      | none => .stuck) = _
    rw [e1]
    simp only [R.bind_ok, hy]
    rw [e2]
    exact ef
  cases hL : fIndexL y ws S2 with
  | ok w' S'' =>
    have : fIndexL y ws S2 = .ok w S' := by
      unfold fIndexY at e
      rw [hL] at e
      rw [hL]; exact e
    exact (e_hindex (c := c) (pos := pos) hx ho ha n1 hK hb hl).run pins s σ _ Q I ⟨g0, S0, sm, g, S, rfl, rl, w, S', same _ this, q⟩
  | exc C v S'' =>
    unfold fIndexY at e
    rw [hL] at e
    subst hx
    exact (e_hindexD (c := c) (pos := pos) hu ho ha n1 hK hb hl).run pins s σ _ Q I ⟨g0, S0, sm, g, S, rfl, rl, w, S', same _ e, q⟩
  | stuck =>
    unfold fIndexY at e
    rw [hL] at e
    subst hx
    exact (e_hindexD (c := c) (pos := pos) hu ho ha n1 hK hb hl).run pins s σ _ Q I ⟨g0, S0, sm, g, S, rfl, rl, w, S', same _ e, q⟩
end
end SB
/-! SB, part 14: from the text to the combinators. -/
namespace SB
open PySem PySem.Spec PyProof.Rows L2
noncomputable section

/-- built-in names -/
inductive Blt where
  | len | abs | int | all | any | sum | max | min | tuple | list | isinstance | range | enumerate | zip | bool | str | bytes | dict | sorted
  deriving DecidableEq
def Blt.nm : Blt → Str
  | .len => "len" | .abs => "abs" | .int => "int" | .all => "all" | .any => "any" | .sum => "sum" | .max => "max" | .min => "min" | .tuple => "tuple" | .list => "list"
  | .isinstance => "isinstance" | .range => "range" | .enumerate => "enumerate" | .zip => "zip" | .bool => "bool" | .str => "str" | .bytes => "bytes" | .dict => "dict" | .sorted => "sorted"
def Blt.ty : Blt → Option String
  | .int => some "int" | .tuple => some "tuple" | .list => some "list" | .bool => some "bool" | .str => some "str" | .bytes => some "bytes" | .dict => some "dict"
  | _ => none
def Blt.fn : Blt → Option Fn
  | .len => some fLen | .abs => some fAbs | .int => some fInt | .all => some fAll | .any => some fAny | .sum => some fSum | .max => some fMax2 | .min => some fMin2 | .tuple => some fTuple
  | _ => none
/-- how a class is called -/
inductive Mk' where
  | no | frz (n : Nat) (f : Fi) (dws : List W) | hp (n : Nat) (f : Fn) (dws : List W) | zp (n : Nat) (f : Fn) (dws : List W) | nw
/-- a module's name -/
inductive GE where
  | fn (n : Nat) (m : Fn) (dws : List W) | cst (w : W) | cls (C : Str) (mk : Mk') | blt (b : Blt)
/-- what stands ahead of a statement -/
inductive Gs where
  | frz (i : Nat) | lay (i : Nat)
def Gs.den : Gs → St'
  | .frz i => sFrz i
  | .lay i => sLay i
structure Tb where
  N : List Str
  sc : Scope
  xf : Str → Bool
  k : Nat
  gl : List (Str × GE)
  me : List (Str × Nat × (Str → Option Fn))
  flds : List Str
  /-- lines of own lists; places of lists on the own heap; lines with something ahead -/
  ow : List Nat
  hp : List (Nat × Nat × Nat)
  /-- places of slices of tuples -/
  ts : List (Nat × Nat × Nat)
  gh : List (Nat × List Gs)
  /-- places of what is done with dicts; lines of walks over dicts' keys; lines that are never reached -/
  dp : List (Nat × Nat × Nat) := []
  dk : List Nat := []
  nv : List Nat := []
  /-- places of dicts whose keys are tuples -/
  dn : List (Nat × Nat × Nat) := []
def Tb.blk (T : Tb) (scope : Scope) : Tb := { T with sc := relS scope T.sc, xf := fun x => scope.names.lookup x == some .cell }
structure Cm where
  e : Tb → Expr → Option E
  t : Tb → Expr → Option T
  l : Tb → Expr → Option L
  s : Tb → Stmt → Option St'

def ixOf : List Str → Str → Nat → Option Nat
  | [], _, _ => none
  | y :: ys, x, i => if x = y then some i else ixOf ys x (i + 1)
def visB (sc : Scope) (x : Str) : Bool := match sc.names.lookup x with
  | some .local => true
  | some .cell => true
  | some .free => true
  | _ => false
def locB (T : Tb) (x : Str) : Bool := match T.sc.names.lookup x with
  | some .local => true
  | some .cell => T.xf x
  | _ => false
def gloB (sc : Scope) (x : Str) : Bool := match sc.names.lookup x with
  | some .globalImplicit => true
  | _ => false
def glob (T : Tb) (x : Str) : Option GE := if gloB T.sc x = true then T.gl.lookup x else none
def opF : Operator → Option (W → W → Hm → R W)
  | .Add => some fAdd | .Sub => some fSub | .Mult => some fMul | .FloorDiv => some fDiv | .Mod => some fMod | .Pow => some fPow | .LShift => some fShl | .RShift => some fShr | .BitAnd => some fAnd
  | _ => none
def cmpF : CmpOp → Option (W → W → Hm → R W)
  | .Eq => some fEq | .NotEq => some fNe | .In => some fIn | .NotIn => some fNotIn | .Lt => some fLtT | .LtE => some fLe | .Gt => some fGt | .GtE => some fGe | .Is => some fIsN | .IsNot => some fNotN
def notSlice : Expr → Bool
  | .Slice _ _ _ _ => false
  | _ => true
/-- what stands ahead of a dot -/
def plainO : Expr → Bool
  | .Name _ _ => true
  | .Attribute _ _ _ => true
  | .Subscript _ _ _ => true
  | .Constant _ _ _ => true
  | .Call (.Name id _) [] [] _ => id != "super"
  | .Call (.Name _ _) (_ :: _) _ _ => true
  | .Call (.Attribute _ _ _) _ _ _ => true
  | _ => false
def notComp : Expr → Bool
  | .ListComp _ _ _ _ => false
  | .SetComp _ _ _ _ => false
  | .DictComp _ _ _ _ _ => false
  | _ => true
def notSet : Expr → Bool
  | .Set _ _ _ => false
  | _ => true
def cName (T : Tb) (x : Str) : Option E := match ixOf T.N x 0 with
  | some i => if visB T.sc x = true then some (eVar i) else none
  | none => match glob T x with
    | some (.cst w) => some (eC w)
    | _ => none
def cArgs (ce : Expr → Option E) : List Expr → Option As
  | [] => some aNil
  | e :: es => if notStar e = true then (ce e).bind fun m => (cArgs ce es).bind fun r => some (aCons m r) else none
def cAnd (ce : Expr → Option E) : List Expr → Option E
  | [] => none
  | [a] => ce a
  | a :: b :: r => (ce a).bind fun m => (cAnd ce (b :: r)).bind fun n => some (eAnd m n)
def cOr (ce : Expr → Option E) : List Expr → Option E
  | [] => none
  | [a] => ce a
  | a :: b :: r => (ce a).bind fun m => (cOr ce (b :: r)).bind fun n => some (eOr m n)
def cAndT (ce : Expr → Option T) : List Expr → Option T
  | [] => none
  | [a] => ce a
  | a :: b :: r => (ce a).bind fun m => (cAndT ce (b :: r)).bind fun n => some (tAnd m n)
def cOrT (ce : Expr → Option T) : List Expr → Option T
  | [] => none
  | [a] => ce a
  | a :: b :: r => (ce a).bind fun m => (cOrT ce (b :: r)).bind fun n => some (tOr m n)
/-- a class's name as isinstance's second place -/
def tyName (T : Tb) : Expr → Option Ty
  | .Name x _ => match glob T x with
    | some (.blt b) => b.ty.map Ty.b
    | some (.cls C _) => some (.c C)
    | _ => none
  | _ => none
/-- the defaults that fill up n given values -/
def dflt (dws : List W) (n nn : Nat) : List W := dws.drop (n + dws.length - nn)
def cCall (r : Cm) (T : Tb) (x : Str) (es : List Expr) : Option E := match glob T x with
  | some (.fn n m dws) => if es.length + (dflt dws es.length n).length = n then (cArgs (r.e T) es).bind fun a => some (eCallD m (dflt dws es.length n) a) else none
  | some (.cls C (.frz n f dws)) => if es.length + (dflt dws (es.length + 1) n).length + 1 = n then (cArgs (r.e T) es).bind fun a => some (eMk C f (dflt dws (es.length + 1) n) a) else none
  | some (.cls C (.zp n f dws)) => if es.length + (dflt dws (es.length + 1) n).length + 1 = n then (cArgs (r.e T) es).bind fun a => some (eMkZ C f (dflt dws (es.length + 1) n) a) else none
  | some (.cls C (.hp n f dws)) => if es.length + (dflt dws (es.length + 1) n).length + 1 = n then (cArgs (r.e T) es).bind fun a => some (eMkH C f (dflt dws (es.length + 1) n) a) else none
  | some (.cls C .nw) => (match es with
    | [] => some (eNew C)
    | _ => none)
  | some (.blt .isinstance) => (match es with
    | [a, b] => if notStar a = true then (tyName T b).bind fun t => (r.e T a).bind fun m => some (eIsi [t] m) else none
    | _ => none)
  | some (.blt b) => (match es with
    | [] => none
    | _ :: _ => b.fn.bind fun f => (cArgs (r.e T) es).bind fun a => some (eCall f a))
  | _ => none
/-- a constant tuple by its name -/
def cstOf (T : Tb) : Expr → Option (List W)
  | .Name x _ => (match ixOf T.N x 0 with
    | some _ => none
    | none => (match glob T x with
      | some (.cst (.tup ws)) => some ws
      | _ => none))
  | _ => none
def cMeth (r : Cm) (T : Tb) (o : Expr) (m : Str) (es : List Expr) : Option E :=
  if m = "append" then (match es with
    | [a] => if notStar a = true then (r.e T o).bind fun mo => (r.e T a).bind fun ma => some (eBm fAppend mo (aCons ma aNil)) else none
    | _ => none)
  else if m = "extend" then (match es with
    | [a] => if notStar a = true then (r.e T o).bind fun mo => (r.e T a).bind fun ma => some (eBm fExtend mo (aCons ma aNil)) else none
    | _ => none)
  else if m = "pop" then (match es with
    | [a] => if notStar a = true then (r.e T o).bind fun mo => (r.e T a).bind fun ma => some (eBm fPopAt mo (aCons ma aNil)) else none
    | _ => none)
  else if m = "index" then (match es with
    | [a] => if notStar a = true then (match cstOf T o with
      | some ws => (r.e T a).bind fun ma => some (eUn (fCIdx ws) ma)
      | none => (r.e T o).bind fun mo => (r.e T a).bind fun ma => some (eBm fIndexY mo (aCons ma aNil))) else none
    | _ => none)
  else match T.me.find? (fun q => decide (q.1 = m ∧ q.2.1 = es.length)) with
    | some q => if es.length < 30 then (r.e T o).bind fun mo => (cArgs (r.e T) es).bind fun a => some (eMeth q.1 q.2.2 mo a) else none
    | none => none
def keyE (e : Expr) : Nat × Nat × Nat := (e.pos.line, e.pos.col, e.pos.endCol)
/-- lists just made -/
def cOwn (T : Tb) (scope : Scope) : List (Str × Nat) := scope.names.filterMap fun p => match p.2 with
  | .local => (ixOf T.N p.1 0).map fun i => (p.1, i)
  | .cell => (ixOf T.N p.1 0).map fun i => (p.1, i)
  | _ => none
def cGs (cg : Expr → Option (List Nat × Tg)) : List Expr → Option (List Nat × List Tg)
  | [] => some ([], [])
  | e :: es => if notStar e = true then (cg e).bind fun p => (cGs cg es).bind fun q => some (p.1 ++ q.1, p.2 :: q.2) else none
def cG (T : Tb) : Nat → Expr → Option (List Nat × Tg)
  | 0, _ => none
  | n + 1, e => match e with
    | .Name x _ => (ixOf T.N x 0).bind fun i => if locB T x = true then some ([i], tgName i) else none
    | .Tuple es _ _ => (cGs (cG T n) es).bind fun p => some (p.1, tgTup p.2)
    | _ => none
def isTup : Expr → Bool
  | .Tuple _ _ _ => true
  | _ => false
def cI0 (r : Cm) (T : Tb) (e : Expr) : Option I := if notSet e = true then (r.e T e).bind fun m => some (iVal m) else none
def cI (r : Cm) (T : Tb) (tg : Expr) (e : Expr) : Option I := match e with
  | .Call (.Name x _) [a] [] _ => (match glob T x with
    | some (.blt .range) => if notStar a = true then (r.e T a).bind fun m => some (iRange1 m) else none
    | some (.blt .enumerate) => if (notStar a && isTup tg) = true then (r.e T a).bind fun m => some (iEnum m) else none
    | _ => cI0 r T e)
  | .Call (.Name x _) [a, b] [] _ => (match glob T x with
    | some (.blt .range) => if (notStar a && notStar b) = true then (r.e T a).bind fun m => (r.e T b).bind fun n => some (iRange2 m n) else none
    | some (.blt .zip) => if (notStar a && notStar b && isTup tg) = true then (r.e T a).bind fun m => (r.e T b).bind fun n => some (iZip m n) else none
    | _ => cI0 r T e)
  | _ => cI0 r T e
def cIfs (r : Cm) (T : Tb) : List Expr → Option SB.T
  | [] => some tYes
  | [e] => r.t T e
  | _ => none
def cLc (r : Cm) (T : Tb) (elt tg iter : Expr) (ifs : List Expr) (scope : Scope) : Option L :=
  if blkC T.N T.sc scope (cOwn T scope) = true then
    (cI r T tg iter).bind fun i => (cG (T.blk scope) 5 tg).bind fun g => if g.1.all (fun j => ((cOwn T scope).map (·.2)).contains j) = true then
      (cIfs r (T.blk scope) ifs).bind fun c => (r.e (T.blk scope) elt).bind fun m => some (lComp ((cOwn T scope).map (·.2)) g.2 i c m) else none
  else none
def cP (r : Cm) (T : Tb) : Option Expr → Option P'
  | none => some pNone
  | some e => (r.e T e).bind fun m => some (pSome m)
def cL (r : Cm) (T : Tb) (e : Expr) : Option L := match e with
  | .List es _ => (cArgs (r.e T) es).bind fun a => some (lDisp a)
  | .ListComp elt [⟨tg, iter, ifs, 0⟩] scope _ => cLc r T elt tg iter ifs scope
  | .BinOp a .Add b _ => (r.e T a).bind fun m => (r.e T b).bind fun n => some (lCat m n)
  | .Subscript a (.Slice lo hi none _) _ => (r.e T a).bind fun m => (cP r T lo).bind fun l => (cP r T hi).bind fun h => some (lSlice m l h)
  | .Subscript a (.Slice none none (some (.UnaryOp .USub (.Constant (.int 1) _ _) _)) _) _ => (r.e T a).bind fun m => some (lRev m)
  | .Call (.Name x _) [a] [] _ => (match glob T x with
    | some (.blt .list) => if notStar a = true then (r.e T a).bind fun m => some (lCall fList (aCons m aNil)) else none
    | some (.blt .sorted) => if notStar a = true then (r.e T a).bind fun m => some (lCall fSortedY (aCons m aNil)) else none
    | _ => none)
  | _ => none
/-- a list, frozen or on the own heap -/
def cLE (r : Cm) (T : Tb) (e : Expr) : Option E := (r.l T e).bind fun m => if T.hp.contains (keyE e) = true then some (eHeap m) else some (eFrz m)
def isList (T : Tb) : Expr → Bool
  | .List _ _ => true
  | .ListComp _ _ _ _ => true
  | .Subscript _ (.Slice _ _ _ _) p => !(T.ts.contains (p.line, p.col, p.endCol))
  | .BinOp a .Add b p => T.hp.contains (p.line, p.col, p.endCol)
  | .Call (.Name x _) _ _ _ => (match glob T x with
    | some (.blt .list) => true
    | some (.blt .sorted) => true
    | _ => false)
  | _ => false
def cDc (r : Cm) (T : Tb) (n : Bool) (kx vx tg iter : Expr) (ifs : List Expr) (scope : Scope) : Option E :=
  if blkC T.N T.sc scope (cOwn T scope) = true then
    (cI r T tg iter).bind fun i => (cG (T.blk scope) 5 tg).bind fun g => if g.1.all (fun j => ((cOwn T scope).map (·.2)).contains j) = true then
      (cIfs r (T.blk scope) ifs).bind fun c => (r.e (T.blk scope) kx).bind fun mk => (r.e (T.blk scope) vx).bind fun mv => some (eDc n ((cOwn T scope).map (·.2)) g.2 i c mk mv) else none
  else none
def nest (T : Tb) (p : Pos) : Bool := T.dn.contains (p.line, p.col, p.endCol)
/-- more expressions -/
def cE2 (r : Cm) (T : Tb) (e : Expr) : Option E := match e with
  | .Dict [] [] p => if nest T p = true then some eDictN else some eDict0
  | .DictComp kx vx [⟨tg, iter, ifs, 0⟩] scope p => cDc r T (nest T p) kx vx tg iter ifs scope
  | .Compare a [.In] [b] p => if (T.dp.contains (p.line, p.col, p.endCol) && notSet b) = true then (r.e T a).bind fun m => (r.e T b).bind fun n => (if nest T p = true then some (eNIn false m n) else some (eDIn false m n)) else none
  | .Compare a [.NotIn] [b] p => if (T.dp.contains (p.line, p.col, p.endCol) && notSet b) = true then (r.e T a).bind fun m => (r.e T b).bind fun n => (if nest T p = true then some (eNIn true m n) else some (eDIn true m n)) else none
  | .Subscript a b p => if (T.dp.contains (p.line, p.col, p.endCol) && notSlice b) = true then (r.e T a).bind fun m => (r.e T b).bind fun n => (if nest T p = true then some (eNGet m n) else some (eDGet m n)) else none
  | .Call (.Attribute o m p2) [a] [] p3 => if (T.dp.contains (p3.line, p3.col, p3.endCol) && decide (m = "get") && plainO o && (p2.endLine == p3.line) && notStar a) = true then (r.e T o).bind fun m => (r.e T a).bind fun n => some (eDGet1 m n) else none
  | .Call (.Attribute o m p2) [a, b] [] p3 => if (T.dp.contains (p3.line, p3.col, p3.endCol) && decide (m = "get") && plainO o && (p2.endLine == p3.line) && notStar a && notStar b) = true then (r.e T o).bind fun m => (r.e T a).bind fun n => (r.e T b).bind fun k => (if nest T p3 = true then some (eNGet2 m n k) else some (eDGet2 m n k)) else none
  | .Call (.Name x _) [a, .Tuple [b, d] _ _] [] _ => (match glob T x with
    | some (.blt .isinstance) => if notStar a = true then (tyName T b).bind fun t => (tyName T d).bind fun u => (r.e T a).bind fun m => some (eIsi [t, u] m) else none
    | _ => none)
  | _ => none
def cE (r : Cm) (T : Tb) (e : Expr) : Option E := if isList T e = true then cLE r T e else match cE2 r T e with
  | some m => some m
  | none => match e with
  | .Constant (.int i) _ _ => some (eC (.int i))
  | .Constant (.bool b) _ _ => some (eC (.bl b))
  | .Constant .none _ _ => some (eC .non)
  | .Constant (.str x) _ _ => some (eC (.str x))
  | .Constant (.bytes x) _ _ => some (eC (.byt x.toArray))
  | .Name x _ => cName T x
  | .BinOp a op b _ => (opF op).bind fun f => (r.e T a).bind fun m => (r.e T b).bind fun n => some (eBin f m n)
  | .UnaryOp .USub a _ => (r.e T a).bind fun m => some (eUn fNeg m)
  | .UnaryOp .Not a _ => (r.e T a).bind fun m => some (eNot m)
  | .Compare a [op] [b] _ => if notSet b = true then (cmpF op).bind fun f => (r.e T a).bind fun m => (r.e T b).bind fun n => some (eBin f m n) else none
  | .Compare a [op, op'] [b, d] _ => if notSet d = true then (cmpF op).bind fun f => (cmpF op').bind fun f' => (r.e T a).bind fun m => (r.e T b).bind fun n => (r.e T d).bind fun o => some (eChain f f' m n o) else none
  | .BoolOp .And es _ => cAnd (r.e T) es
  | .BoolOp .Or es _ => cOr (r.e T) es
  | .IfExp t a b _ => (r.t T t).bind fun c => (r.e T a).bind fun m => (r.e T b).bind fun n => some (eIf c m n)
  | .Tuple es _ _ => (cArgs (r.e T) es).bind fun a => some (eTup a)
  | .Attribute o f _ => if (plainO o && T.flds.contains f) = true then (r.e T o).bind fun m => some (eFld m f) else none
  | .Subscript a (.Slice lo hi none _) _ => (r.e T a).bind fun m => (cP r T lo).bind fun l => (cP r T hi).bind fun h => some (eSliceX m l h)
  | .Subscript a b _ => if notSlice b = true then (r.e T a).bind fun m => (r.e T b).bind fun n => some (eBin fIdx m n) else none
  | .Call (.Name x _) es [] _ => cCall r T x es
  | .Call (.Attribute o m p2) es [] p3 => if (plainO o && (p2.endLine == p3.line) && es.all notStar) = true then cMeth r T o m es else none
  | _ => none
/-- what is no test of its own kind -/
def valT : Expr → Bool
  | .Name _ _ => true
  | .Attribute _ _ _ => true
  | .Subscript _ _ _ => true
  | .Call _ _ _ _ => true
  | .Constant _ _ _ => true
  | _ => false
def cT2 (r : Cm) (T : Tb) (e : Expr) : Option SB.T := match e with
  | .Compare a [.In] [b] p => if (T.dp.contains (p.line, p.col, p.endCol) && notSet b) = true then (r.e T a).bind fun m => (r.e T b).bind fun n => (if nest T p = true then some (tVal (eNIn false m n)) else some (tVal (eDIn false m n))) else none
  | .Compare a [.NotIn] [b] p => if (T.dp.contains (p.line, p.col, p.endCol) && notSet b) = true then (r.e T a).bind fun m => (r.e T b).bind fun n => (if nest T p = true then some (tVal (eNIn true m n)) else some (tVal (eDIn true m n))) else none
  | _ => none
def cT (r : Cm) (T : Tb) (e : Expr) : Option SB.T := match cT2 r T e with
  | some m => some m
  | none => match e with
  | .Compare a [op] [b] _ => if notSet b = true then (cmpF op).bind fun f => (r.e T a).bind fun m => (r.e T b).bind fun n => some (tVal (eBin f m n)) else none
  | .Compare a [op, op'] [b, d] _ => if notSet d = true then (cmpF op).bind fun f => (cmpF op').bind fun f' => (r.e T a).bind fun m => (r.e T b).bind fun n => (r.e T d).bind fun o => some (tVal (eChain f f' m n o)) else none
  | .BoolOp .And es _ => cAndT (r.t T) es
  | .BoolOp .Or es _ => cOrT (r.t T) es
  | .UnaryOp .Not a _ => (r.t T a).bind fun m => some (tNot m)
  | e => if valT e = true then (r.e T e).bind fun m => some (tVal m) else none
/-- x, y = a, b with the two stores swapped -/
def parOf (T : Tb) (tg e : Expr) : Option (Str × Str × Expr × Expr × Nat × Nat) := match tg, e with
  | .Tuple [.Name x px, .Name y py] _ _, .Tuple [a, b] _ _ => if (notStar a && notStar b && decide (T.sc.names.lookup x = some .local) && decide (T.sc.names.lookup y = some .local) && (px.line == py.line) && !(x == y) && !([a, b].all (foldedForSure 8)) && !([a, b].all (constantsAlone 8))) = true then
      (ixOf T.N x 0).bind fun i => (ixOf T.N y 0).bind fun j => if i = j then none else some (x, y, a, b, i, j) else none
  | _, _ => none
/-- x, y, z = a, b, c with the stores swapped -/
def par3Of (T : Tb) (tg e : Expr) : Option ((Str × Str × Str) × (Expr × Expr × Expr) × (Nat × Nat × Nat)) := match tg, e with
  | .Tuple [.Name x px, .Name y py, .Name z pz] _ _, .Tuple [a, b, c] _ _ => if (notStar a && notStar b && notStar c && decide (T.sc.names.lookup x = some .local) && decide (T.sc.names.lookup y = some .local) && decide (T.sc.names.lookup z = some .local) && (py.line == px.line) && (pz.line == px.line) && (([x, y, z] : List Str).eraseDups.length == 3) && !([a, b, c].all (foldedForSure 8)) && !([a, b, c].all (constantsAlone 8))) = true then
      (ixOf T.N x 0).bind fun i => (ixOf T.N y 0).bind fun j => (ixOf T.N z 0).bind fun l => if i = j ∨ i = l ∨ j = l then none else some ((x, y, z), (a, b, c), (i, j, l)) else none
  | _, _ => none
/-- no swap of stores -/
def swNone (T : Tb) (ts vs : List Expr) : Bool :=
  if (!(ts.length == 2 || ts.length == 3) || vs.length != ts.length) = true then true else
  if (vs.any fun | .Starred .. => true | _ => false) = true then true else
  if ((ts.filterMap fun | .Name id pos => if (T.sc.names.lookup id == some .local && pos.line == (ts.head?.map (·.pos.line)).getD 0) = true then some id else none | _ => none).length != ts.length) = true then true else
  vs.all (foldedForSure 8)
def noSwap (T : Tb) (tg e : Expr) : Bool := match tg, e with
  | .Tuple ts _ _, .Tuple vs _ _ => swNone T ts vs
  | .List _ _, _ => false
  | _, _ => true
def cAsg (r : Cm) (T : Tb) (tg e : Expr) (pos : Pos) : Option St' := match tg with
  | .Attribute (.Name x _) f _ => (match ixOf T.N x 0 with
    | some i => if (visB T.sc x && T.flds.contains f) = true then (r.e T e).bind fun m => some (sSetF i f m) else none
    | none => none)
  | _ => match parOf T tg e with
    | some (_, _, a, b, i, j) => (r.e T a).bind fun m => (r.e T b).bind fun n => some (sPar i j m n)
    | none => match par3Of T tg e with
    | some (_, (a, b, d), (i, j, l)) => (r.e T a).bind fun m => (r.e T b).bind fun n => (r.e T d).bind fun o => some (sPar3 i j l m n o)
    | none => (match tg, e with
      | .Name x px, .ListComp elt [⟨ltg, iter, ifs, 0⟩] scope p2 => if (decide (T.sc.names.lookup x = some .local) && (px.line == p2.line) && !(scope.names.any fun (n, k) => n == x && (k == .local || k == .cell))) = true then
          (ixOf T.N x 0).bind fun i => (cLc r T elt ltg iter ifs scope).bind fun l => if T.ow.contains pos.line = true then some (sOwn i l)
            else if T.hp.contains (p2.line, p2.col, p2.endCol) = true then some (sAsg (tgName i) (eHeap l)) else some (sAsg (tgName i) (eFrz l))
          else if (decide (T.sc.names.lookup x = some .cell) && T.xf x) = true then (ixOf T.N x 0).bind fun i => (cLc r T elt ltg iter ifs scope).bind fun l => if T.ow.contains pos.line = true then some (sOwn i l)
            else if T.hp.contains (p2.line, p2.col, p2.endCol) = true then some (sAsg (tgName i) (eHeap l)) else some (sAsg (tgName i) (eFrz l))
          else none
      | .Name x _, e => if notComp e = true then (ixOf T.N x 0).bind fun i => if locB T x = true then (if T.ow.contains pos.line = true then (r.l T e).bind fun l => some (sOwn i l) else (r.e T e).bind fun m => some (sAsg (tgName i) m)) else none else none
      | tg, e => if (noSwap T tg e && notStar tg) = true then (cG T 5 tg).bind fun g => (r.e T e).bind fun m => some (sAsg g.2 m) else none)
def gWrap : List Gs → St' → St'
  | [], m => m
  | g :: gs, m => sSeq g.den (gWrap gs m)
def cSs (r : Cm) (T : Tb) : List Stmt → Option St'
  | [] => some sNil
  | s :: ss => (r.s T s).bind fun m => (cSs r T ss).bind fun n => some (sSeq (gWrap ((T.gh.lookup s.pos.line).getD []) m) n)
def cPth (T : Tb) : Expr → Option Pth
  | .Name x _ => (ixOf T.N x 0).bind fun i => if visB T.sc x = true then some (.v i) else none
  | .Attribute (.Name x _) f _ => (ixOf T.N x 0).bind fun i => if (visB T.sc x && T.flds.contains f) = true then some (.f i f) else none
  | _ => none
/-- a walk over a dict: what of it, where it is -/
def cWalk (T : Tb) (tg : Expr) (it : Expr) (line : Nat) : Option (DK × Pth) := match it with
  | .Call (.Attribute o m p2) [] [] p3 => if (plainO o && (p2.endLine == p3.line)) = true then (if m = "items" then (if isTup tg = true then (cPth T o).bind fun p => some (.it, p) else none) else if m = "values" then (cPth T o).bind fun p => some (.vl, p) else none) else none
  | e => if (T.dk.contains line && notSet e) = true then (cPth T e).bind fun p => some (.ky, p) else none
/-- more statements -/
def cS2 (r : Cm) (T : Tb) (s : Stmt) : Option St' := if T.nv.contains s.pos.line = true then some sNever else match s with
  | .For tg it a [] pos => (cWalk T tg it pos.line).bind fun w => (cG T 5 tg).bind fun g => (cSs r T a).bind fun m => some (sLock w.2 (sFor g.2 (iDict w.1 w.2.e) m))
  | .Assign [.Subscript o i p] e _ => if (T.dp.contains (p.line, p.col, p.endCol) && notComp e) = true then (r.e T o).bind fun mo => (r.e T i).bind fun mi => (r.e T e).bind fun m => (if nest T p = true then some (sNPut mo mi m) else some (SB.sDPut mo mi m)) else none
  | .AugAssign (.Name x _) .Add e _ => (ixOf T.N x 0).bind fun i => if locB T x = true then (r.e T e).bind fun m => some (SB.sAug i m) else none
  | .AugAssign (.Attribute (.Name x _) f _) .Add e _ => (ixOf T.N x 0).bind fun i => if (visB T.sc x && T.flds.contains f) = true then (r.e T e).bind fun m => some (sFAug i f m) else none
  | .Expr (.Call (.Attribute (.Name x _) m p2) [a] [] p3) pos => if (T.ow.contains pos.line && decide (m = "extend") && notStar a && visB T.sc x && (p2.endLine == p3.line)) = true then (ixOf T.N x 0).bind fun i => (r.e T a).bind fun ma => some (sExt i ma) else none
  | _ => none
def cS (r : Cm) (T : Tb) (s : Stmt) : Option St' := match cS2 r T s with
  | some m => some m
  | none => match s with
  | .Pass _ => some sNil
  | .Break _ => some sBreak
  | .Continue _ => some sCont
  | .Raise _ _ _ => some sNever
  | .Return none _ => some (sRet (eC .non))
  | .Return (some e) _ => (r.e T e).bind fun m => some (sRet m)
  | .If t a b _ => (r.t T t).bind fun c => (cSs r T a).bind fun m => (cSs r T b).bind fun n => some (sIf c m n)
  | .While t a [] _ => (r.t T t).bind fun c => (cSs r T a).bind fun m => some (sWhile c m)
  | .For tg it a [] _ => if notSet it = true then (cI r T tg it).bind fun i => (cG T 5 tg).bind fun g => (cSs r T a).bind fun m => some (sFor g.2 i m) else none
  | .Assign [tg] e pos => cAsg r T tg e pos
  | .Expr e pos => (match e with
    | .Constant (.str _) _ _ => some sNil
    | .Call (.Attribute (.Name x p) m p2) [a] [] p3 => if T.ow.contains pos.line = true then
        (if (decide (m = "append") && notStar a && visB T.sc x && (p2.endLine == p3.line)) = true then (ixOf T.N x 0).bind fun i => (r.e T a).bind fun ma => some (sApp i ma) else none)
        else (r.e T e).bind fun m => some (sExpr m)
    | e => if notComp e = true then (r.e T e).bind fun m => some (sExpr m) else none)
  | _ => none
def cm0 : Cm := ⟨fun _ _ => none, fun _ _ => none, fun _ _ => none, fun _ _ => none⟩
def cmS (r : Cm) : Cm := ⟨cE r, cT r, cL r, cS r⟩
def cmN : Nat → Cm
  | 0 => cm0
  | n + 1 => cmS (cmN n)
def comp (T : Tb) (body : List Stmt) : Option St' := cSs (cmN 60) T body
end
end SB
/-! SB, part 15: what the text's combinators are, the text does. -/
namespace SB
open PySem PySem.Spec PyProof.Rows L2
def okN (x : Str) : Bool := !(x == ("__debug__" : Str)) && !(x == ("__classdict__" : Str)) && !(x == ("__name__" : Str))
theorem okN_d {x : Str} (h : okN x = true) : (x == ("__debug__" : Str)) = false := by
  unfold okN at h
  simp only [Bool.and_eq_true, Bool.not_eq_true'] at h
  exact h.1.1
theorem okN_c {x : Str} (h : okN x = true) : (x == ("__classdict__" : Str)) = false := by
  unfold okN at h
  simp only [Bool.and_eq_true, Bool.not_eq_true'] at h
  exact h.1.2
theorem okN_n {x : Str} (h : okN x = true) : x ≠ ("__name__" : Str) := by
  unfold okN at h
  simp only [Bool.and_eq_true, Bool.not_eq_true'] at h
  exact fun z => by rw [z] at h; simp at h
def MkOk (c : Cn) (P : Program) (w : World) (K : PySem.W.Frag) (mg : Str → Option Value) (base : Heap) (k : Nat) (C : Str) (cA : Addr) : Mk' → Prop
  | .no => True
  | .frz n f dws => ∃ fA fd ps kk, Mk K cA fA ∧ FnOk P w K mg base CX0 kk fA fd ps (spI c n C f) ∧ kk + 1 ≤ k ∧ ∀ j, ∃ ds dvs, Binds K fd ps ds ∧ Vals dvs ds ∧ ∀ g, RWs c g (dws.drop j) dvs
  | .nw => Mk0 K cA
  | .zp n f dws => ∃ fA fd ps kk, Mk K cA fA ∧ FnOk P w K mg base CX0 kk fA fd ps (spM c n f) ∧ kk + 1 ≤ k ∧ ∀ j, ∃ ds dvs, Binds K fd ps ds ∧ Vals dvs ds ∧ ∀ g, RWs c g (dws.drop j) dvs
  | .hp n f dws => ∃ fA fd ps kk, Mk K cA fA ∧ FnOk P w K mg base CX0 kk fA fd ps (spM c n f) ∧ kk + 1 ≤ k ∧ ∀ j, ∃ ds dvs, Binds K fd ps ds ∧ Vals dvs ds ∧ ∀ g, RWs c g (dws.drop j) dvs
def GOk (c : Cn) (P : Program) (w : World) (K : PySem.W.Frag) (mg : Str → Option Value) (base : Heap) (k : Nat) (x : Str) : GE → Prop
  | .fn n m dws => ∃ f, mg x = some (.ref f) ∧ ∀ j, CallN P w K mg base c k f n m (dws.drop j)
  | .cst w => ∃ u v, mg x = some u ∧ RelV v u ∧ ∀ g, RW c g w v
  | .cls C mk => ∃ cA, c.cls C = some cA ∧ mg x = some (.ref cA) ∧ MkOk c P w K mg base k C cA mk
  | .blt b => mg x = none ∧ x = b.nm
structure Good (c : Cn) (flds : List Str) (X : Cx) (T : Tb) : Prop where
  K : X.K = c.K
  xc : XC X c
  ko : KOk c flds
  fl : ∀ f, f ∈ T.flds → f ∈ flds
  N : X.N = T.N
  nd : X.N.Nodup
  sc : X.env.scope = T.sc
  kind : T.sc.kind = .function
  calm : X.calm = true
  room : Room T.k X.A
  xf : ∀ x, T.xf x = true → X.fn x = true
  nm : ∀ x ∈ T.N, okN x = true
  gl : ∀ x e, T.gl.lookup x = some e → okN x = true ∧ GOk c X.prog X.w X.K X.mg X.base T.k x e
  me : ∀ q ∈ T.me, TabOk X.prog X.w X.K X.mg X.base c T.k q.1 q.2.1 q.2.2
structure CmOk (c : Cn) (flds : List Str) (r : Cm) : Prop where
  e : ∀ X T, Good c flds X T → ∀ e m, r.e T e = some m → PE X e (tE c m)
  t : ∀ X T, Good c flds X T → ∀ e m, r.t T e = some m → PT X e (tT c m)
  l : ∀ X T, Good c flds X T → ∀ e m, r.l T e = some m → PE X e (tLs c m)
  s : ∀ X T, Good c flds X T → PassesOwn (model X.prog X.w) X.A X.env X.xe → ∀ s m, r.s T s = some m → PS X s (tS c m)

theorem ixOf_ok : ∀ {N : List Str} {x : Str} {i j : Nat}, ixOf N x i = some j → ∃ k, j = i + k ∧ N[k]? = some x
  | [], _, _, _, h => by cases h
  | y :: ys, x, i, j, h => by
    unfold ixOf at h
    split at h
    · rename_i e
      cases h
      exact ⟨0, rfl, by rw [e]; rfl⟩
    · obtain ⟨k, h1, h2⟩ := ixOf_ok h
      exact ⟨k + 1, by omega, by simpa using h2⟩
theorem ix0 {N : List Str} {x : Str} {j : Nat} (h : ixOf N x 0 = some j) : N[j]? = some x := by
  obtain ⟨k, h1, h2⟩ := ixOf_ok h
  rw [h1, Nat.zero_add]; exact h2
theorem visB_ok {sc : Scope} {x : Str} (h : visB sc x = true) : Vis sc x := by
  unfold visB at h
  split at h
  · exact .inl (by assumption)
  · exact .inr (.inl (by assumption))
  · exact .inr (.inr (by assumption))
  · cases h
section
variable {c : Cn} {flds : List Str} {X : Cx} {T : Tb} {r : Cm}
theorem locB_ok (G : Good c flds X T) {x : Str} (h : locB T x = true) : Loc X.env.scope x ∧ (X.fn x = true ∨ X.env.scope.names.lookup x = some .local) := by
  rw [G.sc]
  unfold locB at h
  split at h
  · rename_i e
    exact ⟨.inl e, .inr e⟩
  · rename_i e
    exact ⟨.inr e, .inl (G.xf x h)⟩
  · cases h
theorem glob_ok (G : Good c flds X T) {x : Str} {e : GE} (h : glob T x = some e) : Gl X x ∧ okN x = true ∧ GOk c X.prog X.w X.K X.mg X.base T.k x e := by
  unfold glob at h
  split at h
  · rename_i hg
    refine ⟨?_, G.gl x e h⟩
    show X.env.scope.names.lookup x = some .globalImplicit
    rw [G.sc]
    unfold gloB at hg
    split at hg
    · assumption
    · cases hg
  · cases h
theorem Good.ix (G : Good c flds X T) {x : Str} {i : Nat} (h : ixOf T.N x 0 = some i) : X.N[i]? = some x ∧ okN x = true := by
  have := ix0 h
  exact ⟨by rw [G.N]; exact this, G.nm x (List.mem_of_getElem? this)⟩
theorem Good.vis (G : Good c flds X T) {x : Str} (h : visB T.sc x = true) : Vis X.env.scope x := by rw [G.sc]; exact visB_ok h
theorem Good.blk (G : Good c flds X T) {scope : Scope} (hk : scope.kind = .function) (s : Shared) (H : Hp) (C : Addr) (cl : List (Str × Addr)) (fp : List Addr) : Good c flds (X.blk s H scope (compEnvC scope cl C X.env) fp) (T.blk scope) where
  K := G.K
  xc := ⟨G.xc.K, G.xc.P, G.xc.w⟩
  ko := G.ko
  fl := G.fl
  N := G.N
  nd := G.nd
  sc := by show relS scope X.env.scope = relS scope T.sc; rw [G.sc]
  kind := hk
  calm := G.calm
  room := G.room
  xf := fun x h => h
  nm := G.nm
  gl := fun x e h => by
    obtain ⟨h1, h2⟩ := G.gl x e h
    refine ⟨h1, ?_⟩
    cases e with
    | fn n m dws => exact h2
    | cst w => exact h2
    | cls C mk => cases mk <;> exact h2
    | blt b => exact h2
  me := G.me

/-! ### small things -/
theorem ab_plain {o : Expr} {f : Str} {env : Env} {w : Sem Value} (h : plainO o = true) : attributeBase o f env w = w := by
  unfold plainO at h
  split at h
  · rfl
  · rfl
  · rfl
  · rfl
  · exact abase_call h
  · rfl
  · rfl
  · cases h
theorem plainIx {b : Expr} (h : notSlice b = true) : PlainIx b := fun o i => by
  cases b <;> first | rfl | cases h
theorem bim {b : Expr} {op : CmpOp} (h : notSet b = true) : behindInMarks op b = false := by cases b <;> first | rfl | cases h
theorem noSl {b : Expr} (h : notSlice b = true) : NoSl b := fun o i => by
  cases b <;> first | rfl | cases h
theorem m1_ok {o a : Expr} {m : Str} {p p3 : Pos} (hp : plainO o = true) (hl : (p.endLine == p3.line) = true) (hs : notStar a = true) : M1 X o m p a p3 where
  base := ab_plain hp
  few := by rw [star_ne (notStar_ne hs)]; rfl
  line := hl
  trees := by rw [star_ne (notStar_ne hs)]; rfl
theorem m2_ok {o a b : Expr} {m : Str} {p p3 : Pos} (hp : plainO o = true) (hl : (p.endLine == p3.line) = true) (hs : notStar a = true) (hb : notStar b = true) : M2 X o m p a b p3 where
  base := ab_plain hp
  few := by rw [star_ne (notStar_ne hs), star_ne (notStar_ne hb)]; rfl
  line := hl
  trees := by rw [star_ne (notStar_ne hs), star_ne (notStar_ne hb)]; rfl
theorem sw_none {e : Expr} {t : Option Expr} {l : Nat} {env : Env} (h : notComp e = true) : swapsWith e t l env = pure false := by
  cases e <;> first | rfl | cases h
theorem fsi {e : Expr} {env : Env} (h : notSet e = true) : ∀ x, foldedSetIterable e env x = pure x := fun x => by
  cases e <;> first | rfl | cases h
theorem is_val {e : Expr} {env : Env} (h : valT e = true) : ∀ whole, isTrue e env whole = (do let v ← whole; standAt e.pos; holding [v] (truthy v)) := fun w => by
  cases e <;> first | rfl | cases h
theorem args_ok {ce : Expr → Option E} (h : ∀ e m, ce e = some m → PE X e (tE c m)) : ∀ {es : List Expr} {as : As}, cArgs ce es = some as → PA X es (tA c as) ∧ AsN as es.length ∧ es.all notStar = true ∧ (es = [] → as = aNil)
  | [], as, e => by
    cases e
    exact ⟨a_nil, asN_nil, rfl, fun _ => rfl⟩
  | x :: xs, as, e => by
    unfold cArgs at e
    split at e
    · rename_i hs
      obtain ⟨m, e1, e⟩ := Option.bind_eq_some_iff.mp e
      obtain ⟨q, e2, e⟩ := Option.bind_eq_some_iff.mp e
      cases e
      obtain ⟨h1, h2, h3, _⟩ := args_ok h e2
      exact ⟨a_cons (h x m e1) h1 (star_ne (notStar_ne hs)), asN_cons h2, by rw [List.all_cons, hs, h3]; rfl, fun z => by cases z⟩
    · cases e
theorem and_ok {ce : Expr → Option E} (h : ∀ e m, ce e = some m → PE X e (tE c m)) {pos : Pos} : ∀ {es : List Expr} {m : E}, cAnd ce es = some m → PE X (.BoolOp .And es pos) (tE c m)
  | [], m, e => by cases e
  | [a], m, e => e_one (h a m e)
  | a :: b :: rest, m, e => by
    unfold cAnd at e
    obtain ⟨m1, e1, e⟩ := Option.bind_eq_some_iff.mp e
    obtain ⟨m2, e2, e⟩ := Option.bind_eq_some_iff.mp e
    cases e
    exact e_and (h a m1 e1) (and_ok h e2)
theorem or_ok {ce : Expr → Option E} (h : ∀ e m, ce e = some m → PE X e (tE c m)) {pos : Pos} : ∀ {es : List Expr} {m : E}, cOr ce es = some m → PE X (.BoolOp .Or es pos) (tE c m)
  | [], m, e => by cases e
  | [a], m, e => e_one (h a m e)
  | a :: b :: rest, m, e => by
    unfold cOr at e
    obtain ⟨m1, e1, e⟩ := Option.bind_eq_some_iff.mp e
    obtain ⟨m2, e2, e⟩ := Option.bind_eq_some_iff.mp e
    cases e
    exact e_or (h a m1 e1) (or_ok h e2)
theorem andT_ok {ce : Expr → Option SB.T} (h : ∀ e m, ce e = some m → PT X e (tT c m)) {pos : Pos} : ∀ {es : List Expr} {m : SB.T}, cAndT ce es = some m → PW X (.BoolOp .And es pos) (tT c m)
  | [], m, e => by cases e
  | [a], m, e => w_and1 (h a m e)
  | a :: b :: rest, m, e => by
    unfold cAndT at e
    obtain ⟨m1, e1, e⟩ := Option.bind_eq_some_iff.mp e
    obtain ⟨m2, e2, e⟩ := Option.bind_eq_some_iff.mp e
    cases e
    exact w_and (h a m1 e1) (andT_ok h e2)
theorem orT_ok {ce : Expr → Option SB.T} (h : ∀ e m, ce e = some m → PT X e (tT c m)) {pos : Pos} : ∀ {es : List Expr} {m : SB.T}, cOrT ce es = some m → PW X (.BoolOp .Or es pos) (tT c m)
  | [], m, e => by cases e
  | [a], m, e => w_or1 (h a m e)
  | a :: b :: rest, m, e => by
    unfold cOrT at e
    obtain ⟨m1, e1, e⟩ := Option.bind_eq_some_iff.mp e
    obtain ⟨m2, e2, e⟩ := Option.bind_eq_some_iff.mp e
    cases e
    exact w_or (h a m1 e1) (orT_ok h e2)
theorem op_ok (hK : X.K = c.K) {op : Operator} {f : W → W → Hm → SB.R W} (h : opF op = some f) : ∃ r, OpR X (binaryOp op) r ∧ OpS c f r := by
  cases op <;> cases h
  · exact ⟨_, hK ▸ op_addS, s_add⟩
  · exact ⟨_, op_sub, s_sub⟩
  · exact ⟨_, op_mulX, s_mul⟩
  · exact ⟨_, op_modN, s_mod⟩
  · exact ⟨_, op_pow, s_pow⟩
  · exact ⟨_, op_shl, s_shl⟩
  · exact ⟨_, op_shr, s_shr⟩
  · exact ⟨_, op_and, s_and⟩
  · exact ⟨_, op_fdivS, s_fdiv⟩
theorem cmp_ok (hK : X.K = c.K) {k : Nat} (hr : Room k X.A) {op : CmpOp} {f : W → W → Hm → SB.R W} (h : cmpF op = some f) : (∃ r, OpR X (compareOp op) r ∧ OpS c f r) ∧ ∀ b, notSet b = true → behindInMarks op b = false := by
  have hu := hr.units
  have hu5 : X.A.units + 65 < cLine := by have := hr.un; omega
  have nb : ∀ b, notSet b = true → behindInMarks op b = false := fun b hb => by cases b <;> first | rfl | cases hb
  refine ⟨?_, nb⟩
  cases op <;> cases h
  · exact ⟨_, hK ▸ op_eqS hu, s_eq⟩
  · exact ⟨_, hK ▸ op_neS hu, s_ne⟩
  · exact ⟨_, hK ▸ op_ltS hr.units0, s_ltT⟩
  · exact ⟨_, op_le, s_le⟩
  · exact ⟨_, op_gt, s_gt⟩
  · exact ⟨_, op_ge, s_ge⟩
  · exact ⟨_, op_isN, s_isN⟩
  · exact ⟨_, op_notN, s_notN⟩
  · exact ⟨_, hK ▸ op_in2 hu5, s_in⟩
  · exact ⟨_, hK ▸ op_notIn2 hu5, s_notIn⟩
theorem name_ok (G : Good c flds X T) {x : Str} {pos : Pos} {m : E} (h : cName T x = some m) : PE X (.Name x pos) (tE c m) := by
  unfold cName at h
  split at h
  · rename_i i hi
    split at h
    · rename_i hv
      cases h
      obtain ⟨h1, h2⟩ := G.ix hi
      exact e_var h1 (G.vis hv) (okN_d h2) (okN_c h2)
    · cases h
  · split at h
    · rename_i w hw
      cases h
      obtain ⟨h1, h2, u, v, h3, h4, h5⟩ := glob_ok G hw
      exact e_glob h1 h3 h4 h5 (okN_d h2)
    · cases h

/-! ### calls -/
theorem blt_ty {b : Blt} {n : String} (h : b.ty = some n) : bootBuiltins b.nm = some (.type n) ∧ n ∈ bTypes := by
  cases b <;> cases h
  · exact ⟨PyProof.Rows.boot_int, by decide⟩
  · exact ⟨PyProof.Rows.boot_tuple, by decide⟩
  · exact ⟨PyProof.Rows.boot_list, by decide⟩
  · exact ⟨PyProof.Rows.boot_bool, by decide⟩
  · exact ⟨PyProof.Rows.boot_str, by decide⟩
  · exact ⟨PyProof.Rows.boot_bytes, by decide⟩
  · exact ⟨PyProof.Rows.boot_dict, by decide⟩
theorem tyName_ok (G : Good c flds X T) {e : Expr} {t : Ty} (h : tyName T e = some t) : ∃ v u, PE X e (tC v) ∧ TyName c t v u ∧ notStar e = true := by
  unfold tyName at h
  split at h
  · rename_i x pos
    split at h
    · rename_i b hb
      obtain ⟨n, h1, h2⟩ := Option.map_eq_some_iff.mp h
      subst h2
      obtain ⟨hg, ho, hm, hx⟩ := glob_ok G hb
      obtain ⟨h3, h4⟩ := blt_ty h1
      exact ⟨.ty n, .type n, pe_bltn hg hm (by rw [hx]; exact h3) rfl (okN_n ho) (okN_d ho), .inl ⟨n, rfl, h4, rfl, rfl⟩, rfl⟩
    · rename_i C mk hb
      cases h
      obtain ⟨hg, ho, cA, hc, hm, _⟩ := glob_ok G hb
      exact ⟨.ref cA, .ref cA, pe_glob hg hm rfl (okN_d ho), .inr ⟨C, cA, rfl, hc, rfl, rfl⟩, rfl⟩
    · cases h
  · cases h
theorem blt_call (G : Good c flds X T) {b : Blt} {x : Str} {f : Fn} (hb : glob T x = some (.blt b)) (h : b.fn = some f) {e : Expr} {es : List Expr} {as : As} {p pos : Pos} (ha : PA X (e :: es) (tA c as)) (hs : (e :: es).all notStar = true) :
    PE X (.Call (.Name x p) (e :: es) [] pos) (tE c (eCall f as)) := by
  obtain ⟨hg, ho, hm, hx⟩ := glob_ok G hb
  rw [List.all_cons, Bool.and_eq_true] at hs
  have h1 := notStar_ne hs.1
  have h2 : (backTo pos (starEach es X.env)).any (·.1) = false := star_plain hs.2
  have hn := okN_n ho
  have hd := okN_d ho
  have hK := G.K
  subst hx
  cases b <;> cases h
  · exact e_bltF call_len (hK ▸ ca_len) boot_len hg hm ha hn hd h1 h2
  · exact e_bltF call_abs ca_abs (by decide +kernel) hg hm ha hn hd h1 h2
  · exact e_bltT call_int1 ca_int PyProof.Rows.boot_int hg hm ha hn hd h1 h2
  · exact e_bltF (cr_all G.calm) (hK ▸ ca_all) PyProof.Rows.boot_all hg hm ha hn hd h1 h2
  · exact e_bltF (cr_any G.calm) (hK ▸ ca_any) PyProof.Rows.boot_any hg hm ha hn hd h1 h2
  · exact e_bltF (cr_sum G.calm) (hK ▸ ca_sum) PyProof.Rows.boot_sum hg hm ha hn hd h1 h2
  · exact e_bltF (call_max2 G.calm) ca_max2 PyProof.Rows.boot_max hg hm ha hn hd h1 h2
  · exact e_bltF (call_min2 G.calm) ca_min2 PyProof.Rows.boot_min hg hm ha hn hd h1 h2
  · exact e_bltT call_tuple_of (hK ▸ ca_tuple) PyProof.Rows.boot_tuple hg hm ha hn hd h1 h2
theorem call_ok (R : CmOk c flds r) (G : Good c flds X T) {x : Str} {es : List Expr} {p pos : Pos} {m : E} (h : cCall r T x es = some m) : PE X (.Call (.Name x p) es [] pos) (tE c m) := by
  have he := R.e X T G
  unfold cCall at h
  split at h
  · rename_i n m' dws hx
    split at h
    · rename_i hn
      obtain ⟨as, ha, h⟩ := Option.bind_eq_some_iff.mp h
      cases h
      obtain ⟨hg, ho, f, hm, F⟩ := glob_ok G hx
      obtain ⟨h1, h2, h3, h4⟩ := args_ok he ha
      cases es with
      | nil =>
        rw [h4 rfl]
        exact e_call0 (F _) G.room hg hm (by simpa using hn) (okN_d ho)
      | cons e es =>
        rw [List.all_cons, Bool.and_eq_true] at h3
        exact e_call (F _) G.room hg hm h2 hn h1 (okN_d ho) (star_ne (notStar_ne h3.1)) (star_plain h3.2)
    · cases h
  · rename_i C n f dws hx
    split at h
    · rename_i hn
      obtain ⟨as, ha, h⟩ := Option.bind_eq_some_iff.mp h
      cases h
      obtain ⟨hg, ho, cA, hc, hm, fA, fd, ps, kk, M, F, hk, hbs⟩ := glob_ok G hx
      obtain ⟨ds, dvs, hb, hv, hd⟩ := hbs (es.length + 1 + dws.length - n)
      obtain ⟨h1, h2, h3, h4⟩ := args_ok he ha
      have hr := G.room.mono hk
      cases es with
      | nil =>
        have e0 := h4 rfl
        subst e0
        refine PEimp (pe_make0 M F hr hg hm hb hv pass0 (okN_d ho)) fun σ H Q h => ?_
        have h5 := mk_read hc hd h2 hn h
        obtain ⟨g0, S0, sm, g, S, eH, rl, ws, S2, ea, qq⟩ := h5
        cases ea
        intro y dx ny ndy hne
        subst eH
        exact qq g [] rl.h (Ext.refl g S) .nil y dx ny ndy hne
      | cons e es =>
        rw [List.all_cons, Bool.and_eq_true] at h3
        exact PEimp (pe_make M F hr hg hm hb hv pass0 h1 (okN_d ho) (star_ne (notStar_ne h3.1)) (star_plain h3.2)) fun σ H Q h => mk_read hc hd h2 hn h
    · cases h
  · rename_i C n f dws hx
    split at h
    · rename_i hn
      obtain ⟨as, ha, h⟩ := Option.bind_eq_some_iff.mp h
      cases h
      obtain ⟨hg, ho, cA, hc, hm, fA, fd, ps, kk, M, F, hk, hbs⟩ := glob_ok G hx
      obtain ⟨ds, dvs, hb, hv, hd⟩ := hbs (es.length + 1 + dws.length - n)
      obtain ⟨h1, h2, h3, h4⟩ := args_ok he ha
      have hr := G.room.mono hk
      cases es with
      | nil =>
        have e0 := h4 rfl
        subst e0
        refine PEimp (pe_make0 M F hr hg hm hb hv pass0 (okN_d ho)) fun σ H Q h => ?_
        have h5 := mkZ_read hc hd h2 hn h
        obtain ⟨g0, S0, sm, g, S, eH, rl, ws, S2, ea, qq⟩ := h5
        cases ea
        intro y dx ny ndy hne
        subst eH
        exact qq g [] rl.h (Ext.refl g S) .nil y dx ny ndy hne
      | cons e es =>
        rw [List.all_cons, Bool.and_eq_true] at h3
        exact PEimp (pe_make M F hr hg hm hb hv pass0 h1 (okN_d ho) (star_ne (notStar_ne h3.1)) (star_plain h3.2)) fun σ H Q h => mkZ_read hc hd h2 hn h
    · cases h
  · rename_i C n f dws hx
    split at h
    · rename_i hn
      obtain ⟨as, ha, h⟩ := Option.bind_eq_some_iff.mp h
      cases h
      obtain ⟨hg, ho, cA, hc, hm, fA, fd, ps, kk, M, F, hk, hbs⟩ := glob_ok G hx
      obtain ⟨ds, dvs, hb, hv, hd⟩ := hbs (es.length + 1 + dws.length - n)
      obtain ⟨h1, h2, h3, h4⟩ := args_ok he ha
      have hr := G.room.mono hk
      cases es with
      | nil =>
        have e0 := h4 rfl
        subst e0
        refine PEimp (pe_make0 M F hr hg hm hb hv pass0 (okN_d ho)) fun σ H Q h => ?_
        have h5 := mkH_read hc hd h2 hn h
        obtain ⟨g0, S0, sm, g, S, eH, rl, ws, S2, ea, qq⟩ := h5
        cases ea
        intro y dx ny ndy hne
        subst eH
        exact qq g [] rl.h (Ext.refl g S) .nil y dx ny ndy hne
      | cons e es =>
        rw [List.all_cons, Bool.and_eq_true] at h3
        exact PEimp (pe_make M F hr hg hm hb hv pass0 h1 (okN_d ho) (star_ne (notStar_ne h3.1)) (star_plain h3.2)) fun σ H Q h => mkH_read hc hd h2 hn h
    · cases h
  · rename_i C hx
    split at h
    · cases h
      obtain ⟨hg, ho, cA, hc, hm, M⟩ := glob_ok G hx
      exact e_new hc M hg hm (okN_d ho)
    · cases h
  · rename_i hx
    split at h
    · rename_i a b
      split at h
      · rename_i hs
        obtain ⟨t, ht, h⟩ := Option.bind_eq_some_iff.mp h
        obtain ⟨ma, ha, h⟩ := Option.bind_eq_some_iff.mp h
        cases h
        obtain ⟨v, u, h1, h2, h3⟩ := tyName_ok G ht
        obtain ⟨hg, ho, hm, hx2⟩ := glob_ok G hx
        exact e_isi hx2 G.ko G.K hg hm (he a ma ha) h1 h2 (notStar_ne hs) (notStar_ne h3)
      · cases h
    · cases h
  · rename_i b _ hx
    split at h
    · cases h
    · rename_i e es
      obtain ⟨f, hf, h⟩ := Option.bind_eq_some_iff.mp h
      obtain ⟨as, ha, h⟩ := Option.bind_eq_some_iff.mp h
      cases h
      obtain ⟨h1, h2, h3, h4⟩ := args_ok he ha
      exact blt_call G hx hf h1 h3
  · cases h
theorem meth_ok (R : CmOk c flds r) (G : Good c flds X T) {o : Expr} {x : Str} {es : List Expr} {p2 pos : Pos} {m : E} (hp : plainO o = true) (hl : (p2.endLine == pos.line) = true) (hs : es.all notStar = true) (h : cMeth r T o x es = some m) : PE X (.Call (.Attribute o x p2) es [] pos) (tE c m) := by
  have he := R.e X T G
  unfold cMeth at h
  split at h
  · rename_i hx
    split at h
    · rename_i a
      split at h
      · rename_i h0
        obtain ⟨mo, ho, h⟩ := Option.bind_eq_some_iff.mp h
        obtain ⟨ma, ha, h⟩ := Option.bind_eq_some_iff.mp h
        cases h
        exact e_happ hx (he _ _ ho) (he _ _ ha) (notStar_ne h0) G.K (ab_plain hp) hl
      · cases h
    · cases h
  split at h
  · rename_i hx
    split at h
    · rename_i a
      split at h
      · rename_i h0
        obtain ⟨mo, ho, h⟩ := Option.bind_eq_some_iff.mp h
        obtain ⟨ma, ha, h⟩ := Option.bind_eq_some_iff.mp h
        cases h
        exact e_hext hx (he _ _ ho) (he _ _ ha) (notStar_ne h0) G.K (ab_plain hp) hl
      · cases h
    · cases h
  · split at h
    · rename_i hx
      split at h
      · rename_i a
        split at h
        · rename_i h0
          obtain ⟨mo, ho, h⟩ := Option.bind_eq_some_iff.mp h
          obtain ⟨ma, ha, h⟩ := Option.bind_eq_some_iff.mp h
          cases h
          exact e_hpop hx (he _ _ ho) (he _ _ ha) (notStar_ne h0) G.K (ab_plain hp) hl
        · cases h
      · cases h
    · split at h
      · rename_i hx
        split at h
        · rename_i a
          split at h
          · rename_i h0
            split at h
            · rename_i ws hc
              obtain ⟨ma, ha, h⟩ := Option.bind_eq_some_iff.mp h
              cases h
              unfold cstOf at hc
              split at hc
              · split at hc
                · cases hc
                · split at hc
                  · rename_i hgl
                    cases hc
                    obtain ⟨hg, hok, u, v, hm, hr, hv⟩ := glob_ok G hgl
                    exact e_cidx hx hg hm hr hv G.K (okN_d hok) (he _ _ ha) (notStar_ne h0) hl
                  · cases hc
              · cases hc
            · obtain ⟨mo, ho, h⟩ := Option.bind_eq_some_iff.mp h
              obtain ⟨ma, ha, h⟩ := Option.bind_eq_some_iff.mp h
              cases h
              exact e_hindexY hx (by have := G.room.un; have := G.room.units; omega) (he _ _ ho) (he _ _ ha) (notStar_ne h0) G.K (ab_plain hp) hl
          · cases h
        · cases h
      split at h
      · rename_i q hq
        split at h
        · rename_i hlen
          obtain ⟨mo, ho, h⟩ := Option.bind_eq_some_iff.mp h
          obtain ⟨as, ha, h⟩ := Option.bind_eq_some_iff.mp h
          cases h
          have h1 := List.find?_some hq
          have h2 := List.mem_of_find?_eq_some hq
          have h3 := of_decide_eq_true h1
          obtain ⟨a1, a2, a3, a4⟩ := args_ok he ha
          have tb := G.me q h2
          rw [h3.1, h3.2] at tb
          rw [h3.1]
          exact e_meth G.K (fun C a z => G.ko.cl C a z) G.room tb a2 (he _ _ ho) a1 a3 (ab_plain hp) hl (decide_eq_true hlen) a4
        · cases h
      · cases h

/-! ### targets -/
theorem asg_map {env : Env} : ∀ {es : List Expr}, es.all notStar = true → assignEach es env = es.map fun e => (false, assign e env)
  | [], _ => rfl
  | e :: es, h => by
    rw [List.all_cons, Bool.and_eq_true] at h
    have : assignEach (e :: es) env = (false, assign e env) :: assignEach es env := by
      cases e <;> first | rfl | (have := h.1; cases this)
    rw [this, asg_map h.2]
    rfl
theorem gs_ok {cg : Expr → Option (List Nat × Tg)} (h : ∀ e p, cg e = some p → PG X e (tG c p.1 p.2)) : ∀ {es : List Expr} {p : List Nat × List Tg}, cGs cg es = some p → PGs X es (tGs c p.1 p.2) ∧ es.all notStar = true ∧ es.length = p.2.length
  | [], p, e => by
    cases e
    exact ⟨g_nil, rfl, rfl⟩
  | x :: xs, p, e => by
    unfold cGs at e
    split at e
    · rename_i hs
      obtain ⟨m, e1, e⟩ := Option.bind_eq_some_iff.mp e
      obtain ⟨q, e2, e⟩ := Option.bind_eq_some_iff.mp e
      cases e
      obtain ⟨h1, h2, h3⟩ := gs_ok h e2
      have h4 : (x :: xs).all notStar = true := by rw [List.all_cons, hs, h2]; rfl
      refine ⟨g_cons (h x m e1) h1 ?_, h4, by rw [List.length_cons, h3]; rfl⟩
      rw [asg_map h4, asg_map h2]
      rfl
    · cases e
theorem g_ok (G : Good c flds X T) : ∀ {n : Nat} {e : Expr} {p : List Nat × Tg}, cG T n e = some p → PG X e (tG c p.1 p.2)
  | 0, e, p, h => by cases h
  | n + 1, e, p, h => by
    unfold cG at h
    split at h
    · obtain ⟨i, hi, h⟩ := Option.bind_eq_some_iff.mp h
      split at h
      · rename_i hx
        cases h
        obtain ⟨h1, h2⟩ := locB_ok G hx
        exact g_name G.nd (G.ix hi).1 h1 h2
      · cases h
    · obtain ⟨q, hq, h⟩ := Option.bind_eq_some_iff.mp h
      cases h
      obtain ⟨h1, h2, h3⟩ := gs_ok (fun e p h => g_ok G h) hq
      refine g_tup G.K G.calm h1 (by rw [asg_map h2, List.length_map]; exact h3) ?_
      rw [asg_map h2]
      rw [List.findIdx?_eq_none_iff]
      intro z hz
      obtain ⟨y, _, rfl⟩ := List.mem_map.mp hz
      rfl
    · cases h

/-! ### what is walked -/
theorem i0_ok (R : CmOk c flds r) (G : Good c flds X T) {tg e : Expr} {m : I} (h : cI0 r T e = some m) : PI X tg e (tI c m) := by
  unfold cI0 at h
  split at h
  · obtain ⟨ma, ha, h⟩ := Option.bind_eq_some_iff.mp h
    cases h
    exact i_val G.K (R.e X T G _ _ ha)
  · cases h
theorem isTup_ok {tg : Expr} (h : isTup tg = true) : ∃ es k p, tg = .Tuple es k p := by
  cases tg <;> first | exact ⟨_, _, _, rfl⟩ | cases h
theorem i_ok (R : CmOk c flds r) (G : Good c flds X T) {tg e : Expr} {m : I} (h : cI r T tg e = some m) : PI X tg e (tI c m) := by
  have he := R.e X T G
  unfold cI at h
  split at h
  · split at h
    · rename_i hx
      split at h
      · rename_i hs
        obtain ⟨ma, ha, h⟩ := Option.bind_eq_some_iff.mp h
        cases h
        obtain ⟨hg, ho, hm, hx2⟩ := glob_ok G hx
        subst hx2
        exact i_range1 hg hm (he _ _ ha) (notStar_ne hs)
      · cases h
    · rename_i hx
      split at h
      · rename_i hs
        rw [Bool.and_eq_true] at hs
        obtain ⟨ma, ha, h⟩ := Option.bind_eq_some_iff.mp h
        cases h
        obtain ⟨hg, ho, hm, hx2⟩ := glob_ok G hx
        subst hx2
        obtain ⟨es, k, p, rfl⟩ := isTup_ok hs.2
        exact i_enum G.K hg hm (he _ _ ha) (notStar_ne hs.1)
      · cases h
    · exact i0_ok R G h
  · split at h
    · rename_i hx
      split at h
      · rename_i hs
        rw [Bool.and_eq_true] at hs
        obtain ⟨ma, ha, h⟩ := Option.bind_eq_some_iff.mp h
        obtain ⟨mb, hb, h⟩ := Option.bind_eq_some_iff.mp h
        cases h
        obtain ⟨hg, ho, hm, hx2⟩ := glob_ok G hx
        subst hx2
        exact i_range2 hg hm (he _ _ ha) (he _ _ hb) (notStar_ne hs.1) (notStar_ne hs.2)
      · cases h
    · rename_i hx
      split at h
      · rename_i hs
        rw [Bool.and_eq_true, Bool.and_eq_true] at hs
        obtain ⟨ma, ha, h⟩ := Option.bind_eq_some_iff.mp h
        obtain ⟨mb, hb, h⟩ := Option.bind_eq_some_iff.mp h
        cases h
        obtain ⟨hg, ho, hm, hx2⟩ := glob_ok G hx
        subst hx2
        obtain ⟨es, k, p, rfl⟩ := isTup_ok hs.2
        exact i_zip G.K hg hm (he _ _ ha) (he _ _ hb) (notStar_ne hs.1.1) (notStar_ne hs.1.2)
      · cases h
    · exact i0_ok R G h
  · exact i0_ok R G h
theorem i_set (G : Good c flds X T) {tg e : Expr} {m : I} (h : cI r T tg e = some m) : notSet e = true := by
  unfold cI at h
  split at h
  · rfl
  · rfl
  · unfold cI0 at h
    split at h
    · assumption
    · cases h
theorem ifs_ok (R : CmOk c flds r) (G : Good c flds X T) {es : List Expr} {m : SB.T} (h : cIfs r T es = some m) : PTs X es (tT c m) := by
  unfold cIfs at h
  split at h
  · cases h
    exact ts_nil
  · exact ts_one (R.t X T G _ _ h)
  · cases h

/-! ### comprehensions -/
theorem lcParts (R : CmOk c flds r) (G : Good c flds X T) {elt tg iter : Expr} {ifs : List Expr} {scope : Scope} {m : L} (h : cLc r T elt tg iter ifs scope = some m) :
    ∃ (ix : List Nat) (t : Tg) (mi : I) (cd : SB.T) (el : E), m = lComp ((cOwn T scope).map (·.2)) t mi cd el ∧ (∀ i ∈ ix, i ∈ (cOwn T scope).map (·.2)) ∧ PI X tg iter (tI c mi) ∧ BlkOk X.N X.env.scope scope (cOwn T scope) ∧
    (∀ (s : Shared) (H : Hp) (C : Addr) (cl : List (Str × Addr)) (fp : List Addr), PG (X.blk s H scope (compEnvC scope cl C X.env) fp) tg (tG c ix t)) ∧ (∀ (s : Shared) (H : Hp) (C : Addr) (cl : List (Str × Addr)) (fp : List Addr), PTs (X.blk s H scope (compEnvC scope cl C X.env) fp) ifs (tT c cd)) ∧
    (∀ (s : Shared) (H : Hp) (C : Addr) (cl : List (Str × Addr)) (fp : List Addr), PE (X.blk s H scope (compEnvC scope cl C X.env) fp) elt (tE c el)) ∧ ∀ x, foldedSetIterable iter X.env x = pure x := by
  unfold cLc at h
  split at h
  · rename_i hb
    obtain ⟨mi, hi, h⟩ := Option.bind_eq_some_iff.mp h
    obtain ⟨g, hg, h⟩ := Option.bind_eq_some_iff.mp h
    split at h
    · rename_i hx
      obtain ⟨cd, hc, h⟩ := Option.bind_eq_some_iff.mp h
      obtain ⟨el, he, h⟩ := Option.bind_eq_some_iff.mp h
      cases h
      have ok := blkOk_by hb
      refine ⟨g.1, g.2, mi, cd, el, rfl, fun i z => ?_, i_ok R G hi, by rw [G.N, G.sc]; exact ok, fun s H C cl fp => g_ok (G.blk ok.kind s H C cl fp) hg, fun s H C cl fp => ifs_ok R (G.blk ok.kind s H C cl fp) hc, fun s H C cl fp => R.e _ _ (G.blk ok.kind s H C cl fp) _ _ he, fsi (i_set G hi)⟩
      have := List.all_eq_true.mp hx i z
      exact List.contains_iff_mem.mp this
    · cases h
  · cases h
theorem lc_ok (R : CmOk c flds r) (G : Good c flds X T) {elt tg iter : Expr} {ifs : List Expr} {scope : Scope} {m : L} {pos : Pos} (h : cLc r T elt tg iter ifs scope = some m) : PE X (.ListComp elt [⟨tg, iter, ifs, 0⟩] scope pos) (tLs c m) := by
  obtain ⟨ix, t, mi, cd, el, rfl, hix, hi, ok, hg, ht, he, hs⟩ := lcParts R G h
  exact PEimp (pe_lc G.calm G.nd hi ok hg ht he hs) fun σ H Q h => lc_read hix h
theorem setLc_ok (R : CmOk c flds r) (G : Good c flds X T) {elt tg iter : Expr} {ifs : List Expr} {scope : Scope} {m : L} {pos py spos : Pos} {y : Str} {i : Nat} (hy : ixOf T.N y 0 = some i) (hl : T.sc.names.lookup y = some .local) (hline : (py.line == pos.line) = true)
    (ha : (scope.names.any fun (n, k) => n == y && (k == .local || k == .cell)) = false) (h : cLc r T elt tg iter ifs scope = some m) :
    ∃ t, PS X (.Assign [.Name y py] (.ListComp elt [⟨tg, iter, ifs, 0⟩] scope pos) spos) (tAsg t (gName i)) ∧ ∀ σ H Q, tLs c m σ H Q → t σ H Q := by
  obtain ⟨ix, t, mi, cd, el, rfl, hix, hi, ok, hg, ht, he, hs⟩ := lcParts R G h
  have hl' : X.env.scope.names.lookup y = some .local := by rw [G.sc]; exact hl
  exact ⟨_, ps_setLc G.calm G.nd (G.ix hy).1 hl' (sw_true (by rw [G.sc]; exact G.kind) hl' hline ha) hi ok hg ht he hs, fun σ H Q h => lc_read hix h⟩
theorem p_ok (R : CmOk c flds r) (G : Good c flds X T) {e : Option Expr} {m : P'} (h : cP r T e = some m) : PO X e (tP c m) := by
  cases e with
  | none => cases h; exact p_none
  | some e =>
    obtain ⟨ma, ha, h⟩ := Option.bind_eq_some_iff.mp h
    cases h
    exact p_some (R.e X T G _ _ ha)
theorem l_ok (R : CmOk c flds r) (G : Good c flds X T) {e : Expr} {m : L} (h : cL r T e = some m) : PE X e (tLs c m) := by
  have he := R.e X T G
  unfold cL at h
  split at h
  · obtain ⟨as, ha, h⟩ := Option.bind_eq_some_iff.mp h
    cases h
    exact e_disp (args_ok he ha).1
  · exact lc_ok R G h
  · obtain ⟨ma, ha, h⟩ := Option.bind_eq_some_iff.mp h
    obtain ⟨mb, hb, h⟩ := Option.bind_eq_some_iff.mp h
    cases h
    exact e_cat G.K (he _ _ ha) (he _ _ hb)
  · obtain ⟨ma, ha, h⟩ := Option.bind_eq_some_iff.mp h
    obtain ⟨ml, hl, h⟩ := Option.bind_eq_some_iff.mp h
    obtain ⟨mh, hh, h⟩ := Option.bind_eq_some_iff.mp h
    cases h
    exact e_slice G.K (he _ _ ha) (p_ok R G hl) (p_ok R G hh)
  · obtain ⟨ma, ha, h⟩ := Option.bind_eq_some_iff.mp h
    cases h
    exact e_rev G.K (he _ _ ha)
  · split at h
    · rename_i hx
      split at h
      · rename_i hs
        obtain ⟨ma, ha, h⟩ := Option.bind_eq_some_iff.mp h
        cases h
        obtain ⟨hg, ho, hm, hx2⟩ := glob_ok G hx
        exact e_list hx2 hg hm G.K (a_cons (he _ _ ha) a_nil (star_ne (notStar_ne hs))) (notStar_ne hs) rfl
      · cases h
    · rename_i hx
      split at h
      · rename_i hs
        obtain ⟨ma, ha, h⟩ := Option.bind_eq_some_iff.mp h
        cases h
        obtain ⟨hg, ho, hm, hx2⟩ := glob_ok G hx
        exact e_sortedY hx2 G.xc G.calm hg hm G.room.units (he _ _ ha) (notStar_ne hs)
      · cases h
    · cases h
  · cases h
theorem lE_ok (R : CmOk c flds r) (G : Good c flds X T) {e : Expr} {m : E} (h : cLE r T e = some m) : PE X e (tE c m) := by
  unfold cLE at h
  obtain ⟨ml, hl, h⟩ := Option.bind_eq_some_iff.mp h
  have := R.l X T G _ _ hl
  split at h
  · cases h; exact e_heap this
  · cases h; exact e_frz this

/-! ### dicts -/
theorem dc_ok (R : CmOk c flds r) (G : Good c flds X T) {n : Bool} {kx vx tg iter : Expr} {ifs : List Expr} {scope : Scope} {m : E} {pos : Pos} (h : cDc r T n kx vx tg iter ifs scope = some m) : PE X (.DictComp kx vx [⟨tg, iter, ifs, 0⟩] scope pos) (tE c m) := by
  unfold cDc at h
  split at h
  · rename_i hb
    obtain ⟨mi, hi, h⟩ := Option.bind_eq_some_iff.mp h
    obtain ⟨g, hg, h⟩ := Option.bind_eq_some_iff.mp h
    split at h
    · rename_i hx
      obtain ⟨cd, hc, h⟩ := Option.bind_eq_some_iff.mp h
      obtain ⟨mk, hk, h⟩ := Option.bind_eq_some_iff.mp h
      obtain ⟨mv, hv, h⟩ := Option.bind_eq_some_iff.mp h
      cases h
      have ok := blkOk_by hb
      have ok2 : BlkOk X.N X.env.scope scope (cOwn T scope) := by rw [G.N, G.sc]; exact ok
      have hix : ∀ i ∈ g.1, i ∈ (cOwn T scope).map (·.2) := fun i z => List.contains_iff_mem.mp (List.all_eq_true.mp hx i z)
      cases n with
      | false =>
        exact PEimp (pe_dcG (kindK X) G.calm G.nd (i_ok R G hi) ok2 (fun s H C cl fp => g_ok (G.blk ok.kind s H C cl fp) hg) (fun s H C cl fp => ifs_ok R (G.blk ok.kind s H C cl fp) hc) (fun s H C cl fp => R.e _ _ (G.blk ok.kind s H C cl fp) _ _ hk) (fun s H C cl fp => R.e _ _ (G.blk ok.kind s H C cl fp) _ _ hv) (fsi (i_set G hi)))
          fun σ H Q h => dc_read (drelK c X) hix h
      | true =>
        exact PEimp (pe_dcG (kindN X G.room.units) G.calm G.nd (i_ok R G hi) ok2 (fun s H C cl fp => g_ok (G.blk ok.kind s H C cl fp) hg) (fun s H C cl fp => ifs_ok R (G.blk ok.kind s H C cl fp) hc) (fun s H C cl fp => R.e _ _ (G.blk ok.kind s H C cl fp) _ _ hk) (fun s H C cl fp => R.e _ _ (G.blk ok.kind s H C cl fp) _ _ hv) (fsi (i_set G hi)))
          fun σ H Q h => dc_read (drelN G.xc G.room.units) hix h
    · cases h
  · cases h
theorem e2_ok (R : CmOk c flds r) (G : Good c flds X T) {e : Expr} {m : E} (h : cE2 r T e = some m) : PE X e (tE c m) := by
  have he := R.e X T G
  have hu : X.A.units + 1 < cLine := by have := G.room.units; omega
  unfold cE2 at h
  split at h
  · split at h
    · cases h; exact e_dictN G.xc
    · cases h; exact e_dict0
  · exact dc_ok R G h
  · split at h
    · rename_i hc
      rw [Bool.and_eq_true] at hc
      obtain ⟨ma, ha, h⟩ := Option.bind_eq_some_iff.mp h
      obtain ⟨mb, hb, h⟩ := Option.bind_eq_some_iff.mp h
      have hm := bim (op := .In) hc.2
      split at h
      · cases h
        exact e_nin G.xc G.room.units (he _ _ hb) (he _ _ ha) hm
      · cases h
        exact e_din hu (he _ _ hb) (he _ _ ha) hm
    · cases h
  · split at h
    · rename_i hc
      rw [Bool.and_eq_true] at hc
      obtain ⟨ma, ha, h⟩ := Option.bind_eq_some_iff.mp h
      obtain ⟨mb, hb, h⟩ := Option.bind_eq_some_iff.mp h
      have hm := bim (op := .NotIn) hc.2
      split at h
      · cases h
        exact e_nnotin G.xc G.room.units (he _ _ hb) (he _ _ ha) hm
      · cases h
        exact e_dnotin hu (he _ _ hb) (he _ _ ha) hm
    · cases h
  · split at h
    · rename_i hc
      rw [Bool.and_eq_true] at hc
      obtain ⟨ma, ha, h⟩ := Option.bind_eq_some_iff.mp h
      obtain ⟨mb, hb, h⟩ := Option.bind_eq_some_iff.mp h
      split at h
      · cases h
        exact e_nget G.xc G.room.units (he _ _ ha) (he _ _ hb) (noSl hc.2)
      · cases h
        exact e_dget hu (he _ _ ha) (he _ _ hb) (noSl hc.2)
    · cases h
  · split at h
    · rename_i hc
      simp only [Bool.and_eq_true, decide_eq_true_eq] at hc
      obtain ⟨⟨⟨⟨c1, c2⟩, c3⟩, c4⟩, c5⟩ := hc
      obtain ⟨ma, ha, h⟩ := Option.bind_eq_some_iff.mp h
      obtain ⟨mb, hb, h⟩ := Option.bind_eq_some_iff.mp h
      cases h
      subst c2
      exact e_dget1 hu (he _ _ ha) (he _ _ hb) (m1_ok c3 c4 c5)
    · cases h
  · split at h
    · rename_i hc
      simp only [Bool.and_eq_true, decide_eq_true_eq] at hc
      obtain ⟨⟨⟨⟨⟨c1, c2⟩, c3⟩, c4⟩, c5⟩, c6⟩ := hc
      obtain ⟨ma, ha, h⟩ := Option.bind_eq_some_iff.mp h
      obtain ⟨mb, hb, h⟩ := Option.bind_eq_some_iff.mp h
      obtain ⟨mk, hk, h⟩ := Option.bind_eq_some_iff.mp h
      subst c2
      split at h
      · cases h
        exact e_nget2 G.xc G.room.units (he _ _ ha) (he _ _ hb) (he _ _ hk) (m2_ok c3 c4 c5 c6)
      · cases h
        exact e_dget2 hu (he _ _ ha) (he _ _ hb) (he _ _ hk) (m2_ok c3 c4 c5 c6)
    · cases h
  · split at h
    · rename_i hx
      split at h
      · rename_i hs
        obtain ⟨t, ht, h⟩ := Option.bind_eq_some_iff.mp h
        obtain ⟨u, hu2, h⟩ := Option.bind_eq_some_iff.mp h
        obtain ⟨ma, ha, h⟩ := Option.bind_eq_some_iff.mp h
        cases h
        obtain ⟨v, u1, h1, h2, h3⟩ := tyName_ok G ht
        obtain ⟨v', u1', h1', h2', h3'⟩ := tyName_ok G hu2
        obtain ⟨hg, ho, hm, hx2⟩ := glob_ok G hx
        exact e_isi2 hx2 G.ko G.K hg hm (he _ _ ha) h1 h2 h1' h2' (notStar_ne hs) (notStar_ne h3) (notStar_ne h3')
      · cases h
    · cases h
  · cases h
theorem t2_ok (R : CmOk c flds r) (G : Good c flds X T) {e : Expr} {m : SB.T} (h : cT2 r T e = some m) : PT X e (tT c m) := by
  have he := R.e X T G
  have hu : X.A.units + 1 < cLine := by have := G.room.units; omega
  unfold cT2 at h
  split at h
  · split at h
    · rename_i hc
      rw [Bool.and_eq_true] at hc
      obtain ⟨ma, ha, h⟩ := Option.bind_eq_some_iff.mp h
      obtain ⟨mb, hb, h⟩ := Option.bind_eq_some_iff.mp h
      have hm := bim (op := .In) hc.2
      split at h
      · cases h
        exact PTimp (pt_cmp (pc_nin G.room.units (he _ _ ha) (he _ _ hb)) hm) fun σ H Q h => nin_read G.xc (tT_val h)
      · cases h
        refine PTimp (pt_cmp (pc_din hu (he _ _ ha) (he _ _ hb)) hm) fun σ H Q h => ?_
        have := din_read (tT_val h)
        simp only [Bool.false_xor] at this
        exact this
    · cases h
  · split at h
    · rename_i hc
      rw [Bool.and_eq_true] at hc
      obtain ⟨ma, ha, h⟩ := Option.bind_eq_some_iff.mp h
      obtain ⟨mb, hb, h⟩ := Option.bind_eq_some_iff.mp h
      have hm := bim (op := .NotIn) hc.2
      split at h
      · cases h
        exact PTimp (pt_cmp (pc_nnotin G.room.units (he _ _ ha) (he _ _ hb)) hm) fun σ H Q h => nin_read G.xc (tT_val h)
      · cases h
        refine PTimp (pt_cmp (pc_dnotin hu (he _ _ ha) (he _ _ hb)) hm) fun σ H Q h => ?_
        have := din_read (tT_val h)
        simp only [Bool.true_xor] at this
        exact this
    · cases h
  · cases h

/-! ### expressions, tests -/
theorem e_ok (R : CmOk c flds r) (G : Good c flds X T) {e : Expr} {m : E} (h : cE r T e = some m) : PE X e (tE c m) := by
  have he := R.e X T G
  unfold cE at h
  split at h
  · exact lE_ok R G h
  split at h
  · rename_i h2
    cases h
    exact e2_ok R G h2
  split at h
  · cases h; exact e_int
  · cases h; exact e_bl
  · cases h; exact e_non
  · cases h; exact e_str
  · cases h; exact e_byt
  · exact name_ok G h
  · obtain ⟨f, hf, h⟩ := Option.bind_eq_some_iff.mp h
    obtain ⟨ma, ha, h⟩ := Option.bind_eq_some_iff.mp h
    obtain ⟨mb, hb, h⟩ := Option.bind_eq_some_iff.mp h
    cases h
    obtain ⟨r, h1, h2⟩ := op_ok G.K hf
    exact e_bin h1 h2 (he _ _ ha) (he _ _ hb)
  · obtain ⟨ma, ha, h⟩ := Option.bind_eq_some_iff.mp h
    cases h
    exact e_neg (he _ _ ha)
  · obtain ⟨ma, ha, h⟩ := Option.bind_eq_some_iff.mp h
    cases h
    exact e_not (he _ _ ha)
  · split at h
    · rename_i hns
      obtain ⟨f, hf, h⟩ := Option.bind_eq_some_iff.mp h
      obtain ⟨ma, ha, h⟩ := Option.bind_eq_some_iff.mp h
      obtain ⟨mb, hb, h⟩ := Option.bind_eq_some_iff.mp h
      cases h
      obtain ⟨⟨r, h1, h2⟩, h3⟩ := cmp_ok G.K G.room hf
      exact e_cmp h1 h2 (he _ _ ha) (he _ _ hb) (h3 _ hns)
    · cases h
  · split at h
    · rename_i hns
      obtain ⟨f, hf, h⟩ := Option.bind_eq_some_iff.mp h
      obtain ⟨f', hf', h⟩ := Option.bind_eq_some_iff.mp h
      obtain ⟨ma, ha, h⟩ := Option.bind_eq_some_iff.mp h
      obtain ⟨mb, hb, h⟩ := Option.bind_eq_some_iff.mp h
      obtain ⟨md, hd, h⟩ := Option.bind_eq_some_iff.mp h
      cases h
      obtain ⟨⟨r, h1, h2⟩, h3⟩ := cmp_ok G.K G.room hf
      obtain ⟨⟨r', h1', h2'⟩, h3'⟩ := cmp_ok G.K G.room hf'
      exact e_chain h1 h1' h2 h2' (he _ _ ha) (he _ _ hb) (he _ _ hd) (h3' _ hns)
    · cases h
  · exact and_ok he h
  · exact or_ok he h
  · obtain ⟨ct, hc, h⟩ := Option.bind_eq_some_iff.mp h
    obtain ⟨ma, ha, h⟩ := Option.bind_eq_some_iff.mp h
    obtain ⟨mb, hb, h⟩ := Option.bind_eq_some_iff.mp h
    cases h
    exact e_if (R.t X T G _ _ hc) (he _ _ ha) (he _ _ hb)
  · obtain ⟨as, ha, h⟩ := Option.bind_eq_some_iff.mp h
    cases h
    exact e_tup (args_ok he ha).1
  · split at h
    · rename_i hs
      rw [Bool.and_eq_true] at hs
      obtain ⟨ma, ha, h⟩ := Option.bind_eq_some_iff.mp h
      cases h
      exact e_fld G.K G.ko (G.fl _ (List.contains_iff_mem.mp hs.2)) (he _ _ ha) (ab_plain hs.1)
    · cases h
  · obtain ⟨ma, ha, h⟩ := Option.bind_eq_some_iff.mp h
    obtain ⟨ml, hl, h⟩ := Option.bind_eq_some_iff.mp h
    obtain ⟨mh, hh, h⟩ := Option.bind_eq_some_iff.mp h
    cases h
    exact e_sliceX G.K (he _ _ ha) (p_ok R G hl) (p_ok R G hh)
  · split at h
    · rename_i hs
      obtain ⟨ma, ha, h⟩ := Option.bind_eq_some_iff.mp h
      obtain ⟨mb, hb, h⟩ := Option.bind_eq_some_iff.mp h
      cases h
      exact e_idx G.K (he _ _ ha) (he _ _ hb) (plainIx hs)
    · cases h
  · exact call_ok R G h
  · split at h
    · rename_i hs
      rw [Bool.and_eq_true, Bool.and_eq_true] at hs
      exact meth_ok R G hs.1.1 hs.1.2 hs.2 h
    · cases h
  · cases h
theorem t_ok (R : CmOk c flds r) (G : Good c flds X T) {e : Expr} {m : SB.T} (h : cT r T e = some m) : PT X e (tT c m) := by
  have he := R.e X T G
  have ht := R.t X T G
  unfold cT at h
  split at h
  · rename_i h2
    cases h
    exact t2_ok R G h2
  split at h
  · split at h
    · rename_i hns
      obtain ⟨f, hf, h⟩ := Option.bind_eq_some_iff.mp h
      obtain ⟨ma, ha, h⟩ := Option.bind_eq_some_iff.mp h
      obtain ⟨mb, hb, h⟩ := Option.bind_eq_some_iff.mp h
      cases h
      obtain ⟨⟨r, h1, h2⟩, h3⟩ := cmp_ok G.K G.room hf
      exact t_cmp h1 h2 (he _ _ ha) (he _ _ hb) (h3 _ hns)
    · cases h
  · split at h
    · rename_i hns
      obtain ⟨f, hf, h⟩ := Option.bind_eq_some_iff.mp h
      obtain ⟨f', hf', h⟩ := Option.bind_eq_some_iff.mp h
      obtain ⟨ma, ha, h⟩ := Option.bind_eq_some_iff.mp h
      obtain ⟨mb, hb, h⟩ := Option.bind_eq_some_iff.mp h
      obtain ⟨md, hd, h⟩ := Option.bind_eq_some_iff.mp h
      cases h
      obtain ⟨⟨r, h1, h2⟩, h3⟩ := cmp_ok G.K G.room hf
      obtain ⟨⟨r', h1', h2'⟩, h3'⟩ := cmp_ok G.K G.room hf'
      exact t_chain h1 h1' h2 h2' (he _ _ ha) (he _ _ hb) (he _ _ hd) (h3' _ hns)
    · cases h
  · exact (andT_ok ht h).pt
  · exact (orT_ok ht h).pt
  · obtain ⟨ma, ha, h⟩ := Option.bind_eq_some_iff.mp h
    cases h
    exact t_not (ht _ _ ha)
  · split at h
    · rename_i hv
      obtain ⟨ma, ha, h⟩ := Option.bind_eq_some_iff.mp h
      cases h
      exact t_val (he _ _ ha) (is_val hv)
    · cases h

/-! ### statements -/
theorem ss_ok (hs : ∀ s m, r.s T s = some m → PS X s (tS c m)) : ∀ {ss : List Stmt} {m : St'}, cSs r T ss = some m → PSs X ss (tS c m)
  | [], m, h => by
    cases h
    exact s_nil
  | s :: ss, m, h => by
    unfold cSs at h
    obtain ⟨m1, h1, h⟩ := Option.bind_eq_some_iff.mp h
    obtain ⟨m2, h2, h⟩ := Option.bind_eq_some_iff.mp h
    cases h
    refine s_cons ?_ (ss_ok hs h2)
    have base := hs _ _ h1
    generalize (T.gh.lookup s.pos.line).getD [] = gs
    induction gs with
    | nil => exact base
    | cons g gs ih =>
      refine s_ghost ih ?_
      cases g with
      | frz i => exact k_frz
      | lay i => exact k_lay
theorem parOf_ok (G : Good c flds X T) {tg e : Expr} {x y : Str} {a b : Expr} {i j : Nat} (h : parOf T tg e = some (x, y, a, b, i, j)) :
    ∃ px py kt pt k2 pt2, tg = .Tuple [.Name x px, .Name y py] kt pt ∧ e = .Tuple [a, b] k2 pt2 ∧ notStar a = true ∧ notStar b = true ∧ T.sc.names.lookup x = some .local ∧ T.sc.names.lookup y = some .local ∧ ixOf T.N x 0 = some i ∧ ixOf T.N y 0 = some j ∧ i ≠ j ∧
      swappedStores [tg] e X.env = pure (some [x, y]) := by
  unfold parOf at h
  split at h
  · rename_i x' px y' py kt pt a' b' k2 pt2
    split at h
    · rename_i hc
      obtain ⟨i', hi, h⟩ := Option.bind_eq_some_iff.mp h
      obtain ⟨j', hj, h⟩ := Option.bind_eq_some_iff.mp h
      split at h
      · cases h
      · rename_i hij
        cases h
        simp only [Bool.and_eq_true, decide_eq_true_eq, Bool.not_eq_true'] at hc
        obtain ⟨⟨⟨⟨⟨⟨⟨c1, c2⟩, c3⟩, c4⟩, c5⟩, c6⟩, c7⟩, c8⟩ := hc
        refine ⟨px, py, kt, pt, k2, pt2, rfl, rfl, c1, c2, c3, c4, hi, hj, hij, ?_⟩
        have kx : X.env.kindOf x = some .local := by show X.env.scope.names.lookup x = _; rw [G.sc]; exact c3
        have ky : X.env.kindOf y = some .local := by show X.env.scope.names.lookup y = _; rw [G.sc]; exact c4
        have hb : X.env.blockKind = .function := by
          have : X.env.scope.kind = .function := by rw [G.sc]; exact G.kind
          unfold Env.blockKind; rw [this]; rfl
        have hst : ([a, b].any fun | .Starred .. => true | _ => false) = false := by
          have na : ∀ e, notStar e = true → (match e with | .Starred .. => true | _ => false) = false := fun e h => by cases e <;> first | rfl | cases h
          rw [List.any_cons, List.any_cons, List.any_nil]
          rw [na a c1, na b c2]
          rfl
        have exy : (x == y) = false := c6
        have eyx : (py.line == px.line) = true := by
          have := eq_of_beq c5
          rw [this]; exact beq_self_eq_true _
        have dups : ([x, y] : List Str).eraseDups = [x, y] := by
          have e2 : (y == x) = false := by
            rw [beq_eq_false_iff_ne] at exy ⊢
            exact Ne.symm exy
          simp [List.eraseDups_cons, e2]
        unfold swappedStores
        simp only [List.length_cons, List.length_nil, hb, hst, List.head?_cons, Option.map_some, Option.getD_some, Expr.pos, List.filterMap_cons, List.filterMap_nil, kx, ky, c7, c8, eyx, beq_self_eq_true, Bool.and_self, if_true, dups]
        refine Eq.trans (if_neg (by decide)) ?_
        refine Eq.trans (if_neg fun z => ?_) rfl
        have := hst.symm.trans z
        cases this
    · cases h
  · cases h
theorem par3Of_ok (G : Good c flds X T) {tg e : Expr} {x y z : Str} {a b d : Expr} {i j l : Nat} (h : par3Of T tg e = some ((x, y, z), (a, b, d), (i, j, l))) :
    ∃ px py pz kt pt k2 pt2, tg = .Tuple [.Name x px, .Name y py, .Name z pz] kt pt ∧ e = .Tuple [a, b, d] k2 pt2 ∧ notStar a = true ∧ notStar b = true ∧ notStar d = true ∧ T.sc.names.lookup x = some .local ∧ T.sc.names.lookup y = some .local ∧ T.sc.names.lookup z = some .local ∧
      ixOf T.N x 0 = some i ∧ ixOf T.N y 0 = some j ∧ ixOf T.N z 0 = some l ∧ i ≠ j ∧ i ≠ l ∧ j ≠ l ∧ swappedStores [tg] e X.env = pure (some [x, y, z]) := by
  unfold par3Of at h
  split at h
  · rename_i x' px y' py z' pz kt pt a' b' d' k2 pt2
    split at h
    · rename_i hc
      obtain ⟨i', hi, h⟩ := Option.bind_eq_some_iff.mp h
      obtain ⟨j', hj, h⟩ := Option.bind_eq_some_iff.mp h
      obtain ⟨l', hl, h⟩ := Option.bind_eq_some_iff.mp h
      split at h
      · cases h
      · rename_i hij
        cases h
        simp only [Bool.and_eq_true, decide_eq_true_eq, Bool.not_eq_true'] at hc
        obtain ⟨⟨⟨⟨⟨⟨⟨⟨⟨⟨c1, c2⟩, c3⟩, c4⟩, c5⟩, c6⟩, c7⟩, c8⟩, c9⟩, c10⟩, c11⟩ := hc
        refine ⟨px, py, pz, kt, pt, k2, pt2, rfl, rfl, c1, c2, c3, c4, c5, c6, hi, hj, hl, fun q => hij (.inl q), fun q => hij (.inr (.inl q)), fun q => hij (.inr (.inr q)), ?_⟩
        have kx : X.env.kindOf x = some .local := by show X.env.scope.names.lookup x = _; rw [G.sc]; exact c4
        have ky : X.env.kindOf y = some .local := by show X.env.scope.names.lookup y = _; rw [G.sc]; exact c5
        have kz : X.env.kindOf z = some .local := by show X.env.scope.names.lookup z = _; rw [G.sc]; exact c6
        have hb : X.env.blockKind = .function := by
          have : X.env.scope.kind = .function := by rw [G.sc]; exact G.kind
          unfold Env.blockKind; rw [this]; rfl
        have hst : ([a, b, d].any fun | .Starred .. => true | _ => false) = false := by
          have na : ∀ e, notStar e = true → (match e with | .Starred .. => true | _ => false) = false := fun e h => by cases e <;> first | rfl | cases h
          rw [List.any_cons, List.any_cons, List.any_cons, List.any_nil]
          rw [na a c1, na b c2, na d c3]
          rfl
        have dups : ([x, y, z] : List Str).eraseDups.length = 3 := eq_of_beq c9
        unfold swappedStores
        simp only [List.length_cons, List.length_nil, hb, List.head?_cons, Option.map_some, Option.getD_some, Expr.pos, List.filterMap_cons, List.filterMap_nil, kx, ky, kz, c7, c8, c10, c11, beq_self_eq_true, Bool.and_self, if_true, dups]
        refine Eq.trans (if_neg (by decide)) ?_
        refine Eq.trans (if_neg fun z => ?_) rfl
        have := hst.symm.trans z
        cases this
    · cases h
  · cases h
theorem noSwap_ok (G : Good c flds X T) {tg e : Expr} (h : noSwap T tg e = true) : swappedStores [tg] e X.env = pure none := by
  unfold noSwap at h
  split at h
  · rename_i ts _ _ vs _ _
    have hb : X.env.blockKind = .function := by
      have : X.env.scope.kind = .function := by rw [G.sc]; exact G.kind
      unfold Env.blockKind; rw [this]; rfl
    have hk : ∀ y, X.env.kindOf y = T.sc.names.lookup y := fun y => by show X.env.scope.names.lookup y = _; rw [G.sc]
    unfold swNone at h
    unfold swappedStores
    simp only [hb, hk]
    split at h
    · rename_i h1
      refine if_pos ?_
      rw [h1]; rfl
    · rename_i h1
      rw [Bool.not_eq_true] at h1
      refine Eq.trans (if_neg ?_) ?_
      · rw [h1]; decide
      · split at h
        · rename_i h2
          exact if_pos h2
        · rename_i h2
          refine Eq.trans (if_neg h2) ?_
          split at h
          · rename_i h3
            refine if_pos ?_
            rw [Bool.or_eq_true]
            exact .inl h3
          · split
            · rfl
            · first | rfl | rw [if_pos h]
  · cases h
  · rename_i h1 h2
    cases tg <;> first | rfl | exact (h1 _ _ rfl).elim | (cases e <;> first | rfl | exact (h2 _ _ _ _ _ _ rfl rfl).elim)
theorem sole {tg : Expr} {env : Env} (h : notStar tg = true) : (assignEach [tg] env).map (·.2) = [assign tg env] := by
  rw [asg_map (by rw [List.all_cons, h]; rfl)]
  rfl
theorem sw_cell {elt : Expr} {gs : List Comprehension} {scope : Scope} {p py : Pos} {y : Str} {l : Nat} {env : Env} (h : env.scope.names.lookup y = some .cell) : swapsWith (.ListComp elt gs scope p) (some (.Name y py)) l env = pure false := by
  show (pure (env.blockKind == .function && env.kindOf y == some .local && py.line == (Expr.ListComp elt gs scope p).pos.line && !(scope.names.any fun (n, k) => n == y && (k == .local || k == .cell))) : Sem Bool) = pure false
  have e : (env.kindOf y == some .local) = false := by
    show (env.scope.names.lookup y == some .local) = false
    rw [h]; rfl
  rw [e, Bool.and_false, Bool.false_and, Bool.false_and]
theorem asg_ok (R : CmOk c flds r) (G : Good c flds X T) {tg e : Expr} {pos : Pos} {m : St'} (h : cAsg r T tg e pos = some m) : PS X (.Assign [tg] e pos) (tS c m) := by
  have he := R.e X T G
  unfold cAsg at h
  split at h
  · rename_i x p f p2
    split at h
    · rename_i i hi
      split at h
      · rename_i hv
        rw [Bool.and_eq_true] at hv
        obtain ⟨ma, ha, h⟩ := Option.bind_eq_some_iff.mp h
        cases h
        obtain ⟨h1, h2⟩ := G.ix hi
        refine s_setF G.K G.ko (G.fl _ (List.contains_iff_mem.mp hv.2)) h1 (G.vis hv.1) (okN_d h2) (okN_c h2) (he _ _ ha) ?_
        cases e <;> rfl
      · cases h
    · cases h
  · split at h
    · rename_i x y a b i j hp
      obtain ⟨ma, ha, h⟩ := Option.bind_eq_some_iff.mp h
      obtain ⟨mb, hb, h⟩ := Option.bind_eq_some_iff.mp h
      cases h
      obtain ⟨px, py, kt, pt, k2, pt2, rfl, rfl, c1, c2, c3, c4, hi, hj, hij, hw⟩ := parOf_ok G hp
      exact s_par G.calm G.nd (G.ix hi).1 (G.ix hj).1 hij (by rw [G.sc]; exact c3) (by rw [G.sc]; exact c4) (he _ _ ha) (he _ _ hb) (notStar_ne c1) (notStar_ne c2) hw
    split at h
    · rename_i q3 a b d i j l hp
      obtain ⟨ma, ha, h⟩ := Option.bind_eq_some_iff.mp h
      obtain ⟨mb, hb, h⟩ := Option.bind_eq_some_iff.mp h
      obtain ⟨md, hd, h⟩ := Option.bind_eq_some_iff.mp h
      cases h
      obtain ⟨x, y, z⟩ := q3
      obtain ⟨px, py, pz, kt, pt, k2, pt2, rfl, rfl, c1, c2, c3, c4, c5, c6, hi, hj, hl, hij, hil, hjl, hw⟩ := par3Of_ok G hp
      exact s_par3 G.calm G.nd (G.ix hi).1 (G.ix hj).1 (G.ix hl).1 hij hil hjl (by rw [G.sc]; exact c4) (by rw [G.sc]; exact c5) (by rw [G.sc]; exact c6) (he _ _ ha) (he _ _ hb) (he _ _ hd) (notStar_ne c1) (notStar_ne c2) (notStar_ne c3) hw
    · split at h
      · rename_i x px elt ltg iter ifs scope p2 _ _ _
        split at h
        · rename_i hc
          simp only [Bool.and_eq_true, decide_eq_true_eq, Bool.not_eq_true'] at hc
          obtain ⟨⟨c1, c2⟩, c3⟩ := hc
          obtain ⟨i, hi, h⟩ := Option.bind_eq_some_iff.mp h
          obtain ⟨l, hl, h⟩ := Option.bind_eq_some_iff.mp h
          obtain ⟨t, h1, h2⟩ := setLc_ok (spos := pos) R G hi c1 c2 c3 hl
          split at h
          · cases h
            exact s_ownLc h1 h2
          · split at h
            · cases h
              exact s_setLc h1 fun σ H Q q => h2 σ H Q (heap_read q)
            · cases h
              exact s_setLc h1 fun σ H Q q => h2 σ H Q (frz_read q)
        · split at h
          · rename_i hc
            rw [Bool.and_eq_true, decide_eq_true_eq] at hc
            obtain ⟨i, hi, h⟩ := Option.bind_eq_some_iff.mp h
            obtain ⟨l, hl, h⟩ := Option.bind_eq_some_iff.mp h
            have pl := lc_ok (pos := p2) R G hl
            have hcell : X.env.scope.names.lookup x = some .cell := by rw [G.sc]; exact hc.1
            have hlx : locB T x = true := by unfold locB; rw [hc.1]; exact hc.2
            obtain ⟨h1, h2⟩ := locB_ok G hlx
            split at h
            · cases h
              exact s_own G.nd (G.ix hi).1 h1 h2 pl (sw_cell hcell)
            · split at h
              · cases h
                exact s_asg (e_heap pl) (g_name G.nd (G.ix hi).1 h1 h2) (show swapsWith _ (some (.Name x px)) pos.line X.env = pure false from sw_cell hcell) (noSwap_ok G rfl) rfl
              · cases h
                exact s_asg (e_frz pl) (g_name G.nd (G.ix hi).1 h1 h2) (show swapsWith _ (some (.Name x px)) pos.line X.env = pure false from sw_cell hcell) (noSwap_ok G rfl) rfl
          · cases h
      · rename_i x px _ _ _ _
        split at h
        · rename_i hnc
          obtain ⟨i, hi, h⟩ := Option.bind_eq_some_iff.mp h
          split at h
          · rename_i hlx
            obtain ⟨h1, h2⟩ := locB_ok G hlx
            split at h
            · obtain ⟨l, hl, h⟩ := Option.bind_eq_some_iff.mp h
              cases h
              exact s_own G.nd (G.ix hi).1 h1 h2 (R.l X T G _ _ hl) (sw_none hnc)
            · obtain ⟨ma, ha, h⟩ := Option.bind_eq_some_iff.mp h
              cases h
              exact s_asg (he _ _ ha) (g_name G.nd (G.ix hi).1 h1 h2) (show swapsWith e (some (.Name x px)) pos.line X.env = pure false from sw_none hnc) (noSwap_ok G rfl) rfl
          · cases h
        · cases h
      · rename_i _ _ _ hnn _
        split at h
        · rename_i hc
          rw [Bool.and_eq_true] at hc
          obtain ⟨g, hg, h⟩ := Option.bind_eq_some_iff.mp h
          obtain ⟨ma, ha, h⟩ := Option.bind_eq_some_iff.mp h
          cases h
          refine s_asg (he _ _ ha) (g_ok G hg) ?_ (noSwap_ok G hc.1) (sole hc.2)
          show swapsWith e (some tg) pos.line X.env = pure false
          cases e <;> first | rfl | (cases tg <;> first | rfl | exact (hnn _ _ rfl).elim)
        · cases h
theorem pth_ok (G : Good c flds X T) {e : Expr} {p : Pth} (h : cPth T e = some p) : PE X e (tE c p.e) := by
  unfold cPth at h
  split at h
  · obtain ⟨i, hi, h⟩ := Option.bind_eq_some_iff.mp h
    split at h
    · rename_i hv
      cases h
      obtain ⟨h1, h2⟩ := G.ix hi
      exact e_var h1 (G.vis hv) (okN_d h2) (okN_c h2)
    · cases h
  · obtain ⟨i, hi, h⟩ := Option.bind_eq_some_iff.mp h
    split at h
    · rename_i hv
      rw [Bool.and_eq_true] at hv
      cases h
      obtain ⟨h1, h2⟩ := G.ix hi
      exact e_fld G.K G.ko (G.fl _ (List.contains_iff_mem.mp hv.2)) (e_var h1 (G.vis hv.1) (okN_d h2) (okN_c h2)) (ab_plain rfl)
    · cases h
  · cases h
theorem walk_ok (G : Good c flds X T) {tg it : Expr} {l : Nat} {w : DK × Pth} (h : cWalk T tg it l = some w) : PI X tg it (tI c (iDict w.1 w.2.e)) ∧ notSet it = true := by
  unfold cWalk at h
  split at h
  · split at h
    · rename_i hc
      rw [Bool.and_eq_true] at hc
      split at h
      · rename_i hm
        subst hm
        split at h
        · rename_i ht
          obtain ⟨p, hp, h⟩ := Option.bind_eq_some_iff.mp h
          cases h
          obtain ⟨es, k, p, rfl⟩ := isTup_ok ht
          exact ⟨i_items (pth_ok G hp) (ab_plain hc.1) hc.2, rfl⟩
        · cases h
      · split at h
        · rename_i hm
          subst hm
          obtain ⟨p, hp, h⟩ := Option.bind_eq_some_iff.mp h
          cases h
          exact ⟨i_values (pth_ok G hp) (ab_plain hc.1) hc.2, rfl⟩
        · cases h
    · cases h
  · split at h
    · rename_i hc
      rw [Bool.and_eq_true] at hc
      obtain ⟨p, hp, h⟩ := Option.bind_eq_some_iff.mp h
      cases h
      exact ⟨i_keys (pth_ok G hp), hc.2⟩
    · cases h
theorem s2_ok (R : CmOk c flds r) (G : Good c flds X T) (hp : PassesOwn (model X.prog X.w) X.A X.env X.xe) {st : Stmt} {m : St'} (h : cS2 r T st = some m) : PS X st (tS c m) := by
  have he := R.e X T G
  have hs := R.s X T G hp
  have hu : X.A.units + 1 < cLine := by have := G.room.units; omega
  unfold cS2 at h
  split at h
  · cases h
    exact s_never
  split at h
  · obtain ⟨w, hw, h⟩ := Option.bind_eq_some_iff.mp h
    obtain ⟨g, hg, h⟩ := Option.bind_eq_some_iff.mp h
    obtain ⟨ma, ha, h⟩ := Option.bind_eq_some_iff.mp h
    cases h
    obtain ⟨h1, h2⟩ := walk_ok G hw
    exact s_lock (s_for hp G.calm h1 (g_ok G hg) (ss_ok hs ha) (fsi h2))
  · split at h
    · rename_i hc
      rw [Bool.and_eq_true] at hc
      obtain ⟨mo, ho, h⟩ := Option.bind_eq_some_iff.mp h
      obtain ⟨mi, hi, h⟩ := Option.bind_eq_some_iff.mp h
      obtain ⟨ma, ha, h⟩ := Option.bind_eq_some_iff.mp h
      split at h
      · cases h
        exact s_nput G.xc G.room.units (he _ _ ho) (he _ _ hi) (he _ _ ha) (sw_none hc.2)
      · cases h
        exact s_dput hu (he _ _ ho) (he _ _ hi) (he _ _ ha) (sw_none hc.2)
    · cases h
  · obtain ⟨i, hi, h⟩ := Option.bind_eq_some_iff.mp h
    split at h
    · rename_i hx
      obtain ⟨ma, ha, h⟩ := Option.bind_eq_some_iff.mp h
      cases h
      obtain ⟨h1, h2⟩ := locB_ok G hx
      exact s_aug G.nd (G.ix hi).1 h1 h2 (he _ _ ha)
    · cases h
  · obtain ⟨i, hi, h⟩ := Option.bind_eq_some_iff.mp h
    split at h
    · rename_i hv
      rw [Bool.and_eq_true] at hv
      obtain ⟨ma, ha, h⟩ := Option.bind_eq_some_iff.mp h
      cases h
      obtain ⟨h1, h2⟩ := G.ix hi
      exact s_faug G.K G.ko (G.fl _ (List.contains_iff_mem.mp hv.2)) h1 (G.vis hv.1) (okN_d h2) (okN_c h2) (he _ _ ha)
    · cases h
  · split at h
    · rename_i hc
      simp only [Bool.and_eq_true, decide_eq_true_eq] at hc
      obtain ⟨⟨⟨⟨c1, c2⟩, c3⟩, c4⟩, c5⟩ := hc
      obtain ⟨i, hi, h⟩ := Option.bind_eq_some_iff.mp h
      obtain ⟨ma, ha, h⟩ := Option.bind_eq_some_iff.mp h
      cases h
      subst c2
      obtain ⟨h1, h2⟩ := G.ix hi
      exact s_ext h1 (G.vis c4) (okN_d h2) (okN_c h2) (he _ _ ha) (notStar_ne c3) (ab_plain rfl) c5
    · cases h
  · cases h
theorem s_ok (R : CmOk c flds r) (G : Good c flds X T) (hp : PassesOwn (model X.prog X.w) X.A X.env X.xe) {st : Stmt} {m : St'} (h : cS r T st = some m) : PS X st (tS c m) := by
  have he := R.e X T G
  have hs := R.s X T G hp
  unfold cS at h
  split at h
  · rename_i h2
    cases h
    exact s2_ok R G hp h2
  split at h
  · cases h; exact s_pass
  · cases h; exact s_break
  · cases h; exact s_cont
  · cases h; exact s_never
  · cases h; exact s_retN
  · obtain ⟨ma, ha, h⟩ := Option.bind_eq_some_iff.mp h
    cases h
    exact s_ret (he _ _ ha)
  · obtain ⟨ct, hc, h⟩ := Option.bind_eq_some_iff.mp h
    obtain ⟨ma, ha, h⟩ := Option.bind_eq_some_iff.mp h
    obtain ⟨mb, hb, h⟩ := Option.bind_eq_some_iff.mp h
    cases h
    exact s_if (R.t X T G _ _ hc) (ss_ok hs ha) (ss_ok hs hb)
  · obtain ⟨ct, hc, h⟩ := Option.bind_eq_some_iff.mp h
    obtain ⟨ma, ha, h⟩ := Option.bind_eq_some_iff.mp h
    cases h
    exact s_while hp (R.t X T G _ _ hc) (ss_ok hs ha)
  · split at h
    · rename_i hn
      obtain ⟨mi, hi, h⟩ := Option.bind_eq_some_iff.mp h
      obtain ⟨g, hg, h⟩ := Option.bind_eq_some_iff.mp h
      obtain ⟨ma, ha, h⟩ := Option.bind_eq_some_iff.mp h
      cases h
      exact s_for hp G.calm (i_ok R G hi) (g_ok G hg) (ss_ok hs ha) (fsi hn)
    · cases h
  · exact asg_ok R G h
  · split at h
    · cases h; exact s_doc
    · split at h
      · split at h
        · rename_i hc
          simp only [Bool.and_eq_true, decide_eq_true_eq] at hc
          obtain ⟨⟨⟨c1, c2⟩, c3⟩, c4⟩ := hc
          obtain ⟨i, hi, h⟩ := Option.bind_eq_some_iff.mp h
          obtain ⟨ma, ha, h⟩ := Option.bind_eq_some_iff.mp h
          cases h
          subst c1
          obtain ⟨h1, h2⟩ := G.ix hi
          exact s_app h1 (G.vis c3) (okN_d h2) (okN_c h2) (he _ _ ha) (notStar_ne c2) (ab_plain rfl) c4
        · cases h
      · obtain ⟨ma, ha, h⟩ := Option.bind_eq_some_iff.mp h
        cases h
        exact s_expr (he _ _ ha) rfl
    · split at h
      · rename_i hn
        obtain ⟨ma, ha, h⟩ := Option.bind_eq_some_iff.mp h
        cases h
        exact s_expr (he _ _ ha) (sw_none hn)
      · cases h
  · cases h
end
theorem cm0_ok (c : Cn) (flds : List Str) : CmOk c flds cm0 := ⟨fun _ _ _ _ _ h => (by cases h), fun _ _ _ _ _ h => (by cases h), fun _ _ _ _ _ h => (by cases h), fun _ _ _ _ _ _ h => (by cases h)⟩
theorem cmS_ok {c : Cn} {flds : List Str} {r : Cm} (R : CmOk c flds r) : CmOk c flds (cmS r) := ⟨fun X T G e m h => e_ok R G h, fun X T G e m h => t_ok R G h, fun X T G e m h => l_ok R G h, fun X T G hp s m h => s_ok R G hp h⟩
theorem cmN_ok (c : Cn) (flds : List Str) : ∀ n, CmOk c flds (cmN n)
  | 0 => cm0_ok c flds
  | n + 1 => cmS_ok (cmN_ok c flds n)
theorem comp_ok {c : Cn} {flds : List Str} {X : Cx} {T : Tb} (G : Good c flds X T) (hp : PassesOwn (model X.prog X.w) X.A X.env X.xe) {body : List Stmt} {m : St'} (h : comp T body = some m) : PSs X body (tS c m) := ss_ok ((cmN_ok c flds 60).s X T G hp) h
end SB
/-! SB, part 16: the facts of a program's top, def by def; the law's end. -/
namespace SB
open PySem PySem.Spec PyProof.Rows L2

/-- the classes by name, at the module's names -/
def cnOf (P : Program) (w : World) (K : PySem.W.Frag) (cs : List Str) : Cn := ⟨K, fun C => if C ∈ cs then some (He.ga K C) else none, P, w⟩
def clB (K : PySem.W.Frag) (flds : List Str) (C : Str) : Bool := (He.Fa.cls C).ok K && (flds.all fun f => (He.Fa.noat C f).ok K) && He.eqO (PySem.W.findIn K (.ref (He.ga K C)) "__class__") (some (some (.builtin "object.__class__"))) &&
  decide (PySem.W.mroIn K (He.ga K C) (.type "object") = some true) && (bTypes.all fun n => decide (PySem.W.kitOne K (.ref (He.ga K C)) (.type n) = some false)) && (bTypes.all fun n => decide (PySem.W.kitOne K (.type n) (.ref (He.ga K C)) = some false))
def kokB (K : PySem.W.Frag) (cs flds : List Str) : Bool := (cs.all fun C => clB K flds C) && (cs.all fun C => cs.all fun D => decide (PySem.W.kitOne K (.ref (He.ga K C)) (.ref (He.ga K D)) = some (decide (C = D)))) &&
  decide (PySem.W.specialIn K (.builtin "object.__class__") "__get__" = some (some (.builtin "getset_descriptor.__get__"))) && decide (PySem.W.takesIn K (.builtin "object.__class__") = some true)
theorem kok_of {P : Program} {w : World} {K : PySem.W.Frag} {cs flds : List Str} (h : kokB K cs flds = true) : KOk (cnOf P w K cs) flds := by
  unfold kokB at h
  simp only [Bool.and_eq_true, List.all_eq_true, decide_eq_true_eq] at h
  obtain ⟨⟨⟨h1, h2⟩, h3⟩, h4⟩ := h
  have at_ : ∀ C a, (cnOf P w K cs).cls C = some a → C ∈ cs ∧ a = He.ga K C := fun C a e => by
    unfold cnOf at e
    simp only at e
    split at e
    · rename_i hm
      cases e
      exact ⟨hm, rfl⟩
    · cases e
  have one : ∀ C a, (cnOf P w K cs).cls C = some a → a = He.ga K C ∧ Cls K a ∧ (∀ f ∈ flds, NoAttr K a f) ∧ PySem.W.findIn K (.ref a) "__class__" = some (some (.builtin "object.__class__")) ∧ PySem.W.mroIn K a (.type "object") = some true ∧
      (∀ n ∈ bTypes, PySem.W.kitOne K (.ref a) (.type n) = some false) ∧ (∀ n ∈ bTypes, PySem.W.kitOne K (.type n) (.ref a) = some false) := fun C a e => by
    obtain ⟨hm, rfl⟩ := at_ C a e
    have := h1 C hm
    unfold clB at this
    simp only [Bool.and_eq_true, List.all_eq_true, decide_eq_true_eq] at this
    obtain ⟨⟨⟨⟨⟨q1, q2⟩, q3⟩, q4⟩, q5⟩, q6⟩ := this
    exact ⟨rfl, He.cls_ok q1, fun f hf => He.noat_ok (q2 f hf), He.eqO_ok q3, q4, q5, q6⟩
  refine ⟨fun C a e => (one C a e).2.1, fun C a f e hf => (one C a e).2.2.1 f hf, fun C a e => (one C a e).2.2.2.1, h3, h4, fun C a e => (one C a e).2.2.2.2.1, fun C a n e hn => (one C a e).2.2.2.2.2.1 n hn, fun C a D b e e' => ?_, fun C a n e hn => (one C a e).2.2.2.2.2.2 n hn⟩
  obtain ⟨m1, rfl⟩ := at_ C a e
  obtain ⟨m2, rfl⟩ := at_ D b e'
  exact h2 C m1 D m2
section
variable {c : Cn} {flds : List Str} {P : Program} {w : World} {K : PySem.W.Frag} {mg : Str → Option Value} {base : Heap}
def GlOk (c : Cn) (P : Program) (w : World) (K : PySem.W.Frag) (mg : Str → Option Value) (base : Heap) (k : Nat) (gl : List (Str × GE)) : Prop := ∀ x e, gl.lookup x = some e → okN x = true ∧ GOk c P w K mg base k x e
def MeOk (c : Cn) (P : Program) (w : World) (K : PySem.W.Frag) (mg : Str → Option Value) (base : Heap) (k : Nat) (me : List (Str × Nat × (Str → Option Fn))) : Prop := ∀ q ∈ me, TabOk P w K mg base c k q.1 q.2.1 q.2.2
theorem CallN.mono {k j : Nat} {fA : Addr} {nn : Nat} {m : Fn} {dws : List W} (h : CallN P w K mg base c k fA nn m dws) (hj : k ≤ j) : CallN P w K mg base c j fA nn m dws := by
  obtain ⟨⟨fd, ps, ds, dvs, F, r⟩, q⟩ := h
  exact ⟨⟨fd, ps, ds, dvs, F.mono hj, r⟩, q⟩
theorem GOk.mono {k j : Nat} {x : Str} {e : GE} (h : GOk c P w K mg base k x e) (hj : k ≤ j) : GOk c P w K mg base j x e := by
  cases e with
  | fn n m dws =>
    obtain ⟨f, h1, h2⟩ := h
    exact ⟨f, h1, fun i => (h2 i).mono hj⟩
  | cst w => exact h
  | cls C mk =>
    obtain ⟨cA, h1, h2, h3⟩ := h
    refine ⟨cA, h1, h2, ?_⟩
    cases mk with
    | no => trivial
    | frz n f dws =>
      obtain ⟨fA, fd, ps, kk, M, F, hk, r⟩ := h3
      exact ⟨fA, fd, ps, kk, M, F, Nat.le_trans hk hj, r⟩
    | hp n f dws =>
      obtain ⟨fA, fd, ps, kk, M, F, hk, r⟩ := h3
      exact ⟨fA, fd, ps, kk, M, F, Nat.le_trans hk hj, r⟩
    | zp n f dws =>
      obtain ⟨fA, fd, ps, kk, M, F, hk, r⟩ := h3
      exact ⟨fA, fd, ps, kk, M, F, Nat.le_trans hk hj, r⟩
    | nw => exact h3
  | blt b => exact h
theorem GlOk.mono {k j : Nat} {gl : List (Str × GE)} (h : GlOk c P w K mg base k gl) (hj : k ≤ j) : GlOk c P w K mg base j gl := fun x e z => ⟨(h x e z).1, (h x e z).2.mono hj⟩
theorem GlOk.nil {k : Nat} : GlOk c P w K mg base k [] := fun x e z => by cases z
theorem GlOk.cons {k : Nat} {gl : List (Str × GE)} {x : Str} {e : GE} (h : GlOk c P w K mg base k gl) (ho : okN x = true) (g : GOk c P w K mg base k x e) : GlOk c P w K mg base k ((x, e) :: gl) := fun y u z => by
  rw [List.lookup_cons] at z
  cases hb : y == x with
  | true =>
    rw [hb] at z
    cases z
    rw [eq_of_beq hb]
    exact ⟨ho, g⟩
  | false =>
    rw [hb] at z
    exact h y u z
theorem MeOk.mono {k j : Nat} {me : List (Str × Nat × (Str → Option Fn))} (h : MeOk c P w K mg base k me) (hj : k ≤ j) : MeOk c P w K mg base j me := fun q hq C f e cA hc => by
  obtain ⟨fA, nn, m', dws, h1, h2, h3⟩ := h q hq C f e cA hc
  exact ⟨fA, nn, m', dws, h1, h2.mono hj, h3⟩
theorem MeOk.nil {k : Nat} : MeOk c P w K mg base k [] := fun q hq => by cases hq
theorem MeOk.cons {k : Nat} {me : List (Str × Nat × (Str → Option Fn))} {q : Str × Nat × (Str → Option Fn)} (h : MeOk c P w K mg base k me) (g : TabOk P w K mg base c k q.1 q.2.1 q.2.2) : MeOk c P w K mg base k (q :: me) := fun p hp => by
  rcases List.mem_cons.mp hp with rfl | hp
  · exact g
  · exact h p hp
theorem good_of {N : List Str} {scope : Scope} {k : Nat} {X : Cx} {gl : List (Str × GE)} {me : List (Str × Nat × (Str → Option Fn))} {ow dk nv : List Nat} {hp tsl dp dn : List (Nat × Nat × Nat)} {gh : List (Nat × List Gs)} (B : BodyCx P w K mg base N scope k X) (hK : c.K = K ∧ c.P = P ∧ c.w = w) (ko : KOk c flds) (nd : N.Nodup) (sk : scope.kind = .function)
    (nm : N.all okN = true) (G : GlOk c P w K mg base k gl) (M : MeOk c P w K mg base k me) : Good c flds X ⟨N, scope, fun _ => true, k, gl, me, flds, ow, hp, tsl, gh, dp, dk, nv, dn⟩ := by
  obtain ⟨b1, b2, b3, b4, b5, b6, b7, b8, b9, b10, b11⟩ := B
  subst b1 b2 b3 b4 b5 b6 b7
  exact ⟨hK.1.symm, ⟨hK.1.symm, hK.2.1.symm, hK.2.2.symm⟩, ko, fun f hf => hf, rfl, nd, rfl, sk, b8, b9, fun x _ => b10 x, fun x hx => List.all_eq_true.mp nm x hx, G, M⟩
/-- a def -/
theorem step_fn {x qual : Str} {params : Arguments} {body : List Stmt} {scope : Scope} {dvs : List V} {kws : List (Str × V)} {f : Addr} {fd : FuncData} {N ps : List Str} {k : Nat} {m : St'} {gl : List (Str × GE)} {me : List (Str × Nat × (Str → Option Fn))} {ow dk nv : List Nat} {hp tsl dp dn : List (Nat × Nat × Nat)} {gh : List (Nat × List Gs)}
    (F : FunD K x qual params body scope dvs kws f fd) (Sc : FnScope N ps scope) (nm : N.all okN = true) (hK : c.K = K ∧ c.P = P ∧ c.w = w) (ko : KOk c flds) (G : GlOk c P w K mg base k gl) (M : MeOk c P w K mg base k me)
    (hc : comp ⟨N, scope, fun _ => true, k, gl, me, flds, ow, hp, tsl, gh, dp, dk, nv, dn⟩ body = some m) : FnOk P w K mg base CX0 (k + 1) f fd ps (spM c ps.length (runDef N.length m)) :=
  def_ok F Sc fun X B => comp_ok (good_of B hK ko Sc.nd Sc.kind nm G M) B.ow hc
theorem step_init {x qual : Str} {params : Arguments} {body : List Stmt} {scope : Scope} {dvs : List V} {kws : List (Str × V)} {f : Addr} {fd : FuncData} {N ps : List Str} {k : Nat} {m : St'} {C : Str} {gl : List (Str × GE)} {me : List (Str × Nat × (Str → Option Fn))} {ow dk nv : List Nat} {hp tsl dp dn : List (Nat × Nat × Nat)} {gh : List (Nat × List Gs)}
    (F : FunD K x qual params body scope dvs kws f fd) (Sc : FnScope N ps scope) (nm : N.all okN = true) (hK : c.K = K ∧ c.P = P ∧ c.w = w) (ko : KOk c flds) (G : GlOk c P w K mg base k gl) (M : MeOk c P w K mg base k me)
    (hc : comp ⟨N, scope, fun _ => true, k, gl, me, flds, ow, hp, tsl, gh, dp, dk, nv, dn⟩ body = some m) : FnOk P w K mg base CX0 (k + 1) f fd ps (spI c ps.length C (runInit N.length C m)) :=
  init_ok F Sc fun X B => comp_ok (good_of B hK ko Sc.nd Sc.kind nm G M) B.ow hc
theorem lit_ok {W0 : W} {v : V} (h : lit W0 = some v) (g : Gh) : RW c g W0 v := by
  cases W0 <;> cases h
  · exact rw_non.mpr rfl
  · exact rw_bl.mpr rfl
  · exact rw_int.mpr rfl
  · exact rw_str.mpr rfl
  · exact rw_byt.mpr rfl
theorem lits_ok : ∀ {ws : List W} {vs : List V}, ws.map lit = vs.map some → ∀ g, RWs c g ws vs
  | [], [], _, _ => .nil
  | [], _ :: _, h, _ => by cases h
  | _ :: _, [], h, _ => by cases h
  | a :: ws, v :: vs, h, g => by
    simp only [List.map_cons, List.cons.injEq] at h
    exact .cons (lit_ok h.1 g) (lits_ok h.2 g)
theorem drop_vals {ws : List W} {vs : List V} (h : ws.map lit = vs.map some) (j : Nat) (g : Gh) : RWs c g (ws.drop j) (vs.drop j) := (lits_ok h g).drop j
/-- how the parameters are bound, for each number of defaults that fill up -/
def BindJ (K : PySem.W.Frag) (fd : FuncData) (ps : List Str) (dvs : List V) : Prop := ∀ j, ∃ ds, Vals (dvs.drop j) ds ∧ Binds K fd ps ds
theorem callN_of {k : Nat} {fA : Addr} {fd : FuncData} {ps : List Str} {m : Fn} {dws : List W} {dvs : List V} (F : FnOk P w K mg base CX0 k fA fd ps (spM c ps.length m)) (kp : PySem.W.keepIn K (.ref fA) = true) (b : BindJ K fd ps dvs) (hd : dws.map lit = dvs.map some) (j : Nat) :
    CallN P w K mg base c k fA ps.length m (dws.drop j) := by
  obtain ⟨ds, h1, h2⟩ := b j
  exact ⟨⟨fd, ps, ds, dvs.drop j, F, h2, h1, drop_vals hd j⟩, kp⟩
theorem mk_of {k : Nat} {C : Str} {cA fA : Addr} {fd : FuncData} {ps : List Str} {f : Fi} {dws : List W} {dvs : List V} (M : Mk K cA fA) (F : FnOk P w K mg base CX0 k fA fd ps (spI c ps.length C f)) (b : BindJ K fd ps dvs) (hd : dws.map lit = dvs.map some) : MkOk c P w K mg base (k + 1) C cA (.frz ps.length f dws) := by
  refine ⟨fA, fd, ps, k, M, F, Nat.le_refl _, fun j => ?_⟩
  obtain ⟨ds, h1, h2⟩ := b j
  exact ⟨ds, dvs.drop j, h2, h1, drop_vals hd j⟩
theorem mkH_of {k : Nat} {C : Str} {cA fA : Addr} {fd : FuncData} {ps : List Str} {f : Fn} {dws : List W} {dvs : List V} (M : Mk K cA fA) (F : FnOk P w K mg base CX0 k fA fd ps (spM c ps.length f)) (b : BindJ K fd ps dvs) (hd : dws.map lit = dvs.map some) : MkOk c P w K mg base (k + 1) C cA (.hp ps.length f dws) := by
  refine ⟨fA, fd, ps, k, M, F, Nat.le_refl _, fun j => ?_⟩
  obtain ⟨ds, h1, h2⟩ := b j
  exact ⟨ds, dvs.drop j, h2, h1, drop_vals hd j⟩
theorem mkZ_of {k : Nat} {C : Str} {cA fA : Addr} {fd : FuncData} {ps : List Str} {f : Fn} {dws : List W} {dvs : List V} (M : Mk K cA fA) (F : FnOk P w K mg base CX0 k fA fd ps (spM c ps.length f)) (b : BindJ K fd ps dvs) (hd : dws.map lit = dvs.map some) : MkOk c P w K mg base (k + 1) C cA (.zp ps.length f dws) := by
  refine ⟨fA, fd, ps, k, M, F, Nat.le_refl _, fun j => ?_⟩
  obtain ⟨ds, h1, h2⟩ := b j
  exact ⟨ds, dvs.drop j, h2, h1, drop_vals hd j⟩
/-- a class without __init__ -/
def nwB (K : PySem.W.Frag) (C : Str) : Bool := PySem.W.makesIn K (He.ga K C) && (He.eqO (PySem.W.findIn K (.ref (He.ga K C)) "__init__") (some (some (.builtin "object.__init__"))) && PySem.W.keepIn K (.ref (He.ga K C)))
theorem nw_of {C : Str} (h : nwB K C = true) : Mk0 K (He.ga K C) := by
  unfold nwB at h
  simp only [Bool.and_eq_true] at h
  exact ⟨h.1, He.eqO_ok h.2.1, h.2.2⟩
/-- no defaults -/
theorem bindJ0 {fd : FuncData} {ps : List Str} (h : Binds K fd ps []) : BindJ K fd ps [] := fun j => ⟨[], by rw [List.drop_nil]; exact .nil, h⟩
/-- a script -/
def ScrOk (ns : List Int) : Prop := ns.length ≤ 63 ∧ ∀ z ∈ ns, z.natAbs < 2 ^ 1048576
/-- the law's promise -/
def spLaw (K : PySem.W.Frag) : Sp := fun vs H Q _ => ∃ (a : Addr) (ns : List Int), vs = [.ref a] ∧ SqL K H a (ns.map V.int) ∧ Only H ∧ ScrOk ns ∧ ∀ H', Q (.bl true) H'
theorem law_ok {k : Nat} {fA : Addr} {fd : FuncData} {ps : List Str} {m : Fn} (hK : c.K = K) (F : FnOk P w K mg base CX0 k fA fd ps (spM c 1 m)) (hps : ps.length = 1) (pure_ : ∀ ns : List Int, ScrOk ns → ∃ S, m [.scr ns] [] = .ok (.bl true) S) : FnOk P w K mg base CX0 k fA fd ps (spLaw K) := by
  refine F.imp fun vs H Q E h => ?_
  obtain ⟨a, ns, rfl, hS, hO, hl, hQ⟩ := h
  obtain ⟨S, e⟩ := pure_ ns hl
  refine ⟨⟨fun _ => False, fun _ => 0, 0, H, 0⟩, [], [.scr ns], rfl, ⟨rfl, fun a o e => ?_, fun a b oa ob e _ _ => ?_, fun p z => z.elim⟩, .cons ?_ .nil, rfl, .bl true, S, e, fun g' v h' x' r' => ?_⟩
  · simp [heapAt] at e
  · simp [heapAt] at e
  · rw [rw_scr]
    refine ⟨a, rfl, ?_, Nat.le_trans hl.1 (by decide)⟩
    rw [hK]
    rcases hS with (hS | ⟨o, hS⟩) | hS
    · rcases hO a with z | ⟨o, xs, z⟩
      · rw [z] at hS; cases hS
      · rw [z] at hS; cases hS
    · exact .inl ⟨o, hS⟩
    · exact .inr hS
  · rw [rw_bl.mp r']
    exact hQ _
end

/-! ### the Hook: a fact of the written part, the defs -/
def obsF (ck : PySem.W.Frag → Bool) (fn : List He.DefD) (K : PySem.W.Frag) : He.AlD := (ck K && fn.all fun d => d.ok K, fn.map fun d => He.fnW K d.at_)
def SaysF (ck : PySem.W.Frag → Bool) (fn : List He.DefD) (K : PySem.W.Frag) : Prop := obsF ck fn K = He.valD fn
def obsFG (n : Nat) (ck : PySem.W.Frag → Bool) (fn : List He.DefD) (g : Addr → Option Obj) : He.AlD := obsF ck fn (He.frG g (He.asD g n))
def hookF (n : Nat) (ck : PySem.W.Frag → Bool) (fn : List He.DefD) : PySem.W.Hook where
  α := He.AlD
  obs := fun s => obsFG n ck fn s.heap.get?
  val := fun _ => He.valD fn
  says := fun _ h => ∃ K : PySem.W.Frag, K.In h ∧ SaysF ck fn K
  of := fun _ _ e => ⟨_, He.frG_in, e⟩
  keeps := fun _ _ _ ⟨K, hK, c⟩ k => ⟨K, PySem.W.Frag.In.keeps hK k, c⟩
theorem obsFG_eq {n : Nat} {ck : PySem.W.Frag → Bool} {fn : List He.DefD} {g : Addr → Option Obj} {s : Shared} (h : ∀ a, g a = s.heap.get? a) : obsFG n ck fn g = (hookF n ck fn).obs s := by
  have e : g = s.heap.get? := funext h
  rw [e] <;> rfl
theorem SaysF.ck {ck : PySem.W.Frag → Bool} {fn : List He.DefD} {K : PySem.W.Frag} (c : SaysF ck fn K) : ck K = true := (He.ba (show (ck K && fn.all fun d => d.ok K) = true from congrArg (fun z : He.AlD => z.1) c)).1
theorem SaysF.def_ {ck : PySem.W.Frag → Bool} {fn : List He.DefD} {K : PySem.W.Frag} (c : SaysF ck fn K) (i : Nat) {d : He.DefD} (h : fn[i]? = some d := by rfl) : ∃ fd, FunD K d.name d.qual d.params d.body d.scope (d.dvs K) (d.kws K) (He.fAd K d.at_) fd := by
  have c2 := (He.ba (show (ck K && fn.all fun d => d.ok K) = true from congrArg (fun z : He.AlD => z.1) c)).2
  have e : fn.map (fun d => He.fnW K d.at_) = fn.map He.DefD.val := congrArg (fun z : He.AlD => z.2) c
  have e2 : (fn.map fun d => He.fnW K d.at_)[i]? = (fn.map He.DefD.val)[i]? := by rw [e]
  rw [List.getElem?_map, List.getElem?_map, h] at e2
  exact He.DefD.funD (Option.some.inj e2) (List.all_eq_true.mp c2 d (List.mem_of_getElem? h))
/-! ### what the printed walk names -/
section
variable {c : Cn} {P : Program} {w : World} {K : PySem.W.Frag} {mg : Str → Option Value} {base : Heap} {k : Nat}
theorem go_fn {x : Str} {f : Addr} {n : Nat} {m : Fn} {dws : List W} (h : mg x = some (.ref f)) (F : ∀ j, CallN P w K mg base c k f n m (dws.drop j)) : GOk c P w K mg base k x (.fn n m dws) := ⟨f, h, F⟩
theorem go_int {x : Str} {i : Int} (h : ∃ t, mg x = some (.int i t)) : GOk c P w K mg base k x (.cst (.int i)) := by
  obtain ⟨t, h⟩ := h
  exact ⟨_, .int i, h, ⟨t, rfl⟩, fun g => rw_int.mpr rfl⟩
theorem go_str {x z : Str} (h : ∃ t, mg x = some (.str z t)) : GOk c P w K mg base k x (.cst (.str z)) := by
  obtain ⟨t, h⟩ := h
  exact ⟨_, .str z, h, ⟨t, rfl⟩, fun g => rw_str.mpr rfl⟩
/-- a constant tuple of ints and strings -/
def litB : W → Value → Bool
  | .int i, .int j _ => decide (i = j)
  | .str x, .str y _ => decide (x = y)
  | _, _ => false
def litsB : List W → List Value → Bool
  | [], [] => true
  | w :: ws, v :: vs => litB w v && litsB ws vs
  | _, _ => false
def tupB (K : PySem.W.Frag) (x : Str) (ws : List W) : Bool := match PySem.W.nsIn K mainGlobals x with
  | some (some (.ref a)) => (match K.lookup a with
    | some o => decide (o.cls = .type "tuple") && (o.dict.isNone && (match o.data with
      | .seq its _ => decide (ws.length ≤ 99) && litsB ws its.toList
      | _ => false))
    | none => false)
  | _ => false
theorem litsB_ok {c : Cn} : ∀ (ws : List W) (us : List Value), litsB ws us = true → us.length = ws.length ∧ ∃ vs, Vals vs us ∧ ∀ g, RWs c g ws vs
  | [], [], _ => ⟨rfl, [], by first | exact .nil | exact trivial | (unfold Vals; exact trivial), fun g => by unfold RWs; first | rfl | trivial⟩
  | w :: ws, u :: us, h => by
    unfold litsB at h
    obtain ⟨h1, h2⟩ := He.ba h
    obtain ⟨l, vs, r1, r2⟩ := litsB_ok ws us h2
    have : ∃ v, RelV v u ∧ ∀ g, RW c g w v := by
      unfold litB at h1
      split at h1
      · rename_i i j t
        have := of_decide_eq_true h1
        subst this
        exact ⟨.int i, ⟨t, rfl⟩, fun g => rw_int.mpr rfl⟩
      · rename_i i j t
        have := of_decide_eq_true h1
        subst this
        exact ⟨.str i, ⟨t, rfl⟩, fun g => rw_str.mpr rfl⟩
      · cases h1
    obtain ⟨v, q1, q2⟩ := this
    refine ⟨by simp [l], v :: vs, ?_, fun g => ?_⟩
    · exact .cons q1 r1
    · unfold RWs
      exact ⟨v, vs, rfl, q2 g, r2 g⟩
  | [], _ :: _, h => by cases h
  | _ :: _, [], h => by cases h
theorem go_tup {c : Cn} {h : Heap} (X : K.In h) (G : h.Ns mainGlobals mg) (hK : c.K = K) {x : Str} {ws : List W} (q : tupB K x ws = true) : GOk c P w K mg base k x (.cst (.tup ws)) := by
  unfold tupB at q
  split at q
  · rename_i a e
    split at q
    · rename_i o eo
      obtain ⟨q1, q⟩ := He.ba q
      obtain ⟨q2, q⟩ := He.ba q
      split at q
      · rename_i its n ed
        obtain ⟨q3, q4⟩ := He.ba q
        obtain ⟨l, vs, v1, v2⟩ := litsB_ok (c := c) ws its.toList q4
        have l3 := of_decide_eq_true q3
        have e2 := Option.isNone_iff_eq_none.mp q2
        have sz : (99 : Nat) ≤ sizeLine := by decide
        refine ⟨_, .ref a, PySem.W.mg_of X G e, rfl, fun g => rw_tup.mpr ⟨a, vs, rfl, .inr ?_, by omega, v2 g⟩⟩
        rw [hK]
        exact ⟨o, its, n, eo, of_decide_eq_true q1, ⟨e2, ed⟩, by rw [← Array.length_toList]; omega, v1⟩
      · cases q
    · cases q
  · cases q
theorem go_blt {x : Str} {b : Blt} (h : mg x = none) (e : x = b.nm) : GOk c P w K mg base k x (.blt b) := ⟨h, e⟩
theorem go_cls {cs : List Str} {x : Str} {mk : Mk'} (hx : x ∈ cs) (h : mg x = some (.ref (He.ga K x))) (M : MkOk (cnOf P w K cs) P w K mg base k x (He.ga K x) mk) : GOk (cnOf P w K cs) P w K mg base k x (.cls x mk) := ⟨He.ga K x, by unfold cnOf; exact if_pos hx, h, M⟩
def tabOf (l : List (Str × Fn)) (C : Str) : Option Fn := l.lookup C
theorem tab_nil {m : Str} {n : Nat} : TabOk P w K mg base c k m n (tabOf []) := fun C f e => by cases e
theorem tab_cons {cs : List Str} {m C : Str} {n nn : Nat} {m' : Fn} {dws : List W} {fA : Addr} {l : List (Str × Fn)} (M : Meth K (He.ga K C) m fA) (F : CallN P w K mg base (cnOf P w K cs) k fA nn m' dws) (hn : n + 1 + dws.length = nn) (hC : C = C)
    (h : TabOk P w K mg base (cnOf P w K cs) k m n (tabOf l)) : TabOk P w K mg base (cnOf P w K cs) k m n (tabOf ((C, fun ws S => m' (ws ++ dws) S) :: l)) := fun D f e cA hc => by
  unfold tabOf at e
  rw [List.lookup_cons] at e
  cases hb : D == C with
  | true =>
    rw [hb] at e
    cases e
    have := eq_of_beq hb
    subst this
    unfold cnOf at hc
    simp only at hc
    split at hc
    · cases hc
      exact ⟨fA, nn, m', dws, M, F, hn, rfl⟩
    · cases hc
  | false =>
    rw [hb] at e
    exact h D f e cA hc
theorem MeOk.one {m : Str} {n j : Nat} {tab : Str → Option Fn} (h : TabOk P w K mg base c j m n tab) (hj : j ≤ k) : TabOk P w K mg base c k (m, n, tab).1 (m, n, tab).2.1 (m, n, tab).2.2 := fun C f e cA hc => by
  obtain ⟨fA, nn, m', dws, h1, h2, h3⟩ := h C f e cA hc
  exact ⟨fA, nn, m', dws, h1, h2.mono hj, h3⟩
theorem bindJ_of {fd : FuncData} {ps : List Str} {dvs : List V} {l : Nat} (hl : dvs.length = l) (h : ∀ j, j ≤ l → ∃ ds, Vals (dvs.drop j) ds ∧ Binds K fd ps ds) : BindJ K fd ps dvs := fun j => by
  by_cases hj : j ≤ l
  · exact h j hj
  · rw [List.drop_eq_nil_of_le (by omega)]
    have := h l (Nat.le_refl l)
    rw [List.drop_eq_nil_of_le (by omega)] at this
    exact this
theorem funD_same {x qual : Str} {params : Arguments} {body : List Stmt} {scope : Scope} {dvs : List V} {kws : List (Str × V)} {f : Addr} {fd fd2 : FuncData} (a : FunD K x qual params body scope dvs kws f fd) (b : FunD K x qual params body scope dvs kws f fd2) : fd = fd2 := by
  obtain ⟨oc, od, dV, kV, doc, pm, an, cdv, ct, osl, _, lk, _⟩ := a.ex
  obtain ⟨oc, od, dV, kV, doc, pm, an, cdv, ct, osl, _, lk2, _⟩ := b.ex
  rw [lk] at lk2
  cases lk2
  rfl
end
/-- a law's end: F gives the written part, the function object, the promise over every base; the script's bits are told -/
theorem walk_ofS {l : PySem.W.OpenLaw} {k : Nat} {q : Program} {loose : List Str} {XP : (Str → Option Value) → Heap → Prop} {YP : World → Heap → Prop} {d : DefRec} {x : Str}
    (hn : l.most = some 63) (hdf : d.params.defaults = []) (hr : Room k callerA)
    (F : ∀ (w : World) (mg : Str → Option Value) (fa : Addr) (h : Heap), YP w h → h.Ns mainGlobals mg → mg d.name = some (.ref fa) →
      ∃ (K : PySem.W.Frag) (fd : FuncData), K.In h ∧ (∀ (s : Shared) (u : Value), BindsTo s fd ⟨[u], []⟩ [(x, u)]) ∧ ∀ base : Heap, K.In base → base.Ns mainGlobals mg → FnOk l.prog w K mg base CX0 k fa fd [x] (spLaw K)) :
    PySem.W.WalkO q loose XP YP l.row.toRowW d [] (fun f vs => PySem.call f vs) := by
  refine Att.attach_callB hn hdf fun w s₀ s₁ mg mb fa o pm cd doc a vs ns G Y ho hd hcd hmg hobj hints hlen hbits hg => ?_
  obtain ⟨K, fd, KX, hb, hF⟩ := F w mg fa _ Y G.T.g hmg
  refine law_call KX G.T.g G.T.b G.T.builtins G.T.nolimit hg hobj hints (Nat.le_trans hlen (by rw [sizeLine_eq]; decide)) hr hF hb (fun H hO hS => ⟨a, ns, rfl, hS, hO, ⟨hlen, fun z hz => ?_⟩, fun _ => rfl⟩) fun H e s' z => z
  exact Nat.lt_of_lt_of_le (PyProof.Rows.natAbs_lt_pow_bits z) (Nat.pow_le_pow_right (by decide) (hbits z hz))
end SB
/-! SB, part 17: evaluation by rewriting. -/
namespace SB
open PySem PySem.Spec PyProof.Rows L2

/-! ### what comes behind a part (so that rewriting stays out of what is not run yet) -/
def kBin (f : W → W → Hm → R W) (b : E) (σ : Sl) (x : W) (S : Hm) : R W := (b σ S).bind fun y S2 => f x y S2
def kNot (b : Bool) (S : Hm) : R W := .ok (.bl (!b)) S
def kAnd (b : E) (σ : Sl) (c : Bool) (S : Hm) : R W := if c = true then b σ S else .ok (.bl false) S
def kOr (b : E) (σ : Sl) (c : Bool) (S : Hm) : R W := if c = true then .ok (.bl true) S else b σ S
def kCh3 (g : W → W → Hm → R W) (c : E) (σ : Sl) (y : W) (k : Bool) (S : Hm) : R W := if k = true then (c σ S).bind fun w S5 => g y w S5 else .ok (.bl false) S
def kCh1 (f g : W → W → Hm → R W) (b c : E) (σ : Sl) (x : W) (S : Hm) : R W := (b σ S).bind fun y S2 => (f x y S2).bind fun z S3 => (tBool z S3).bind (kCh3 g c σ y)
def kCh2 (f g : W → W → Hm → R W) (c : E) (σ : Sl) (x y : W) (S : Hm) : R W := (f x y S).bind fun z S3 => (tBool z S3).bind (kCh3 g c σ y)
def kChz (g : W → W → Hm → R W) (c : E) (σ : Sl) (y z : W) (S : Hm) : R W := (tBool z S).bind (kCh3 g c σ y)
def kIf (a b : E) (σ : Sl) (c : Bool) (S : Hm) : R W := if c = true then a σ S else b σ S
def kTup (xs : List W) (S : Hm) : R W := if xs.length ≤ sizeLine then .ok (.tup xs) S else .stuck
def kFrz (xs : List W) (S : Hm) : R W := .ok (.fl xs) S
def kHeap (xs : List W) (S : Hm) : R W := .ok (.ref S.length) (S ++ [some (.lst xs)])
def kFld (f : Str) (x : W) (S : Hm) : R W := opt (fldOf S f x) S
def kDisp (xs : List W) (S : Hm) : R (List W) := if xs.length ≤ sizeLine then .ok xs S else .stuck
def kTNot (b : Bool) (S : Hm) : R Bool := .ok (!b) S
def kTAnd (b : T) (σ : Sl) (c : Bool) (S : Hm) : R Bool := if c = true then b σ S else .ok false S
def kTOr (b : T) (σ : Sl) (c : Bool) (S : Hm) : R Bool := if c = true then .ok true S else b σ S
def kCons (r : As) (σ : Sl) (x : W) (S : Hm) : R (List W) := (r σ S).bind fun xs S2 => .ok (x :: xs) S2
def kCons2 (x : W) (xs : List W) (S : Hm) : R (List W) := .ok (x :: xs) S
def kSeq (b : St') (f : Fl) (S : Hm) : R Fl := match f with
  | .nx σ => b σ S
  | f => .ok f S
def kNx (σ : Sl) (S : Hm) : R Fl := .ok (.nx σ) S
def kAsg (t : Tg) (σ : Sl) (w : W) (S : Hm) : R Fl := (t w σ S).bind kNx
def kPar (i j : Nat) (b : E) (σ : Sl) (x : W) (S : Hm) : R Fl := (b σ S).bind fun y S2 => .ok (.nx ((σ.set i (some (.val x))).set j (some (.val y)))) S2
def kPar2 (i j : Nat) (σ : Sl) (x y : W) (S : Hm) : R Fl := .ok (.nx ((σ.set i (some (.val x))).set j (some (.val y)))) S
def kExpr (σ : Sl) (w : W) (S : Hm) : R Fl := .ok (.nx σ) S
def kRet (w : W) (S : Hm) : R Fl := .ok (.rt w) S
def kSIf (a b : St') (σ : Sl) (c : Bool) (S : Hm) : R Fl := if c = true then a σ S else b σ S
def kDef (f : Fl) (S : Hm) : R W := match f with
  | .rt w => .ok w S
  | .nx _ => .ok .non S
  | _ => .stuck
def kCallD (f : Fn) (dws : List W) (xs : List W) (S : Hm) : R W := f (xs ++ dws) S
def kOwn (σ : Sl) (i : Nat) (xs : List W) (S : Hm) : R Fl := .ok (.nx (σ.set i (some (.own (.lst xs))))) S
def kApp (σ : Sl) (i : Nat) (w : W) (S : Hm) : R Fl := match getOwn σ i with
  | some (.lst xs) => if xs.length < sizeLine then .ok (.nx (σ.set i (some (.own (.lst (xs ++ [w])))))) S else .stuck
  | _ => .stuck
def kIsi (ns : List Ty) (x : W) (S : Hm) : R W := match tyW S x with
  | some t => .ok (.bl (ns.any fun n => isTy t n)) S
  | none => .stuck
def kBm (f : W → List W → Hm → R W) (a : As) (σ : Sl) (x : W) (S : Hm) : R W := match lstOf S x with
  | some _ => (a σ S).bind fun ws S2 => f x ws S2
  | none => .stuck
def kMeth (m : Str) (tab : Str → Option Fn) (a : As) (σ : Sl) (x : W) (S : Hm) : R W := match clsOf S x with
  | some C => (match tab C with
    | some f => if (keysAt S x).contains m = true then .stuck else (a σ S).bind fun xs S2 => f (x :: xs) S2
    | none => .stuck)
  | none => .stuck
def kMth2 (f : Fn) (x : W) (xs : List W) (S : Hm) : R W := f (x :: xs) S
def kMk (C : Str) (f : Fi) (dws : List W) (xs : List W) (S : Hm) : R W := (f (xs ++ dws) S).bind fun r S2 => .ok (.obj C r.1 r.2) S2
def kMk2 (C : Str) (r : List Str × List W) (S : Hm) : R W := .ok (.obj C r.1 r.2) S
def kSetF (i : Nat) (f : Str) (σ : Sl) (w : W) (S1 : Hm) : R Fl := match σ[i]? with
  | some (some (.own (.ins C ks vs))) => if ks.length < 1000 then .ok (.nx (σ.set i (some (.own (.ins C (putKV f w ks vs).1 (putKV f w ks vs).2))))) S1 else .stuck
  | some (some (.val (.ref a))) => (match heapAt S1 a with
    | some (.ins C ks vs) => if ks.length < 1000 then .ok (.nx σ) (S1.set a (some (.ins C (putKV f w ks vs).1 (putKV f w ks vs).2))) else .stuck
    | _ => .stuck)
  | _ => .stuck
def kInit (C : Str) (f : Fl) (S : Hm) : R (List Str × List W) := match f with
  | .nx σ => (match slotAt σ 0 with
    | some (.own (.ins D ks vs)) => if D = C then .ok (ks, vs) S else .stuck
    | _ => .stuck)
  | _ => .stuck
def kCat (b : E) (σ : Sl) (x : W) (S : Hm) : R (List W) := (b σ S).bind fun y S2 => match lstOf S2 x with
  | some xs => (match lstOf S2 y with
    | some ys => if xs.length + ys.length ≤ sizeLine then .ok (xs ++ ys) S2 else .stuck
    | none => .stuck)
  | none => .stuck
def kCat2 (x y : W) (S : Hm) : R (List W) := match lstOf S x with
  | some xs => (match lstOf S y with
    | some ys => if xs.length + ys.length ≤ sizeLine then .ok (xs ++ ys) S else .stuck
    | none => .stuck)
  | none => .stuck
def kSl1 (lo hi : P') (σ : Sl) (x : W) (S : Hm) : R (List W) := (lo σ S).bind fun l S2 => (hi σ S2).bind fun h S3 => match cutSrc S3 x with
  | some xs => .ok (cutG xs l h) S3
  | none => .stuck
def kSl2 (hi : P') (σ : Sl) (x : W) (l : Option Int) (S : Hm) : R (List W) := (hi σ S).bind fun h S3 => match cutSrc S3 x with
  | some xs => .ok (cutG xs l h) S3
  | none => .stuck
def kSl3 (x : W) (l h : Option Int) (S : Hm) : R (List W) := match cutSrc S x with
  | some xs => .ok (cutG xs l h) S
  | none => .stuck
def kPart (w : W) (S : Hm) : R (Option Int) := match w with
  | .int i => .ok (some i) S
  | _ => .stuck
def kFor (tg : Tg) (body : St') (σ : Sl) (i : Itr') (S : Hm) : R Fl := match i with
  | .seq xs => forL tg body xs σ S
  | .dyn at_ => forR tg body at_ bigN 0 σ S
def kComp (vs : List Nat) (tg : Tg) (cd : T) (el : E) (σ : Sl) (i : Itr') (S : Hm) : R (List W) := match i with
  | .seq xs => if xs.length ≤ sizeLine then compL tg cd el xs (wipeM σ vs) S else .stuck
  | .dyn at_ => compR tg cd el at_ bigN 0 (wipeM σ vs) S
def kIt (x : W) (S : Hm) : R Itr' := match srcOf S x with
  | some (.fz xs) => .ok (.seq xs) S
  | some (.rf p) => .ok (.dyn fun S i => (srcL S (.rf p)).map fun xs => xs[i]?) S
  | none => (match x with
    | .str z => .ok (.seq (sgnL z)) S
    | .byt b => .ok (.seq (bytL b)) S
    | _ => .stuck)
def kEn (x : W) (S : Hm) : R Itr' := match srcOf S x with
  | some (.fz xs) => .ok (.seq (enumL 0 xs)) S
  | some (.rf p) => .ok (.dyn fun S i => (srcL S (.rf p)).bind fun xs => match xs[i]? with
    | some x => some (some (.tup [.int i, x]))
    | none => if xs.length = i then some none else none) S
  | none => .stuck
def kZp2 (x y : W) (S2 : Hm) : R Itr' := match srcOf S2 x with
  | some (.fz xs) => (match srcOf S2 y with
    | some (.fz ys) => .ok (.seq (zipL xs ys)) S2
    | some (.rf q) => .ok (.dyn fun S i => (srcL S (.rf q)).bind fun ys => iZip.zipAt xs ys i) S2
    | none => .stuck)
  | some (.rf p) => (match srcOf S2 y with
    | some s => .ok (.dyn fun S i => (srcL S (.rf p)).bind fun xs => (srcL S s).bind fun ys => iZip.zipAt xs ys i) S2
    | none => .stuck)
  | none => .stuck
def kZp (b : E) (σ : Sl) (x : W) (S : Hm) : R Itr' := (b σ S).bind (kZp2 x)
def kRg1 (x : W) (S : Hm) : R Itr' := match x with
  | .int j => if rangeOk j = true then .ok (.seq (rangeL 0 j.toNat)) S else .stuck
  | _ => .stuck
def kRg2 (x y : W) (S : Hm) : R Itr' := match x, y with
  | .int i, .int j => if (rangeOk i && rangeOk j) = true then .ok (.seq (rangeL i (j - i).toNat)) S else .stuck
  | _, _ => .stuck
def kRg (b : E) (σ : Sl) (x : W) (S : Hm) : R Itr' := (b σ S).bind (kRg2 x)
def kP3c (i j l : Nat) (σ : Sl) (x y z : W) (S : Hm) : R Fl := .ok (.nx (((σ.set i (some (.val x))).set j (some (.val y))).set l (some (.val z)))) S
def kP3b (i j l : Nat) (d : E) (σ : Sl) (x y : W) (S : Hm) : R Fl := (d σ S).bind (kP3c i j l σ x y)
def kP3a (i j l : Nat) (b d : E) (σ : Sl) (x : W) (S : Hm) : R Fl := (b σ S).bind (kP3b i j l d σ x)
def kST3 (x : W) (l h : Option Int) (S : Hm) : R W := match x with
  | .tup xs => .ok (.tup (cutG xs l h)) S
  | _ => .stuck
def kST2 (hi : P') (σ : Sl) (x : W) (l : Option Int) (S : Hm) : R W := (hi σ S).bind (kST3 x l)
def kST1 (lo hi : P') (σ : Sl) (x : W) (S : Hm) : R W := (lo σ S).bind (kST2 hi σ x)
section
variable {α : Type} {σ : Sl} {S : Hm} {a b c : E} {f g : W → W → Hm → R W} {t u : T} {as : As} {w x y : W} {xs : List W} {m n : St'} {i j : Nat}
@[simp] theorem ev_var : eVar i σ S = opt (getSlot σ i) S := (rfl)
@[simp] theorem ev_c : eC w σ S = .ok w S := (rfl)
@[simp] theorem ev_bin : eBin f a b σ S = (a σ S).bind (kBin f b σ) := (rfl)
@[simp] theorem ev_bin1 : kBin f b σ x S = (b σ S).bind (f x) := (rfl)
@[simp] theorem ev_un {h : W → Hm → R W} : eUn h a σ S = (a σ S).bind h := (rfl)
@[simp] theorem ev_tbool {k : Bool} : tBool (.bl k) S = .ok k S := (rfl)
@[simp] theorem ev_tval : tVal a σ S = (a σ S).bind tBool := (rfl)
@[simp] theorem ev_not : eNot a σ S = (tVal a σ S).bind kNot := (rfl)
@[simp] theorem ev_not1 {k : Bool} : kNot k S = .ok (.bl (!k)) S := (rfl)
@[simp] theorem ev_and : eAnd a b σ S = (tVal a σ S).bind (kAnd b σ) := (rfl)
@[simp] theorem ev_andt : kAnd b σ true S = b σ S := (rfl)
@[simp] theorem ev_andf : kAnd b σ false S = .ok (.bl false) S := (rfl)
@[simp] theorem ev_or : eOr a b σ S = (tVal a σ S).bind (kOr b σ) := (rfl)
@[simp] theorem ev_ort : kOr b σ true S = .ok (.bl true) S := (rfl)
@[simp] theorem ev_orf : kOr b σ false S = b σ S := (rfl)
@[simp] theorem ev_chain : eChain f g a b c σ S = (a σ S).bind (kCh1 f g b c σ) := (rfl)
@[simp] theorem ev_ch1 : kCh1 f g b c σ x S = (b σ S).bind (kCh2 f g c σ x) := (rfl)
@[simp] theorem ev_ch2 : kCh2 f g c σ x y S = (f x y S).bind (kChz g c σ y) := (rfl)
@[simp] theorem ev_chz {k : Bool} : kChz g c σ y (.bl k) S = kCh3 g c σ y k S := (rfl)
@[simp] theorem ev_ch3t : kCh3 g c σ y true S = (c σ S).bind (g y) := (rfl)
@[simp] theorem ev_ch3f : kCh3 g c σ y false S = .ok (.bl false) S := (rfl)
@[simp] theorem ev_if : eIf t a b σ S = (t σ S).bind (kIf a b σ) := (rfl)
@[simp] theorem ev_ift : kIf a b σ true S = a σ S := (rfl)
@[simp] theorem ev_iff : kIf a b σ false S = b σ S := (rfl)
@[simp] theorem ev_tnot : tNot t σ S = (t σ S).bind kTNot := (rfl)
@[simp] theorem ev_tnot1 {k : Bool} : kTNot k S = .ok (!k) S := (rfl)
@[simp] theorem ev_tand : tAnd t u σ S = (t σ S).bind (kTAnd u σ) := (rfl)
@[simp] theorem ev_tandt : kTAnd u σ true S = u σ S := (rfl)
@[simp] theorem ev_tandf : kTAnd u σ false S = .ok false S := (rfl)
@[simp] theorem ev_tor : tOr t u σ S = (t σ S).bind (kTOr u σ) := (rfl)
@[simp] theorem ev_tort : kTOr u σ true S = .ok true S := (rfl)
@[simp] theorem ev_torf : kTOr u σ false S = u σ S := (rfl)
@[simp] theorem ev_tyes : tYes σ S = .ok true S := (rfl)
@[simp] theorem ev_nil : aNil σ S = .ok [] S := (rfl)
@[simp] theorem ev_cons : aCons a as σ S = (a σ S).bind (kCons as σ) := (rfl)
@[simp] theorem ev_cons1 : kCons as σ x S = (as σ S).bind (kCons2 x) := (rfl)
@[simp] theorem ev_cons2 : kCons2 x xs S = .ok (x :: xs) S := (rfl)
@[simp] theorem ev_tup : eTup as σ S = (as σ S).bind kTup := (rfl)
@[simp] theorem ev_call {h : Fn} : eCall h as σ S = (as σ S).bind h := (rfl)
@[simp] theorem ev_calld {h : Fn} {ds : List W} : eCallD h ds as σ S = (as σ S).bind (kCallD h ds) := (rfl)
@[simp] theorem ev_calld1 {h : Fn} {ds : List W} : kCallD h ds xs S = h (xs ++ ds) S := (rfl)
@[simp] theorem ev_fld {z : Str} : eFld a z σ S = (a σ S).bind (kFld z) := (rfl)
@[simp] theorem ev_fld1 {z : Str} : kFld z x S = opt (fldOf S z x) S := (rfl)
@[simp] theorem ev_disp : lDisp as σ S = (as σ S).bind kDisp := (rfl)
@[simp] theorem ev_frz {l : L} : eFrz l σ S = (l σ S).bind kFrz := (rfl)
@[simp] theorem ev_frz1 : kFrz xs S = .ok (.fl xs) S := (rfl)
@[simp] theorem ev_heap {l : L} : eHeap l σ S = (l σ S).bind kHeap := (rfl)
@[simp] theorem ev_heap1 : kHeap xs S = .ok (.ref S.length) (S ++ [some (.lst xs)]) := (rfl)
@[simp] theorem ev_lcall {h : List W → Hm → R (List W)} : lCall h as σ S = (as σ S).bind h := (rfl)
@[simp] theorem ev_tgname : tgName i w σ S = .ok (σ.set i (some (.val w))) S := (rfl)
@[simp] theorem ev_snil : sNil σ S = .ok (.nx σ) S := (rfl)
@[simp] theorem ev_seq : sSeq m n σ S = (m σ S).bind (kSeq n) := (rfl)
@[simp] theorem ev_seqn : kSeq n (.nx σ) S = n σ S := (rfl)
@[simp] theorem ev_seqr : kSeq n (.rt w) S = .ok (.rt w) S := (rfl)
@[simp] theorem ev_seqb : kSeq n (.bk σ) S = .ok (.bk σ) S := (rfl)
@[simp] theorem ev_seqc : kSeq n (.ct σ) S = .ok (.ct σ) S := (rfl)
@[simp] theorem ev_asg {tg : Tg} : sAsg tg a σ S = (a σ S).bind (kAsg tg σ) := (rfl)
@[simp] theorem ev_asg1 {tg : Tg} : kAsg tg σ w S = (tg w σ S).bind kNx := (rfl)
@[simp] theorem ev_nx : kNx σ S = .ok (.nx σ) S := (rfl)
@[simp] theorem ev_par : sPar i j a b σ S = (a σ S).bind (kPar i j b σ) := (rfl)
@[simp] theorem ev_par1 : kPar i j b σ x S = (b σ S).bind (kPar2 i j σ x) := (rfl)
@[simp] theorem ev_par2 : kPar2 i j σ x y S = .ok (.nx ((σ.set i (some (.val x))).set j (some (.val y)))) S := (rfl)
@[simp] theorem ev_par3 {l : Nat} : sPar3 i j l a b c σ S = (a σ S).bind (kP3a i j l b c σ) := (rfl)
@[simp] theorem ev_par3a {l : Nat} : kP3a i j l b c σ x S = (b σ S).bind (kP3b i j l c σ x) := (rfl)
@[simp] theorem ev_par3b {l : Nat} : kP3b i j l c σ x y S = (c σ S).bind (kP3c i j l σ x y) := (rfl)
@[simp] theorem ev_par3c {l : Nat} {z : W} : kP3c i j l σ x y z S = .ok (.nx (((σ.set i (some (.val x))).set j (some (.val y))).set l (some (.val z)))) S := (rfl)
@[simp] theorem ev_slt {lo hi : P'} : eSliceT a lo hi σ S = (a σ S).bind (kST1 lo hi σ) := (rfl)
@[simp] theorem ev_slt1 {lo hi : P'} : kST1 lo hi σ x S = (lo σ S).bind (kST2 hi σ x) := (rfl)
@[simp] theorem ev_slt2 {hi : P'} {l : Option Int} : kST2 hi σ x l S = (hi σ S).bind (kST3 x l) := (rfl)
@[simp] theorem ev_slt3 {l h : Option Int} : kST3 (.tup xs) l h S = .ok (.tup (cutG xs l h)) S := (rfl)
@[simp] theorem ev_expr : sExpr a σ S = (a σ S).bind (kExpr σ) := (rfl)
@[simp] theorem ev_expr1 : kExpr σ w S = .ok (.nx σ) S := (rfl)
@[simp] theorem ev_ret : sRet a σ S = (a σ S).bind kRet := (rfl)
@[simp] theorem ev_ret1 : kRet w S = .ok (.rt w) S := (rfl)
@[simp] theorem ev_sif : sIf t m n σ S = (t σ S).bind (kSIf m n σ) := (rfl)
@[simp] theorem ev_sift : kSIf m n σ true S = m σ S := (rfl)
@[simp] theorem ev_siff : kSIf m n σ false S = n σ S := (rfl)
@[simp] theorem ev_never : sNever σ S = .stuck := (rfl)
@[simp] theorem ev_break : sBreak σ S = .ok (.bk σ) S := (rfl)
@[simp] theorem ev_cont : sCont σ S = .ok (.ct σ) S := (rfl)
@[simp] theorem ev_own {l : L} : sOwn i l σ S = (l σ S).bind (kOwn σ i) := (rfl)
@[simp] theorem ev_own1 : kOwn σ i xs S = .ok (.nx (σ.set i (some (.own (.lst xs))))) S := (rfl)
@[simp] theorem ev_app : sApp i a σ S = (a σ S).bind (kApp σ i) := (rfl)
@[simp] theorem ev_isi {ns : List Ty} : eIsi ns a σ S = (a σ S).bind (kIsi ns) := (rfl)
@[simp] theorem ev_bm {h : W → List W → Hm → R W} : eBm h a as σ S = (a σ S).bind (kBm h as σ) := (rfl)
@[simp] theorem ev_meth {z : Str} {tab : Str → Option Fn} : eMeth z tab a as σ S = (a σ S).bind (kMeth z tab as σ) := (rfl)
@[simp] theorem ev_mk {C : Str} {h : Fi} {ds : List W} : eMk C h ds as σ S = (as σ S).bind (kMk C h ds) := (rfl)
@[simp] theorem ev_mk1 {C : Str} {h : Fi} {ds : List W} : kMk C h ds xs S = (h (xs ++ ds) S).bind (kMk2 C) := (rfl)
@[simp] theorem ev_mk2 {C : Str} {r : List Str × List W} : kMk2 C r S = .ok (.obj C r.1 r.2) S := (rfl)
@[simp] theorem ev_setf {z : Str} : sSetF i z a σ S = (a σ S).bind (kSetF i z σ) := (rfl)
@[simp] theorem ev_cat : lCat a b σ S = (a σ S).bind (kCat b σ) := (rfl)
@[simp] theorem ev_cat1 : kCat b σ x S = (b σ S).bind (kCat2 x) := (rfl)
@[simp] theorem ev_slice {lo hi : P'} : lSlice a lo hi σ S = (a σ S).bind (kSl1 lo hi σ) := (rfl)
@[simp] theorem ev_slice1 {lo hi : P'} : kSl1 lo hi σ x S = (lo σ S).bind (kSl2 hi σ x) := (rfl)
@[simp] theorem ev_slice2 {hi : P'} {l : Option Int} : kSl2 hi σ x l S = (hi σ S).bind (kSl3 x l) := (rfl)
@[simp] theorem ev_pnone : pNone σ S = .ok none S := (rfl)
@[simp] theorem ev_psome : pSome a σ S = (a σ S).bind kPart := (rfl)
@[simp] theorem ev_part {k : Int} : kPart (.int k) S = .ok (some k) S := (rfl)
@[simp] theorem ev_for {tg : Tg} {it : I} : sFor tg it m σ S = (it σ S).bind (kFor tg m σ) := (rfl)
@[simp] theorem ev_for1 {tg : Tg} : kFor tg m σ (.seq xs) S = forL tg m xs σ S := (rfl)
@[simp] theorem ev_for2 {tg : Tg} {q : Hm → Nat → Option (Option W)} : kFor tg m σ (.dyn q) S = forR tg m q bigN 0 σ S := (rfl)
@[simp] theorem ev_comp {vs : List Nat} {tg : Tg} {it : I} : lComp vs tg it t a σ S = (it σ S).bind (kComp vs tg t a σ) := (rfl)
@[simp] theorem ev_comp1 {vs : List Nat} {tg : Tg} : kComp vs tg t a σ (.seq xs) S = if xs.length ≤ sizeLine then compL tg t a xs (wipeM σ vs) S else .stuck := (rfl)
@[simp] theorem ev_comp2 {vs : List Nat} {tg : Tg} {q : Hm → Nat → Option (Option W)} : kComp vs tg t a σ (.dyn q) S = compR tg t a q bigN 0 (wipeM σ vs) S := (rfl)
@[simp] theorem ev_ival : iVal a σ S = (a σ S).bind kIt := (rfl)
@[simp] theorem kIt_str {z : Str} : kIt (.str z) S = .ok (.seq (sgnL z)) S := (rfl)
@[simp] theorem kIt_byt {b : Array UInt8} : kIt (.byt b) S = .ok (.seq (bytL b)) S := (rfl)
@[simp] theorem ev_ienum : iEnum a σ S = (a σ S).bind kEn := (rfl)
@[simp] theorem ev_izip : iZip a b σ S = (a σ S).bind (kZp b σ) := (rfl)
@[simp] theorem ev_izip1 : kZp b σ x S = (b σ S).bind (kZp2 x) := (rfl)
@[simp] theorem ev_rg1 : iRange1 a σ S = (a σ S).bind kRg1 := (rfl)
@[simp] theorem ev_rg2 : iRange2 a b σ S = (a σ S).bind (kRg b σ) := (rfl)
@[simp] theorem ev_rg21 : kRg b σ x S = (b σ S).bind (kRg2 x) := (rfl)
@[simp] theorem ev_while : sWhile t m σ S = whileN t m hugeN σ S := (rfl)
theorem ev_def {k : Nat} : runDef k m xs S = (m (startM k xs) S).bind kDef := (rfl)
@[simp] theorem ev_def1 : kDef (.rt w) S = .ok w S := (rfl)
@[simp] theorem ev_def2 : kDef (.nx σ) S = .ok .non S := (rfl)
theorem ev_init {k : Nat} {C : Str} : runInit k C m xs S = (m (some (.own (.ins C [] [])) :: startM (k - 1) xs) S).bind (kInit C) := (rfl)
theorem ev_frzG : sFrz i σ S = match getOwn σ i with
  | some (.lst xs) => .ok (.nx (σ.set i (some (.val (.fl xs))))) S
  | _ => .stuck := rfl
/-! ### values -/
variable {p q : Int}
@[simp] theorem o_add : fAdd (.int p) (.int q) S = .ok (.int (p + q)) S := (rfl)
@[simp] theorem o_sub : fSub (.int p) (.int q) S = .ok (.int (p - q)) S := (rfl)
theorem o_mul : fMul (.int p) (.int q) S = if mulOk p q = true then .ok (.int (p * q)) S else .stuck := (rfl)
theorem o_div : fDiv (.int p) (.int q) S = if q ≠ 0 ∧ q.natAbs.log2 < 9000 then .ok (.int (p.fdiv q)) S else .stuck := (rfl)
theorem o_mod : fMod (.int p) (.int q) S = if q ≠ 0 then .ok (.int (p.fmod q)) S else .stuck := (rfl)
@[simp] theorem o_neg : fNeg (.int p) S = .ok (.int (-p)) S := (rfl)
@[simp] theorem o_lt : fLtT (.int p) (.int q) S = .ok (.bl (decide (p < q))) S := (rfl)
@[simp] theorem o_le : fLe (.int p) (.int q) S = .ok (.bl (decide (p ≤ q))) S := (rfl)
@[simp] theorem o_gt : fGt (.int p) (.int q) S = .ok (.bl (decide (q < p))) S := (rfl)
@[simp] theorem o_ge : fGe (.int p) (.int q) S = .ok (.bl (decide (q ≤ p))) S := (rfl)
@[simp] theorem o_eqi : fEq (.int p) (.int q) S = .ok (.bl (decide (p = q))) S := (rfl)
@[simp] theorem o_nei : fNe (.int p) (.int q) S = .ok (.bl (!decide (p = q))) S := (rfl)
@[simp] theorem o_isn : fIsN x .non S = .ok (.bl (isNon x)) S := (rfl)
@[simp] theorem o_notn : fNotN x .non S = .ok (.bl (!isNon x)) S := (rfl)
@[simp] theorem o_non : isNon .non = true := (rfl)
@[simp] theorem o_nonI : isNon (.int p) = false := (rfl)
@[simp] theorem o_nonT : isNon (.tup xs) = false := (rfl)
@[simp] theorem o_idxT : fIdx (.tup xs) (.int p) S = opt (atI xs p) S := (rfl)
@[simp] theorem o_idxF : fIdx (.fl xs) (.int p) S = opt (atI xs p) S := (rfl)
@[simp] theorem o_abs : fAbs [.int p] S = .ok (.int (if p < 0 then -p else p)) S := (rfl)
@[simp] theorem o_int : fInt [.int p] S = .ok (.int p) S := (rfl)
@[simp] theorem o_lenT : fLen [.tup xs] S = .ok (.int xs.length) S := (rfl)
@[simp] theorem o_lenF : fLen [.fl xs] S = .ok (.int xs.length) S := (rfl)
@[simp] theorem o_at0 : atI (x :: xs) 0 = some x := by unfold atI ixN; simp
@[simp] theorem o_at1 : atI (x :: y :: xs) 1 = some y := by
  unfold atI ixN
  rw [if_pos (by decide), if_pos (by simp only [List.length_cons]; omega)]
  rfl
@[simp] theorem o_isiI {ns : List Ty} : kIsi ns (.int p) S = .ok (.bl (ns.any fun n => isTy (.b "int") n)) S := (rfl)
@[simp] theorem o_isiT {ns : List Ty} : kIsi ns (.tup xs) S = .ok (.bl (ns.any fun n => isTy (.b "tuple") n)) S := (rfl)
@[simp] theorem o_isiF {ns : List Ty} : kIsi ns (.fl xs) S = .ok (.bl (ns.any fun n => isTy (.b "list") n)) S := (rfl)
@[simp] theorem o_lstF : lstOf S (.fl xs) = some xs := (rfl)
@[simp] theorem o_seqF : seqOf S (.fl xs) = some xs := (rfl)
@[simp] theorem o_seqT : seqOf S (.tup xs) = some xs := (rfl)
end
theorem mulOk_of {p q : Int} {a b : Nat} (ha : p.natAbs < 2 ^ a) (hb : q.natAbs < 2 ^ b) (h : a + b ≤ 100000000) : mulOk p q = true := by
  unfold mulOk
  refine decide_eq_true ?_
  have la : ∀ {n k : Nat}, n < 2 ^ k → n.log2 ≤ k := fun {n k} h => by
    by_cases h0 : n = 0
    · subst h0; simp
    · exact Nat.le_of_lt ((Nat.log2_lt h0).mpr h)
  by_cases h0 : a + b = 100000000
  · by_cases hp : p.natAbs = 0
    · rw [hp]
      have := la hb
      simp only [Nat.log2_zero]
      by_cases ha0 : a = 0
      · subst ha0
        by_cases hq : q.natAbs = 0
        · rw [hq]; simp
        · have := (Nat.log2_lt hq).mpr hb
          omega
      · omega
    · have h1 := (Nat.log2_lt hp).mpr ha
      have h2 := la hb
      omega
  · have h1 := la ha
    have h2 := la hb
    omega
theorem kTup_of {xs : List W} {S : Hm} (h : xs.length ≤ sizeLine) : kTup xs S = .ok (.tup xs) S := if_pos h
theorem kDisp_of {xs : List W} {S : Hm} (h : xs.length ≤ sizeLine) : kDisp xs S = .ok xs S := if_pos h
theorem sz_of {n : Nat} (h : n ≤ 16777216) : n ≤ sizeLine := by rw [sizeLine_eq]; exact h
@[simp] theorem kTup1 {a : W} {S : Hm} : kTup [a] S = .ok (.tup [a]) S := kTup_of (sz_of (by simp))
@[simp] theorem kTup2 {a b : W} {S : Hm} : kTup [a, b] S = .ok (.tup [a, b]) S := kTup_of (sz_of (by simp))
@[simp] theorem kTup3 {a b c : W} {S : Hm} : kTup [a, b, c] S = .ok (.tup [a, b, c]) S := kTup_of (sz_of (by simp))
@[simp] theorem kDisp0 {S : Hm} : kDisp [] S = .ok [] S := kDisp_of (Nat.zero_le _)
@[simp] theorem kDisp1 {a : W} {S : Hm} : kDisp [a] S = .ok [a] S := kDisp_of (sz_of (by simp))
theorem atI_natS {α : Type} {xs : List α} {k : Nat} : atI xs (k : Int) = xs[k]? := by
  unfold atI ixN
  rw [if_pos (Int.natCast_nonneg k)]
  by_cases h : k < xs.length
  · rw [if_pos (by omega)]
    simp
  · rw [if_neg (by omega), List.getElem?_eq_none (by omega)]
    rfl
theorem atI_last {α : Type} {xs : List α} {x : α} : atI (xs ++ [x]) (-1) = some x := by
  unfold atI ixN
  rw [if_neg (by decide), if_pos (by simp only [List.length_append, List.length_singleton]; omega)]
  have : ((-1 : Int) + ((xs ++ [x]).length : Int)).toNat = xs.length := by simp only [List.length_append, List.length_singleton]; omega
  show (xs ++ [x])[((-1 : Int) + ((xs ++ [x]).length : Int)).toNat]? = _
  rw [this]
  simp
end SB
/-! SB, part 18: Euclid's loop, fractions as pairs. -/
namespace SB
open PySem PySem.Spec PyProof.Rows L2

theorem getSlot_set {σ : Sl} {i : Nat} {w v : W} (h : getSlot σ i = some w) : getSlot (σ.set i (some (.val v))) i = some v := by
  unfold getSlot at h ⊢
  split at h
  · rename_i q
    rw [List.getElem?_set_self (List.getElem?_eq_some_iff.mp q).1]
  · cases h
theorem getSlot_set_ne {σ : Sl} {i j : Nat} {x : Option Sv} (h : i ≠ j) : getSlot (σ.set i x) j = getSlot σ j := by
  unfold getSlot
  rw [List.getElem?_set_ne h]
theorem set_same {σ : Sl} {i : Nat} {w : W} (h : getSlot σ i = some w) : σ.set i (some (.val w)) = σ := by
  unfold getSlot at h
  split at h
  · rename_i q
    cases h
    apply List.ext_getElem?
    intro j
    rw [List.getElem?_set]
    by_cases hj : i = j
    · subst hj
      rw [if_pos rfl, q, if_pos (List.getElem?_eq_some_iff.mp q).1]
    · rw [if_neg hj]
  · cases h
def gcdBody (i j : Nat) : St' := sSeq (sPar i j (eVar j) (eBin fMod (eCall fInt (aCons (eVar i) aNil)) (eVar j))) sNil
theorem gcd_turn {σ : Sl} {S : Hm} {i j : Nat} {a b : Nat} (hi : getSlot σ i = some (.int a)) (hj : getSlot σ j = some (.int b)) (hb : b ≠ 0) :
    gcdBody i j σ S = .ok (.nx ((σ.set i (some (.val (.int b)))).set j (some (.val (.int (a % b : Nat)))))) S := by
  unfold gcdBody
  simp only [ev_seq, ev_par, ev_var, hj, opt_some, R.bind_ok, ev_par1, ev_bin, ev_call, ev_cons, hi, ev_cons1, ev_nil, ev_cons2, o_int, ev_bin1]
  rw [o_mod, if_pos (by omega), Int.fmod_eq_emod_of_nonneg _ (by omega)]
  rfl
theorem gcd_loop {t : T} {i j : Nat} (hij : i ≠ j) (ht : ∀ σ S (b : Nat), getSlot σ j = some (.int b) → t σ S = .ok (decide (b ≠ 0)) S) (S : Hm) : ∀ (k fuel a b : Nat) (σ : Sl), b < 2 ^ k → 2 * k + 1 ≤ fuel → getSlot σ i = some (.int a) → getSlot σ j = some (.int b) →
    whileN t (gcdBody i j) fuel σ S = .ok (.nx ((σ.set i (some (.val (.int (Nat.gcd a b))))).set j (some (.val (.int 0))))) S := by
  have zero : ∀ (fuel a : Nat) (σ : Sl), 1 ≤ fuel → getSlot σ i = some (.int a) → getSlot σ j = some (.int (0 : Nat)) → whileN t (gcdBody i j) fuel σ S = .ok (.nx ((σ.set i (some (.val (.int (Nat.gcd a 0))))).set j (some (.val (.int 0))))) S := fun fuel a σ hf hi hj => by
    cases fuel with
    | zero => omega
    | succ fuel =>
      unfold whileN
      rw [ht σ S 0 hj]
      simp only [R.bind_ok]
      rw [if_neg (by simp)]
      have hj0 : getSlot σ j = some (.int 0) := hj
      rw [Nat.gcd_zero_right, set_same hi, set_same hj0]
  have turn : ∀ (fuel a b : Nat) (σ : Sl), b ≠ 0 → getSlot σ i = some (.int a) → getSlot σ j = some (.int b) → whileN t (gcdBody i j) (fuel + 1) σ S = whileN t (gcdBody i j) fuel ((σ.set i (some (.val (.int b)))).set j (some (.val (.int (a % b : Nat))))) S := fun fuel a b σ hb hi hj => by
    conv => lhs; unfold whileN
    rw [ht σ S b hj]
    simp only [R.bind_ok]
    rw [if_pos (by simpa using hb), gcd_turn hi hj hb]
    rfl
  have s1 : ∀ (σ : Sl) (a b x y : Nat), getSlot σ i = some (.int a) → getSlot σ j = some (.int b) → getSlot ((σ.set i (some (.val (.int x)))).set j (some (.val (.int y)))) i = some (.int x) ∧ getSlot ((σ.set i (some (.val (.int x)))).set j (some (.val (.int y)))) j = some (.int y) := fun σ a b x y hi hj => by
    refine ⟨by rw [getSlot_set_ne (Ne.symm hij)]; exact getSlot_set hi, getSlot_set (w := .int b) ?_⟩
    rw [getSlot_set_ne hij]; exact hj
  have s2 : ∀ (σ : Sl) (x y u v : W), (((σ.set i (some (.val x))).set j (some (.val y))).set i (some (.val u))).set j (some (.val v)) = (σ.set i (some (.val u))).set j (some (.val v)) := fun σ x y u v => by
    rw [List.set_comm _ _ (Ne.symm hij), List.set_set, List.set_set]
  intro k
  induction k with
  | zero =>
    intro fuel a b σ hb hf hi hj
    have : b = 0 := by simpa using hb
    subst this
    exact zero fuel a σ (by omega) hi hj
  | succ k ih =>
    intro fuel a b σ hb hf hi hj
    by_cases b0 : b = 0
    · subst b0
      exact zero fuel a σ (by omega) hi hj
    · obtain ⟨f1, rfl⟩ : ∃ f1, fuel = f1 + 1 := ⟨fuel - 1, by omega⟩
      rw [turn f1 a b σ b0 hi hj]
      obtain ⟨g1, g2⟩ := s1 σ a b b (a % b) hi hj
      by_cases r0 : a % b = 0
      · rw [zero f1 b _ (by omega) g1 (by rw [r0] at g2 ⊢; exact g2)]
        rw [s2]
        have : Nat.gcd a b = Nat.gcd b 0 := by
          rw [Nat.gcd_comm a b, Nat.gcd_rec b a, r0, Nat.gcd_zero_left, Nat.gcd_zero_right]
        rw [this]
      · obtain ⟨f2, rfl⟩ : ∃ f2, f1 = f2 + 1 := ⟨f1 - 1, by omega⟩
        rw [turn f2 b (a % b) _ r0 g1 g2]
        obtain ⟨g3, g4⟩ := s1 _ b (a % b) (a % b) (b % (a % b)) g1 g2
        have hlt : a % b < b := Nat.mod_lt _ (by omega)
        have h2 : b % (a % b) < a % b := Nat.mod_lt _ (by omega)
        have h3 : b % (a % b) + (a % b) ≤ b := by
          have := Nat.mod_add_div b (a % b)
          have h4 : 1 ≤ b / (a % b) := Nat.div_pos (by omega) (by omega)
          have h5 : a % b ≤ (a % b) * (b / (a % b)) := Nat.le_mul_of_pos_right _ h4
          omega
        rw [ih f2 (a % b) (b % (a % b)) _ (by rw [Nat.pow_succ] at hb; omega) (by omega) g3 g4, s2, s2]
        have : Nat.gcd a b = Nat.gcd (a % b) (b % (a % b)) := by
          rw [Nat.gcd_comm a b, Nat.gcd_rec b a, Nat.gcd_rec (a % b) b, Nat.gcd_comm]
        rw [this]
/-- a fraction as the text has it -/
def pr (q : Rat) : W := .tup [.int q.num, .int q.den]
/-- how large its parts are -/
def zq (k : Nat) (q : Rat) : Prop := q.num.natAbs < 2 ^ k ∧ q.den < 2 ^ k
theorem zq.mono {k l : Nat} {q : Rat} (h : zq k q) (hl : k ≤ l) : zq l q := ⟨Nat.lt_of_lt_of_le h.1 (Nat.pow_le_pow_right (by decide) hl), Nat.lt_of_lt_of_le h.2 (Nat.pow_le_pow_right (by decide) hl)⟩
theorem zq_divInt {k : Nat} {a b : Int} (ha : a.natAbs < 2 ^ k) (hb : b.natAbs < 2 ^ k) (h1 : 0 < k) : zq k (Rat.divInt a b) := by
  refine ⟨?_, ?_⟩
  · rw [Rat.num_divInt]
    refine Nat.lt_of_le_of_lt ?_ ha
    have h1 : (b.sign * a / (b.gcd a : Int)).natAbs ≤ (b.sign * a).natAbs := Int.natAbs_ediv_le_natAbs _ _
    refine Nat.le_trans h1 ?_
    rw [Int.natAbs_mul]
    have : b.sign.natAbs ≤ 1 := by
      rw [Int.natAbs_sign]
      split <;> omega
    calc b.sign.natAbs * a.natAbs ≤ 1 * a.natAbs := Nat.mul_le_mul_right _ this
      _ = a.natAbs := Nat.one_mul _
  · rw [Rat.den_divInt]
    split
    · exact Nat.one_lt_two_pow (by omega)
    · exact Nat.lt_of_le_of_lt (Nat.div_le_self _ _) hb
theorem natAbs_mul_lt {a b : Int} {k l : Nat} (ha : a.natAbs < 2 ^ k) (hb : b.natAbs < 2 ^ l) : (a * b).natAbs < 2 ^ (k + l) := by
  rw [Int.natAbs_mul, Nat.pow_add]
  exact Nat.mul_lt_mul_of_lt_of_lt ha hb
theorem natAbs_add_lt {a b : Int} {k : Nat} (ha : a.natAbs < 2 ^ k) (hb : b.natAbs < 2 ^ k) : (a + b).natAbs < 2 ^ (k + 1) := by
  have := Int.natAbs_add_le a b
  rw [Nat.pow_succ]
  omega
theorem natAbs_sub_lt {a b : Int} {k : Nat} (ha : a.natAbs < 2 ^ k) (hb : b.natAbs < 2 ^ k) : (a - b).natAbs < 2 ^ (k + 1) := by
  rw [Int.sub_eq_add_neg]
  exact natAbs_add_lt ha (by rw [Int.natAbs_neg]; exact hb)
section
variable {a b : Rat} {k l : Nat}
theorem add_eq_divInt : Rat.divInt (a.num * b.den + b.num * a.den) (a.den * b.den) = a + b := by
  rw [Rat.add_def', ← Rat.divInt_ofNat]
  simp
theorem sub_eq_divInt : Rat.divInt (a.num * b.den - b.num * a.den) (a.den * b.den) = a - b := by
  rw [Rat.sub_def', ← Rat.divInt_ofNat]
  simp
theorem mul_eq_divInt : Rat.divInt (a.num * b.num) (a.den * b.den) = a * b := by
  rw [Rat.mul_def', ← Rat.divInt_ofNat]
  simp
theorem zq.den (h : zq k a) : ((a.den : Int)).natAbs < 2 ^ k := by rw [Int.natAbs_natCast]; exact h.2
theorem zq.pos (h : zq k a) : 0 < k := by
  cases k with
  | zero => have := h.2; have := a.den_nz; simp at *; omega
  | succ k => omega
theorem zq.cross (ha : zq k a) (hb : zq l b) : (a.num * b.den).natAbs < 2 ^ (k + l) ∧ (b.num * a.den).natAbs < 2 ^ (k + l) ∧ ((a.den : Int) * b.den).natAbs < 2 ^ (k + l) ∧ (a.num * b.num).natAbs < 2 ^ (k + l) :=
  ⟨natAbs_mul_lt ha.1 hb.den, by rw [Nat.add_comm]; exact natAbs_mul_lt hb.1 ha.den, natAbs_mul_lt ha.den hb.den, natAbs_mul_lt ha.1 hb.1⟩
theorem zq.add (ha : zq k a) (hb : zq l b) : zq (k + l + 1) (a + b) := by
  obtain ⟨h1, h2, h3, _⟩ := ha.cross hb
  rw [← add_eq_divInt]
  exact zq_divInt (natAbs_add_lt h1 h2) (Nat.lt_of_lt_of_le h3 (Nat.pow_le_pow_right (by decide) (by omega))) (by omega)
theorem zq.sub (ha : zq k a) (hb : zq l b) : zq (k + l + 1) (a - b) := by
  obtain ⟨h1, h2, h3, _⟩ := ha.cross hb
  rw [← sub_eq_divInt]
  exact zq_divInt (natAbs_sub_lt h1 h2) (Nat.lt_of_lt_of_le h3 (Nat.pow_le_pow_right (by decide) (by omega))) (by omega)
theorem zq.mul (ha : zq k a) (hb : zq l b) : zq (k + l) (a * b) := by
  obtain ⟨_, _, h3, h4⟩ := ha.cross hb
  rw [← mul_eq_divInt]
  exact zq_divInt h4 h3 (by have := ha.pos; omega)
theorem zq_int {n : Int} (h : n.natAbs < 2 ^ k) (h1 : 0 < k) : zq k (n : Rat) := ⟨by rw [Rat.num_intCast]; exact h, by rw [Rat.den_intCast]; exact Nat.one_lt_two_pow (by omega)⟩
theorem pr_int {n : Int} : pr (n : Rat) = .tup [.int n, .int 1] := rfl
/-- the parts of o/u -/
theorem divInt_pos {o u : Int} (hu : 0 < u) : pr (Rat.divInt o u) = .tup [.int (o / (Nat.gcd o.natAbs u.natAbs : Nat)), .int (u / (Nat.gcd o.natAbs u.natAbs : Nat))] := by
  unfold pr
  rw [Rat.num_divInt, Rat.den_divInt, if_neg (by omega), Int.sign_eq_one_of_pos hu, Int.one_mul]
  have e : Int.gcd u o = Nat.gcd o.natAbs u.natAbs := by unfold Int.gcd; exact Nat.gcd_comm _ _
  rw [e]
  have e2 : ((u.natAbs / Nat.gcd o.natAbs u.natAbs : Nat) : Int) = u / (Nat.gcd o.natAbs u.natAbs : Nat) := by
    rw [Int.natCast_ediv, Int.natAbs_of_nonneg (by omega)]
  rw [e2]
theorem divInt_neg {o u : Int} : Rat.divInt (-o) (-u) = Rat.divInt o u := Rat.neg_divInt_neg o u
end
end SB
/-! SB, part 19: loops by invariants, heaps that grow, equality. -/
namespace SB
open PySem PySem.Spec PyProof.Rows L2

/-! ### loops -/
theorem forL_all {tg : Tg} {body : St'} {J : Fl → Hm → Prop} (I : List W → Sl → Hm → Prop) (h0 : ∀ σ S, I [] σ S → J (.nx σ) S)
    (h : ∀ x xs σ S, I (x :: xs) σ S → ∃ σ1 S1, tg x σ S = .ok σ1 S1 ∧ ∃ f S2, body σ1 S1 = .ok f S2 ∧ match f with
      | .nx σ2 => I xs σ2 S2
      | .ct σ2 => I xs σ2 S2
      | .bk σ2 => J (.nx σ2) S2
      | .rt w => J (.rt w) S2) : ∀ (xs : List W) (σ : Sl) (S : Hm), I xs σ S → ∃ f S', forL tg body xs σ S = .ok f S' ∧ J f S'
  | [], σ, S, i => ⟨.nx σ, S, rfl, h0 σ S i⟩
  | x :: xs, σ, S, i => by
    obtain ⟨σ1, S1, e1, f, S2, e2, j⟩ := h x xs σ S i
    unfold forL
    rw [e1]
    simp only [R.bind_ok]
    rw [e2]
    simp only [R.bind_ok]
    cases f with
    | nx σ2 => exact forL_all I h0 h xs σ2 S2 j
    | ct σ2 => exact forL_all I h0 h xs σ2 S2 j
    | bk σ2 => exact ⟨_, _, rfl, j⟩
    | rt w => exact ⟨_, _, rfl, j⟩
/-- over what is looked up at each turn; done so many -/
theorem forR_all {tg : Tg} {body : St'} {at_ : Hm → Nat → Option (Option W)} {J : Fl → Hm → Prop} (I : Nat → Sl → Hm → Prop) (m : Nat)
    (h : ∀ i σ S, i ≤ m → I i σ S → (at_ S i = some none ∧ J (.nx σ) S) ∨ ∃ x, i < m ∧ at_ S i = some (some x) ∧ ∃ σ1 S1, tg x σ S = .ok σ1 S1 ∧ ∃ f S2, body σ1 S1 = .ok f S2 ∧ match f with
      | .nx σ2 => I (i + 1) σ2 S2
      | .ct σ2 => I (i + 1) σ2 S2
      | .bk σ2 => J (.nx σ2) S2
      | .rt w => J (.rt w) S2) : ∀ (n i : Nat) (σ : Sl) (S : Hm), m < n + i → i ≤ m → I i σ S → ∃ f S', forR tg body at_ n i σ S = .ok f S' ∧ J f S'
  | 0, i, σ, S, hn, hi, _ => by omega
  | n + 1, i, σ, S, hn, hi, ii => by
    unfold forR
    rcases h i σ S hi ii with ⟨e, j⟩ | ⟨x, hx, e, σ1, S1, e1, f, S2, e2, j⟩
    · rw [e]
      exact ⟨_, _, rfl, j⟩
    · rw [e]
      simp only
      rw [e1]
      simp only [R.bind_ok]
      rw [e2]
      simp only [R.bind_ok]
      cases f with
      | nx σ2 => exact forR_all I m h n (i + 1) σ2 S2 (by omega) (by omega) j
      | ct σ2 => exact forR_all I m h n (i + 1) σ2 S2 (by omega) (by omega) j
      | bk σ2 => exact ⟨_, _, rfl, j⟩
      | rt w => exact ⟨_, _, rfl, j⟩
/-- a comprehension, each turn told; I: what is left, the heap -/
theorem compL_all {tg : Tg} {cd : T} {el : E} {σ : Sl} (I : List W → Hm → Prop) (J : List W → List W → Hm → Prop) (h0 : ∀ S, I [] S → J [] [] S)
    (h : ∀ x xs S, I (x :: xs) S → ∃ σ1 S1, tg x σ S = .ok σ1 S1 ∧ ∃ b S2, cd σ1 S1 = .ok b S2 ∧ if b = true then ∃ w S3, el σ1 S2 = .ok w S3 ∧ I xs S3 ∧ ∀ ws S', J xs ws S' → J (x :: xs) (w :: ws) S' else I xs S2 ∧ ∀ ws S', J xs ws S' → J (x :: xs) ws S') :
    ∀ (xs : List W) (S : Hm), I xs S → ∃ ws S', compL tg cd el xs σ S = .ok ws S' ∧ J xs ws S'
  | [], S, i => ⟨[], S, rfl, h0 S i⟩
  | x :: xs, S, i => by
    obtain ⟨σ1, S1, e1, b, S2, e2, q⟩ := h x xs S i
    unfold compL
    rw [e1]
    simp only [R.bind_ok]
    rw [e2]
    simp only [R.bind_ok]
    cases b with
    | true =>
      rw [if_pos rfl] at q ⊢
      obtain ⟨w, S3, e3, i3, j⟩ := q
      obtain ⟨ws, S', e4, j4⟩ := compL_all I J h0 h xs S3 i3
      rw [e3]
      simp only [R.bind_ok]
      rw [e4]
      exact ⟨_, _, rfl, j ws S' j4⟩
    | false =>
      rw [if_neg Bool.false_ne_true] at q ⊢
      obtain ⟨i3, j⟩ := q
      obtain ⟨ws, S', e4, j4⟩ := compL_all I J h0 h xs S2 i3
      exact ⟨ws, S', e4, j ws S' j4⟩
/-- each item by a function, the heap as it was -/
theorem compL_map {tg : Tg} {el : E} {σ : Sl} {S : Hm} {f : W → W} {g : W → Sl} : ∀ (xs : List W), (∀ x ∈ xs, tg x σ S = .ok (g x) S ∧ el (g x) S = .ok (f x) S) → compL tg tYes el xs σ S = .ok (xs.map f) S
  | [], _ => rfl
  | x :: xs, h => by
    unfold compL
    rw [(h x List.mem_cons_self).1]
    simp only [R.bind_ok, ev_tyes, if_true]
    rw [(h x List.mem_cons_self).2]
    simp only [R.bind_ok]
    rw [compL_map xs fun y hy => h y (List.mem_cons_of_mem _ hy)]
    rfl
theorem compR_map {tg : Tg} {el : E} {at_ : Hm → Nat → Option (Option W)} {σ : Sl} {S : Hm} {f : W → W} {g : W → Sl} {xs : List W} (hat : ∀ i, i ≤ xs.length → at_ S i = some xs[i]?) (h : ∀ x ∈ xs, tg x σ S = .ok (g x) S ∧ el (g x) S = .ok (f x) S) :
    ∀ (n i : Nat), xs.length < n + i → i ≤ xs.length → compR tg tYes el at_ n i σ S = .ok ((xs.drop i).map f) S
  | 0, i, hn, hi => by omega
  | n + 1, i, hn, hi => by
    unfold compR
    rw [hat i hi]
    by_cases hl : i < xs.length
    · rw [List.getElem?_eq_getElem hl]
      simp only
      have hm := List.getElem_mem hl
      rw [(h _ hm).1]
      simp only [R.bind_ok, ev_tyes, if_true]
      rw [(h _ hm).2]
      simp only [R.bind_ok]
      rw [compR_map hat h n (i + 1) (by omega) (by omega), List.drop_eq_getElem_cons hl]
      rfl
    · rw [List.getElem?_eq_none (by omega), List.drop_eq_nil_of_le (by omega)]
      rfl

/-! ### heaps that grow -/
structure Keep (S S' : Hm) : Prop where
  len : S.length ≤ S'.length
  at_ : ∀ a, a < S.length → S'[a]? = S[a]?
theorem Keep.refl (S : Hm) : Keep S S := ⟨Nat.le_refl _, fun _ _ => rfl⟩
theorem Keep.trans {S S1 S2 : Hm} (a : Keep S S1) (b : Keep S1 S2) : Keep S S2 := ⟨Nat.le_trans a.len b.len, fun i h => (b.at_ i (Nat.lt_of_lt_of_le h a.len)).trans (a.at_ i h)⟩
theorem Keep.app (S : Hm) (o : Option MO) : Keep S (S ++ [o]) := ⟨by simp, fun a h => List.getElem?_append_left h⟩
theorem Keep.set {S S' : Hm} {a : Nat} {o : Option MO} (k : Keep S S') (h : S.length ≤ a) : Keep S (S'.set a o) := ⟨by rw [List.length_set]; exact k.len, fun i hi => by rw [List.getElem?_set_ne (by omega)]; exact k.at_ i hi⟩
theorem Keep.heap {S S' : Hm} (k : Keep S S') {a : Nat} (h : a < S.length) : heapAt S' a = heapAt S a := by
  unfold heapAt
  rw [k.at_ a h]
theorem heapAt_new {S : Hm} {o : MO} : heapAt (S ++ [some o]) S.length = some o := by
  rw [heapAt_app, if_pos rfl]
theorem heapAt_set_same {S : Hm} {a : Nat} {o : MO} (h : a < S.length) : heapAt (S.set a (some o)) a = some o := by
  rw [heapAt_set h, if_pos rfl]
theorem heapAt_set_ne {S : Hm} {a b : Nat} {o : Option MO} (h : a ≠ b) : heapAt (S.set a o) b = heapAt S b := by
  unfold heapAt
  rw [List.getElem?_set_ne h]

/-! ### == -/
theorem toDs_ints : ∀ ds : List Int, toDs (ds.map W.int) = some (ds.map PyData.int)
  | [] => rfl
  | d :: ds => by
    simp only [List.map_cons, toDs, toD]
    rw [toDs_ints ds]
theorem shaped_ints (ds : List Int) : SeqAt.shaped (.list (ds.map PyData.int)) = true ∧ SeqAt.shaped (.tuple (ds.map PyData.int)) = true := by
  have h1 : ∀ ds : List Int, PyData.canLayAll0 (ds.map PyData.int) = true := fun ds => by
    induction ds with
    | nil => rfl
    | cons d ds ih => simp only [List.map_cons, PyData.canLayAll0, PyData.canLay0, ih]; rfl
  have h2 : ∀ ds : List Int, PyData.depthAll (ds.map PyData.int) = 0 := fun ds => by
    induction ds with
    | nil => rfl
    | cons d ds ih => simp only [List.map_cons, PyData.depthAll, PyData.depth, ih]; rfl
  constructor
  · unfold SeqAt.shaped
    simp only [PyData.canLay0, PyData.depth, h1, h2]
    rfl
  · unfold SeqAt.shaped
    simp only [PyData.canLay0, PyData.depth, h1, h2]
    rfl
theorem eqW_refl {S : Hm} {x : W} {d : PyData} (h : toD (deref S x) = some d) (hs : SeqAt.shaped d = true) : eqW S x x = some true := by
  have e : eqD S x x = some true := by
    unfold eqD
    rw [h]
    simp only
    rw [hs]
    simp only [Bool.and_self, if_true]
    rw [SeqAt.eqv_refl d (SeqAt.canLay_of_shaped hs)]
  cases x with
  | byt b => cases h
  | str a => show some (decide (a = a)) = _; simp
  | int a => show some (decide (a = a)) = _; simp
  | _ => exact e
theorem ne_self {S : Hm} {x : W} {d : PyData} (h : toD (deref S x) = some d) (hs : SeqAt.shaped d = true) : fNe x x S = .ok (.bl false) S := by
  unfold fNe
  rw [eqW_refl h hs]
  rfl
theorem ne_pr {S : Hm} (q : Rat) : fNe (pr q) (pr q) S = .ok (.bl false) S := ne_self (d := .tuple [.int q.num, .int q.den]) rfl (shaped_ints [q.num, (q.den : Int)]).2
theorem ne_non {S : Hm} : fNe .non .non S = .ok (.bl false) S := ne_self (d := .none) rfl (by decide +kernel)
theorem ne_tup2 {S : Hm} {a b : Int} : fNe (.tup [.int a, .int b]) (.tup [.int a, .int b]) S = .ok (.bl false) S := ne_self (d := .tuple [.int a, .int b]) rfl (shaped_ints [a, b]).2
/-- xs != [] of a list of ints -/
theorem ne_nil {S : Hm} {a : Nat} {ds : List Int} (h : heapAt S a = some (.lst (ds.map W.int))) : fNe (.ref a) (.fl []) S = .ok (.bl (!ds.isEmpty)) S := by
  have : eqW S (.ref a) (.fl []) = some ds.isEmpty := by
    show eqD S (.ref a) (.fl []) = _
    have e1 : deref S (.ref a) = .fl (ds.map W.int) := by
      simp only [deref]
      rw [h]
    unfold eqD
    rw [e1]
    simp only [deref, toD, toDs_ints, toDs]
    rw [(shaped_ints ds).1, show SeqAt.shaped (.list []) = true from (shaped_ints []).1]
    simp only [Bool.and_self, if_true]
    cases ds with
    | nil => rfl
    | cons d ds => rfl
  unfold fNe
  rw [this]
end SB
namespace SB
open PySem PySem.Spec PyProof.Rows L2
theorem kBm_ref {f : W → List W → Hm → R W} {as : As} {σ : Sl} {S : Hm} {a : Nat} {xs : List W} (h : heapAt S a = some (.lst xs)) : kBm f as σ (.ref a) S = (as σ S).bind (f (.ref a)) := by
  unfold kBm
  have : lstOf S (.ref a) = some xs := by simp only [lstOf]; rw [h]
  rw [this]
theorem append_ref {S : Hm} {a : Nat} {xs : List W} {w : W} (h : heapAt S a = some (.lst xs)) (hz : xs.length < sizeLine) : fAppend (.ref a) [w] S = .ok .non (S.set a (some (.lst (xs ++ [w])))) := by
  simp only [fAppend]
  rw [h]
  simp only
  rw [if_pos hz]
theorem popAt_ref {S : Hm} {a : Nat} {x : W} {xs : List W} (h : heapAt S a = some (.lst (x :: xs))) : fPopAt (.ref a) [.int 0] S = .ok x (S.set a (some (.lst xs))) := by
  simp only [fPopAt]
  rw [h]
theorem lstOf_ref {S : Hm} {a : Nat} {xs : List W} (h : heapAt S a = some (.lst xs)) : lstOf S (.ref a) = some xs := by
  simp only [lstOf]; rw [h]
theorem rangeL_map (lo : Int) (n : Nat) : ∀ x ∈ rangeL lo n, ∃ i : Nat, i < n ∧ x = .int (lo + (i : Int)) := fun x hx => by
  unfold rangeL at hx
  obtain ⟨i, hi, rfl⟩ := List.mem_map.mp hx
  exact ⟨i, List.mem_range.mp hi, rfl⟩
theorem rangeL_len (lo : Int) (n : Nat) : (rangeL lo n).length = n := by
  unfold rangeL
  rw [List.length_map, List.length_range]
theorem kRg1_of {j : Int} {S : Hm} (h : rangeOk j = true) : kRg1 (.int j) S = .ok (.seq (rangeL 0 j.toNat)) S := by
  unfold kRg1
  exact if_pos h
theorem heap_set_keep {S S1 : Hm} {a : Nat} {o : Option MO} (k : Keep S S1) (h : S.length ≤ a) : Keep S (S1.set a o) := k.set h
theorem pow18 (S : Hm) : fPow (.int 10) (.int 18) S = .ok (.int 1000000000000000000) S := by
  unfold fPow
  simp
end SB
namespace SB
open PySem PySem.Spec PyProof.Rows L2
@[simp] theorem ev_tgtup {ts : List Tg} {xs : List W} {σ : Sl} {S : Hm} : tgTup ts (.tup xs) σ S = if xs.length = ts.length then tgSeq ts xs σ S else .stuck := (rfl)
@[simp] theorem ev_tgtupF {ts : List Tg} {xs : List W} {σ : Sl} {S : Hm} : tgTup ts (.fl xs) σ S = if xs.length = ts.length then tgSeq ts xs σ S else .stuck := (rfl)
@[simp] theorem ev_tgs0 {σ : Sl} {S : Hm} : tgSeq [] [] σ S = .ok σ S := (rfl)
def kTgs (ts : List Tg) (xs : List W) (σ : Sl) (S : Hm) : R Sl := tgSeq ts xs σ S
@[simp] theorem ev_tgs1 {t : Tg} {ts : List Tg} {x : W} {xs : List W} {σ : Sl} {S : Hm} : tgSeq (t :: ts) (x :: xs) σ S = (t x σ S).bind (kTgs ts xs) := (rfl)
@[simp] theorem ev_tgs2 {ts : List Tg} {xs : List W} {σ : Sl} {S : Hm} : kTgs ts xs σ S = tgSeq ts xs σ S := (rfl)
@[simp] theorem kEn_tup {xs : List W} {S : Hm} : kEn (.tup xs) S = .ok (.seq (enumL 0 xs)) S := (rfl)
@[simp] theorem kEn_fl {xs : List W} {S : Hm} : kEn (.fl xs) S = .ok (.seq (enumL 0 xs)) S := (rfl)
@[simp] theorem kIt_tup {xs : List W} {S : Hm} : kIt (.tup xs) S = .ok (.seq xs) S := (rfl)
@[simp] theorem kIt_fl {xs : List W} {S : Hm} : kIt (.fl xs) S = .ok (.seq xs) S := (rfl)
@[simp] theorem kZp2_ff {xs ys : List W} {S : Hm} : kZp2 (.fl xs) (.fl ys) S = .ok (.seq (zipL xs ys)) S := (rfl)
theorem kIt_ref {S : Hm} {a : Nat} {xs : List W} (h : heapAt S a = some (.lst xs)) : kIt (.ref a) S = .ok (.dyn fun S i => (srcL S (.rf a)).map fun xs => xs[i]?) S := by
  unfold kIt
  have : srcOf S (.ref a) = some (.rf a) := by simp only [srcOf]; rw [h]
  rw [this]
theorem srcL_ref {S : Hm} {a : Nat} {xs : List W} (h : heapAt S a = some (.lst xs)) (i : Nat) : ((srcL S (.rf a)).map fun xs => xs[i]?) = some xs[i]? := by
  simp only [srcL]
  rw [h]
  rfl
theorem kCat2_ref {S : Hm} {a b : Nat} {xs ys : List W} (h : heapAt S a = some (.lst xs)) (h2 : heapAt S b = some (.lst ys)) (hz : xs.length + ys.length ≤ sizeLine) : kCat2 (.ref a) (.ref b) S = .ok (xs ++ ys) S := by
  unfold kCat2
  rw [lstOf_ref h, lstOf_ref h2]
  exact if_pos hz
theorem enumL_mem : ∀ {xs : List W} {k : Int} {w : W}, w ∈ enumL k xs → ∃ (i : Nat) (x : W), x ∈ xs ∧ i < xs.length ∧ w = .tup [.int (k + (i : Int)), x]
  | [], _, _, h => by cases h
  | x :: xs, k, w, h => by
    unfold enumL at h
    rcases List.mem_cons.mp h with rfl | h
    · exact ⟨0, x, List.mem_cons_self, by simp, by simp⟩
    · obtain ⟨i, y, hy, hi, rfl⟩ := enumL_mem h
      refine ⟨i + 1, y, List.mem_cons_of_mem _ hy, by simp only [List.length_cons]; omega, ?_⟩
      congr 3
      omega
end SB
namespace SB
open PySem PySem.Spec PyProof.Rows L2
/-- a comprehension that changes the heap: from where to where -/
theorem compL_rel {tg : Tg} {el : E} {σ : Sl} (I : List W → Hm → Prop) (J : List W → Hm → List W → Hm → Prop) (h0 : ∀ S, I [] S → J [] S [] S)
    (h : ∀ x xs S, I (x :: xs) S → ∃ σ1, tg x σ S = .ok σ1 S ∧ ∃ w S3, el σ1 S = .ok w S3 ∧ I xs S3 ∧ ∀ ws S', J xs S3 ws S' → J (x :: xs) S (w :: ws) S') :
    ∀ (xs : List W) (S : Hm), I xs S → ∃ ws S', compL tg tYes el xs σ S = .ok ws S' ∧ J xs S ws S'
  | [], S, i => ⟨[], S, rfl, h0 S i⟩
  | x :: xs, S, i => by
    obtain ⟨σ1, e1, w, S3, e3, i3, j⟩ := h x xs S i
    obtain ⟨ws, S', e4, j4⟩ := compL_rel I J h0 h xs S3 i3
    unfold compL
    rw [e1]
    simp only [R.bind_ok, ev_tyes, if_true]
    rw [e3]
    simp only [R.bind_ok]
    rw [e4]
    exact ⟨_, _, rfl, j ws S' j4⟩
theorem kMeth_obj {m : Str} {tab : Str → Option Fn} {as : As} {σ : Sl} {C : Str} {ks : List Str} {vs : List W} {S : Hm} {f : Fn} (h : tab C = some f) (hk : ks.contains m = false) : kMeth m tab as σ (.obj C ks vs) S = (as σ S).bind (kMth2 f (.obj C ks vs)) := by
  show (match tab C with
    | some f => if ks.contains m = true then R.stuck else (as σ S).bind fun xs S2 => f (.obj C ks vs :: xs) S2
    | none => .stuck) = _
  rw [h]
  exact if_neg (by rw [hk]; decide)
@[simp] theorem ev_mth2 {f : Fn} {x : W} {xs : List W} {S : Hm} : kMth2 f x xs S = f (x :: xs) S := (rfl)
theorem blsW_all : ∀ (bs : List Bool), blsW (bs.map W.bl) = some bs
  | [] => rfl
  | b :: bs => by
    simp only [List.map_cons, blsW]
    rw [blsW_all bs]
    rfl
theorem fAll_bls {bs : List Bool} {S : Hm} : fAll [.fl (bs.map W.bl)] S = .ok (.bl (bs.all id)) S := by
  unfold fAll
  simp only [o_lstF, Option.bind_some, blsW_all]
theorem fLen_ref {S : Hm} {a : Nat} {xs : List W} (h : heapAt S a = some (.lst xs)) : fLen [.ref a] S = .ok (.int xs.length) S := by
  simp only [fLen, seqOf]
  rw [h]
theorem kIsi_ref {S : Hm} {a : Nat} {xs : List W} {ns : List Ty} (h : heapAt S a = some (.lst xs)) : kIsi ns (.ref a) S = .ok (.bl (ns.any fun n => isTy (.b "list") n)) S := by
  simp only [kIsi, tyW]
  rw [h]
theorem fIdx_ref {S : Hm} {a : Nat} {xs : List W} {i : Int} (h : heapAt S a = some (.lst xs)) : fIdx (.ref a) (.int i) S = opt (atI xs i) S := by
  simp only [fIdx, seqOf]
  rw [h]
theorem fList_ref {S : Hm} {a : Nat} {xs : List W} (h : heapAt S a = some (.lst xs)) : fList [.ref a] S = .ok xs S := by
  simp only [fList, seqOf]
  rw [h]
  rfl
@[simp] theorem fList_fl {S : Hm} {xs : List W} : fList [.fl xs] S = .ok xs S := (rfl)
@[simp] theorem kSl3_fl {S : Hm} {xs : List W} {l h : Option Int} : kSl3 (.fl xs) l h S = .ok (cutG xs l h) S := (rfl)
theorem kSl3_ref {S : Hm} {a : Nat} {xs : List W} {l h : Option Int} (e : heapAt S a = some (.lst xs)) : kSl3 (.ref a) l h S = .ok (cutG xs l h) S := by
  simp only [kSl3, cutSrc]
  rw [lstOf_ref e]
theorem cut1 {α : Type} (xs : List α) : cutG xs (some 1) none = xs.drop 1 := by
  unfold cutG
  have e1 : HT.sIx xs.length 0 (some 1) = min 1 xs.length := HT.sIx_nat _ _ 1
  rw [HT.sIx_none, e1]
  by_cases h : xs.length = 0
  · rw [List.length_eq_zero_iff.mp h]; rfl
  · have : min 1 xs.length = 1 := by omega
    rw [this, List.take_of_length_le (by rw [List.length_drop]; omega)]
theorem cutTake {α : Type} (xs : List α) (k : Nat) : cutG xs none (some (k : Int)) = xs.take k := by
  unfold cutG
  rw [HT.sIx_none, HT.sIx_nat, List.drop_zero, Nat.sub_zero]
  by_cases h : k ≤ xs.length
  · rw [Nat.min_eq_left h]
  · rw [Nat.min_eq_right (by omega), List.take_of_length_le (Nat.le_refl _), List.take_of_length_le (by omega)]
end SB
namespace SB
open PySem PySem.Spec PyProof.Rows L2
/-- kept, but for the object d -/
structure KB (d : Nat) (S S' : Hm) : Prop where
  len : S.length ≤ S'.length
  at_ : ∀ a, a < S.length → a ≠ d → S'[a]? = S[a]?
theorem KB.refl (d : Nat) (S : Hm) : KB d S S := ⟨Nat.le_refl _, fun _ _ _ => rfl⟩
theorem KB.trans {d : Nat} {S S1 S2 : Hm} (a : KB d S S1) (b : KB d S1 S2) : KB d S S2 := ⟨Nat.le_trans a.len b.len, fun i h n => (b.at_ i (Nat.lt_of_lt_of_le h a.len) n).trans (a.at_ i h n)⟩
theorem KB.app {d : Nat} (S : Hm) (o : Option MO) : KB d S (S ++ [o]) := ⟨by simp, fun a h _ => List.getElem?_append_left h⟩
theorem KB.set {d : Nat} (S : Hm) (o : Option MO) : KB d S (S.set d o) := ⟨by rw [List.length_set]; exact Nat.le_refl _, fun i hi n => by rw [List.getElem?_set_ne (Ne.symm n)]⟩
theorem KB.setHi {d a : Nat} {S S' : Hm} {o : Option MO} (k : KB d S S') (h : S.length ≤ a) : KB d S (S'.set a o) := ⟨by rw [List.length_set]; exact k.len, fun i hi n => by rw [List.getElem?_set_ne (by omega)]; exact k.at_ i hi n⟩
theorem KB.heap {d : Nat} {S S' : Hm} (k : KB d S S') {a : Nat} (h : a < S.length) (n : a ≠ d) : heapAt S' a = heapAt S a := by
  unfold heapAt
  rw [k.at_ a h n]
theorem set_len {S : Hm} {a : Nat} {o : Option MO} : (S.set a o).length = S.length := List.length_set
theorem heapAt_appL {S : Hm} {o : Option MO} {a : Nat} (h : a < S.length) : heapAt (S ++ [o]) a = heapAt S a := by
  unfold heapAt
  rw [List.getElem?_append_left h]
end SB
namespace SB
open PySem PySem.Spec PyProof.Rows L2
theorem zipL_get : ∀ {xs ys : List W} {i : Nat}, (zipL xs ys)[i]? = match xs[i]?, ys[i]? with
    | some x, some y => some (.tup [x, y])
    | _, _ => none
  | [], ys, i => by simp [zipL]
  | _ :: _, [], i => by
    cases i <;> simp [zipL] <;> split <;> simp_all
  | x :: xs, y :: ys, 0 => by simp [zipL]
  | x :: xs, y :: ys, i + 1 => by
    simp only [zipL, List.getElem?_cons_succ]
    exact zipL_get
/-- zip(xs, ys), ys no longer -/
theorem zipAt_short {xs ys : List W} (h : ys.length ≤ xs.length) {i : Nat} (hi : i ≤ (zipL xs ys).length) : iZip.zipAt xs ys i = some (zipL xs ys)[i]? := by
  rw [zipL_length, Nat.min_eq_right h] at hi
  rw [zipL_get]
  unfold iZip.zipAt
  by_cases h1 : i < ys.length
  · rw [List.getElem?_eq_getElem (show i < xs.length by omega), List.getElem?_eq_getElem h1]
  · have e : ys[i]? = none := List.getElem?_eq_none (by omega)
    rw [e]
    by_cases h2 : i < xs.length
    · rw [List.getElem?_eq_getElem h2]
      simp only
      rw [if_pos (by omega)]
    · rw [List.getElem?_eq_none (by omega)]
      simp only
      rw [if_pos (by omega)]
theorem kZp2_rf {S : Hm} {a : Nat} {xs ys : List W} (h : heapAt S a = some (.lst xs)) : kZp2 (.ref a) (.fl ys) S = .ok (.dyn fun S i => (srcL S (.rf a)).bind fun xs => (srcL S (.fz ys)).bind fun ys => iZip.zipAt xs ys i) S := by
  unfold kZp2
  have : srcOf S (.ref a) = some (.rf a) := by simp only [srcOf]; rw [h]
  rw [this]
  rfl
theorem srcL_rf {S : Hm} {a : Nat} {xs : List W} (h : heapAt S a = some (.lst xs)) : srcL S (.rf a) = some xs := by
  simp only [srcL]
  rw [h]
@[simp] theorem all_true {α : Type} (xs : List α) : (xs.map fun _ => true).all id = true := by
  induction xs with
  | nil => rfl
  | cons x xs ih => simp
theorem fAll_map {α : Type} {xs : List α} {S : Hm} : fAll [.fl (xs.map fun _ => W.bl true)] S = .ok (.bl true) S := by
  have := fAll_bls (bs := xs.map fun _ => true) (S := S)
  rw [List.map_map, all_true] at this
  exact this
end SB
namespace SB
open PySem PySem.Spec PyProof.Rows L2
theorem seq_ok {m n : St'} {σ σ1 : Sl} {S S1 : Hm} {r : R Fl} (h1 : m σ S = .ok (.nx σ1) S1) (h2 : n σ1 S1 = r) : sSeq m n σ S = r := by
  rw [ev_seq, h1, R.bind_ok, ev_seqn, h2]
@[simp] theorem kSl3_scr {S : Hm} {ns : List Int} {l h : Option Int} : kSl3 (.scr ns) l h S = .ok (cutG (ns.map W.int) l h) S := (rfl)
end SB
/-! SB, part 20: what holds behind a run. -/
namespace SB
open PySem PySem.Spec PyProof.Rows L2

/-- what is wanted behind (a class: rewriting leaves it as it is) -/
class Kt (α : Type) where
  q : α → Hm → Prop
/-- it ends well, and so -/
def Sat' {α : Type} (r : R α) [k : Kt α] : Prop := match r with
  | .ok a S => k.q a S
  | _ => False
abbrev Sat {α : Type} (r : R α) (Q : α → Hm → Prop) : Prop := @Sat' α r ⟨Q⟩
@[simp] theorem Sat.ok {α : Type} {a : α} {S : Hm} {Q : α → Hm → Prop} : @Sat' _ (.ok a S) ⟨Q⟩ = Q a S := (rfl)
theorem Sat.bd {α β : Type} {r : R α} {k : α → Hm → R β} {Q : β → Hm → Prop} : @Sat' _ (r.bind k) ⟨Q⟩ = @Sat' _ r ⟨(fun a S => @Sat' _ (k a S) ⟨Q⟩)⟩ := by
  cases r <;> rfl
@[simp] theorem Sat.bd' {α β : Type} {r : R α} {k : α → Hm → R β} {Q : β → Hm → Prop} : @Sat' _ (r.bind k) ⟨Q⟩ = @Sat' _ r ⟨(fun a S => @Sat' _ (k a S) ⟨Q⟩)⟩ := Sat.bd
theorem Sat.mono {α : Type} {r : R α} {P Q : α → Hm → Prop} (h : @Sat' _ r ⟨P⟩) (i : ∀ a S, P a S → Q a S) : @Sat' _ r ⟨Q⟩ := by
  cases r with
  | ok a S => exact i a S h
  | exc C v S => exact h
  | stuck => exact h
theorem Sat.of_eq {α : Type} {r : R α} {a : α} {S : Hm} {Q : α → Hm → Prop} (h : r = .ok a S) (q : Q a S) : @Sat' _ r ⟨Q⟩ := by rw [h]; exact q
theorem Sat.get {α : Type} {r : R α} {Q : α → Hm → Prop} (h : @Sat' _ r ⟨Q⟩) : ∃ a S, r = .ok a S ∧ Q a S := by
  cases r with
  | ok a S => exact ⟨a, S, rfl, h⟩
  | exc C v S => exact h.elim
  | stuck => exact h.elim
theorem Sat'.get {α : Type} {r : R α} {Q : α → Hm → Prop} (h : @Sat' _ r ⟨Q⟩) : ∃ a S, r = .ok a S ∧ Q a S := Sat.get h
theorem Sat'.mono {α : Type} {r : R α} {P Q : α → Hm → Prop} (h : @Sat' _ r ⟨P⟩) (i : ∀ a S, P a S → Q a S) : @Sat' _ r ⟨Q⟩ := Sat.mono h i
theorem Sat.mk {α : Type} {r : R α} {Q : α → Hm → Prop} (h : ∃ a S, r = .ok a S ∧ Q a S) : @Sat' _ r ⟨Q⟩ := by
  obtain ⟨a, S, e, q⟩ := h
  rw [e]; exact q
/-- just this answer -/
theorem Sat.eq {α : Type} {r : R α} {a : α} {S : Hm} (h : @Sat' _ r ⟨fun b S' => b = a ∧ S' = S⟩) : r = .ok a S := by
  obtain ⟨b, S', e, rfl, rfl⟩ := h.get
  exact e
theorem Sat.ex {α : Type} {r : R α} {a : α} (h : @Sat' _ r ⟨fun b _ => b = a⟩) : ∃ S, r = .ok a S := by
  obtain ⟨b, S', e, rfl⟩ := h.get
  exact ⟨S', e⟩
/-- what rewriting leaves as it is -/
class Bx where
  p : Prop
def Hd' [b : Bx] : Prop := b.p
/-! ### ways -/
section
variable {σ : Sl} {S : Hm} {c : Bool}
theorem Sat.sif {m n : St'} {Q : Fl → Hm → Prop} (h1 : c = true → @Sat' _ (m σ S) ⟨Q⟩) (h2 : c = false → @Sat' _ (n σ S) ⟨Q⟩) : @Sat' _ (kSIf m n σ c S) ⟨Q⟩ := by
  cases c
  · exact h2 rfl
  · exact h1 rfl
theorem Sat.eif {m n : E} {Q : W → Hm → Prop} (h1 : c = true → @Sat' _ (m σ S) ⟨Q⟩) (h2 : c = false → @Sat' _ (n σ S) ⟨Q⟩) : @Sat' _ (kIf m n σ c S) ⟨Q⟩ := by
  cases c
  · exact h2 rfl
  · exact h1 rfl
theorem Sat.and {n : E} {Q : W → Hm → Prop} (h1 : c = true → @Sat' _ (n σ S) ⟨Q⟩) (h2 : c = false → Q (.bl false) S) : @Sat' _ (kAnd n σ c S) ⟨Q⟩ := by
  cases c
  · exact h2 rfl
  · exact h1 rfl
theorem Sat.or {n : E} {Q : W → Hm → Prop} (h1 : c = true → Q (.bl true) S) (h2 : c = false → @Sat' _ (n σ S) ⟨Q⟩) : @Sat' _ (kOr n σ c S) ⟨Q⟩ := by
  cases c
  · exact h2 rfl
  · exact h1 rfl
theorem Sat.tand {n : T} {Q : Bool → Hm → Prop} (h1 : c = true → @Sat' _ (n σ S) ⟨Q⟩) (h2 : c = false → Q false S) : @Sat' _ (kTAnd n σ c S) ⟨Q⟩ := by
  cases c
  · exact h2 rfl
  · exact h1 rfl
theorem Sat.tor {n : T} {Q : Bool → Hm → Prop} (h1 : c = true → Q true S) (h2 : c = false → @Sat' _ (n σ S) ⟨Q⟩) : @Sat' _ (kTOr n σ c S) ⟨Q⟩ := by
  cases c
  · exact h2 rfl
  · exact h1 rfl
theorem Sat.ch3 {g : W → W → Hm → R W} {d : E} {y : W} {Q : W → Hm → Prop} (h1 : c = true → @Sat' _ ((d σ S).bind (g y)) ⟨Q⟩) (h2 : c = false → Q (.bl false) S) : @Sat' _ (kCh3 g d σ y c S) ⟨Q⟩ := by
  cases c
  · exact h2 rfl
  · exact h1 rfl
theorem Sat.ite {α : Type} {p : Prop} [Decidable p] {a b : R α} {Q : α → Hm → Prop} (h1 : p → @Sat' _ a ⟨Q⟩) (h2 : ¬ p → @Sat' _ b ⟨Q⟩) : @Sat' _ (if p then a else b) ⟨Q⟩ := by
  split
  · exact h1 ‹_›
  · exact h2 ‹_›
/-- it must be so -/
theorem Sat.must {α : Type} {p : Prop} [Decidable p] {a : R α} {Q : α → Hm → Prop} (h : p) (h1 : @Sat' _ a ⟨Q⟩) : @Sat' _ (if p then a else .stuck) ⟨Q⟩ := by
  rw [if_pos h]; exact h1
end
/-! ### loops -/
theorem Sat.forL {tg : Tg} {body : St'} {xs : List W} {σ : Sl} {S : Hm} {Q : Fl → Hm → Prop} (I : List W → Sl → Hm → Prop) (h0 : I xs σ S)
    (hs : ∀ x xs σ S, I (x :: xs) σ S → @Sat' _ (tg x σ S) ⟨fun σ1 S1 => @Sat' _ (body σ1 S1) ⟨fun f S2 => match f with
      | .nx σ2 => I xs σ2 S2
      | .ct σ2 => I xs σ2 S2
      | .bk σ2 => Q (.nx σ2) S2
      | .rt w => Q (.rt w) S2⟩⟩)
    (he : ∀ σ S, I [] σ S → Q (.nx σ) S) : @Sat' _ (SB.forL tg body xs σ S) ⟨Q⟩ := by
  refine Sat.mk (forL_all (J := Q) I he (fun x xs σ S i => ?_) xs σ S h0)
  obtain ⟨σ1, S1, e1, q⟩ := (hs x xs σ S i).get
  obtain ⟨f, S2, e2, q⟩ := q.get
  exact ⟨σ1, S1, e1, f, S2, e2, q⟩
/-- over the images of things; so many are done -/
theorem Sat.forMap {α : Type} {e : α → W} {l : List α} {tg : Tg} {body : St'} {σ : Sl} {S : Hm} {Q : Fl → Hm → Prop} (I : Nat → Sl → Hm → Prop) (h0 : I 0 σ S)
    (hs : ∀ i x σ S, l[i]? = some x → I i σ S → @Sat' _ (tg (e x) σ S) ⟨fun σ1 S1 => @Sat' _ (body σ1 S1) ⟨fun f S2 => match f with
      | .nx σ2 => I (i + 1) σ2 S2
      | .ct σ2 => I (i + 1) σ2 S2
      | .bk σ2 => Q (.nx σ2) S2
      | .rt w => Q (.rt w) S2⟩⟩)
    (he : ∀ σ S, I l.length σ S → Q (.nx σ) S) : @Sat' _ (SB.forL tg body (l.map e) σ S) ⟨Q⟩ := by
  refine Sat.forL (fun xs σ S => ∃ i, i ≤ l.length ∧ xs = (l.drop i).map e ∧ I i σ S) ⟨0, Nat.zero_le _, by simp, h0⟩ (fun x xs σ S h => ?_) (fun σ S h => ?_)
  · obtain ⟨i, hi, hx, h⟩ := h
    by_cases hl : i < l.length
    · rw [List.drop_eq_getElem_cons hl, List.map_cons] at hx
      obtain ⟨rfl, rfl⟩ := List.cons.inj hx
      refine (hs i _ σ S (List.getElem?_eq_getElem hl) h).mono fun σ1 S1 q => q.mono fun f S2 q => ?_
      cases f with
      | nx σ2 => exact ⟨i + 1, hl, rfl, q⟩
      | ct σ2 => exact ⟨i + 1, hl, rfl, q⟩
      | bk σ2 => exact q
      | rt w => exact q
    · rw [List.drop_eq_nil_of_le (by omega)] at hx
      cases hx
  · obtain ⟨i, hi, hx, h⟩ := h
    have : i = l.length := by
      have := congrArg List.length hx
      simp only [List.length_nil, List.length_map, List.length_drop] at this
      omega
    subst this
    exact he σ S h
theorem rangeL_eq {lo : Int} {n : Nat} : rangeL lo n = (List.range n).map fun (i : Nat) => W.int (lo + (i : Int)) := (rfl)
theorem Sat.forRg {lo : Int} {n : Nat} {tg : Tg} {body : St'} {σ : Sl} {S : Hm} {Q : Fl → Hm → Prop} (I : Nat → Sl → Hm → Prop) (h0 : I 0 σ S)
    (hs : ∀ i σ S, i < n → I i σ S → @Sat' _ (tg (.int (lo + i)) σ S) ⟨fun σ1 S1 => @Sat' _ (body σ1 S1) ⟨fun f S2 => match f with
      | .nx σ2 => I (i + 1) σ2 S2
      | .ct σ2 => I (i + 1) σ2 S2
      | .bk σ2 => Q (.nx σ2) S2
      | .rt w => Q (.rt w) S2⟩⟩)
    (he : ∀ σ S, I n σ S → Q (.nx σ) S) : @Sat' _ (SB.forL tg body (rangeL lo n) σ S) ⟨Q⟩ := by
  rw [rangeL_eq]
  refine Sat.forMap I h0 (fun i x σ S hx h => ?_) (fun σ S h => ?_)
  · obtain ⟨hl, hx⟩ := List.getElem?_eq_some_iff.mp hx
    rw [List.length_range] at hl
    rw [List.getElem_range] at hx
    subst hx
    exact hs _ σ S hl h
  · rw [List.length_range] at h
    exact he σ S h
/-- a list of the own heap that stays as it is -/
theorem Sat.forH {a : Nat} {ws : List W} {tg : Tg} {body : St'} {σ : Sl} {S : Hm} {Q : Fl → Hm → Prop} (I : Nat → Sl → Hm → Prop) (hz : ws.length < sizeLine) (h0 : I 0 σ S)
    (hl : ∀ i σ S, I i σ S → heapAt S a = some (.lst ws))
    (hs : ∀ i x σ S, ws[i]? = some x → I i σ S → @Sat' _ (tg x σ S) ⟨fun σ1 S1 => @Sat' _ (body σ1 S1) ⟨fun f S2 => match f with
      | .nx σ2 => I (i + 1) σ2 S2
      | .ct σ2 => I (i + 1) σ2 S2
      | .bk σ2 => Q (.nx σ2) S2
      | .rt w => Q (.rt w) S2⟩⟩)
    (he : ∀ σ S, I ws.length σ S → Q (.nx σ) S) : @Sat' _ (forR tg body (fun S i => (srcL S (.rf a)).map fun xs => xs[i]?) bigN 0 σ S) ⟨Q⟩ := by
  refine Sat.mk (forR_all (J := Q) I ws.length (fun i σ S hi h => ?_) bigN 0 σ S (by unfold bigN; rw [sizeLine_eq] at hz; omega) (Nat.zero_le _) h0)
  by_cases hlt : i < ws.length
  · right
    refine ⟨ws[i], hlt, ?_, ?_⟩
    · rw [srcL_ref (hl i σ S h), List.getElem?_eq_getElem hlt]
    · obtain ⟨σ1, S1, e1, q⟩ := (hs i _ σ S (List.getElem?_eq_getElem hlt) h).get
      obtain ⟨f, S2, e2, q⟩ := q.get
      exact ⟨σ1, S1, e1, f, S2, e2, q⟩
  · left
    have : i = ws.length := by omega
    subst this
    refine ⟨?_, he σ S h⟩
    rw [srcL_ref (hl _ σ S h), List.getElem?_eq_none (Nat.le_refl _)]
theorem Sat.whl {t : T} {body : St'} {Q : Fl → Hm → Prop} (I : Nat → Sl → Hm → Prop)
    (hs : ∀ n σ S, I n σ S → @Sat' _ (t σ S) ⟨fun b S1 => if b = true then @Sat' _ (body σ S1) ⟨(fun f S2 => match f with
      | .nx σ2 => ∃ m, m < n ∧ I m σ2 S2
      | .ct σ2 => ∃ m, m < n ∧ I m σ2 S2
      | .bk σ2 => Q (.nx σ2) S2
      | .rt w => Q (.rt w) S2)⟩ else Q (.nx σ) S1⟩) : ∀ (n k : Nat) (σ : Sl) (S : Hm), n < k → I n σ S → @Sat' _ (whileN t body k σ S) ⟨Q⟩ := by
  intro n k
  induction k generalizing n with
  | zero => intro σ S h; omega
  | succ k ih =>
    intro σ S hk h
    obtain ⟨b, S1, e1, q⟩ := (hs n σ S h).get
    unfold whileN
    rw [e1]
    simp only [R.bind_ok]
    cases b with
    | false =>
      rw [if_neg Bool.false_ne_true] at q ⊢
      exact q
    | true =>
      rw [if_pos rfl] at q ⊢
      obtain ⟨f, S2, e2, q⟩ := q.get
      rw [e2]
      simp only [R.bind_ok]
      cases f with
      | nx σ2 =>
        obtain ⟨m, hm, q⟩ := q
        exact ih m σ2 S2 (by omega) q
      | ct σ2 =>
        obtain ⟨m, hm, q⟩ := q
        exact ih m σ2 S2 (by omega) q
      | bk σ2 => exact q
      | rt w => exact q
/-- a while of few turns -/
theorem Sat.whileI {t : T} {body : St'} {σ : Sl} {S : Hm} {Q : Fl → Hm → Prop} (I : Nat → Sl → Hm → Prop) (n : Nat) (hn : n < 1000000000) (h0 : I n σ S)
    (hs : ∀ n σ S, I n σ S → @Sat' _ (t σ S) ⟨fun b S1 => if b = true then @Sat' _ (body σ S1) ⟨(fun f S2 => match f with
      | .nx σ2 => ∃ m, m < n ∧ I m σ2 S2
      | .ct σ2 => ∃ m, m < n ∧ I m σ2 S2
      | .bk σ2 => Q (.nx σ2) S2
      | .rt w => Q (.rt w) S2)⟩ else Q (.nx σ) S1⟩) : @Sat' _ (whileN t body hugeN σ S) ⟨Q⟩ :=
  Sat.whl I hs n hugeN σ S (Nat.lt_of_lt_of_le hn (by unfold hugeN; decide)) h0
/-! ### comprehensions that leave the heap -/
theorem Sat.compMap {α : Type} {e : α → W} {tg : Tg} {cd : T} {el : E} {σ : Sl} {S : Hm} {p : α → Bool} {f : α → W} : ∀ (l : List α),
    (∀ x ∈ l, @Sat' _ (tg (e x) σ S) ⟨fun σ1 S1 => @Sat' _ (cd σ1 S1) ⟨fun b S2 => b = p x ∧ S2 = S ∧ (p x = true → @Sat' _ (el σ1 S2) ⟨fun w S3 => w = f x ∧ S3 = S⟩)⟩⟩) → compL tg cd el (l.map e) σ S = .ok ((l.filter p).map f) S
  | [], _ => rfl
  | x :: l, h => by
    have ih := Sat.compMap l fun y hy => h y (List.mem_cons_of_mem _ hy)
    obtain ⟨σ1, S1, e1, q⟩ := (h x List.mem_cons_self).get
    obtain ⟨b, S2, e2, rfl, rfl, q⟩ := q.get
    rw [List.map_cons]
    unfold compL
    rw [e1]
    simp only [R.bind_ok]
    rw [e2]
    simp only [R.bind_ok]
    cases hp : p x with
    | false =>
      rw [if_neg Bool.false_ne_true, List.filter_cons_of_neg (by rw [hp]; exact Bool.false_ne_true), ih]
    | true =>
      obtain ⟨w, S3, e3, rfl, rfl⟩ := (q hp).get
      rw [if_pos rfl, List.filter_cons_of_pos hp, e3]
      simp only [R.bind_ok]
      rw [ih]
      rfl
theorem filter_tt {α : Type} (l : List α) : l.filter (fun _ => true) = l := List.filter_eq_self.mpr fun _ _ => rfl
theorem Sat.compAll {α : Type} {e : α → W} {tg : Tg} {el : E} {σ : Sl} {S : Hm} {f : α → W} (l : List α)
    (h : ∀ x ∈ l, @Sat' _ (tg (e x) σ S) ⟨fun σ1 S1 => S1 = S ∧ @Sat' _ (el σ1 S1) ⟨fun w S3 => w = f x ∧ S3 = S⟩⟩) : compL tg tYes el (l.map e) σ S = .ok (l.map f) S := by
  have := Sat.compMap (p := fun _ => true) (cd := tYes) (tg := tg) (el := el) (σ := σ) (S := S) (f := f) (e := e) l fun x hx => by
    obtain ⟨σ1, S1, e1, rfl, q⟩ := (h x hx).get
    rw [e1, Sat.ok, ev_tyes, Sat.ok]
    exact ⟨rfl, rfl, fun _ => q⟩
  rw [filter_tt] at this
  exact this
/-- a comprehension over a list of the own heap, the heap left -/
theorem Sat.compH {a : Nat} {ws : List W} {tg : Tg} {el : E} {σ : Sl} {S : Hm} {f : W → W} (hz : ws.length < sizeLine) (hh : heapAt S a = some (.lst ws))
    (h : ∀ x ∈ ws, @Sat' _ (tg x σ S) ⟨fun σ1 S1 => S1 = S ∧ @Sat' _ (el σ1 S1) ⟨fun w S3 => w = f x ∧ S3 = S⟩⟩) : compR tg tYes el (fun S i => (srcL S (.rf a)).map fun xs => xs[i]?) bigN 0 σ S = .ok (ws.map f) S := by
  have go : ∀ (n i : Nat), ws.length < n + i → i ≤ ws.length → compR tg tYes el (fun S i => (srcL S (.rf a)).map fun xs => xs[i]?) n i σ S = .ok ((ws.drop i).map f) S := by
    intro n
    induction n with
    | zero => intro i hn hi; omega
    | succ n ih =>
      intro i hn hi
      unfold compR
      rw [srcL_ref hh]
      by_cases hl : i < ws.length
      · rw [List.getElem?_eq_getElem hl]
        simp only
        obtain ⟨σ1, S1, e1, rfl, q⟩ := (h _ (List.getElem_mem hl)).get
        obtain ⟨w, S3, e3, rfl, rfl⟩ := q.get
        rw [e1]
        simp only [R.bind_ok, ev_tyes, if_true]
        rw [e3]
        simp only [R.bind_ok]
        rw [ih (i + 1) (by omega) (by omega), List.drop_eq_getElem_cons hl]
        rfl
      · rw [List.getElem?_eq_none (by omega), List.drop_eq_nil_of_le (by omega)]
        rfl
  have := go bigN 0 (by unfold bigN; rw [sizeLine_eq] at hz; omega) (Nat.zero_le _)
  rw [List.drop_zero] at this
  exact this
/-! ### sizes of numbers -/
theorem bd_lit {a : Int} (h : a.natAbs < 2 ^ 64) : a.natAbs < 2 ^ 64 := h
theorem bd_up {n k l : Nat} (h : n < 2 ^ k) (hl : k ≤ l) : n < 2 ^ l := Nat.lt_of_lt_of_le h (Nat.pow_le_pow_right (by decide) hl)
theorem bd_add {a b : Int} {k l : Nat} (ha : a.natAbs < 2 ^ k) (hb : b.natAbs < 2 ^ l) : (a + b).natAbs < 2 ^ (max k l + 1) := natAbs_add_lt (bd_up ha (Nat.le_max_left _ _)) (bd_up hb (Nat.le_max_right _ _))
theorem bd_sub {a b : Int} {k l : Nat} (ha : a.natAbs < 2 ^ k) (hb : b.natAbs < 2 ^ l) : (a - b).natAbs < 2 ^ (max k l + 1) := natAbs_sub_lt (bd_up ha (Nat.le_max_left _ _)) (bd_up hb (Nat.le_max_right _ _))
theorem bd_mul {a b : Int} {k l : Nat} (ha : a.natAbs < 2 ^ k) (hb : b.natAbs < 2 ^ l) : (a * b).natAbs < 2 ^ (k + l) := natAbs_mul_lt ha hb
theorem bd_neg {a : Int} {k : Nat} (ha : a.natAbs < 2 ^ k) : (-a).natAbs < 2 ^ k := by rw [Int.natAbs_neg]; exact ha
theorem bd_nat {n k : Nat} (h : n < 2 ^ k) : (n : Int).natAbs < 2 ^ k := by rw [Int.natAbs_natCast]; exact h
theorem bd_sq {a : Int} {k : Nat} (ha : a.natAbs < 2 ^ k) : (a ^ 2).natAbs < 2 ^ (k + k) := by
  rw [show a ^ 2 = a * a by rw [Int.pow_succ, Int.pow_succ, Int.pow_zero, Int.one_mul]]
  exact natAbs_mul_lt ha ha
/-- the same heap but for what is new and for d -/
theorem Keep.kb {S S' : Hm} (k : Keep S S') (d : Nat) : KB d S S' := ⟨k.len, fun a h _ => k.at_ a h⟩
/-! ### a part of a constant tuple -/
theorem Sat.pick {xs : List W} {v : Int} {S : Hm} {Q : W → Hm → Prop} (h0 : 0 ≤ v) (h1 : v < xs.length) (h : ∀ x ∈ xs, Q x S) : @Sat' _ (fIdx (.tup xs) (.int v) S) ⟨Q⟩ := by
  obtain ⟨n, rfl⟩ : ∃ n : Nat, v = n := ⟨v.toNat, by omega⟩
  have hn : n < xs.length := by omega
  rw [o_idxT, atI_natS, List.getElem?_eq_getElem hn]
  exact h _ (List.getElem_mem hn)
theorem Sat.pickO {xs : List W} {v : Int} {S : Hm} {Q : W → Hm → Prop} (h0 : 0 ≤ v) (h1 : v < xs.length) (h : ∀ x ∈ xs, Q x S) : @Sat' _ (opt (atI xs v) S) ⟨Q⟩ := by
  have := Sat.pick (S := S) (Q := Q) h0 h1 h
  rwa [o_idxT] at this
@[simp] theorem kTup_s {xs : List W} {S : Hm} (h : xs.length ≤ 16777216) : kTup xs S = .ok (.tup xs) S := kTup_of (sz_of h)
@[simp] theorem kDisp_s {xs : List W} {S : Hm} (h : xs.length ≤ 16777216) : kDisp xs S = .ok xs S := kDisp_of (sz_of h)
theorem sq_0 {a : Int} (h : a * a = 0) : a = 0 := by
  rcases Int.mul_eq_zero.mp h with h | h <;> exact h
/-- a comprehension whose turns let the heap grow -/
theorem Sat.compKeep {α : Type} {e : α → W} {tg : Tg} {el : E} {σ : Sl} {f : α → W} : ∀ (l : List α) (S : Hm),
    (∀ x ∈ l, ∀ S, @Sat' _ (tg (e x) σ S) ⟨fun σ1 S1 => S1 = S ∧ @Sat' _ (el σ1 S1) ⟨fun w S3 => w = f x ∧ Keep S S3⟩⟩) → ∃ S', compL tg tYes el (l.map e) σ S = .ok (l.map f) S' ∧ Keep S S'
  | [], S, _ => ⟨S, rfl, Keep.refl S⟩
  | x :: l, S, h => by
    obtain ⟨σ1, S1, e1, rfl, q⟩ := (h x List.mem_cons_self S).get
    obtain ⟨w, S3, e3, rfl, k3⟩ := q.get
    obtain ⟨S', e4, k4⟩ := Sat.compKeep l S3 fun y hy => h y (List.mem_cons_of_mem _ hy)
    refine ⟨S', ?_, k3.trans k4⟩
    rw [List.map_cons]
    unfold compL
    rw [e1]
    simp only [R.bind_ok, ev_tyes, if_true]
    rw [e3]
    simp only [R.bind_ok]
    rw [e4]
    rfl
theorem fAny_bls {bs : List Bool} {S : Hm} : fAny [.fl (bs.map W.bl)] S = .ok (.bl (bs.any id)) S := by
  unfold fAny
  simp only [o_lstF, Option.bind_some, blsW_all]
theorem fAny_of {α : Type} {l : List α} {p : α → Bool} {S : Hm} : fAny [.fl (l.map fun x => W.bl (p x))] S = .ok (.bl (l.any p)) S := by
  have := fAny_bls (bs := l.map p) (S := S)
  rw [List.map_map, List.any_map] at this
  exact this
theorem fAll_of {α : Type} {l : List α} {p : α → Bool} {S : Hm} : fAll [.fl (l.map fun x => W.bl (p x))] S = .ok (.bl (l.all p)) S := by
  have := fAll_bls (bs := l.map p) (S := S)
  rw [List.map_map, List.all_map] at this
  exact this
theorem kRg2_of {i j : Int} {S : Hm} (h : (rangeOk i && rangeOk j) = true) : kRg2 (.int i) (.int j) S = .ok (.seq (rangeL i (j - i).toNat)) S := by
  unfold kRg2
  exact if_pos h
theorem rangeOk_of {i : Int} (h1 : -1000000000000 ≤ i) (h2 : i ≤ 1000000000000) : rangeOk i = true := by
  unfold rangeOk
  simp
  omega
/-! ### sorted -/
theorem fSorted_of {xs : List W} {S : Hm} (h : SrtOk xs) : fSorted [.fl xs] S = .ok (xs.mergeSort leW) S := by
  unfold fSorted
  simp only [o_lstF]
  exact if_pos h
theorem sorted_map {α : Type} {e : α → W} {le : α → α → Bool} {l : List α} (h : ∀ a ∈ l, ∀ b ∈ l, le a b = leW (e a) (e b)) : (l.map e).mergeSort leW = (l.mergeSort le).map e := (List.map_mergeSort h).symm
theorem leW_eq {a b : W} : leW a b = !PySem.W.dataLt (datW b) (datW a) := rfl
@[simp] theorem fTuple_fl {xs : List W} {S : Hm} : fTuple [.fl xs] S = .ok (.tup xs) S := (rfl)
@[simp] theorem fTuple_tup {xs : List W} {S : Hm} : fTuple [.tup xs] S = .ok (.tup xs) S := (rfl)
end SB
/-! SB, part 21: dicts, instances and the rest, evaluated. -/
namespace SB
open PySem PySem.Spec PyProof.Rows L2
noncomputable section
def kDG (b : E) (σ : Sl) (x : W) (S : Hm) : R W := (b σ S).bind (fDGet x)
def kDI (n : Bool) (b : E) (σ : Sl) (y : W) (S : Hm) : R W := (b σ S).bind (fDIn n y)
def kD1 (a : E) (σ : Sl) (x : W) (S1 : Hm) : R W := match dicOf S1 x with
  | some _ => (a σ S1).bind fun y S2 => (match dicOf S2 x with
    | some kvs => if isKey y = true then .ok ((getW kvs y).getD .non) S2 else .stuck
    | none => .stuck)
  | none => .stuck
def kD1b (x y : W) (S2 : Hm) : R W := match dicOf S2 x with
  | some kvs => if isKey y = true then .ok ((getW kvs y).getD .non) S2 else .stuck
  | none => .stuck
def kD2 (a b : E) (σ : Sl) (x : W) (S1 : Hm) : R W := match dicOf S1 x with
  | some _ => (a σ S1).bind fun y S2 => (b σ S2).bind fun z S3 => (match dicOf S3 x with
    | some kvs => if isKey y = true then .ok ((getW kvs y).getD z) S3 else .stuck
    | none => .stuck)
  | none => .stuck
def kD2b (b : E) (σ : Sl) (x y : W) (S2 : Hm) : R W := (b σ S2).bind fun z S3 => (match dicOf S3 x with
    | some kvs => if isKey y = true then .ok ((getW kvs y).getD z) S3 else .stuck
    | none => .stuck)
def kD2c (x y z : W) (S3 : Hm) : R W := match dicOf S3 x with
    | some kvs => if isKey y = true then .ok ((getW kvs y).getD z) S3 else .stuck
    | none => .stuck
def kP1 (d a : E) (σ : Sl) (v : W) (S1 : Hm) : R Fl := (d σ S1).bind fun x S2 => (a σ S2).bind fun y S3 => (fDPut x y v S3).bind fun S4 _ => .ok (.nx σ) S4
def kP2 (a : E) (σ : Sl) (v x : W) (S2 : Hm) : R Fl := (a σ S2).bind fun y S3 => (fDPut x y v S3).bind fun S4 _ => .ok (.nx σ) S4
def kP3 (σ : Sl) (v x y : W) (S3 : Hm) : R Fl := (fDPut x y v S3).bind fun S4 _ => .ok (.nx σ) S4
def kMZ (C : Str) (f : Fn) (dws xs : List W) (S1 : Hm) : R W := (f (.ref S1.length :: (xs ++ dws)) (S1 ++ [some (.ins C [] [])])).bind fun r S2 => match r with
  | .non => (match heapAt S2 S1.length with
    | some (.ins D ks vs) => if D = C then .ok (.obj C ks vs) (S2.set S1.length none) else .stuck
    | _ => .stuck)
  | _ => .stuck
def kMZ2 (C : Str) (a : Nat) (r : W) (S2 : Hm) : R W := match r with
  | .non => (match heapAt S2 a with
    | some (.ins D ks vs) => if D = C then .ok (.obj C ks vs) (S2.set a none) else .stuck
    | _ => .stuck)
  | _ => .stuck
def kMH (C : Str) (f : Fn) (dws xs : List W) (S1 : Hm) : R W := (f (.ref S1.length :: (xs ++ dws)) (S1 ++ [some (.ins C [] [])])).bind fun r S2 => match r with
  | .non => .ok (.ref S1.length) S2
  | _ => .stuck
def kMH2 (a : Nat) (r : W) (S2 : Hm) : R W := match r with
  | .non => .ok (.ref a) S2
  | _ => .stuck
def kLk (a : Nat) (kvs : List (W × W)) (f : Fl) (S3 : Hm) : R Fl := match heapAt S3 a with
      | some (.lkd _) => .ok f (S3.set a (some (.dic kvs)))
      | _ => .stuck
def kID (k : DK) (x : W) (S1 : Hm) : R Itr' := match x with
  | .ref p => (match heapAt S1 p with
    | some (.lkd kvs) => .ok (.seq (dWalk k kvs)) S1
    | _ => .stuck)
  | _ => .stuck
def kExt (σ : Sl) (i : Nat) (w : W) (S1 : Hm) : R Fl := match getOwn σ i with
  | some (.lst xs) => (match lstOf S1 w with
    | some ys => if xs.length + ys.length ≤ sizeLine then .ok (.nx (σ.set i (some (.own (.lst (xs ++ ys)))))) S1 else .stuck
    | none => .stuck)
  | _ => .stuck
def kRev (x : W) (S1 : Hm) : R (List W) := match lstOf S1 x with
  | some xs => .ok xs.reverse S1
  | none => .stuck
def kAug (σ : Sl) (i : Nat) (x y : W) (S1 : Hm) : R Fl := match x, y with
    | .int p, .int q => .ok (.nx (σ.set i (some (.val (.int (p + q)))))) S1
    | _, _ => .stuck
def kAug0 (e : E) (σ : Sl) (i : Nat) (x : W) (S : Hm) : R Fl := (e σ S).bind (kAug σ i x)
def kFA (C0 f : Str) (σ : Sl) (a : Nat) (p : Int) (y : W) (S1 : Hm) : R Fl := match y with
        | .int q => (match heapAt S1 a with
          | some (.ins C ks vs) => if C = C0 ∧ ks.length < 1000 then .ok (.nx σ) (S1.set a (some (.ins C (putKV f (.int (p + q)) ks vs).1 (putKV f (.int (p + q)) ks vs).2))) else .stuck
          | _ => .stuck)
        | _ => .stuck
def kFA0 (f : Str) (e : E) (σ : Sl) (x : W) (S : Hm) : R Fl := match x with
  | .ref a => (match heapAt S a with
    | some (.ins C0 _ _) => (match fldOf S f (.ref a) with
      | some (.int p) => (e σ S).bind (kFA C0 f σ a p)
      | _ => .stuck)
    | _ => .stuck)
  | _ => .stuck
section
variable {σ : Sl} {S : Hm} {a b d e : E} {as : As} {w x y z : W} {xs ys : List W} {m : St'} {i p : Nat} {kvs : List (W × W)}
@[simp] theorem ev_dict0 : eDict0 σ S = .ok (.ref S.length) (S ++ [some (.dic [])]) := (rfl)
@[simp] theorem ev_dget : eDGet a b σ S = (a σ S).bind (kDG b σ) := (rfl)
@[simp] theorem ev_dget_ : kDG b σ x S = (b σ S).bind (fDGet x) := (rfl)
@[simp] theorem ev_din {n : Bool} : eDIn n a b σ S = (a σ S).bind (kDI n b σ) := (rfl)
@[simp] theorem ev_din_ {n : Bool} : kDI n b σ y S = (b σ S).bind (fDIn n y) := (rfl)
@[simp] theorem ev_dget1 : eDGet1 d a σ S = (d σ S).bind (kD1 a σ) := (rfl)
@[simp] theorem ev_dget2 : eDGet2 d a b σ S = (d σ S).bind (kD2 a b σ) := (rfl)
@[simp] theorem ev_dget2b : kD2b b σ x y S = (b σ S).bind (kD2c x y) := (rfl)
@[simp] theorem ev_dput : SB.sDPut d a e σ S = (e σ S).bind (kP1 d a σ) := (rfl)
@[simp] theorem ev_dput1 : kP1 d a σ w S = (d σ S).bind (kP2 a σ w) := (rfl)
@[simp] theorem ev_dput2 : kP2 a σ w x S = (a σ S).bind (kP3 σ w x) := (rfl)
@[simp] theorem ev_mkz {C : Str} {f : Fn} {ds : List W} : eMkZ C f ds as σ S = (as σ S).bind (kMZ C f ds) := (rfl)
@[simp] theorem ev_mkz1 {C : Str} {f : Fn} {ds : List W} : kMZ C f ds xs S = (f (.ref S.length :: (xs ++ ds)) (S ++ [some (.ins C [] [])])).bind (kMZ2 C S.length) := (rfl)
@[simp] theorem ev_mkh {C : Str} {f : Fn} {ds : List W} : eMkH C f ds as σ S = (as σ S).bind (kMH C f ds) := (rfl)
@[simp] theorem ev_mkh1 {C : Str} {f : Fn} {ds : List W} : kMH C f ds xs S = (f (.ref S.length :: (xs ++ ds)) (S ++ [some (.ins C [] [])])).bind (kMH2 S.length) := (rfl)
@[simp] theorem ev_mkh2 : kMH2 p .non S = .ok (.ref p) S := (rfl)
@[simp] theorem ev_idict {k : DK} : iDict k a σ S = (a σ S).bind (kID k) := (rfl)
@[simp] theorem ev_ext : sExt i e σ S = (e σ S).bind (kExt σ i) := (rfl)
@[simp] theorem ev_rev : lRev a σ S = (a σ S).bind kRev := (rfl)
@[simp] theorem ev_revF : kRev (.fl xs) S = .ok xs.reverse S := (rfl)
@[simp] theorem ev_pthv : (Pth.v i).e = eVar i := (rfl)
@[simp] theorem ev_pthf {f : Str} : (Pth.f i f).e = eFld (eVar i) f := (rfl)
@[simp] theorem ev_aug : SB.sAug i e σ S = (opt (getSlot σ i) S).bind (kAug0 e σ i) := by
  unfold SB.sAug
  cases getSlot σ i <;> rfl
@[simp] theorem ev_aug0 : kAug0 e σ i x S = (e σ S).bind (kAug σ i x) := (rfl)
@[simp] theorem ev_aug1 {p q : Int} : kAug σ i (.int p) (.int q) S = .ok (.nx (σ.set i (some (.val (.int (p + q)))))) S := (rfl)
@[simp] theorem ev_faug {f : Str} : sFAug i f e σ S = (opt (getSlot σ i) S).bind (kFA0 f e σ) := by
  unfold sFAug kFA0
  cases getSlot σ i with
  | none => rfl
  | some x => cases x <;> rfl
theorem ev_faug0 {f C : Str} {ks : List Str} {vs : List W} {v : Int} (h : heapAt S p = some (.ins C ks vs)) (hf : (ks.zip vs).lookup f = some (.int v)) : kFA0 f e σ (.ref p) S = (e σ S).bind (kFA C f σ p v) := by
  unfold kFA0
  have : fldOf S f (.ref p) = some (.int v) := by
    unfold fldOf
    simp only [h]
    exact hf
  simp only [h, this]
theorem ev_faug1 {f C : Str} {ks : List Str} {vs : List W} {v q : Int} (h : heapAt S p = some (.ins C ks vs)) (hk : ks.length < 1000) : kFA C f σ p v (.int q) S = .ok (.nx σ) (S.set p (some (.ins C (putKV f (.int (v + q)) ks vs).1 (putKV f (.int (v + q)) ks vs).2))) := by
  unfold kFA
  simp only [h]
  rw [if_pos ⟨trivial, hk⟩]
theorem dic_d (h : heapAt S p = some (.dic kvs)) : dicOf S (.ref p) = some kvs := by
  unfold dicOf
  simp only [h]
theorem dic_l (h : heapAt S p = some (.lkd kvs)) : dicOf S (.ref p) = some kvs := by
  unfold dicOf
  simp only [h]
theorem dget_of (h : dicOf S x = some kvs) (k : isKey y = true) : fDGet x y S = opt (getW kvs y) S := by
  unfold fDGet
  rw [h]
  exact if_pos k
theorem din_of {n : Bool} (h : dicOf S x = some kvs) (k : isKey y = true) : fDIn n y x S = .ok (.bl (xor n (getW kvs y).isSome)) S := by
  unfold fDIn
  rw [h]
  exact if_pos k
theorem d2_of (h : dicOf S x = some kvs) : kD2 a b σ x S = (a σ S).bind (kD2b b σ x) := by
  unfold kD2
  rw [h]
  rfl
theorem d2c_of (h : dicOf S x = some kvs) (k : isKey y = true) : kD2c x y z S = .ok ((getW kvs y).getD z) S := by
  unfold kD2c
  rw [h]
  exact if_pos k
theorem d1_of (h : dicOf S x = some kvs) : kD1 a σ x S = (a σ S).bind (kD1b x) := by
  unfold kD1
  rw [h]
  rfl
theorem d1b_of (h : dicOf S x = some kvs) (k : isKey y = true) : kD1b x y S = .ok ((getW kvs y).getD .non) S := by
  unfold kD1b
  rw [h]
  exact if_pos k
theorem dput_of (h : heapAt S p = some (.dic kvs)) (k : isKey y = true) (hl : kvs.length < 16777216) : kP3 σ w (.ref p) y S = .ok (.nx σ) (S.set p (some (.dic (putW kvs y w)))) := by
  unfold kP3 fDPut
  simp only [h]
  rw [if_pos k, if_pos (by rw [sizeLine_eq]; exact hl)]
  rfl
theorem mkz_of {C : Str} {ks : List Str} {vs : List W} (h : heapAt S p = some (.ins C ks vs)) : kMZ2 C p .non S = .ok (.obj C ks vs) (S.set p none) := by
  unfold kMZ2
  simp only [h]
  rw [if_pos trivial]
theorem lock_of {q : Pth} (h1 : q.e σ S = .ok (.ref p) S) (h2 : heapAt S p = some (.dic kvs)) : sLock q m σ S = (m σ (S.set p (some (.lkd kvs)))).bind (kLk p kvs) := by
  unfold sLock
  rw [h1]
  simp only [h2]
  rfl
theorem lk_of {f : Fl} {ks : List (W × W)} (h : heapAt S p = some (.lkd ks)) : kLk p kvs f S = .ok f (S.set p (some (.dic kvs))) := by
  unfold kLk
  simp only [h]
theorem id_of {k : DK} (h : heapAt S p = some (.lkd kvs)) : kID k (.ref p) S = .ok (.seq (dWalk k kvs)) S := by
  unfold kID
  simp only [h]
theorem fSortedX_fl (h : SrtOk xs) : fSortedX [.fl xs] S = .ok (xs.mergeSort leW) S := by
  unfold fSortedX
  simp only [o_lstF]
  exact if_pos h
theorem fSortedX_dic (h : dicOf S (.ref p) = some kvs) (hs : SrtOk (kvs.map (·.1))) (hl : kvs.length ≤ 16777216) : fSortedX [.ref p] S = .ok ((kvs.map (·.1)).mergeSort leW) S := by
  have h0 : lstOf S (.ref p) = none := by
    unfold dicOf at h
    unfold lstOf
    simp only at h ⊢
    split at h <;> rename_i e <;> first | (cases h; done) | simp only [e]
  unfold fSortedX
  simp only [h0, h]
  exact if_pos ⟨hs, by rw [sizeLine_eq]; exact hl⟩
theorem eqW_data {d d2 : PyData} (hx : toD (deref S x) = some d) (hy : toD (deref S y) = some d2) (h1 : SeqAt.shaped d = true) (h2 : SeqAt.shaped d2 = true) (hn : eqW S x y = eqD S x y) : eqW S x y = some (PyData.eqv d d2) := by
  rw [hn]
  unfold eqD
  rw [hx, hy]
  simp only [h1, h2, Bool.and_self, if_true]
theorem fEq_data {d d2 : PyData} (hx : toD (deref S x) = some d) (hy : toD (deref S y) = some d2) (h1 : SeqAt.shaped d = true) (h2 : SeqAt.shaped d2 = true) (hn : eqW S x y = eqD S x y := by rfl) : fEq x y S = .ok (.bl (PyData.eqv d d2)) S := by
  unfold fEq
  rw [eqW_data hx hy h1 h2 hn]
theorem fNe_data {d d2 : PyData} (hx : toD (deref S x) = some d) (hy : toD (deref S y) = some d2) (h1 : SeqAt.shaped d = true) (h2 : SeqAt.shaped d2 = true) (hn : eqW S x y = eqD S x y := by rfl) : fNe x y S = .ok (.bl (!PyData.eqv d d2)) S := by
  unfold fNe
  rw [eqW_data hx hy h1 h2 hn]
/-- lists of different lengths -/
theorem fEq_len (hx : lstOf S x = some xs) (hy : lstOf S y = some ys) (h : xs.length ≠ ys.length) (hn : eqW S x y = none ∨ eqW S x y = some false) : fEq x y S = .ok (.bl false) S := by
  unfold fEq
  rcases hn with e | e <;> rw [e]
  simp only [lenNe, hx, hy, h, ne_eq, not_false_eq_true, decide_true, if_true]
theorem setF_of {C f : Str} {ks : List Str} {vs : List W} (hs : σ[i]? = some (some (.val (.ref p)))) (h : heapAt S p = some (.ins C ks vs)) (hk : ks.length < 1000) : kSetF i f σ w S = .ok (.nx σ) (S.set p (some (.ins C (putKV f w ks vs).1 (putKV f w ks vs).2))) := by
  unfold kSetF
  simp only [hs, h]
  exact if_pos hk
theorem fld_of {C f : Str} {ks : List Str} {vs : List W} (h : heapAt S p = some (.ins C ks vs)) : fldOf S f (.ref p) = (ks.zip vs).lookup f := by
  unfold fldOf
  simp only [h]
theorem isi_of {C : Str} {ks : List Str} {vs : List W} {ns : List Ty} (h : heapAt S p = some (.ins C ks vs)) : kIsi ns (.ref p) S = .ok (.bl (ns.any fun n => isTy (.c C) n)) S := by
  unfold kIsi tyW
  simp only [h]
theorem isi_obj {C : Str} {ks : List Str} {vs : List W} {ns : List Ty} : kIsi ns (.obj C ks vs) S = .ok (.bl (ns.any fun n => isTy (.c C) n)) S := (rfl)
theorem meth_of {z C : Str} {tab : Str → Option Fn} {ks : List Str} {vs : List W} {f : Fn} (h : heapAt S p = some (.ins C ks vs)) (hf : tab C = some f) (hk : ks.contains z = false) : kMeth z tab as σ (.ref p) S = (as σ S).bind (kMth2 f (.ref p)) := by
  have h1 : clsOf S (.ref p) = some C := by
    unfold clsOf
    simp only [h]
  have h2 : keysAt S (.ref p) = ks := by
    unfold keysAt
    simp only [h]
  unfold kMeth
  simp only [h1, hf, h2, hk]
  exact if_neg Bool.false_ne_true
theorem set_new {o o' : Option MO} : (S ++ [o]).set S.length o' = S ++ [o'] := by
  rw [List.set_append_right _ _ (Nat.le_refl _), Nat.sub_self]
  rfl
theorem atI_lastM {α : Type} {l : List α} {f : α → W} : atI (l.map f) (-1) = l.getLast?.map f := by
  rcases List.eq_nil_or_concat l with h | ⟨l', x, h⟩
  · subst h; rfl
  · subst h
    rw [List.concat_eq_append, List.map_append]
    show atI (l'.map f ++ [f x]) (-1) = _
    rw [atI_last, List.getLast?_append]
    rfl
/-! ### tables: texts to lists -/
def look {α : Type} : List (Str × List α) → Str → Option (List α)
  | [], _ => none
  | q :: r, k => if q.1 = k then some q.2 else look r k
def tput {α : Type} (M : List (Str × List α)) (k : Str) (l : List α) : List (Str × List α) := if (look M k).isSome = true then M.map (fun q => if q.1 = k then (q.1, l) else q) else M ++ [(k, l)]
def tmv {α : Type} (f : α → W) (M : List (Str × List α)) : List (W × W) := M.map fun q => (W.str q.1, W.fl (q.2.map f))
theorem get_tmv {α : Type} {f : α → W} {k : Str} : ∀ {M : List (Str × List α)}, getW (tmv f M) (.str k) = (look M k).map fun l => W.fl (l.map f)
  | [] => rfl
  | q :: r => by
    show (if keyB (.str q.1) (.str k) = true then some (W.fl (q.2.map f)) else getW (tmv f r) (.str k)) = _
    rw [get_tmv (M := r)]
    show (if decide (q.1 = k) = true then _ else _) = (if q.1 = k then some q.2 else look r k).map _
    by_cases h : q.1 = k
    · rw [if_pos (decide_eq_true h), if_pos h]; rfl
    · rw [if_neg (by simpa using h), if_neg h]
theorem has_tmv {α : Type} {f : α → W} {k : Str} : ∀ {M : List (Str × List α)}, hasW (tmv f M) (.str k) = (look M k).isSome
  | [] => rfl
  | q :: r => by
    show (keyB (.str q.1) (.str k) || hasW (tmv f r) (.str k)) = _
    rw [has_tmv (M := r)]
    show (decide (q.1 = k) || _) = (if q.1 = k then some q.2 else look r k).isSome
    by_cases h : q.1 = k
    · rw [if_pos h, decide_eq_true h]; rfl
    · rw [if_neg h, decide_eq_false h, Bool.false_or]
theorem put_tmv {α : Type} {f : α → W} {k : Str} {l : List α} {M : List (Str × List α)} : putW (tmv f M) (.str k) (.fl (l.map f)) = tmv f (tput M k l) := by
  unfold putW tput
  rw [has_tmv]
  by_cases h : (look M k).isSome = true
  · rw [if_pos h, if_pos h]
    unfold tmv
    rw [List.map_map, List.map_map]
    refine List.map_congr_left fun q _ => ?_
    show (if keyB (.str q.1) (.str k) = true then (W.str q.1, W.fl (l.map f)) else (W.str q.1, W.fl (q.2.map f))) = _
    show (if decide (q.1 = k) = true then _ else _) = _
    show _ = (fun q : Str × List α => (W.str q.1, W.fl (q.2.map f))) (if q.1 = k then (q.1, l) else q)
    by_cases h : q.1 = k
    · rw [if_pos (decide_eq_true h), if_pos h]
    · rw [if_neg (by simpa using h), if_neg h]
  · rw [if_neg h, if_neg h]
    unfold tmv
    rw [List.map_append]
    rfl
theorem look_put {α : Type} {k : Str} {l : List α} {M : List (Str × List α)} : ∀ x ∈ tput M k l, x = (k, l) ∨ x ∈ M := fun x hx => by
  unfold tput at hx
  split at hx
  · obtain ⟨q, hq, rfl⟩ := List.mem_map.mp hx
    by_cases h : q.1 = k
    · rw [if_pos h, h]; exact .inl rfl
    · rw [if_neg h]; exact .inr hq
  · rcases List.mem_append.mp hx with h | h
    · exact .inr h
    · exact .inl (List.mem_singleton.mp h)
theorem look_mem {α : Type} {k : Str} {l : List α} : ∀ {M : List (Str × List α)}, look M k = some l → (k, l) ∈ M
  | [], h => by cases h
  | q :: r, h => by
    unfold look at h
    split at h
    · rename_i e
      cases h
      rw [← e]
      exact List.mem_cons_self
    · exact List.mem_cons_of_mem _ (look_mem h)
theorem look_none {α : Type} {k : Str} : ∀ {M : List (Str × List α)}, look M k = none → k ∉ M.map (·.1)
  | [], _ => by simp
  | q :: r, h => by
    unfold look at h
    split at h
    · cases h
    · rename_i e
      rw [List.map_cons, List.mem_cons]
      rintro (z | z)
      · exact e z.symm
      · exact look_none h z
theorem tput_keys {α : Type} {k : Str} {l : List α} {M : List (Str × List α)} (h : (M.map (·.1)).Nodup) : ((tput M k l).map (·.1)).Nodup := by
  unfold tput
  split
  · rw [List.map_map]
    have : ((fun x : Str × List α => x.1) ∘ fun q => if q.1 = k then (q.1, l) else q) = fun q => q.1 := by
      funext q
      show (if q.1 = k then (q.1, l) else q).1 = q.1
      split <;> rfl
    rw [this]
    exact h
  · rename_i e
    have e' : look M k = none := by
      cases hl : look M k with
      | none => rfl
      | some z => rw [hl] at e; exact absurd rfl e
    rw [List.map_append]
    refine List.nodup_append.mpr ⟨h, by simp, fun a ha b hb => ?_⟩
    simp only [List.map_cons, List.map_nil, List.mem_singleton] at hb
    subst hb
    exact fun z => look_none e' (z ▸ ha)
theorem tput_len {α : Type} {k : Str} {l : List α} {M : List (Str × List α)} : (tput M k l).length ≤ M.length + 1 := by
  unfold tput
  split
  · rw [List.length_map]; omega
  · rw [List.length_append]; exact Nat.le_refl _
theorem look_of_mem {α : Type} {k : Str} {l : List α} : ∀ {M : List (Str × List α)}, (M.map (·.1)).Nodup → (k, l) ∈ M → look M k = some l
  | [], _, h => by cases h
  | q :: r, hn, h => by
    unfold look
    rw [List.map_cons, List.nodup_cons] at hn
    rcases List.mem_cons.mp h with h | h
    · rw [← h, if_pos rfl]
    · rw [if_neg (fun e : q.1 = k => hn.1 (by rw [e]; exact List.mem_map_of_mem (f := (·.1)) h)), look_of_mem hn.2 h]
theorem tmv_keys {α : Type} {f : α → W} {M : List (Str × List α)} : (tmv f M).map (·.1) = M.map fun q => W.str q.1 := by
  unfold tmv
  rw [List.map_map]
  rfl
/-! ### comprehensions that draw -/
theorem Sat.compI {tg : Tg} {el : E} (I : Hm → Prop) (P : W → Prop) : ∀ (xs : List W) (S : Hm), I S → (∀ x ∈ xs, ∀ S, I S → @Sat' _ (tg x σ S) ⟨fun σ1 S1 => @Sat' _ (el σ1 S1) ⟨fun w S3 => P w ∧ I S3⟩⟩) →
    @Sat' _ (compL tg tYes el xs σ S) ⟨fun ws S' => ws.length = xs.length ∧ (∀ w ∈ ws, P w) ∧ I S'⟩
  | [], S, hI, _ => ⟨rfl, fun w h => (by cases h), hI⟩
  | x :: xs, S, hI, h => by
    obtain ⟨σ1, S1, e1, q⟩ := (h x List.mem_cons_self S hI).get
    obtain ⟨w, S3, e3, hw, hI3⟩ := q.get
    obtain ⟨ws, S', e4, hl, hp, hI'⟩ := (Sat.compI I P xs S3 hI3 fun y hy => h y (List.mem_cons_of_mem _ hy)).get
    refine Sat.of_eq (a := w :: ws) (S := S') ?_ ⟨by rw [List.length_cons, List.length_cons, hl], fun y hy => ?_, hI'⟩
    · unfold compL
      rw [e1]
      simp only [R.bind_ok, ev_tyes, if_true]
      rw [e3]
      simp only [R.bind_ok]
      rw [e4]
      rfl
    · rcases List.mem_cons.mp hy with rfl | hy
      · exact hw
      · exact hp y hy
theorem map_of {α : Type} {f : α → W} {Q : α → Prop} : ∀ {ws : List W}, (∀ w ∈ ws, ∃ a, w = f a ∧ Q a) → ∃ as : List α, ws = as.map f ∧ as.length = ws.length ∧ ∀ a ∈ as, Q a
  | [], _ => ⟨[], rfl, rfl, fun a h => by cases h⟩
  | w :: ws, h => by
    obtain ⟨a, rfl, hq⟩ := h w List.mem_cons_self
    obtain ⟨as, rfl, hl, hqs⟩ := map_of fun w' hw' => h w' (List.mem_cons_of_mem _ hw')
    refine ⟨a :: as, rfl, by simp, fun b hb => ?_⟩
    rcases List.mem_cons.mp hb with rfl | hb
    · exact hq
    · exact hqs b hb
/-! ### shapes -/
theorem canAll {ds : List PyData} (h : ∀ d ∈ ds, d.canLay0 = true) : PyData.canLayAll0 ds = true := by
  induction ds with
  | nil => rfl
  | cons d ds ih =>
    unfold PyData.canLayAll0
    rw [h d List.mem_cons_self, ih fun e he => h e (List.mem_cons_of_mem _ he)]
    rfl
theorem depAll {ds : List PyData} {n : Nat} (h : ∀ d ∈ ds, d.depth ≤ n) : PyData.depthAll ds ≤ n := by
  induction ds with
  | nil => exact Nat.zero_le _
  | cons d ds ih =>
    unfold PyData.depthAll
    exact Nat.max_le.mpr ⟨h d List.mem_cons_self, ih fun e he => h e (List.mem_cons_of_mem _ he)⟩
theorem shaped_list {ds : List PyData} {n : Nat} (h : ∀ d ∈ ds, d.canLay0 = true ∧ d.depth ≤ n) (hn : n < 64) : SeqAt.shaped (.list ds) = true := by
  unfold SeqAt.shaped
  simp only [PyData.canLay0, PyData.depth]
  rw [canAll fun d hd => (h d hd).1]
  have := depAll fun d hd => (h d hd).2
  rw [Bool.true_and]
  exact decide_eq_true (by omega)
theorem ne_same {d : PyData} (hx : toD (deref S x) = some d) (hy : toD (deref S y) = some d) (h : SeqAt.shaped d = true) (hn : eqW S x y = eqD S x y := by rfl) : fNe x y S = .ok (.bl false) S := by
  rw [fNe_data hx hy h h hn, SeqAt.eqv_refl d (SeqAt.canLay_of_shaped h)]
  rfl
theorem deref_of {xs : List W} (h : heapAt S p = some (.lst xs)) : deref S (.ref p) = .fl xs := by
  unfold deref
  simp only [h]
theorem cut_last {α : Type} {l : List α} : cutG l (some (-1)) none = l.getLast?.toList := by
  unfold cutG
  rcases List.eq_nil_or_concat l with h | ⟨l', x, h⟩
  · subst h; rfl
  · subst h
    rw [List.concat_eq_append]
    have e : HT.sIx (l' ++ [x]).length 0 (some (-1)) = l'.length := by
      show (if (-1 : Int) < 0 then ((-1 : Int) + ((l' ++ [x]).length : Int)).toNat else min (-1 : Int).toNat (l' ++ [x]).length) = _
      rw [if_pos (by decide), List.length_append, List.length_singleton]
      omega
    rw [e, HT.sIx_none, List.drop_left, List.getLast?_append]
    rw [List.take_of_length_le (by simp)]
    rfl
theorem fAdd_tup (h1 : xs ≠ []) (h2 : ys ≠ []) (h : xs.length + ys.length ≤ 16777216) : fAdd (.tup xs) (.tup ys) S = .ok (.tup (xs ++ ys)) S := by
  show (if xs ≠ [] ∧ ys ≠ [] ∧ xs.length + ys.length ≤ sizeLine then R.ok (W.tup (xs ++ ys)) S else .stuck) = _
  exact if_pos ⟨h1, h2, sz_of h⟩
theorem fAdd_fl (h : xs.length + ys.length ≤ 16777216) : fAdd (.fl xs) (.fl ys) S = .ok (.fl (xs ++ ys)) S := by
  show (if xs.length + ys.length ≤ sizeLine then R.ok (W.fl (xs ++ ys)) S else .stuck) = _
  exact if_pos (sz_of h)
/-! ### dicts with tuple keys, dict comprehensions, and so on -/
def kNG (b : E) (σ : Sl) (x : W) (S : Hm) : R W := (b σ S).bind (fNGet x)
def kNI (n : Bool) (b : E) (σ : Sl) (y : W) (S : Hm) : R W := (b σ S).bind (fNIn n y)
def kN2 (a b : E) (σ : Sl) (x : W) (S1 : Hm) : R W := match dcnOf S1 x with
  | some _ => (a σ S1).bind fun y S2 => (b σ S2).bind fun z S3 => (match dcnOf S3 x with
    | some kvs => (match keyT y with
      | some k => .ok ((getN kvs k).getD z) S3
      | none => .stuck)
    | none => .stuck)
  | none => .stuck
def kN2b (b : E) (σ : Sl) (x y : W) (S2 : Hm) : R W := (b σ S2).bind fun z S3 => (match dcnOf S3 x with
    | some kvs => (match keyT y with
      | some k => .ok ((getN kvs k).getD z) S3
      | none => .stuck)
    | none => .stuck)
def kN2c (x y z : W) (S3 : Hm) : R W := (match dcnOf S3 x with
    | some kvs => (match keyT y with
      | some k => .ok ((getN kvs k).getD z) S3
      | none => .stuck)
    | none => .stuck)
def kNP1 (d a : E) (σ : Sl) (v : W) (S1 : Hm) : R Fl := (d σ S1).bind fun x S2 => (a σ S2).bind fun y S3 => (fNPut x y v S3).bind fun S4 _ => .ok (.nx σ) S4
def kNP2 (a : E) (σ : Sl) (v x : W) (S2 : Hm) : R Fl := (a σ S2).bind fun y S3 => (fNPut x y v S3).bind fun S4 _ => .ok (.nx σ) S4
def kNP3 (σ : Sl) (v x y : W) (S3 : Hm) : R Fl := (fNPut x y v S3).bind fun S4 _ => .ok (.nx σ) S4
def kSX3 (x : W) (l h : Option Int) (S3 : Hm) : R W := match x with
  | .tup xs => .ok (.tup (cutG xs l h)) S3
  | x => match cutSrc S3 x with
    | some xs => .ok (.fl (cutG xs l h)) S3
    | none => .stuck
def kSX2 (hi : P') (σ : Sl) (x : W) (l : Option Int) (S : Hm) : R W := (hi σ S).bind (kSX3 x l)
def kSX1 (lo hi : P') (σ : Sl) (x : W) (S : Hm) : R W := (lo σ S).bind (kSX2 hi σ x)
def kDc (n : Bool) (ps : List W) (S1 : Hm) : R W := match foldP n [] ps with
  | some kvs => .ok (.ref S1.length) (S1 ++ [some (moOf n kvs)])
  | none => .stuck
def kPr2 (x y : W) (S : Hm) : R W := .ok (.tup [x, y]) S
def kPr (v : E) (σ : Sl) (x : W) (S : Hm) : R W := (v σ S).bind (kPr2 x)
@[simp] theorem ev_dictN : eDictN σ S = .ok (.ref S.length) (S ++ [some (.dcN [])]) := (rfl)
@[simp] theorem ev_nget : eNGet a b σ S = (a σ S).bind (kNG b σ) := (rfl)
@[simp] theorem ev_nget_ : kNG b σ x S = (b σ S).bind (fNGet x) := (rfl)
@[simp] theorem ev_nin {n : Bool} : eNIn n a b σ S = (a σ S).bind (kNI n b σ) := (rfl)
@[simp] theorem ev_nin_ {n : Bool} : kNI n b σ y S = (b σ S).bind (fNIn n y) := (rfl)
@[simp] theorem ev_nget2 : eNGet2 d a b σ S = (d σ S).bind (kN2 a b σ) := (rfl)
@[simp] theorem ev_nget2b : kN2b b σ x y S = (b σ S).bind (kN2c x y) := (rfl)
@[simp] theorem ev_nput : sNPut d a e σ S = (e σ S).bind (kNP1 d a σ) := (rfl)
@[simp] theorem ev_nput1 : kNP1 d a σ w S = (d σ S).bind (kNP2 a σ w) := (rfl)
@[simp] theorem ev_nput2 : kNP2 a σ w x S = (a σ S).bind (kNP3 σ w x) := (rfl)
@[simp] theorem ev_new {C : Str} : eNew C σ S = .ok (.obj C [] []) S := (rfl)
@[simp] theorem ev_slx {lo hi : P'} : eSliceX a lo hi σ S = (a σ S).bind (kSX1 lo hi σ) := (rfl)
@[simp] theorem ev_slx1 {lo hi : P'} : kSX1 lo hi σ x S = (lo σ S).bind (kSX2 hi σ x) := (rfl)
@[simp] theorem ev_slx2 {hi : P'} {l : Option Int} : kSX2 hi σ x l S = (hi σ S).bind (kSX3 x l) := (rfl)
@[simp] theorem ev_slx3 {l h : Option Int} : kSX3 (.tup xs) l h S = .ok (.tup (cutG xs l h)) S := (rfl)
@[simp] theorem ev_slx4 {l h : Option Int} : kSX3 (.fl xs) l h S = .ok (.fl (cutG xs l h)) S := (rfl)
@[simp] theorem ev_dc {n : Bool} {vs : List Nat} {tg : Tg} {it : I} {cd : T} : eDc n vs tg it cd a b σ S = (lComp vs tg it cd (ePair a b) σ S).bind (kDc n) := (rfl)
@[simp] theorem ev_pair : ePair a b σ S = (a σ S).bind (kPr b σ) := (rfl)
@[simp] theorem ev_pair1 : kPr b σ x S = (b σ S).bind (kPr2 x) := (rfl)
@[simp] theorem ev_pair2 : kPr2 x y S = .ok (.tup [x, y]) S := (rfl)
theorem dc_of {n : Bool} {ps : List W} (h : foldP n [] ps = some kvs) : kDc n ps S = .ok (.ref S.length) (S ++ [some (moOf n kvs)]) := by
  unfold kDc
  rw [h]
theorem dcn_d (h : heapAt S p = some (.dcN kvs)) : dcnOf S (.ref p) = some kvs := by
  unfold dcnOf
  simp only [h]
theorem nget_of {k : NestedKey} (h : dcnOf S x = some kvs) (hk : keyT y = some k) : fNGet x y S = opt (getN kvs k) S := by
  unfold fNGet
  rw [h]
  simp only [hk]
theorem nin_of {n : Bool} {k : NestedKey} (h : dcnOf S x = some kvs) (hk : keyT y = some k) : fNIn n y x S = .ok (.bl (xor n (getN kvs k).isSome)) S := by
  unfold fNIn
  rw [h]
  simp only [hk]
theorem n2_of (h : dcnOf S x = some kvs) : kN2 a b σ x S = (a σ S).bind (kN2b b σ x) := by
  unfold kN2
  rw [h]
  rfl
theorem n2c_of {k : NestedKey} (h : dcnOf S x = some kvs) (hk : keyT y = some k) : kN2c x y z S = .ok ((getN kvs k).getD z) S := by
  unfold kN2c
  rw [h]
  simp only [hk]
theorem nput_of {k : NestedKey} (h : heapAt S p = some (.dcN kvs)) (hk : keyT y = some k) (hl : kvs.length < 16777216) : kNP3 σ w (.ref p) y S = .ok (.nx σ) (S.set p (some (.dcN (putNW kvs y k w)))) := by
  unfold kNP3 fNPut
  simp only [h, hk]
  rw [if_pos (by rw [sizeLine_eq]; exact hl)]
  rfl
theorem fSortedY_fl (h : SrtOk xs) : fSortedY [.fl xs] S = .ok (xs.mergeSort leW) S := by
  have : fSortedY [.fl xs] S = fSortedX [.fl xs] S := (rfl)
  rw [this, fSortedX_fl h]
theorem fSortedY_dic (h : heapAt S p = some (.dic kvs)) (hs : SrtOk (kvs.map (·.1))) (hl : kvs.length ≤ 16777216) : fSortedY [.ref p] S = .ok ((kvs.map (·.1)).mergeSort leW) S := by
  have e : dcnOf S (.ref p) = none := by
    unfold dcnOf
    simp only [h]
  have : fSortedY [.ref p] S = fSortedX [.ref p] S := by
    unfold fSortedY
    simp only [e]
  rw [this, fSortedX_dic (dic_d h) hs hl]
theorem fSortedY_dcN (h : dcnOf S (.ref p) = some kvs) (hs : SrtOk (kvs.map (·.1))) (hl : kvs.length ≤ 16777216) : fSortedY [.ref p] S = .ok ((kvs.map (·.1)).mergeSort leW) S := by
  unfold fSortedY
  simp only [h]
  exact if_pos ⟨hs, by rw [sizeLine_eq]; exact hl⟩
end
end
end SB
namespace Wk
open PySem PySem.Spec PyProof.Rows L2 SB
noncomputable section
abbrev PG : Program := PySem.Challenge.pw_seabridge_k08_whole_bearings
def clBody (s : Stmt) : List Stmt := match s with
  | .ClassDef _ _ _ b _ _ _ _ _ _ _ => b
  | _ => []
def top (i : Nat) : Stmt := PG.main.body.getD i (.Pass ⟨0, 0, 0, 0⟩)
def mem (i j : Nat) : Stmt := (clBody (top i)).getD j (.Pass ⟨0, 0, 0, 0⟩)
def clsN : List Str := ["Fix", "Spread", "Along"]
def fldN : List Str := ["spot", "places"]
abbrev s_law_draw : Stmt := top 32
abbrev n_law_draw : List Str := ["cell", "k", "many", "primes"]
abbrev p_law_draw : List Str := ["cell", "k", "many"]
def b_law_draw : St' :=
  (sSeq (sAsg (tgName 3) (eTup (aCons (eC (.int 1000003)) (aCons (eC (.int 1000033)) (aCons (eC (.int 1000037)) (aCons (eC (.int 1000039)) (aCons (eC (.int 1000081)) (aCons (eC (.int 1000099)) (aCons (eC (.int 1000117)) (aCons (eC (.int 1000121)) (aCons (eC (.int 1000133)) (aCons (eC (.int 1000151)) (aCons (eC (.int 1000159)) (aCons (eC (.int 1000171)) (aCons (eC (.int 1000183)) (aCons (eC (.int 1000187)) (aCons (eC (.int 1000193)) (aCons (eC (.int 1000199)) aNil))))))))))))))))))
  (sSeq (sRet (eBin fMod (eBin fMod (eBin fAdd (eBin fMul (eVar 0) (eC (.int 48271))) (eBin fMul (eVar 1) (eC (.int 69621)))) (eBin fIdx (eVar 3) (eBin fMod (eVar 1) (eC (.int 16))))) (eVar 2)))
  sNil))
def m_law_draw : Fn := runDef n_law_draw.length b_law_draw
def g_law_draw : List (Str × GE) := []
def e_law_draw : List (Str × Nat × (Str → Option Fn)) := []
theorem c_law_draw : comp ⟨n_law_draw, defScope s_law_draw, fun _ => true, 0, g_law_draw, e_law_draw, fldN, [], [], [], [], [], [], [], []⟩ (defBody s_law_draw) = some b_law_draw := by kernel_rfl
theorem sc_law_draw : FnScope n_law_draw p_law_draw (defScope s_law_draw) := ⟨rfl, rfl, rfl, by decide +kernel, rfl, by decide +kernel, by decide +kernel⟩
def d_law_draw : He.DefD := ⟨("_law_draw", none), "_law_draw", "_law_draw", defArgs s_law_draw, defBody s_law_draw, defScope s_law_draw, [], []⟩
abbrev s_law_cell_at : Stmt := top 33
abbrev n_law_cell_at : List Str := ["script", "k"]
abbrev p_law_cell_at : List Str := ["script", "k"]
def b_law_cell_at : St' :=
  (sSeq (sIf (tVal (eBin fLtT (eVar 1) (eCall fLen (aCons (eVar 0) aNil))))
  (sSeq (sRet (eCall fAbs (aCons (eBin fIdx (eVar 0) (eVar 1)) aNil)))
  sNil)
  sNil)
  (sSeq (sRet (eCallD m_law_draw [] (aCons (eBin fAdd (eCall fAbs (aCons (eCall fSum (aCons (eVar 0) aNil)) aNil)) (eBin fMul (eC (.int 7919)) (eVar 1))) (aCons (eVar 1) (aCons (eC (.int 999983)) aNil)))))
  sNil))
def m_law_cell_at : Fn := runDef n_law_cell_at.length b_law_cell_at
def g_law_cell_at : List (Str × GE) := [("len", .blt .len), ("abs", .blt .abs), ("_law_draw", .fn 3 m_law_draw []), ("sum", .blt .sum)]
def e_law_cell_at : List (Str × Nat × (Str → Option Fn)) := []
theorem c_law_cell_at : comp ⟨n_law_cell_at, defScope s_law_cell_at, fun _ => true, 1, g_law_cell_at, e_law_cell_at, fldN, [], [], [], [], [], [], [], []⟩ (defBody s_law_cell_at) = some b_law_cell_at := by kernel_rfl
theorem sc_law_cell_at : FnScope n_law_cell_at p_law_cell_at (defScope s_law_cell_at) := ⟨rfl, rfl, rfl, by decide +kernel, rfl, by decide +kernel, by decide +kernel⟩
def d_law_cell_at : He.DefD := ⟨("_law_cell_at", none), "_law_cell_at", "_law_cell_at", defArgs s_law_cell_at, defBody s_law_cell_at, defScope s_law_cell_at, [], []⟩
abbrev s_law_digits : Stmt := top 34
abbrev n_law_digits : List Str := ["script", "at", "many", "base", "left", "turn", "cell", "found", "blend", "more"]
abbrev p_law_digits : List Str := ["script", "at", "many", "base"]
def b_law_digits : St' :=
  (sSeq (sPar 6 7 (eCallD m_law_cell_at [] (aCons (eVar 0) (aCons (eVar 1) aNil))) (eHeap (lDisp aNil)))
  (sSeq (sAsg (tgName 4) (eBin fSub (eVar 6) (eBin fPow (eC (.int 10)) (eC (.int 18)))))
  (sSeq (sFor (tgName 5) (iRange1 (eVar 2))
  (sSeq (sIf (tVal (eBin fGe (eVar 6) (eBin fPow (eC (.int 10)) (eC (.int 18)))))
  (sSeq (sExpr (eBm fAppend (eVar 7) (aCons (eBin fMod (eVar 4) (eVar 3)) aNil)))
  (sSeq (sAsg (tgName 4) (eBin fDiv (eVar 4) (eVar 3)))
  sNil))
  (sSeq (sAsg (tgName 8) (eCallD m_law_draw [] (aCons (eBin fMul (eBin fAdd (eVar 6) (eBin fMul (eC (.int 977)) (eVar 5))) (eBin fAdd (eBin fAdd (eVar 6) (eBin fMul (eC (.int 31)) (eVar 5))) (eC (.int 5)))) (aCons (eBin fAdd (eBin fMod (eVar 5) (eC (.int 9))) (eC (.int 1))) (aCons (eC (.int 999983)) aNil)))))
  (sSeq (sAsg (tgName 9) (eCallD m_law_draw [] (aCons (eBin fAdd (eBin fMul (eBin fAdd (eVar 6) (eBin fMul (eC (.int 31)) (eVar 5))) (eBin fAdd (eVar 6) (eC (.int 7)))) (eBin fMul (eC (.int 977)) (eVar 5))) (aCons (eBin fAdd (eBin fMod (eVar 5) (eC (.int 7))) (eC (.int 2))) (aCons (eC (.int 1000003)) aNil)))))
  (sSeq (sExpr (eBm fAppend (eVar 7) (aCons (eBin fMod (eBin fAdd (eBin fMul (eVar 8) (eC (.int 1000003))) (eVar 9)) (eVar 3)) aNil)))
  sNil))))
  sNil))
  (sSeq (sRet (eVar 7))
  sNil))))
def m_law_digits : Fn := runDef n_law_digits.length b_law_digits
def g_law_digits : List (Str × GE) := [("_law_cell_at", .fn 2 m_law_cell_at []), ("range", .blt .range), ("_law_draw", .fn 3 m_law_draw [])]
def e_law_digits : List (Str × Nat × (Str → Option Fn)) := []
theorem c_law_digits : comp ⟨n_law_digits, defScope s_law_digits, fun _ => true, 2, g_law_digits, e_law_digits, fldN, [], [(114, 45, 47)], [], [], [], [], [], []⟩ (defBody s_law_digits) = some b_law_digits := by kernel_rfl
theorem sc_law_digits : FnScope n_law_digits p_law_digits (defScope s_law_digits) := ⟨rfl, rfl, rfl, by decide +kernel, rfl, by decide +kernel, by decide +kernel⟩
def d_law_digits : He.DefD := ⟨("_law_digits", none), "_law_digits", "_law_digits", defArgs s_law_digits, defBody s_law_digits, defScope s_law_digits, [], []⟩
abbrev s_law_pool : Stmt := top 36
abbrev n_law_pool : List Str := ["script", "bases", "found", "at", "base"]
abbrev p_law_pool : List Str := ["script", "bases"]
def b_law_pool : St' :=
  (sSeq (sAsg (tgName 2) (eHeap (lDisp aNil)))
  (sSeq (sFor (tgTup [(tgName 3), (tgName 4)]) (iEnum (eVar 1))
  (sSeq (sAsg (tgName 2) (eHeap (lCat (eVar 2) (eCallD m_law_digits [] (aCons (eVar 0) (aCons (eVar 3) (aCons (eC (.int 120)) (aCons (eVar 4) aNil))))))))
  sNil))
  (sSeq (sRet (eVar 2))
  sNil)))
def m_law_pool : Fn := runDef n_law_pool.length b_law_pool
def g_law_pool : List (Str × GE) := [("enumerate", .blt .enumerate), ("_law_digits", .fn 4 m_law_digits [])]
def e_law_pool : List (Str × Nat × (Str → Option Fn)) := []
theorem c_law_pool : comp ⟨n_law_pool, defScope s_law_pool, fun _ => true, 3, g_law_pool, e_law_pool, fldN, [], [(128, 12, 14), (130, 16, 58)], [], [], [], [], [], []⟩ (defBody s_law_pool) = some b_law_pool := by kernel_rfl
theorem sc_law_pool : FnScope n_law_pool p_law_pool (defScope s_law_pool) := ⟨rfl, rfl, rfl, by decide +kernel, rfl, by decide +kernel, by decide +kernel⟩
def d_law_pool : He.DefD := ⟨("_law_pool", none), "_law_pool", "_law_pool", defArgs s_law_pool, defBody s_law_pool, defScope s_law_pool, [], []⟩
abbrev s_law_take : Stmt := top 35
abbrev n_law_take : List Str := ["draws", "many"]
abbrev p_law_take : List Str := ["draws", "many"]
def b_law_take : St' :=
  (sSeq (sRet (eIf (tVal (eBin fNe (eVar 0) (eFrz (lDisp aNil)))) (eBin fMod (eCall fInt (aCons (eBm fPopAt (eVar 0) (aCons (eC (.int 0)) aNil)) aNil)) (eVar 1)) (eC (.int 0))))
  sNil)
def m_law_take : Fn := runDef n_law_take.length b_law_take
def g_law_take : List (Str × GE) := [("int", .blt .int)]
def e_law_take : List (Str × Nat × (Str → Option Fn)) := []
theorem c_law_take : comp ⟨n_law_take, defScope s_law_take, fun _ => true, 0, g_law_take, e_law_take, fldN, [], [], [], [], [], [], [], []⟩ (defBody s_law_take) = some b_law_take := by kernel_rfl
theorem sc_law_take : FnScope n_law_take p_law_take (defScope s_law_take) := ⟨rfl, rfl, rfl, by decide +kernel, rfl, by decide +kernel, by decide +kernel⟩
def d_law_take : He.DefD := ⟨("_law_take", none), "_law_take", "_law_take", defArgs s_law_take, defBody s_law_take, defScope s_law_take, [], []⟩
abbrev s_law_cross : Stmt := top 41
abbrev n_law_cross : List Str := ["one", "other"]
abbrev p_law_cross : List Str := ["one", "other"]
def b_law_cross : St' :=
  (sSeq (sRet (eBin fSub (eBin fMul (eBin fIdx (eVar 0) (eC (.int 0))) (eBin fIdx (eVar 1) (eC (.int 1)))) (eBin fMul (eBin fIdx (eVar 0) (eC (.int 1))) (eBin fIdx (eVar 1) (eC (.int 0))))))
  sNil)
def m_law_cross : Fn := runDef n_law_cross.length b_law_cross
def g_law_cross : List (Str × GE) := []
def e_law_cross : List (Str × Nat × (Str → Option Fn)) := []
theorem c_law_cross : comp ⟨n_law_cross, defScope s_law_cross, fun _ => true, 0, g_law_cross, e_law_cross, fldN, [], [], [], [], [], [], [], []⟩ (defBody s_law_cross) = some b_law_cross := by kernel_rfl
theorem sc_law_cross : FnScope n_law_cross p_law_cross (defScope s_law_cross) := ⟨rfl, rfl, rfl, by decide +kernel, rfl, by decide +kernel, by decide +kernel⟩
def d_law_cross : He.DefD := ⟨("_law_cross", none), "_law_cross", "_law_cross", defArgs s_law_cross, defBody s_law_cross, defScope s_law_cross, [], []⟩
abbrev s_law_f : Stmt := top 37
abbrev n_law_f : List Str := ["over", "under", "by", "one", "other"]
abbrev p_law_f : List Str := ["over", "under"]
def b_law_f : St' :=
  (sSeq (sPar 3 4 (eCall fAbs (aCons (eVar 0) aNil)) (eCall fAbs (aCons (eVar 1) aNil)))
  (sSeq (sWhile (tVal (eBin fGt (eVar 4) (eC (.int 0))))
  (sSeq (sPar 3 4 (eVar 4) (eBin fMod (eCall fInt (aCons (eVar 3) aNil)) (eVar 4)))
  sNil))
  (sSeq (sAsg (tgName 2) (eIf (tVal (eBin fGt (eVar 1) (eC (.int 0)))) (eVar 3) (eUn fNeg (eVar 3))))
  (sSeq (sRet (eTup (aCons (eBin fDiv (eVar 0) (eVar 2)) (aCons (eBin fDiv (eVar 1) (eVar 2)) aNil))))
  sNil))))
def m_law_f : Fn := runDef n_law_f.length b_law_f
def g_law_f : List (Str × GE) := [("abs", .blt .abs), ("int", .blt .int)]
def e_law_f : List (Str × Nat × (Str → Option Fn)) := []
theorem c_law_f : comp ⟨n_law_f, defScope s_law_f, fun _ => true, 0, g_law_f, e_law_f, fldN, [], [], [], [], [], [], [], []⟩ (defBody s_law_f) = some b_law_f := by kernel_rfl
theorem sc_law_f : FnScope n_law_f p_law_f (defScope s_law_f) := ⟨rfl, rfl, rfl, by decide +kernel, rfl, by decide +kernel, by decide +kernel⟩
def d_law_f : He.DefD := ⟨("_law_f", none), "_law_f", "_law_f", defArgs s_law_f, defBody s_law_f, defScope s_law_f, [], []⟩
abbrev s_law_add : Stmt := top 38
abbrev n_law_add : List Str := ["one", "other", "sign"]
abbrev p_law_add : List Str := ["one", "other", "sign"]
def b_law_add : St' :=
  (sSeq (sRet (eCallD m_law_f [] (aCons (eBin fAdd (eBin fMul (eBin fIdx (eVar 0) (eC (.int 0))) (eBin fIdx (eVar 1) (eC (.int 1)))) (eBin fMul (eBin fMul (eVar 2) (eBin fIdx (eVar 1) (eC (.int 0)))) (eBin fIdx (eVar 0) (eC (.int 1))))) (aCons (eBin fMul (eBin fIdx (eVar 0) (eC (.int 1))) (eBin fIdx (eVar 1) (eC (.int 1)))) aNil))))
  sNil)
def m_law_add : Fn := runDef n_law_add.length b_law_add
def g_law_add : List (Str × GE) := [("_law_f", .fn 2 m_law_f [])]
def e_law_add : List (Str × Nat × (Str → Option Fn)) := []
theorem c_law_add : comp ⟨n_law_add, defScope s_law_add, fun _ => true, 1, g_law_add, e_law_add, fldN, [], [], [], [], [], [], [], []⟩ (defBody s_law_add) = some b_law_add := by kernel_rfl
theorem sc_law_add : FnScope n_law_add p_law_add (defScope s_law_add) := ⟨rfl, rfl, rfl, by decide +kernel, rfl, by decide +kernel, by decide +kernel⟩
def d_law_add : He.DefD := ⟨("_law_add", none), "_law_add", "_law_add", defArgs s_law_add, defBody s_law_add, defScope s_law_add, [.int (1)], []⟩
abbrev s_law_mul : Stmt := top 39
abbrev n_law_mul : List Str := ["one", "other"]
abbrev p_law_mul : List Str := ["one", "other"]
def b_law_mul : St' :=
  (sSeq (sRet (eCallD m_law_f [] (aCons (eBin fMul (eBin fIdx (eVar 0) (eC (.int 0))) (eBin fIdx (eVar 1) (eC (.int 0)))) (aCons (eBin fMul (eBin fIdx (eVar 0) (eC (.int 1))) (eBin fIdx (eVar 1) (eC (.int 1)))) aNil))))
  sNil)
def m_law_mul : Fn := runDef n_law_mul.length b_law_mul
def g_law_mul : List (Str × GE) := [("_law_f", .fn 2 m_law_f [])]
def e_law_mul : List (Str × Nat × (Str → Option Fn)) := []
theorem c_law_mul : comp ⟨n_law_mul, defScope s_law_mul, fun _ => true, 1, g_law_mul, e_law_mul, fldN, [], [], [], [], [], [], [], []⟩ (defBody s_law_mul) = some b_law_mul := by kernel_rfl
theorem sc_law_mul : FnScope n_law_mul p_law_mul (defScope s_law_mul) := ⟨rfl, rfl, rfl, by decide +kernel, rfl, by decide +kernel, by decide +kernel⟩
def d_law_mul : He.DefD := ⟨("_law_mul", none), "_law_mul", "_law_mul", defArgs s_law_mul, defBody s_law_mul, defScope s_law_mul, [], []⟩
abbrev s_law_meet : Stmt := top 42
abbrev n_law_meet : List Str := ["one", "other", "turn", "much", "mark", "line", "there", "ray", "side"]
abbrev p_law_meet : List Str := ["one", "other"]
def b_law_meet : St' :=
  (sSeq (sAsg (tgTup [(tgTup [(tgName 4), (tgName 5)]), (tgTup [(tgName 6), (tgName 7)])]) (eTup (aCons (eVar 0) (aCons (eVar 1) aNil))))
  (sSeq (sAsg (tgName 2) (eCallD m_law_cross [] (aCons (eVar 5) (aCons (eVar 7) aNil))))
  (sSeq (sAsg (tgName 3) (eCallD m_law_f [] (aCons (eBin fSub (eBin fMul (eBin fSub (eBin fIdx (eVar 6) (eC (.int 0))) (eBin fIdx (eVar 4) (eC (.int 0)))) (eBin fIdx (eVar 7) (eC (.int 1)))) (eBin fMul (eBin fSub (eBin fIdx (eVar 6) (eC (.int 1))) (eBin fIdx (eVar 4) (eC (.int 1)))) (eBin fIdx (eVar 7) (eC (.int 0))))) (aCons (eVar 2) aNil))))
  (sSeq (sRet (eCall fTuple (aCons (eFrz (lComp [8] (tgName 8) (iRange1 (eC (.int 2))) tYes (eCallD m_law_add [(.int 1)] (aCons (eTup (aCons (eBin fIdx (eVar 4) (eVar 8)) (aCons (eC (.int 1)) aNil))) (aCons (eCallD m_law_mul [] (aCons (eTup (aCons (eBin fIdx (eVar 5) (eVar 8)) (aCons (eC (.int 1)) aNil))) (aCons (eVar 3) aNil))) aNil))))) aNil)))
  sNil))))
def m_law_meet : Fn := runDef n_law_meet.length b_law_meet
def g_law_meet : List (Str × GE) := [("_law_cross", .fn 2 m_law_cross []), ("_law_f", .fn 2 m_law_f []), ("tuple", .blt .tuple), ("range", .blt .range), ("_law_add", .fn 3 m_law_add [(.int 1)]), ("_law_mul", .fn 2 m_law_mul [])]
def e_law_meet : List (Str × Nat × (Str → Option Fn)) := []
theorem c_law_meet : comp ⟨n_law_meet, defScope s_law_meet, fun _ => true, 2, g_law_meet, e_law_meet, fldN, [], [], [], [], [], [], [], []⟩ (defBody s_law_meet) = some b_law_meet := by kernel_rfl
theorem sc_law_meet : FnScope n_law_meet p_law_meet (defScope s_law_meet) := ⟨rfl, rfl, rfl, by decide +kernel, rfl, by decide +kernel, by decide +kernel⟩
def d_law_meet : He.DefD := ⟨("_law_meet", none), "_law_meet", "_law_meet", defArgs s_law_meet, defBody s_law_meet, defScope s_law_meet, [], []⟩
abbrev s_law_less : Stmt := top 40
abbrev n_law_less : List Str := ["one", "other"]
abbrev p_law_less : List Str := ["one", "other"]
def b_law_less : St' :=
  (sSeq (sRet (eBin fLtT (eBin fMul (eBin fIdx (eVar 0) (eC (.int 0))) (eBin fIdx (eVar 1) (eC (.int 1)))) (eBin fMul (eBin fIdx (eVar 1) (eC (.int 0))) (eBin fIdx (eVar 0) (eC (.int 1))))))
  sNil)
def m_law_less : Fn := runDef n_law_less.length b_law_less
def g_law_less : List (Str × GE) := []
def e_law_less : List (Str × Nat × (Str → Option Fn)) := []
theorem c_law_less : comp ⟨n_law_less, defScope s_law_less, fun _ => true, 0, g_law_less, e_law_less, fldN, [], [], [], [], [], [], [], []⟩ (defBody s_law_less) = some b_law_less := by kernel_rfl
theorem sc_law_less : FnScope n_law_less p_law_less (defScope s_law_less) := ⟨rfl, rfl, rfl, by decide +kernel, rfl, by decide +kernel, by decide +kernel⟩
def d_law_less : He.DefD := ⟨("_law_less", none), "_law_less", "_law_less", defArgs s_law_less, defBody s_law_less, defScope s_law_less, [], []⟩
abbrev s_law_due : Stmt := top 43
abbrev n_law_due : List Str := ["bearings", "found", "places", "alone", "at", "one", "other", "least", "mark", "line", "ahead", "side", "far", "place"]
abbrev p_law_due : List Str := ["bearings"]
def b_law_due : St' :=
  (sSeq (sPar 2 3 (eFrz (lDisp aNil)) (eC (.bl true)))
  (sSeq (sFor (tgTup [(tgName 4), (tgName 5)]) (iEnum (eVar 0))
  (sSeq (sFor (tgName 6) (iVal (eFrz (lSlice (eVar 0) (pSome (eBin fAdd (eVar 4) (eC (.int 1)))) pNone)))
  (sSeq (sAsg (tgName 12) (eTup (aCons (eBin fSub (eBin fIdx (eBin fIdx (eVar 6) (eC (.int 0))) (eC (.int 0))) (eBin fIdx (eBin fIdx (eVar 5) (eC (.int 0))) (eC (.int 0)))) (aCons (eBin fSub (eBin fIdx (eBin fIdx (eVar 6) (eC (.int 0))) (eC (.int 1))) (eBin fIdx (eBin fIdx (eVar 5) (eC (.int 0))) (eC (.int 1)))) aNil))))
  (sSeq (sIf (tVal (eBin fNe (eCallD m_law_cross [] (aCons (eBin fIdx (eVar 5) (eC (.int 1))) (aCons (eBin fIdx (eVar 6) (eC (.int 1))) aNil))) (eC (.int 0))))
  (sSeq (sAsg (tgName 13) (eCallD m_law_meet [] (aCons (eVar 5) (aCons (eVar 6) aNil))))
  (sSeq (sAsg (tgName 2) (eBin fAdd (eVar 2) (eIf (tVal (eBin fNotIn (eVar 13) (eVar 2))) (eFrz (lDisp (aCons (eVar 13) aNil))) (eFrz (lDisp aNil)))))
  sNil))
  sNil)
  (sSeq (sAsg (tgName 3) (eAnd (eVar 3) (eAnd (eBin fEq (eCallD m_law_cross [] (aCons (eBin fIdx (eVar 5) (eC (.int 1))) (aCons (eBin fIdx (eVar 6) (eC (.int 1))) aNil))) (eC (.int 0))) (eBin fEq (eCallD m_law_cross [] (aCons (eBin fIdx (eVar 5) (eC (.int 1))) (aCons (eVar 12) aNil))) (eC (.int 0))))))
  sNil))))
  sNil))
  (sSeq (sIf (tVal (eVar 3))
  (sSeq (sRet (eTup (aCons (eC (.str "along")) (aCons (eFrz (lDisp aNil)) aNil))))
  sNil)
  sNil)
  (sSeq (sOwn 1 (lDisp aNil))
  (sSeq (sWhile (tVal (eBin fNe (eVar 2) (eFrz (lDisp aNil))))
  (sSeq (sAsg (tgName 7) (eBin fIdx (eVar 2) (eC (.int 0))))
  (sSeq (sFor (tgName 5) (iVal (eVar 2))
  (sSeq (sIf (tOr (tVal (eCallD m_law_less [] (aCons (eBin fIdx (eVar 5) (eC (.int 0))) (aCons (eBin fIdx (eVar 7) (eC (.int 0))) aNil)))) (tAnd (tVal (eBin fEq (eBin fIdx (eVar 5) (eC (.int 0))) (eBin fIdx (eVar 7) (eC (.int 0))))) (tVal (eCallD m_law_less [] (aCons (eBin fIdx (eVar 5) (eC (.int 1))) (aCons (eBin fIdx (eVar 7) (eC (.int 1))) aNil))))))
  (sSeq (sAsg (tgName 7) (eVar 5))
  sNil)
  sNil)
  sNil))
  (sSeq (sApp 1 (eVar 7))
  (sSeq (sAsg (tgName 2) (eFrz (lComp [5] (tgName 5) (iVal (eVar 2)) (tVal (eBin fNe (eVar 5) (eVar 7))) (eVar 5))))
  sNil)))))
  (sSeq (sSeq (sFrz 1) (sIf (tVal (eBin fNe (eCall fLen (aCons (eVar 1) aNil)) (eC (.int 1))))
  (sSeq (sRet (eTup (aCons (eC (.str "spread")) (aCons (eVar 1) aNil))))
  sNil)
  sNil))
  (sSeq (sFor (tgTup [(tgName 8), (tgName 9)]) (iVal (eVar 0))
  (sSeq (sAsg (tgName 10) (eTup (aCons (eC (.int 0)) (aCons (eC (.int 1)) aNil))))
  (sSeq (sFor (tgName 11) (iRange1 (eC (.int 2)))
  (sSeq (sAsg (tgName 10) (eCallD m_law_add [(.int 1)] (aCons (eVar 10) (aCons (eCallD m_law_mul [] (aCons (eTup (aCons (eBin fIdx (eVar 9) (eVar 11)) (aCons (eC (.int 1)) aNil))) (aCons (eCallD m_law_add [] (aCons (eTup (aCons (eBin fIdx (eVar 8) (eVar 11)) (aCons (eC (.int 1)) aNil))) (aCons (eBin fIdx (eBin fIdx (eVar 1) (eC (.int 0))) (eVar 11)) (aCons (eUn fNeg (eC (.int 1))) aNil)))) aNil))) aNil))))
  sNil))
  (sSeq (sIf (tVal (eBin fLe (eBin fIdx (eVar 10) (eC (.int 0))) (eC (.int 0))))
  (sSeq (sRet (eTup (aCons (eC (.str "spread")) (aCons (eVar 1) aNil))))
  sNil)
  sNil)
  sNil))))
  (sSeq (sRet (eTup (aCons (eC (.str "fix")) (aCons (eVar 1) aNil))))
  sNil))))))))
def m_law_due : Fn := runDef n_law_due.length b_law_due
def g_law_due : List (Str × GE) := [("enumerate", .blt .enumerate), ("_law_cross", .fn 2 m_law_cross []), ("_law_meet", .fn 2 m_law_meet []), ("_law_less", .fn 2 m_law_less []), ("len", .blt .len), ("range", .blt .range), ("_law_add", .fn 3 m_law_add [(.int 1)]), ("_law_mul", .fn 2 m_law_mul [])]
def e_law_due : List (Str × Nat × (Str → Option Fn)) := []
theorem c_law_due : comp ⟨n_law_due, defScope s_law_due, fun _ => true, 3, g_law_due, e_law_due, fldN, [162, 168], [], [], [(170, [.frz 1])], [], [], [], []⟩ (defBody s_law_due) = some b_law_due := by kernel_rfl
theorem sc_law_due : FnScope n_law_due p_law_due (defScope s_law_due) := ⟨rfl, rfl, rfl, by decide +kernel, rfl, by decide +kernel, by decide +kernel⟩
def d_law_due : He.DefD := ⟨("_law_due", none), "_law_due", "_law_due", defArgs s_law_due, defBody s_law_due, defScope s_law_due, [], []⟩
abbrev s_law_told : Stmt := top 44
abbrev n_law_told : List Str := ["told"]
abbrev p_law_told : List Str := ["told"]
def b_law_told : St' :=
  (sSeq (sIf (tVal (eIsi [.c "Fix"] (eVar 0)))
  (sSeq (sRet (eTup (aCons (eC (.str "fix")) (aCons (eFrz (lDisp (aCons (eFld (eVar 0) "spot") aNil))) aNil))))
  sNil)
  sNil)
  (sSeq (sRet (eIf (tVal (eIsi [.c "Spread"] (eVar 0))) (eTup (aCons (eC (.str "spread")) (aCons (eFld (eVar 0) "places") aNil))) (eTup (aCons (eIf (tVal (eIsi [.c "Along"] (eVar 0))) (eC (.str "along")) (eC (.str ""))) (aCons (eFrz (lDisp aNil)) aNil)))))
  sNil))
def m_law_told : Fn := runDef n_law_told.length b_law_told
def g_law_told : List (Str × GE) := [("isinstance", .blt .isinstance), ("Fix", .cls "Fix" .no), ("Spread", .cls "Spread" .no), ("Along", .cls "Along" .no)]
def e_law_told : List (Str × Nat × (Str → Option Fn)) := []
theorem c_law_told : comp ⟨n_law_told, defScope s_law_told, fun _ => true, 0, g_law_told, e_law_told, fldN, [], [], [], [], [], [], [], []⟩ (defBody s_law_told) = some b_law_told := by kernel_rfl
theorem sc_law_told : FnScope n_law_told p_law_told (defScope s_law_told) := ⟨rfl, rfl, rfl, by decide +kernel, rfl, by decide +kernel, by decide +kernel⟩
def d_law_told : He.DefD := ⟨("_law_told", none), "_law_told", "_law_told", defArgs s_law_told, defBody s_law_told, defScope s_law_told, [], []⟩
abbrev s_is_number : Stmt := top 5
abbrev n_is_number : List Str := ["thing", "least", "most"]
abbrev p_is_number : List Str := ["thing", "least", "most"]
def b_is_number : St' :=
  (sSeq (sIf (tOr (tNot (tVal (eIsi [.b "int"] (eVar 0)))) (tOr (tVal (eIsi [.b "bool"] (eVar 0))) (tVal (eBin fLtT (eVar 0) (eVar 1)))))
  (sSeq (sRet (eC (.bl false)))
  sNil)
  sNil)
  (sSeq (sRet (eOr (eBin fIsN (eVar 2) (eC .non)) (eBin fLe (eVar 0) (eVar 2))))
  sNil))
def m_is_number : Fn := runDef n_is_number.length b_is_number
def g_is_number : List (Str × GE) := [("isinstance", .blt .isinstance), ("int", .blt .int), ("bool", .blt .bool)]
def e_is_number : List (Str × Nat × (Str → Option Fn)) := []
theorem c_is_number : comp ⟨n_is_number, defScope s_is_number, fun _ => true, 0, g_is_number, e_is_number, fldN, [], [], [], [], [], [], [], []⟩ (defBody s_is_number) = some b_is_number := by kernel_rfl
theorem sc_is_number : FnScope n_is_number p_is_number (defScope s_is_number) := ⟨rfl, rfl, rfl, by decide +kernel, rfl, by decide +kernel, by decide +kernel⟩
def d_is_number : He.DefD := ⟨("is_number", none), "is_number", "is_number", defArgs s_is_number, defBody s_is_number, defScope s_is_number, [.non], []⟩
abbrev s_are_numbers : Stmt := top 6
abbrev n_are_numbers : List Str := ["thing", "many", "least", "most", "one"]
abbrev p_are_numbers : List Str := ["thing", "many", "least", "most"]
def b_are_numbers : St' :=
  (sSeq (sIf (tOr (tNot (tVal (eIsi [.b "tuple"] (eVar 0)))) (tVal (eBin fNe (eCall fLen (aCons (eVar 0) aNil)) (eVar 1))))
  (sSeq (sRet (eC (.bl false)))
  sNil)
  sNil)
  (sSeq (sRet (eCall fAll (aCons (eFrz (lComp [4] (tgName 4) (iVal (eVar 0)) tYes (eCallD m_is_number [] (aCons (eVar 4) (aCons (eVar 2) (aCons (eVar 3) aNil)))))) aNil)))
  sNil))
def m_are_numbers : Fn := runDef n_are_numbers.length b_are_numbers
def g_are_numbers : List (Str × GE) := [("isinstance", .blt .isinstance), ("tuple", .blt .tuple), ("len", .blt .len), ("all", .blt .all), ("is_number", .fn 3 m_is_number [.non])]
def e_are_numbers : List (Str × Nat × (Str → Option Fn)) := []
theorem c_are_numbers : comp ⟨n_are_numbers, defScope s_are_numbers, fun _ => true, 1, g_are_numbers, e_are_numbers, fldN, [], [], [], [], [], [], [], []⟩ (defBody s_are_numbers) = some b_are_numbers := by kernel_rfl
theorem sc_are_numbers : FnScope n_are_numbers p_are_numbers (defScope s_are_numbers) := ⟨rfl, rfl, rfl, by decide +kernel, rfl, by decide +kernel, by decide +kernel⟩
def d_are_numbers : He.DefD := ⟨("are_numbers", none), "are_numbers", "are_numbers", defArgs s_are_numbers, defBody s_are_numbers, defScope s_are_numbers, [], []⟩
abbrev s_is_point : Stmt := top 7
abbrev n_is_point : List Str := ["thing"]
abbrev p_is_point : List Str := ["thing"]
def b_is_point : St' :=
  (sSeq (sRet (eCallD m_are_numbers [] (aCons (eVar 0) (aCons (eC (.int 2)) (aCons (eUn fNeg (eC (.int 9999))) (aCons (eC (.int 9999)) aNil))))))
  sNil)
def m_is_point : Fn := runDef n_is_point.length b_is_point
def g_is_point : List (Str × GE) := [("are_numbers", .fn 4 m_are_numbers []), ("FARTHEST", .cst (.int 9999))]
def e_is_point : List (Str × Nat × (Str → Option Fn)) := []
theorem c_is_point : comp ⟨n_is_point, defScope s_is_point, fun _ => true, 2, g_is_point, e_is_point, fldN, [], [], [], [], [], [], [], []⟩ (defBody s_is_point) = some b_is_point := by kernel_rfl
theorem sc_is_point : FnScope n_is_point p_is_point (defScope s_is_point) := ⟨rfl, rfl, rfl, by decide +kernel, rfl, by decide +kernel, by decide +kernel⟩
def d_is_point : He.DefD := ⟨("is_point", none), "is_point", "is_point", defArgs s_is_point, defBody s_is_point, defScope s_is_point, [], []⟩
abbrev s_is_bearing : Stmt := top 24
abbrev n_is_bearing : List Str := ["thing"]
abbrev p_is_bearing : List Str := ["thing"]
def b_is_bearing : St' :=
  (sSeq (sIf (tOr (tNot (tVal (eIsi [.b "tuple"] (eVar 0)))) (tOr (tVal (eBin fNe (eCall fLen (aCons (eVar 0) aNil)) (eC (.int 2)))) (tNot (tVal (eCallD m_is_point [] (aCons (eBin fIdx (eVar 0) (eC (.int 0))) aNil))))))
  (sSeq (sRet (eC (.bl false)))
  sNil)
  sNil)
  (sSeq (sRet (eAnd (eCallD m_are_numbers [] (aCons (eBin fIdx (eVar 0) (eC (.int 1))) (aCons (eC (.int 2)) (aCons (eUn fNeg (eC (.int 9999))) (aCons (eC (.int 9999)) aNil))))) (eBin fNe (eBin fIdx (eVar 0) (eC (.int 1))) (eTup (aCons (eC (.int 0)) (aCons (eC (.int 0)) aNil))))))
  sNil))
def m_is_bearing : Fn := runDef n_is_bearing.length b_is_bearing
def g_is_bearing : List (Str × GE) := [("isinstance", .blt .isinstance), ("tuple", .blt .tuple), ("len", .blt .len), ("is_point", .fn 1 m_is_point []), ("are_numbers", .fn 4 m_are_numbers []), ("FARTHEST", .cst (.int 9999))]
def e_is_bearing : List (Str × Nat × (Str → Option Fn)) := []
theorem c_is_bearing : comp ⟨n_is_bearing, defScope s_is_bearing, fun _ => true, 3, g_is_bearing, e_is_bearing, fldN, [], [], [], [], [], [], [], []⟩ (defBody s_is_bearing) = some b_is_bearing := by kernel_rfl
theorem sc_is_bearing : FnScope n_is_bearing p_is_bearing (defScope s_is_bearing) := ⟨rfl, rfl, rfl, by decide +kernel, rfl, by decide +kernel, by decide +kernel⟩
def d_is_bearing : He.DefD := ⟨("is_bearing", none), "is_bearing", "is_bearing", defArgs s_is_bearing, defBody s_is_bearing, defScope s_is_bearing, [], []⟩
abbrev s_cross : Stmt := top 25
abbrev n_cross : List Str := ["one", "other"]
abbrev p_cross : List Str := ["one", "other"]
def b_cross : St' :=
  (sSeq (sRet (eBin fSub (eBin fMul (eBin fIdx (eVar 0) (eC (.int 0))) (eBin fIdx (eVar 1) (eC (.int 1)))) (eBin fMul (eBin fIdx (eVar 0) (eC (.int 1))) (eBin fIdx (eVar 1) (eC (.int 0))))))
  sNil)
def m_cross : Fn := runDef n_cross.length b_cross
def g_cross : List (Str × GE) := []
def e_cross : List (Str × Nat × (Str → Option Fn)) := []
theorem c_cross : comp ⟨n_cross, defScope s_cross, fun _ => true, 0, g_cross, e_cross, fldN, [], [], [], [], [], [], [], []⟩ (defBody s_cross) = some b_cross := by kernel_rfl
theorem sc_cross : FnScope n_cross p_cross (defScope s_cross) := ⟨rfl, rfl, rfl, by decide +kernel, rfl, by decide +kernel, by decide +kernel⟩
def d_cross : He.DefD := ⟨("cross", none), "cross", "cross", defArgs s_cross, defBody s_cross, defScope s_cross, [], []⟩
abbrev s_are_one_line : Stmt := top 29
abbrev n_are_one_line : List Str := ["bearings", "mark", "line", "their_mark", "their_line", "far"]
abbrev p_are_one_line : List Str := ["bearings"]
def b_are_one_line : St' :=
  (sSeq (sAsg (tgTup [(tgName 1), (tgName 2)]) (eBin fIdx (eVar 0) (eC (.int 0))))
  (sSeq (sFor (tgTup [(tgName 3), (tgName 4)]) (iVal (eVar 0))
  (sSeq (sAsg (tgName 5) (eTup (aCons (eBin fSub (eBin fIdx (eVar 3) (eC (.int 0))) (eBin fIdx (eVar 1) (eC (.int 0)))) (aCons (eBin fSub (eBin fIdx (eVar 3) (eC (.int 1))) (eBin fIdx (eVar 1) (eC (.int 1)))) aNil))))
  (sSeq (sIf (tOr (tVal (eBin fNe (eCallD m_cross [] (aCons (eVar 2) (aCons (eVar 4) aNil))) (eC (.int 0)))) (tVal (eBin fNe (eCallD m_cross [] (aCons (eVar 2) (aCons (eVar 5) aNil))) (eC (.int 0)))))
  (sSeq (sRet (eC (.bl false)))
  sNil)
  sNil)
  sNil)))
  (sSeq (sRet (eC (.bl true)))
  sNil)))
def m_are_one_line : Fn := runDef n_are_one_line.length b_are_one_line
def g_are_one_line : List (Str × GE) := [("cross", .fn 2 m_cross [])]
def e_are_one_line : List (Str × Nat × (Str → Option Fn)) := []
theorem c_are_one_line : comp ⟨n_are_one_line, defScope s_are_one_line, fun _ => true, 1, g_are_one_line, e_are_one_line, fldN, [], [], [], [], [], [], [], []⟩ (defBody s_are_one_line) = some b_are_one_line := by kernel_rfl
theorem sc_are_one_line : FnScope n_are_one_line p_are_one_line (defScope s_are_one_line) := ⟨rfl, rfl, rfl, by decide +kernel, rfl, by decide +kernel, by decide +kernel⟩
def d_are_one_line : He.DefD := ⟨("are_one_line", none), "are_one_line", "are_one_line", defArgs s_are_one_line, defBody s_are_one_line, defScope s_are_one_line, [], []⟩
abbrev s_common : Stmt := top 8
abbrev n_common : List Str := ["one", "other"]
abbrev p_common : List Str := ["one", "other"]
def b_common : St' :=
  (sSeq (sPar 0 1 (eCall fAbs (aCons (eVar 0) aNil)) (eCall fAbs (aCons (eVar 1) aNil)))
  (sSeq (sWhile (tVal (eBin fNe (eVar 1) (eC (.int 0))))
  (sSeq (sPar 0 1 (eVar 1) (eBin fMod (eCall fInt (aCons (eVar 0) aNil)) (eVar 1)))
  sNil))
  (sSeq (sRet (eVar 0))
  sNil)))
def m_common : Fn := runDef n_common.length b_common
def g_common : List (Str × GE) := [("abs", .blt .abs), ("int", .blt .int)]
def e_common : List (Str × Nat × (Str → Option Fn)) := []
theorem c_common : comp ⟨n_common, defScope s_common, fun _ => true, 0, g_common, e_common, fldN, [], [], [], [], [], [], [], []⟩ (defBody s_common) = some b_common := by kernel_rfl
theorem sc_common : FnScope n_common p_common (defScope s_common) := ⟨rfl, rfl, rfl, by decide +kernel, rfl, by decide +kernel, by decide +kernel⟩
def d_common : He.DefD := ⟨("common", none), "common", "common", defArgs s_common, defBody s_common, defScope s_common, [], []⟩
abbrev s_fraction : Stmt := top 9
abbrev n_fraction : List Str := ["over", "under", "by"]
abbrev p_fraction : List Str := ["over", "under"]
def b_fraction : St' :=
  (sSeq (sIf (tVal (eBin fLtT (eVar 1) (eC (.int 0))))
  (sSeq (sPar 0 1 (eUn fNeg (eVar 0)) (eUn fNeg (eVar 1)))
  sNil)
  sNil)
  (sSeq (sAsg (tgName 2) (eCallD m_common [] (aCons (eVar 0) (aCons (eVar 1) aNil))))
  (sSeq (sRet (eTup (aCons (eBin fDiv (eVar 0) (eVar 2)) (aCons (eBin fDiv (eVar 1) (eVar 2)) aNil))))
  sNil)))
def m_fraction : Fn := runDef n_fraction.length b_fraction
def g_fraction : List (Str × GE) := [("common", .fn 2 m_common [])]
def e_fraction : List (Str × Nat × (Str → Option Fn)) := []
theorem c_fraction : comp ⟨n_fraction, defScope s_fraction, fun _ => true, 1, g_fraction, e_fraction, fldN, [], [], [], [], [], [], [], []⟩ (defBody s_fraction) = some b_fraction := by kernel_rfl
theorem sc_fraction : FnScope n_fraction p_fraction (defScope s_fraction) := ⟨rfl, rfl, rfl, by decide +kernel, rfl, by decide +kernel, by decide +kernel⟩
def d_fraction : He.DefD := ⟨("fraction", none), "fraction", "fraction", defArgs s_fraction, defBody s_fraction, defScope s_fraction, [], []⟩
abbrev s_divided : Stmt := top 14
abbrev n_divided : List Str := ["one", "other"]
abbrev p_divided : List Str := ["one", "other"]
def b_divided : St' :=
  (sSeq (sRet (eCallD m_fraction [] (aCons (eBin fMul (eBin fIdx (eVar 0) (eC (.int 0))) (eBin fIdx (eVar 1) (eC (.int 1)))) (aCons (eBin fMul (eBin fIdx (eVar 0) (eC (.int 1))) (eBin fIdx (eVar 1) (eC (.int 0)))) aNil))))
  sNil)
def m_divided : Fn := runDef n_divided.length b_divided
def g_divided : List (Str × GE) := [("fraction", .fn 2 m_fraction [])]
def e_divided : List (Str × Nat × (Str → Option Fn)) := []
theorem c_divided : comp ⟨n_divided, defScope s_divided, fun _ => true, 2, g_divided, e_divided, fldN, [], [], [], [], [], [], [], []⟩ (defBody s_divided) = some b_divided := by kernel_rfl
theorem sc_divided : FnScope n_divided p_divided (defScope s_divided) := ⟨rfl, rfl, rfl, by decide +kernel, rfl, by decide +kernel, by decide +kernel⟩
def d_divided : He.DefD := ⟨("divided", none), "divided", "divided", defArgs s_divided, defBody s_divided, defScope s_divided, [], []⟩
abbrev s_whole : Stmt := top 10
abbrev n_whole : List Str := ["number"]
abbrev p_whole : List Str := ["number"]
def b_whole : St' :=
  (sSeq (sRet (eTup (aCons (eVar 0) (aCons (eC (.int 1)) aNil))))
  sNil)
def m_whole : Fn := runDef n_whole.length b_whole
def g_whole : List (Str × GE) := []
def e_whole : List (Str × Nat × (Str → Option Fn)) := []
theorem c_whole : comp ⟨n_whole, defScope s_whole, fun _ => true, 0, g_whole, e_whole, fldN, [], [], [], [], [], [], [], []⟩ (defBody s_whole) = some b_whole := by kernel_rfl
theorem sc_whole : FnScope n_whole p_whole (defScope s_whole) := ⟨rfl, rfl, rfl, by decide +kernel, rfl, by decide +kernel, by decide +kernel⟩
def d_whole : He.DefD := ⟨("whole", none), "whole", "whole", defArgs s_whole, defBody s_whole, defScope s_whole, [], []⟩
abbrev s_point : Stmt := top 17
abbrev n_point : List Str := ["place"]
abbrev p_point : List Str := ["place"]
def b_point : St' :=
  (sSeq (sRet (eTup (aCons (eCallD m_whole [] (aCons (eBin fIdx (eVar 0) (eC (.int 0))) aNil)) (aCons (eCallD m_whole [] (aCons (eBin fIdx (eVar 0) (eC (.int 1))) aNil)) aNil))))
  sNil)
def m_point : Fn := runDef n_point.length b_point
def g_point : List (Str × GE) := [("whole", .fn 1 m_whole [])]
def e_point : List (Str × Nat × (Str → Option Fn)) := []
theorem c_point : comp ⟨n_point, defScope s_point, fun _ => true, 1, g_point, e_point, fldN, [], [], [], [], [], [], [], []⟩ (defBody s_point) = some b_point := by kernel_rfl
theorem sc_point : FnScope n_point p_point (defScope s_point) := ⟨rfl, rfl, rfl, by decide +kernel, rfl, by decide +kernel, by decide +kernel⟩
def d_point : He.DefD := ⟨("point", none), "point", "point", defArgs s_point, defBody s_point, defScope s_point, [], []⟩
abbrev s_plus : Stmt := top 11
abbrev n_plus : List Str := ["one", "other"]
abbrev p_plus : List Str := ["one", "other"]
def b_plus : St' :=
  (sSeq (sRet (eCallD m_fraction [] (aCons (eBin fAdd (eBin fMul (eBin fIdx (eVar 0) (eC (.int 0))) (eBin fIdx (eVar 1) (eC (.int 1)))) (eBin fMul (eBin fIdx (eVar 1) (eC (.int 0))) (eBin fIdx (eVar 0) (eC (.int 1))))) (aCons (eBin fMul (eBin fIdx (eVar 0) (eC (.int 1))) (eBin fIdx (eVar 1) (eC (.int 1)))) aNil))))
  sNil)
def m_plus : Fn := runDef n_plus.length b_plus
def g_plus : List (Str × GE) := [("fraction", .fn 2 m_fraction [])]
def e_plus : List (Str × Nat × (Str → Option Fn)) := []
theorem c_plus : comp ⟨n_plus, defScope s_plus, fun _ => true, 2, g_plus, e_plus, fldN, [], [], [], [], [], [], [], []⟩ (defBody s_plus) = some b_plus := by kernel_rfl
theorem sc_plus : FnScope n_plus p_plus (defScope s_plus) := ⟨rfl, rfl, rfl, by decide +kernel, rfl, by decide +kernel, by decide +kernel⟩
def d_plus : He.DefD := ⟨("plus", none), "plus", "plus", defArgs s_plus, defBody s_plus, defScope s_plus, [], []⟩
abbrev s_product : Stmt := top 13
abbrev n_product : List Str := ["one", "other"]
abbrev p_product : List Str := ["one", "other"]
def b_product : St' :=
  (sSeq (sRet (eCallD m_fraction [] (aCons (eBin fMul (eBin fIdx (eVar 0) (eC (.int 0))) (eBin fIdx (eVar 1) (eC (.int 0)))) (aCons (eBin fMul (eBin fIdx (eVar 0) (eC (.int 1))) (eBin fIdx (eVar 1) (eC (.int 1)))) aNil))))
  sNil)
def m_product : Fn := runDef n_product.length b_product
def g_product : List (Str × GE) := [("fraction", .fn 2 m_fraction [])]
def e_product : List (Str × Nat × (Str → Option Fn)) := []
theorem c_product : comp ⟨n_product, defScope s_product, fun _ => true, 2, g_product, e_product, fldN, [], [], [], [], [], [], [], []⟩ (defBody s_product) = some b_product := by kernel_rfl
theorem sc_product : FnScope n_product p_product (defScope s_product) := ⟨rfl, rfl, rfl, by decide +kernel, rfl, by decide +kernel, by decide +kernel⟩
def d_product : He.DefD := ⟨("product", none), "product", "product", defArgs s_product, defBody s_product, defScope s_product, [], []⟩
abbrev s_meeting : Stmt := top 26
abbrev n_meeting : List Str := ["one", "other", "far", "by_how_much", "start", "mark", "line", "their_mark", "their_line"]
abbrev p_meeting : List Str := ["one", "other"]
def b_meeting : St' :=
  (sSeq (sAsg (tgTup [(tgTup [(tgName 5), (tgName 6)]), (tgTup [(tgName 7), (tgName 8)])]) (eTup (aCons (eVar 0) (aCons (eVar 1) aNil))))
  (sSeq (sAsg (tgName 2) (eTup (aCons (eBin fSub (eBin fIdx (eVar 7) (eC (.int 0))) (eBin fIdx (eVar 5) (eC (.int 0)))) (aCons (eBin fSub (eBin fIdx (eVar 7) (eC (.int 1))) (eBin fIdx (eVar 5) (eC (.int 1)))) aNil))))
  (sSeq (sAsg (tgName 3) (eCallD m_divided [] (aCons (eCallD m_whole [] (aCons (eCallD m_cross [] (aCons (eVar 2) (aCons (eVar 8) aNil))) aNil)) (aCons (eCallD m_whole [] (aCons (eCallD m_cross [] (aCons (eVar 6) (aCons (eVar 8) aNil))) aNil)) aNil))))
  (sSeq (sAsg (tgName 4) (eCallD m_point [] (aCons (eVar 5) aNil)))
  (sSeq (sRet (eTup (aCons (eCallD m_plus [] (aCons (eBin fIdx (eVar 4) (eC (.int 0))) (aCons (eCallD m_product [] (aCons (eCallD m_whole [] (aCons (eBin fIdx (eVar 6) (eC (.int 0))) aNil)) (aCons (eVar 3) aNil))) aNil))) (aCons (eCallD m_plus [] (aCons (eBin fIdx (eVar 4) (eC (.int 1))) (aCons (eCallD m_product [] (aCons (eCallD m_whole [] (aCons (eBin fIdx (eVar 6) (eC (.int 1))) aNil)) (aCons (eVar 3) aNil))) aNil))) aNil))))
  sNil)))))
def m_meeting : Fn := runDef n_meeting.length b_meeting
def g_meeting : List (Str × GE) := [("divided", .fn 2 m_divided []), ("whole", .fn 1 m_whole []), ("cross", .fn 2 m_cross []), ("point", .fn 1 m_point []), ("plus", .fn 2 m_plus []), ("product", .fn 2 m_product [])]
def e_meeting : List (Str × Nat × (Str → Option Fn)) := []
theorem c_meeting : comp ⟨n_meeting, defScope s_meeting, fun _ => true, 3, g_meeting, e_meeting, fldN, [], [], [], [], [], [], [], []⟩ (defBody s_meeting) = some b_meeting := by kernel_rfl
theorem sc_meeting : FnScope n_meeting p_meeting (defScope s_meeting) := ⟨rfl, rfl, rfl, by decide +kernel, rfl, by decide +kernel, by decide +kernel⟩
def d_meeting : He.DefD := ⟨("meeting", none), "meeting", "meeting", defArgs s_meeting, defBody s_meeting, defScope s_meeting, [], []⟩
abbrev s_in_order : Stmt := top 16
abbrev n_in_order : List Str := ["some", "whole_under", "overs", "over", "under"]
abbrev p_in_order : List Str := ["some"]
def b_in_order : St' :=
  (sSeq (sAsg (tgName 1) (eC (.int 1)))
  (sSeq (sFor (tgTup [(tgName 3), (tgName 4)]) (iVal (eVar 0))
  (sSeq (sAsg (tgName 1) (eBin fDiv (eBin fMul (eVar 1) (eVar 4)) (eCallD m_common [] (aCons (eVar 1) (aCons (eVar 4) aNil)))))
  sNil))
  (sSeq (sAsg (tgName 2) (eFrz (lCall fSortedY (aCons (eDc false [3, 4] (tgTup [(tgName 3), (tgName 4)]) (iVal (eVar 0)) tYes (eBin fMul (eVar 3) (eBin fDiv (eVar 1) (eVar 4))) (eC (.bl true))) aNil))))
  (sSeq (sRet (eFrz (lComp [3] (tgName 3) (iVal (eVar 2)) tYes (eCallD m_fraction [] (aCons (eVar 3) (aCons (eVar 1) aNil))))))
  sNil))))
def m_in_order : Fn := runDef n_in_order.length b_in_order
def g_in_order : List (Str × GE) := [("common", .fn 2 m_common []), ("sorted", .blt .sorted), ("fraction", .fn 2 m_fraction [])]
def e_in_order : List (Str × Nat × (Str → Option Fn)) := []
theorem c_in_order : comp ⟨n_in_order, defScope s_in_order, fun _ => true, 2, g_in_order, e_in_order, fldN, [], [], [], [], [], [], [], []⟩ (defBody s_in_order) = some b_in_order := by kernel_rfl
theorem sc_in_order : FnScope n_in_order p_in_order (defScope s_in_order) := ⟨rfl, rfl, rfl, by decide +kernel, rfl, by decide +kernel, by decide +kernel⟩
def d_in_order : He.DefD := ⟨("in_order", none), "in_order", "in_order", defArgs s_in_order, defBody s_in_order, defScope s_in_order, [], []⟩
abbrev s_places_in_order : Stmt := top 28
abbrev n_places_in_order : List Str := ["places", "easts", "norths", "found", "place", "east", "north"]
abbrev p_places_in_order : List Str := ["places"]
def b_places_in_order : St' :=
  (sSeq (sAsg (tgName 1) (eCallD m_in_order [] (aCons (eFrz (lComp [4] (tgName 4) (iVal (eVar 0)) tYes (eBin fIdx (eVar 4) (eC (.int 0))))) aNil)))
  (sSeq (sAsg (tgName 2) (eCallD m_in_order [] (aCons (eFrz (lComp [4] (tgName 4) (iVal (eVar 0)) tYes (eBin fIdx (eVar 4) (eC (.int 1))))) aNil)))
  (sSeq (sAsg (tgName 3) (eFrz (lCall fSortedY (aCons (eDc true [4] (tgName 4) (iVal (eVar 0)) tYes (eTup (aCons (eBm fIndexY (eVar 1) (aCons (eBin fIdx (eVar 4) (eC (.int 0))) aNil)) (aCons (eBm fIndexY (eVar 2) (aCons (eBin fIdx (eVar 4) (eC (.int 1))) aNil)) aNil))) (eC (.bl true))) aNil))))
  (sSeq (sRet (eFrz (lComp [5, 6] (tgTup [(tgName 5), (tgName 6)]) (iVal (eVar 3)) tYes (eTup (aCons (eBin fIdx (eVar 1) (eVar 5)) (aCons (eBin fIdx (eVar 2) (eVar 6)) aNil))))))
  sNil))))
def m_places_in_order : Fn := runDef n_places_in_order.length b_places_in_order
def g_places_in_order : List (Str × GE) := [("in_order", .fn 1 m_in_order []), ("sorted", .blt .sorted)]
def e_places_in_order : List (Str × Nat × (Str → Option Fn)) := []
theorem c_places_in_order : comp ⟨n_places_in_order, defScope s_places_in_order, fun _ => true, 3, g_places_in_order, e_places_in_order, fldN, [], [], [], [], [], [], [], [(82, 19, 94)]⟩ (defBody s_places_in_order) = some b_places_in_order := by kernel_rfl
theorem sc_places_in_order : FnScope n_places_in_order p_places_in_order (defScope s_places_in_order) := ⟨rfl, rfl, rfl, by decide +kernel, rfl, by decide +kernel, by decide +kernel⟩
def d_places_in_order : He.DefD := ⟨("places_in_order", none), "places_in_order", "places_in_order", defArgs s_places_in_order, defBody s_places_in_order, defScope s_places_in_order, [], []⟩
abbrev s_minus : Stmt := top 12
abbrev n_minus : List Str := ["one", "other"]
abbrev p_minus : List Str := ["one", "other"]
def b_minus : St' :=
  (sSeq (sRet (eCallD m_fraction [] (aCons (eBin fSub (eBin fMul (eBin fIdx (eVar 0) (eC (.int 0))) (eBin fIdx (eVar 1) (eC (.int 1)))) (eBin fMul (eBin fIdx (eVar 1) (eC (.int 0))) (eBin fIdx (eVar 0) (eC (.int 1))))) (aCons (eBin fMul (eBin fIdx (eVar 0) (eC (.int 1))) (eBin fIdx (eVar 1) (eC (.int 1)))) aNil))))
  sNil)
def m_minus : Fn := runDef n_minus.length b_minus
def g_minus : List (Str × GE) := [("fraction", .fn 2 m_fraction [])]
def e_minus : List (Str × Nat × (Str → Option Fn)) := []
theorem c_minus : comp ⟨n_minus, defScope s_minus, fun _ => true, 2, g_minus, e_minus, fldN, [], [], [], [], [], [], [], []⟩ (defBody s_minus) = some b_minus := by kernel_rfl
theorem sc_minus : FnScope n_minus p_minus (defScope s_minus) := ⟨rfl, rfl, rfl, by decide +kernel, rfl, by decide +kernel, by decide +kernel⟩
def d_minus : He.DefD := ⟨("minus", none), "minus", "minus", defArgs s_minus, defBody s_minus, defScope s_minus, [], []⟩
abbrev s_apart : Stmt := top 18
abbrev n_apart : List Str := ["one", "other"]
abbrev p_apart : List Str := ["one", "other"]
def b_apart : St' :=
  (sSeq (sRet (eTup (aCons (eCallD m_minus [] (aCons (eBin fIdx (eVar 1) (eC (.int 0))) (aCons (eBin fIdx (eVar 0) (eC (.int 0))) aNil))) (aCons (eCallD m_minus [] (aCons (eBin fIdx (eVar 1) (eC (.int 1))) (aCons (eBin fIdx (eVar 0) (eC (.int 1))) aNil))) aNil))))
  sNil)
def m_apart : Fn := runDef n_apart.length b_apart
def g_apart : List (Str × GE) := [("minus", .fn 2 m_minus [])]
def e_apart : List (Str × Nat × (Str → Option Fn)) := []
theorem c_apart : comp ⟨n_apart, defScope s_apart, fun _ => true, 3, g_apart, e_apart, fldN, [], [], [], [], [], [], [], []⟩ (defBody s_apart) = some b_apart := by kernel_rfl
theorem sc_apart : FnScope n_apart p_apart (defScope s_apart) := ⟨rfl, rfl, rfl, by decide +kernel, rfl, by decide +kernel, by decide +kernel⟩
def d_apart : He.DefD := ⟨("apart", none), "apart", "apart", defArgs s_apart, defBody s_apart, defScope s_apart, [], []⟩
abbrev s_is_less : Stmt := top 15
abbrev n_is_less : List Str := ["one", "other"]
abbrev p_is_less : List Str := ["one", "other"]
def b_is_less : St' :=
  (sSeq (sRet (eBin fLtT (eBin fMul (eBin fIdx (eVar 0) (eC (.int 0))) (eBin fIdx (eVar 1) (eC (.int 1)))) (eBin fMul (eBin fIdx (eVar 1) (eC (.int 0))) (eBin fIdx (eVar 0) (eC (.int 1))))))
  sNil)
def m_is_less : Fn := runDef n_is_less.length b_is_less
def g_is_less : List (Str × GE) := []
def e_is_less : List (Str × Nat × (Str → Option Fn)) := []
theorem c_is_less : comp ⟨n_is_less, defScope s_is_less, fun _ => true, 0, g_is_less, e_is_less, fldN, [], [], [], [], [], [], [], []⟩ (defBody s_is_less) = some b_is_less := by kernel_rfl
theorem sc_is_less : FnScope n_is_less p_is_less (defScope s_is_less) := ⟨rfl, rfl, rfl, by decide +kernel, rfl, by decide +kernel, by decide +kernel⟩
def d_is_less : He.DefD := ⟨("is_less", none), "is_less", "is_less", defArgs s_is_less, defBody s_is_less, defScope s_is_less, [], []⟩
abbrev s_sees : Stmt := top 27
abbrev n_sees : List Str := ["place", "bearing", "far", "ahead", "mark", "line"]
abbrev p_sees : List Str := ["place", "bearing"]
def b_sees : St' :=
  (sSeq (sAsg (tgTup [(tgName 4), (tgName 5)]) (eVar 1))
  (sSeq (sAsg (tgName 2) (eCallD m_apart [] (aCons (eVar 0) (aCons (eCallD m_point [] (aCons (eVar 4) aNil)) aNil))))
  (sSeq (sAsg (tgName 3) (eCallD m_plus [] (aCons (eCallD m_product [] (aCons (eBin fIdx (eVar 2) (eC (.int 0))) (aCons (eCallD m_whole [] (aCons (eBin fIdx (eVar 5) (eC (.int 0))) aNil)) aNil))) (aCons (eCallD m_product [] (aCons (eBin fIdx (eVar 2) (eC (.int 1))) (aCons (eCallD m_whole [] (aCons (eBin fIdx (eVar 5) (eC (.int 1))) aNil)) aNil))) aNil))))
  (sSeq (sRet (eCallD m_is_less [] (aCons (eCallD m_whole [] (aCons (eC (.int 0)) aNil)) (aCons (eVar 3) aNil))))
  sNil))))
def m_sees : Fn := runDef n_sees.length b_sees
def g_sees : List (Str × GE) := [("apart", .fn 2 m_apart []), ("point", .fn 1 m_point []), ("plus", .fn 2 m_plus []), ("product", .fn 2 m_product []), ("whole", .fn 1 m_whole []), ("is_less", .fn 2 m_is_less [])]
def e_sees : List (Str × Nat × (Str → Option Fn)) := []
theorem c_sees : comp ⟨n_sees, defScope s_sees, fun _ => true, 4, g_sees, e_sees, fldN, [], [], [], [], [], [], [], []⟩ (defBody s_sees) = some b_sees := by kernel_rfl
theorem sc_sees : FnScope n_sees p_sees (defScope s_sees) := ⟨rfl, rfl, rfl, by decide +kernel, rfl, by decide +kernel, by decide +kernel⟩
def d_sees : He.DefD := ⟨("sees", none), "sees", "sees", defArgs s_sees, defBody s_sees, defScope s_sees, [], []⟩
abbrev s_Fix_init : Stmt := mem 21 0
abbrev n_Fix_init : List Str := ["self", "place"]
abbrev p_Fix_init : List Str := ["self", "place"]
def b_Fix_init : St' :=
  (sSeq (sSetF 0 "spot" (eVar 1))
  sNil)
def m_Fix_init : Fi := runInit n_Fix_init.length "Fix" b_Fix_init
def g_Fix_init : List (Str × GE) := []
def e_Fix_init : List (Str × Nat × (Str → Option Fn)) := []
theorem c_Fix_init : comp ⟨n_Fix_init, defScope s_Fix_init, fun _ => true, 0, g_Fix_init, e_Fix_init, fldN, [], [], [], [], [], [], [], []⟩ (defBody s_Fix_init) = some b_Fix_init := by kernel_rfl
theorem sc_Fix_init : FnScope n_Fix_init p_Fix_init (defScope s_Fix_init) := ⟨rfl, rfl, rfl, by decide +kernel, rfl, by decide +kernel, by decide +kernel⟩
def d_Fix_init : He.DefD := ⟨("Fix", some "__init__"), "__init__", "Fix.__init__", defArgs s_Fix_init, defBody s_Fix_init, defScope s_Fix_init, [], []⟩
abbrev s_Spread_init : Stmt := mem 22 0
abbrev n_Spread_init : List Str := ["self", "places"]
abbrev p_Spread_init : List Str := ["self", "places"]
def b_Spread_init : St' :=
  (sSeq (sSetF 0 "places" (eFrz (lCall fList (aCons (eVar 1) aNil))))
  sNil)
def m_Spread_init : Fi := runInit n_Spread_init.length "Spread" b_Spread_init
def g_Spread_init : List (Str × GE) := [("list", .blt .list)]
def e_Spread_init : List (Str × Nat × (Str → Option Fn)) := []
theorem c_Spread_init : comp ⟨n_Spread_init, defScope s_Spread_init, fun _ => true, 0, g_Spread_init, e_Spread_init, fldN, [], [], [], [], [], [], [], []⟩ (defBody s_Spread_init) = some b_Spread_init := by kernel_rfl
theorem sc_Spread_init : FnScope n_Spread_init p_Spread_init (defScope s_Spread_init) := ⟨rfl, rfl, rfl, by decide +kernel, rfl, by decide +kernel, by decide +kernel⟩
def d_Spread_init : He.DefD := ⟨("Spread", some "__init__"), "__init__", "Spread.__init__", defArgs s_Spread_init, defBody s_Spread_init, defScope s_Spread_init, [], []⟩
abbrev s_taken : Stmt := top 30
abbrev n_taken : List Str := ["bearings", "found", "places", "at", "one", "other"]
abbrev p_taken : List Str := ["bearings"]
def b_taken : St' :=
  (sSeq (sIf (tOr (tNot (tVal (eIsi [.b "list", .b "tuple"] (eVar 0)))) (tNot (tVal (eChain fLe fLe (eC (.int 2)) (eCall fLen (aCons (eVar 0) aNil)) (eC (.int 10))))))
  (sSeq sNever
  sNil)
  sNil)
  (sSeq (sIf (tNot (tVal (eCall fAll (aCons (eFrz (lComp [4] (tgName 4) (iVal (eVar 0)) tYes (eCallD m_is_bearing [] (aCons (eVar 4) aNil)))) aNil))))
  (sSeq sNever
  sNil)
  sNil)
  (sSeq (sIf (tVal (eCallD m_are_one_line [] (aCons (eVar 0) aNil)))
  (sSeq (sRet (eNew "Along"))
  sNil)
  sNil)
  (sSeq (sOwn 1 (lDisp aNil))
  (sSeq (sFor (tgTup [(tgName 3), (tgName 4)]) (iEnum (eVar 0))
  (sSeq (sExt 1 (eFrz (lComp [5] (tgName 5) (iVal (eSliceX (eVar 0) (pSome (eBin fAdd (eVar 3) (eC (.int 1)))) pNone)) (tVal (eBin fNe (eCallD m_cross [] (aCons (eBin fIdx (eVar 4) (eC (.int 1))) (aCons (eBin fIdx (eVar 5) (eC (.int 1))) aNil))) (eC (.int 0)))) (eCallD m_meeting [] (aCons (eVar 4) (aCons (eVar 5) aNil))))))
  sNil))
  (sSeq (sSeq (sFrz 1) (sAsg (tgName 2) (eIf (tVal (eBin fNe (eVar 1) (eFrz (lDisp aNil)))) (eCallD m_places_in_order [] (aCons (eVar 1) aNil)) (eFrz (lDisp aNil)))))
  (sSeq (sIf (tAnd (tVal (eBin fEq (eCall fLen (aCons (eVar 2) aNil)) (eC (.int 1)))) (tVal (eCall fAll (aCons (eFrz (lComp [4] (tgName 4) (iVal (eVar 0)) tYes (eCallD m_sees [] (aCons (eBin fIdx (eVar 2) (eC (.int 0))) (aCons (eVar 4) aNil))))) aNil))))
  (sSeq (sRet (eMk "Fix" m_Fix_init [] (aCons (eBin fIdx (eVar 2) (eC (.int 0))) aNil)))
  sNil)
  sNil)
  (sSeq (sRet (eMk "Spread" m_Spread_init [] (aCons (eVar 2) aNil)))
  sNil))))))))
def m_taken : Fn := runDef n_taken.length b_taken
def g_taken : List (Str × GE) := [("isinstance", .blt .isinstance), ("list", .blt .list), ("tuple", .blt .tuple), ("len", .blt .len), ("MOST", .cst (.int 10)), ("all", .blt .all), ("is_bearing", .fn 1 m_is_bearing []), ("are_one_line", .fn 1 m_are_one_line []), ("Along", .cls "Along" .nw), ("enumerate", .blt .enumerate), ("cross", .fn 2 m_cross []), ("meeting", .fn 2 m_meeting []), ("places_in_order", .fn 1 m_places_in_order []), ("sees", .fn 2 m_sees []), ("Fix", .cls "Fix" (.frz 2 m_Fix_init [])), ("Spread", .cls "Spread" (.frz 2 m_Spread_init []))]
def e_taken : List (Str × Nat × (Str → Option Fn)) := []
theorem c_taken : comp ⟨n_taken, defScope s_taken, fun _ => true, 5, g_taken, e_taken, fldN, [98, 100], [], [(100, 55, 72)], [(101, [.frz 1])], [], [], [], []⟩ (defBody s_taken) = some b_taken := by kernel_rfl
theorem sc_taken : FnScope n_taken p_taken (defScope s_taken) := ⟨rfl, rfl, rfl, by decide +kernel, rfl, by decide +kernel, by decide +kernel⟩
def d_taken : He.DefD := ⟨("taken", none), "taken", "taken", defArgs s_taken, defBody s_taken, defScope s_taken, [], []⟩
abbrev s_law : Stmt := top 45
abbrev n_law : List Str := ["script", "draws", "turn", "own", "bearings", "at", "due", "some", "line", "far", "mark", "kind"]
abbrev p_law : List Str := ["script"]
def b_law : St' :=
  (sSeq (sAsg (tgName 0) (eFrz (lSlice (eVar 0) pNone (pSome (eC (.int 63))))))
  (sSeq (sAsg (tgName 1) (eCallD m_law_pool [] (aCons (eVar 0) (aCons (eTup (aCons (eC (.int 1000003)) (aCons (eC (.int 999983)) (aCons (eC (.int 1000033)) aNil)))) aNil))))
  (sSeq (sFor (tgName 2) (iRange1 (eC (.int 8)))
  (sSeq (sAsg (tgName 3) (eTup (aCons (eBin fSub (eCallD m_law_take [] (aCons (eVar 1) (aCons (eC (.int 200)) aNil))) (eC (.int 100))) (aCons (eBin fSub (eCallD m_law_take [] (aCons (eVar 1) (aCons (eC (.int 200)) aNil))) (eC (.int 100))) aNil))))
  (sSeq (sOwn 4 (lDisp aNil))
  (sSeq (sFor (tgName 5) (iRange1 (eBin fAdd (eC (.int 2)) (eCallD m_law_take [] (aCons (eVar 1) (aCons (eC (.int 4)) aNil)))))
  (sSeq (sAsg (tgName 8) (eBin fIdx (eTup (aCons (eTup (aCons (eC (.int 1)) (aCons (eC (.int 0)) aNil))) (aCons (eTup (aCons (eC (.int 0)) (aCons (eUn fNeg (eC (.int 3))) aNil))) (aCons (eTup (aCons (eC (.int 2)) (aCons (eC (.int 5)) aNil))) (aCons (eTup (aCons (eUn fNeg (eC (.int 7))) (aCons (eC (.int 4)) aNil))) (aCons (eTup (aCons (eC (.int 3)) (aCons (eC (.int 3)) aNil))) (aCons (eTup (aCons (eUn fNeg (eC (.int 1))) (aCons (eUn fNeg (eC (.int 1))) aNil))) (aCons (eTup (aCons (eC (.int 9999)) (aCons (eUn fNeg (eC (.int 9998))) aNil))) aNil)))))))) (eCallD m_law_take [] (aCons (eVar 1) (aCons (eC (.int 7)) aNil)))))
  (sSeq (sAsg (tgName 9) (eIf (tVal (eBin fLtT (eBin fIdx (eVar 8) (eC (.int 0))) (eC (.int 9999)))) (eCallD m_law_take [] (aCons (eVar 1) (aCons (eC (.int 30)) aNil))) (eC (.int 0))))
  (sSeq (sAsg (tgName 10) (eTup (aCons (eBin fAdd (eBin fIdx (eVar 3) (eC (.int 0))) (eBin fMul (eVar 9) (eBin fIdx (eVar 8) (eC (.int 0))))) (aCons (eBin fAdd (eBin fIdx (eVar 3) (eC (.int 1))) (eBin fMul (eVar 9) (eBin fIdx (eVar 8) (eC (.int 1))))) aNil))))
  (sSeq (sAsg (tgName 11) (eCallD m_law_take [] (aCons (eVar 1) (aCons (eC (.int 9)) aNil))))
  (sSeq (sIf (tVal (eBin fEq (eVar 11) (eC (.int 0))))
  (sSeq (sAsg (tgName 10) (eTup (aCons (eBin fAdd (eBin fIdx (eVar 10) (eC (.int 0))) (eC (.int 1))) (aCons (eBin fIdx (eVar 10) (eC (.int 1))) aNil))))
  sNil)
  sNil)
  (sSeq (sIf (tVal (eBin fEq (eVar 11) (eC (.int 1))))
  (sSeq (sAsg (tgName 8) (eTup (aCons (eUn fNeg (eBin fIdx (eVar 8) (eC (.int 0)))) (aCons (eUn fNeg (eBin fIdx (eVar 8) (eC (.int 1)))) aNil))))
  sNil)
  sNil)
  (sSeq (sIf (tVal (eBin fEq (eVar 11) (eC (.int 2))))
  (sSeq (sAsg (tgName 8) (eIf (tVal (eBin fLtT (eCall fAbs (aCons (eBin fIdx (eVar 8) (eC (.int 0))) aNil)) (eC (.int 99)))) (eTup (aCons (eBin fMul (eC (.int 2)) (eBin fIdx (eVar 8) (eC (.int 0)))) (aCons (eBin fMul (eC (.int 2)) (eBin fIdx (eVar 8) (eC (.int 1)))) aNil))) (eVar 8)))
  sNil)
  sNil)
  (sSeq (sApp 4 (eTup (aCons (eVar 10) (aCons (eVar 8) aNil))))
  sNil)))))))))
  (sSeq (sSeq (sFrz 4) (sIf (tVal (eBin fEq (eBin fMod (eVar 2) (eC (.int 4))) (eC (.int 0))))
  (sSeq (sAsg (tgName 4) (eFrz (lComp [10, 8] (tgTup [(tgName 10), (tgName 8)]) (iVal (eVar 4)) tYes (eTup (aCons (eVar 10) (aCons (eBin fIdx (eBin fIdx (eVar 4) (eC (.int 0))) (eC (.int 1))) aNil))))))
  sNil)
  sNil))
  (sSeq (sAsg (tgName 6) (eCallD m_law_due [] (aCons (eVar 4) aNil)))
  (sSeq (sFor (tgName 7) (iVal (eTup (aCons (eVar 4) (aCons (eCall fTuple (aCons (eFrz (lRev (eVar 4))) aNil)) aNil))))
  (sSeq (sIf (tVal (eBin fNe (eCallD m_law_told [] (aCons (eCallD m_taken [] (aCons (eVar 7) aNil)) aNil)) (eVar 6)))
  (sSeq (sRet (eC (.bl false)))
  sNil)
  sNil)
  sNil))
  sNil)))))))
  (sSeq (sRet (eC (.bl true)))
  sNil))))
def m_law : Fn := runDef n_law.length b_law
def g_law : List (Str × GE) := [("_law_pool", .fn 2 m_law_pool []), ("range", .blt .range), ("_law_take", .fn 2 m_law_take []), ("abs", .blt .abs), ("_law_due", .fn 1 m_law_due []), ("tuple", .blt .tuple), ("_law_told", .fn 1 m_law_told []), ("taken", .fn 1 m_taken [])]
def e_law : List (Str × Nat × (Str → Option Fn)) := []
theorem c_law : comp ⟨n_law, defScope s_law, fun _ => true, 6, g_law, e_law, fldN, [188, 200], [], [], [(201, [.frz 4])], [], [], [], []⟩ (defBody s_law) = some b_law := by kernel_rfl
theorem sc_law : FnScope n_law p_law (defScope s_law) := ⟨rfl, rfl, rfl, by decide +kernel, rfl, by decide +kernel, by decide +kernel⟩
def d_law : He.DefD := ⟨("law", none), "law", "law", defArgs s_law, defBody s_law, defScope s_law, [], []⟩
def fn0 : List He.DefD := [d_law_draw, d_law_cell_at, d_law_digits, d_law_pool, d_law_take, d_law_cross, d_law_f, d_law_add, d_law_mul, d_law_meet, d_law_less, d_law_due, d_law_told, d_is_number, d_are_numbers, d_is_point, d_is_bearing, d_cross, d_are_one_line, d_common, d_fraction, d_divided, d_whole, d_point]
def fn1 : List He.DefD := [d_plus, d_product, d_meeting, d_in_order, d_places_in_order, d_minus, d_apart, d_is_less, d_sees, d_Fix_init, d_Spread_init, d_taken, d_law]
def fn : List He.DefD := fn0 ++ fn1
theorem o_0 : okN "sum" = true := by decide +kernel
theorem o_1 : okN "_law_draw" = true := by decide +kernel
theorem o_2 : okN "abs" = true := by decide +kernel
theorem o_3 : okN "len" = true := by decide +kernel
theorem o_4 : okN "range" = true := by decide +kernel
theorem o_5 : okN "_law_cell_at" = true := by decide +kernel
theorem o_6 : okN "_law_digits" = true := by decide +kernel
theorem o_7 : okN "enumerate" = true := by decide +kernel
theorem o_8 : okN "int" = true := by decide +kernel
theorem o_9 : okN "_law_f" = true := by decide +kernel
theorem o_10 : okN "_law_mul" = true := by decide +kernel
theorem o_11 : okN "_law_add" = true := by decide +kernel
theorem o_12 : okN "tuple" = true := by decide +kernel
theorem o_13 : okN "_law_cross" = true := by decide +kernel
theorem o_14 : okN "_law_less" = true := by decide +kernel
theorem o_15 : okN "_law_meet" = true := by decide +kernel
theorem o_16 : okN "Along" = true := by decide +kernel
theorem o_17 : okN "Spread" = true := by decide +kernel
theorem o_18 : okN "Fix" = true := by decide +kernel
theorem o_19 : okN "isinstance" = true := by decide +kernel
theorem o_20 : okN "bool" = true := by decide +kernel
theorem o_21 : okN "is_number" = true := by decide +kernel
theorem o_22 : okN "all" = true := by decide +kernel
theorem o_23 : okN "FARTHEST" = true := by decide +kernel
theorem o_24 : okN "are_numbers" = true := by decide +kernel
theorem o_25 : okN "is_point" = true := by decide +kernel
theorem o_26 : okN "cross" = true := by decide +kernel
theorem o_27 : okN "common" = true := by decide +kernel
theorem o_28 : okN "fraction" = true := by decide +kernel
theorem o_29 : okN "whole" = true := by decide +kernel
theorem o_30 : okN "product" = true := by decide +kernel
theorem o_31 : okN "plus" = true := by decide +kernel
theorem o_32 : okN "point" = true := by decide +kernel
theorem o_33 : okN "divided" = true := by decide +kernel
theorem o_34 : okN "sorted" = true := by decide +kernel
theorem o_35 : okN "in_order" = true := by decide +kernel
theorem o_36 : okN "minus" = true := by decide +kernel
theorem o_37 : okN "is_less" = true := by decide +kernel
theorem o_38 : okN "apart" = true := by decide +kernel
theorem o_39 : okN "list" = true := by decide +kernel
theorem o_40 : okN "sees" = true := by decide +kernel
theorem o_41 : okN "places_in_order" = true := by decide +kernel
theorem o_42 : okN "meeting" = true := by decide +kernel
theorem o_43 : okN "are_one_line" = true := by decide +kernel
theorem o_44 : okN "is_bearing" = true := by decide +kernel
theorem o_45 : okN "MOST" = true := by decide +kernel
theorem o_46 : okN "taken" = true := by decide +kernel
theorem o_47 : okN "_law_told" = true := by decide +kernel
theorem o_48 : okN "_law_due" = true := by decide +kernel
theorem o_49 : okN "_law_take" = true := by decide +kernel
theorem o_50 : okN "_law_pool" = true := by decide +kernel
def fa0 : List He.Fa := [.free "sum", .glo "_law_draw", .free "abs", .free "len", .free "range", .glo "_law_cell_at", .glo "_law_digits", .free "enumerate", .free "int", .glo "_law_f", .glo "_law_mul", .glo "_law_add", .free "tuple", .glo "_law_cross", .glo "_law_less", .glo "_law_meet", .glo "Along", .glo "Spread", .glo "Fix", .free "isinstance", .free "bool", .glo "is_number", .free "all", .int "FARTHEST" (9999)]
def fa1 : List He.Fa := [.glo "are_numbers", .glo "is_point", .glo "cross", .glo "common", .glo "fraction", .glo "whole", .glo "product", .glo "plus", .glo "point", .glo "divided", .free "sorted", .glo "in_order", .glo "minus", .glo "is_less", .glo "apart", .free "list", .mkr "Spread", .mkr "Fix", .glo "sees", .glo "places_in_order", .glo "meeting", .glo "are_one_line", .glo "is_bearing", .int "MOST" (10)]
def fa2 : List He.Fa := [.glo "taken", .glo "_law_told", .glo "_law_due", .glo "_law_take", .glo "_law_pool", .glo "law"]
def fa : List He.Fa := fa0 ++ fa1 ++ fa2
def tu : List (Str × List W) := []
def nws : List Str := ["Along"]
def ck (K : PySem.W.Frag) : Bool := kokB K clsN fldN && ((fa.all fun f => f.ok K) && ((tu.all fun p => tupB K p.1 p.2) && (nws.all fun C => nwB K C)))
theorem fct {K : PySem.W.Frag} (c : SaysF ck fn K) (i : Nat) {f : He.Fa} (h : fa[i]? = some f) : f.ok K = true := List.all_eq_true.mp (He.ba (He.ba c.ck).2).1 f (List.mem_of_getElem? h)
theorem tct {K : PySem.W.Frag} (c : SaysF ck fn K) (i : Nat) {p : Str × List W} (h : tu[i]? = some p) : tupB K p.1 p.2 = true := List.all_eq_true.mp (He.ba (He.ba (He.ba c.ck).2).2).1 p (List.mem_of_getElem? h)
theorem nct {K : PySem.W.Frag} (c : SaysF ck fn K) (i : Nat) {C : Str} (h : nws[i]? = some C) : nwB K C = true := List.all_eq_true.mp (He.ba (He.ba (He.ba c.ck).2).2).2 C (List.mem_of_getElem? h)
set_option maxHeartbeats 0 in
theorem walk {w : World} {K : PySem.W.Frag} {h : Heap} {mg : Str → Option Value} {base : Heap} (X : K.In h) (G : h.Ns mainGlobals mg) (c : SaysF ck fn K) : ∃ fd, FunD K "law" "law" (defArgs s_law) (defBody s_law) (defScope s_law) [] [] (He.ga K "law") fd ∧ mg ("law" : Str) = some (.ref (He.ga K "law")) ∧ FnOk PG w K mg base CX0 7 (He.ga K "law") fd p_law (spM (cnOf PG w K clsN) 1 m_law) := by
  have ko : KOk (cnOf PG w K clsN) fldN := kok_of (He.ba c.ck).1
  obtain ⟨f_law_draw, F_law_draw⟩ := c.def_ 0 (d := d_law_draw) rfl
  have ok_law_draw : FnOk PG w K mg base CX0 1 (He.fAd K d_law_draw.at_) f_law_draw p_law_draw (spM (cnOf PG w K clsN) p_law_draw.length m_law_draw) := step_fn (N := n_law_draw) F_law_draw sc_law_draw (by decide +kernel) ⟨rfl, rfl, rfl⟩ ko GlOk.nil MeOk.nil c_law_draw
  have bj_law_draw : BindJ K f_law_draw p_law_draw (d_law_draw.dvs K) := (bindJ0 (F_law_draw.bindsN fun _ _ _ _ _ _ us hl => match us, hl with | [_, _, _], _ => rfl))
  obtain ⟨f_law_cell_at, F_law_cell_at⟩ := c.def_ 1 (d := d_law_cell_at) rfl
  have ok_law_cell_at : FnOk PG w K mg base CX0 2 (He.fAd K d_law_cell_at.at_) f_law_cell_at p_law_cell_at (spM (cnOf PG w K clsN) p_law_cell_at.length m_law_cell_at) := step_fn (N := n_law_cell_at) F_law_cell_at sc_law_cell_at (by decide +kernel) ⟨rfl, rfl, rfl⟩ ko ((((GlOk.nil.cons o_0 (go_blt (He.free_ok X G (fct c 0 rfl)) rfl)).cons o_1 (go_fn (He.glo_ok X G (fct c 1 rfl)) (fun j => (callN_of ok_law_draw F_law_draw.kp bj_law_draw rfl j).mono (by decide)))).cons o_2 (go_blt (He.free_ok X G (fct c 2 rfl)) rfl)).cons o_3 (go_blt (He.free_ok X G (fct c 3 rfl)) rfl)) MeOk.nil c_law_cell_at
  have bj_law_cell_at : BindJ K f_law_cell_at p_law_cell_at (d_law_cell_at.dvs K) := (bindJ0 (F_law_cell_at.bindsN fun _ _ _ _ _ _ us hl => match us, hl with | [_, _], _ => rfl))
  obtain ⟨f_law_digits, F_law_digits⟩ := c.def_ 2 (d := d_law_digits) rfl
  have ok_law_digits : FnOk PG w K mg base CX0 3 (He.fAd K d_law_digits.at_) f_law_digits p_law_digits (spM (cnOf PG w K clsN) p_law_digits.length m_law_digits) := step_fn (N := n_law_digits) F_law_digits sc_law_digits (by decide +kernel) ⟨rfl, rfl, rfl⟩ ko (((GlOk.nil.cons o_1 (go_fn (He.glo_ok X G (fct c 1 rfl)) (fun j => (callN_of ok_law_draw F_law_draw.kp bj_law_draw rfl j).mono (by decide)))).cons o_4 (go_blt (He.free_ok X G (fct c 4 rfl)) rfl)).cons o_5 (go_fn (He.glo_ok X G (fct c 5 rfl)) (fun j => (callN_of ok_law_cell_at F_law_cell_at.kp bj_law_cell_at rfl j).mono (by decide)))) MeOk.nil c_law_digits
  have bj_law_digits : BindJ K f_law_digits p_law_digits (d_law_digits.dvs K) := (bindJ0 (F_law_digits.bindsN fun _ _ _ _ _ _ us hl => match us, hl with | [_, _, _, _], _ => rfl))
  obtain ⟨f_law_pool, F_law_pool⟩ := c.def_ 3 (d := d_law_pool) rfl
  have ok_law_pool : FnOk PG w K mg base CX0 4 (He.fAd K d_law_pool.at_) f_law_pool p_law_pool (spM (cnOf PG w K clsN) p_law_pool.length m_law_pool) := step_fn (N := n_law_pool) F_law_pool sc_law_pool (by decide +kernel) ⟨rfl, rfl, rfl⟩ ko ((GlOk.nil.cons o_6 (go_fn (He.glo_ok X G (fct c 6 rfl)) (fun j => (callN_of ok_law_digits F_law_digits.kp bj_law_digits rfl j).mono (by decide)))).cons o_7 (go_blt (He.free_ok X G (fct c 7 rfl)) rfl)) MeOk.nil c_law_pool
  have bj_law_pool : BindJ K f_law_pool p_law_pool (d_law_pool.dvs K) := (bindJ0 (F_law_pool.bindsN fun _ _ _ _ _ _ us hl => match us, hl with | [_, _], _ => rfl))
  obtain ⟨f_law_take, F_law_take⟩ := c.def_ 4 (d := d_law_take) rfl
  have ok_law_take : FnOk PG w K mg base CX0 1 (He.fAd K d_law_take.at_) f_law_take p_law_take (spM (cnOf PG w K clsN) p_law_take.length m_law_take) := step_fn (N := n_law_take) F_law_take sc_law_take (by decide +kernel) ⟨rfl, rfl, rfl⟩ ko (GlOk.nil.cons o_8 (go_blt (He.free_ok X G (fct c 8 rfl)) rfl)) MeOk.nil c_law_take
  have bj_law_take : BindJ K f_law_take p_law_take (d_law_take.dvs K) := (bindJ0 (F_law_take.bindsN fun _ _ _ _ _ _ us hl => match us, hl with | [_, _], _ => rfl))
  obtain ⟨f_law_cross, F_law_cross⟩ := c.def_ 5 (d := d_law_cross) rfl
  have ok_law_cross : FnOk PG w K mg base CX0 1 (He.fAd K d_law_cross.at_) f_law_cross p_law_cross (spM (cnOf PG w K clsN) p_law_cross.length m_law_cross) := step_fn (N := n_law_cross) F_law_cross sc_law_cross (by decide +kernel) ⟨rfl, rfl, rfl⟩ ko GlOk.nil MeOk.nil c_law_cross
  have bj_law_cross : BindJ K f_law_cross p_law_cross (d_law_cross.dvs K) := (bindJ0 (F_law_cross.bindsN fun _ _ _ _ _ _ us hl => match us, hl with | [_, _], _ => rfl))
  obtain ⟨f_law_f, F_law_f⟩ := c.def_ 6 (d := d_law_f) rfl
  have ok_law_f : FnOk PG w K mg base CX0 1 (He.fAd K d_law_f.at_) f_law_f p_law_f (spM (cnOf PG w K clsN) p_law_f.length m_law_f) := step_fn (N := n_law_f) F_law_f sc_law_f (by decide +kernel) ⟨rfl, rfl, rfl⟩ ko ((GlOk.nil.cons o_8 (go_blt (He.free_ok X G (fct c 8 rfl)) rfl)).cons o_2 (go_blt (He.free_ok X G (fct c 2 rfl)) rfl)) MeOk.nil c_law_f
  have bj_law_f : BindJ K f_law_f p_law_f (d_law_f.dvs K) := (bindJ0 (F_law_f.bindsN fun _ _ _ _ _ _ us hl => match us, hl with | [_, _], _ => rfl))
  obtain ⟨f_law_add, F_law_add⟩ := c.def_ 7 (d := d_law_add) rfl
  have ok_law_add : FnOk PG w K mg base CX0 2 (He.fAd K d_law_add.at_) f_law_add p_law_add (spM (cnOf PG w K clsN) p_law_add.length m_law_add) := step_fn (N := n_law_add) F_law_add sc_law_add (by decide +kernel) ⟨rfl, rfl, rfl⟩ ko (GlOk.nil.cons o_9 (go_fn (He.glo_ok X G (fct c 9 rfl)) (fun j => (callN_of ok_law_f F_law_f.kp bj_law_f rfl j).mono (by decide)))) MeOk.nil c_law_add
  have bj_law_add : BindJ K f_law_add p_law_add (d_law_add.dvs K) := (bindJ_of (l := 1) rfl fun j hj => match j, hj with | 0, _ => F_law_add.binds1 2 0 (by intro z; cases z) rfl fun _ _ _ _ _ _ _ us its hu hi => (match us, its, hu, hi with | [_, _], [_], _, _ => ⟨_, rfl, rfl⟩) | 1, _ => F_law_add.binds1 3 1 (by intro z; cases z) rfl fun _ _ _ _ _ _ _ us its hu hi => (match us, its, hu, hi with | [_, _, _], [_], _, _ => ⟨_, rfl, rfl⟩) | (_ + 2), h => absurd h (by omega))
  obtain ⟨f_law_mul, F_law_mul⟩ := c.def_ 8 (d := d_law_mul) rfl
  have ok_law_mul : FnOk PG w K mg base CX0 2 (He.fAd K d_law_mul.at_) f_law_mul p_law_mul (spM (cnOf PG w K clsN) p_law_mul.length m_law_mul) := step_fn (N := n_law_mul) F_law_mul sc_law_mul (by decide +kernel) ⟨rfl, rfl, rfl⟩ ko (GlOk.nil.cons o_9 (go_fn (He.glo_ok X G (fct c 9 rfl)) (fun j => (callN_of ok_law_f F_law_f.kp bj_law_f rfl j).mono (by decide)))) MeOk.nil c_law_mul
  have bj_law_mul : BindJ K f_law_mul p_law_mul (d_law_mul.dvs K) := (bindJ0 (F_law_mul.bindsN fun _ _ _ _ _ _ us hl => match us, hl with | [_, _], _ => rfl))
  obtain ⟨f_law_meet, F_law_meet⟩ := c.def_ 9 (d := d_law_meet) rfl
  have ok_law_meet : FnOk PG w K mg base CX0 3 (He.fAd K d_law_meet.at_) f_law_meet p_law_meet (spM (cnOf PG w K clsN) p_law_meet.length m_law_meet) := step_fn (N := n_law_meet) F_law_meet sc_law_meet (by decide +kernel) ⟨rfl, rfl, rfl⟩ ko ((((((GlOk.nil.cons o_10 (go_fn (He.glo_ok X G (fct c 10 rfl)) (fun j => (callN_of ok_law_mul F_law_mul.kp bj_law_mul rfl j).mono (by decide)))).cons o_11 (go_fn (He.glo_ok X G (fct c 11 rfl)) (fun j => (callN_of ok_law_add F_law_add.kp bj_law_add rfl j).mono (by decide)))).cons o_4 (go_blt (He.free_ok X G (fct c 4 rfl)) rfl)).cons o_12 (go_blt (He.free_ok X G (fct c 12 rfl)) rfl)).cons o_9 (go_fn (He.glo_ok X G (fct c 9 rfl)) (fun j => (callN_of ok_law_f F_law_f.kp bj_law_f rfl j).mono (by decide)))).cons o_13 (go_fn (He.glo_ok X G (fct c 13 rfl)) (fun j => (callN_of ok_law_cross F_law_cross.kp bj_law_cross rfl j).mono (by decide)))) MeOk.nil c_law_meet
  have bj_law_meet : BindJ K f_law_meet p_law_meet (d_law_meet.dvs K) := (bindJ0 (F_law_meet.bindsN fun _ _ _ _ _ _ us hl => match us, hl with | [_, _], _ => rfl))
  obtain ⟨f_law_less, F_law_less⟩ := c.def_ 10 (d := d_law_less) rfl
  have ok_law_less : FnOk PG w K mg base CX0 1 (He.fAd K d_law_less.at_) f_law_less p_law_less (spM (cnOf PG w K clsN) p_law_less.length m_law_less) := step_fn (N := n_law_less) F_law_less sc_law_less (by decide +kernel) ⟨rfl, rfl, rfl⟩ ko GlOk.nil MeOk.nil c_law_less
  have bj_law_less : BindJ K f_law_less p_law_less (d_law_less.dvs K) := (bindJ0 (F_law_less.bindsN fun _ _ _ _ _ _ us hl => match us, hl with | [_, _], _ => rfl))
  obtain ⟨f_law_due, F_law_due⟩ := c.def_ 11 (d := d_law_due) rfl
  have ok_law_due : FnOk PG w K mg base CX0 4 (He.fAd K d_law_due.at_) f_law_due p_law_due (spM (cnOf PG w K clsN) p_law_due.length m_law_due) := step_fn (N := n_law_due) F_law_due sc_law_due (by decide +kernel) ⟨rfl, rfl, rfl⟩ ko ((((((((GlOk.nil.cons o_10 (go_fn (He.glo_ok X G (fct c 10 rfl)) (fun j => (callN_of ok_law_mul F_law_mul.kp bj_law_mul rfl j).mono (by decide)))).cons o_11 (go_fn (He.glo_ok X G (fct c 11 rfl)) (fun j => (callN_of ok_law_add F_law_add.kp bj_law_add rfl j).mono (by decide)))).cons o_4 (go_blt (He.free_ok X G (fct c 4 rfl)) rfl)).cons o_3 (go_blt (He.free_ok X G (fct c 3 rfl)) rfl)).cons o_14 (go_fn (He.glo_ok X G (fct c 14 rfl)) (fun j => (callN_of ok_law_less F_law_less.kp bj_law_less rfl j).mono (by decide)))).cons o_15 (go_fn (He.glo_ok X G (fct c 15 rfl)) (fun j => (callN_of ok_law_meet F_law_meet.kp bj_law_meet rfl j).mono (by decide)))).cons o_13 (go_fn (He.glo_ok X G (fct c 13 rfl)) (fun j => (callN_of ok_law_cross F_law_cross.kp bj_law_cross rfl j).mono (by decide)))).cons o_7 (go_blt (He.free_ok X G (fct c 7 rfl)) rfl)) MeOk.nil c_law_due
  have bj_law_due : BindJ K f_law_due p_law_due (d_law_due.dvs K) := (bindJ0 (F_law_due.bindsN fun _ _ _ _ _ _ us hl => match us, hl with | [_], _ => rfl))
  obtain ⟨f_law_told, F_law_told⟩ := c.def_ 12 (d := d_law_told) rfl
  have ok_law_told : FnOk PG w K mg base CX0 1 (He.fAd K d_law_told.at_) f_law_told p_law_told (spM (cnOf PG w K clsN) p_law_told.length m_law_told) := step_fn (N := n_law_told) F_law_told sc_law_told (by decide +kernel) ⟨rfl, rfl, rfl⟩ ko ((((GlOk.nil.cons o_16 (go_cls (mk := .no) (by decide) (He.glo_ok X G (fct c 16 rfl)) trivial)).cons o_17 (go_cls (mk := .no) (by decide) (He.glo_ok X G (fct c 17 rfl)) trivial)).cons o_18 (go_cls (mk := .no) (by decide) (He.glo_ok X G (fct c 18 rfl)) trivial)).cons o_19 (go_blt (He.free_ok X G (fct c 19 rfl)) rfl)) MeOk.nil c_law_told
  have bj_law_told : BindJ K f_law_told p_law_told (d_law_told.dvs K) := (bindJ0 (F_law_told.bindsN fun _ _ _ _ _ _ us hl => match us, hl with | [_], _ => rfl))
  obtain ⟨f_is_number, F_is_number⟩ := c.def_ 13 (d := d_is_number) rfl
  have ok_is_number : FnOk PG w K mg base CX0 1 (He.fAd K d_is_number.at_) f_is_number p_is_number (spM (cnOf PG w K clsN) p_is_number.length m_is_number) := step_fn (N := n_is_number) F_is_number sc_is_number (by decide +kernel) ⟨rfl, rfl, rfl⟩ ko (((GlOk.nil.cons o_20 (go_blt (He.free_ok X G (fct c 20 rfl)) rfl)).cons o_8 (go_blt (He.free_ok X G (fct c 8 rfl)) rfl)).cons o_19 (go_blt (He.free_ok X G (fct c 19 rfl)) rfl)) MeOk.nil c_is_number
  have bj_is_number : BindJ K f_is_number p_is_number (d_is_number.dvs K) := (bindJ_of (l := 1) rfl fun j hj => match j, hj with | 0, _ => F_is_number.binds1 2 0 (by intro z; cases z) rfl fun _ _ _ _ _ _ _ us its hu hi => (match us, its, hu, hi with | [_, _], [_], _, _ => ⟨_, rfl, rfl⟩) | 1, _ => F_is_number.binds1 3 1 (by intro z; cases z) rfl fun _ _ _ _ _ _ _ us its hu hi => (match us, its, hu, hi with | [_, _, _], [_], _, _ => ⟨_, rfl, rfl⟩) | (_ + 2), h => absurd h (by omega))
  obtain ⟨f_are_numbers, F_are_numbers⟩ := c.def_ 14 (d := d_are_numbers) rfl
  have ok_are_numbers : FnOk PG w K mg base CX0 2 (He.fAd K d_are_numbers.at_) f_are_numbers p_are_numbers (spM (cnOf PG w K clsN) p_are_numbers.length m_are_numbers) := step_fn (N := n_are_numbers) F_are_numbers sc_are_numbers (by decide +kernel) ⟨rfl, rfl, rfl⟩ ko (((((GlOk.nil.cons o_21 (go_fn (He.glo_ok X G (fct c 21 rfl)) (fun j => (callN_of ok_is_number F_is_number.kp bj_is_number rfl j).mono (by decide)))).cons o_22 (go_blt (He.free_ok X G (fct c 22 rfl)) rfl)).cons o_3 (go_blt (He.free_ok X G (fct c 3 rfl)) rfl)).cons o_12 (go_blt (He.free_ok X G (fct c 12 rfl)) rfl)).cons o_19 (go_blt (He.free_ok X G (fct c 19 rfl)) rfl)) MeOk.nil c_are_numbers
  have bj_are_numbers : BindJ K f_are_numbers p_are_numbers (d_are_numbers.dvs K) := (bindJ0 (F_are_numbers.bindsN fun _ _ _ _ _ _ us hl => match us, hl with | [_, _, _, _], _ => rfl))
  obtain ⟨f_is_point, F_is_point⟩ := c.def_ 15 (d := d_is_point) rfl
  have ok_is_point : FnOk PG w K mg base CX0 3 (He.fAd K d_is_point.at_) f_is_point p_is_point (spM (cnOf PG w K clsN) p_is_point.length m_is_point) := step_fn (N := n_is_point) F_is_point sc_is_point (by decide +kernel) ⟨rfl, rfl, rfl⟩ ko ((GlOk.nil.cons o_23 (go_int (He.int_ok X G (fct c 23 rfl)))).cons o_24 (go_fn (He.glo_ok X G (fct c 24 rfl)) (fun j => (callN_of ok_are_numbers F_are_numbers.kp bj_are_numbers rfl j).mono (by decide)))) MeOk.nil c_is_point
  have bj_is_point : BindJ K f_is_point p_is_point (d_is_point.dvs K) := (bindJ0 (F_is_point.bindsN fun _ _ _ _ _ _ us hl => match us, hl with | [_], _ => rfl))
  obtain ⟨f_is_bearing, F_is_bearing⟩ := c.def_ 16 (d := d_is_bearing) rfl
  have ok_is_bearing : FnOk PG w K mg base CX0 4 (He.fAd K d_is_bearing.at_) f_is_bearing p_is_bearing (spM (cnOf PG w K clsN) p_is_bearing.length m_is_bearing) := step_fn (N := n_is_bearing) F_is_bearing sc_is_bearing (by decide +kernel) ⟨rfl, rfl, rfl⟩ ko ((((((GlOk.nil.cons o_23 (go_int (He.int_ok X G (fct c 23 rfl)))).cons o_24 (go_fn (He.glo_ok X G (fct c 24 rfl)) (fun j => (callN_of ok_are_numbers F_are_numbers.kp bj_are_numbers rfl j).mono (by decide)))).cons o_25 (go_fn (He.glo_ok X G (fct c 25 rfl)) (fun j => (callN_of ok_is_point F_is_point.kp bj_is_point rfl j).mono (by decide)))).cons o_3 (go_blt (He.free_ok X G (fct c 3 rfl)) rfl)).cons o_12 (go_blt (He.free_ok X G (fct c 12 rfl)) rfl)).cons o_19 (go_blt (He.free_ok X G (fct c 19 rfl)) rfl)) MeOk.nil c_is_bearing
  have bj_is_bearing : BindJ K f_is_bearing p_is_bearing (d_is_bearing.dvs K) := (bindJ0 (F_is_bearing.bindsN fun _ _ _ _ _ _ us hl => match us, hl with | [_], _ => rfl))
  obtain ⟨f_cross, F_cross⟩ := c.def_ 17 (d := d_cross) rfl
  have ok_cross : FnOk PG w K mg base CX0 1 (He.fAd K d_cross.at_) f_cross p_cross (spM (cnOf PG w K clsN) p_cross.length m_cross) := step_fn (N := n_cross) F_cross sc_cross (by decide +kernel) ⟨rfl, rfl, rfl⟩ ko GlOk.nil MeOk.nil c_cross
  have bj_cross : BindJ K f_cross p_cross (d_cross.dvs K) := (bindJ0 (F_cross.bindsN fun _ _ _ _ _ _ us hl => match us, hl with | [_, _], _ => rfl))
  obtain ⟨f_are_one_line, F_are_one_line⟩ := c.def_ 18 (d := d_are_one_line) rfl
  have ok_are_one_line : FnOk PG w K mg base CX0 2 (He.fAd K d_are_one_line.at_) f_are_one_line p_are_one_line (spM (cnOf PG w K clsN) p_are_one_line.length m_are_one_line) := step_fn (N := n_are_one_line) F_are_one_line sc_are_one_line (by decide +kernel) ⟨rfl, rfl, rfl⟩ ko (GlOk.nil.cons o_26 (go_fn (He.glo_ok X G (fct c 26 rfl)) (fun j => (callN_of ok_cross F_cross.kp bj_cross rfl j).mono (by decide)))) MeOk.nil c_are_one_line
  have bj_are_one_line : BindJ K f_are_one_line p_are_one_line (d_are_one_line.dvs K) := (bindJ0 (F_are_one_line.bindsN fun _ _ _ _ _ _ us hl => match us, hl with | [_], _ => rfl))
  obtain ⟨f_common, F_common⟩ := c.def_ 19 (d := d_common) rfl
  have ok_common : FnOk PG w K mg base CX0 1 (He.fAd K d_common.at_) f_common p_common (spM (cnOf PG w K clsN) p_common.length m_common) := step_fn (N := n_common) F_common sc_common (by decide +kernel) ⟨rfl, rfl, rfl⟩ ko ((GlOk.nil.cons o_8 (go_blt (He.free_ok X G (fct c 8 rfl)) rfl)).cons o_2 (go_blt (He.free_ok X G (fct c 2 rfl)) rfl)) MeOk.nil c_common
  have bj_common : BindJ K f_common p_common (d_common.dvs K) := (bindJ0 (F_common.bindsN fun _ _ _ _ _ _ us hl => match us, hl with | [_, _], _ => rfl))
  obtain ⟨f_fraction, F_fraction⟩ := c.def_ 20 (d := d_fraction) rfl
  have ok_fraction : FnOk PG w K mg base CX0 2 (He.fAd K d_fraction.at_) f_fraction p_fraction (spM (cnOf PG w K clsN) p_fraction.length m_fraction) := step_fn (N := n_fraction) F_fraction sc_fraction (by decide +kernel) ⟨rfl, rfl, rfl⟩ ko (GlOk.nil.cons o_27 (go_fn (He.glo_ok X G (fct c 27 rfl)) (fun j => (callN_of ok_common F_common.kp bj_common rfl j).mono (by decide)))) MeOk.nil c_fraction
  have bj_fraction : BindJ K f_fraction p_fraction (d_fraction.dvs K) := (bindJ0 (F_fraction.bindsN fun _ _ _ _ _ _ us hl => match us, hl with | [_, _], _ => rfl))
  obtain ⟨f_divided, F_divided⟩ := c.def_ 21 (d := d_divided) rfl
  have ok_divided : FnOk PG w K mg base CX0 3 (He.fAd K d_divided.at_) f_divided p_divided (spM (cnOf PG w K clsN) p_divided.length m_divided) := step_fn (N := n_divided) F_divided sc_divided (by decide +kernel) ⟨rfl, rfl, rfl⟩ ko (GlOk.nil.cons o_28 (go_fn (He.glo_ok X G (fct c 28 rfl)) (fun j => (callN_of ok_fraction F_fraction.kp bj_fraction rfl j).mono (by decide)))) MeOk.nil c_divided
  have bj_divided : BindJ K f_divided p_divided (d_divided.dvs K) := (bindJ0 (F_divided.bindsN fun _ _ _ _ _ _ us hl => match us, hl with | [_, _], _ => rfl))
  obtain ⟨f_whole, F_whole⟩ := c.def_ 22 (d := d_whole) rfl
  have ok_whole : FnOk PG w K mg base CX0 1 (He.fAd K d_whole.at_) f_whole p_whole (spM (cnOf PG w K clsN) p_whole.length m_whole) := step_fn (N := n_whole) F_whole sc_whole (by decide +kernel) ⟨rfl, rfl, rfl⟩ ko GlOk.nil MeOk.nil c_whole
  have bj_whole : BindJ K f_whole p_whole (d_whole.dvs K) := (bindJ0 (F_whole.bindsN fun _ _ _ _ _ _ us hl => match us, hl with | [_], _ => rfl))
  obtain ⟨f_point, F_point⟩ := c.def_ 23 (d := d_point) rfl
  have ok_point : FnOk PG w K mg base CX0 2 (He.fAd K d_point.at_) f_point p_point (spM (cnOf PG w K clsN) p_point.length m_point) := step_fn (N := n_point) F_point sc_point (by decide +kernel) ⟨rfl, rfl, rfl⟩ ko (GlOk.nil.cons o_29 (go_fn (He.glo_ok X G (fct c 29 rfl)) (fun j => (callN_of ok_whole F_whole.kp bj_whole rfl j).mono (by decide)))) MeOk.nil c_point
  have bj_point : BindJ K f_point p_point (d_point.dvs K) := (bindJ0 (F_point.bindsN fun _ _ _ _ _ _ us hl => match us, hl with | [_], _ => rfl))
  obtain ⟨f_plus, F_plus⟩ := c.def_ 24 (d := d_plus) rfl
  have ok_plus : FnOk PG w K mg base CX0 3 (He.fAd K d_plus.at_) f_plus p_plus (spM (cnOf PG w K clsN) p_plus.length m_plus) := step_fn (N := n_plus) F_plus sc_plus (by decide +kernel) ⟨rfl, rfl, rfl⟩ ko (GlOk.nil.cons o_28 (go_fn (He.glo_ok X G (fct c 28 rfl)) (fun j => (callN_of ok_fraction F_fraction.kp bj_fraction rfl j).mono (by decide)))) MeOk.nil c_plus
  have bj_plus : BindJ K f_plus p_plus (d_plus.dvs K) := (bindJ0 (F_plus.bindsN fun _ _ _ _ _ _ us hl => match us, hl with | [_, _], _ => rfl))
  obtain ⟨f_product, F_product⟩ := c.def_ 25 (d := d_product) rfl
  have ok_product : FnOk PG w K mg base CX0 3 (He.fAd K d_product.at_) f_product p_product (spM (cnOf PG w K clsN) p_product.length m_product) := step_fn (N := n_product) F_product sc_product (by decide +kernel) ⟨rfl, rfl, rfl⟩ ko (GlOk.nil.cons o_28 (go_fn (He.glo_ok X G (fct c 28 rfl)) (fun j => (callN_of ok_fraction F_fraction.kp bj_fraction rfl j).mono (by decide)))) MeOk.nil c_product
  have bj_product : BindJ K f_product p_product (d_product.dvs K) := (bindJ0 (F_product.bindsN fun _ _ _ _ _ _ us hl => match us, hl with | [_, _], _ => rfl))
  obtain ⟨f_meeting, F_meeting⟩ := c.def_ 26 (d := d_meeting) rfl
  have ok_meeting : FnOk PG w K mg base CX0 4 (He.fAd K d_meeting.at_) f_meeting p_meeting (spM (cnOf PG w K clsN) p_meeting.length m_meeting) := step_fn (N := n_meeting) F_meeting sc_meeting (by decide +kernel) ⟨rfl, rfl, rfl⟩ ko ((((((GlOk.nil.cons o_30 (go_fn (He.glo_ok X G (fct c 30 rfl)) (fun j => (callN_of ok_product F_product.kp bj_product rfl j).mono (by decide)))).cons o_31 (go_fn (He.glo_ok X G (fct c 31 rfl)) (fun j => (callN_of ok_plus F_plus.kp bj_plus rfl j).mono (by decide)))).cons o_32 (go_fn (He.glo_ok X G (fct c 32 rfl)) (fun j => (callN_of ok_point F_point.kp bj_point rfl j).mono (by decide)))).cons o_26 (go_fn (He.glo_ok X G (fct c 26 rfl)) (fun j => (callN_of ok_cross F_cross.kp bj_cross rfl j).mono (by decide)))).cons o_29 (go_fn (He.glo_ok X G (fct c 29 rfl)) (fun j => (callN_of ok_whole F_whole.kp bj_whole rfl j).mono (by decide)))).cons o_33 (go_fn (He.glo_ok X G (fct c 33 rfl)) (fun j => (callN_of ok_divided F_divided.kp bj_divided rfl j).mono (by decide)))) MeOk.nil c_meeting
  have bj_meeting : BindJ K f_meeting p_meeting (d_meeting.dvs K) := (bindJ0 (F_meeting.bindsN fun _ _ _ _ _ _ us hl => match us, hl with | [_, _], _ => rfl))
  obtain ⟨f_in_order, F_in_order⟩ := c.def_ 27 (d := d_in_order) rfl
  have ok_in_order : FnOk PG w K mg base CX0 3 (He.fAd K d_in_order.at_) f_in_order p_in_order (spM (cnOf PG w K clsN) p_in_order.length m_in_order) := step_fn (N := n_in_order) F_in_order sc_in_order (by decide +kernel) ⟨rfl, rfl, rfl⟩ ko (((GlOk.nil.cons o_28 (go_fn (He.glo_ok X G (fct c 28 rfl)) (fun j => (callN_of ok_fraction F_fraction.kp bj_fraction rfl j).mono (by decide)))).cons o_34 (go_blt (He.free_ok X G (fct c 34 rfl)) rfl)).cons o_27 (go_fn (He.glo_ok X G (fct c 27 rfl)) (fun j => (callN_of ok_common F_common.kp bj_common rfl j).mono (by decide)))) MeOk.nil c_in_order
  have bj_in_order : BindJ K f_in_order p_in_order (d_in_order.dvs K) := (bindJ0 (F_in_order.bindsN fun _ _ _ _ _ _ us hl => match us, hl with | [_], _ => rfl))
  obtain ⟨f_places_in_order, F_places_in_order⟩ := c.def_ 28 (d := d_places_in_order) rfl
  have ok_places_in_order : FnOk PG w K mg base CX0 4 (He.fAd K d_places_in_order.at_) f_places_in_order p_places_in_order (spM (cnOf PG w K clsN) p_places_in_order.length m_places_in_order) := step_fn (N := n_places_in_order) F_places_in_order sc_places_in_order (by decide +kernel) ⟨rfl, rfl, rfl⟩ ko ((GlOk.nil.cons o_34 (go_blt (He.free_ok X G (fct c 34 rfl)) rfl)).cons o_35 (go_fn (He.glo_ok X G (fct c 35 rfl)) (fun j => (callN_of ok_in_order F_in_order.kp bj_in_order rfl j).mono (by decide)))) MeOk.nil c_places_in_order
  have bj_places_in_order : BindJ K f_places_in_order p_places_in_order (d_places_in_order.dvs K) := (bindJ0 (F_places_in_order.bindsN fun _ _ _ _ _ _ us hl => match us, hl with | [_], _ => rfl))
  obtain ⟨f_minus, F_minus⟩ := c.def_ 29 (d := d_minus) rfl
  have ok_minus : FnOk PG w K mg base CX0 3 (He.fAd K d_minus.at_) f_minus p_minus (spM (cnOf PG w K clsN) p_minus.length m_minus) := step_fn (N := n_minus) F_minus sc_minus (by decide +kernel) ⟨rfl, rfl, rfl⟩ ko (GlOk.nil.cons o_28 (go_fn (He.glo_ok X G (fct c 28 rfl)) (fun j => (callN_of ok_fraction F_fraction.kp bj_fraction rfl j).mono (by decide)))) MeOk.nil c_minus
  have bj_minus : BindJ K f_minus p_minus (d_minus.dvs K) := (bindJ0 (F_minus.bindsN fun _ _ _ _ _ _ us hl => match us, hl with | [_, _], _ => rfl))
  obtain ⟨f_apart, F_apart⟩ := c.def_ 30 (d := d_apart) rfl
  have ok_apart : FnOk PG w K mg base CX0 4 (He.fAd K d_apart.at_) f_apart p_apart (spM (cnOf PG w K clsN) p_apart.length m_apart) := step_fn (N := n_apart) F_apart sc_apart (by decide +kernel) ⟨rfl, rfl, rfl⟩ ko (GlOk.nil.cons o_36 (go_fn (He.glo_ok X G (fct c 36 rfl)) (fun j => (callN_of ok_minus F_minus.kp bj_minus rfl j).mono (by decide)))) MeOk.nil c_apart
  have bj_apart : BindJ K f_apart p_apart (d_apart.dvs K) := (bindJ0 (F_apart.bindsN fun _ _ _ _ _ _ us hl => match us, hl with | [_, _], _ => rfl))
  obtain ⟨f_is_less, F_is_less⟩ := c.def_ 31 (d := d_is_less) rfl
  have ok_is_less : FnOk PG w K mg base CX0 1 (He.fAd K d_is_less.at_) f_is_less p_is_less (spM (cnOf PG w K clsN) p_is_less.length m_is_less) := step_fn (N := n_is_less) F_is_less sc_is_less (by decide +kernel) ⟨rfl, rfl, rfl⟩ ko GlOk.nil MeOk.nil c_is_less
  have bj_is_less : BindJ K f_is_less p_is_less (d_is_less.dvs K) := (bindJ0 (F_is_less.bindsN fun _ _ _ _ _ _ us hl => match us, hl with | [_, _], _ => rfl))
  obtain ⟨f_sees, F_sees⟩ := c.def_ 32 (d := d_sees) rfl
  have ok_sees : FnOk PG w K mg base CX0 5 (He.fAd K d_sees.at_) f_sees p_sees (spM (cnOf PG w K clsN) p_sees.length m_sees) := step_fn (N := n_sees) F_sees sc_sees (by decide +kernel) ⟨rfl, rfl, rfl⟩ ko ((((((GlOk.nil.cons o_37 (go_fn (He.glo_ok X G (fct c 37 rfl)) (fun j => (callN_of ok_is_less F_is_less.kp bj_is_less rfl j).mono (by decide)))).cons o_29 (go_fn (He.glo_ok X G (fct c 29 rfl)) (fun j => (callN_of ok_whole F_whole.kp bj_whole rfl j).mono (by decide)))).cons o_30 (go_fn (He.glo_ok X G (fct c 30 rfl)) (fun j => (callN_of ok_product F_product.kp bj_product rfl j).mono (by decide)))).cons o_31 (go_fn (He.glo_ok X G (fct c 31 rfl)) (fun j => (callN_of ok_plus F_plus.kp bj_plus rfl j).mono (by decide)))).cons o_32 (go_fn (He.glo_ok X G (fct c 32 rfl)) (fun j => (callN_of ok_point F_point.kp bj_point rfl j).mono (by decide)))).cons o_38 (go_fn (He.glo_ok X G (fct c 38 rfl)) (fun j => (callN_of ok_apart F_apart.kp bj_apart rfl j).mono (by decide)))) MeOk.nil c_sees
  have bj_sees : BindJ K f_sees p_sees (d_sees.dvs K) := (bindJ0 (F_sees.bindsN fun _ _ _ _ _ _ us hl => match us, hl with | [_, _], _ => rfl))
  obtain ⟨f_Fix_init, F_Fix_init⟩ := c.def_ 33 (d := d_Fix_init) rfl
  have ok_Fix_init : FnOk PG w K mg base CX0 1 (He.fAd K d_Fix_init.at_) f_Fix_init p_Fix_init (spI (cnOf PG w K clsN) p_Fix_init.length "Fix" m_Fix_init) := step_init (C := "Fix") (N := n_Fix_init) F_Fix_init sc_Fix_init (by decide +kernel) ⟨rfl, rfl, rfl⟩ ko GlOk.nil MeOk.nil c_Fix_init
  have bj_Fix_init : BindJ K f_Fix_init p_Fix_init (d_Fix_init.dvs K) := (bindJ0 (F_Fix_init.bindsN fun _ _ _ _ _ _ us hl => match us, hl with | [_, _], _ => rfl))
  obtain ⟨f_Spread_init, F_Spread_init⟩ := c.def_ 34 (d := d_Spread_init) rfl
  have ok_Spread_init : FnOk PG w K mg base CX0 1 (He.fAd K d_Spread_init.at_) f_Spread_init p_Spread_init (spI (cnOf PG w K clsN) p_Spread_init.length "Spread" m_Spread_init) := step_init (C := "Spread") (N := n_Spread_init) F_Spread_init sc_Spread_init (by decide +kernel) ⟨rfl, rfl, rfl⟩ ko (GlOk.nil.cons o_39 (go_blt (He.free_ok X G (fct c 39 rfl)) rfl)) MeOk.nil c_Spread_init
  have bj_Spread_init : BindJ K f_Spread_init p_Spread_init (d_Spread_init.dvs K) := (bindJ0 (F_Spread_init.bindsN fun _ _ _ _ _ _ us hl => match us, hl with | [_, _], _ => rfl))
  obtain ⟨f_taken, F_taken⟩ := c.def_ 35 (d := d_taken) rfl
  have ok_taken : FnOk PG w K mg base CX0 6 (He.fAd K d_taken.at_) f_taken p_taken (spM (cnOf PG w K clsN) p_taken.length m_taken) := step_fn (N := n_taken) F_taken sc_taken (by decide +kernel) ⟨rfl, rfl, rfl⟩ ko ((((((((((((((((GlOk.nil.cons o_17 ((go_cls (k := 2) (by decide) (He.glo_ok X G (fct c 17 rfl)) (mk_of (He.mkr_ok (fct c 40 rfl)) ok_Spread_init bj_Spread_init rfl)).mono (by decide))).cons o_18 ((go_cls (k := 2) (by decide) (He.glo_ok X G (fct c 18 rfl)) (mk_of (He.mkr_ok (fct c 41 rfl)) ok_Fix_init bj_Fix_init rfl)).mono (by decide))).cons o_40 (go_fn (He.glo_ok X G (fct c 42 rfl)) (fun j => (callN_of ok_sees F_sees.kp bj_sees rfl j).mono (by decide)))).cons o_41 (go_fn (He.glo_ok X G (fct c 43 rfl)) (fun j => (callN_of ok_places_in_order F_places_in_order.kp bj_places_in_order rfl j).mono (by decide)))).cons o_42 (go_fn (He.glo_ok X G (fct c 44 rfl)) (fun j => (callN_of ok_meeting F_meeting.kp bj_meeting rfl j).mono (by decide)))).cons o_26 (go_fn (He.glo_ok X G (fct c 26 rfl)) (fun j => (callN_of ok_cross F_cross.kp bj_cross rfl j).mono (by decide)))).cons o_7 (go_blt (He.free_ok X G (fct c 7 rfl)) rfl)).cons o_16 (go_cls (mk := .nw) (by decide) (He.glo_ok X G (fct c 16 rfl)) (nw_of (nct c 0 rfl)))).cons o_43 (go_fn (He.glo_ok X G (fct c 45 rfl)) (fun j => (callN_of ok_are_one_line F_are_one_line.kp bj_are_one_line rfl j).mono (by decide)))).cons o_44 (go_fn (He.glo_ok X G (fct c 46 rfl)) (fun j => (callN_of ok_is_bearing F_is_bearing.kp bj_is_bearing rfl j).mono (by decide)))).cons o_22 (go_blt (He.free_ok X G (fct c 22 rfl)) rfl)).cons o_45 (go_int (He.int_ok X G (fct c 47 rfl)))).cons o_3 (go_blt (He.free_ok X G (fct c 3 rfl)) rfl)).cons o_12 (go_blt (He.free_ok X G (fct c 12 rfl)) rfl)).cons o_39 (go_blt (He.free_ok X G (fct c 39 rfl)) rfl)).cons o_19 (go_blt (He.free_ok X G (fct c 19 rfl)) rfl)) MeOk.nil c_taken
  have bj_taken : BindJ K f_taken p_taken (d_taken.dvs K) := (bindJ0 (F_taken.bindsN fun _ _ _ _ _ _ us hl => match us, hl with | [_], _ => rfl))
  obtain ⟨f_law, F_law⟩ := c.def_ 36 (d := d_law) rfl
  have ok_law : FnOk PG w K mg base CX0 7 (He.fAd K d_law.at_) f_law p_law (spM (cnOf PG w K clsN) p_law.length m_law) := step_fn (N := n_law) F_law sc_law (by decide +kernel) ⟨rfl, rfl, rfl⟩ ko ((((((((GlOk.nil.cons o_46 (go_fn (He.glo_ok X G (fct c 48 rfl)) (fun j => (callN_of ok_taken F_taken.kp bj_taken rfl j).mono (by decide)))).cons o_47 (go_fn (He.glo_ok X G (fct c 49 rfl)) (fun j => (callN_of ok_law_told F_law_told.kp bj_law_told rfl j).mono (by decide)))).cons o_12 (go_blt (He.free_ok X G (fct c 12 rfl)) rfl)).cons o_48 (go_fn (He.glo_ok X G (fct c 50 rfl)) (fun j => (callN_of ok_law_due F_law_due.kp bj_law_due rfl j).mono (by decide)))).cons o_2 (go_blt (He.free_ok X G (fct c 2 rfl)) rfl)).cons o_49 (go_fn (He.glo_ok X G (fct c 51 rfl)) (fun j => (callN_of ok_law_take F_law_take.kp bj_law_take rfl j).mono (by decide)))).cons o_4 (go_blt (He.free_ok X G (fct c 4 rfl)) rfl)).cons o_50 (go_fn (He.glo_ok X G (fct c 52 rfl)) (fun j => (callN_of ok_law_pool F_law_pool.kp bj_law_pool rfl j).mono (by decide)))) MeOk.nil c_law
  have bj_law : BindJ K f_law p_law (d_law.dvs K) := (bindJ0 (F_law.bindsN fun _ _ _ _ _ _ us hl => match us, hl with | [_], _ => rfl))
  exact ⟨f_law, F_law, He.glo_ok X G (fct c 53 rfl), ok_law⟩
def lo0 : List PySem.Str := ["__name__", "BridgeError", "BadBearings", "FARTHEST", "is_number", "are_numbers", "is_point", "common", "fraction", "whole", "plus", "minus", "product", "divided", "is_less", "in_order", "point", "apart", "MOST", "Fix", "Spread", "Along", "is_bearing", "cross"]
def lo1 : List PySem.Str := ["meeting", "sees", "places_in_order", "are_one_line", "taken", "_law_draw", "_law_cell_at", "_law_digits", "_law_take", "_law_pool", "_law_f", "_law_add", "_law_mul", "_law_less", "_law_cross", "_law_meet", "_law_due", "_law_told"]
def loose : List PySem.Str := lo0 ++ lo1
abbrev RR : PySem.W.OpenRow := PySem.W.OpenLaw.row PySem.Challenge.rw_seabridge_k08_whole_bearings
abbrev hk : PySem.W.Hook := hookF 5 ck fn
def ob (s : PySem.W.SharedT) : He.AlD := obsFG 5 ck fn (HandSHeadRun.getT s)
theorem ob_eq (s : PySem.W.SharedT) : ob s = hk.obs s.abs := obsFG_eq (HandSHeadRun.getT_eq s)
theorem run (w : World) : HandSHeadRun.RunEq RR (PySem.W.view RR.prog [45]) hk ob 20000 loose w := by
  intro os
  kernel_rfl
end
end Wk

open PySem PySem.W PySem.Calls PyProof.Rows in
theorem holds_of (pure_ : ∀ ns : List Int, SB.ScrOk ns → ∃ S, Wk.m_law [.scr ns] [] = .ok (.bl true) S) : PySem.Challenge.rw_seabridge_k08_whole_bearings.Holds := by
  w_on; o_law
  refine HandSHeadRun.head_any (r := OpenLaw.row PySem.Challenge.rw_seabridge_k08_whole_bearings) (q := view (OpenLaw.row PySem.Challenge.rw_seabridge_k08_whole_bearings).prog [45]) (H := Wk.hk) (ob := Wk.ob) (M := 20000) (loose := Wk.loose) (d := HandSHeadRun.topDef (OpenLaw.row PySem.Challenge.rw_seabridge_k08_whole_bearings).prog 45) (kwd := []) Wk.ob_eq
    (by kernel_rfl) (fun s => by kernel_rfl) Wk.run (by kernel_rfl) (by kernel_rfl) (by kernel_rfl) (by rfl) (by first | assumption | decide +kernel) (by decide +kernel) ⟨rfl, rfl, rfl, rfl, rfl, by decide +kernel⟩ ?hw ?hc
  case hw => w_witness2
  case hc =>
    refine SB.walk_ofS (l := PySem.Challenge.rw_seabridge_k08_whole_bearings) (k := 7) (x := "script") rfl (by kernel_rfl) ⟨rfl, by decide, by decide⟩ ?F
    intro w mg fa h Y G hmg0
    obtain ⟨K, KX, c⟩ := Y
    obtain ⟨fd, F, hg, _⟩ := Wk.walk (w := w) (base := h) KX G c
    have hmg : mg ("law" : PySem.Str) = some (.ref fa) := by
      have e : (HandSHeadRun.topDef (OpenLaw.row PySem.Challenge.rw_seabridge_k08_whole_bearings).prog 45).name = ("law" : PySem.Str) := by kernel_rfl
      rw [← e]
      exact hmg0
    have e := hmg.symm.trans hg
    cases e
    have b := L2.FunD.bindsA (ps := ["script"]) F fun _ _ _ _ _ _ us hl => match us, hl with | [_], _ => rfl
    refine ⟨K, fd, KX, fun s v => b s [v] rfl, fun base hK hB => ?_⟩
    obtain ⟨fd2, F2, _, F3⟩ := Wk.walk (w := w) (base := base) KX G c
    have e2 : fd = fd2 := SB.funD_same F F2
    subst e2
    exact SB.law_ok rfl F3 rfl pure_

set_option maxHeartbeats 200000
namespace Wk
open PySem PySem.Spec PyProof.Rows L2 SB
theorem abs_nat (p : Int) : (if p < 0 then -p else p) = (p.natAbs : Int) := by omega
theorem common_ok {a b : Int} {k : Nat} {S : Hm} (hb : b.natAbs < 2 ^ k) (hk : 2 * k + 1 ≤ hugeN) : m_common [.int a, .int b] S = .ok (.int (Nat.gcd a.natAbs b.natAbs : Nat)) S := by
  have := gcd_loop (t := tVal (eBin fNe (eVar 1) (eC (.int 0)))) (i := 0) (j := 1) (by decide) (fun σ S b hj => by
    simp only [ev_tval, ev_bin, ev_var, hj, opt_some, R.bind_ok, ev_bin1, ev_c, o_nei, ev_tbool]
    congr 1
    simp) S k hugeN a.natAbs b.natAbs [some (.val (.int a.natAbs)), some (.val (.int b.natAbs))] hb hk rfl rfl
  unfold gcdBody at this
  unfold m_common b_common
  rw [ev_def]
  show (sSeq _ _ [some (.val (.int a)), some (.val (.int b))] S).bind kDef = _
  simp only [ev_seq, ev_par, ev_call, ev_cons, ev_var, getSlot, List.getElem?_cons_zero, List.getElem?_cons_succ, opt_some, R.bind_ok, ev_cons1, ev_nil, ev_cons2, o_abs, ev_par1, ev_par2, ev_seqn, abs_nat, List.set_cons_zero, List.set_cons_succ, ev_while]
  rw [this]
  simp only [R.bind_ok, List.set_cons_zero, List.set_cons_succ, ev_seqn, ev_seq, ev_ret, ev_var, getSlot, List.getElem?_cons_zero, opt_some, ev_ret1, ev_seqr, ev_def1]
theorem fdiv_pos {a g : Int} (hg : 0 < g) : a.fdiv g = a / g := Int.fdiv_eq_ediv_of_nonneg _ (by omega)
theorem gcd_pos {o u : Int} (hu : u ≠ 0) : 0 < (Nat.gcd o.natAbs u.natAbs : Int) := by
  have : 0 < Nat.gcd o.natAbs u.natAbs := Nat.gcd_pos_of_pos_right _ (by omega)
  omega
theorem gcd_log {o u : Int} (hu : u ≠ 0) (h : u.natAbs < 2 ^ 9000) : (((Nat.gcd o.natAbs u.natAbs : Nat) : Int)).natAbs.log2 < 9000 := by
  rw [Int.natAbs_natCast]
  refine (Nat.log2_lt (by have := gcd_pos (o := o) hu; omega)).mpr (Nat.lt_of_le_of_lt (Nat.gcd_le_right _ (by omega)) h)
theorem huge_ok : 2 * 9000 + 1 ≤ hugeN := by decide
theorem fraction_ok {o u : Int} {S : Hm} (hu : u ≠ 0) (h : u.natAbs < 2 ^ 9000) : m_fraction [.int o, .int u] S = .ok (pr (Rat.divInt o u)) S := by
  have fin : ∀ (o u : Int), 0 < u → u.natAbs < 2 ^ 9000 → (sSeq (sAsg (tgName 2) (eCallD m_common [] (aCons (eVar 0) (aCons (eVar 1) aNil)))) (sSeq (sRet (eTup (aCons (eBin fDiv (eVar 0) (eVar 2)) (aCons (eBin fDiv (eVar 1) (eVar 2)) aNil)))) sNil) [some (.val (.int o)), some (.val (.int u)), none] S).bind kDef = .ok (pr (Rat.divInt o u)) S := fun o u hu h => by
    have hc := common_ok (a := o) (b := u) (S := S) h huge_ok
    simp only [ev_seq, ev_asg, ev_calld, ev_cons, ev_var, getSlot, List.getElem?_cons_zero, List.getElem?_cons_succ, opt_some, R.bind_ok, ev_cons1, ev_nil, ev_cons2, ev_calld1, List.append_nil, hc, ev_asg1, ev_tgname, List.set_cons_zero, List.set_cons_succ, ev_nx, ev_seqn, ev_ret, ev_tup, ev_bin, ev_bin1]
    have g0 := gcd_pos (o := o) (u := u) (by omega)
    have gl := gcd_log (o := o) (u := u) (by omega) h
    rw [o_div, if_pos ⟨by omega, gl⟩]
    simp only [R.bind_ok, ev_cons1, ev_cons, ev_bin, ev_var, getSlot, List.getElem?_cons_zero, List.getElem?_cons_succ, opt_some, ev_bin1]
    rw [o_div, if_pos ⟨by omega, gl⟩]
    simp only [R.bind_ok, ev_cons1, ev_nil, ev_cons2, kTup2, ev_ret1, ev_seqr, ev_def1]
    rw [divInt_pos hu, fdiv_pos g0, fdiv_pos g0]
  unfold m_fraction b_fraction
  rw [ev_def]
  show (sSeq _ _ [some (.val (.int o)), some (.val (.int u)), none] S).bind kDef = _
  by_cases hn : u < 0
  · have := fin (-o) (-u) (by omega) (by rw [Int.natAbs_neg]; exact h)
    rw [divInt_neg] at this
    rw [← this]
    simp only [ev_seq, ev_sif, ev_tval, ev_bin, ev_var, getSlot, List.getElem?_cons_zero, List.getElem?_cons_succ, opt_some, R.bind_ok, ev_bin1, ev_c, o_lt, ev_tbool, hn, decide_true, ev_sift, ev_par, ev_un, o_neg, ev_par1, ev_par2, ev_seqn, ev_snil, List.set_cons_zero, List.set_cons_succ]
  · rw [← fin o u (by omega) h]
    simp only [ev_seq, ev_sif, ev_tval, ev_bin, ev_var, getSlot, List.getElem?_cons_zero, List.getElem?_cons_succ, opt_some, R.bind_ok, ev_bin1, ev_c, o_lt, ev_tbool, hn, decide_false, ev_siff, ev_seqn, ev_snil]

theorem nat_pow_9000 {n k : Nat} (h : n < 2 ^ k) (hk : k ≤ 9000) : n < 2 ^ 9000 := Nat.lt_of_lt_of_le h (Nat.pow_le_pow_right (by decide) hk)
theorem mul_cross {a b : Rat} {k l : Nat} (ha : zq k a) (hb : zq l b) (h : k + l ≤ 8000) : mulOk a.num b.den = true ∧ mulOk b.num a.den = true ∧ mulOk a.den b.den = true ∧ mulOk a.num b.num = true :=
  ⟨mulOk_of ha.1 hb.den (by omega), mulOk_of hb.1 ha.den (by omega), mulOk_of ha.den hb.den (by omega), mulOk_of ha.1 hb.1 (by omega)⟩
theorem den_prod {a b : Rat} {k l : Nat} (ha : zq k a) (hb : zq l b) (h : k + l ≤ 8000) : ((a.den : Int) * b.den) ≠ 0 ∧ ((a.den : Int) * b.den).natAbs < 2 ^ 9000 := by
  refine ⟨Int.mul_ne_zero (by have := a.den_nz; omega) (by have := b.den_nz; omega), nat_pow_9000 (ha.cross hb).2.2.1 (by omega)⟩
theorem plus_ok {a b : Rat} {k l : Nat} {S : Hm} (ha : zq k a) (hb : zq l b) (h : k + l ≤ 8000) : m_plus [pr a, pr b] S = .ok (pr (a + b)) S := by
  obtain ⟨m1, m2, m3, m4⟩ := mul_cross ha hb h
  obtain ⟨d1, d2⟩ := den_prod ha hb h
  have f := fraction_ok (o := a.num * b.den + b.num * a.den) (S := S) d1 d2
  rw [add_eq_divInt] at f
  unfold m_plus b_plus
  rw [ev_def]
  show (sSeq _ _ [some (.val (.tup [.int a.num, .int a.den])), some (.val (.tup [.int b.num, .int b.den]))] S).bind kDef = _
  simp [getSlot, o_mul, m1, m2, m3, f]
theorem minus_ok {a b : Rat} {k l : Nat} {S : Hm} (ha : zq k a) (hb : zq l b) (h : k + l ≤ 8000) : m_minus [pr a, pr b] S = .ok (pr (a - b)) S := by
  obtain ⟨m1, m2, m3, m4⟩ := mul_cross ha hb h
  obtain ⟨d1, d2⟩ := den_prod ha hb h
  have f := fraction_ok (o := a.num * b.den - b.num * a.den) (S := S) d1 d2
  rw [sub_eq_divInt] at f
  unfold m_minus b_minus
  rw [ev_def]
  show (sSeq _ _ [some (.val (.tup [.int a.num, .int a.den])), some (.val (.tup [.int b.num, .int b.den]))] S).bind kDef = _
  simp [getSlot, o_mul, m1, m2, m3, f]
theorem product_ok {a b : Rat} {k l : Nat} {S : Hm} (ha : zq k a) (hb : zq l b) (h : k + l ≤ 8000) : m_product [pr a, pr b] S = .ok (pr (a * b)) S := by
  obtain ⟨m1, m2, m3, m4⟩ := mul_cross ha hb h
  obtain ⟨d1, d2⟩ := den_prod ha hb h
  have f := fraction_ok (o := a.num * b.num) (S := S) d1 d2
  rw [mul_eq_divInt] at f
  unfold m_product b_product
  rw [ev_def]
  show (sSeq _ _ [some (.val (.tup [.int a.num, .int a.den])), some (.val (.tup [.int b.num, .int b.den]))] S).bind kDef = _
  simp [getSlot, o_mul, m3, m4, f]
theorem is_less_ok {a b : Rat} {k l : Nat} {S : Hm} (ha : zq k a) (hb : zq l b) (h : k + l ≤ 8000) : m_is_less [pr a, pr b] S = .ok (.bl (decide (a < b))) S := by
  obtain ⟨m1, m2, m3, m4⟩ := mul_cross ha hb h
  unfold m_is_less b_is_less
  rw [ev_def]
  show (sSeq _ _ [some (.val (.tup [.int a.num, .int a.den])), some (.val (.tup [.int b.num, .int b.den]))] S).bind kDef = _
  simp [getSlot, o_mul, m1, m2, Rat.lt_iff]
theorem whole_ok {n : Int} {S : Hm} : m_whole [.int n] S = .ok (pr (n : Rat)) S := by
  unfold m_whole b_whole
  rw [ev_def]
  show (sSeq _ _ [some (.val (.int n))] S).bind kDef = _
  simp [getSlot, pr]

theorem is_number_ok {n l : Int} {S : Hm} : m_is_number [.int n, .int l, .non] S = .ok (.bl (decide (l ≤ n))) S := by
  unfold m_is_number b_is_number
  rw [ev_def]
  show (sSeq _ _ [some (.val (.int n)), some (.val (.int l)), some (.val .non)] S).bind kDef = _
  by_cases h : n < l
  · simp [getSlot, isTy, h, show ¬ l ≤ n by omega]
  · simp [getSlot, isTy, h, show l ≤ n by omega]
theorem is_number3_ok {n l m : Int} {S : Hm} : m_is_number [.int n, .int l, .int m] S = .ok (.bl (decide (l ≤ n) && decide (n ≤ m))) S := by
  unfold m_is_number b_is_number
  rw [ev_def]
  show (sSeq _ _ [some (.val (.int n)), some (.val (.int l)), some (.val (.int m))] S).bind kDef = _
  by_cases h : n < l
  · simp [getSlot, isTy, h, show ¬ l ≤ n by omega]
  · simp [getSlot, isTy, h, show l ≤ n by omega]

theorem law_f_ok {o u : Int} {S : Hm} (hu : u ≠ 0) (h : u.natAbs < 2 ^ 9000) : m_law_f [.int o, .int u] S = .ok (pr (Rat.divInt o u)) S := by
  have := gcd_loop (t := tVal (eBin fGt (eVar 4) (eC (.int 0)))) (i := 3) (j := 4) (by decide) (fun σ S b hj => by
    simp [hj]
    rw [Bool.eq_iff_iff]
    simp
    omega) S 9000 hugeN o.natAbs u.natAbs [some (.val (.int o)), some (.val (.int u)), none, some (.val (.int o.natAbs)), some (.val (.int u.natAbs))] h huge_ok rfl rfl
  unfold gcdBody at this
  have g0 := gcd_pos (o := o) (u := u) hu
  have gl := gcd_log (o := o) (u := u) hu h
  unfold m_law_f b_law_f
  rw [ev_def]
  show (sSeq _ _ [some (.val (.int o)), some (.val (.int u)), none, none, none] S).bind kDef = _
  simp only [ev_seq, ev_par, ev_call, ev_cons, ev_var, getSlot, List.getElem?_cons_zero, List.getElem?_cons_succ, opt_some, R.bind_ok, ev_cons1, ev_nil, ev_cons2, o_abs, ev_par1, ev_par2, ev_seqn, abs_nat, List.set_cons_zero, List.set_cons_succ, ev_while]
  rw [this]
  have d1 : ((Nat.gcd o.natAbs u.natAbs : Nat) : Int) ∣ o := Int.ofNat_dvd_left.mpr (Nat.gcd_dvd_left _ _)
  have d2 : ((Nat.gcd o.natAbs u.natAbs : Nat) : Int) ∣ u := Int.ofNat_dvd_left.mpr (Nat.gcd_dvd_right _ _)
  generalize hg : ((Nat.gcd o.natAbs u.natAbs : Nat) : Int) = g at *
  by_cases hp : 0 < u
  · simp [getSlot, hp, o_div, show g ≠ 0 by omega, gl]
    rw [divInt_pos hp, hg, fdiv_pos g0, fdiv_pos g0]
  · have e1 : o.fdiv (-g) = -(o / g) := by
      obtain ⟨x, rfl⟩ := d1
      rw [show g * x = (-g) * (-x) by rw [Int.neg_mul_neg], Int.mul_fdiv_cancel_left _ (by omega), Int.neg_mul_neg, Int.mul_ediv_cancel_left _ (by omega)]
    have e2 : u.fdiv (-g) = -(u / g) := by
      obtain ⟨x, rfl⟩ := d2
      rw [show g * x = (-g) * (-x) by rw [Int.neg_mul_neg], Int.mul_fdiv_cancel_left _ (by omega), Int.neg_mul_neg, Int.mul_ediv_cancel_left _ (by omega)]
    simp [getSlot, hp, o_div, show g ≠ 0 by omega, gl]
    rw [e1, e2, ← divInt_neg (o := o) (u := u), divInt_pos (by omega), Int.natAbs_neg, Int.natAbs_neg, hg]
    rw [Int.neg_ediv_of_dvd d1, Int.neg_ediv_of_dvd d2]
theorem law_add_ok {a b : Rat} {k l : Nat} {S : Hm} (ha : zq k a) (hb : zq l b) (h : k + l ≤ 8000) : m_law_add [pr a, pr b, .int 1] S = .ok (pr (a + b)) S := by
  obtain ⟨m1, m2, m3, m4⟩ := mul_cross ha hb h
  obtain ⟨d1, d2⟩ := den_prod ha hb h
  have f := law_f_ok (o := a.num * b.den + b.num * a.den) (S := S) d1 d2
  rw [add_eq_divInt] at f
  have m5 : mulOk 1 b.num = true := mulOk_of (a := 1) (by decide) hb.1 (by omega)
  unfold m_law_add b_law_add
  rw [ev_def]
  show (sSeq _ _ [some (.val (.tup [.int a.num, .int a.den])), some (.val (.tup [.int b.num, .int b.den])), some (.val (.int 1))] S).bind kDef = _
  simp [getSlot, o_mul, m1, m2, m3, m5, f]
theorem law_sub_ok {a b : Rat} {k l : Nat} {S : Hm} (ha : zq k a) (hb : zq l b) (h : k + l ≤ 8000) : m_law_add [pr a, pr b, .int (-1)] S = .ok (pr (a - b)) S := by
  obtain ⟨m1, m2, m3, m4⟩ := mul_cross ha hb h
  obtain ⟨d1, d2⟩ := den_prod ha hb h
  have f := law_f_ok (o := a.num * b.den - b.num * a.den) (S := S) d1 d2
  rw [sub_eq_divInt] at f
  have m5 : mulOk (-1) b.num = true := mulOk_of (a := 1) (by decide) hb.1 (by omega)
  have m6 : mulOk (-b.num) a.den = true := mulOk_of (by rw [Int.natAbs_neg]; exact hb.1) ha.den (by omega)
  unfold m_law_add b_law_add
  rw [ev_def]
  show (sSeq _ _ [some (.val (.tup [.int a.num, .int a.den])), some (.val (.tup [.int b.num, .int b.den])), some (.val (.int (-1)))] S).bind kDef = _
  simp [getSlot, o_mul, m1, m6, m3, m5, Int.neg_mul, ← Int.sub_eq_add_neg, f]
theorem law_mul_ok {a b : Rat} {k l : Nat} {S : Hm} (ha : zq k a) (hb : zq l b) (h : k + l ≤ 8000) : m_law_mul [pr a, pr b] S = .ok (pr (a * b)) S := by
  obtain ⟨m1, m2, m3, m4⟩ := mul_cross ha hb h
  obtain ⟨d1, d2⟩ := den_prod ha hb h
  have f := law_f_ok (o := a.num * b.num) (S := S) d1 d2
  rw [mul_eq_divInt] at f
  unfold m_law_mul b_law_mul
  rw [ev_def]
  show (sSeq _ _ [some (.val (.tup [.int a.num, .int a.den])), some (.val (.tup [.int b.num, .int b.den]))] S).bind kDef = _
  simp [getSlot, o_mul, m3, m4, f]
theorem law_less_ok {a b : Rat} {k l : Nat} {S : Hm} (ha : zq k a) (hb : zq l b) (h : k + l ≤ 8000) : m_law_less [pr a, pr b] S = .ok (.bl (decide (a < b))) S := by
  obtain ⟨m1, m2, m3, m4⟩ := mul_cross ha hb h
  unfold m_law_less b_law_less
  rw [ev_def]
  show (sSeq _ _ [some (.val (.tup [.int a.num, .int a.den])), some (.val (.tup [.int b.num, .int b.den]))] S).bind kDef = _
  simp [getSlot, o_mul, m1, m2, Rat.lt_iff]

theorem draw_ok {c k many : Int} {S : Hm} {e : Nat} (hc : c.natAbs < 2 ^ e) (he : e ≤ 90000000) (hk : k.natAbs < 2 ^ 64) (hm : 0 < many) : ∃ r, 0 ≤ r ∧ r < many ∧ m_law_draw [.int c, .int k, .int many] S = .ok (.int r) S := by
  have m1 : mulOk c 48271 = true := mulOk_of hc (b := 16) (by decide) (by omega)
  have m2 : mulOk k 69621 = true := mulOk_of hk (b := 17) (by decide) (by decide)
  have hf : k.fmod 16 = k % 16 := Int.fmod_eq_emod_of_nonneg _ (by decide)
  have h0 : 0 ≤ k % 16 := Int.emod_nonneg _ (by decide)
  have h1 : k % 16 < 16 := Int.emod_lt_of_pos _ (by decide)
  unfold m_law_draw b_law_draw
  rw [ev_def]
  show ∃ r, 0 ≤ r ∧ r < many ∧ (sSeq _ _ [some (.val (.int c)), some (.val (.int k)), some (.val (.int many)), none] S).bind kDef = .ok (.int r) S
  obtain ⟨n, hn⟩ : ∃ n : Nat, k % 16 = (n : Int) := ⟨(k % 16).toNat, by omega⟩
  have hn16 : n < 16 := by omega
  simp only [ev_seq, ev_asg, ev_tup, ev_cons, ev_c, R.bind_ok, ev_cons1, ev_nil, ev_cons2]
  rw [kTup_of (sz_of (by decide))]
  simp only [R.bind_ok, ev_asg1, ev_tgname, ev_nx, ev_seqn, List.set_cons_succ, List.set_cons_zero, ev_seq, ev_ret, ev_bin, ev_var, getSlot, List.getElem?_cons_zero, List.getElem?_cons_succ, opt_some, ev_bin1, ev_c]
  rw [o_mul, if_pos m1]
  simp only [R.bind_ok, ev_bin1, ev_bin, ev_var, getSlot, List.getElem?_cons_zero, List.getElem?_cons_succ, opt_some, ev_c]
  rw [o_mul, if_pos m2]
  simp only [R.bind_ok, o_add, ev_bin1, ev_bin, ev_var, getSlot, List.getElem?_cons_zero, List.getElem?_cons_succ, opt_some, ev_c, o_idxT]
  rw [o_mod, if_pos (by decide)]
  simp only [R.bind_ok, o_idxT, hf, hn, atI_natS]
  obtain ⟨p, hp, hp0⟩ : ∃ p : Int, ([W.int 1000003, W.int 1000033, W.int 1000037, W.int 1000039, W.int 1000081, W.int 1000099, W.int 1000117, W.int 1000121, W.int 1000133, W.int 1000151, W.int 1000159, W.int 1000171, W.int 1000183, W.int 1000187, W.int 1000193, W.int 1000199] : List W)[n]? = some (.int p) ∧ p ≠ 0 := by
    match n, hn16 with
    | 0, _ => exact ⟨_, rfl, by decide⟩
    | 1, _ => exact ⟨_, rfl, by decide⟩
    | 2, _ => exact ⟨_, rfl, by decide⟩
    | 3, _ => exact ⟨_, rfl, by decide⟩
    | 4, _ => exact ⟨_, rfl, by decide⟩
    | 5, _ => exact ⟨_, rfl, by decide⟩
    | 6, _ => exact ⟨_, rfl, by decide⟩
    | 7, _ => exact ⟨_, rfl, by decide⟩
    | 8, _ => exact ⟨_, rfl, by decide⟩
    | 9, _ => exact ⟨_, rfl, by decide⟩
    | 10, _ => exact ⟨_, rfl, by decide⟩
    | 11, _ => exact ⟨_, rfl, by decide⟩
    | 12, _ => exact ⟨_, rfl, by decide⟩
    | 13, _ => exact ⟨_, rfl, by decide⟩
    | 14, _ => exact ⟨_, rfl, by decide⟩
    | 15, _ => exact ⟨_, rfl, by decide⟩
    | n + 16, h => omega
  rw [hp]
  simp only [opt_some, R.bind_ok]
  rw [o_mod, if_pos hp0]
  simp only [R.bind_ok, ev_bin1, ev_var, getSlot, List.getElem?_cons_zero, List.getElem?_cons_succ, opt_some]
  rw [o_mod, if_pos (by omega)]
  simp only [R.bind_ok, ev_ret1, ev_seqr, ev_def1]
  rw [Int.fmod_eq_emod_of_nonneg _ (by omega)]
  exact ⟨_, Int.emod_nonneg _ (by omega), Int.emod_lt_of_pos _ hm, rfl⟩
theorem sum_small : ∀ {ns : List Int} {b : Nat}, (∀ z ∈ ns, z.natAbs < 2 ^ b) → ns.length < 64 → ns.sum.natAbs ≤ ns.length * 2 ^ b
  | [], _, _, _ => by simp
  | n :: ns, b, h, hl => by
    have h1 := h n List.mem_cons_self
    have h2 := sum_small (ns := ns) (b := b) (fun z hz => h z (List.mem_cons_of_mem _ hz)) (by simp only [List.length_cons] at hl; omega)
    rw [List.sum_cons, List.length_cons, Nat.succ_mul]
    have := Int.natAbs_add_le n ns.sum
    omega
theorem intsW_map : ∀ ns : List Int, intsW (ns.map W.int) = some ns
  | [] => rfl
  | n :: ns => by
    simp only [List.map_cons, intsW]
    rw [intsW_map ns]
    rfl
theorem fSum_ints {ns : List Int} {S : Hm} : fSum [.fl (ns.map W.int)] S = .ok (.int ns.sum) S := by
  unfold fSum
  simp only [o_lstF, Option.bind_some, intsW_map]
theorem cell_ok {ns : List Int} {k : Nat} {S : Hm} (hs : ScrOk ns) (hk : k < 2 ^ 40) : ∃ c : Int, 0 ≤ c ∧ m_law_cell_at [.fl (ns.map W.int), .int k] S = .ok (.int c) S := by
  unfold m_law_cell_at b_law_cell_at
  rw [ev_def]
  show ∃ c : Int, _ ∧ (sSeq _ _ [some (.val (.fl (ns.map W.int))), some (.val (.int k))] S).bind kDef = .ok (.int c) S
  by_cases hl : k < ns.length
  · have hi : atI (ns.map W.int) (k : Int) = some (.int ns[k]) := by rw [atI_natS, List.getElem?_map, List.getElem?_eq_getElem hl]; rfl
    refine ⟨(ns[k].natAbs : Int), Int.natCast_nonneg _, ?_⟩
    simp [getSlot, hl, hi, abs_nat]
  · have hc : ((ns.sum.natAbs : Int) + 7919 * (k : Int)).natAbs < 2 ^ (1048576 + 6 + 1) := by
      have h1 := sum_small hs.2 (by have := hs.1; omega)
      refine natAbs_add_lt ?_ ?_
      · rw [Int.natAbs_natCast]
        refine Nat.lt_of_le_of_lt h1 ?_
        rw [Nat.pow_add, Nat.mul_comm]
        exact (Nat.mul_lt_mul_left (Nat.pow_pos (by decide))).mpr (by have := hs.1; omega)
      · have h7 : (7919 * (k : Int)).natAbs < 2 ^ 60 := by omega
        exact Nat.lt_of_lt_of_le h7 (Nat.pow_le_pow_right (by decide) (by decide))
    obtain ⟨r, r0, r1, hr⟩ := draw_ok (S := S) hc (by decide) (k := k) (many := 999983) (by rw [Int.natAbs_natCast]; exact Nat.lt_of_lt_of_le hk (by decide)) (by decide)
    refine ⟨r, r0, ?_⟩
    · have hm : mulOk 7919 (k : Int) = true := mulOk_of (a := 13) (b := 40) (by decide) (by rw [Int.natAbs_natCast]; exact hk) (by decide)
      simp [getSlot, hl, fSum_ints, abs_nat, o_mul, hm, hr]

theorem digits_ok {ns : List Int} {k m : Nat} {base : Int} {S : Hm} (hs : ScrOk ns) (hk : k < 2 ^ 40) (hb : 0 < base) (hb2 : base < 2 ^ 64) (hm : m ≤ 1000) :
    ∃ (a : Nat) (ds : List Int) (S' : Hm), m_law_digits [.fl (ns.map W.int), .int k, .int m, .int base] S = .ok (.ref a) S' ∧ S.length ≤ a ∧ heapAt S' a = some (.lst (ds.map W.int)) ∧ ds.length ≤ m ∧ Keep S S' := by
  obtain ⟨c, c0, hc⟩ := cell_ok (S := S) hs hk
  have p18 := pow18
  have hrg : rangeOk (m : Int) = true := by unfold rangeOk; simp; omega
  have hbl : base.natAbs.log2 < 9000 := by
    have : base.natAbs < 2 ^ 64 := by omega
    have := (Nat.log2_lt (by omega)).mpr this
    omega
  let I : List W → Sl → Hm → Prop := fun xs σ S1 => ∃ (l : Int) (x5 x8 x9 : Option Sv) (ds : List Int), σ = [some (.val (.fl (ns.map W.int))), some (.val (.int k)), some (.val (.int m)), some (.val (.int base)), some (.val (.int l)), x5, some (.val (.int c)), some (.val (.ref S.length)), x8, x9] ∧
    heapAt S1 S.length = some (.lst (ds.map W.int)) ∧ ds.length + xs.length ≤ m ∧ Keep S S1 ∧ ∀ x ∈ xs, ∃ t : Nat, x = .int t ∧ t < 2 ^ 40
  let J : Fl → Hm → Prop := fun f S1 => ∃ (σ : Sl), f = .nx σ ∧ I [] σ S1
  have loop := forL_all (tg := tgName 5) (body := sSeq (sIf (tVal (eBin fGe (eVar 6) (eBin fPow (eC (.int 10)) (eC (.int 18))))) (sSeq (sExpr (eBm fAppend (eVar 7) (aCons (eBin fMod (eVar 4) (eVar 3)) aNil))) (sSeq (sAsg (tgName 4) (eBin fDiv (eVar 4) (eVar 3))) sNil)) (sSeq (sAsg (tgName 8) (eCallD m_law_draw [] (aCons (eBin fMul (eBin fAdd (eVar 6) (eBin fMul (eC (.int 977)) (eVar 5))) (eBin fAdd (eBin fAdd (eVar 6) (eBin fMul (eC (.int 31)) (eVar 5))) (eC (.int 5)))) (aCons (eBin fAdd (eBin fMod (eVar 5) (eC (.int 9))) (eC (.int 1))) (aCons (eC (.int 999983)) aNil))))) (sSeq (sAsg (tgName 9) (eCallD m_law_draw [] (aCons (eBin fAdd (eBin fMul (eBin fAdd (eVar 6) (eBin fMul (eC (.int 31)) (eVar 5))) (eBin fAdd (eVar 6) (eC (.int 7)))) (eBin fMul (eC (.int 977)) (eVar 5))) (aCons (eBin fAdd (eBin fMod (eVar 5) (eC (.int 7))) (eC (.int 2))) (aCons (eC (.int 1000003)) aNil))))) (sSeq (sExpr (eBm fAppend (eVar 7) (aCons (eBin fMod (eBin fAdd (eBin fMul (eVar 8) (eC (.int 1000003))) (eVar 9)) (eVar 3)) aNil))) sNil)))) sNil) (J := J) I (fun σ S1 h => ⟨σ, rfl, h⟩) (fun x xs σ S1 h => by
      obtain ⟨l, x5, x8, x9, ds, rfl, hh, hl, hK, hx⟩ := h
      obtain ⟨t, rfl, ht⟩ := hx _ List.mem_cons_self
      have hx' : ∀ x ∈ xs, ∃ t : Nat, x = .int t ∧ t < 2 ^ 40 := fun x z => hx x (List.mem_cons_of_mem _ z)
      have hsz : (ds.map W.int).length < sizeLine := by rw [List.length_map, sizeLine_eq]; simp only [List.length_cons] at hl; omega
      have hal : S.length < S1.length := heapAt_lt hh
      refine ⟨_, _, rfl, ?_⟩
      by_cases hc18 : 1000000000000000000 ≤ c
      · refine ⟨.nx [some (.val (.fl (ns.map W.int))), some (.val (.int k)), some (.val (.int m)), some (.val (.int base)), some (.val (.int (l.fdiv base))), some (.val (.int t)), some (.val (.int c)), some (.val (.ref S.length)), x8, x9], S1.set S.length (some (.lst ((ds ++ [l.fmod base]).map W.int))), ?_, ?_⟩
        · simp [getSlot, p18, hc18, kBm_ref hh, o_mod, show base ≠ 0 by omega, append_ref hh hsz, o_div, hbl]
        · refine ⟨_, _, _, _, _, rfl, heapAt_set_same hal, ?_, hK.set (Nat.le_refl _), hx'⟩
          simp only [List.length_append, List.length_cons, List.length_nil] at hl ⊢
          omega
      · have cb : c.natAbs < 2 ^ 60 := by omega
        have tb : (t : Int).natAbs < 2 ^ 40 := by omega
        have q1 : mulOk 977 (t : Int) = true := mulOk_of (a := 10) (by decide) tb (by decide)
        have q2 : mulOk 31 (t : Int) = true := mulOk_of (a := 5) (by decide) tb (by decide)
        have b1 : (c + 977 * (t : Int)).natAbs < 2 ^ 61 := by omega
        have b2 : (c + 31 * (t : Int) + 5).natAbs < 2 ^ 61 := by omega
        have b3 : (c + 31 * (t : Int)).natAbs < 2 ^ 61 := by omega
        have b4 : (c + 7).natAbs < 2 ^ 61 := by omega
        have q3 : mulOk (c + 977 * (t : Int)) (c + 31 * (t : Int) + 5) = true := mulOk_of b1 b2 (by decide)
        have q4 : mulOk (c + 31 * (t : Int)) (c + 7) = true := mulOk_of b3 b4 (by decide)
        have n1 := natAbs_mul_lt b1 b2
        have n2 := natAbs_mul_lt b3 b4
        have f9 : (t : Int).fmod 9 = (t : Int) % 9 := Int.fmod_eq_emod_of_nonneg _ (by decide)
        have f7 : (t : Int).fmod 7 = (t : Int) % 7 := Int.fmod_eq_emod_of_nonneg _ (by decide)
        obtain ⟨r, r0, r1, hr⟩ := draw_ok (S := S1) (c := (c + 977 * (t : Int)) * (c + 31 * (t : Int) + 5)) (k := (t : Int) % 9 + 1) (many := 999983) n1 (by decide) (by omega) (by decide)
        obtain ⟨s, s0, s1, hs⟩ := draw_ok (S := S1) (c := (c + 31 * (t : Int)) * (c + 7) + 977 * (t : Int)) (k := (t : Int) % 7 + 2) (many := 1000003) (natAbs_add_lt (k := 122) n2 (by omega)) (by decide) (by omega) (by decide)
        have q5 : mulOk r 1000003 = true := mulOk_of (a := 20) (b := 20) (by omega) (by decide) (by decide)
        refine ⟨.nx [some (.val (.fl (ns.map W.int))), some (.val (.int k)), some (.val (.int m)), some (.val (.int base)), some (.val (.int l)), some (.val (.int t)), some (.val (.int c)), some (.val (.ref S.length)), some (.val (.int r)), some (.val (.int s))], S1.set S.length (some (.lst ((ds ++ [(r * 1000003 + s).fmod base]).map W.int))), ?_, ?_⟩
        · simp [getSlot, p18, hc18, kBm_ref hh, o_mod, o_mul, q1, q2, q3, q4, q5, f9, f7, hr, hs, show base ≠ 0 by omega, append_ref hh hsz]
        · refine ⟨_, _, _, _, _, rfl, heapAt_set_same hal, ?_, hK.set (Nat.le_refl _), hx'⟩
          simp only [List.length_append, List.length_cons, List.length_nil] at hl ⊢
          omega)
  unfold m_law_digits b_law_digits
  rw [ev_def]
  obtain ⟨f, S', e, σ, rfl, l, x5, x8, x9, ds, rfl, hh, hl, hK, _⟩ := loop (rangeL 0 m) [some (.val (.fl (ns.map W.int))), some (.val (.int k)), some (.val (.int m)), some (.val (.int base)), some (.val (.int (c - 1000000000000000000))), none, some (.val (.int c)), some (.val (.ref S.length)), none, none] (S ++ [some (.lst [])])
    ⟨_, _, _, _, [], rfl, heapAt_new, by rw [rangeL_len]; simp, Keep.app _ _, fun x hx => by
      obtain ⟨i, hi, rfl⟩ := rangeL_map _ _ x hx
      exact ⟨i, by simp, by omega⟩⟩
  refine ⟨S.length, ds, S', ?_, Nat.le_refl _, hh, by simpa using hl, hK⟩
  show (sSeq _ _ [some (.val (.fl (ns.map W.int))), some (.val (.int k)), some (.val (.int m)), some (.val (.int base)), none, none, none, none, none, none] S).bind kDef = _
  simp [getSlot, hc, p18, kRg1_of hrg, e]

theorem pool_ok {ns bs : List Int} {S : Hm} (hs : ScrOk ns) (hb : ∀ b ∈ bs, 0 < b ∧ b < 2 ^ 64) (hl : bs.length ≤ 1000) :
    ∃ (a : Nat) (ds : List Int) (S' : Hm), m_law_pool [.fl (ns.map W.int), .tup (bs.map W.int)] S = .ok (.ref a) S' ∧ S.length ≤ a ∧ heapAt S' a = some (.lst (ds.map W.int)) ∧ ds.length ≤ 120 * bs.length ∧ Keep S S' := by
  let I : List W → Sl → Hm → Prop := fun xs σ S1 => ∃ (x3 x4 : Option Sv) (a : Nat) (ds : List Int), σ = [some (.val (.fl (ns.map W.int))), some (.val (.tup (bs.map W.int))), some (.val (.ref a)), x3, x4] ∧ S.length ≤ a ∧
    heapAt S1 a = some (.lst (ds.map W.int)) ∧ ds.length + 120 * xs.length ≤ 120 * bs.length ∧ Keep S S1 ∧ ∀ x ∈ xs, ∃ (t : Nat) (b : Int), x = .tup [.int t, .int b] ∧ t < 2 ^ 40 ∧ 0 < b ∧ b < 2 ^ 64
  have loop := forL_all (tg := tgTup [tgName 3, tgName 4]) (body := sSeq (sAsg (tgName 2) (eHeap (lCat (eVar 2) (eCallD m_law_digits [] (aCons (eVar 0) (aCons (eVar 3) (aCons (eC (.int 120)) (aCons (eVar 4) aNil)))))))) sNil) (J := fun f S1 => ∃ σ, f = .nx σ ∧ I [] σ S1) I (fun σ S1 h => ⟨σ, rfl, h⟩) (fun x xs σ S1 h => by
      obtain ⟨x3, x4, a, ds, rfl, ha, hh, hl2, hK, hx⟩ := h
      obtain ⟨t, b, rfl, ht, hb0, hb1⟩ := hx _ List.mem_cons_self
      have hx' : ∀ x ∈ xs, ∃ (t : Nat) (b : Int), x = .tup [.int t, .int b] ∧ t < 2 ^ 40 ∧ 0 < b ∧ b < 2 ^ 64 := fun x z => hx x (List.mem_cons_of_mem _ z)
      obtain ⟨a2, ds2, S2, e, ha2, hh2, hl3, hK2⟩ := digits_ok (S := S1) (m := 120) hs ht hb0 hb1 (by decide)
      have e' : m_law_digits [.fl (ns.map W.int), .int t, .int 120, .int b] S1 = .ok (.ref a2) S2 := e
      have hh' : heapAt S2 a = some (.lst (ds.map W.int)) := (hK2.heap (heapAt_lt hh)).trans hh
      have hz : (ds.map W.int).length + (ds2.map W.int).length ≤ sizeLine := by
        rw [sizeLine_eq, List.length_map, List.length_map]
        simp only [List.length_cons] at hl2
        omega
      refine ⟨[some (.val (.fl (ns.map W.int))), some (.val (.tup (bs.map W.int))), some (.val (.ref a)), some (.val (.int t)), some (.val (.int b))], S1, by simp, .nx [some (.val (.fl (ns.map W.int))), some (.val (.tup (bs.map W.int))), some (.val (.ref S2.length)), some (.val (.int t)), some (.val (.int b))], S2 ++ [some (.lst (ds.map W.int ++ ds2.map W.int))], ?_, ?_⟩
      · simp [getSlot, e', kCat2_ref hh' hh2 hz]
      · have k2 := hK.trans hK2
        refine ⟨_, _, S2.length, ds ++ ds2, rfl, k2.len, by rw [List.map_append]; exact heapAt_new, ?_, k2.trans (Keep.app _ _), hx'⟩
        simp only [List.length_append, List.length_cons] at hl2 ⊢
        omega)
  unfold m_law_pool b_law_pool
  rw [ev_def]
  obtain ⟨f, S', e, σ, rfl, x3, x4, a, ds, rfl, ha, hh, hl2, hK, _⟩ := loop (enumL 0 (bs.map W.int)) [some (.val (.fl (ns.map W.int))), some (.val (.tup (bs.map W.int))), some (.val (.ref S.length)), none, none] (S ++ [some (.lst [])])
    ⟨_, _, _, [], rfl, Nat.le_refl _, heapAt_new, by rw [enumL_length]; simp, Keep.app _ _, fun x hx => by
      obtain ⟨i, w, hw, hi, rfl⟩ := enumL_mem hx
      obtain ⟨b, hb', rfl⟩ := List.mem_map.mp hw
      rw [List.length_map] at hi
      exact ⟨i, b, by simp, by omega, hb b hb'⟩⟩
  refine ⟨a, ds, S', ?_, ha, hh, by simpa using hl2, hK⟩
  show (sSeq _ _ [some (.val (.fl (ns.map W.int))), some (.val (.tup (bs.map W.int))), none, none, none] S).bind kDef = _
  simp [getSlot, e]
/-- what is taken of the draws -/
def tk (ds : List Int) (n : Int) : Int := match ds with
  | [] => 0
  | d :: _ => d % n
theorem tk_lo {ds : List Int} {n : Int} (h : 0 < n) : 0 ≤ tk ds n := by
  cases ds with
  | nil => exact Int.le_refl 0
  | cons d ds => exact Int.emod_nonneg _ (by omega)
theorem tk_hi {ds : List Int} {n : Int} (h : 0 < n) : tk ds n < n := by
  cases ds with
  | nil => exact h
  | cons d ds => exact Int.emod_lt_of_pos _ h
theorem set_eq {S : Hm} {a : Nat} {o : MO} (h : heapAt S a = some o) : S.set a (some o) = S := by
  apply List.ext_getElem?
  intro j
  rw [List.getElem?_set]
  by_cases hj : a = j
  · subst hj
    rw [if_pos rfl, if_pos (heapAt_lt h)]
    unfold heapAt at h
    split at h
    · rename_i e
      cases h
      exact e.symm
    · cases h
  · rw [if_neg hj]
theorem take_ok {S : Hm} {a : Nat} {ds : List Int} {n : Int} (h : heapAt S a = some (.lst (ds.map W.int))) (hn : 0 < n) : m_law_take [.ref a, .int n] S = .ok (.int (tk ds n)) (S.set a (some (.lst (ds.tail.map W.int)))) := by
  unfold m_law_take b_law_take
  rw [ev_def]
  show (sSeq _ _ [some (.val (.ref a)), some (.val (.int n))] S).bind kDef = _
  cases ds with
  | nil =>
    simp [getSlot, ne_nil h, tk]
    exact (set_eq h).symm
  | cons d ds =>
    have h' : heapAt S a = some (.lst (.int d :: ds.map W.int)) := h
    simp [getSlot, ne_nil h, kBm_ref h', popAt_ref h', o_mod, show n ≠ 0 by omega, tk, Int.fmod_eq_emod_of_nonneg d (show 0 ≤ n by omega)]

/-! ### draws, as an object of the own heap -/
def Dr (d : Nat) (S : Hm) : Prop := ∃ ds : List Int, heapAt S d = some (.lst (ds.map W.int))
theorem take_k {d : Nat} {S0 S : Hm} {n : Int} (h : Dr d S) (k : KB d S0 S) (hn : 0 < n) : Sat (m_law_take [.ref d, .int n] S) fun w S' => ∃ v, w = .int v ∧ 0 ≤ v ∧ v < n ∧ Dr d S' ∧ KB d S0 S' := by
  obtain ⟨ds, h⟩ := h
  refine Sat.of_eq (take_ok h hn) ⟨tk ds n, rfl, tk_lo hn, tk_hi hn, ⟨ds.tail, heapAt_set_same (heapAt_lt h)⟩, k.trans (KB.set _ _)⟩
theorem pool_k {ns bs : List Int} {S : Hm} (hs : ScrOk ns) (hb : ∀ b ∈ bs, 0 < b ∧ b < 2 ^ 64) (hl : bs.length ≤ 1000) : Sat (m_law_pool [.fl (ns.map W.int), .tup (bs.map W.int)] S) fun w S' => ∃ d, w = .ref d ∧ S.length ≤ d ∧ Dr d S' ∧ Keep S S' := by
  obtain ⟨a, ds, S', e, h1, h2, _, k⟩ := pool_ok (S := S) hs hb hl
  exact Sat.of_eq e ⟨a, rfl, h1, ⟨ds, h2⟩, k⟩
theorem cut63 {ns : List Int} (h : ScrOk ns) : cutG (ns.map W.int) none (some (63 : Int)) = ns.map W.int := by
  rw [show (63 : Int) = ((63 : Nat) : Int) from rfl, cutTake, List.take_of_length_le (by rw [List.length_map]; exact h.1)]
theorem Dr.keep {d : Nat} {S S' : Hm} (h : Dr d S) (k : Keep S S') : Dr d S' := by
  obtain ⟨ds, h⟩ := h
  exact ⟨ds, by rw [k.heap (heapAt_lt h)]; exact h⟩
/-- one of a tuple of constants, all of them so -/
theorem Sat.oneOf {xs : List W} {v : Int} {S : Hm} {p : W → Bool} {Q : W → Hm → Prop} (h0 : 0 ≤ v) (h1 : v < xs.length) (hp : xs.all p = true) (h : ∀ x, p x = true → Q x S) : @Sat' _ (opt (atI xs v) S) ⟨Q⟩ :=
  Sat.pickO h0 h1 fun x hx => h x (List.all_eq_true.mp hp x hx)

theorem divided_ok {a b : Rat} {k l : Nat} {S : Hm} (ha : zq k a) (hb : zq l b) (h : k + l ≤ 8000) (h0 : b ≠ 0) : m_divided [pr a, pr b] S = .ok (pr (a / b)) S := by
  obtain ⟨m1, m2, m3, m4⟩ := mul_cross ha hb h
  have hn : b.num ≠ 0 := fun e => h0 (Rat.num_eq_zero.mp e)
  have d1 : ((a.den : Int) * b.num) ≠ 0 := Int.mul_ne_zero (by have := a.den_nz; omega) hn
  have d2 : ((a.den : Int) * b.num).natAbs < 2 ^ 9000 := nat_pow_9000 (natAbs_mul_lt ha.den hb.1) (by omega)
  have m5 : mulOk a.den b.num = true := mulOk_of ha.den hb.1 (by omega)
  have f := fraction_ok (o := a.num * b.den) (S := S) d1 d2
  have e : Rat.divInt (a.num * b.den) (a.den * b.num) = a / b := by
    rw [Rat.div_def]
    have hb' : b⁻¹ = Rat.divInt b.den b.num := by rw [← Rat.inv_divInt, Rat.num_divInt_den]
    rw [hb', ← Rat.divInt_mul_divInt, Rat.num_divInt_den]
  rw [e] at f
  unfold m_divided b_divided
  rw [ev_def]
  show (sSeq _ _ [some (.val (.tup [.int a.num, .int a.den])), some (.val (.tup [.int b.num, .int b.den]))] S).bind kDef = _
  simp [getSlot, o_mul, m1, m5, f]
/-- a place -/
def pt (x y : Rat) : W := .tup [pr x, pr y]
/-- a course -/
def cr (x y : Int) : W := .tup [.int x, .int y]
theorem apart_ok {a b x y : Rat} {k : Nat} {S : Hm} (ha : zq k a) (hb : zq k b) (hx : zq k x) (hy : zq k y) (h : k ≤ 4000) : m_apart [pt a b, pt x y] S = .ok (pt (x - a) (y - b)) S := by
  have e1 := minus_ok (S := S) hx ha (by omega)
  have e2 := minus_ok (S := S) hy hb (by omega)
  unfold m_apart b_apart
  rw [ev_def]
  show (sSeq _ _ [some (.val (.tup [pr a, pr b])), some (.val (.tup [pr x, pr y]))] S).bind kDef = _
  simp [getSlot, e1, e2, pt]

theorem pt_idx0 {p q : Rat} {S : Hm} : fIdx (pt p q) (.int 0) S = .ok (pr p) S := rfl
theorem pt_idx1 {p q : Rat} {S : Hm} : fIdx (pt p q) (.int 1) S = .ok (pr q) S := rfl
theorem cr_idx0 {p q : Int} {S : Hm} : fIdx (cr p q) (.int 0) S = .ok (.int p) S := rfl
theorem cr_idx1 {p q : Int} {S : Hm} : fIdx (cr p q) (.int 1) S = .ok (.int q) S := rfl
theorem pr_idx0 {q : Rat} {S : Hm} : fIdx (pr q) (.int 0) S = .ok (.int q.num) S := rfl
theorem pr_idx1 {q : Rat} {S : Hm} : fIdx (pr q) (.int 1) S = .ok (.int q.den) S := rfl
theorem zq_small {n : Int} (h : n.natAbs < 2 ^ 20) : zq 20 (n : Rat) := zq_int h (by decide)
theorem numbers2_ok {c d m : Int} {S : Hm} (hc : -m ≤ c) (hc2 : c ≤ m) (hd : -m ≤ d) (hd2 : d ≤ m) : m_are_numbers [cr c d, .int 2, .int (-m), .int m] S = .ok (.bl true) S := by
  have hcomp := Sat.compAll (e := fun n : Int => W.int n) (tg := tgName 4) (el := eCallD m_is_number [] (aCons (eVar 4) (aCons (eVar 2) (aCons (eVar 3) aNil)))) (σ := [some (.val (cr c d)), some (.val (.int 2)), some (.val (.int (-m))), some (.val (.int m)), none]) (S := S) (f := fun n => W.bl (decide (-m ≤ n) && decide (n ≤ m))) [c, d] fun x _ => by
    simp [getSlot, is_number3_ok]
  have hb : fAll [.fl [W.bl (decide (-m ≤ c) && decide (c ≤ m)), W.bl (decide (-m ≤ d) && decide (d ≤ m))]] S = .ok (.bl true) S := by
    have := fAll_bls (bs := [decide (-m ≤ c) && decide (c ≤ m), decide (-m ≤ d) && decide (d ≤ m)]) (S := S)
    rw [List.map_cons, List.map_cons, List.map_nil] at this
    rw [this]
    simp [hc, hc2, hd, hd2]
  have hz : (2 : Nat) ≤ sizeLine := sz_of (by decide)
  simp only [List.map_cons, List.map_nil] at hcomp
  unfold cr at hcomp ⊢
  refine Sat.eq ?_
  unfold m_are_numbers b_are_numbers
  rw [ev_def]
  show @Sat' _ ((sSeq _ _ [some (.val (.tup [.int c, .int d])), some (.val (.int 2)), some (.val (.int (-m))), some (.val (.int m)), none] S).bind kDef) ⟨_⟩
  simp [getSlot, isTy, wipeM, hz, hcomp, hb]
theorem is_point_ok {c d : Int} {S : Hm} (h : (-9999 ≤ c ∧ c ≤ 9999) ∧ -9999 ≤ d ∧ d ≤ 9999) : m_is_point [cr c d] S = .ok (.bl true) S := by
  have an := numbers2_ok (m := 9999) (S := S) h.1.1 h.1.2 h.2.1 h.2.2
  refine Sat.eq ?_
  unfold m_is_point b_is_point
  rw [ev_def]
  show @Sat' _ ((sSeq _ _ [some (.val (cr c d))] S).bind kDef) ⟨_⟩
  simp [getSlot, an]
theorem point_ok {c d : Int} {S : Hm} : m_point [cr c d] S = .ok (pt (c : Rat) (d : Rat)) S := by
  refine Sat.eq ?_
  unfold m_point b_point
  rw [ev_def]
  show @Sat' _ ((sSeq _ _ [some (.val (cr c d))] S).bind kDef) ⟨_⟩
  simp [getSlot, cr_idx0, cr_idx1, whole_ok]
  rfl
theorem ne_pt {x y : Rat} {S : Hm} : fNe (pt x y) (pt x y) S = .ok (.bl false) S := by
  refine ne_self (d := .tuple [.tuple [.int x.num, .int x.den], .tuple [.int y.num, .int y.den]]) rfl ?_
  unfold SeqAt.shaped
  simp [PyData.canLay0, PyData.canLayAll0, PyData.depth, PyData.depthAll]
theorem rg2 (S : Hm) : kRg1 (.int 2) S = .ok (.seq [.int 0, .int 1]) S := rfl

/-- a bearing: a mark and a line -/
structure Bg where
  a : Int
  b : Int
  c : Int
  d : Int
def bW (p : Bg) : W := .tup [cr p.a p.b, cr p.c p.d]
structure BOk (p : Bg) : Prop where
  a : (-9999 ≤ p.a ∧ p.a ≤ 9999) ∧ -9999 ≤ p.b ∧ p.b ≤ 9999
  c : (-9999 ≤ p.c ∧ p.c ≤ 9999) ∧ -9999 ≤ p.d ∧ p.d ≤ 9999
  nz : ¬ (p.c = 0 ∧ p.d = 0)
def cx (a b c d : Int) : Int := a * d - b * c
/-- lines that cross -/
def crs (p q : Bg) : Int := cx p.c p.d q.c q.d
/-- the way between two marks, across a line -/
def cfar (p q : Bg) (c d : Int) : Int := cx (q.a - p.a) (q.b - p.b) c d
def mul_t (p q : Bg) : Rat := ((cfar p q q.c q.d : Int) : Rat) / ((crs p q : Int) : Rat)
def mt (p q : Bg) : Rat × Rat := ((p.a : Rat) + p.c * mul_t p q, (p.b : Rat) + p.d * mul_t p q)
def pp (x : Rat × Rat) : W := pt x.1 x.2
theorem bW0 {p : Bg} {S : Hm} : fIdx (bW p) (.int 0) S = .ok (cr p.a p.b) S := rfl
theorem bW1 {p : Bg} {S : Hm} : fIdx (bW p) (.int 1) S = .ok (cr p.c p.d) S := rfl
theorem cross_ok {a b c d : Int} {S : Hm} (ha : a.natAbs < 2 ^ 20) (hb : b.natAbs < 2 ^ 20) (hc : c.natAbs < 2 ^ 20) (hd : d.natAbs < 2 ^ 20) : m_cross [cr a b, cr c d] S = .ok (.int (cx a b c d)) S := by
  have m1 : mulOk a d = true := by (apply SB.mulOk_of; (repeat' first | assumption | exact bd_lit (by omega) | apply bd_mul | apply bd_add | apply bd_sub | apply bd_neg | apply bd_sq); (repeat' first | assumption | exact bd_lit (by omega) | apply bd_mul | apply bd_add | apply bd_sub | apply bd_neg | apply bd_sq); decide)
  have m2 : mulOk b c = true := by (apply SB.mulOk_of; (repeat' first | assumption | exact bd_lit (by omega) | apply bd_mul | apply bd_add | apply bd_sub | apply bd_neg | apply bd_sq); (repeat' first | assumption | exact bd_lit (by omega) | apply bd_mul | apply bd_add | apply bd_sub | apply bd_neg | apply bd_sq); decide)
  refine Sat.eq ?_
  unfold m_cross b_cross
  rw [ev_def]
  show @Sat' _ ((sSeq _ _ [some (.val (cr a b)), some (.val (cr c d))] S).bind kDef) ⟨_⟩
  simp [getSlot, cr_idx0, cr_idx1, o_mul, m1, m2, cx]
theorem law_cross_ok {a b c d : Int} {S : Hm} (ha : a.natAbs < 2 ^ 20) (hb : b.natAbs < 2 ^ 20) (hc : c.natAbs < 2 ^ 20) (hd : d.natAbs < 2 ^ 20) : m_law_cross [cr a b, cr c d] S = .ok (.int (cx a b c d)) S := by
  have m1 : mulOk a d = true := by (apply SB.mulOk_of; (repeat' first | assumption | exact bd_lit (by omega) | apply bd_mul | apply bd_add | apply bd_sub | apply bd_neg | apply bd_sq); (repeat' first | assumption | exact bd_lit (by omega) | apply bd_mul | apply bd_add | apply bd_sub | apply bd_neg | apply bd_sq); decide)
  have m2 : mulOk b c = true := by (apply SB.mulOk_of; (repeat' first | assumption | exact bd_lit (by omega) | apply bd_mul | apply bd_add | apply bd_sub | apply bd_neg | apply bd_sq); (repeat' first | assumption | exact bd_lit (by omega) | apply bd_mul | apply bd_add | apply bd_sub | apply bd_neg | apply bd_sq); decide)
  refine Sat.eq ?_
  unfold m_law_cross b_law_cross
  rw [ev_def]
  show @Sat' _ ((sSeq _ _ [some (.val (cr a b)), some (.val (cr c d))] S).bind kDef) ⟨_⟩
  simp [getSlot, cr_idx0, cr_idx1, o_mul, m1, m2, cx]
theorem cx_bd {a b c d : Int} (ha : a.natAbs < 2 ^ 20) (hb : b.natAbs < 2 ^ 20) (hc : c.natAbs < 2 ^ 20) (hd : d.natAbs < 2 ^ 20) : (cx a b c d).natAbs < 2 ^ 41 := by
  unfold cx
  exact natAbs_sub_lt (k := 40) (natAbs_mul_lt ha hd) (natAbs_mul_lt hb hc)
section
variable {p q : Bg} {S : Hm}
theorem BOk.far (hp : BOk p) (hq : BOk q) : (q.a - p.a).natAbs < 2 ^ 20 ∧ (q.b - p.b).natAbs < 2 ^ 20 := by
  have := hp.a; have := hq.a
  omega
theorem BOk.ln (hp : BOk p) : p.c.natAbs < 2 ^ 20 ∧ p.d.natAbs < 2 ^ 20 ∧ p.a.natAbs < 2 ^ 20 ∧ p.b.natAbs < 2 ^ 20 := by
  have := hp.a; have := hp.c
  omega
theorem crs_bd (hp : BOk p) (hq : BOk q) : (crs p q).natAbs < 2 ^ 41 := cx_bd hp.ln.1 hp.ln.2.1 hq.ln.1 hq.ln.2.1
theorem cfar_bd (hp : BOk p) (hq : BOk q) {c d : Int} (hc : c.natAbs < 2 ^ 20) (hd : d.natAbs < 2 ^ 20) : (cfar p q c d).natAbs < 2 ^ 41 := cx_bd (hp.far hq).1 (hp.far hq).2 hc hd
theorem mt_zq (hp : BOk p) (hq : BOk q) : zq 50 (mul_t p q) ∧ zq 100 (mt p q).1 ∧ zq 100 (mt p q).2 := by
  have h1 : zq 50 (mul_t p q) := by
    unfold mul_t
    rw [← Rat.divInt_eq_div]
    exact (zq_divInt (cfar_bd hp hq hq.ln.1 hq.ln.2.1) (crs_bd hp hq) (by decide)).mono (by decide)
  obtain ⟨l1, l2, l3, l4⟩ := hp.ln
  exact ⟨h1, ((zq_small l3).add ((zq_small l1).mul h1)).mono (by decide), ((zq_small l4).add ((zq_small l2).mul h1)).mono (by decide)⟩
theorem meeting_ok (hp : BOk p) (hq : BOk q) (hc : crs p q ≠ 0) : m_meeting [bW p, bW q] S = .ok (pp (mt p q)) S := by
  obtain ⟨l1, l2, l3, l4⟩ := hp.ln
  obtain ⟨k1, k2, k3, k4⟩ := hq.ln
  have c1 := cross_ok (S := S) (hp.far hq).1 (hp.far hq).2 k1 k2
  have c2 := cross_ok (S := S) l1 l2 k1 k2
  have hs : ((crs p q : Int) : Rat) ≠ 0 := fun z => hc (by exact_mod_cast z)
  have dv := divided_ok (S := S) (zq_int (cfar_bd hp hq k1 k2) (by decide)) (zq_int (crs_bd hp hq) (by decide)) (by decide) hs
  have p1 := product_ok (S := S) (zq_small l1) (mt_zq hp hq).1 (by decide)
  have p2 := product_ok (S := S) (zq_small l2) (mt_zq hp hq).1 (by decide)
  have s1 := plus_ok (S := S) (zq_small l3) ((zq_small l1).mul (mt_zq hp hq).1) (by decide)
  have s2 := plus_ok (S := S) (zq_small l4) ((zq_small l2).mul (mt_zq hp hq).1) (by decide)
  have po := point_ok (S := S) (c := p.a) (d := p.b)
  have e1 : cx (q.a - p.a) (q.b - p.b) q.c q.d = cfar p q q.c q.d := rfl
  have e2 : cx p.c p.d q.c q.d = crs p q := rfl
  have e3 : ((cfar p q q.c q.d : Int) : Rat) / ((crs p q : Int) : Rat) = mul_t p q := rfl
  rw [e1] at c1
  rw [e2] at c2
  rw [e3] at dv
  have cE : W.tup [.int (q.a - p.a), .int (q.b - p.b)] = cr (q.a - p.a) (q.b - p.b) := rfl
  refine Sat.eq ?_
  unfold bW
  unfold m_meeting b_meeting
  rw [ev_def]
  show @Sat' _ ((sSeq _ _ [some (.val (.tup [cr p.a p.b, cr p.c p.d])), some (.val (.tup [cr q.a q.b, cr q.c q.d])), none, none, none, none, none, none, none] S).bind kDef) ⟨_⟩
  simp [getSlot, cr_idx0, cr_idx1, cE, c1, c2, whole_ok, dv, po, pt_idx0, pt_idx1, p1, p2, s1, s2]
  rfl
theorem law_meet_ok (hp : BOk p) (hq : BOk q) (hc : crs p q ≠ 0) : m_law_meet [bW p, bW q] S = .ok (pp (mt p q)) S := by
  obtain ⟨l1, l2, l3, l4⟩ := hp.ln
  obtain ⟨k1, k2, k3, k4⟩ := hq.ln
  have c2 := law_cross_ok (S := S) l1 l2 k1 k2
  have f := law_f_ok (o := cfar p q q.c q.d) (u := crs p q) (S := S) hc (Nat.lt_of_lt_of_le (crs_bd hp hq) (Nat.pow_le_pow_right (by decide) (by decide)))
  have e3 : Rat.divInt (cfar p q q.c q.d) (crs p q) = mul_t p q := Rat.divInt_eq_div _ _
  have e2 : cx p.c p.d q.c q.d = crs p q := rfl
  rw [e2] at c2
  rw [e3] at f
  have fo : (q.a - p.a) * q.d - (q.b - p.b) * q.c = cfar p q q.c q.d := rfl
  have m1 : mulOk (q.a - p.a) q.d = true := mulOk_of (hp.far hq).1 k2 (by decide)
  have m2 : mulOk (q.b - p.b) q.c = true := mulOk_of (hp.far hq).2 k1 (by decide)
  have p1 := law_mul_ok (S := S) (zq_small l1) (mt_zq hp hq).1 (by decide)
  have p2 := law_mul_ok (S := S) (zq_small l2) (mt_zq hp hq).1 (by decide)
  have s1 := law_add_ok (S := S) (zq_small l3) ((zq_small l1).mul (mt_zq hp hq).1) (by decide)
  have s2 := law_add_ok (S := S) (zq_small l4) ((zq_small l2).mul (mt_zq hp hq).1) (by decide)
  have pc : ∀ n : Int, W.tup [.int n, .int 1] = pr (n : Rat) := fun _ => rfl
  have hz2 : (2 : Nat) ≤ sizeLine := sz_of (by decide)
  refine Sat.eq ?_
  unfold bW
  unfold m_law_meet b_law_meet
  rw [ev_def]
  show @Sat' _ ((sSeq _ _ [some (.val (.tup [cr p.a p.b, cr p.c p.d])), some (.val (.tup [cr q.a q.b, cr q.c q.d])), none, none, none, none, none, none, none] S).bind kDef) ⟨_⟩
  simp [getSlot, cr_idx0, cr_idx1, c2, o_mul, m1, m2, fo, f, rg2, hz2, wipeM, compL, pc, p1, p2, s1, s2]
  rfl
end
/-- whichever stands first -/
theorem mt_swap {p q : Bg} (h : crs p q ≠ 0) : mt q p = mt p q ∧ crs q p = - crs p q := by
  have hc : crs q p = - crs p q := by unfold crs cx; grind
  have h0 : ((crs p q : Int) : Rat) ≠ 0 := fun z => h (by exact_mod_cast z)
  have e1 : ((crs p q : Int) : Rat) * mul_t p q = ((cfar p q q.c q.d : Int) : Rat) := by
    unfold mul_t
    rw [Rat.div_def, ← Rat.mul_assoc, Rat.mul_comm _ ((cfar p q q.c q.d : Int) : Rat), Rat.mul_assoc, Rat.mul_inv_cancel _ h0, Rat.mul_one]
  have h0' : ((crs q p : Int) : Rat) ≠ 0 := fun z => by
    have e : crs q p = 0 := by exact_mod_cast z
    omega
  have e2 : ((crs q p : Int) : Rat) * mul_t q p = ((cfar q p p.c p.d : Int) : Rat) := by
    unfold mul_t
    rw [Rat.div_def, ← Rat.mul_assoc, Rat.mul_comm _ ((cfar q p p.c p.d : Int) : Rat), Rat.mul_assoc, Rat.mul_inv_cancel _ h0', Rat.mul_one]
  refine ⟨?_, hc⟩
  unfold mt
  rw [hc] at e2
  generalize mul_t p q = t at *
  have hD : ((crs p q : Int) : Rat) = (p.c : Rat) * q.d - p.d * q.c := by unfold crs cx; rw [Rat.intCast_sub, Rat.intCast_mul, Rat.intCast_mul]
  have hf1 : ((cfar p q q.c q.d : Int) : Rat) = ((q.a : Rat) - p.a) * q.d - (q.b - p.b) * q.c := by unfold cfar cx; simp only [Rat.intCast_sub, Rat.intCast_mul]
  have hf2 : ((cfar q p p.c p.d : Int) : Rat) = ((p.a : Rat) - q.a) * p.d - (p.b - q.b) * p.c := by unfold cfar cx; simp only [Rat.intCast_sub, Rat.intCast_mul]
  rw [hf1] at e1
  rw [hf2, Rat.intCast_neg] at e2
  generalize mul_t q p = u at *
  generalize ((crs p q : Int) : Rat) = D at *
  have g1 : D * (((q.a : Rat) + q.c * u) - ((p.a : Rat) + p.c * t)) = 0 := by
    have : D * (((q.a : Rat) + q.c * u) - ((p.a : Rat) + p.c * t)) = D * (q.a - p.a) - q.c * (-D * u) - p.c * (D * t) := by grind
    rw [this, e1, e2, hD]
    grind
  have g2 : D * (((q.b : Rat) + q.d * u) - ((p.b : Rat) + p.d * t)) = 0 := by
    have : D * (((q.b : Rat) + q.d * u) - ((p.b : Rat) + p.d * t)) = D * (q.b - p.b) - q.d * (-D * u) - p.d * (D * t) := by grind
    rw [this, e1, e2, hD]
    grind
  have z : ∀ x : Rat, D * x = 0 → x = 0 := fun x hx => (Rat.mul_eq_zero.mp hx).resolve_left h0
  have g1 := z _ g1
  have g2 := z _ g2
  exact Prod.ext (by grind) (by grind)

/-! ### sorted sets -/
section
variable {α : Type} [DecidableEq α]
def ded : List α → List α → List α
  | acc, [] => acc
  | acc, k :: ks => ded (if k ∈ acc then acc else acc ++ [k]) ks
theorem ded_mem {x : α} : ∀ {ks acc : List α}, x ∈ ded acc ks ↔ x ∈ acc ∨ x ∈ ks
  | [], acc => by simp [ded]
  | k :: ks, acc => by
    unfold ded
    rw [ded_mem]
    split
    · rename_i h
      constructor
      · rintro (z | z)
        · exact .inl z
        · exact .inr (List.mem_cons_of_mem _ z)
      · rintro (z | z)
        · exact .inl z
        · rcases List.mem_cons.mp z with rfl | z
          · exact .inl h
          · exact .inr z
    · rw [List.mem_append, List.mem_singleton, List.mem_cons, or_assoc]
theorem ded_nodup : ∀ {ks acc : List α}, acc.Nodup → (ded acc ks).Nodup
  | [], acc, h => h
  | k :: ks, acc, h => by
    unfold ded
    apply ded_nodup
    split
    · exact h
    · rename_i hk
      refine List.nodup_append.mpr ⟨h, by simp, fun a ha b hb => ?_⟩
      rw [List.mem_singleton.mp hb]
      exact fun z => hk (z ▸ ha)
theorem ded_len : ∀ {ks acc : List α}, (ded acc ks).length ≤ acc.length + ks.length
  | [], acc => by simp [ded]
  | k :: ks, acc => by
    unfold ded
    refine Nat.le_trans ded_len ?_
    rw [List.length_cons]
    split
    · omega
    · rw [List.length_append, List.length_singleton]; omega
def kvT (e : α → W) (l : List α) : List (W × W) := l.map fun a => (e a, W.bl true)
theorem kvT_keys {e : α → W} {l : List α} : (kvT e l).map (·.1) = l.map e := by
  unfold kvT
  rw [List.map_map]
  rfl
theorem foldK {e : α → W} (hk : ∀ a, isKey (e a) = true) (hb : ∀ a b, keyB (e a) (e b) = decide (a = b)) : ∀ {ks acc : List α}, foldP false (kvT e acc) (ks.map fun k => W.tup [e k, .bl true]) = some (kvT e (ded acc ks))
  | [], acc => rfl
  | k :: ks, acc => by
    have hh : hasW (kvT e acc) (e k) = decide (k ∈ acc) := by
      unfold hasW kvT
      rw [List.any_map]
      rw [Bool.eq_iff_iff]
      simp only [List.any_eq_true, Function.comp_apply, hb, decide_eq_true_eq]
      exact ⟨fun ⟨a, h1, h2⟩ => h2 ▸ h1, fun h => ⟨k, h, rfl⟩⟩
    have hp : putP false (kvT e acc) (.tup [e k, .bl true]) = some (kvT e (if k ∈ acc then acc else acc ++ [k])) := by
      unfold putP
      simp only [Bool.false_eq_true, if_false, hk, if_true, Option.some.injEq]
      unfold putW
      rw [hh]
      by_cases h : k ∈ acc
      · rw [if_pos (decide_eq_true h), if_pos h]
        unfold kvT
        rw [List.map_map]
        refine List.map_congr_left fun a _ => ?_
        show (if keyB (e a) (e k) = true then (e a, W.bl true) else (e a, .bl true)) = _
        split <;> rfl
      · rw [if_neg (by simpa using h), if_neg h]
        unfold kvT
        rw [List.map_append]
        rfl
    rw [List.map_cons]
    unfold foldP
    rw [hp]
    unfold ded
    exact foldK hk hb
theorem foldN {e : α → W} {κ : α → NestedKey} (hk : ∀ a, keyT (e a) = some (κ a)) (hb : ∀ a b, κ a = κ b → a = b) : ∀ {ks acc : List α}, foldP true (kvT e acc) (ks.map fun k => W.tup [e k, .bl true]) = some (kvT e (ded acc ks))
  | [], acc => rfl
  | k :: ks, acc => by
    have hg : ∀ acc : List α, (getN (kvT e acc) (κ k)).isSome = decide (k ∈ acc) := fun acc => by
      induction acc with
      | nil => rfl
      | cons a acc ih =>
        show (getN ((e a, W.bl true) :: kvT e acc) (κ k)).isSome = _
        rw [getN_cons, hk]
        by_cases h : a = k
        · subst h
          rw [if_pos rfl]
          simp
        · rw [if_neg (fun z => h (hb _ _ (Option.some.inj z))), ih]
          rw [Bool.eq_iff_iff]
          simp [Ne.symm h]
    have hp : putP true (kvT e acc) (.tup [e k, .bl true]) = some (kvT e (if k ∈ acc then acc else acc ++ [k])) := by
      unfold putP
      simp only [if_true, hk, Option.some.injEq]
      unfold putNW
      rw [hg]
      by_cases h : k ∈ acc
      · rw [if_pos (decide_eq_true h), if_pos h]
        unfold kvT
        rw [List.map_map]
        refine List.map_congr_left fun a _ => ?_
        show (if keyT (e a) = some (κ k) then (e a, W.bl true) else (e a, .bl true)) = _
        split <;> rfl
      · rw [if_neg (by simpa using h), if_neg h]
        unfold kvT
        rw [List.map_append]
        rfl
    rw [List.map_cons]
    unfold foldP
    rw [hp]
    unfold ded
    exact foldN hk hb
end
theorem srt_ints {l : List Int} : SrtOk (l.map W.int) := by
  refine ⟨fun w hw => ?_, fun x hx y hy => ?_, .inr fun x hx => ?_, fun w hw => ?_⟩
  · obtain ⟨q, _, rfl⟩ := List.mem_map.mp hw
    rfl
  · rw [List.map_map] at hx hy
    obtain ⟨p, _, rfl⟩ := List.mem_map.mp hx
    obtain ⟨q, _, rfl⟩ := List.mem_map.mp hy
    rfl
  · rw [List.map_map] at hx
    obtain ⟨p, _, rfl⟩ := List.mem_map.mp hx
    constructor
    · intro h
      cases (show PyData.int p = _ from h)
    · intro xs h
      cases (show PyData.int p = _ from h)
  · obtain ⟨q, _, rfl⟩ := List.mem_map.mp hw
    exact Nat.zero_le _
theorem le_int {a b : Int} : leW (.int a) (.int b) = decide (a ≤ b) := by
  rw [leW_eq]
  show (!PySem.W.dataLt (.int b) (.int a)) = _
  rw [PySem.W.dataLt_int, ← decide_not]
  exact decide_eq_decide.mpr (by omega)
def srtI (l : List Int) : List Int := l.mergeSort fun a b => decide (a ≤ b)
theorem sort_ints {l : List Int} : (l.map W.int).mergeSort leW = (srtI l).map W.int := sorted_map fun a _ b _ => le_int.symm
theorem srtI_ok {l : List Int} (h : l.Nodup) : (srtI l).Pairwise (· < ·) ∧ ∀ x, x ∈ srtI l ↔ x ∈ l := by
  have p := List.pairwise_mergeSort (le := fun a b : Int => decide (a ≤ b)) (fun a b c h1 h2 => by simp only [decide_eq_true_eq] at *; omega) (fun a b => by simp only [Bool.or_eq_true, decide_eq_true_eq]; omega) l
  have nd : (srtI l).Nodup := (List.mergeSort_perm l _).nodup_iff.mpr h
  refine ⟨?_, fun x => List.mem_mergeSort⟩
  exact (p.and nd).imp fun ⟨h1, h2⟩ => by
    simp only [decide_eq_true_eq] at h1
    omega
theorem in_order_ok {qs : List Rat} {S : Hm} (hz : ∀ q ∈ qs, zq 100 q) (hl : qs.length ≤ 30) : Sat (m_in_order [.fl (qs.map pr)] S) fun w S' => @Hd' ⟨∃ rs : List Rat, w = .fl (rs.map pr) ∧ rs.Pairwise (· < ·) ∧ (∀ q, q ∈ rs ↔ q ∈ qs) ∧ Keep S S'⟩ := by
  have hsz : qs.length ≤ sizeLine := by rw [sizeLine_eq]; omega
  unfold m_in_order b_in_order
  rw [ev_def]
  show @Sat' _ ((sSeq _ _ [some (.val (.fl (qs.map pr))), none, none, none, none] S).bind kDef) ⟨_⟩
  simp [getSlot]
  refine Sat.forMap (fun i σ T => @Hd' ⟨S = T ∧ ∃ n : Nat, (∃ (y_overs y_over y_under : Option Sv), σ = [some (.val (.fl (qs.map pr))), some (.val (.int (n : Int))), y_overs, y_over, y_under]) ∧ 0 < n ∧ n < 2 ^ (100 * i + 1) ∧ ∀ q ∈ qs.take i, q.den ∣ n⟩) ⟨rfl, 1, ⟨_, _, _, rfl⟩, by decide, by simp, by simp⟩ (fun i q σ T hq h => ?_) (fun σ T h => ?_)
  · obtain ⟨hT, n, ⟨y_overs, y_over, y_under, rfl⟩, n0, nb, hd⟩ := h
    subst hT
    obtain ⟨hi, hqi⟩ := List.getElem?_eq_some_iff.mp hq
    have hqm : q ∈ qs := by rw [← hqi]; exact List.getElem_mem hi
    have zq' := hz q hqm
    have d0 : 0 < q.den := Nat.pos_of_ne_zero q.den_nz
    have nn : (n : Int).natAbs < 2 ^ 3100 := by
      rw [Int.natAbs_natCast]
      exact Nat.lt_of_lt_of_le nb (Nat.pow_le_pow_right (by decide) (by omega))
    have cm := common_ok (a := (n : Int)) (b := (q.den : Int)) (S := S) (k := 100) zq'.den (by decide)
    rw [Int.natAbs_natCast, Int.natAbs_natCast] at cm
    have m1 : mulOk (n : Int) (q.den : Int) = true := mulOk_of nn zq'.den (by decide)
    have g0 : 0 < Nat.gcd n q.den := Nat.gcd_pos_of_pos_left _ n0
    have gl : (Nat.gcd n q.den).log2 < 9000 := by
      refine (Nat.log2_lt (by omega)).mpr (Nat.lt_of_le_of_lt (Nat.gcd_le_left _ n0) (Nat.lt_of_lt_of_le nb (Nat.pow_le_pow_right (by decide) (by omega))))
    obtain ⟨n', hn'⟩ : ∃ n' : Nat, n' = n * q.den / Nat.gcd n q.den := ⟨_, rfl⟩
    have fd : ((n : Int) * q.den).fdiv ((Nat.gcd n q.den : Nat) : Int) = (n' : Int) := by
      rw [fdiv_pos (by omega), hn']
      norm_cast
    have pE : pr q = .tup [.int q.num, .int q.den] := rfl
    rw [pE]
    simp [getSlot, o_mul, m1, cm, o_div, gl, Nat.pos_iff_ne_zero.mp g0, fd]
    have hg := Nat.gcd_dvd_right n q.den
    obtain ⟨r, hr⟩ := hg
    have e1 : n * q.den / Nat.gcd n q.den = n * r := by
      conv => lhs; lhs; rw [hr]
      rw [← Nat.mul_assoc, Nat.mul_comm n, Nat.mul_assoc, Nat.mul_div_cancel_left _ g0]
    have e2 : n * q.den / Nat.gcd n q.den = q.den * (n / Nat.gcd n q.den) := by
      rw [Nat.mul_comm, Nat.mul_div_assoc _ (Nat.gcd_dvd_left _ _)]
    have r0 : 0 < r := by
      rcases Nat.eq_zero_or_pos r with h | h
      · rw [h, Nat.mul_zero] at hr; omega
      · exact h
    refine ⟨rfl, n', ⟨_, _, _, rfl⟩, ?_, ?_, ?_⟩
    · rw [hn', e1]; exact Nat.mul_pos n0 r0
    · rw [hn']
      refine Nat.lt_of_le_of_lt (Nat.div_le_self _ _) ?_
      rw [show 100 * (i + 1) + 1 = (100 * i + 1) + 100 by omega, Nat.pow_add]
      exact Nat.mul_lt_mul'' nb zq'.2
    · intro x hx
      rw [List.take_add_one, hq] at hx
      rcases List.mem_append.mp hx with hx | hx
      · rw [hn', e1]; exact Nat.dvd_trans (hd x hx) (Nat.dvd_mul_right _ _)
      · simp at hx
        rw [hx, hn', e2]
        exact Nat.dvd_mul_right _ _
  · obtain ⟨hT, n, ⟨y_overs, y_over, y_under, rfl⟩, n0, nb, hd⟩ := h
    subst hT
    rw [List.take_of_length_le (Nat.le_refl _)] at hd
    have nn : (n : Int).natAbs < 2 ^ 3100 := by
      rw [Int.natAbs_natCast]
      exact Nat.lt_of_lt_of_le nb (Nat.pow_le_pow_right (by decide) (by omega))
    obtain ⟨v, hv⟩ : ∃ v : Rat → Nat, ∀ q, v q = n / q.den := ⟨_, fun _ => rfl⟩
    have cm := Sat.compAll (e := pr) (tg := tgTup [tgName 3, tgName 4]) (el := ePair (eBin fMul (eVar 3) (eBin fDiv (eVar 1) (eVar 4))) (eC (.bl true))) (σ := [some (.val (.fl (qs.map pr))), some (.val (.int (n : Int))), y_overs, none, none]) (S := S)
        (f := fun q => W.tup [W.int (q.num * (v q : Int)), .bl true]) qs fun q hq => by
      have zq' := hz q hq
      have d0 : 0 < q.den := Nat.pos_of_ne_zero q.den_nz
      have dl : q.den.log2 < 9000 := by
        exact (Nat.log2_lt (by omega)).mpr (Nat.lt_of_lt_of_le zq'.2 (Nat.pow_le_pow_right (by decide) (by decide)))
      have fd : (n : Int).fdiv (q.den : Int) = (v q : Int) := by
        rw [fdiv_pos (by omega), hv]
        norm_cast
      have m1 : mulOk q.num (v q : Int) = true := mulOk_of (a := 100) (b := 3100) zq'.1 (by rw [Int.natAbs_natCast, hv]; exact Nat.lt_of_le_of_lt (Nat.div_le_self _ _) (by rwa [Int.natAbs_natCast] at nn)) (by decide)
      have pE : pr q = .tup [.int q.num, .int q.den] := rfl
      rw [pE]
      simp only [ev_tgtup, List.length_cons, List.length_nil, if_true, ev_tgs1, ev_tgs2, ev_tgname, R.bind_ok, ev_tgs0, Sat.ok]
      simp [getSlot, o_div, dl, q.den_nz, fd, o_mul, m1]
    have fk := foldK (e := W.int) (fun a => rfl) (fun a b => rfl) (ks := qs.map fun q => q.num * (v q : Int)) (acc := [])
    rw [List.map_map] at fk
    have fk : foldP false [] (qs.map fun q => W.tup [W.int (q.num * (v q : Int)), .bl true]) = some (kvT W.int (ded [] (qs.map fun q => q.num * (v q : Int)))) := fk
    have ndd := ded_nodup (ks := qs.map fun q => q.num * (v q : Int)) (acc := []) .nil
    have mem : ∀ x, x ∈ ded [] (qs.map fun q => q.num * (v q : Int)) ↔ ∃ q ∈ qs, q.num * (v q : Int) = x := fun x => by
      rw [ded_mem]
      simp
    have len := ded_len (ks := qs.map fun q => q.num * (v q : Int)) (acc := [])
    rw [List.length_map, List.length_nil] at len
    generalize ded [] (qs.map fun q => q.num * (v q : Int)) = K at *
    have so := fSortedY_dic (S := S ++ [some (moOf false (kvT W.int K))]) (p := S.length) (kvs := kvT W.int K) heapAt_new (by rw [kvT_keys]; exact srt_ints) (by unfold kvT; rw [List.length_map]; omega)
    rw [kvT_keys, sort_ints] at so
    obtain ⟨pw, mm⟩ := srtI_ok ndd
    have ln2 : (srtI K).length = K.length := List.length_mergeSort _
    generalize srtI K = M at *
    have hzM : M.length ≤ sizeLine := by rw [sizeLine_eq]; omega
    have n1 : (n : Int) ≠ 0 := by omega
    have cm2 := Sat.compAll (e := W.int) (tg := tgName 3) (el := eCallD m_fraction [] (aCons (eVar 3) (aCons (eVar 1) aNil))) (σ := [some (.val (.fl (qs.map pr))), some (.val (.int (n : Int))), some (.val (.fl (M.map W.int))), none, y_under]) (S := S ++ [some (moOf false (kvT W.int K))])
        (f := fun k => pr (Rat.divInt k n)) M fun k hk => by
      have fr := fraction_ok (o := k) (u := (n : Int)) (S := S ++ [some (moOf false (kvT W.int K))]) n1 (Nat.lt_of_lt_of_le nn (Nat.pow_le_pow_right (by decide) (by decide)))
      simp [getSlot, fr]
    simp [getSlot, hsz, wipeM, cm, dc_of fk, so, hzM, cm2]
    have np : (0 : Rat) < (n : Int) := by exact_mod_cast n0
    refine ⟨M.map fun k => Rat.divInt k n, by rw [List.map_map]; rfl, ?_, fun q => ?_, Keep.app _ _⟩
    · rw [List.pairwise_map]
      refine pw.imp fun {a b} hab => ?_
      rw [Rat.divInt_eq_div, Rat.divInt_eq_div, Rat.div_def, Rat.div_def]
      have ip : 0 < ((n : Int) : Rat)⁻¹ := Rat.inv_pos.mpr np
      have := Rat.mul_lt_mul_of_pos_right (show (a : Rat) < b by exact_mod_cast hab) ip
      exact this
    · have key : ∀ q ∈ qs, Rat.divInt (q.num * (v q : Int)) n = q := fun q hq => by
        have d0 : (q.den : Int) ≠ 0 := by have := q.den_nz; omega
        have e : (n : Int) = q.den * (v q : Int) := by
          rw [hv]
          have := Nat.mul_div_cancel' (hd q hq)
          exact_mod_cast this.symm
        have v0 : (v q : Int) ≠ 0 := fun z => by rw [z, Int.mul_zero] at e; omega
        rw [e, Rat.divInt_mul_right v0, Rat.num_divInt_den]
      rw [List.mem_map]
      constructor
      · rintro ⟨k, hk, rfl⟩
        obtain ⟨q, hq, rfl⟩ := (mem k).mp ((mm k).mp hk)
        rw [key q hq]; exact hq
      · intro hq
        exact ⟨_, (mm _).mpr ((mem _).mpr ⟨q, hq, rfl⟩), key q hq⟩

/-! ### places in order -/
def lexlt (p q : Rat × Rat) : Prop := p.1 < q.1 ∨ (p.1 = q.1 ∧ p.2 < q.2)
theorem toD_pr (q : Rat) : toD (pr q) = some (.tuple [.int q.num, .int q.den]) := rfl
theorem idx_ok {E : List Rat} {q : Rat} {S : Hm} (h : q ∈ E) : fIndexY (.fl (E.map pr)) [pr q] S = .ok (.int (E.idxOf q : Nat)) S := by
  have h1 : fIndexL (.fl (E.map pr)) [pr q] S = .stuck := rfl
  have hds : toDs (E.map pr) = some ((E.map pr).map datW) := SB.toDs_map fun w hw => by obtain ⟨c, _, rfl⟩ := List.mem_map.mp hw; rfl
  have sd : SeqAt.shaped (.tuple [.int q.num, .int q.den]) = true := (shaped_ints [q.num, (q.den : Int)]).2
  have sl : SeqAt.shaped (.list ((E.map pr).map datW)) = true := by
    refine shaped_list (n := 1) (fun d hd => ?_) (by decide)
    obtain ⟨w, hw, rfl⟩ := List.mem_map.mp hd
    obtain ⟨r, _, rfl⟩ := List.mem_map.mp hw
    have e : datW (pr r) = .tuple [.int r.num, .int r.den] := rfl
    rw [e]
    constructor
    · simp [PyData.canLay0, PyData.canLayAll0]
    · simp [PyData.depth, PyData.depthAll]
  have fi : ((E.map pr).map datW).findIdx? (fun z => PyData.eqv z (.tuple [.int q.num, .int q.den])) = some (E.idxOf q) := by
    rw [List.map_map, List.findIdx?_map]
    have eq : ((fun z => PyData.eqv z (.tuple [.int q.num, .int q.den])) ∘ (datW ∘ pr)) = fun r : Rat => r == q := by
      funext r
      show PyData.eqv (.tuple [.int r.num, .int r.den]) (.tuple [.int q.num, .int q.den]) = _
      rw [Bool.eq_iff_iff]
      simp only [PyData.eqv, PyData.eqvAll, Bool.and_eq_true, beq_iff_eq, Bool.and_true]
      constructor
      · rintro ⟨h1, h2⟩
        exact Rat.ext h1 (by exact_mod_cast h2)
      · rintro rfl
        exact ⟨rfl, rfl⟩
    rw [eq]
    unfold List.idxOf
    exact List.findIdx?_eq_some_of_exists ⟨q, h, by simp⟩
  unfold fIndexY
  rw [h1]
  unfold fIndexD
  simp only [toD_pr, o_lstF, Option.bind_some, hds, sl, sd, Bool.and_self, if_true, fi]
theorem getD_at {l : List Rat} {i : Nat} (h : i < l.length) : l.getD i 0 = l[i] := by
  rw [List.getD_eq_getElem?_getD, List.getElem?_eq_getElem h]
  rfl
def eP (x : Nat × Nat) : W := .tup [.int x.1, .int x.2]
def kP (x : Nat × Nat) : NestedKey := .tup [.num x.1, .num x.2]
theorem eP_key (x : Nat × Nat) : keyT (eP x) = some (kP x) := by
  unfold eP keyT
  simp only [keyN, keyNs]
  rw [if_pos (by show NestedKey.depth _ ≤ 8; simp [NestedKey.depth, NestedKey.depthAll])]
  rfl
theorem kP_inj (x y : Nat × Nat) (h : kP x = kP y) : x = y := by
  unfold kP at h
  injection h with h
  injection h with h1 h2
  injection h2 with h2 _
  injection h1 with h1
  injection h2 with h2
  exact Prod.ext (by omega) (by omega)
def leP (x y : Nat × Nat) : Bool := decide (x.1 < y.1 ∨ (x.1 = y.1 ∧ x.2 ≤ y.2))
theorem leP_ok (x y : Nat × Nat) : leW (eP x) (eP y) = leP x y := by
  rw [leW_eq]
  show (!PySem.W.dataLt (.tuple [.int y.1, .int y.2]) (.tuple [.int x.1, .int x.2])) = _
  rw [PySem.W.dataLt_ii]
  unfold leP
  rw [← decide_not]
  exact decide_eq_decide.mpr (by omega)
theorem srt_pairs {l : List (Nat × Nat)} : SrtOk (l.map eP) := by
  refine ⟨fun w hw => ?_, fun x hx y hy => ?_, .inl fun x hx => ?_, fun w hw => ?_⟩
  · obtain ⟨q, _, rfl⟩ := List.mem_map.mp hw
    rfl
  · rw [List.map_map] at hx hy
    obtain ⟨p, _, rfl⟩ := List.mem_map.mp hx
    obtain ⟨q, _, rfl⟩ := List.mem_map.mp hy
    show PySem.W.alike (.tuple [.int _, .int _]) (.tuple [.int _, .int _]) = true
    simp [PySem.W.alike, PySem.W.alikeAll]
  · rw [List.map_map] at hx
    obtain ⟨p, _, rfl⟩ := List.mem_map.mp hx
    exact ⟨.int p.1, [.int p.2], rfl⟩
  · obtain ⟨q, _, rfl⟩ := List.mem_map.mp hw
    show (PyData.tuple [.int _, .int _]).depth ≤ 60
    simp [PyData.depth, PyData.depthAll]
theorem sortP_ok {l : List (Nat × Nat)} (h : l.Nodup) : (l.mergeSort leP).Pairwise (fun x y => x.1 < y.1 ∨ (x.1 = y.1 ∧ x.2 < y.2)) ∧ ∀ x, x ∈ l.mergeSort leP ↔ x ∈ l := by
  have p := List.pairwise_mergeSort (le := leP) (fun a b c h1 h2 => by unfold leP at *; simp only [decide_eq_true_eq] at *; omega) (fun a b => by unfold leP; simp only [Bool.or_eq_true, decide_eq_true_eq]; omega) l
  have nd : (l.mergeSort leP).Nodup := (List.mergeSort_perm l _).nodup_iff.mpr h
  refine ⟨?_, fun x => List.mem_mergeSort⟩
  refine (p.and nd).imp fun {a b} ⟨h1, h2⟩ => ?_
  unfold leP at h1
  simp only [decide_eq_true_eq] at h1
  have : ¬ (a.1 = b.1 ∧ a.2 = b.2) := fun z => h2 (Prod.ext z.1 z.2)
  omega
theorem places_in_order_ok {ps : List (Rat × Rat)} {S : Hm} (hz : ∀ p ∈ ps, zq 100 p.1 ∧ zq 100 p.2) (hl : ps.length ≤ 30) :
    Sat (m_places_in_order [.fl (ps.map pp)] S) fun w S' => @Hd' ⟨∃ rs : List (Rat × Rat), w = .fl (rs.map pp) ∧ rs.Pairwise lexlt ∧ (∀ p, p ∈ rs ↔ p ∈ ps) ∧ Keep S S'⟩ := by
  have hsz : ps.length ≤ sizeLine := by rw [sizeLine_eq]; omega
  have c1 := Sat.compAll (e := pp) (tg := tgName 4) (el := eBin fIdx (eVar 4) (eC (.int 0))) (σ := [some (.val (.fl (ps.map pp))), none, none, none, none, none, none]) (S := S) (f := fun p => pr p.1) ps fun p hp => by
    unfold pp
    simp [getSlot, pt_idx0]
  obtain ⟨w1, S1, e1, E, rfl, pE, mE, k1⟩ := Sat.get (in_order_ok (qs := ps.map (·.1)) (S := S) (fun q hq => by obtain ⟨p, hp, rfl⟩ := List.mem_map.mp hq; exact (hz p hp).1) (by rw [List.length_map]; exact hl))
  have c2 := Sat.compAll (e := pp) (tg := tgName 4) (el := eBin fIdx (eVar 4) (eC (.int 1))) (σ := [some (.val (.fl (ps.map pp))), some (.val (.fl (E.map pr))), none, none, none, none, none]) (S := S1) (f := fun p => pr p.2) ps fun p hp => by
    unfold pp
    simp [getSlot, pt_idx1]
  obtain ⟨w2, S2, e2, N, rfl, pN, mN, k2⟩ := Sat.get (in_order_ok (qs := ps.map (·.2)) (S := S1) (fun q hq => by obtain ⟨p, hp, rfl⟩ := List.mem_map.mp hq; exact (hz p hp).2) (by rw [List.length_map]; exact hl))
  rw [List.map_map] at e1 e2
  have e1 : m_in_order [.fl (ps.map fun p => pr p.1)] S = _ := e1
  have e2 : m_in_order [.fl (ps.map fun p => pr p.2)] S1 = _ := e2
  have inE : ∀ p ∈ ps, p.1 ∈ E := fun p hp => (mE _).mpr (List.mem_map_of_mem (f := (·.1)) hp)
  have inN : ∀ p ∈ ps, p.2 ∈ N := fun p hp => (mN _).mpr (List.mem_map_of_mem (f := (·.2)) hp)
  have c3 := Sat.compAll (e := pp) (tg := tgName 4) (el := ePair (eTup (aCons (eBm fIndexY (eVar 1) (aCons (eBin fIdx (eVar 4) (eC (.int 0))) aNil)) (aCons (eBm fIndexY (eVar 2) (aCons (eBin fIdx (eVar 4) (eC (.int 1))) aNil)) aNil))) (eC (.bl true)))
      (σ := [some (.val (.fl (ps.map pp))), some (.val (.fl (E.map pr))), some (.val (.fl (N.map pr))), none, none, none, none]) (S := S2) (f := fun p => W.tup [eP (E.idxOf p.1, N.idxOf p.2), .bl true]) ps fun p hp => by
    have i1 := idx_ok (S := S2) (inE p hp)
    have i2 := idx_ok (S := S2) (inN p hp)
    have b1 : ∀ (f : W → List W → Hm → SB.R W) (as : As) (σ : Sl) (xs : List W), kBm f as σ (.fl xs) S2 = (as σ S2).bind (f (.fl xs)) := fun _ _ _ _ => rfl
    unfold pp
    simp [getSlot, pt_idx0, pt_idx1, b1, i1, i2]
    rfl
  have fk := foldN (e := eP) (κ := kP) eP_key kP_inj (ks := ps.map fun p => (E.idxOf p.1, N.idxOf p.2)) (acc := [])
  rw [List.map_map] at fk
  have fk : foldP true [] (ps.map fun p => W.tup [eP (E.idxOf p.1, N.idxOf p.2), .bl true]) = some (kvT eP (ded [] (ps.map fun p => (E.idxOf p.1, N.idxOf p.2)))) := fk
  have ndd := ded_nodup (ks := ps.map fun p => (E.idxOf p.1, N.idxOf p.2)) (acc := []) .nil
  have mem : ∀ x, x ∈ ded [] (ps.map fun p => (E.idxOf p.1, N.idxOf p.2)) ↔ ∃ p ∈ ps, (E.idxOf p.1, N.idxOf p.2) = x := fun x => by
    rw [ded_mem]
    simp
  have len := ded_len (ks := ps.map fun p => (E.idxOf p.1, N.idxOf p.2)) (acc := [])
  rw [List.length_map, List.length_nil] at len
  generalize ded [] (ps.map fun p => (E.idxOf p.1, N.idxOf p.2)) = K at *
  have so := fSortedY_dcN (S := S2 ++ [some (moOf true (kvT eP K))]) (p := S2.length) (kvs := kvT eP K) (dcn_d heapAt_new) (by rw [kvT_keys]; exact srt_pairs) (by unfold kvT; rw [List.length_map]; omega)
  rw [kvT_keys, sorted_map (l := K) (le := leP) fun a _ b _ => (leP_ok a b).symm] at so
  obtain ⟨pw, mm⟩ := sortP_ok ndd
  have ln2 : (K.mergeSort leP).length = K.length := List.length_mergeSort _
  generalize K.mergeSort leP = M at *
  have hzM : M.length ≤ sizeLine := by rw [sizeLine_eq]; omega
  have rng : ∀ x ∈ M, x.1 < E.length ∧ x.2 < N.length := fun x hx => by
    obtain ⟨p, hp, rfl⟩ := (mem x).mp ((mm x).mp hx)
    exact ⟨List.idxOf_lt_length_iff.mpr (inE p hp), List.idxOf_lt_length_iff.mpr (inN p hp)⟩
  have c4 := Sat.compAll (e := eP) (tg := tgTup [tgName 5, tgName 6]) (el := eTup (aCons (eBin fIdx (eVar 1) (eVar 5)) (aCons (eBin fIdx (eVar 2) (eVar 6)) aNil)))
      (σ := [some (.val (.fl (ps.map pp))), some (.val (.fl (E.map pr))), some (.val (.fl (N.map pr))), some (.val (.fl (M.map eP))), none, none, none]) (S := S2 ++ [some (moOf true (kvT eP K))]) (f := fun x => pp (E.getD x.1 0, N.getD x.2 0)) M fun x hx => by
    obtain ⟨h1, h2⟩ := rng x hx
    have a1 : atI (E.map pr) (x.1 : Int) = some (pr (E.getD x.1 0)) := by
      rw [atI_natS, List.getElem?_map, List.getElem?_eq_getElem h1, getD_at h1]; rfl
    have a2 : atI (N.map pr) (x.2 : Int) = some (pr (N.getD x.2 0)) := by
      rw [atI_natS, List.getElem?_map, List.getElem?_eq_getElem h2, getD_at h2]; rfl
    unfold eP
    simp [getSlot, a1, a2]
    rfl
  unfold m_places_in_order b_places_in_order
  rw [ev_def]
  show @Sat' _ ((sSeq _ _ [some (.val (.fl (ps.map pp))), none, none, none, none, none, none] S).bind kDef) ⟨_⟩
  simp [getSlot, hsz, wipeM, c1, e1, c2, e2, c3, dc_of fk, so, hzM, c4]
  refine ⟨M.map fun x => (E.getD x.1 0, N.getD x.2 0), by rw [List.map_map]; rfl, ?_, fun p => ?_, (k1.trans k2).trans (Keep.app _ _)⟩
  · rw [List.pairwise_map]
    refine (List.Pairwise.and_mem.mp pw).imp fun {a b} ⟨ha, hb, h⟩ => ?_
    obtain ⟨a1, a2⟩ := rng a ha
    obtain ⟨b1, b2⟩ := rng b hb
    unfold lexlt
    rw [getD_at a1, getD_at a2, getD_at b1, getD_at b2]
    rcases h with h | ⟨h1, h2⟩
    · exact .inl (List.pairwise_iff_getElem.mp pE _ _ a1 b1 h)
    · right
      refine ⟨by simp only [h1], List.pairwise_iff_getElem.mp pN _ _ a2 b2 h2⟩
  · rw [List.mem_map]
    have key : ∀ p ∈ ps, (E.getD (E.idxOf p.1) 0, N.getD (N.idxOf p.2) 0) = p := fun p hp => by
      have i1 := List.idxOf_lt_length_iff.mpr (inE p hp)
      have i2 := List.idxOf_lt_length_iff.mpr (inN p hp)
      rw [getD_at i1, getD_at i2, List.getElem_idxOf i1, List.getElem_idxOf i2]
    constructor
    · rintro ⟨x, hx, rfl⟩
      obtain ⟨p, hp, rfl⟩ := (mem x).mp ((mm x).mp hx)
      rw [key p hp]; exact hp
    · intro hp
      exact ⟨_, (mm _).mpr ((mem _).mpr ⟨p, hp, rfl⟩), key p hp⟩

/-! ### a fix, a spread, along -/
def wr (t : Bool) (L : List W) : W := if t = true then .tup L else .fl L
section
variable {t : Bool} {L : List W} {S : Hm}
theorem wr_it : kIt (wr t L) S = .ok (.seq L) S := by cases t <;> rfl
theorem wr_en : kEn (wr t L) S = .ok (.seq (enumL 0 L)) S := by cases t <;> rfl
theorem wr_at {i : Int} : fIdx (wr t L) (.int i) S = opt (atI L i) S := by cases t <;> rfl
theorem wr_len : fLen [wr t L] S = .ok (.int L.length) S := by cases t <;> rfl
theorem wr_isi : kIsi [.b "list", .b "tuple"] (wr t L) S = .ok (.bl true) S := by cases t <;> rfl
theorem wr_cut {l h : Option Int} : kSX3 (wr t L) l h S = .ok (wr t (cutG L l h)) S := by cases t <;> rfl
end
theorem cutDrop {α : Type} (xs : List α) (k : Nat) : cutG xs (some (k : Int)) none = xs.drop k := by
  unfold cutG
  rw [HT.sIx_none, HT.sIx_nat]
  by_cases h : k ≤ xs.length
  · rw [Nat.min_eq_left h, List.take_of_length_le (by rw [List.length_drop]; exact Nat.le_refl _)]
  · rw [List.drop_eq_nil_of_le (show xs.length ≤ k by omega), Nat.min_eq_right (by omega), Nat.sub_self]
    exact List.take_zero
theorem enumL_eq : ∀ {xs : List W} {n : Nat}, enumL (n : Int) xs = (xs.zipIdx n).map fun p => W.tup [.int (p.2 : Int), p.1]
  | [], _ => rfl
  | x :: xs, n => by
    unfold enumL
    rw [List.zipIdx_cons, List.map_cons]
    have := enumL_eq (xs := xs) (n := n + 1)
    rw [← this]
    rfl
theorem enumB {bs : List Bg} : enumL 0 (bs.map bW) = (bs.zipIdx).map fun p => W.tup [.int (p.2 : Int), bW p.1] := by
  have := enumL_eq (xs := bs.map bW) (n := 0)
  rw [show ((0 : Nat) : Int) = 0 from rfl] at this
  rw [this, List.zipIdx_map, List.map_map]
  rfl
def see (x : Rat × Rat) (p : Bg) : Rat := ((p.a : Rat) - x.1) * p.c + ((p.b : Rat) - x.2) * p.d
theorem sees_ok {x : Rat × Rat} {p : Bg} {S : Hm} (hx : zq 100 x.1 ∧ zq 100 x.2) (hp : BOk p) : m_sees [pp x, bW p] S = .ok (.bl (decide (0 < see x p))) S := by
  obtain ⟨l1, l2, l3, l4⟩ := hp.ln
  have po := point_ok (S := S) (c := p.a) (d := p.b)
  have za := (zq_small l3).mono (l := 100) (by decide)
  have zb := (zq_small l4).mono (l := 100) (by decide)
  have ap := apart_ok (S := S) hx.1 hx.2 za zb (by decide)
  have p1 := product_ok (S := S) (za.sub hx.1) (zq_small l1) (by decide)
  have p2 := product_ok (S := S) (zb.sub hx.2) (zq_small l2) (by decide)
  have s1 := plus_ok (S := S) ((za.sub hx.1).mul (zq_small l1)) ((zb.sub hx.2).mul (zq_small l2)) (by decide)
  have le := is_less_ok (S := S) (zq_small (n := 0) (by decide)) (((za.sub hx.1).mul (zq_small l1)).add ((zb.sub hx.2).mul (zq_small l2))) (by decide)
  rw [show ((0 : Int) : Rat) = 0 from rfl] at le
  refine Sat.eq ?_
  unfold bW pp
  unfold m_sees b_sees
  rw [ev_def]
  show @Sat' _ ((sSeq _ _ [some (.val (pt x.1 x.2)), some (.val (.tup [cr p.a p.b, cr p.c p.d])), none, none, none, none] S).bind kDef) ⟨_⟩
  simp [getSlot, po, ap, pt_idx0, pt_idx1, cr_idx0, cr_idx1, whole_ok, p1, p2, s1, le]
  rfl
theorem is_bearing_ok {p : Bg} {S : Hm} (hp : BOk p) : m_is_bearing [bW p] S = .ok (.bl true) S := by
  have e1 := is_point_ok (S := S) hp.a
  have e2 := numbers2_ok (m := 9999) (S := S) hp.c.1.1 hp.c.1.2 hp.c.2.1 hp.c.2.2
  have ne : fNe (cr p.c p.d) (.tup [.int 0, .int 0]) S = .ok (.bl true) S := by
    have := fNe_data (S := S) (x := cr p.c p.d) (y := .tup [.int 0, .int 0]) (d := .tuple [.int p.c, .int p.d]) (d2 := .tuple [.int 0, .int 0]) rfl rfl (shaped_ints [p.c, p.d]).2 (shaped_ints [0, 0]).2
    rw [this]
    have h : PyData.eqv (.tuple [.int p.c, .int p.d]) (.tuple [.int 0, .int 0]) = false := by
      rw [Bool.eq_false_iff]
      intro h
      simp only [PyData.eqv, PyData.eqvAll, Bool.and_eq_true, beq_iff_eq, Bool.and_true] at h
      exact hp.nz h
    rw [h]; rfl
  have i0 : kIsi [.b "tuple"] (bW p) S = .ok (.bl true) S := rfl
  have ln : fLen [bW p] S = .ok (.int 2) S := rfl
  refine Sat.eq ?_
  unfold m_is_bearing b_is_bearing
  rw [ev_def]
  show @Sat' _ ((sSeq _ _ [some (.val (bW p))] S).bind kDef) ⟨_⟩
  simp [getSlot, i0, ln, bW0, bW1, e1, e2, ne]
def par (p q : Bg) : Bool := decide (crs p q = 0) && decide (cfar p q p.c p.d = 0)
def oneL (bs : List Bg) : Bool := match bs with
  | [] => true
  | p :: _ => bs.all (par p)
theorem are_one_line_ok {p : Bg} {bs : List Bg} {t : Bool} {S : Hm} (h : ∀ q ∈ p :: bs, BOk q) : m_are_one_line [wr t ((p :: bs).map bW)] S = .ok (.bl (oneL (p :: bs))) S := by
  have hp := h p List.mem_cons_self
  obtain ⟨l1, l2, l3, l4⟩ := hp.ln
  have a0 : atI ((p :: bs).map bW) 0 = some (bW p) := by rw [List.map_cons]; exact o_at0
  have bE : bW p = .tup [cr p.a p.b, cr p.c p.d] := rfl
  have o : oneL (p :: bs) = (p :: bs).all (par p) := rfl
  rw [o]
  generalize hB : p :: bs = B at *
  refine Sat.eq ?_
  unfold m_are_one_line b_are_one_line
  rw [ev_def]
  show @Sat' _ ((sSeq _ _ [some (.val (wr t (B.map bW))), none, none, none, none, none] S).bind kDef) ⟨_⟩
  simp [getSlot, wr_at, a0, bE, wr_it]
  refine Sat.forMap (fun i σ T => @Hd' ⟨S = T ∧ (∃ (y_their_mark y_their_line y_far : Option Sv), σ = [some (.val (wr t (B.map bW))), some (.val (cr p.a p.b)), some (.val (cr p.c p.d)), y_their_mark, y_their_line, y_far]) ∧ (B.take i).all (par p) = true⟩) ⟨rfl, ⟨_, _, _, rfl⟩, by simp⟩ (fun i q σ T hq h' => ?_) (fun σ T h' => ?_)
  · obtain ⟨hT, ⟨y_their_mark, y_their_line, y_far, rfl⟩, ha⟩ := h'
    subst hT
    have hqm := List.mem_of_getElem? hq
    have oq := h q hqm
    obtain ⟨k1, k2, k3, k4⟩ := oq.ln
    have c1 := cross_ok (S := S) l1 l2 k1 k2
    have c2 := cross_ok (S := S) l1 l2 (hp.far oq).1 (hp.far oq).2
    have e1 : cx p.c p.d q.c q.d = crs p q := rfl
    have e2 : cx p.c p.d (q.a - p.a) (q.b - p.b) = - cfar p q p.c p.d := by unfold cfar cx; grind
    rw [e1] at c1
    rw [e2] at c2
    have qE : bW q = .tup [cr q.a q.b, cr q.c q.d] := rfl
    have cE : W.tup [.int (q.a - p.a), .int (q.b - p.b)] = cr (q.a - p.a) (q.b - p.b) := rfl
    have tk : (B.take (i + 1)).all (par p) = par p q := by
      rw [List.take_add_one, hq, List.all_append, ha]
      simp
    by_cases h1 : crs p q = 0
    · by_cases h2 : cfar p q p.c p.d = 0
      · have pt : par p q = true := by unfold par; rw [decide_eq_true h1, decide_eq_true h2]; rfl
        simp only [qE]
        simp [getSlot, cr_idx0, cr_idx1, cE, c1, c2, h1, h2]
        exact ⟨rfl, ⟨_, _, _, rfl⟩, by rw [tk, pt]⟩
      · have pf : par p q = false := by unfold par; rw [decide_eq_false h2, Bool.and_false]
        have al : B.all (par p) = false := List.all_eq_false.mpr ⟨q, hqm, by rw [pf]; decide⟩
        simp only [qE]
        simp [getSlot, cr_idx0, cr_idx1, cE, c1, c2, h1, h2, al]
    · have pf : par p q = false := by unfold par; rw [decide_eq_false h1, Bool.false_and]
      have al : B.all (par p) = false := List.all_eq_false.mpr ⟨q, hqm, by rw [pf]; decide⟩
      simp only [qE]
      simp [getSlot, cr_idx0, cr_idx1, cE, c1, h1, al]
  · obtain ⟨hT, ⟨y_their_mark, y_their_line, y_far, rfl⟩, ha⟩ := h'
    subst hT
    rw [List.take_of_length_le (Nat.le_refl _)] at ha
    simp [ha]

/-! ### lists of places as data; what is taken -/
theorem pp_dat {x : Rat × Rat} : toD (pp x) = some (datW (pp x)) ∧ (datW (pp x)).canLay0 = true ∧ (datW (pp x)).depth ≤ 3 := by
  have e : datW (pp x) = .tuple [.tuple [.int x.1.num, .int x.1.den], .tuple [.int x.2.num, .int x.2.den]] := rfl
  refine ⟨rfl, ?_, ?_⟩
  · rw [e]; simp [PyData.canLay0, PyData.canLayAll0]
  · rw [e]; simp [PyData.depth, PyData.depthAll]
theorem pps_dat {l : List (Rat × Rat)} : toD (.fl (l.map pp)) = some (.list ((l.map pp).map datW)) ∧ SeqAt.shaped (.list ((l.map pp).map datW)) = true := by
  have hds : toDs (l.map pp) = some ((l.map pp).map datW) := SB.toDs_map fun w hw => by obtain ⟨c, _, rfl⟩ := List.mem_map.mp hw; rfl
  refine ⟨?_, shaped_list (n := 3) (fun d hd => ?_) (by decide)⟩
  · unfold toD
    rw [hds]
  · obtain ⟨w, hw, rfl⟩ := List.mem_map.mp hd
    obtain ⟨r, _, rfl⟩ := List.mem_map.mp hw
    exact pp_dat.2
theorem ne_nilP {l : List (Rat × Rat)} {S : Hm} : fNe (.fl (l.map pp)) (.fl []) S = .ok (.bl (!l.isEmpty)) S := by
  have h2 : toD (deref S (.fl [])) = some (.list []) := rfl
  have e := fNe_data (S := S) (x := .fl (l.map pp)) (y := .fl []) pps_dat.1 h2 pps_dat.2 (by decide +kernel)
  rw [e]
  cases l with
  | nil => rfl
  | cons a l => rfl
def ahd (p : Bg) : List Bg → List (Rat × Rat) := fun l => (l.filter fun q => decide (¬ crs p q = 0)).map (mt p)
def fnd (bs : List Bg) (i : Nat) : List (Rat × Rat) := (bs.zipIdx.take i).flatMap fun x => ahd x.1 (bs.drop (x.2 + 1))
def Meets (bs : List Bg) (x : Rat × Rat) : Prop := ∃ (i j : Nat) (p q : Bg), i < j ∧ bs[i]? = some p ∧ bs[j]? = some q ∧ crs p q ≠ 0 ∧ mt p q = x
theorem fnd_succ {bs : List Bg} {i : Nat} {x : Bg × Nat} (h : bs.zipIdx[i]? = some x) : fnd bs (i + 1) = fnd bs i ++ ahd x.1 (bs.drop (x.2 + 1)) := by
  unfold fnd
  rw [List.take_add_one, h, List.flatMap_append]
  simp
theorem zip_at {bs : List Bg} {i : Nat} {x : Bg × Nat} (h : bs.zipIdx[i]? = some x) : bs[i]? = some x.1 ∧ x.2 = i := by
  rw [List.getElem?_zipIdx] at h
  cases h2 : bs[i]? with
  | none => rw [h2] at h; cases h
  | some p =>
    rw [h2] at h
    simp only [Option.map_some, Option.some.injEq] at h
    subst h
    exact ⟨rfl, by simp⟩
theorem ahd_len {p : Bg} {l : List Bg} : (ahd p l).length ≤ l.length := by
  unfold ahd
  rw [List.length_map]
  exact List.length_filter_le _ _
theorem fnd_len {bs : List Bg} : ∀ {i : Nat}, (fnd bs i).length ≤ i * bs.length
  | 0 => by simp [fnd]
  | i + 1 => by
    cases h : bs.zipIdx[i]? with
    | none =>
      have : fnd bs (i + 1) = fnd bs i := by unfold fnd; rw [List.take_add_one, h]; simp
      rw [this]
      exact Nat.le_trans fnd_len (Nat.mul_le_mul_right _ (Nat.le_succ _))
    | some x =>
      rw [fnd_succ h, List.length_append, Nat.succ_mul]
      have h1 := ahd_len (p := x.1) (l := bs.drop (x.2 + 1))
      rw [List.length_drop] at h1
      have := fnd_len (bs := bs) (i := i)
      omega
theorem fnd_mem {bs : List Bg} {x : Rat × Rat} : x ∈ fnd bs bs.length ↔ Meets bs x := by
  unfold fnd
  rw [List.take_of_length_le (by rw [List.length_zipIdx]; exact Nat.le_refl _)]
  simp only [List.mem_flatMap]
  unfold ahd Meets
  constructor
  · rintro ⟨y, hy, hx⟩
    obtain ⟨q, hq, rfl⟩ := List.mem_map.mp hx
    obtain ⟨hq, hc⟩ := List.mem_filter.mp hq
    obtain ⟨i, hi⟩ := List.mem_iff_getElem?.mp hy
    obtain ⟨h1, h2⟩ := zip_at hi
    obtain ⟨j, hj⟩ := List.mem_iff_getElem?.mp hq
    rw [List.getElem?_drop] at hj
    exact ⟨i, y.2 + 1 + j, y.1, q, by omega, h1, hj, of_decide_eq_true hc, rfl⟩
  · rintro ⟨i, j, p, q, hij, hp, hq, hc, rfl⟩
    refine ⟨(p, i), List.mem_iff_getElem?.mpr ⟨i, by rw [List.getElem?_zipIdx, hp]; simp⟩, List.mem_map.mpr ⟨q, List.mem_filter.mpr ⟨List.mem_iff_getElem?.mpr ⟨j - (i + 1), ?_⟩, decide_eq_true hc⟩, rfl⟩⟩
    rw [List.getElem?_drop, ← hq]
    congr 1
    show i + 1 + (j - (i + 1)) = j
    omega
def wd (bs : List Bg) : List (Rat × Rat) → Bool
  | [x] => bs.all fun p => decide (0 < see x p)
  | _ => false
def tkn (bs : List Bg) (P : List (Rat × Rat)) : W := if wd bs P = true then .obj "Fix" ["spot"] [pp (P.headD (0, 0))] else .obj "Spread" ["places"] [.fl (P.map pp)]
def rows (bs : List Bg) : Prop := True
theorem fnd_zq {bs : List Bg} (h : ∀ q ∈ bs, BOk q) : ∀ x ∈ fnd bs bs.length, zq 100 x.1 ∧ zq 100 x.2 := fun x hx => by
  obtain ⟨i, j, p, q, _, hp, hq, _, rfl⟩ := fnd_mem.mp hx
  exact (mt_zq (h _ (List.mem_of_getElem? hp)) (h _ (List.mem_of_getElem? hq))).2
theorem fix_ok {x : W} {S : Hm} : m_Fix_init [x] S = .ok (["spot"], [x]) S := by
  unfold m_Fix_init b_Fix_init
  rw [ev_init]
  refine Sat.eq ?_
  have k1 : putKV "spot" x [] [] = ((["spot"] : List Str), [x]) := rfl
  simp [getSlot, startM, kSetF, k1]
  try exact ⟨rfl, rfl⟩
theorem spread_ok {l : List W} {S : Hm} : m_Spread_init [.fl l] S = .ok (["places"], [.fl l]) S := by
  unfold m_Spread_init b_Spread_init
  rw [ev_init]
  refine Sat.eq ?_
  have k1 : putKV "places" (.fl l) [] [] = ((["places"] : List Str), [.fl l]) := rfl
  simp [getSlot, startM, kSetF, k1]
  try exact ⟨rfl, rfl⟩
theorem taken_ok {bs : List Bg} {t : Bool} {S : Hm} (h : ∀ q ∈ bs, BOk q) (h2 : 2 ≤ bs.length) (h5 : bs.length ≤ 5) :
    Sat (m_taken [wr t (bs.map bW)] S) fun w S' => @Hd' ⟨Keep S S' ∧ if oneL bs = true then w = .obj "Along" [] [] else ∃ P : List (Rat × Rat), P.Pairwise lexlt ∧ (∀ x, x ∈ P ↔ Meets bs x) ∧ w = tkn bs P⟩ := by
  have ls : bs.length ≤ sizeLine := by rw [sizeLine_eq]; omega
  have lL : fLen [wr t (bs.map bW)] S = .ok (.int bs.length) S := by rw [wr_len, List.length_map]
  have k2 : (2 : Int) ≤ (bs.length : Int) := by omega
  have k10 : (bs.length : Int) ≤ 10 := by omega
  have cb := Sat.compAll (e := bW) (tg := tgName 4) (el := eCallD m_is_bearing [] (aCons (eVar 4) aNil)) (σ := [some (.val (wr t (bs.map bW))), none, none, none, none, none]) (S := S) (f := fun _ => W.bl true) bs fun q hq => by
    simp [getSlot, is_bearing_ok (h q hq)]
  have al := fAll_of (l := bs) (p := fun _ => true) (S := S)
  rw [List.all_eq_true.mpr (fun _ _ => rfl)] at al
  have one : m_are_one_line [wr t (bs.map bW)] S = .ok (.bl (oneL bs)) S := by
    cases bs with
    | nil => simp at h2
    | cons p l => exact are_one_line_ok h
  unfold m_taken b_taken
  rw [ev_def]
  show @Sat' _ ((sSeq _ _ [some (.val (wr t (bs.map bW))), none, none, none, none, none] S).bind kDef) ⟨_⟩
  simp [getSlot, wr_isi, lL, k2, k10, wr_it, ls, wipeM, cb, al, one]
  by_cases ho : oneL bs = true
  · simp [ho]
    exact ⟨.refl _, by rw [if_pos ho]⟩
  · have ho : oneL bs = false := by cases hh : oneL bs; · rfl
                                    · exact absurd hh ho
    simp [getSlot, ho, wr_en, enumB]
    refine Sat.forMap (fun i σ T => @Hd' ⟨S = T ∧ (∃ (y_places y_at y_one y_other : Option Sv), σ = [some (.val (wr t (bs.map bW))), some (.own (.lst ((fnd bs i).map pp))), y_places, y_at, y_one, y_other])⟩) ⟨rfl, _, _, _, _, rfl⟩ (fun i x σ T hx h' => ?_) (fun σ T h' => ?_)
    · obtain ⟨hT, y_places, y_at, y_one, y_other, rfl⟩ := h'
      subst hT
      obtain ⟨hp, hi⟩ := zip_at hx
      obtain ⟨p, i'⟩ := x
      simp only at hp hi
      subst hi
      have op := h p (List.mem_of_getElem? hp)
      have cm := Sat.compMap (e := bW) (tg := tgName 5) (cd := tVal (eBin fNe (eCallD m_cross [] (aCons (eBin fIdx (eVar 4) (eC (.int 1))) (aCons (eBin fIdx (eVar 5) (eC (.int 1))) aNil))) (eC (.int 0)))) (el := eCallD m_meeting [] (aCons (eVar 4) (aCons (eVar 5) aNil)))
        (σ := [some (.val (wr t (bs.map bW))), some (.own (.lst ((fnd bs i').map pp))), y_places, some (.val (.int i')), some (.val (bW p)), none]) (S := S) (p := fun q => decide (¬ crs p q = 0)) (f := fun q => pp (mt p q)) (bs.drop (i' + 1)) fun q hq => by
        have oq := h q (List.mem_of_mem_drop hq)
        have c1 := cross_ok (S := S) op.ln.1 op.ln.2.1 oq.ln.1 oq.ln.2.1
        have e1 : cx p.c p.d q.c q.d = crs p q := rfl
        rw [e1] at c1
        simp [getSlot, bW1, c1]
        intro hc
        simp [meeting_ok op oq hc]
      have cd : cutG (bs.map bW) (some ((i' : Int) + 1)) none = (bs.drop (i' + 1)).map bW := by
        have := cutDrop (bs.map bW) (i' + 1)
        rw [List.map_drop, ← this]
        rfl
      rw [List.map_drop] at cd cm
      have fl := fnd_len (bs := bs) (i := i')
      have ln := ahd_len (p := p) (l := bs.drop (i' + 1))
      rw [List.length_drop] at ln
      have hb : i' * bs.length ≤ 4 * 5 := Nat.mul_le_mul (by have := (List.getElem?_eq_some_iff.mp hp).1; omega) h5
      have cz : ((fnd bs i').map pp).length + ((ahd p (bs.drop (i' + 1))).map pp).length ≤ sizeLine := by rw [sizeLine_eq, List.length_map, List.length_map]; omega
      have fe : (List.filter (fun q => decide (¬ crs p q = 0)) (bs.drop (i' + 1))).map (fun q => pp (mt p q)) = (ahd p (bs.drop (i' + 1))).map pp := by unfold ahd; rw [List.map_map]; rfl
      rw [fe] at cm
      have fs := fnd_succ hx
      have z1 : bs.length ≤ sizeLine + (i' + 1) := by omega
      simp [getSlot, wr_cut, wr_it, cd, wipeM, z1, cm]
      simp only [List.length_map] at cz
      simp [kExt, getOwn, cz]
      exact ⟨rfl, ⟨_, _, _, _, by rw [fs, List.map_append]⟩⟩
    · obtain ⟨hT, y_places, y_at, y_one, y_other, rfl⟩ := h'
      subst hT
      rw [List.length_zipIdx]
      obtain ⟨P, S1, hk, pw, mem, kp⟩ : ∃ (P : List (Rat × Rat)) (S1 : Hm), kIf (eCallD m_places_in_order [] (aCons (eVar 1) aNil)) (eFrz (lDisp aNil)) [some (.val (wr t (bs.map bW))), some (.val (.fl ((fnd bs bs.length).map pp))), y_places, y_at, y_one, y_other] (!(fnd bs bs.length).isEmpty) S = .ok (.fl (P.map pp)) S1 ∧ P.Pairwise lexlt ∧ (∀ x, x ∈ P ↔ Meets bs x) ∧ Keep S S1 := by
        cases he : (fnd bs bs.length).isEmpty with
        | true =>
          refine ⟨[], S, rfl, .nil, fun x => ?_, .refl _⟩
          rw [← fnd_mem, List.isEmpty_iff.mp he]
        | false =>
          have fl := fnd_len (bs := bs) (i := bs.length)
          have hb : bs.length * bs.length ≤ 5 * 5 := Nat.mul_le_mul h5 h5
          obtain ⟨w, S1, e, P, rfl, pw, mem, kp⟩ := Sat.get (places_in_order_ok (S := S) (fnd_zq h) (by omega))
          refine ⟨P, S1, ?_, pw, fun x => by rw [mem, fnd_mem], kp⟩
          refine Sat.eq ?_
          simp [getSlot, e]
      have kS : ∀ x ∈ P, zq 100 x.1 ∧ zq 100 x.2 := fun x hx => fnd_zq h x (fnd_mem.mpr ((mem x).mp hx))
      simp [getSlot, getOwn, ev_frzG, ne_nilP, hk]
      by_cases h1 : P.length = 1
      · obtain ⟨x, rfl⟩ := List.length_eq_one_iff.mp h1
        have a0 : atI [pp x] 0 = some (pp x) := o_at0
        have zx := kS x (List.mem_singleton.mpr rfl)
        have cm := Sat.compAll (e := bW) (tg := tgName 4) (el := eCallD m_sees [] (aCons (eBin fIdx (eVar 2) (eC (.int 0))) (aCons (eVar 4) aNil))) (σ := [some (.val (wr t (bs.map bW))), some (.val (.fl ((fnd bs bs.length).map pp))), some (.val (.fl [pp x])), y_at, none, y_other]) (S := S1) (f := fun p => W.bl (decide (0 < see x p))) bs fun q hq => by
          simp [getSlot, a0, sees_ok zx (h q hq)]
        have al := fAll_of (l := bs) (p := fun p => decide (0 < see x p)) (S := S1)
        simp [getSlot, wr_it, ls, wipeM, cm, al, a0]
        cases ha : bs.all (fun p => decide (0 < see x p)) with
        | true =>
          simp [getSlot, a0, fix_ok]
          refine ⟨kp, ?_⟩
          rw [if_neg (by rw [ho]; exact Bool.false_ne_true)]
          exact ⟨[x], pw, mem, by have hw : wd bs [x] = _ := ha; unfold tkn; rw [hw]; rfl⟩
        | false =>
          simp [getSlot, spread_ok (l := [pp x])]
          refine ⟨kp, ?_⟩
          rw [if_neg (by rw [ho]; exact Bool.false_ne_true)]
          exact ⟨[x], pw, mem, by have hw : wd bs [x] = _ := ha; unfold tkn; rw [hw]; rfl⟩
      · have l1 : ¬ ((P.length : Int) = 1) := by omega
        have w0 : wd bs P = false := by
          unfold wd
          split
          · exact absurd rfl h1
          · rfl
        simp [getSlot, l1, spread_ok]
        refine ⟨kp, ?_⟩
        rw [if_neg (by rw [ho]; exact Bool.false_ne_true)]
        exact ⟨P, pw, mem, by unfold tkn; rw [w0, if_neg Bool.false_ne_true]⟩

/-! ### plain facts of places and lines -/
theorem eqv_pr (a b : Rat) : PyData.eqv (.tuple [.int a.num, .int a.den]) (.tuple [.int b.num, .int b.den]) = decide (a = b) := by
  rw [Bool.eq_iff_iff]
  simp only [PyData.eqv, PyData.eqvAll, Bool.and_eq_true, beq_iff_eq, Bool.and_true, decide_eq_true_eq]
  constructor
  · rintro ⟨h1, h2⟩
    exact Rat.ext h1 (by exact_mod_cast h2)
  · rintro rfl
    exact ⟨rfl, rfl⟩
theorem eqv_pp (x y : Rat × Rat) : PyData.eqv (datW (pp x)) (datW (pp y)) = decide (x = y) := by
  have e : PyData.eqv (datW (pp x)) (datW (pp y)) = (PyData.eqv (.tuple [.int x.1.num, .int x.1.den]) (.tuple [.int y.1.num, .int y.1.den]) && (PyData.eqv (.tuple [.int x.2.num, .int x.2.den]) (.tuple [.int y.2.num, .int y.2.den]) && true)) := by
    show PyData.eqv (.tuple [.tuple [.int x.1.num, .int x.1.den], .tuple [.int x.2.num, .int x.2.den]]) (.tuple [.tuple [.int y.1.num, .int y.1.den], .tuple [.int y.2.num, .int y.2.den]]) = _
    conv => lhs; unfold PyData.eqv
    simp only [PyData.eqvAll]
  rw [e, eqv_pr, eqv_pr, Bool.and_true, ← Bool.decide_and]
  exact decide_eq_decide.mpr ⟨fun h => Prod.ext h.1 h.2, fun h => by rw [h]; exact ⟨rfl, rfl⟩⟩
theorem pp_sh {x : Rat × Rat} : SeqAt.shaped (datW (pp x)) = true := by
  unfold SeqAt.shaped
  have h := pp_dat (x := x)
  simp [h.2.1]
  have := h.2.2
  omega
theorem eq_prs {a b : Rat} {S : Hm} : fEq (pr a) (pr b) S = .ok (.bl (decide (a = b))) S := by
  have := fEq_data (S := S) (x := pr a) (y := pr b) (d := .tuple [.int a.num, .int a.den]) (d2 := .tuple [.int b.num, .int b.den]) rfl rfl (shaped_ints [a.num, (a.den : Int)]).2 (shaped_ints [b.num, (b.den : Int)]).2
  rw [this, eqv_pr]
theorem ne_pps {x y : Rat × Rat} {S : Hm} : fNe (pp x) (pp y) S = .ok (.bl (!decide (x = y))) S := by
  have := fNe_data (S := S) (x := pp x) (y := pp y) (d := datW (pp x)) (d2 := datW (pp y)) rfl rfl pp_sh pp_sh
  rw [this, eqv_pp]
theorem notIn_pp {x : Rat × Rat} {l : List (Rat × Rat)} {S : Hm} : fNotIn (pp x) (.fl (l.map pp)) S = .ok (.bl (!decide (x ∈ l))) S := by
  have e : inW S (pp x) (.fl (l.map pp)) = inD S (pp x) (.fl (l.map pp)) := rfl
  have h1 : toD (deref S (pp x)) = some (datW (pp x)) := rfl
  have h2 : toD (deref S (.fl (l.map pp))) = some (.list ((l.map pp).map datW)) := pps_dat.1
  unfold fNotIn
  rw [e]
  unfold inD
  rw [h1, h2]
  simp only [pp_sh, pps_dat.2, Bool.and_self, if_true]
  congr 3
  rw [List.map_map, List.any_map, Bool.eq_iff_iff, List.any_eq_true, decide_eq_true_eq]
  constructor
  · rintro ⟨z, hz, h⟩
    have h : PyData.eqv (datW (pp z)) (datW (pp x)) = true := h
    rw [eqv_pp, decide_eq_true_eq] at h
    exact h ▸ hz
  · intro h
    exact ⟨x, h, by show PyData.eqv (datW (pp x)) (datW (pp x)) = true; rw [eqv_pp]; exact decide_eq_true rfl⟩
/-! ### lex -/
theorem lex_irr {x : Rat × Rat} : ¬ lexlt x x := by
  unfold lexlt
  rintro (h | ⟨_, h⟩)
  · exact Rat.lt_irrefl h
  · exact Rat.lt_irrefl h
theorem lex_asym {x y : Rat × Rat} (h : lexlt x y) (h2 : lexlt y x) : False := by
  unfold lexlt at *
  grind
theorem lex_tri {x y : Rat × Rat} (h : ¬ lexlt x y) (h2 : x ≠ y) : lexlt y x := by
  unfold lexlt at *
  have : x.1 = y.1 → x.2 ≠ y.2 := fun a b => h2 (Prod.ext a b)
  grind
theorem lex_tr {x y z : Rat × Rat} (h : lexlt x y) (h2 : lexlt y z) : lexlt x z := by
  unfold lexlt at *
  grind
theorem lex_tr' {x y z : Rat × Rat} (h : lexlt x y) (h2 : ¬ lexlt z y) : ¬ lexlt z x := fun h3 => h2 (lex_tr h3 h)
theorem uniq : ∀ {l m : List (Rat × Rat)}, l.Pairwise lexlt → m.Pairwise lexlt → (∀ x, x ∈ l ↔ x ∈ m) → l = m
  | [], [], _, _, _ => rfl
  | [], b :: m, _, _, h => by have := (h b).mpr List.mem_cons_self; cases this
  | a :: l, [], _, _, h => by have := (h a).mp List.mem_cons_self; cases this
  | a :: l, b :: m, h1, h2, h => by
    obtain ⟨p1, p2⟩ := List.pairwise_cons.mp h1
    obtain ⟨q1, q2⟩ := List.pairwise_cons.mp h2
    have ab : a = b := by
      rcases List.mem_cons.mp ((h a).mp List.mem_cons_self) with e | e
      · exact e
      · rcases List.mem_cons.mp ((h b).mpr List.mem_cons_self) with e' | e'
        · exact e'.symm
        · exact absurd (q1 a e) fun z => lex_asym z (p1 b e')
    subst ab
    rw [uniq p2 q2 fun x => ⟨fun hx => ?_, fun hx => ?_⟩]
    · rcases List.mem_cons.mp ((h x).mp (List.mem_cons_of_mem _ hx)) with e | e
      · exact absurd (e ▸ p1 x hx) lex_irr
      · exact e
    · rcases List.mem_cons.mp ((h x).mpr (List.mem_cons_of_mem _ hx)) with e | e
      · exact absurd (e ▸ q1 x hx) lex_irr
      · exact e
/-! ### all on one line -/
theorem par_iff {p q : Bg} : par p q = true ↔ crs p q = 0 ∧ cfar p q p.c p.d = 0 := by
  unfold par
  rw [Bool.and_eq_true, decide_eq_true_eq, decide_eq_true_eq]
theorem par_refl (p : Bg) : par p p = true := by
  rw [par_iff]
  unfold crs cfar cx
  constructor <;> grind
theorem par_tr {p q r : Bg} (hp : BOk p) (h1 : par p q = true) (h2 : par p r = true) : par q r = true := by
  rw [par_iff] at *
  obtain ⟨a1, a2⟩ := h1
  obtain ⟨b1, b2⟩ := h2
  unfold crs cfar cx at *
  have z : ∀ x : Int, p.c * x = 0 → p.d * x = 0 → x = 0 := fun x h1 h2 => by
    rcases Int.mul_eq_zero.mp h1 with e | e
    · rcases Int.mul_eq_zero.mp h2 with e' | e'
      · exact absurd ⟨e, e'⟩ hp.nz
      · exact e'
    · exact e
  constructor
  · exact z _ (by grind) (by grind)
  · exact z _ (by grind) (by grind)
def AllPar (bs : List Bg) : Prop := ∀ p ∈ bs, ∀ q ∈ bs, par p q = true
theorem oneL_iff {bs : List Bg} (h : ∀ q ∈ bs, BOk q) : oneL bs = true ↔ AllPar bs := by
  cases bs with
  | nil => exact ⟨fun _ p hp => absurd hp List.not_mem_nil, fun _ => rfl⟩
  | cons p l =>
    show (p :: l).all (par p) = true ↔ _
    rw [List.all_eq_true]
    constructor
    · intro hh a ha b hb
      exact par_tr (h p List.mem_cons_self) (hh a ha) (hh b hb)
    · intro hh q hq
      exact hh p List.mem_cons_self q hq
def alo (bs : List Bg) (i : Nat) : Bool := (bs.zipIdx.take i).all fun x => (bs.drop (x.2 + 1)).all (par x.1)
theorem alo_succ {bs : List Bg} {i : Nat} {x : Bg × Nat} (h : bs.zipIdx[i]? = some x) : alo bs (i + 1) = (alo bs i && (bs.drop (x.2 + 1)).all (par x.1)) := by
  unfold alo
  rw [List.take_add_one, h, List.all_append]
  simp
theorem alo_iff {bs : List Bg} (h : ∀ q ∈ bs, BOk q) : alo bs bs.length = true ↔ AllPar bs := by
  unfold alo
  rw [List.take_of_length_le (by rw [List.length_zipIdx]; exact Nat.le_refl _), List.all_eq_true]
  have key : (∀ x ∈ bs.zipIdx, (bs.drop (x.2 + 1)).all (par x.1) = true) ↔ ∀ (i j : Nat) (p q : Bg), i < j → bs[i]? = some p → bs[j]? = some q → par p q = true := by
    constructor
    · intro hh i j p q hij hp hq
      have := hh (p, i) (List.mem_iff_getElem?.mpr ⟨i, by rw [List.getElem?_zipIdx, hp]; simp⟩)
      rw [List.all_eq_true] at this
      refine this q (List.mem_iff_getElem?.mpr ⟨j - (i + 1), ?_⟩)
      rw [List.getElem?_drop, ← hq]
      congr 1
      show i + 1 + (j - (i + 1)) = j
      omega
    · intro hh y hy
      rw [List.all_eq_true]
      intro q hq
      obtain ⟨i, hi⟩ := List.mem_iff_getElem?.mp hy
      obtain ⟨h1, h2⟩ := zip_at hi
      obtain ⟨j, hj⟩ := List.mem_iff_getElem?.mp hq
      rw [List.getElem?_drop] at hj
      exact hh i (y.2 + 1 + j) y.1 q (by omega) h1 hj
  rw [key]
  constructor
  · intro hh p hp q hq
    obtain ⟨i, hi⟩ := List.mem_iff_getElem?.mp hp
    obtain ⟨j, hj⟩ := List.mem_iff_getElem?.mp hq
    rcases Nat.lt_trichotomy i j with hij | hij | hij
    · exact hh i j p q hij hi hj
    · subst hij
      rw [hi] at hj
      cases hj
      exact par_refl p
    · exact par_tr (h q hq) (hh j i q p hij hj hi) (par_refl q)
  · intro hh i j p q _ hi hj
    exact hh p (List.mem_of_getElem? hi) q (List.mem_of_getElem? hj)
theorem AllPar_rev {bs : List Bg} : AllPar bs.reverse ↔ AllPar bs := by
  unfold AllPar
  simp only [List.mem_reverse]
theorem Meets_rev1 {bs : List Bg} {x : Rat × Rat} (h : Meets bs x) : Meets bs.reverse x := by
  obtain ⟨i, j, p, q, hij, hp, hq, hc, rfl⟩ := h
  obtain ⟨h1, h2⟩ := mt_swap hc
  have li := (List.getElem?_eq_some_iff.mp hp).1
  have lj := (List.getElem?_eq_some_iff.mp hq).1
  refine ⟨bs.length - 1 - j, bs.length - 1 - i, q, p, by omega, ?_, ?_, by omega, h1⟩
  · rw [List.getElem?_reverse (by omega), ← hq]
    congr 1
    omega
  · rw [List.getElem?_reverse (by omega), ← hp]
    congr 1
    omega
theorem Meets_rev {bs : List Bg} {x : Rat × Rat} : Meets bs.reverse x ↔ Meets bs x := ⟨fun h => by have := Meets_rev1 h; rwa [List.reverse_reverse] at this, Meets_rev1⟩
theorem wd_rev {bs : List Bg} {P : List (Rat × Rat)} : wd bs.reverse P = wd bs P := by
  unfold wd
  split
  · rw [List.all_reverse]
  · rfl

/-! ### what is due -/
def nW (bs : List Bg) (k : Bool) (P : List (Rat × Rat)) : W := .tup [.str (if k = true then "fix" else "spread"), .fl (P.map pp)]
def st (L : List (Rat × Rat)) (x y : Rat × Rat) : Prop := x ∈ L
theorem law_due_ok {bs : List Bg} {S : Hm} (h : ∀ q ∈ bs, BOk q) (h2 : 2 ≤ bs.length) (h5 : bs.length ≤ 5) :
    Sat (m_law_due [.fl (bs.map bW)] S) fun w S' => @Hd' ⟨S' = S ∧ if oneL bs = true then w = .tup [.str "along", .fl []] else ∃ P : List (Rat × Rat), P.Pairwise lexlt ∧ (∀ x, x ∈ P ↔ Meets bs x) ∧ w = nW bs (wd bs P) P⟩ := by
  have ls : bs.length ≤ sizeLine := by rw [sizeLine_eq]; omega
  have cE : ∀ a b : Int, W.tup [.int a, .int b] = cr a b := fun _ _ => rfl
  unfold m_law_due b_law_due
  rw [ev_def]
  show @Sat' _ ((sSeq _ _ [some (.val (.fl (bs.map bW))), none, none, none, none, none, none, none, none, none, none, none, none, none] S).bind kDef) ⟨_⟩
  simp [getSlot]
  rw [enumB]
  refine Sat.forMap (fun i σ T => @Hd' ⟨S = T ∧ ∃ L : List (Rat × Rat), (∀ x, x ∈ L ↔ x ∈ fnd bs i) ∧ L.length ≤ i * 5 ∧ ∃ (y_found y_at y_one y_other y_least y_mark y_line y_ahead y_side y_far y_place : Option Sv), σ = [some (.val (.fl (bs.map bW))), y_found, some (.val (.fl (L.map pp))), some (.val (.bl (alo bs i))), y_at, y_one, y_other, y_least, y_mark, y_line, y_ahead, y_side, y_far, y_place]⟩) ⟨rfl, [], fun x => by simp [fnd], by simp, _, _, _, _, _, _, _, _, _, _, _, rfl⟩ (fun i x σ T hx h' => ?_) (fun σ T h' => ?_)
  · obtain ⟨hT, L, mL, lL, y_found, y_at, y_one, y_other, y_least, y_mark, y_line, y_ahead, y_side, y_far, y_place, rfl⟩ := h'
    subst hT
    obtain ⟨hp, hi⟩ := zip_at hx
    obtain ⟨p, i'⟩ := x
    simp only at hp hi
    subst hi
    have op := h p (List.mem_of_getElem? hp)
    have ib := (List.getElem?_eq_some_iff.mp hp).1
    have cd : cutG (bs.map bW) (some ((i' : Int) + 1)) none = (bs.drop (i' + 1)).map bW := by
      have := cutDrop (bs.map bW) (i' + 1)
      rw [List.map_drop, ← this]
      rfl
    have z1 : bs.length ≤ sizeLine + (i' + 1) := by omega
    have hB : ∀ q ∈ bs.drop (i' + 1), BOk q := fun q hq => h q (List.mem_of_mem_drop hq)
    have fs := fnd_succ hx
    have as := alo_succ hx
    simp only at fs as
    have lB : (bs.drop (i' + 1)).length ≤ 5 := by rw [List.length_drop]; omega
    generalize hBe : bs.drop (i' + 1) = B at *
    simp [getSlot, cd, wipeM, z1]
    refine Sat.forMap (fun k σ T => @Hd' ⟨S = T ∧ ∃ L : List (Rat × Rat), (∀ x, x ∈ L ↔ x ∈ fnd bs i' ∨ x ∈ ahd p (B.take k)) ∧ L.length ≤ i' * 5 + k ∧ ∃ (y_found y_other y_least y_mark y_line y_ahead y_side y_far y_place : Option Sv), σ = [some (.val (.fl (bs.map bW))), y_found, some (.val (.fl (L.map pp))), some (.val (.bl (alo bs i' && (B.take k).all (par p)))), some (.val (.int i')), some (.val (bW p)), y_other, y_least, y_mark, y_line, y_ahead, y_side, y_far, y_place]⟩) ⟨rfl, L, fun x => by rw [mL]; simp [ahd], by omega, by simp⟩ (fun k q σ T hq h' => ?_) (fun σ T h' => ?_)
    · obtain ⟨hT, L, mL, lL, y_found, y_other, y_least, y_mark, y_line, y_ahead, y_side, y_far, y_place, rfl⟩ := h'
      subst hT
      have oq := hB q (List.mem_of_getElem? hq)
      have c1 := law_cross_ok (S := S) op.ln.1 op.ln.2.1 oq.ln.1 oq.ln.2.1
      have c2 := law_cross_ok (S := S) op.ln.1 op.ln.2.1 (op.far oq).1 (op.far oq).2
      have e1 : cx p.c p.d q.c q.d = crs p q := rfl
      have e2 : cx p.c p.d (q.a - p.a) (q.b - p.b) = - cfar p q p.c p.d := by unfold cfar cx; grind
      rw [e1] at c1
      rw [e2] at c2
      have tk : (B.take (k + 1)).all (par p) = ((B.take k).all (par p) && par p q) := by
        rw [List.take_add_one, hq, List.all_append]
        simp
      have ah : ahd p (B.take (k + 1)) = ahd p (B.take k) ++ if crs p q = 0 then [] else [mt p q] := by
        unfold ahd
        rw [List.take_add_one, hq, List.filter_append, List.map_append]
        by_cases hc : crs p q = 0 <;> simp [hc]
      by_cases hc : crs p q = 0
      · have hpar : par p q = decide (cfar p q p.c p.d = 0) := by unfold par; rw [decide_eq_true hc, Bool.true_and]
        rw [if_pos hc, List.append_nil] at ah
        cases hal : (alo bs i' && (B.take k).all (par p)) with
        | false =>
          simp [getSlot, bW0, bW1, cr_idx0, cr_idx1, cE, c1, hc, hal]
          refine ⟨rfl, L, fun x => by rw [ah, mL], by omega, ?_⟩
          rw [tk, ← Bool.and_assoc, hal]
          exact ⟨_, _, _, _, _, _, _, _, _, rfl⟩
        | true =>
          by_cases h3 : cfar p q p.c p.d = 0
          · simp [getSlot, bW0, bW1, cr_idx0, cr_idx1, cE, c1, c2, hc, hal, h3]
            refine ⟨rfl, L, fun x => by rw [ah, mL], by omega, ?_⟩
            rw [tk, ← Bool.and_assoc, hal, hpar, decide_eq_true h3]
            exact ⟨_, _, _, _, _, _, _, _, _, rfl⟩
          · simp [getSlot, bW0, bW1, cr_idx0, cr_idx1, cE, c1, c2, hc, hal, h3]
            refine ⟨rfl, L, fun x => by rw [ah, mL], by omega, ?_⟩
            rw [tk, ← Bool.and_assoc, hal, hpar, decide_eq_false h3]
            exact ⟨_, _, _, _, _, _, _, _, _, rfl⟩
      · have me := law_meet_ok (S := S) op oq hc
        have hpar : par p q = false := by unfold par; rw [decide_eq_false hc, Bool.false_and]
        rw [if_neg hc] at ah
        rw [hpar, Bool.and_false] at tk
        have kb := (List.getElem?_eq_some_iff.mp hq).1
        have zz : (L.map pp).length + 1 ≤ 16777216 := by rw [List.length_map]; omega
        by_cases hin : mt p q ∈ L
        · have fa : ∀ S, fAdd (.fl (L.map pp)) (.fl []) S = .ok (.fl (L.map pp)) S := fun S => by rw [fAdd_fl (by simp only [List.length_nil]; omega), List.append_nil]
          have mem' : ∀ x, x ∈ L ↔ x ∈ fnd bs i' ∨ x ∈ ahd p (B.take (k + 1)) := fun x => by
            rw [ah, List.mem_append, List.mem_singleton, ← or_assoc, ← mL]
            exact ⟨.inl, fun hh => hh.elim id fun e => e ▸ hin⟩
          cases hal : (alo bs i' && (B.take k).all (par p)) with
          | false =>
            simp [getSlot, bW0, bW1, cr_idx0, cr_idx1, cE, c1, hc, me, notIn_pp, hin, fa, hal]
            refine ⟨rfl, L, mem', by omega, ?_⟩
            rw [tk, Bool.and_false]
            exact ⟨_, _, _, _, _, _, _, _, _, rfl⟩
          | true =>
            simp [getSlot, bW0, bW1, cr_idx0, cr_idx1, cE, c1, hc, me, notIn_pp, hin, fa, hal]
            refine ⟨rfl, L, mem', by omega, ?_⟩
            rw [tk, Bool.and_false]
            exact ⟨_, _, _, _, _, _, _, _, _, rfl⟩
        · have fa : ∀ S, fAdd (.fl (L.map pp)) (.fl [pp (mt p q)]) S = .ok (.fl ((L ++ [mt p q]).map pp)) S := fun S => by rw [fAdd_fl (by simpa using zz), List.map_append]; rfl
          have mem' : ∀ x, x ∈ L ++ [mt p q] ↔ x ∈ fnd bs i' ∨ x ∈ ahd p (B.take (k + 1)) := fun x => by
            rw [ah, List.mem_append, List.mem_append, ← or_assoc, ← mL]
          have len' : (L ++ [mt p q]).length ≤ i' * 5 + (k + 1) := by rw [List.length_append]; simp only [List.length_singleton]; omega
          cases hal : (alo bs i' && (B.take k).all (par p)) with
          | false =>
            simp [getSlot, bW0, bW1, cr_idx0, cr_idx1, cE, c1, hc, me, notIn_pp, hin, fa, hal]
            refine ⟨rfl, L ++ [mt p q], mem', len', ?_⟩
            rw [tk, Bool.and_false, List.map_append]
            exact ⟨_, _, _, _, _, _, _, _, _, rfl⟩
          | true =>
            simp [getSlot, bW0, bW1, cr_idx0, cr_idx1, cE, c1, hc, me, notIn_pp, hin, fa, hal]
            refine ⟨rfl, L ++ [mt p q], mem', len', ?_⟩
            rw [tk, Bool.and_false, List.map_append]
            exact ⟨_, _, _, _, _, _, _, _, _, rfl⟩
    · obtain ⟨hT, L, mL, lL, y_found, y_other, y_least, y_mark, y_line, y_ahead, y_side, y_far, y_place, rfl⟩ := h'
      subst hT
      rw [List.take_of_length_le (Nat.le_refl _)] at mL
      exact ⟨rfl, L, fun x => by rw [mL, fs, List.mem_append], by omega, by rw [as, List.take_of_length_le (Nat.le_refl _)]; exact ⟨_, _, _, _, _, _, _, _, _, _, _, rfl⟩⟩
  · obtain ⟨hT, L, mL, lL, y_found, y_at, y_one, y_other, y_least, y_mark, y_line, y_ahead, y_side, y_far, y_place, rfl⟩ := h'
    subst hT
    rw [List.length_zipIdx] at *
    have aE : alo bs bs.length = oneL bs := by rw [Bool.eq_iff_iff, alo_iff h, oneL_iff h]
    rw [aE] at *
    by_cases ho : oneL bs = true
    · simp [getSlot, ho]
      exact ⟨rfl, by rw [if_pos ho]⟩
    · have ho' : oneL bs = false := by cases hh : oneL bs; · rfl
                                       · exact absurd hh ho
      simp [getSlot, ho']
      have mL0 := mL
      have mL : ∀ x, x ∈ L ↔ Meets bs x := fun x => by rw [mL0, fnd_mem]
      refine Sat.whileI (fun n σ T => @Hd' ⟨T = S ∧ ∃ F L : List (Rat × Rat), F.Pairwise lexlt ∧ (∀ f ∈ F, ∀ l ∈ L, lexlt f l) ∧ (∀ x, x ∈ F ∨ x ∈ L ↔ Meets bs x) ∧ F.length + L.length ≤ 25 ∧ n = L.length ∧ ∃ (y_at y_one y_other y_least y_mark y_line y_ahead y_side y_far y_place : Option Sv), σ = [some (.val (.fl (bs.map bW))), some (.own (.lst (F.map pp))), some (.val (.fl (L.map pp))), some (.val (.bl false)), y_at, y_one, y_other, y_least, y_mark, y_line, y_ahead, y_side, y_far, y_place]⟩) L.length (by omega) ⟨rfl, [], L, .nil, fun f hf => absurd hf List.not_mem_nil, fun x => by rw [← mL]; simp, by simp only [List.length_nil]; omega, rfl, _, _, _, _, _, _, _, _, _, _, rfl⟩ (fun n σ T h' => ?_)
      clear lL; clear mL; clear mL0; clear mL
      clear L
      obtain ⟨hT, F, L, pF, FL, mem, len, hn, y_at, y_one, y_other, y_least, y_mark, y_line, y_ahead, y_side, y_far, y_place, rfl⟩ := h'
      subst hT
      have zL : ∀ x ∈ L, zq 100 x.1 ∧ zq 100 x.2 := fun x hx => fnd_zq h x (fnd_mem.mpr ((mem x).mp (.inr hx)))
      cases hL : L with
      | nil =>
        subst hL
        have nn : fNe (.fl []) (.fl []) T = .ok (.bl false) T := ne_nilP (l := [])
        have memF : ∀ x, x ∈ F ↔ Meets bs x := fun x => by rw [← mem]; simp
        simp [getSlot, nn, getOwn, ev_frzG]
        by_cases hF : F.length = 1
        · obtain ⟨x, rfl⟩ := List.length_eq_one_iff.mp hF
          have xm := (memF x).mp (List.mem_singleton.mpr rfl)
          have zx := fnd_zq h x (fnd_mem.mpr xm)
          have i1 : ((([x] : List (Rat × Rat)).length : Int) = 1) := rfl
          have a0 : atI ([x].map pp) 0 = some (pp x) := o_at0
          simp [getSlot, i1]
          refine Sat.forMap (fun i σ T' => @Hd' ⟨T' = T ∧ (∀ p ∈ bs.take i, 0 < see x p) ∧ ∃ (y_at y_one y_other y_least y_mark y_line y_ahead y_side y_far y_place : Option Sv), σ = [some (.val (.fl (bs.map bW))), some (.val (.fl ([x].map pp))), some (.val (.fl [])), some (.val (.bl false)), y_at, y_one, y_other, y_least, y_mark, y_line, y_ahead, y_side, y_far, y_place]⟩) ⟨rfl, by simp, _, _, _, _, _, _, _, _, _, _, rfl⟩ (fun i p σ T' hp h' => ?_) (fun σ T' h' => ?_)
          · obtain ⟨hT, ap, y_at, y_one, y_other, y_least, y_mark, y_line, y_ahead, y_side, y_far, y_place, rfl⟩ := h'
            subst hT
            have pm := List.mem_of_getElem? hp
            have op := h p pm
            obtain ⟨l1, l2, l3, l4⟩ := op.ln
            have za := (zq_small l3).mono (l := 100) (by decide)
            have zb := (zq_small l4).mono (l := 100) (by decide)
            have d1 := law_sub_ok (S := T') za zx.1 (by decide)
            have d2 := law_sub_ok (S := T') zb zx.2 (by decide)
            have m1 := law_mul_ok (S := T') (zq_small l1) (za.sub zx.1) (by decide)
            have m2 := law_mul_ok (S := T') (zq_small l2) (zb.sub zx.2) (by decide)
            have z0 : zq 1 (0 : Rat) := zq_int (n := 0) (by decide) (by decide)
            have s1 := law_add_ok (S := T') z0 ((zq_small l1).mul (za.sub zx.1)) (by decide)
            rw [Rat.zero_add] at s1
            have s2 := law_add_ok (S := T') ((zq_small l1).mul (za.sub zx.1)) ((zq_small l2).mul (zb.sub zx.2)) (by decide)
            have pc : ∀ n : Int, W.tup [.int n, .int 1] = pr (n : Rat) := fun _ => rfl
            have se : see x p = (p.c : Rat) * (p.a - x.1) + (p.d : Rat) * (p.b - x.2) := by unfold see; grind
            have tk : bs.take (i + 1) = bs.take i ++ [p] := by rw [List.take_add_one, hp]; rfl
            rw [← se] at s2
            have qE : bW p = .tup [cr p.a p.b, cr p.c p.d] := rfl
            have x0 : ∀ S, fIdx (pp x) (.int 0) S = .ok (pr x.1) S := fun _ => rfl
            have x1 : ∀ S, fIdx (pp x) (.int 1) S = .ok (pr x.2) S := fun _ => rfl
            rw [qE]
            simp [getSlot, rg2, forL, cr_idx0, cr_idx1, pc, x0, x1, d1, d2, m1, m2, s1, s2, pr_idx0]
            have np : 0 < (see x p).num ↔ 0 < see x p := by
              have e1 : (see x p).num ≤ 0 ↔ see x p ≤ 0 := by
                have e := Rat.num_nonneg (q := - see x p)
                rw [Rat.neg_num] at e
                constructor
                · intro z
                  have := e.mp (by omega)
                  grind
                · intro z
                  have := e.mpr (by grind)
                  omega
              rw [← Int.not_le, ← Rat.not_le, e1]
            by_cases hs : 0 < see x p
            · have hn : ¬ (see x p).num ≤ 0 := by have := np.mpr hs; omega
              simp [getSlot, hn]
              exact ⟨rfl, fun v hv => by
                rw [tk, List.mem_append, List.mem_singleton] at hv
                rcases hv with hv | rfl
                · exact ap v hv
                · exact hs, _, _, _, _, _, _, _, _, _, _, rfl⟩
            · have hn : (see x p).num ≤ 0 := by
                have : ¬ 0 < (see x p).num := fun z => hs (np.mp z)
                omega
              have hw : wd bs [x] = false := List.all_eq_false.mpr ⟨p, pm, by simpa using hs⟩
              simp [getSlot, hn]
              refine ⟨rfl, ?_⟩
              rw [if_neg ho]
              exact ⟨[x], pF, memF, by unfold nW; rw [hw]; rfl⟩
          · obtain ⟨hT, ap, y_at, y_one, y_other, y_least, y_mark, y_line, y_ahead, y_side, y_far, y_place, rfl⟩ := h'
            subst hT
            rw [List.take_of_length_le (Nat.le_refl _)] at ap
            have hw : wd bs [x] = true := List.all_eq_true.mpr fun p hp => decide_eq_true (ap p hp)
            simp [getSlot]
            refine ⟨rfl, ?_⟩
            rw [if_neg ho]
            exact ⟨[x], pF, memF, by unfold nW; rw [hw]; rfl⟩
        · have i1 : ¬ ((F.length : Int) = 1) := by omega
          have w0 : wd bs F = false := by
            unfold wd
            split
            · exact absurd rfl hF
            · rfl
          simp [getSlot, i1]
          refine ⟨rfl, ?_⟩
          rw [if_neg ho]
          exact ⟨F, pF, memF, by unfold nW; rw [w0]; rfl⟩
      | cons y L' =>
        have a0 : atI (L.map pp) 0 = some (pp y) := by rw [hL, List.map_cons]; exact o_at0
        have ne : fNe (.fl (L.map pp)) (.fl []) T = .ok (.bl true) T := by rw [ne_nilP, hL]; rfl
        have ym : y ∈ L := by rw [hL]; exact List.mem_cons_self
        rw [← hL]
        clear hL
        simp [getSlot, ne, a0]
        refine Sat.forMap (fun i σ T' => @Hd' ⟨T' = T ∧ ∃ z ∈ L, (∀ x ∈ L.take i, ¬ lexlt x z) ∧ ∃ (y_at y_one y_other y_mark y_line y_ahead y_side y_far y_place : Option Sv), σ = [some (.val (.fl (bs.map bW))), some (.own (.lst (F.map pp))), some (.val (.fl (L.map pp))), some (.val (.bl false)), y_at, y_one, y_other, some (.val (pp z)), y_mark, y_line, y_ahead, y_side, y_far, y_place]⟩) ⟨rfl, y, ym, by simp, _, _, _, _, _, _, _, _, _, rfl⟩ (fun i x σ T' hx h' => ?_) (fun σ T' h' => ?_)
        · obtain ⟨hT, z, zm, zl, y_at, y_one, y_other, y_mark, y_line, y_ahead, y_side, y_far, y_place, rfl⟩ := h'
          subst hT
          have xm := List.mem_of_getElem? hx
          have k1 := law_less_ok (S := T') (zL x xm).1 (zL z zm).1 (by decide)
          have k2 := law_less_ok (S := T') (zL x xm).2 (zL z zm).2 (by decide)
          have tk : L.take (i + 1) = L.take i ++ [x] := by rw [List.take_add_one, hx]; rfl
          have stay : ¬ lexlt x z → ∀ v ∈ L.take (i + 1), ¬ lexlt v z := fun hn v hv => by
            rw [tk, List.mem_append, List.mem_singleton] at hv
            rcases hv with hv | rfl
            · exact zl v hv
            · exact hn
          have go : lexlt x z → ∀ v ∈ L.take (i + 1), ¬ lexlt v x := fun hn v hv => by
            rw [tk, List.mem_append, List.mem_singleton] at hv
            rcases hv with hv | rfl
            · exact lex_tr' hn (zl v hv)
            · exact lex_irr
          have pe : ∀ v : Rat × Rat, pp v = pt v.1 v.2 := fun _ => rfl
          simp only [pe]
          by_cases h1 : x.1 < z.1
          · simp [getSlot, pt_idx0, pt_idx1, k1, h1]
            exact ⟨rfl, x, xm, go (.inl h1), _, _, _, _, _, _, _, _, _, rfl⟩
          · by_cases h2 : x.1 = z.1
            · have e2 : fEq (pr x.1) (pr z.1) T' = .ok (.bl true) T' := by rw [eq_prs, decide_eq_true h2]
              by_cases h3 : x.2 < z.2
              · simp [getSlot, pt_idx0, pt_idx1, k1, h1, e2, k2, h3]
                exact ⟨rfl, x, xm, go (.inr ⟨h2, h3⟩), _, _, _, _, _, _, _, _, _, rfl⟩
              · simp [getSlot, pt_idx0, pt_idx1, k1, h1, e2, k2, h3]
                exact ⟨rfl, z, zm, stay (by rintro (e | ⟨_, e⟩); exact h1 e; exact h3 e), _, _, _, _, _, _, _, _, _, rfl⟩
            · simp [getSlot, pt_idx0, pt_idx1, k1, h1, eq_prs, h2]
              exact ⟨rfl, z, zm, stay (by rintro (e | ⟨e, _⟩); exact h1 e; exact h2 e), _, _, _, _, _, _, _, _, _, rfl⟩
        · obtain ⟨hT, z, zm, zl, y_at, y_one, y_other, y_mark, y_line, y_ahead, y_side, y_far, y_place, rfl⟩ := h'
          subst hT
          rw [List.take_of_length_le (Nat.le_refl _)] at zl
          have sz : L.length ≤ sizeLine := by rw [sizeLine_eq]; omega
          have sF : F.length < sizeLine := by rw [sizeLine_eq]; omega
          have cm := Sat.compMap (e := pp) (tg := tgName 5) (cd := tVal (eBin fNe (eVar 5) (eVar 7))) (el := eVar 5) (σ := [some (.val (.fl (bs.map bW))), some (.own (.lst (F.map pp ++ [pp z]))), some (.val (.fl (L.map pp))), some (.val (.bl false)), y_at, none, y_other, some (.val (pp z)), y_mark, y_line, y_ahead, y_side, y_far, y_place]) (S := T') (p := fun x => !decide (x = z)) (f := pp) L fun x _ => by
            simp [getSlot, ne_pps]
          simp [getSlot, kApp, getOwn, wipeM, sz, sF, cm]
          have lt : (L.filter fun x => !decide (x = z)).length < n := by
            rw [hn]
            exact List.length_filter_lt_length_iff_exists.mpr ⟨z, zm, by simp⟩
          have mF : ∀ x, x ∈ L.filter (fun x => !decide (x = z)) ↔ x ∈ L ∧ x ≠ z := fun x => by
            rw [List.mem_filter]; simp
          refine ⟨_, lt, rfl, F ++ [z], L.filter fun x => !decide (x = z), ?_, ?_, fun x => ?_, by rw [List.length_append]; simp only [List.length_singleton]; omega, rfl, by rw [List.map_append]; exact ⟨_, _, _, _, _, _, _, _, _, _, rfl⟩⟩
          · rw [List.pairwise_append]
            exact ⟨pF, List.pairwise_singleton _ _, fun a ha b hb => by rw [List.mem_singleton.mp hb]; exact FL a ha z zm⟩
          · intro f hf l hl
            obtain ⟨h1, h2⟩ := (mF l).mp hl
            rcases List.mem_append.mp hf with hf | hf
            · exact FL f hf l h1
            · rw [List.mem_singleton.mp hf]
              exact lex_tri (zl l h1) h2
          · rw [← mem, List.mem_append, List.mem_singleton, mF]
            constructor
            · rintro ((hh | rfl) | hh)
              · exact .inl hh
              · exact .inr zm
              · exact .inr hh.1
            · rintro (hh | hh)
              · exact .inl (.inl hh)
              · by_cases e : x = z
                · exact .inl (.inr e)
                · exact .inr ⟨hh, e⟩

/-! ### the law -/
theorem told_fix {x : W} {S : Hm} : m_law_told [.obj "Fix" ["spot"] [x]] S = .ok (.tup [.str "fix", .fl [x]]) S := by
  have i1 : kIsi [.c "Fix"] (.obj "Fix" ["spot"] [x]) S = .ok (.bl true) S := rfl
  have f1 : fldOf S "spot" (.obj "Fix" ["spot"] [x]) = some x := rfl
  refine Sat.eq ?_
  unfold m_law_told b_law_told
  rw [ev_def]
  show @Sat' _ ((sSeq _ _ [some (.val (.obj "Fix" ["spot"] [x]))] S).bind kDef) ⟨_⟩
  simp [getSlot, i1, f1]
theorem told_spr {x : W} {S : Hm} : m_law_told [.obj "Spread" ["places"] [x]] S = .ok (.tup [.str "spread", x]) S := by
  have i1 : kIsi [.c "Fix"] (.obj "Spread" ["places"] [x]) S = .ok (.bl false) S := by rw [isi_obj]; congr 2
  have i2 : kIsi [.c "Spread"] (.obj "Spread" ["places"] [x]) S = .ok (.bl true) S := rfl
  have f1 : fldOf S "places" (.obj "Spread" ["places"] [x]) = some x := rfl
  refine Sat.eq ?_
  unfold m_law_told b_law_told
  rw [ev_def]
  show @Sat' _ ((sSeq _ _ [some (.val (.obj "Spread" ["places"] [x]))] S).bind kDef) ⟨_⟩
  simp [getSlot, i1, i2, f1]
theorem told_alo {S : Hm} : m_law_told [.obj "Along" [] []] S = .ok (.tup [.str "along", .fl []]) S := by
  have i1 : kIsi [.c "Fix"] (.obj "Along" [] []) S = .ok (.bl false) S := by rw [isi_obj]; congr 2
  have i2 : kIsi [.c "Spread"] (.obj "Along" [] []) S = .ok (.bl false) S := by rw [isi_obj]; congr 2
  have i3 : kIsi [.c "Along"] (.obj "Along" [] []) S = .ok (.bl true) S := rfl
  refine Sat.eq ?_
  unfold m_law_told b_law_told
  rw [ev_def]
  show @Sat' _ ((sSeq _ _ [some (.val (.obj "Along" [] []))] S).bind kDef) ⟨_⟩
  simp [getSlot, i1, i2, i3]
theorem ne_ans {s : Str} {l : List (Rat × Rat)} {S : Hm} (hs : PyData.strOk s = true) : fNe (.tup [.str s, .fl (l.map pp)]) (.tup [.str s, .fl (l.map pp)]) S = .ok (.bl false) S := by
  have hd : ∀ d ∈ (l.map pp).map datW, d.canLay0 = true ∧ d.depth ≤ 3 := fun d hd => by
    obtain ⟨w, hw, rfl⟩ := List.mem_map.mp hd
    obtain ⟨r, _, rfl⟩ := List.mem_map.mp hw
    exact pp_dat.2
  have c1 := canAll fun d h => (hd d h).1
  have c2 := depAll fun d h => (hd d h).2
  refine ne_self (d := .tuple [.str s, .list ((l.map pp).map datW)]) ?_ ?_
  · show toD (.tup [.str s, .fl (l.map pp)]) = _
    have h1 : toD (.fl (l.map pp)) = some (.list ((l.map pp).map datW)) := pps_dat.1
    generalize W.fl (l.map pp) = X at *
    simp only [toD, toDs, h1]
  · generalize (l.map pp).map datW = ds at *
    unfold SeqAt.shaped
    simp [PyData.canLay0, PyData.canLayAll0, PyData.depth, PyData.depthAll, hs, c1]
    omega
def ansW (bs : List Bg) (P : List (Rat × Rat)) : W := if oneL bs = true then .tup [.str "along", .fl []] else nW bs (wd bs P) P
theorem told_taken {bs : List Bg} {P : List (Rat × Rat)} {S : Hm} : m_law_told [tkn bs P] S = .ok (nW bs (wd bs P) P) S := by
  unfold tkn nW
  by_cases hw : wd bs P = true
  · have : ∃ x, P = [x] := by
      unfold wd at hw
      split at hw
      · exact ⟨_, rfl⟩
      · cases hw
    obtain ⟨x, rfl⟩ := this
    rw [if_pos hw, if_pos hw]
    exact told_fix
  · rw [if_neg hw, if_neg hw]
    exact told_spr
/-- whichever way they stand: what is taken is what is due -/
theorem same_ok {bs cs : List Bg} {t : Bool} {S : Hm} {w : W} (hc : cs = bs ∨ cs = bs.reverse) (h : ∀ q ∈ bs, BOk q) (h2 : 2 ≤ bs.length) (h5 : bs.length ≤ 5)
    (hw : if oneL bs = true then w = .tup [.str "along", .fl []] else ∃ P : List (Rat × Rat), P.Pairwise lexlt ∧ (∀ x, x ∈ P ↔ Meets bs x) ∧ w = nW bs (wd bs P) P) :
    Sat (m_taken [wr t (cs.map bW)] S) fun u S' => @Hd' ⟨Keep S S' ∧ m_law_told [u] S' = .ok w S' ∧ ∀ S', fNe w w S' = .ok (.bl false) S'⟩ := by
  have hcs : ∀ q ∈ cs, BOk q := by
    rcases hc with rfl | rfl
    · exact h
    · exact fun q hq => h q (List.mem_reverse.mp hq)
  have hl : cs.length = bs.length := by rcases hc with rfl | rfl <;> simp
  have ho : oneL cs = oneL bs := by
    rcases hc with rfl | rfl
    · rfl
    · rw [Bool.eq_iff_iff, oneL_iff hcs, oneL_iff h, AllPar_rev]
  have hm : ∀ x, Meets cs x ↔ Meets bs x := by
    rcases hc with rfl | rfl
    · exact fun _ => Iff.rfl
    · exact fun _ => Meets_rev
  have hd : ∀ P, wd cs P = wd bs P := by
    rcases hc with rfl | rfl
    · exact fun _ => rfl
    · exact fun _ => wd_rev
  refine Sat.mono (taken_ok (t := t) (S := S) hcs (by omega) (by omega)) fun u S' kq => ?_
  obtain ⟨k, q⟩ := kq
  rw [ho] at q
  by_cases h1 : oneL bs = true
  · rw [if_pos h1] at q hw
    subst q
    subst hw
    exact ⟨k, told_alo, fun S' => ne_ans (l := []) (by decide +kernel)⟩
  · rw [if_neg h1] at q hw
    obtain ⟨P, p1, p2, rfl⟩ := q
    obtain ⟨P', q1, q2, rfl⟩ := hw
    have e : P = P' := uniq p1 q1 fun x => by rw [p2, q2, hm]
    subst e
    refine ⟨k, ?_, fun S' => ne_ans (by split <;> decide +kernel)⟩
    rw [told_taken]
    unfold nW
    rw [hd]

def isLn : W → Bool
  | .tup [.int c, .int d] => decide ((c = 9999 ∧ d = -9998) ∨ (-7 ≤ c ∧ c ≤ 3 ∧ -3 ≤ d ∧ d ≤ 5 ∧ ¬ (c = 0 ∧ d = 0)))
  | _ => false
theorem isLn_ok {x : W} (h : isLn x = true) : ∃ c d, x = cr c d ∧ ((c = 9999 ∧ d = -9998) ∨ (-7 ≤ c ∧ c ≤ 3 ∧ -3 ≤ d ∧ d ≤ 5 ∧ ¬ (c = 0 ∧ d = 0))) := by
  unfold isLn at h
  split at h
  · exact ⟨_, _, rfl, of_decide_eq_true h⟩
  · cases h
theorem rg8 (S : Hm) : kRg1 (.int 8) S = .ok (.seq (rangeL 0 8)) S := rfl
theorem law_sat (ns : List Int) (hs : ScrOk ns) : Sat (m_law [.scr ns] []) fun w _ => w = .bl true := by
  unfold m_law b_law
  rw [ev_def]
  show @Sat' _ ((sSeq _ _ [some (.val (.scr ns)), none, none, none, none, none, none, none, none, none, none, none] []).bind kDef) ⟨_⟩
  simp [getSlot, cut63 hs]
  refine Sat.mono (pool_k (bs := [1000003, 999983, 1000033]) hs (by decide) (by decide)) ?_
  rintro _ S ⟨d, rfl, _, hD, _⟩
  simp [getSlot, rg8]
  refine Sat.forRg (fun i σ S => @Hd' ⟨Dr d S ∧ ∃ (y_turn y_own y_bearings y_at y_due y_some y_line y_far y_mark y_kind : Option Sv), σ = [some (.val (.fl (ns.map W.int))), some (.val (.ref d)), y_turn, y_own, y_bearings, y_at, y_due, y_some, y_line, y_far, y_mark, y_kind]⟩) ⟨hD, _, _, _, _, _, _, _, _, _, _, rfl⟩ (fun i σ S hi h => ?_) (fun σ S h => ?_)
  · obtain ⟨hD, y_turn, y_own, y_bearings, y_at, y_due, y_some, y_line, y_far, y_mark, y_kind, rfl⟩ := h
    have hK := KB.refl d S
    simp [getSlot]
    refine Sat.mono (take_k hD hK (by decide)) ?_; rintro _ S ⟨a, rfl, a0, a1, hD, hK⟩
    simp [getSlot]
    refine Sat.mono (take_k hD hK (by decide)) ?_; rintro _ S ⟨b, rfl, b0, b1, hD, hK⟩
    simp [getSlot]
    refine Sat.mono (take_k hD hK (by decide)) ?_; rintro _ S ⟨n, rfl, n0, n1, hD, hK⟩
    have nE : ∃ m : Nat, n = m ∧ m < 4 := ⟨n.toNat, by omega, by omega⟩
    obtain ⟨m, rfl, hm⟩ := nE
    have rg : ∀ S, kRg1 (.int (2 + (m : Int))) S = .ok (.seq (rangeL 0 (2 + m))) S := fun S => by
      rw [kRg1_of (by exact rangeOk_of (by omega) (by omega))]
      rfl
    simp [getSlot, rg]
    refine Sat.forRg (fun k σ S => @Hd' ⟨Dr d S ∧ ∃ L : List Bg, L.length = k ∧ (∀ q ∈ L, BOk q) ∧ ∃ (y_at y_due y_some y_line y_far y_mark y_kind : Option Sv), σ = [some (.val (.fl (ns.map W.int))), some (.val (.ref d)), some (.val (.int i)), some (.val (cr (a - 100) (b - 100))), some (.own (.lst (L.map bW))), y_at, y_due, y_some, y_line, y_far, y_mark, y_kind]⟩) ⟨hD, [], rfl, by simp, _, _, _, _, _, _, _, rfl⟩ (fun k σ S hk h => ?_) (fun σ S h => ?_)
    · obtain ⟨hD, L, hl, hL, y_at, y_due, y_some, y_line, y_far, y_mark, y_kind, rfl⟩ := h
      have hK := KB.refl d S
      simp [getSlot]
      refine Sat.mono (take_k hD hK (by decide)) ?_; rintro _ S ⟨u, rfl, u0, u1, hD, hK⟩
      simp
      refine Sat.oneOf u0 u1 (p := isLn) (by decide) fun w hw => ?_
      obtain ⟨c, e, rfl, hc⟩ := isLn_ok hw
      simp [getSlot, cr_idx0, cr_idx1]
      refine Sat.mono (P := fun w S' => ∃ f : Int, w = .int f ∧ 0 ≤ f ∧ f < 30 ∧ (¬ c < 9999 → f = 0) ∧ Dr d S') ?_ ?_
      · by_cases h1 : c < 9999
        · simp [getSlot, h1]
          refine Sat.mono (take_k hD hK (by decide)) ?_
          rintro _ S ⟨f, rfl, f0, f1, hD, _⟩
          exact ⟨f, rfl, f0, f1, fun z => absurd h1 z, hD⟩
        · simp [getSlot, h1]
          exact hD
      rintro _ S ⟨f, rfl, f0, f1, fz, hD⟩
      have hK := KB.refl d S
      have hcb : c.natAbs < 2 ^ 20 := by omega
      have heb : e.natAbs < 2 ^ 20 := by omega
      have hfb : f.natAbs < 2 ^ 20 := by omega
      have m1 : mulOk f c = true := by (apply SB.mulOk_of; (repeat' first | assumption | exact bd_lit (by omega) | apply bd_mul | apply bd_add | apply bd_sub | apply bd_neg | apply bd_sq); (repeat' first | assumption | exact bd_lit (by omega) | apply bd_mul | apply bd_add | apply bd_sub | apply bd_neg | apply bd_sq); decide)
      have m2 : mulOk f e = true := by (apply SB.mulOk_of; (repeat' first | assumption | exact bd_lit (by omega) | apply bd_mul | apply bd_add | apply bd_sub | apply bd_neg | apply bd_sq); (repeat' first | assumption | exact bd_lit (by omega) | apply bd_mul | apply bd_add | apply bd_sub | apply bd_neg | apply bd_sq); decide)
      simp [getSlot, cr_idx0, cr_idx1, o_mul, m1, m2]
      refine Sat.mono (take_k hD hK (by decide)) ?_; rintro _ S ⟨v, rfl, v0, v1, hD, hK⟩
      have fb : (-300 ≤ f * c ∧ f * c ≤ 300) ∧ -300 ≤ f * e ∧ f * e ≤ 300 := by
        rcases hc with ⟨h1, h2⟩ | ⟨h1, h2, h3, h4, _⟩
        · have : f = 0 := fz (by omega)
          subst this
          omega
        · have g1 := Int.mul_le_mul_of_nonneg_left h1 f0
          have g2 := Int.mul_le_mul_of_nonneg_left h2 f0
          have g3 := Int.mul_le_mul_of_nonneg_left h3 f0
          have g4 := Int.mul_le_mul_of_nonneg_left h4 f0
          omega
      generalize f * c = fc at *
      generalize f * e = fe at *
      have cE : ∀ a b : Int, W.tup [.int a, .int b] = cr a b := fun _ _ => rfl
      have hz : L.length < sizeLine := by rw [sizeLine_eq]; omega
      have n1 : mulOk 2 c = true := by (apply SB.mulOk_of; (repeat' first | assumption | exact bd_lit (by omega) | apply bd_mul | apply bd_add | apply bd_sub | apply bd_neg | apply bd_sq); (repeat' first | assumption | exact bd_lit (by omega) | apply bd_mul | apply bd_add | apply bd_sub | apply bd_neg | apply bd_sq); decide)
      have n2 : mulOk 2 e = true := by (apply SB.mulOk_of; (repeat' first | assumption | exact bd_lit (by omega) | apply bd_mul | apply bd_add | apply bd_sub | apply bd_neg | apply bd_sq); (repeat' first | assumption | exact bd_lit (by omega) | apply bd_mul | apply bd_add | apply bd_sub | apply bd_neg | apply bd_sq); decide)
      simp [getSlot, cr_idx0, cr_idx1, cE]
      have fin : ∀ q : Bg, BOk q → ∀ x ∈ L ++ [q], BOk x := fun q hq x hx => by
        rcases List.mem_append.mp hx with hx | hx
        · exact hL x hx
        · rw [List.mem_singleton.mp hx]; exact hq
      by_cases k0 : v = 0
      · subst k0
        simp [getSlot, cr_idx0, cr_idx1, cE, kApp, getOwn, hz]
        exact ⟨hD, L ++ [⟨a - 100 + fc + 1, b - 100 + fe, c, e⟩], by simp [hl], fin _ ⟨by simp only; omega, by simp only; omega, by simp only; omega⟩, by rw [List.map_append]; exact ⟨_, _, _, _, _, _, _, rfl⟩⟩
      · by_cases k1 : v = 1
        · subst k1
          simp [getSlot, cr_idx0, cr_idx1, cE, kApp, getOwn, hz]
          exact ⟨hD, L ++ [⟨a - 100 + fc, b - 100 + fe, -c, -e⟩], by simp [hl], fin _ ⟨by simp only; omega, by simp only; omega, by simp only; omega⟩, by rw [List.map_append]; exact ⟨_, _, _, _, _, _, _, rfl⟩⟩
        · by_cases k2 : v = 2
          · subst k2
            by_cases k4 : c ≠ 9999
            · have k3 : (if c < 0 then -c else c) < 99 := by split <;> omega
              simp [getSlot, cr_idx0, cr_idx1, cE, kApp, getOwn, hz, o_abs, k3, o_mul, n1, n2]
              exact ⟨hD, L ++ [⟨a - 100 + fc, b - 100 + fe, 2 * c, 2 * e⟩], by simp [hl], fin _ ⟨by simp only; omega, by simp only; omega, by simp only; omega⟩, by rw [List.map_append]; exact ⟨_, _, _, _, _, _, _, rfl⟩⟩
            · have k3 : ¬ (if c < 0 then -c else c) < 99 := by split <;> omega
              simp [getSlot, cr_idx0, cr_idx1, cE, kApp, getOwn, hz, o_abs, k3]
              exact ⟨hD, L ++ [⟨a - 100 + fc, b - 100 + fe, c, e⟩], by simp [hl], fin _ ⟨by simp only; omega, by simp only; omega, by simp only; omega⟩, by rw [List.map_append]; exact ⟨_, _, _, _, _, _, _, rfl⟩⟩
          · simp [getSlot, cr_idx0, cr_idx1, cE, kApp, getOwn, hz, k0, k1, k2]
            exact ⟨hD, L ++ [⟨a - 100 + fc, b - 100 + fe, c, e⟩], by simp [hl], fin _ ⟨by simp only; omega, by simp only; omega, by simp only; omega⟩, by rw [List.map_append]; exact ⟨_, _, _, _, _, _, _, rfl⟩⟩
    · obtain ⟨hD, L, hl, hL, y_at, y_due, y_some, y_line, y_far, y_mark, y_kind, rfl⟩ := h
      simp [getSlot, ev_frzG, getOwn, o_mod]
      have lb : L.length ≤ sizeLine := by rw [sizeLine_eq]; omega
      refine Sat.mono (P := fun f S' => ∃ L2 : List Bg, L2.length = L.length ∧ (∀ q ∈ L2, BOk q) ∧ S' = S ∧ f = .nx [some (.val (.fl (ns.map W.int))), some (.val (.ref d)), some (.val (.int i)), some (.val (cr (a - 100) (b - 100))), some (.val (.fl (L2.map bW))), y_at, y_due, y_some, y_line, y_far, y_mark, y_kind]) ?_ ?_
      · by_cases h4 : (i : Int).fmod 4 = 0
        · obtain ⟨p, L', rfl⟩ : ∃ p L', L = p :: L' := by
            cases L with
            | nil => simp at hl; omega
            | cons p L' => exact ⟨p, L', rfl⟩
          have op := hL p List.mem_cons_self
          have a0 : atI ((p :: L').map bW) 0 = some (bW p) := by rw [List.map_cons]; exact o_at0
          generalize hB : p :: L' = B at *
          have cm := Sat.compAll (e := bW) (tg := tgTup [tgName 10, tgName 8]) (el := eTup (aCons (eVar 10) (aCons (eBin fIdx (eBin fIdx (eVar 4) (eC (.int 0))) (eC (.int 1))) aNil))) (σ := [some (.val (.fl (ns.map W.int))), some (.val (.ref d)), some (.val (.int i)), some (.val (cr (a - 100) (b - 100))), some (.val (.fl (B.map bW))), y_at, y_due, y_some, none, y_far, none, y_kind]) (S := S) (f := fun q => bW ⟨q.a, q.b, p.c, p.d⟩) B fun q hq => by
            have qE : bW q = .tup [cr q.a q.b, cr q.c q.d] := rfl
            rw [qE]
            simp [getSlot, a0, bW1]
            rfl
          simp [getSlot, h4, lb, wipeM, cm]
          exact ⟨B.map fun q => ⟨q.a, q.b, p.c, p.d⟩, by simp, fun q hq => by
            obtain ⟨q', hq', rfl⟩ := List.mem_map.mp hq
            exact ⟨(hL q' hq').a, op.c, op.nz⟩, by rw [List.map_map]; rfl⟩
        · simp [getSlot, h4]
          exact ⟨L, rfl, hL, rfl⟩
      rintro _ T ⟨L2, l2, hL2, hT, rfl⟩
      rw [hT]
      clear hL lb
      have h2 : 2 ≤ L2.length := by omega
      have h5 : L2.length ≤ 5 := by omega
      obtain ⟨w, S1, e1, hS1, hw⟩ := Sat.get (law_due_ok (S := S) hL2 h2 h5)
      have t1 : wr false (L2.map bW) = .fl (L2.map bW) := rfl
      have t2 : wr true (L2.reverse.map bW) = .tup (L2.map bW).reverse := by rw [List.map_reverse]; rfl
      obtain ⟨u, S2, e2, k2, e3, ne⟩ := Sat.get (same_ok (t := false) (S := S1) (.inl rfl) hL2 h2 h5 hw)
      obtain ⟨u', S3, e4, k3, e5, _⟩ := Sat.get (same_ok (t := true) (S := S2) (.inr rfl) hL2 h2 h5 hw)
      rw [t1] at e2
      rw [t2] at e4
      rw [hS1] at e1 e2
      simp [getSlot, e1, forL, e2, e3, ne, e4, e5]
      exact ⟨(hD.keep (by rw [← hS1]; exact k2)).keep k3, _, _, _, _, _, _, _, _, _, _, rfl⟩
  · obtain ⟨hD, y_turn, y_own, y_bearings, y_at, y_due, y_some, y_line, y_far, y_mark, y_kind, rfl⟩ := h
    simp
theorem law_ok1 (ns : List Int) (hs : ScrOk ns) : ∃ S, m_law [.scr ns] [] = .ok (.bl true) S := Sat.ex (law_sat ns hs)

end Wk
theorem PySem.Challenge.cw_seabridge_k08_whole_bearings_holds : PySem.Challenge.rw_seabridge_k08_whole_bearings.Holds := by
  exact holds_of Wk.law_ok1
