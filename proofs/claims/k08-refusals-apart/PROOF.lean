import PyProof.Rows.All
import Wide.All
import OpenK.AllK
import Wide.FinOn
import PySem.Challenge.RW_glowboard_k08_refusals_apart
import HandS.ForMost
import HandS.ForExc
import HandS.ExcInit
import HandS.Walk
import HandS.WideBits
import HandS.TupAny
import HandS.Deep
import HandS.IsInst
import HandS.Rev
import HandS.Zip
import HandS.SortInts
import HandS.RevRange
import HandS.Small
import HandS.CallSlots
import HandS.Ends
import HandS.EndBits
import HandS.ExcIs
import HandS.ExcField
import HandS.ExcOwn
import HandS.ExcValue
import HandS.HeadHook2
import HandS.HeadEnd
import HandS.Head0
import HandS.Head1
import HandS.Head2
import HandS.Words
import HandS.Defaults
import HandS.Lambda
import HandS.HeadHook4
import KE.KStateDown
set_option Elab.async false
set_option linter.all false
section OfDn
set_option Elab.async false
set_option linter.all false
set_option maxRecDepth 100000
/-! Dn: plain data, a store, and what each construct of a def's body tells over them. -/
namespace Dn
open PySem (Str)
abbrev Key := Sum Int Str

inductive D where
  | non
  | bl (b : Bool)
  | int (i : Int)
  | str (x : Str)
  | tup (xs : List D)
  | lst (xs : List D)
  | dct (kvs : List (Key × D))
  | scr (xs : List Int)
  | loc (n : Nat)
  | obj (C : String) (fs : List (Str × D))
  | exv (C : String) (fs : List (Str × D))

abbrev Fld := List (Str × D)

/-- what stands in the store -/
inductive SO where
  | lst (xs : List D)
  | dct (kvs : List (Key × D))
  | dtt (kvs : List (List Key × D))
  | ins (C : String) (fs : Fld)
  | exn (C : String) (d : Option Nat)
  | xdt (fs : Fld)
  | dead
abbrev Store := List SO

inductive Slot where
  | un
  | val (d : D)
  | own (o : SO)
abbrev Env := List Slot

/-- an expression's value: data, or the list that a slot owns -/
inductive W where
  | d (x : D)
  | own (i : Nat)

inductive Res (α : Type) where
  | ok (a : α) (S : Store)
  | exc (C : String) (fs : Fld) (S : Store)
  | bad

def Res.bind {α β : Type} (r : Res α) (f : α → Store → Res β) : Res β :=
  match r with
  | .ok a S => f a S
  | .exc C fs S => .exc C fs S
  | .bad => .bad
@[simp] theorem bind_ok {α β : Type} (a : α) (S : Store) (f : α → Store → Res β) : (Res.ok a S).bind f = f a S := rfl
@[simp] theorem bind_exc {α β : Type} (C : String) (fs : Fld) (S : Store) (f : α → Store → Res β) : (Res.exc C fs S).bind f = Res.exc C fs S := rfl
@[simp] theorem bind_bad {α β : Type} (f : α → Store → Res β) : (Res.bad : Res α).bind f = Res.bad := rfl

abbrev EX := Env → Store → Res W
abbrev TX := Env → Store → Res Bool
abbrev AX := Env → Store → Res (List W)
abbrev NX := Env → Store → Res (List D)
abbrev Fn := List D → Store → Res D

/-- the items that are walked; a list of the store that must stay as it is meanwhile -/
structure Items where
  xs : List D
  watch : Option Nat := none
abbrev IX := Env → Store → Res Items

inductive Out where
  | nx (ρ : Env) (S : Store)
  | ret (d : D) (S : Store)
  | brk (ρ : Env) (S : Store)
  | ct (ρ : Env) (S : Store)
  | exc (C : String) (fs : Fld) (ρ : Env) (S : Store)
  | bad
abbrev SX := Env → Store → Out

/-! ### values -/
/-- a list, a dict that a slot or the store holds is looked into -/
def look (ρ : Env) (S : Store) : W → Option D
  | .own i => match ρ[i]? with
    | some (.own (.lst xs)) => some (.lst xs)
    | some (.own (.dct kvs)) => some (.dct kvs)
    | _ => none
  | .d (.loc n) => match S[n]? with
    | some (.lst xs) => some (.lst xs)
    | some (.dct kvs) => some (.dct kvs)
    | _ => some (.loc n)
  | .d x => some x
def looks (ρ : Env) (S : Store) : List W → Option (List D)
  | [] => some []
  | w :: ws => (look ρ S w).bind fun d => (looks ρ S ws).bind fun ds => some (d :: ds)

mutual
def D.depth : D → Nat
  | .lst xs | .tup xs => D.depthAll xs + 1
  | _ => 0
def D.depthAll : List D → Nat
  | [] => 0
  | x :: xs => max (D.depth x) (D.depthAll xs)
end
mutual
/-- plain data whose texts are made of code points -/
def D.plain : D → Bool
  | .non | .bl _ | .int _ => true
  | .str x => x.cps.all (· < 0x110000)
  | .lst xs | .tup xs => D.plainAll xs
  | .dct _ | .scr _ | .loc _ | .obj _ _ | .exv _ _ => false
def D.plainAll : List D → Bool
  | [] => true
  | x :: xs => D.plain x && D.plainAll xs
end
def D.eqOk (d : D) : Bool := d.plain && decide (d.depth ≤ 60)
mutual
def eqD : D → D → Bool
  | .non, .non => true
  | .bl a, .bl b => a == b
  | .bl a, .int j => (if a then 1 else 0) == j
  | .int i, .bl b => i == (if b then 1 else 0)
  | .int i, .int j => i == j
  | .str x, .str y => x == y
  | .lst xs, .lst ys => eqAll xs ys
  | .tup xs, .tup ys => eqAll xs ys
  | _, _ => false
def eqAll : List D → List D → Bool
  | [], [] => true
  | x :: xs, y :: ys => eqD x y && eqAll xs ys
  | _, _ => false
end

/-! ### operators -/
def iNot (x : Int) : Int := -x - 1
def iAnd (x y : Int) : Int :=
  match decide (0 ≤ x), decide (0 ≤ y) with
  | true, true => ((x.toNat &&& y.toNat : Nat) : Int)
  | true, false => x - ((x.toNat &&& (iNot y).toNat : Nat) : Int)
  | false, true => y - ((y.toNat &&& (iNot x).toNat : Nat) : Int)
  | false, false => iNot (((iNot x).toNat ||| (iNot y).toNat : Nat) : Int)
def iOr (x y : Int) : Int := iNot (iAnd (iNot x) (iNot y))
def iXor (x y : Int) : Int := iOr x y - iAnd x y

/-- sizes that the machine takes -/
def line : Nat := 16777216
def big : Nat := 2 ^ 2000
def fits (x : Int) : Bool := decide (x.natAbs < 2 ^ 2000)
def mulOk (x y : Int) : Bool := decide (x.natAbs < 2 ^ 64) || decide (y.natAbs < 2 ^ 64) || (fits x && fits y)

def opAdd : D → D → Option D
  | .int x, .int y => some (.int (x + y))
  | .str x, .str y => if x.length + y.length ≤ line then some (.str (x ++ y)) else none
  | .lst x, .lst y => if x.length + y.length ≤ line then some (.lst (x ++ y)) else none
  | .tup x, .tup y => if x.length + y.length ≤ line then some (.tup (x ++ y)) else none
  | _, _ => none
def opSub : D → D → Option D
  | .int x, .int y => some (.int (x - y))
  | _, _ => none
def repL (xs : List D) (k : Nat) : List D := (List.replicate k xs).flatten
def opMul : D → D → Option D
  | .int x, .int y => if mulOk x y then some (.int (x * y)) else none
  | .lst xs, .int k => if k.natAbs < 4611686018427387904 ∧ xs.length * k.toNat ≤ line then some (.lst (repL xs k.toNat)) else none
  | _, _ => none
def opFdiv : D → D → Option D
  | .int x, .int y => if y ≠ 0 ∧ y.natAbs < 1073741824 then some (.int (x.fdiv y)) else none
  | _, _ => none
def opMod : D → D → Option D
  | .int x, .int y => if y ≠ 0 then some (.int (x.fmod y)) else none
  | _, _ => none
def opPow : D → D → Option D
  | .int x, .int y => if 0 ≤ y ∧ y.natAbs ≤ 1000000 ∧ x.natAbs < 2 ^ 64 then some (.int (x ^ y.toNat)) else none
  | _, _ => none
def opShl : D → D → Option D
  | .int x, .int y => if 0 ≤ y ∧ y.natAbs ≤ 1000000 ∧ fits x then some (.int (x * 2 ^ y.toNat)) else none
  | _, _ => none
def opShr : D → D → Option D
  | .int x, .int y => if 0 ≤ y then some (.int (x / 2 ^ y.toNat)) else none
  | _, _ => none
def opAnd : D → D → Option D
  | .int x, .int y => some (.int (iAnd x y))
  | _, _ => none
def opOr : D → D → Option D
  | .int x, .int y => some (.int (iOr x y))
  | _, _ => none
def opXor : D → D → Option D
  | .int x, .int y => some (.int (iXor x y))
  | _, _ => none
def opNeg : D → Option D
  | .int x => some (.int (-x))
  | _ => none
def opInv : D → Option D
  | .int x => some (.int (iNot x))
  | _ => none
def opEq (x y : D) : Option D := if x.eqOk && y.eqOk then some (.bl (eqD x y)) else none
def opNe (x y : D) : Option D := if x.eqOk && y.eqOk then some (.bl (!eqD x y)) else none
def opLt : D → D → Option D
  | .int x, .int y => some (.bl (decide (x < y)))
  | _, _ => none
def opLe : D → D → Option D
  | .int x, .int y => some (.bl (decide (x ≤ y)))
  | _, _ => none
def opGt : D → D → Option D
  | .int x, .int y => some (.bl (decide (y < x)))
  | _, _ => none
def opGe : D → D → Option D
  | .int x, .int y => some (.bl (decide (y ≤ x)))
  | _, _ => none
def isNone : D → Bool
  | .non => true
  | _ => false
/-- is None: the right side is None -/
def opIs (x y : D) : Option D := if isNone y then some (.bl (isNone x)) else none
def opIsNot (x y : D) : Option D := if isNone y then some (.bl (!isNone x)) else none
def keyOf : D → Option Key
  | .int i => some (.inl i)
  | .str x => some (.inr x)
  | _ => none
def getK (kvs : List (Key × D)) (k : Key) : Option D := (kvs.find? fun kv => decide (kv.1 = k)).map (·.2)
def setK (kvs : List (Key × D)) (k : Key) (v : D) : List (Key × D) :=
  if (kvs.any fun kv => decide (kv.1 = k)) = true then kvs.map (fun kv => if kv.1 = k then (kv.1, v) else kv) else kvs ++ [(k, v)]
def flat : D → Bool
  | .non | .bl _ | .int _ | .str _ => true
  | _ => false
def sign1 : D → Option Nat
  | .str x => if x.cps.size = 1 then x.cps[0]? else none
  | _ => none
def inD : D → D → Option Bool
  | x, .lst ys => if x.eqOk && (D.lst ys).eqOk then some (ys.any fun z => eqD z x) else none
  | x, .tup ys => if flat x && ys.all flat then some (ys.any fun z => eqD z x) else none
  | x, .str s => (sign1 x).map fun c => decide (c ∈ s.cps.toList)
  | x, .dct kvs => (keyOf x).map fun k => (getK kvs k).isSome
  | _, _ => none
def opIn (x y : D) : Option D := (inD x y).map .bl
def opNotIn (x y : D) : Option D := (inD x y).map fun b => .bl (!b)

def ixN (n : Nat) (i : Int) : Option Nat := if 0 ≤ i then (if i < n then some i.toNat else none) else if -(n : Int) ≤ i then some (i + n).toNat else none
def atI {α : Type} (xs : List α) (i : Int) : Option α := (ixN xs.length i).bind fun j => xs[j]?
def opIx : D → D → Option D
  | .lst xs, .int i => atI xs i
  | .tup xs, .int i => atI xs i
  | .str s, .int i => if s.length ≤ line then (atI s.cps.toList i).map fun c => .str ⟨#[c]⟩ else none
  | .dct kvs, .int i => getK kvs (.inl i)
  | .dct kvs, .str x => getK kvs (.inr x)
  | .scr xs, .int i => (atI xs i).map .int
  | _, _ => none
def sIx (n d : Nat) : Option Int → Nat
  | none => d
  | some v => if v < 0 then (v + (n : Int)).toNat else min v.toNat n
def cutL {α : Type} (xs : List α) (lo hi : Option Int) : List α := (xs.drop (sIx xs.length 0 lo)).take (sIx xs.length xs.length hi - sIx xs.length 0 lo)
def opSl : D → Option Int → Option Int → Option D
  | .lst xs, lo, hi => some (.lst (cutL xs lo hi))
  | .scr xs, lo, hi => some (.lst ((cutL xs lo hi).map .int))
  | .tup xs, lo, hi => if sIx xs.length 0 lo = 0 ∧ sIx xs.length xs.length hi = xs.length then none else some (.tup (cutL xs lo hi))
  | .str s, lo, hi => if s.length ≤ line then some (.str ⟨(cutL s.cps.toList lo hi).toArray⟩) else none
  | _, _, _ => none
def truth : D → Option Bool
  | .non => some false
  | .bl b => some b
  | .int i => some (i != 0)
  | .str x => if x.length ≤ line then some (x.length != 0) else none
  | .lst xs => some (!xs.isEmpty)
  | .tup xs => some (!xs.isEmpty)
  | _ => none

/-! ### expressions -/
def eName (i : Nat) : EX := fun ρ S => match ρ[i]? with
  | some (.val d) => .ok (.d d) S
  | some (.own _) => .ok (.own i) S
  | _ => .bad
def eC (d : D) : EX := fun _ S => .ok (.d d) S
def eBad : EX := fun _ _ => .bad
def ret1 (o : Option D) (S : Store) : Res W := match o with
  | some d => .ok (.d d) S
  | none => .bad
@[simp] theorem ret1_some (d : D) (S : Store) : ret1 (some d) S = .ok (.d d) S := rfl
@[simp] theorem ret1_none (S : Store) : ret1 none S = .bad := rfl
def eUn (f : D → Option D) (a : EX) : EX := fun ρ S => (a ρ S).bind fun x S1 => ret1 ((look ρ S1 x).bind f) S1
def eBin (f : D → D → Option D) (a b : EX) : EX := fun ρ S => (a ρ S).bind fun x S1 => (b ρ S1).bind fun y S2 => ret1 ((look ρ S2 x).bind fun dx => (look ρ S2 y).bind fun dy => f dx dy) S2
/-- a op b op' c: b is asked once, c if the first one holds -/
def eChain (f g : D → D → Option D) (a b c : EX) : EX := fun ρ S => (a ρ S).bind fun x S1 => (b ρ S1).bind fun y S2 =>
  match (look ρ S2 x).bind fun dx => (look ρ S2 y).bind fun dy => f dx dy with
  | some (.bl true) => (c ρ S2).bind fun z S3 => ret1 ((look ρ S3 y).bind fun dy => (look ρ S3 z).bind fun dz => g dy dz) S3
  | some (.bl false) => .ok (.d (.bl false)) S2
  | _ => .bad
/-- the value of a test -/
def tE (e : EX) : TX := fun ρ S => (e ρ S).bind fun x S1 => match (look ρ S1 x).bind truth with
  | some b => .ok b S1
  | none => .bad
def tNot (t : TX) : TX := fun ρ S => (t ρ S).bind fun b S1 => .ok (!b) S1
def tAnd (t u : TX) : TX := fun ρ S => (t ρ S).bind fun b S1 => if b then u ρ S1 else .ok false S1
def tOr (t u : TX) : TX := fun ρ S => (t ρ S).bind fun b S1 => if b then .ok true S1 else u ρ S1
/-- and, or as values: all but the last truths -/
def eAnd (a b : EX) : EX := fun ρ S => (a ρ S).bind fun x S1 => match x with
  | .d (.bl true) => b ρ S1
  | .d (.bl false) => .ok (.d (.bl false)) S1
  | _ => .bad
def eOr (a b : EX) : EX := fun ρ S => (a ρ S).bind fun x S1 => match x with
  | .d (.bl true) => .ok (.d (.bl true)) S1
  | .d (.bl false) => b ρ S1
  | _ => .bad
def eNot (a : EX) : EX := fun ρ S => (a ρ S).bind fun x S1 => match x with
  | .d (.bl b) => .ok (.d (.bl (!b))) S1
  | _ => .bad
def eIf (t : TX) (a b : EX) : EX := fun ρ S => (t ρ S).bind fun c S1 => if c then a ρ S1 else b ρ S1
/-- a part of a slice -/
def eNo : Env → Store → Res (Option Int) := fun _ S => .ok none S
def ePart (e : EX) : Env → Store → Res (Option Int) := fun ρ S => (e ρ S).bind fun x S1 => match x with
  | .d (.int i) => .ok (some i) S1
  | _ => .bad
def eSl (a : EX) (lo hi : Env → Store → Res (Option Int)) : EX := fun ρ S => (a ρ S).bind fun x S1 => (lo ρ S1).bind fun i S2 => (hi ρ S2).bind fun j S3 =>
  ret1 ((look ρ S3 x).bind fun dx => opSl dx i j) S3

/-! ### arguments, calls -/
def aNil : AX := fun _ S => .ok [] S
def aCons (e : EX) (r : AX) : AX := fun ρ S => (e ρ S).bind fun x S1 => (r ρ S1).bind fun xs S2 => .ok (x :: xs) S2
/-- all of them data -/
def allD : List W → Option (List D)
  | [] => some []
  | .d x :: r => (allD r).map (x :: ·)
  | .own _ :: _ => none
def retD (r : Res D) : Res W := r.bind fun d S => .ok (.d d) S
@[simp] theorem retD_ok (d : D) (S : Store) : retD (.ok d S) = .ok (.d d) S := rfl
@[simp] theorem retD_exc (C : String) (fs : Fld) (S : Store) : retD (.exc C fs S) = .exc C fs S := rfl
@[simp] theorem retD_bad : retD .bad = .bad := rfl
def withD {α : Type} (o : Option (List D)) (f : List D → Res α) : Res α := match o with
  | some ds => f ds
  | none => .bad
@[simp] theorem withD_some {α : Type} (ds : List D) (f : List D → Res α) : withD (some ds) f = f ds := rfl
/-- a def's call; the defaults behind -/
def eCall (g : Fn) (dvs : List D) (a : AX) : EX := fun ρ S => (a ρ S).bind fun xs S1 => withD (allD xs) fun ds => retD (g (ds ++ dvs) S1)
/-- a built-in's call, by the values -/
def eB (f : List D → Option D) (a : AX) : EX := fun ρ S => (a ρ S).bind fun xs S1 => ret1 ((looks ρ S1 xs).bind f) S1
/-- a field of one of the classes -/
def fldOf (S : Store) (cs : List String) (f : Str) : D → Option D
  | .obj C fs => if C ∈ cs then fs.lookup f else none
  | .loc n => match S[n]? with
    | some (.ins C fs) => if C ∈ cs then fs.lookup f else none
    | _ => none
  | _ => none
/-- a field of an exception -/
def xfldOf (cs : List String) (f : Str) : D → Option D
  | .exv C fs => if C ∈ cs then fs.lookup f else none
  | _ => none
def eXFld (cs : List String) (f : Str) (a : EX) : EX := fun ρ S => (a ρ S).bind fun x S1 => match x with
  | .d d => ret1 (xfldOf cs f d) S1
  | .own _ => .bad
def eFld (cs : List String) (f : Str) (a : EX) : EX := fun ρ S => (a ρ S).bind fun x S1 => match x with
  | .d d => ret1 (fldOf S1 cs f d) S1
  | .own _ => .bad
def clsOf (S : Store) : D → Option String
  | .obj C _ => some C
  | .loc n => match S[n]? with
    | some (.ins C _) => some C
    | _ => none
  | _ => none
def noFld (S : Store) (m : Str) : D → Bool
  | .obj _ fs => (fs.lookup m).isNone
  | .loc n => match S[n]? with
    | some (.ins _ fs) => (fs.lookup m).isNone
    | _ => false
  | _ => false
/-- a method of an own class: the table by the class -/
def eMeth (m : Str) (tbl : List (String × Fn)) (dvs : List D) (o : EX) (a : AX) : EX := fun ρ S => (o ρ S).bind fun x S1 => match x with
  | .d d => match (if noFld S1 m d = true then (clsOf S1 d).bind (fun c => tbl.lookup c) else none) with
    | some g => (a ρ S1).bind fun xs S2 => withD (allD xs) fun ds => retD (g (d :: (ds ++ dvs)) S2)
    | none => .bad
  | .own _ => .bad
mutual
/-- only places below n -/
def D.und (n : Nat) : D → Bool
  | .loc k => decide (k < n)
  | .tup xs | .lst xs => D.undAll n xs
  | .dct kvs => D.undK n kvs
  | .obj _ fs | .exv _ fs => D.undF n fs
  | _ => true
def D.undAll (n : Nat) : List D → Bool
  | [] => true
  | x :: xs => D.und n x && D.undAll n xs
def D.undK (n : Nat) : List (Key × D) → Bool
  | [] => true
  | (_, x) :: xs => D.und n x && D.undK n xs
def D.undF (n : Nat) : List (Str × D) → Bool
  | [] => true
  | (_, x) :: xs => D.und n x && D.undF n xs
end
/-- a new instance in the store -/
def made (n : Nat) : D → Store → Res W
  | .non, S => .ok (.d (.loc n)) S
  | _, _ => .bad
def eMake (C : String) (g : Fn) (dvs : List D) (a : AX) : EX := fun ρ S => (a ρ S).bind fun xs S1 => withD (allD xs) fun ds =>
  (g (.loc S1.length :: (ds ++ dvs)) (S1 ++ [.ins C []])).bind (made S1.length)
open Classical in
/-- .. which is never changed behind its making: data -/
noncomputable def eMakeF (C : String) (g : Fn) (dvs : List D) (a : AX) : EX := fun ρ S => (a ρ S).bind fun xs S1 => withD (allD xs) fun ds =>
  (g (.loc S1.length :: (ds ++ dvs)) (S1 ++ [.ins C []])).bind fun d S2 => match d, S2[S1.length]? with
    | .non, some (.ins _ fs) => if S2 = S1 ++ [.ins C fs] ∧ D.undF S1.length fs = true then .ok (.d (.obj C fs)) S1 else .bad
    | _, _ => .bad
open Classical in
/-- a new exception as a value: its class with an own __init__; without -/
noncomputable def eExc (C : String) (g : Fn) (dvs : List D) (a : AX) : EX := fun ρ S => (a ρ S).bind fun xs S1 => withD (allD xs) fun ds => if ds.length ≤ 1000 then
  (g (.loc S1.length :: (ds ++ dvs)) (S1 ++ [.exn C none])).bind fun d S2 => match d, S2[S1.length + 1]? with
    | .non, some (.xdt fs) => if S2 = S1 ++ [.exn C (some (S1.length + 1)), .xdt fs] ∧ D.undF S1.length fs = true then .ok (.d (.exv C fs)) S1 else .bad
    | _, _ => .bad
  else .bad
def eExc0 (C : String) (a : AX) : EX := fun ρ S => (a ρ S).bind fun xs S1 => withD (allD xs) fun ds => if ds.length ≤ 1000 then .ok (.d (.exv C [])) S1 else .bad
/-- Base.__init__(self, ..) in such an __init__ -/
def eXInit (cs : List String) (a : AX) : EX := fun ρ S => (a ρ S).bind fun xs S1 => match xs with
  | .d (.loc n) :: r => match S1[n]? with
    | some (.exn C none) => if C ∈ cs ∧ r.length ≤ 1000 then .ok (.d .non) S1 else .bad
    | _ => .bad
  | _ => .bad
/-! ### displays -/
def eTup (a : AX) : EX := fun ρ S => (a ρ S).bind fun xs S1 => withD (allD xs) fun ds => if ds.length ≤ line then .ok (.d (.tup ds)) S1 else .bad
def nLst (a : AX) : NX := fun ρ S => (a ρ S).bind fun xs S1 => withD (allD xs) fun ds => if ds.length ≤ line then .ok ds S1 else .bad
/-- a new list as data; as one of the store -/
def eNew (n : NX) : EX := fun ρ S => (n ρ S).bind fun ds S1 => .ok (.d (.lst ds)) S1
def eNewS (n : NX) : EX := fun ρ S => (n ρ S).bind fun ds S1 => .ok (.d (.loc S1.length)) (S1 ++ [.lst ds])
/-- a new list that an expression gives, as it is -/
def nOf (e : EX) : NX := fun ρ S => (e ρ S).bind fun x S1 => match x with
  | .d (.lst xs) => .ok xs S1
  | _ => .bad
/-! ### what is walked -/
def iOf (S : Store) : D → Option Items
  | .lst xs => some ⟨xs, none⟩
  | .tup xs => some ⟨xs, none⟩
  | .str s => some ⟨s.cps.toList.map fun c => .str ⟨#[c]⟩, none⟩
  | .loc n => match S[n]? with
    | some (.lst xs) => some ⟨xs, some n⟩
    | _ => none
  | .scr xs => some ⟨xs.map .int, none⟩
  | _ => none
def iSeq (e : EX) : IX := fun ρ S => (e ρ S).bind fun x S1 => match x with
  | .d d => match iOf S1 d with
    | some it => .ok it S1
    | none => .bad
  | .own _ => .bad
def rangeL (lo : Int) (n : Nat) : List D := (List.range n).map fun (i : Nat) => D.int (lo + i)
def rOk (i : Int) : Bool := decide (i.natAbs < 4611686018427387904)
def iRange1 (a : AX) : IX := fun ρ S => (a ρ S).bind fun xs S1 => match xs with
  | [.d (.int n)] => if rOk n then .ok ⟨rangeL 0 n.toNat, none⟩ S1 else .bad
  | _ => .bad
def iRange2 (a : AX) : IX := fun ρ S => (a ρ S).bind fun xs S1 => match xs with
  | [.d (.int i), .d (.int j)] => if rOk i && rOk j then .ok ⟨rangeL i (j - i).toNat, none⟩ S1 else .bad
  | _ => .bad
/-- range(i, j, k): upwards, or one by one down -/
def stepN (i j k : Int) : Option Nat := if 0 < k then some ((j - i + (k - 1)) / k).toNat else if k = -1 then some (i - j).toNat else none
def iRange3 (a : AX) : IX := fun ρ S => (a ρ S).bind fun xs S1 => match xs with
  | [.d (.int i), .d (.int j), .d (.int k)] => if rOk i && rOk j && decide (k.natAbs < 1000000) then match stepN i j k with
    | some n => .ok ⟨(List.range n).map fun (m : Nat) => D.int (i + m * k), none⟩ S1
    | none => .bad
    else .bad
  | _ => .bad
def iEnum (e : EX) : IX := fun ρ S => (e ρ S).bind fun x S1 => match x with
  | .d (.lst xs) => .ok ⟨(xs.zipIdx).map fun p => .tup [.int (p.2 : Nat), p.1], none⟩ S1
  | _ => .bad
def iRev (e : EX) : IX := fun ρ S => (e ρ S).bind fun x S1 => match x with
  | .d (.lst xs) => .ok ⟨xs.reverse, none⟩ S1
  | .d (.tup xs) => .ok ⟨xs.reverse, none⟩ S1
  | _ => .bad
def iZip (a b : EX) : IX := fun ρ S => (a ρ S).bind fun x S1 => (b ρ S1).bind fun y S2 => match x, y with
  | .d (.lst xs), .d (.lst ys) => .ok ⟨(xs.zip ys).map fun p => .tup [p.1, p.2], none⟩ S2
  | .d (.tup xs), .d (.tup ys) => .ok ⟨(xs.zip ys).map fun p => .tup [p.1, p.2], none⟩ S2
  | _, _ => .bad

/-! ### targets -/
abbrev GX := D → Env → Option Env
def gName (i : Nat) : GX := fun d ρ => some (ρ.set i (.val d))
def gAll : List GX → List D → Env → Option Env
  | [], [], ρ => some ρ
  | g :: gs, d :: ds, ρ => (g d ρ).bind (gAll gs ds)
  | _, _, _ => none
def gTup (gs : List GX) : GX := fun d ρ => match d with
  | .tup ds => gAll gs ds ρ
  | _ => none
def wipe (ρ : Env) : List Nat → Env
  | [] => ρ
  | v :: vs => (wipe ρ vs).set v .un

/-! ### comprehensions -/
def stays (it : Items) (S : Store) : Prop := match it.watch with
  | none => True
  | some n => S[n]? = some (.lst it.xs)
open Classical in
noncomputable def compL (it : Items) (ρ : Env) (g : GX) (t : TX) (e : EX) : List D → List D → Store → Res (List D)
  | acc, [], S => if stays it S then .ok acc S else .bad
  | acc, x :: xs, S => if stays it S then match g x ρ with
    | none => .bad
    | some ρ1 => match t ρ1 S with
      | .ok true S1 => match e ρ1 S1 with
        | .ok (.d y) S2 => if acc.length < line then compL it ρ g t e (acc ++ [y]) xs S2 else .bad
        | _ => .bad
      | .ok false S1 => compL it ρ g t e acc xs S1
      | _ => .bad
    else .bad
def tYes : TX := fun _ S => .ok true S
def noOwn (ρ : Env) (vs : List Nat) : Bool := vs.all fun i => match ρ[i]? with
  | some (.own _) => false
  | _ => true
noncomputable def nComp (vs : List Nat) (i : IX) (g : GX) (t : TX) (e : EX) : NX := fun ρ S => (i ρ S).bind fun it S1 => if noOwn ρ vs then compL it (wipe ρ vs) g t e [] it.xs S1 else .bad

/-! ### statements -/
def sPass : SX := fun ρ S => .nx ρ S
def sBad : SX := fun _ _ => .bad
def sSeq (a b : SX) : SX := fun ρ S => match a ρ S with
  | .nx ρ1 S1 => b ρ1 S1
  | o => o
def outR {α : Type} (ρ : Env) (r : Res α) (f : α → Store → Out) : Out := match r with
  | .ok a S => f a S
  | .exc C fs S => .exc C fs ρ S
  | .bad => .bad
@[simp] theorem outR_ok {α : Type} (ρ : Env) (a : α) (S : Store) (f : α → Store → Out) : outR ρ (.ok a S) f = f a S := rfl
@[simp] theorem outR_exc {α : Type} (ρ : Env) (C : String) (fs : Fld) (S : Store) (f : α → Store → Out) : outR ρ (.exc C fs S) f = .exc C fs ρ S := rfl
@[simp] theorem outR_bad {α : Type} (ρ : Env) (f : α → Store → Out) : outR ρ .bad f = .bad := rfl
def sSet (g : GX) (e : EX) : SX := fun ρ S => outR ρ (e ρ S) fun x S1 => match x with
  | .d d => match g d ρ with
    | some ρ1 => .nx ρ1 S1
    | none => .bad
  | .own _ => .bad
def sOwn (i : Nat) (n : NX) : SX := fun ρ S => outR ρ (n ρ S) fun xs S1 => .nx (ρ.set i (.own (.lst xs))) S1
def sOwnD (i : Nat) : SX := fun ρ S => .nx (ρ.set i (.own (.dct []))) S
def sOwnT (i : Nat) : SX := fun ρ S => .nx (ρ.set i (.own (.dtt []))) S
def frz : Slot → Slot
  | .own (.lst xs) => .val (.lst xs)
  | .own (.dct kvs) => .val (.dct kvs)
  | s => s
def sFrz (i : Nat) : SX := fun ρ S => .nx (ρ.modify i frz) S
def sKill (vs : List Nat) : SX := fun ρ S => .nx (wipe ρ vs) S
def sDrop (e : EX) : SX := fun ρ S => outR ρ (e ρ S) fun _ S1 => .nx ρ S1
def sRet (e : EX) : SX := fun ρ S => outR ρ (e ρ S) fun x S1 => match x with
  | .d d => .ret d S1
  | .own _ => .bad
def sRetN : SX := fun _ S => .ret .non S
def sIf (t : TX) (a b : SX) : SX := fun ρ S => outR ρ (t ρ S) fun c S1 => if c then a ρ S1 else b ρ S1
def sCont : SX := fun ρ S => .ct ρ S
/-- a list that a slot owns, one of the store -/
def owner (ρ : Env) (S : Store) : W → Option SO
  | .own i => match ρ[i]? with
    | some (.own o) => some o
    | _ => none
  | .d (.loc n) => S[n]?
  | _ => none
def putBack (ρ : Env) (S : Store) (o : SO) : W → Out
  | .own i => .nx (ρ.set i (.own o)) S
  | .d (.loc n) => .nx ρ (S.set n o)
  | _ => .bad
/-- a builtin's method that changes its object -/
def tyS (T : String) : SO → Bool
  | .lst _ => T == "list"
  | .dct _ => T == "dict"
  | _ => false
abbrev MOp := SO → List D → Option (D × SO)
def mApp : MOp
  | .lst xs, [d] => if xs.length < line then some (.non, .lst (xs ++ [d])) else none
  | _, _ => none
def mExt : MOp
  | .lst xs, [.lst ys] => if xs.length + ys.length ≤ line then some (.non, .lst (xs ++ ys)) else none
  | _, _ => none
def mClear : MOp
  | .lst _, [] => some (.non, .lst [])
  | _, _ => none
def mPop : MOp
  | .lst xs, [] => (xs[xs.length - 1]?).map fun d => (d, .lst xs.dropLast)
  | _, _ => none
def mPopAt : MOp
  | .lst xs, [.int i] => if 0 ≤ i ∧ i.natAbs < 4611686018427387904 then (xs[i.toNat]?).map fun d => (d, .lst (xs.eraseIdx i.toNat)) else none
  | _, _ => none
def sMutK (T : String) (op : MOp) (o : EX) (a : AX) (k : D → Out → Out) : SX := fun ρ S => outR ρ (o ρ S) fun w S1 => match owner ρ S1 w with
  | some so1 => if tyS T so1 = true then outR ρ (a ρ S1) fun xs S2 => match allD xs with
      | some ds => match (owner ρ S2 w).bind fun so => op so ds with
        | some r => k r.1 (putBack ρ S2 r.2 w)
        | none => .bad
      | none => .bad
    else .bad
  | none => .bad
def sMut (T : String) (op : MOp) (o : EX) (a : AX) : SX := sMutK T op o a fun _ r => r
def sMutSet (T : String) (op : MOp) (o : EX) (a : AX) (g : GX) : SX := sMutK T op o a fun d r => match r with
  | .nx ρ S => match g d ρ with
    | some ρ1 => .nx ρ1 S
    | none => .bad
  | _ => .bad
/-- o[i] = v -/
def setAt : SO → D → D → Option SO
  | .lst xs, .int i, v => (ixN xs.length i).map fun j => .lst (xs.set j v)
  | .dct kvs, .int i, v => if kvs.length < line then some (.dct (setK kvs (.inl i) v)) else none
  | .dct kvs, .str x, v => if kvs.length < line then some (.dct (setK kvs (.inr x) v)) else none
  | _, _, _ => none
def sSub (o i e : EX) : SX := fun ρ S => outR ρ (e ρ S) fun x S1 => outR ρ (o ρ S1) fun w S2 => outR ρ (i ρ S2) fun k S3 => match x, k, owner ρ S3 w with
  | .d v, .d kd, some so => match setAt so kd v with
    | some so' => putBack ρ S3 so' w
    | none => .bad
  | _, _, _ => .bad
/-- o.f = v -/
def setF : Fld → Str → D → Fld
  | [], f, v => [(f, v)]
  | (g, w) :: r, f, v => if g = f then (f, v) :: r else (g, w) :: setF r f v
def sFld (cs : List String) (o : EX) (f : Str) (e : EX) : SX := fun ρ S => outR ρ (e ρ S) fun x S1 => outR ρ (o ρ S1) fun w S2 => match x, w with
  | .d v, .d (.loc n) => match S2[n]? with
    | some (.ins C fs) => if C ∈ cs ∧ fs.length < 900 then .nx ρ (S2.set n (.ins C (setF fs f v))) else .bad
    | _ => .bad
  | _, _ => .bad
/-- self.f = v of an exception that is being made -/
def sXFld (cs : List String) (o : EX) (f : Str) (e : EX) : SX := fun ρ S => outR ρ (e ρ S) fun x S1 => outR ρ (o ρ S1) fun w S2 => match x, w with
  | .d v, .d (.loc n) => match S2[n]? with
    | some (.exn C none) => if C ∈ cs then .nx ρ (S2.set n (.exn C (some S2.length)) ++ [.xdt [(f, v)]]) else .bad
    | some (.exn C (some m)) => match S2[m]? with
      | some (.xdt fs) => if C ∈ cs ∧ fs.length ≤ 900 then .nx ρ (S2.set m (.xdt ((f, v) :: fs))) else .bad
      | _ => .bad
    | _ => .bad
  | _, _ => .bad
open Classical in
noncomputable def forL (it : Items) (g : GX) (b : SX) (kl : List Nat) : List D → SX
  | [], ρ, S => if stays it S then .nx (wipe ρ kl) S else .bad
  | x :: xs, ρ, S => if stays it S then match g x ρ with
    | none => .bad
    | some ρ1 => match b ρ1 S with
      | .nx ρ2 S2 => forL it g b kl xs (wipe ρ2 kl) S2
      | .ct ρ2 S2 => forL it g b kl xs (wipe ρ2 kl) S2
      | .brk ρ2 S2 => .nx (wipe ρ2 kl) S2
      | .ret d S2 => .ret d S2
      | .exc C fs ρ2 S2 => .exc C fs ρ2 S2
      | .bad => .bad
    else .bad
/-- kl: the slots that are forgotten behind each turn -/
noncomputable def sFor (i : IX) (g : GX) (b : SX) (kl : List Nat) : SX := fun ρ S => outR ρ (i ρ S) fun it S1 => forL it g b kl it.xs ρ S1
def whileL (t : TX) (b : SX) (kl : List Nat) : Nat → SX
  | 0, _, _ => .bad
  | n + 1, ρ, S => outR ρ (t ρ S) fun c S1 => if c then match b ρ S1 with
      | .nx ρ2 S2 => whileL t b kl n (wipe ρ2 kl) S2
      | .ct ρ2 S2 => whileL t b kl n (wipe ρ2 kl) S2
      | .brk ρ2 S2 => .nx ρ2 S2
      | .ret d S2 => .ret d S2
      | .exc C fs ρ2 S2 => .exc C fs ρ2 S2
      | .bad => .bad
    else .nx ρ S1
def sWhile (fuel : Nat) (t : TX) (b : SX) (kl : List Nat) : SX := whileL t b kl fuel
/-- raise C(..): names of its fields -/
def sRaise (C : String) (ns : List Str) (a : AX) : SX := fun ρ S => outR ρ (a ρ S) fun xs S1 => match allD xs with
  | some ds => .exc C (ns.zip ds) ρ S1
  | none => .bad
/-- try: .. except C as n: ..; sub: the classes under C -/
def sTry (b : SX) (sub : List String) (i : Option Nat) (h : SX) : SX := fun ρ S => match b ρ S with
  | .exc C fs ρ1 S1 => if C ∈ sub then match i with
      | none => h ρ1 S1
      | some k => match h (ρ1.set k (.val (.exv C fs))) S1 with
        | .nx ρ2 S2 => .nx (ρ2.set k .un) S2
        | o => match o with
          | .ret d S2 => .ret d S2
          | _ => .bad
    else .exc C fs ρ1 S1
  | o => o
/-- a def: how many names, its body -/
def startE (n : Nat) (ds : List D) : Env := ds.map .val ++ List.replicate (n - ds.length) .un
def defD (m n : Nat) (b : SX) : Fn := fun ds S => if ds.length = m then match b (startE n ds) S with
  | .nx _ S1 => .ok .non S1
  | .ret d S1 => .ok d S1
  | .exc C fs _ S1 => .exc C fs S1
  | _ => .bad
  else .bad

/-! ### isinstance -/
/-- a type: a built-in one, an own class -/
inductive Ty where
  | b (n : String)
  | c (C : String)
  deriving DecidableEq
def tyOf : D → Option Ty
  | .non => some (.b "NoneType")
  | .bl _ => some (.b "bool")
  | .int _ => some (.b "int")
  | .str _ => some (.b "str")
  | .tup _ => some (.b "tuple")
  | .lst _ => some (.b "list")
  | .scr _ => some (.b "list")
  | .dct _ => some (.b "dict")
  | .exv C _ => some (.c C)
  | _ => none
/-- the answers by the type, for the classes asked -/
def eIsi (tab : List (Ty × Bool)) (a : EX) : EX := eUn (fun d => (tyOf d).bind fun t => (tab.lookup t).map .bl) a

/-! ### built-ins -/
def bLen : List D → Option D
  | [.lst xs] => some (.int (xs.length : Nat))
  | [.tup xs] => some (.int (xs.length : Nat))
  | [.str s] => if s.length ≤ line then some (.int (s.length : Nat)) else none
  | [.dct kvs] => some (.int (kvs.length : Nat))
  | [.scr xs] => some (.int (xs.length : Nat))
  | _ => none
def bMax : List D → Option D
  | [.int i, .int j] => some (.int (if j > i then j else i))
  | _ => none
def bMin : List D → Option D
  | [.int i, .int j] => some (.int (if j < i then j else i))
  | _ => none
def bAbs : List D → Option D
  | [.int i] => some (.int (if i < 0 then -i else i))
  | _ => none
def bInt : List D → Option D
  | [.int i] => some (.int i)
  | [.bl b] => some (.int (if b then 1 else 0))
  | _ => none
def bTuple : List D → Option D
  | [.lst xs] => some (.tup xs)
  | [.tup xs] => some (.tup xs)
  | _ => none
def bList : List D → Option D
  | [.lst xs] => some (.lst xs)
  | [.tup xs] => some (.lst xs)
  | _ => none
def blOf : D → Option Bool
  | .bl b => some b
  | _ => none
def blsOf : List D → Option (List Bool)
  | [] => some []
  | .bl b :: r => (blsOf r).map (b :: ·)
  | _ :: _ => none
def bAll : List D → Option D
  | [.lst xs] => (blsOf xs).map fun bs => .bl (bs.all id)
  | _ => none
def bAny : List D → Option D
  | [.lst xs] => (blsOf xs).map fun bs => .bl (bs.any id)
  | _ => none
def intsOf : List D → Option (List Int)
  | [] => some []
  | .int i :: r => (intsOf r).map (i :: ·)
  | _ :: _ => none
def bSum : List D → Option D
  | [.lst xs] => (intsOf xs).map fun is => .int is.sum
  | _ => none
end Dn
end OfDn
section OfDnL
set_option linter.all false
/-! DnL: meanings of loops and comprehensions, in plain words. -/
namespace Dn
open PySem (Str)
@[simp] theorem stays_none (xs : List D) (S : Store) : stays ⟨xs, none⟩ S := trivial
/-- a comprehension whose element and test change nothing -/
theorem compL_filter {it : Items} {ρ : Env} {g : GX} {t : TX} {e : EX} {S : Store} (hs : stays it S) (p : D → Bool) (f : D → D) : ∀ (xs acc : List D), acc.length + xs.length ≤ line →
    (∀ x ∈ xs, ∃ ρ', g x ρ = some ρ' ∧ t ρ' S = .ok (p x) S ∧ (p x = true → e ρ' S = .ok (.d (f x)) S)) → compL it ρ g t e acc xs S = .ok (acc ++ (xs.filter p).map f) S
  | [], acc, _, _ => by simp [compL, hs]
  | x :: xs, acc, hl, h => by
    obtain ⟨ρ', h1, h2, h3⟩ := h x List.mem_cons_self
    have ih := fun acc hl => compL_filter hs p f xs acc hl fun y hy => h y (List.mem_cons_of_mem _ hy)
    simp only [List.length_cons] at hl
    unfold compL
    rw [if_pos hs, h1]
    simp only [h2]
    cases hp : p x with
    | true =>
      simp only [h3 hp]
      rw [if_pos (by omega), ih _ (by simp; omega)]
      simp [hp]
    | false =>
      simp only
      rw [ih _ (by omega)]
      simp [hp]
theorem compL_map {it : Items} {ρ : Env} {g : GX} {e : EX} {S : Store} (hs : stays it S) (f : D → D) (xs acc : List D) (hl : acc.length + xs.length ≤ line)
    (h : ∀ x ∈ xs, ∃ ρ', g x ρ = some ρ' ∧ e ρ' S = .ok (.d (f x)) S) : compL it ρ g tYes e acc xs S = .ok (acc ++ xs.map f) S := by
  have := compL_filter (it := it) (ρ := ρ) (g := g) (t := tYes) (e := e) hs (fun _ => true) f xs acc hl fun x hx => by
    obtain ⟨ρ', h1, h2⟩ := h x hx
    exact ⟨ρ', h1, rfl, fun _ => h2⟩
  have e : xs.filter (fun _ => true) = xs := List.filter_eq_self.mpr fun _ _ => rfl
  rw [e] at this
  exact this
/-- a loop by an invariant -/
theorem forL_inv {it : Items} {g : GX} {b : SX} {kl : List Nat} (Inv : Nat → Env → Store → Prop) (hs : ∀ i ρ S, Inv i ρ S → stays it S) : ∀ (xs : List D) (i : Nat) (ρ : Env) (S : Store), Inv i ρ S →
    (∀ j x ρ S, xs[j]? = some x → Inv (i + j) ρ S → ∃ ρ1, g x ρ = some ρ1 ∧ ∃ ρ2 S2, (b ρ1 S = .nx ρ2 S2 ∨ b ρ1 S = .ct ρ2 S2) ∧ Inv (i + j + 1) (wipe ρ2 kl) S2) →
    ∃ ρ' S', forL it g b kl xs ρ S = .nx (wipe ρ' kl) S' ∧ Inv (i + xs.length) ρ' S'
  | [], i, ρ, S, h, _ => ⟨ρ, S, by unfold forL; rw [if_pos (hs i ρ S h)], h⟩
  | x :: xs, i, ρ, S, h, st => by
    obtain ⟨ρ1, e1, ρ2, S2, e2, h2⟩ := st 0 x ρ S rfl h
    obtain ⟨ρ', S', e3, h3⟩ := forL_inv Inv hs xs (i + 1) (wipe ρ2 kl) S2 h2 fun j y ρ S hj hi => by
      have := st (j + 1) y ρ S hj (by rw [show i + (j + 1) = i + 1 + j by omega]; exact hi)
      rw [show i + (j + 1) + 1 = i + 1 + j + 1 by omega] at this
      exact this
    refine ⟨ρ', S', ?_, by rw [show i + (x :: xs).length = i + 1 + xs.length by simp; omega]; exact h3⟩
    unfold forL
    rw [if_pos (hs i ρ S h), e1]
    rcases e2 with e2 | e2 <;> simp only [e2] <;> exact e3
@[simp] theorem rangeL_length (lo : Int) (n : Nat) : (rangeL lo n).length = n := by simp [rangeL]
theorem rangeL_get {lo : Int} {n i : Nat} (h : i < n) : (rangeL lo n)[i]? = some (.int (lo + i)) := by simp [rangeL, h]
theorem rangeL_mem {lo : Int} {n : Nat} {x : D} (h : x ∈ rangeL lo n) : ∃ i : Nat, i < n ∧ x = .int (lo + i) := by
  simp [rangeL] at h
  obtain ⟨i, hi, rfl⟩ := h
  exact ⟨i, hi, rfl⟩
@[simp] theorem ty_bb (a b : String) : (Ty.b a == Ty.b b) = (a == b) := by
  by_cases h : a = b
  · subst h; simp
  · have : (a == b) = false := by simpa using h
    rw [this]
    simp [h]
@[simp] theorem ty_cc (a b : String) : (Ty.c a == Ty.c b) = (a == b) := by
  by_cases h : a = b
  · subst h; simp
  · have : (a == b) = false := by simpa using h
    rw [this]
    simp [h]
@[simp] theorem ty_bc (a b : String) : (Ty.b a == Ty.c b) = false := by simp
@[simp] theorem ty_cb (a b : String) : (Ty.c a == Ty.b b) = false := by simp
end Dn
end OfDnL
section OfLayA
set_option Elab.async false
set_option linter.all false
set_option maxRecDepth 100000
/-! LayA: how data and store stand in the abstract heap. -/
namespace Dn
open PySem PySem.Spec PyProof.Rows L2

/-- what is known of the written part -/
structure Gs where
  K : PySem.W.Frag
  mg : Str → Option Value
/-- M0: what callers own; M: what may be changed by somebody; β: where the store's objects stand -/
structure Ct where
  M0 : Addr → Prop
  M : Addr → Prop
  β : List Addr
def KL (K : PySem.W.Frag) (a : Addr) (xs : List V) : Prop := SqL K (fun _ => none) a xs
theorem KL.seq {K : PySem.W.Frag} {H : Hp} {a : Addr} {xs : List V} (h : KL K a xs) : SqL K H a xs := by
  rcases h with (h | ⟨o, h⟩) | h
  · cases h
  · cases h
  · exact .inr h

mutual
/-- the value v is the data d -/
def Rep (G : Gs) (c : Ct) (H : Hp) : D → V → Prop
  | .non, v => v = .non
  | .bl b, v => v = .bl b
  | .int i, v => v = .int i
  | .str x, v => v = .str x
  | .tup ds, v => ∃ a vs, v = .ref a ∧ SqT G.K H a vs ∧ Reps G c H ds vs
  | .lst ds, v => ∃ a vs, v = .ref a ∧ ¬ c.M a ∧ H a = some (.lst vs) ∧ Reps G c H ds vs
  | .dct kvs, v => ∃ a vs, v = .ref a ∧ ¬ c.M a ∧ H a = some (.dK vs) ∧ RepK G c H kvs vs
  | .scr xs, v => ∃ a, v = .ref a ∧ (¬ c.M a ∧ Rd H a (.lst (xs.map V.int)) ∨ KL G.K a (xs.map V.int))
  | .loc n, v => ∃ a, c.β[n]? = some a ∧ v = .ref a
  | .obj C fs, v => ∃ a A dx vs, v = .ref a ∧ ¬ c.M a ∧ G.mg C = some (.ref A) ∧ H a = some (.ins A dx vs) ∧ RepF G c H fs vs
  | .exv C fs, v => ∃ a A vs, v = .ref a ∧ ¬ c.M a ∧ G.mg C = some (.ref A) ∧ RepF G c H fs vs ∧ ((vs = [] ∧ H a = some (exo a A none)) ∨ ∃ dx, H a = some (exo a A (some dx)) ∧ ¬ c.M dx ∧ H dx = some (exd dx vs))
def Reps (G : Gs) (c : Ct) (H : Hp) : List D → List V → Prop
  | [], vs => vs = []
  | d :: ds, vs => ∃ v r, vs = v :: r ∧ Rep G c H d v ∧ Reps G c H ds r
def RepK (G : Gs) (c : Ct) (H : Hp) : List (Key × D) → List (Key × V) → Prop
  | [], vs => vs = []
  | (k, d) :: ds, vs => ∃ v r, vs = (k, v) :: r ∧ Rep G c H d v ∧ RepK G c H ds r
def RepF (G : Gs) (c : Ct) (H : Hp) : List (Str × D) → List (Str × V) → Prop
  | [], vs => vs = []
  | (k, d) :: ds, vs => ∃ v r, vs = (k, v) :: r ∧ Rep G c H d v ∧ RepF G c H ds r
end

/-- nothing that is not to be changed has changed -/
structure Kp (c c' : Ct) (H H' : Hp) : Prop where
  keep : ∀ a o, H a = some o → ¬ c.M a → H' a = some o
  new : ∀ a, c'.M a → ¬ c.M a → H a = none
  pre : ∀ (n : Nat) (a : Addr), c.β[n]? = some a → c'.β[n]? = some a
  there : ∀ a o, H a = some o → ∃ o', H' a = some o'
abbrev Muts (c : Ct) (H : Hp) : Prop := ∀ a, c.M a → ∃ o, H a = some o ∧ Mut (some o)

section
variable {G : Gs} {c c' : Ct} {H H' : Hp}
theorem Muts.tup (hm : Muts c H) {a : Addr} {xs : List V} (h : Rd H a (.tup xs)) : ¬ c.M a := fun z => by
  obtain ⟨o, e, m⟩ := hm a z
  rcases h with h | ⟨ob, h⟩ <;> (rw [h] at e; cases e; exact m)
theorem Kp.rd (k : Kp c c' H H') {a : Addr} {u : HO} (hn : ¬ c.M a) (h : Rd H a u) : Rd H' a u ∧ ¬ c'.M a := by
  rcases h with h | ⟨o, h⟩
  · exact ⟨.inl (k.keep a _ h hn), fun z => by rw [k.new a z hn] at h; cases h⟩
  · exact ⟨.inr ⟨o, k.keep a _ h hn⟩, fun z => by rw [k.new a z hn] at h; cases h⟩
theorem Kp.sqt (k : Kp c c' H H') (hm : Muts c H) {K : PySem.W.Frag} {a : Addr} {xs : List V} (h : SqT K H a xs) : SqT K H' a xs := by
  rcases h with h | h
  · exact .inl (k.rd (hm.tup h) h).1
  · exact .inr h
mutual
theorem Rep.keep (hm : Muts c H) (k : Kp c c' H H') : ∀ (d : D) (v : V), Rep G c H d v → Rep G c' H' d v
  | .non, v, h => by simpa [Rep] using h
  | .bl b, v, h => by simpa [Rep] using h
  | .int i, v, h => by simpa [Rep] using h
  | .str x, v, h => by simpa [Rep] using h
  | .tup ds, v, h => by
    simp only [Rep] at h ⊢
    obtain ⟨a, vs, e, q, r⟩ := h
    exact ⟨a, vs, e, k.sqt hm q, Reps.keep hm k ds vs r⟩
  | .lst ds, v, h => by
    simp only [Rep] at h ⊢
    obtain ⟨a, vs, e, q1, q2, r⟩ := h
    exact ⟨a, vs, e, (fun z => by rw [k.new a z q1] at q2; cases q2), k.keep a _ q2 q1, Reps.keep hm k ds vs r⟩
  | .dct kvs, v, h => by
    simp only [Rep] at h ⊢
    obtain ⟨a, vs, e, q1, q2, r⟩ := h
    exact ⟨a, vs, e, (fun z => by rw [k.new a z q1] at q2; cases q2), k.keep a _ q2 q1, RepK.keep hm k kvs vs r⟩
  | .scr xs, v, h => by
    simp only [Rep] at h ⊢
    obtain ⟨a, e, q⟩ := h
    refine ⟨a, e, ?_⟩
    rcases q with ⟨q1, q2⟩ | q
    · have z := k.rd q1 q2
      exact .inl ⟨z.2, z.1⟩
    · exact .inr q
  | .loc n, v, h => by
    simp only [Rep] at h ⊢
    obtain ⟨a, e, q⟩ := h
    exact ⟨a, k.pre n a e, q⟩
  | .obj C fs, v, h => by
    simp only [Rep] at h ⊢
    obtain ⟨a, A, dx, vs, e, q1, q2, q3, r⟩ := h
    exact ⟨a, A, dx, vs, e, (fun z => by rw [k.new a z q1] at q3; cases q3), q2, k.keep a _ q3 q1, RepF.keep hm k fs vs r⟩
  | .exv C fs, v, h => by
    simp only [Rep] at h ⊢
    obtain ⟨a, A, vs, e, q1, q2, r, z⟩ := h
    have nm : ∀ {b : Addr} {u : HO}, H b = some u → ¬ c.M b → ¬ c'.M b := fun {b u} e n z => by rw [k.new b z n] at e; cases e
    refine ⟨a, A, vs, e, ?_, q2, RepF.keep hm k fs vs r, ?_⟩
    · rcases z with ⟨_, z⟩ | ⟨dx, z, _⟩
      · exact nm z q1
      · exact nm z q1
    · rcases z with ⟨z1, z⟩ | ⟨dx, z, z2, z3⟩
      · exact .inl ⟨z1, k.keep a _ z q1⟩
      · exact .inr ⟨dx, k.keep a _ z q1, nm z3 z2, k.keep dx _ z3 z2⟩
theorem Reps.keep (hm : Muts c H) (k : Kp c c' H H') : ∀ (ds : List D) (vs : List V), Reps G c H ds vs → Reps G c' H' ds vs
  | [], vs, h => by simpa [Reps] using h
  | d :: ds, vs, h => by
    simp only [Reps] at h ⊢
    obtain ⟨v, r, e, q, t⟩ := h
    exact ⟨v, r, e, Rep.keep hm k d v q, Reps.keep hm k ds r t⟩
theorem RepK.keep (hm : Muts c H) (k : Kp c c' H H') : ∀ (ds : List (Key × D)) (vs : List (Key × V)), RepK G c H ds vs → RepK G c' H' ds vs
  | [], vs, h => by simpa [RepK] using h
  | (x, d) :: ds, vs, h => by
    simp only [RepK] at h ⊢
    obtain ⟨v, r, e, q, t⟩ := h
    exact ⟨v, r, e, Rep.keep hm k d v q, RepK.keep hm k ds r t⟩
theorem RepF.keep (hm : Muts c H) (k : Kp c c' H H') : ∀ (ds : List (Str × D)) (vs : List (Str × V)), RepF G c H ds vs → RepF G c' H' ds vs
  | [], vs, h => by simpa [RepF] using h
  | (x, d) :: ds, vs, h => by
    simp only [RepF] at h ⊢
    obtain ⟨v, r, e, q, t⟩ := h
    exact ⟨v, r, e, Rep.keep hm k d v q, RepF.keep hm k ds r t⟩
end

/-! ### lists of data by their values -/
theorem Reps.length : ∀ {ds : List D} {vs : List V}, Reps G c H ds vs → ds.length = vs.length
  | [], vs, h => by simp only [Reps] at h; subst h; rfl
  | d :: ds, vs, h => by
    simp only [Reps] at h
    obtain ⟨v, r, rfl, _, t⟩ := h
    simp [Reps.length t]
theorem Reps.get : ∀ {ds : List D} {vs : List V} {i : Nat} {d : D}, Reps G c H ds vs → ds[i]? = some d → ∃ v, vs[i]? = some v ∧ Rep G c H d v
  | [], _, _, _, _, e => by simp at e
  | d :: ds, vs, i, x, h, e => by
    simp only [Reps] at h
    obtain ⟨v, r, rfl, q, t⟩ := h
    cases i with
    | zero => simp at e; subst e; exact ⟨v, by simp, q⟩
    | succ i => simp at e; obtain ⟨w, e1, e2⟩ := Reps.get t e; exact ⟨w, by simpa using e1, e2⟩
theorem Reps.getV : ∀ {ds : List D} {vs : List V} {i : Nat} {v : V}, Reps G c H ds vs → vs[i]? = some v → ∃ d, ds[i]? = some d ∧ Rep G c H d v
  | [], vs, _, _, h, e => by simp only [Reps] at h; subst h; simp at e
  | d :: ds, vs, i, x, h, e => by
    simp only [Reps] at h
    obtain ⟨v, r, rfl, q, t⟩ := h
    cases i with
    | zero => simp at e; subst e; exact ⟨d, by simp, q⟩
    | succ i => simp at e; obtain ⟨w, e1, e2⟩ := Reps.getV t e; exact ⟨w, by simpa using e1, e2⟩
theorem Reps.append : ∀ {ds es : List D} {vs ws : List V}, Reps G c H ds vs → Reps G c H es ws → Reps G c H (ds ++ es) (vs ++ ws)
  | [], _, _, _, h, h' => by simp only [Reps] at h; subst h; simpa using h'
  | d :: ds, es, vs, ws, h, h' => by
    simp only [Reps] at h
    obtain ⟨v, r, rfl, q, t⟩ := h
    have z := Reps.append t h'
    simp only [List.cons_append, Reps]
    exact ⟨v, _, rfl, q, z⟩
theorem Reps.nil : Reps G c H [] [] := by simp [Reps]
theorem Reps.cons {d : D} {ds : List D} {v : V} {vs : List V} (h : Rep G c H d v) (t : Reps G c H ds vs) : Reps G c H (d :: ds) (v :: vs) := by
  simp only [Reps]
  exact ⟨v, vs, rfl, h, t⟩
theorem Reps.one {d : D} {v : V} (h : Rep G c H d v) : Reps G c H [d] [v] := .cons h .nil
theorem Reps.drop : ∀ {ds : List D} {vs : List V} (n : Nat), Reps G c H ds vs → Reps G c H (ds.drop n) (vs.drop n)
  | _, _, 0, h => by simpa using h
  | [], vs, n + 1, h => by simp only [Reps] at h; subst h; simpa using Reps.nil
  | d :: ds, vs, n + 1, h => by
    simp only [Reps] at h
    obtain ⟨v, r, rfl, q, t⟩ := h
    simpa using Reps.drop n t
theorem Reps.take : ∀ {ds : List D} {vs : List V} (n : Nat), Reps G c H ds vs → Reps G c H (ds.take n) (vs.take n)
  | _, _, 0, h => by simpa using Reps.nil
  | [], vs, n + 1, h => by simp only [Reps] at h; subst h; simpa using Reps.nil
  | d :: ds, vs, n + 1, h => by
    simp only [Reps] at h
    obtain ⟨v, r, rfl, q, t⟩ := h
    simpa using Reps.cons q (Reps.take n t)
theorem Reps.set : ∀ {ds : List D} {vs : List V} {d : D} {v : V} (n : Nat), Reps G c H ds vs → Rep G c H d v → Reps G c H (ds.set n d) (vs.set n v)
  | [], vs, _, _, n, h, _ => by simp only [Reps] at h; subst h; simpa using Reps.nil
  | d :: ds, vs, x, w, n, h, g => by
    simp only [Reps] at h
    obtain ⟨v, r, rfl, q, t⟩ := h
    cases n with
    | zero => simpa using Reps.cons g t
    | succ n => simpa using Reps.cons q (Reps.set n t g)
theorem Reps.reverse : ∀ {ds : List D} {vs : List V}, Reps G c H ds vs → Reps G c H ds.reverse vs.reverse
  | [], vs, h => by simp only [Reps] at h; subst h; simpa using Reps.nil
  | d :: ds, vs, h => by
    simp only [Reps] at h
    obtain ⟨v, r, rfl, q, t⟩ := h
    simpa using Reps.append (Reps.reverse t) (Reps.one q)
theorem Reps.rep {ds : List D} {vs : List V} (h : Reps G c H ds vs) : ∀ k : Nat, Reps G c H (List.replicate k ds).flatten (List.replicate k vs).flatten
  | 0 => by simpa using Reps.nil
  | k + 1 => by simpa [List.replicate_succ] using Reps.append h (Reps.rep h k)

/-! ### the store -/
def SoR (G : Gs) (c : Ct) (H : Hp) : SO → Addr → Prop
  | .lst ds, a => ∃ vs, H a = some (.lst vs) ∧ Reps G c H ds vs
  | .dct kvs, a => ∃ vs, H a = some (.dK vs) ∧ RepK G c H kvs vs
  | .dtt kvs, a => ∃ vs, H a = some (.dT vs) ∧ vs.map (·.1) = kvs.map (·.1) ∧ Reps G c H (kvs.map (·.2)) (vs.map (·.2))
  | .ins C fs, a => ∃ A dx vs, G.mg C = some (.ref A) ∧ H a = some (.ins A dx vs) ∧ RepF G c H fs vs
  | .exn C none, a => ∃ A, G.mg C = some (.ref A) ∧ H a = some (exo a A none)
  | .exn C (some m), a => ∃ A dx, G.mg C = some (.ref A) ∧ H a = some (exo a A (some dx)) ∧ c.β[m]? = some dx
  | .xdt fs, a => ∃ vs, H a = some (exd a vs) ∧ RepF G c H fs vs
  | .dead, _ => True
theorem SoR.keep (hm : Muts c H) (k : Kp c c' H H') {o : SO} {a : Addr} (e : ∀ u, H a = some u → H' a = some u) (h : SoR G c H o a) : SoR G c' H' o a := by
  cases o with
  | lst ds => obtain ⟨vs, q, r⟩ := h; exact ⟨vs, e _ q, Reps.keep hm k _ _ r⟩
  | dct kvs => obtain ⟨vs, q, r⟩ := h; exact ⟨vs, e _ q, RepK.keep hm k _ _ r⟩
  | dtt kvs => obtain ⟨vs, q, q2, r⟩ := h; exact ⟨vs, e _ q, q2, Reps.keep hm k _ _ r⟩
  | ins C fs => obtain ⟨A, dx, vs, q1, q2, r⟩ := h; exact ⟨A, dx, vs, q1, e _ q2, RepF.keep hm k _ _ r⟩
  | exn C d =>
    cases d with
    | none => obtain ⟨A, q1, q2⟩ := h; exact ⟨A, q1, e _ q2⟩
    | some m => obtain ⟨A, dx, q1, q2, q3⟩ := h; exact ⟨A, dx, q1, e _ q2, k.pre m dx q3⟩
  | xdt fs => obtain ⟨vs, q, r⟩ := h; exact ⟨vs, e _ q, RepF.keep hm k _ _ r⟩
  | dead => trivial

/-- the store and what may be changed -/
structure Cs (G : Gs) (c : Ct) (S : Store) (H : Hp) : Prop where
  muts : Muts c H
  m0 : ∀ a, c.M0 a → c.M a
  bm : ∀ a ∈ c.β, c.M a
  nd : c.β.Nodup
  len : S.length = c.β.length
  sto : ∀ (n : Nat) (o : SO) (a : Addr), S[n]? = some o → c.β[n]? = some a → SoR G c H o a
/-- .. and the slots -/
structure Cn (G : Gs) (c : Ct) (ρ : Env) (S : Store) (σ : L2.St) (H : Hp) : Prop where
  cs : Cs G c S H
  slen : ρ.length = σ.length
  val : ∀ (i : Nat) (d : D), ρ[i]? = some (.val d) → ∃ v, σ[i]? = some (some v) ∧ Rep G c H d v
  own : ∀ (i : Nat) (o : SO), ρ[i]? = some (.own o) → ∃ p, σ[i]? = some (some (V.ref p)) ∧ c.M p ∧ ¬ c.M0 p ∧ p ∉ c.β ∧ SoR G c H o p
  sep : ∀ (i j : Nat) (o o' : SO) (p : Addr), ρ[i]? = some (.own o) → ρ[j]? = some (.own o') → σ[i]? = some (some (V.ref p)) → σ[j]? = some (some (V.ref p)) → i = j
/-- a step: what stood and may not be changed stands -/
structure Stp (c c' : Ct) (H H' : Hp) : Prop where
  kp : Kp c c' H H'
  prot : ∀ a o, H a = some o → c.M0 a → a ∉ c.β → H' a = some o
  newb : ∀ a ∈ c'.β, a ∈ c.β ∨ H a = none
  z : c'.M0 = c.M0
/-- pure growth -/
abbrev Grow (H H' : Hp) : Prop := ∀ a o, H a = some o → H' a = some o
theorem Grow.refl (H : Hp) : Grow H H := fun _ _ h => h
theorem Grow.trans {H H1 H2 : Hp} (a : Grow H H1) (b : Grow H1 H2) : Grow H H2 := fun x o h => b x o (a x o h)
theorem Grow.upd {H : Hp} {p : Addr} {o : HO} (h : H p = none) : Grow H (upd H p o) := fun a u e => by
  rw [upd_ne (ne_of_none e h)]; exact e
theorem Grow.none {H H' : Hp} (g : Grow H H') {p : Addr} (h : H' p = Option.none) : H p = Option.none := by
  cases e : H p with
  | none => rfl
  | some o => rw [g p o e] at h; cases h
theorem Kp.grow (g : Grow H H') : Kp c c H H' := ⟨fun a o e _ => g a o e, fun a h n => absurd h n, fun _ _ e => e, fun a o e => ⟨o, g a o e⟩⟩
theorem Stp.grow (g : Grow H H') : Stp c c H H' := ⟨.grow g, fun a o e _ _ => g a o e, fun _ h => .inl h, rfl⟩
theorem Stp.refl : Stp c c H H := .grow (.refl H)
theorem Kp.trans {c1 c2 : Ct} {H1 H2 : Hp} (a : Kp c c1 H H1) (b : Kp c1 c2 H1 H2) : Kp c c2 H H2 where
  keep x o h n := b.keep x o (a.keep x o h n) fun z => by rw [a.new x z n] at h; cases h
  new x z n := by
    cases e : H x with
    | none => rfl
    | some o =>
      have e1 := a.keep x o e n
      have n1 : ¬ c1.M x := fun z => by rw [a.new x z n] at e; cases e
      rw [b.new x z n1] at e1; cases e1
  pre n x e := b.pre n x (a.pre n x e)
  there x o h := let ⟨o1, e1⟩ := a.there x o h; b.there x o1 e1
theorem Stp.trans {c1 c2 : Ct} {H1 H2 : Hp} (a : Stp c c1 H H1) (b : Stp c1 c2 H1 H2) : Stp c c2 H H2 where
  kp := a.kp.trans b.kp
  prot x o h m n := b.prot x o (a.prot x o h m n) (by rw [a.z]; exact m) fun z => by
    rcases a.newb x z with q | q
    · exact n q
    · rw [q] at h; cases h
  newb x hx := by
    rcases b.newb x hx with q | q
    · exact a.newb x q
    · right
      cases e : H x with
      | none => rfl
      | some o =>
        obtain ⟨o', e'⟩ := a.kp.there x o e
        rw [q] at e'; cases e'
  z := b.z.trans a.z
end
end Dn
end OfLayA
section OfLayB
set_option Elab.async false
set_option linter.all false
set_option maxRecDepth 100000
/-! LayB: what a step does to slots and store; the judgements. -/
namespace Dn
open PySem PySem.Spec PyProof.Rows L2

section
variable {G : Gs} {c c' : Ct} {H H' : Hp} {ρ : Env} {S : Store} {σ : L2.St}
/-- fewer things may be changed -/
theorem Kp.weak (h : ∀ a, c'.M a → c.M a) (e : c'.β = c.β) : Kp c c' H H :=
  ⟨fun _ _ q _ => q, fun a q n => absurd (h a q) n, fun n a q => by rw [e]; exact q, fun _ o q => ⟨o, q⟩⟩
theorem Cs.grow (C : Cs G c S H) (g : Grow H H') : Cs G c S H' where
  muts a h := let ⟨o, e, m⟩ := C.muts a h; ⟨o, g a o e, m⟩
  m0 := C.m0
  bm := C.bm
  nd := C.nd
  len := C.len
  sto n o a h1 h2 := SoR.keep C.muts (.grow g) (fun u => g a u) (C.sto n o a h1 h2)
theorem Cn.grow (C : Cn G c ρ S σ H) (g : Grow H H') : Cn G c ρ S σ H' where
  cs := C.cs.grow g
  slen := C.slen
  val i d h := let ⟨v, e, r⟩ := C.val i d h; ⟨v, e, r.keep C.cs.muts (.grow g)⟩
  own i o h := let ⟨p, e, m, m0, nb, r⟩ := C.own i o h; ⟨p, e, m, m0, nb, SoR.keep C.cs.muts (.grow g) (fun u => g p u) r⟩
  sep := C.sep

/-- a value over the slots -/
def RW (G : Gs) (c : Ct) (ρ : Env) (σ : L2.St) (H : Hp) : W → V → Prop
  | .d x, v => Rep G c H x v
  | .own i, v => (∃ o, ρ[i]? = some (.own o)) ∧ σ[i]? = some (some v)
/-- what may be looked into, be it somebody's own -/
def View (G : Gs) (c : Ct) (H : Hp) : D → V → Prop
  | .lst ds, v => ∃ a vs, v = .ref a ∧ H a = some (.lst vs) ∧ Reps G c H ds vs
  | .dct kvs, v => ∃ a vs, v = .ref a ∧ H a = some (.dK vs) ∧ RepK G c H kvs vs
  | .scr xs, v => ∃ a, v = .ref a ∧ SqL G.K H a (xs.map V.int)
  | .tup ds, v => Rep G c H (.tup ds) v
  | .non, v => v = .non
  | .bl b, v => v = .bl b
  | .int i, v => v = .int i
  | .str x, v => v = .str x
  | .loc n, v => Rep G c H (.loc n) v
  | .obj C fs, v => Rep G c H (.obj C fs) v
  | .exv C fs, v => Rep G c H (.exv C fs) v
theorem Rep.view {d : D} {v : V} (h : Rep G c H d v) : View G c H d v := by
  cases d with
  | lst ds =>
    simp only [Rep] at h
    obtain ⟨a, vs, e, _, q, r⟩ := h
    exact ⟨a, vs, e, q, r⟩
  | dct kvs =>
    simp only [Rep] at h
    obtain ⟨a, vs, e, _, q, r⟩ := h
    exact ⟨a, vs, e, q, r⟩
  | scr xs =>
    simp only [Rep] at h
    obtain ⟨a, e, q⟩ := h
    refine ⟨a, e, ?_⟩
    rcases q with ⟨_, q⟩ | q
    · exact .inl q
    · exact q.seq
  | non => simpa [Rep, View] using h
  | bl b => simpa [Rep, View] using h
  | int b => simpa [Rep, View] using h
  | str b => simpa [Rep, View] using h
  | tup ds => exact h
  | loc n => exact h
  | obj C fs => exact h
  | exv C fs => exact h
theorem RW.keep (hm : Muts c H) (k : Kp c c' H H') {w : W} {v : V} (h : RW G c ρ σ H w v) : RW G c' ρ σ H' w v := by
  cases w with
  | d x => exact Rep.keep hm k x v h
  | own i => exact h
theorem view_of (C : Cn G c ρ S σ H) {w : W} {v : V} {d : D} (h : RW G c ρ σ H w v) (hd : look ρ S w = some d) : View G c H d v := by
  cases w with
  | own i =>
    obtain ⟨⟨o, e⟩, e2⟩ := h
    obtain ⟨p, e1, _, _, _, r⟩ := C.own i o e
    have ev : v = .ref p := by
      rw [e1] at e2
      exact (Option.some.inj (Option.some.inj e2)).symm
    subst ev
    cases o with
    | lst xs =>
      simp only [look, e, Option.some.injEq] at hd
      subst hd
      obtain ⟨vs, q, r⟩ := r
      exact ⟨p, vs, rfl, q, r⟩
    | dct xs =>
      simp only [look, e, Option.some.injEq] at hd
      subst hd
      obtain ⟨vs, q, r⟩ := r
      exact ⟨p, vs, rfl, q, r⟩
    | dtt xs => simp [look, e] at hd
    | ins C' fs => simp [look, e] at hd
    | exn C' fs => simp [look, e] at hd
    | xdt fs => simp [look, e] at hd
    | dead => simp [look, e] at hd
  | d x =>
    have h' : Rep G c H x v := h
    cases x with
    | loc n =>
      have h2 := h'
      simp only [Rep] at h2
      obtain ⟨a, ea, ev⟩ := h2
      cases es : S[n]? with
      | none => simp only [look, es, Option.some.injEq] at hd; subst hd; exact h'.view
      | some o =>
        have r := C.cs.sto n o a es ea
        cases o with
        | lst xs => simp only [look, es, Option.some.injEq] at hd; subst hd; obtain ⟨vs, q, r⟩ := r; exact ⟨a, vs, ev, q, r⟩
        | dct xs => simp only [look, es, Option.some.injEq] at hd; subst hd; obtain ⟨vs, q, r⟩ := r; exact ⟨a, vs, ev, q, r⟩
        | dtt xs => simp only [look, es, Option.some.injEq] at hd; subst hd; exact h'.view
        | ins C' fs => simp only [look, es, Option.some.injEq] at hd; subst hd; exact h'.view
        | exn C' fs => simp only [look, es, Option.some.injEq] at hd; subst hd; exact h'.view
        | xdt fs => simp only [look, es, Option.some.injEq] at hd; subst hd; exact h'.view
        | dead => simp only [look, es, Option.some.injEq] at hd; subst hd; exact h'.view
    | _ => simp only [look, Option.some.injEq] at hd; subst hd; exact h'.view

/-! ### an exception told -/
def ExR (G : Gs) (c : Ct) (H : Hp) (C : String) (fs : Fld) (cls : Value) (d : Option Addr) : Prop :=
  ∃ A, G.mg C = some (.ref A) ∧ cls = .ref A ∧ (fs = [] → d = none) ∧ (fs ≠ [] → ∃ dd vs, d = some dd ∧ ¬ c.M dd ∧ H dd = some (.xd vs) ∧ RepF G c H fs vs)
/-- behind an expression's part: what is wanted of its value, what is wanted of an exception -/
def Post {α : Type} (G : Gs) (Wx : WX) (c : Ct) (ρ : Env) (σ : L2.St) (H : Hp) (P : α → Store → Prop) : Res α → Prop
  | .ok a S' => P a S'
  | .exc C fs S' => ∀ cls d c' H', Stp c c' H H' → Cn G c' ρ S' σ H' → ExR G c' H' C fs cls d → Wx cls d σ H'
  | .bad => False
theorem Post.bind {α β : Type} {Wx : WX} {P : β → Store → Prop} {r : Res α} {f : α → Store → Res β} (h : Post G Wx c ρ σ H P (r.bind f)) : Post G Wx c ρ σ H (fun a S1 => Post G Wx c ρ σ H P (f a S1)) r := by
  cases r with
  | ok a S1 => exact h
  | exc C fs S1 => exact h
  | bad => exact h
theorem Post.mono {α : Type} {Wx : WX} {P P' : α → Store → Prop} {r : Res α} (h : Post G Wx c ρ σ H P r) (k : ∀ a S1, P a S1 → P' a S1) : Post G Wx c ρ σ H P' r := by
  cases r with
  | ok a S1 => exact k a S1 h
  | exc C fs S1 => exact h
  | bad => exact h
theorem Post.step {α : Type} {Wx : WX} {c1 : Ct} {H1 : Hp} {P : α → Store → Prop} {r : Res α} (s : Stp c c1 H H1) (h : Post G Wx c ρ σ H P r) : Post G Wx c1 ρ σ H1 P r := by
  cases r with
  | ok a S1 => exact h
  | exc C fs S1 => exact fun cls d c' H' s' C' e => h cls d c' H' (s.trans s') C' e
  | bad => exact h
/-- bound, from a later state, with another wish -/
theorem Post.go {α β : Type} {Wx : WX} {c1 : Ct} {H1 : Hp} {P : β → Store → Prop} {P' : α → Store → Prop} {r : Res α} {f : α → Store → Res β} (s : Stp c c1 H H1) (h : Post G Wx c ρ σ H P (r.bind f))
    (k : ∀ a S1, Post G Wx c ρ σ H P (f a S1) → P' a S1) : Post G Wx c1 ρ σ H1 P' r := (h.bind.mono k).step s

/-! ### the judgements -/
abbrev WantE (G : Gs) (c : Ct) (ρ : Env) (σ : L2.St) (H : Hp) (Q : VK) : W → Store → Prop := fun w S' =>
  ∀ c' v H', Stp c c' H H' → Cn G c' ρ S' σ H' → RW G c' ρ σ H' w v → Q v H'
abbrev WantT (G : Gs) (c : Ct) (ρ : Env) (σ : L2.St) (H : Hp) (Q : Bool → Hp → Prop) : Bool → Store → Prop := fun b S' =>
  ∀ c' H', Stp c c' H H' → Cn G c' ρ S' σ H' → Q b H'
def RWs (G : Gs) (c : Ct) (ρ : Env) (σ : L2.St) (H : Hp) : List W → List V → Prop
  | [], vs => vs = []
  | w :: ws, vs => ∃ v r, vs = v :: r ∧ RW G c ρ σ H w v ∧ RWs G c ρ σ H ws r
abbrev WantA (G : Gs) (c : Ct) (ρ : Env) (σ : L2.St) (H : Hp) (Q : List V → Hp → Prop) : List W → Store → Prop := fun ws S' =>
  ∀ c' vs H', Stp c c' H H' → Cn G c' ρ S' σ H' → RWs G c' ρ σ H' ws vs → Q vs H'
abbrev Ct.add (c : Ct) (p : Addr) : Ct := { c with M := fun a => a = p ∨ c.M a }
/-- the own slots stand elsewhere -/
abbrev Apart (c : Ct) (ρ : Env) (σ : L2.St) (p : Addr) : Prop := c.M p ∧ ¬ c.M0 p ∧ p ∉ c.β ∧ ∀ (i : Nat) (o : SO), ρ[i]? = some (.own o) → σ[i]? ≠ some (some (V.ref p))
/-- a new list at p, nobody's yet -/
abbrev WantN (G : Gs) (c : Ct) (ρ : Env) (σ : L2.St) (H : Hp) (Q : VK) : List D → Store → Prop := fun ds S' =>
  ∀ c' p vs H', Stp c c' H H' → Cn G c' ρ S' σ H' → H p = none → Apart c' ρ σ p → Reps G c' H' ds vs → H' p = some (.lst vs) → Q (.ref p) H'
abbrev Ct.sub (c : Ct) (p : Addr) : Ct := { c with M := fun a => c.M a ∧ a ≠ p }
abbrev gs (X : Cx) : Gs := ⟨X.K, X.mg⟩
structure EvOk (X : Cx) (Wx : WX) (e : Expr) (F : EX) : Prop where
  ex : ∃ t, PE X e t ∧ ∀ c ρ S σ H (Q : VK), Cn (gs X) c ρ S σ H → Post (gs X) Wx c ρ σ H (WantE (gs X) c ρ σ H Q) (F ρ S) → t σ H Q
structure TsOk (X : Cx) (Wx : WX) (e : Expr) (F : TX) : Prop where
  ex : ∃ t, PT X e t ∧ ∀ c ρ S σ H (Q : Bool → Hp → Prop), Cn (gs X) c ρ S σ H → Post (gs X) Wx c ρ σ H (WantT (gs X) c ρ σ H Q) (F ρ S) → t σ H Q
structure TwOk (X : Cx) (Wx : WX) (e : Expr) (F : TX) : Prop where
  ex : ∃ t, PW X e t ∧ ∀ c ρ S σ H (Q : Bool → Hp → Prop), Cn (gs X) c ρ S σ H → Post (gs X) Wx c ρ σ H (WantT (gs X) c ρ σ H Q) (F ρ S) → t σ H Q
structure ArOk (X : Cx) (Wx : WX) (es : List Expr) (F : AX) : Prop where
  ex : ∃ t, PA X es t ∧ ∀ c ρ S σ H (Q : List V → Hp → Prop), Cn (gs X) c ρ S σ H → Post (gs X) Wx c ρ σ H (WantA (gs X) c ρ σ H Q) (F ρ S) → t σ H Q
structure NwOk (X : Cx) (Wx : WX) (e : Expr) (F : NX) : Prop where
  ex : ∃ t, PE X e t ∧ ∀ c ρ S σ H (Q : VK), Cn (gs X) c ρ S σ H → Post (gs X) Wx c ρ σ H (WantN (gs X) c ρ σ H Q) (F ρ S) → t σ H Q

/-! ### new lists -/
theorem Kp.add {p : Addr} (h : H p = none) : Kp c (c.add p) H H :=
  ⟨fun _ _ q _ => q, fun a q n => by rcases q with rfl | q; exact h; exact absurd q n, fun _ _ q => q, fun _ o q => ⟨o, q⟩⟩
theorem Kp.addg {p : Addr} (g : Grow H H') (h : H p = none) : Kp c (c.add p) H H' :=
  ⟨fun a o q _ => g a o q, fun a q n => by rcases q with rfl | q; exact h; exact absurd q n, fun _ _ q => q, fun a o q => ⟨o, g a o q⟩⟩
theorem Cs.notM (C : Cs G c S H) {p : Addr} (h : H p = none) : ¬ c.M p := fun z => by
  obtain ⟨o, e, _⟩ := C.muts p z
  rw [h] at e; cases e
theorem Cs.add (C : Cs G c S H) {p : Addr} {u : HO} (g : Grow H H') (h : H p = none) (hp : H' p = some u) (m : Mut (some u)) : Cs G (c.add p) S H' where
  muts a z := by
    rcases z with rfl | z
    · exact ⟨u, hp, m⟩
    · obtain ⟨o, e, m⟩ := C.muts a z
      exact ⟨o, g a o e, m⟩
  m0 a z := .inr (C.m0 a z)
  bm a z := .inr (C.bm a z)
  nd := C.nd
  len := C.len
  sto n o a h1 h2 := SoR.keep C.muts (.addg g h) (fun u => g a u) (C.sto n o a h1 h2)
theorem Cn.add (C : Cn G c ρ S σ H) {p : Addr} {u : HO} (g : Grow H H') (h : H p = none) (hp : H' p = some u) (m : Mut (some u)) : Cn G (c.add p) ρ S σ H' where
  cs := C.cs.add g h hp m
  slen := C.slen
  val i d q := let ⟨v, e, r⟩ := C.val i d q; ⟨v, e, r.keep C.cs.muts (.addg g h)⟩
  own i o q := let ⟨p', e, m', m0, nb, r⟩ := C.own i o q; ⟨p', e, .inr m', m0, nb, SoR.keep C.cs.muts (.addg g h) (fun u => g p' u) r⟩
  sep := C.sep
theorem Stp.add {p : Addr} (h : H p = none) : Stp c (c.add p) H H := ⟨.add h, fun _ _ q _ _ => q, fun _ q => .inl q, rfl⟩
/-- .. of one just laid down -/
theorem WantN.fresh {Q : VK} {ds : List D} (h : WantN G c ρ σ H Q ds S) {c' : Ct} {p : Addr} {vs : List V} {H1 H' : Hp} (s1 : Stp c c' H H1) (C1 : Cn G c' ρ S σ H1) (r1 : Reps G c' H1 ds vs) (hp : H1 p = none) (g : Grow H1 H') (e2 : H' p = some (.lst vs)) : Q (.ref p) H' := by
  have hH : H p = none := by
    cases e : H p with
    | none => rfl
    | some o => obtain ⟨o', e'⟩ := s1.kp.there p o e; rw [hp] at e'; cases e'
  refine h (c'.add p) p vs H' (s1.trans ((Stp.add hp).trans (.grow g))) (C1.add g hp e2 trivial) hH ⟨.inl rfl, fun z => C1.cs.notM hp (C1.cs.m0 _ z), fun z => C1.cs.notM hp (C1.cs.bm _ z), fun i o q z => ?_⟩ (r1.keep C1.cs.muts (.addg g hp)) e2
  obtain ⟨p', e, m, _⟩ := C1.own i o q
  rw [e] at z
  cases z
  exact C1.cs.notM hp m
theorem Kp.subw {p : Addr} : Kp c (c.sub p) H H := .weak (fun _ z => z.1) rfl
theorem Cs.sub (C : Cs G c S H) {p : Addr} (h0 : ¬ c.M0 p) (hb : p ∉ c.β) : Cs G (c.sub p) S H where
  muts a z := C.muts a z.1
  m0 a z := ⟨C.m0 a z, fun e => h0 (e ▸ z)⟩
  bm a z := ⟨C.bm a z, fun e => hb (e ▸ z)⟩
  nd := C.nd
  len := C.len
  sto n o a h1 h2 := SoR.keep C.muts .subw (fun _ u => u) (C.sto n o a h1 h2)
theorem Cn.sub (C : Cn G c ρ S σ H) {p : Addr} (ap : Apart c ρ σ p) : Cn G (c.sub p) ρ S σ H where
  cs := C.cs.sub ap.2.1 ap.2.2.1
  slen := C.slen
  val i d q := let ⟨v, e, r⟩ := C.val i d q; ⟨v, e, r.keep C.cs.muts .subw⟩
  own i o q := let ⟨p', e, m', m0, nb, r⟩ := C.own i o q; ⟨p', e, ⟨m', fun z => ap.2.2.2 i o q (z ▸ e)⟩, m0, nb, SoR.keep C.cs.muts .subw (fun _ u => u) r⟩
  sep := C.sep
/-- let go: nobody may change it any more -/
theorem Stp.sub {c0 : Ct} {p : Addr} {H0 : Hp} (s : Stp c0 c H0 H) (h : H0 p = none) : Stp c0 (c.sub p) H0 H where
  kp := ⟨s.kp.keep, fun a z n => s.kp.new a z.1 n, s.kp.pre, s.kp.there⟩
  prot := s.prot
  newb := s.newb
  z := s.z
end
end Dn
end OfLayB
section OfLayC
set_option Elab.async false
set_option linter.all false
set_option maxRecDepth 100000
set_option maxHeartbeats 1000000
/-! LayC: expressions. -/
namespace Dn
open PySem PySem.Spec PyProof.Rows L2

/-- a two-place operation on data -/
def OpD (X : Cx) (g : Value → Value → Sem Value) (f : D → D → Option D) : Prop :=
  ∃ r : R2, OpR X g r ∧ ∀ c ρ S σ H x y dx dy d (Q : VK), Cn (gs X) c ρ S σ H → View (gs X) c H dx x → View (gs X) c H dy y → f dx dy = some d → (∀ v H', Grow H H' → Rep (gs X) c H' d v → Q v H') → r x y H Q
def UnD (X : Cx) (g : Value → Sem Value) (f : D → Option D) : Prop :=
  ∃ r : V → Hp → VK → Prop, UnR X g r ∧ ∀ c ρ S σ H x dx d (Q : VK), Cn (gs X) c ρ S σ H → View (gs X) c H dx x → f dx = some d → (∀ v H', Grow H H' → Rep (gs X) c H' d v → Q v H') → r x H Q
def IxD (X : Cx) (f : D → D → Option D) : Prop :=
  ∃ r : R2, IxR X r ∧ ∀ c ρ S σ H x y dx dy d (Q : VK), Cn (gs X) c ρ S σ H → View (gs X) c H dx x → View (gs X) c H dy y → f dx dy = some d → (∀ v H', Grow H H' → Rep (gs X) c H' d v → Q v H') → r x y H Q

section
variable {X : Cx} {Wx : WX} {a b e : Expr} {Fa Fb Fc : EX} {pos : Pos}
theorem ev_name (i : Nat) {x : Str} (hN : X.N[i]? = some x := by rfl) (hv : Vis X.env.scope x := by first | exact Or.inl rfl | exact Or.inr (Or.inl rfl) | exact Or.inr (Or.inr rfl))
    (hd : (x == ("__debug__" : Str)) = false := by decide) (hcd : (x == ("__classdict__" : Str)) = false := by decide) : EvOk X Wx (.Name x pos) (eName i) := by
  refine ⟨tVar i, pe_var hN hv hd hcd, fun c ρ S σ H Q C h => ?_⟩
  unfold eName at h
  split at h
  · rename_i d e
    obtain ⟨v, e1, r⟩ := C.val i d e
    exact ⟨v, e1, h c v H .refl C r⟩
  · rename_i o e
    obtain ⟨p, e1, _⟩ := C.own i o e
    exact ⟨.ref p, e1, h c _ H .refl C ⟨⟨o, e⟩, e1⟩⟩
  · exact h.elim
theorem ev_const {d : D} {v : V} (hp : PE X e (tC v)) (r : ∀ c H, Rep (gs X) c H d v) : EvOk X Wx e (eC d) :=
  ⟨_, hp, fun c ρ S σ H Q C h => h c v H .refl C (r c H)⟩
theorem ev_int {i : Int} {j} : EvOk X Wx (.Constant (.int i) j pos) (eC (.int i)) := ev_const pe_int fun _ _ => by simp [Rep]
theorem ev_bl {k : Bool} {j} : EvOk X Wx (.Constant (.bool k) j pos) (eC (.bl k)) := ev_const pe_bl fun _ _ => by simp [Rep]
theorem ev_non {j} : EvOk X Wx (.Constant .none j pos) (eC .non) := ev_const pe_non fun _ _ => by simp [Rep]
theorem ev_str {x : Str} {j} : EvOk X Wx (.Constant (.str x) j pos) (eC (.str x)) := ev_const pe_str fun _ _ => by simp [Rep]
/-- a module's constant -/
theorem ev_globI {x : Str} {i : Int} (hg : Gl X x) (hm : ∃ t, X.mg x = some (.int i t)) (hd : (x == ("__debug__" : Str)) = false := by decide) : EvOk X Wx (.Name x pos) (eC (.int i)) := by
  obtain ⟨t, hm⟩ := hm
  exact ev_const (pe_glob hg hm (v := .int i) ⟨t, rfl⟩ hd) fun _ _ => by simp [Rep]
theorem ev_globS {x y : Str} (hg : Gl X x) (hm : ∃ t, X.mg x = some (.str y t)) (hd : (x == ("__debug__" : Str)) = false := by decide) : EvOk X Wx (.Name x pos) (eC (.str y)) := by
  obtain ⟨t, hm⟩ := hm
  exact ev_const (pe_glob hg hm (v := .str y) ⟨t, rfl⟩ hd) fun _ _ => by simp [Rep]
/-- a statement, an expression that is never come to -/
theorem PE.never : PE X e (fun _ _ _ => False) := ⟨fun _ _ _ _ _ _ h => h.elim⟩
theorem ev_never : EvOk X Wx e eBad := ⟨_, PE.never, fun _ _ _ _ _ _ _ h => h.elim⟩

theorem ret1_post {G : Gs} {c : Ct} {ρ : Env} {σ : L2.St} {H : Hp} {P : W → Store → Prop} {o : Option D} {S : Store} (h : Post G Wx c ρ σ H P (ret1 o S)) : ∃ d, o = some d ∧ P (.d d) S := by
  cases o with
  | none => exact h.elim
  | some d => exact ⟨d, rfl, h⟩
theorem obind {α β : Type} {o : Option α} {f : α → Option β} {b : β} (h : o.bind f = some b) : ∃ a, o = some a ∧ f a = some b := by
  cases o with
  | none => cases h
  | some a => exact ⟨a, rfl, h⟩
theorem ev_bin {op : Operator} {f : D → D → Option D} (ho : OpD X (binaryOp op) f) (ha : EvOk X Wx a Fa) (hb : EvOk X Wx b Fb) : EvOk X Wx (.BinOp a op b pos) (eBin f Fa Fb) := by
  obtain ⟨r, pr, sr⟩ := ho
  obtain ⟨ta, pa, sa⟩ := ha.ex
  obtain ⟨tb, pb, sb⟩ := hb.ex
  refine ⟨_, pe_op pr pa pb, fun c ρ S σ H Q C h => ?_⟩
  refine sa c ρ S σ H _ C (h.go .refl fun x S1 h1 c1 v1 H1 s1 C1 r1 => ?_)
  refine sb c1 ρ S1 σ H1 _ C1 (h1.go s1 fun y S2 h2 c2 v2 H2 s2 C2 r2 => ?_)
  obtain ⟨d, e, h3⟩ := ret1_post h2
  obtain ⟨dx, ex, e⟩ := obind e
  obtain ⟨dy, ey, e⟩ := obind e
  exact sr c2 ρ S2 σ H2 v1 v2 dx dy d Q C2 (view_of C2 (r1.keep C1.cs.muts s2.kp) ex) (view_of C2 r2 ey) e fun v H' g r => h3 c2 v H' ((s1.trans s2).trans (.grow g)) (C2.grow g) r
theorem ev_cmp {op : CmpOp} {f : D → D → Option D} (ho : OpD X (compareOp op) f) (ha : EvOk X Wx a Fa) (hb : EvOk X Wx b Fb) (hm : behindInMarks op b = false) : EvOk X Wx (.Compare a [op] [b] pos) (eBin f Fa Fb) := by
  obtain ⟨r, pr, sr⟩ := ho
  obtain ⟨ta, pa, sa⟩ := ha.ex
  obtain ⟨tb, pb, sb⟩ := hb.ex
  refine ⟨_, pe_cmpR pr pa pb hm, fun c ρ S σ H Q C h => ?_⟩
  refine sa c ρ S σ H _ C (h.go .refl fun x S1 h1 c1 v1 H1 s1 C1 r1 => ?_)
  refine sb c1 ρ S1 σ H1 _ C1 (h1.go s1 fun y S2 h2 c2 v2 H2 s2 C2 r2 => ?_)
  obtain ⟨d, e, h3⟩ := ret1_post h2
  obtain ⟨dx, ex, e⟩ := obind e
  obtain ⟨dy, ey, e⟩ := obind e
  exact sr c2 ρ S2 σ H2 v1 v2 dx dy d Q C2 (view_of C2 (r1.keep C1.cs.muts s2.kp) ex) (view_of C2 r2 ey) e fun v H' g r => h3 c2 v H' ((s1.trans s2).trans (.grow g)) (C2.grow g) r
theorem ev_ix {f : D → D → Option D} (ho : IxD X f) (ha : EvOk X Wx a Fa) (hb : EvOk X Wx b Fb) (hs : PlainIx b := by exact fun _ _ => rfl) : EvOk X Wx (.Subscript a b pos) (eBin f Fa Fb) := by
  obtain ⟨r, pr, sr⟩ := ho
  obtain ⟨ta, pa, sa⟩ := ha.ex
  obtain ⟨tb, pb, sb⟩ := hb.ex
  refine ⟨_, pe_ix pr pa pb hs, fun c ρ S σ H Q C h => ?_⟩
  refine sa c ρ S σ H _ C (h.go .refl fun x S1 h1 c1 v1 H1 s1 C1 r1 => ?_)
  refine sb c1 ρ S1 σ H1 _ C1 (h1.go s1 fun y S2 h2 c2 v2 H2 s2 C2 r2 => ?_)
  obtain ⟨d, e, h3⟩ := ret1_post h2
  obtain ⟨dx, ex, e⟩ := obind e
  obtain ⟨dy, ey, e⟩ := obind e
  exact sr c2 ρ S2 σ H2 v1 v2 dx dy d Q C2 (view_of C2 (r1.keep C1.cs.muts s2.kp) ex) (view_of C2 r2 ey) e fun v H' g r => h3 c2 v H' ((s1.trans s2).trans (.grow g)) (C2.grow g) r
theorem ev_un {op : UnaryOp} {f : D → Option D} (ho : UnD X (unaryOp op) f) (ha : EvOk X Wx a Fa) : EvOk X Wx (.UnaryOp op a pos) (eUn f Fa) := by
  obtain ⟨r, pr, sr⟩ := ho
  obtain ⟨ta, pa, sa⟩ := ha.ex
  refine ⟨_, pe_un pr pa, fun c ρ S σ H Q C h => ?_⟩
  refine sa c ρ S σ H _ C (h.go .refl fun x S1 h1 c1 v1 H1 s1 C1 r1 => ?_)
  obtain ⟨d, e, h3⟩ := ret1_post h1
  obtain ⟨dx, ex, e⟩ := obind e
  exact sr c1 ρ S1 σ H1 v1 dx d Q C1 (view_of C1 r1 ex) e fun v H' g r => h3 c1 v H' (s1.trans (.grow g)) (C1.grow g) r

/-! ### the operators -/
theorem opd_int {g : Value → Value → Sem Value} {p : Int → Int → Prop} {q : Int → Int → V} {f : D → D → Option D} (h : OpR X g (rI p q))
    (hf : ∀ dx dy d, f dx dy = some d → ∃ i j, dx = .int i ∧ dy = .int j ∧ p i j ∧ ∀ c H, Rep (gs X) c H d (q i j)) : OpD X g f := by
  refine ⟨_, h, fun c ρ S σ H x y dx dy d Q C vx vy e k => ?_⟩
  obtain ⟨i, j, rfl, rfl, hp, r⟩ := hf _ _ _ e
  exact ⟨i, j, vx, vy, hp, k _ _ (.refl _) (r _ _)⟩
theorem opd_int0 {g : Value → Value → Sem Value} {q : Int → Int → V} {f : D → D → Option D} (h : OpR X g (rI0 q))
    (hf : ∀ dx dy d, f dx dy = some d → ∃ i j, dx = .int i ∧ dy = .int j ∧ ∀ c H, Rep (gs X) c H d (q i j)) : OpD X g f := by
  refine ⟨_, h, fun c ρ S σ H x y dx dy d Q C vx vy e k => ?_⟩
  obtain ⟨i, j, rfl, rfl, r⟩ := hf _ _ _ e
  exact ⟨i, j, vx, vy, k _ _ (.refl _) (r _ _)⟩
theorem line_eq : line = sizeLine := by rw [sizeLine_eq]; rfl
theorem od_add : OpD X (binaryOp .Add) opAdd := by
  refine ⟨_, op_add.or (op_add_str.or (op_cat.or op_catA)), fun c ρ S σ H x y dx dy d Q C vx vy e k => ?_⟩
  unfold opAdd at e
  split at e
  · cases e
    exact .inl ⟨_, _, vx, vy, k _ _ (.refl _) (by simp [Rep])⟩
  · split at e
    · cases e
      exact .inr (.inl ⟨_, _, vx, vy, by rw [← line_eq]; assumption, k _ _ (.refl _) (by simp [Rep])⟩)
    · cases e
  · split at e
    · cases e
      obtain ⟨a1, vs, e1, h1, r1⟩ := vx
      obtain ⟨a2, ws, e2, h2, r2⟩ := vy
      refine .inr (.inr (.inl ⟨a1, a2, vs, ws, e1, e2, h1, h2, by rw [← line_eq, ← r1.length, ← r2.length]; assumption, fun p hp => ?_⟩))
      have g : Grow H (upd H p (.lst (vs ++ ws))) := .upd hp
      refine k _ _ g ?_
      simp only [Rep]
      exact ⟨p, vs ++ ws, rfl, C.cs.notM hp, upd_same, (r1.append r2).keep C.cs.muts (.grow g)⟩
    · cases e
  · split at e
    · cases e
      simp only [View, Rep] at vx vy
      obtain ⟨a1, vs, e1, h1, r1⟩ := vx
      obtain ⟨a2, ws, e2, h2, r2⟩ := vy
      refine .inr (.inr (.inr ⟨a1, a2, vs, ws, e1, e2, h1, h2, by rw [← line_eq, ← r1.length, ← r2.length]; assumption, fun z => ?_, fun _ z => ?_, fun _ _ p hp => ?_⟩))
      · subst z
        refine k _ _ (.refl _) ?_
        simp only [Rep]
        exact ⟨a2, ws, rfl, h2, by simpa using r1.append r2⟩
      · subst z
        refine k _ _ (.refl _) ?_
        simp only [Rep]
        exact ⟨a1, vs, rfl, h1, by simpa using r1.append r2⟩
      · have g : Grow H (upd H p (.tup (vs ++ ws))) := .upd hp
        refine k _ _ g ?_
        simp only [Rep]
        exact ⟨p, vs ++ ws, rfl, .of upd_same, (r1.append r2).keep C.cs.muts (.grow g)⟩
    · cases e
  · cases e
theorem od_sub : OpD X (binaryOp .Sub) opSub := opd_int0 op_sub fun dx dy d e => by
  unfold opSub at e
  split at e <;> cases e
  exact ⟨_, _, rfl, rfl, fun _ _ => by simp [Rep]⟩
theorem ibits (x : Int) (h : x.natAbs < 2 ^ 2000) : Builtin.Int.intBits x ≤ 2000 := by
  unfold Builtin.Int.intBits
  split
  · omega
  · rename_i hn
    have h0 : x.natAbs ≠ 0 := by
      intro z
      have : x = 0 := by omega
      simp [this] at hn
    have := (Nat.log2_lt h0).mpr h
    omega
theorem od_mul : OpD X (binaryOp .Mult) opMul := by
  refine ⟨_, op_mul.or (op_mulX.or op_rep), fun c ρ S σ H x y dx dy d Q C vx vy e k => ?_⟩
  unfold opMul at e
  split at e
  · rename_i i j
    split at e
    · cases e
      rename_i hm
      simp only [mulOk, Bool.or_eq_true, Bool.and_eq_true, decide_eq_true_eq, fits] at hm
      have r : ∀ c H, Rep (gs X) c H (.int (i * j)) (.int (i * j)) := fun _ _ => by simp [Rep]
      rcases hm with (hm | hm) | hm
      · exact .inl ⟨i, j, vx, vy, .inl (by omega), k _ _ (.refl _) (r _ _)⟩
      · exact .inl ⟨i, j, vx, vy, .inr (by omega), k _ _ (.refl _) (r _ _)⟩
      · refine .inr (.inl ⟨i, j, vx, vy, ?_, k _ _ (.refl _) (r _ _)⟩)
        have h1 := ibits i hm.1
        have h2 := ibits j hm.2
        unfold CMulX
        omega
    · cases e
  · rename_i xs n
    split at e
    · cases e
      rename_i hn
      obtain ⟨a1, vs, e1, h1, r1⟩ := vx
      refine .inr (.inr ⟨a1, n, vs, e1, vy, h1, by omega, by omega, by rw [← line_eq, ← r1.length]; exact hn.2, fun p hp => ?_⟩)
      have g : Grow H (upd H p (.lst (List.replicate n.toNat vs).flatten)) := .upd hp
      refine k _ _ g ?_
      simp only [Rep]
      exact ⟨p, _, rfl, C.cs.notM hp, upd_same, (r1.rep _).keep C.cs.muts (.grow g)⟩
    · cases e
  · cases e
theorem od_fdiv : OpD X (binaryOp .FloorDiv) opFdiv := opd_int op_fdivN fun dx dy d e => by
  unfold opFdiv at e
  split at e
  · split at e
    · cases e
      exact ⟨_, _, rfl, rfl, by assumption, fun _ _ => by simp [Rep]⟩
    · cases e
  · cases e
theorem od_mod : OpD X (binaryOp .Mod) opMod := opd_int op_modN fun dx dy d e => by
  unfold opMod at e
  split at e
  · split at e
    · cases e
      exact ⟨_, _, rfl, rfl, by assumption, fun _ _ => by simp [Rep]⟩
    · cases e
  · cases e
theorem od_pow : OpD X (binaryOp .Pow) opPow := opd_int op_pow fun dx dy d e => by
  unfold opPow at e
  split at e
  · split at e
    · cases e
      rename_i h
      exact ⟨_, _, rfl, rfl, ⟨h.1, by omega, h.2.2⟩, fun _ _ => by simp [Rep]⟩
    · cases e
  · cases e
theorem od_shl : OpD X (binaryOp .LShift) opShl := opd_int op_shlW fun dx dy d e => by
  unfold opShl at e
  split at e
  · rename_i i j
    split at e
    · cases e
      rename_i h
      have h3 := h.2.2
      simp only [fits, decide_eq_true_eq] at h3
      have := ibits i h3
      refine ⟨_, _, rfl, rfl, ⟨h.1, ?_⟩, fun _ _ => by simp [Rep]⟩
      have h2 := h.2.1
      omega
    · cases e
  · cases e
theorem od_shr : OpD X (binaryOp .RShift) opShr := opd_int op_shr fun dx dy d e => by
  unfold opShr at e
  split at e
  · split at e
    · cases e
      exact ⟨_, _, rfl, rfl, by assumption, fun _ _ => by simp [Rep]⟩
    · cases e
  · cases e
theorem iAnd_eq (x y : Int) : iAnd x y = Builtin.bitAnd x y := by
  unfold iAnd Builtin.bitAnd
  rfl
theorem iOr_eq (x y : Int) : iOr x y = Builtin.bitOr x y := by
  unfold iOr Builtin.bitOr
  rw [iAnd_eq]
  rfl
theorem iXor_eq (x y : Int) : iXor x y = Builtin.bitXor x y := by
  unfold iXor Builtin.bitXor
  rw [iOr_eq, iAnd_eq]
theorem od_and : OpD X (binaryOp .BitAnd) opAnd := opd_int0 op_and fun dx dy d e => by
  unfold opAnd at e
  split at e <;> cases e
  exact ⟨_, _, rfl, rfl, fun _ _ => by simp [Rep, iAnd_eq]⟩
theorem od_or : OpD X (binaryOp .BitOr) opOr := opd_int0 op_or fun dx dy d e => by
  unfold opOr at e
  split at e <;> cases e
  exact ⟨_, _, rfl, rfl, fun _ _ => by simp [Rep, iOr_eq]⟩
theorem od_xor : OpD X (binaryOp .BitXor) opXor := opd_int0 op_xor fun dx dy d e => by
  unfold opXor at e
  split at e <;> cases e
  exact ⟨_, _, rfl, rfl, fun _ _ => by simp [Rep, iXor_eq]⟩
theorem ud_neg : UnD X (unaryOp .USub) opNeg := by
  refine ⟨_, un_neg, fun c ρ S σ H x dx d Q C vx e k => ?_⟩
  unfold opNeg at e
  split at e <;> cases e
  exact ⟨_, vx, k _ _ (.refl _) (by simp [Rep])⟩
theorem ud_inv : UnD X (unaryOp .Invert) opInv := by
  refine ⟨_, un_inv, fun c ρ S σ H x dx d Q C vx e k => ?_⟩
  unfold opInv at e
  split at e <;> cases e
  exact ⟨_, vx, k _ _ (.refl _) (by simp [Rep]; rfl)⟩
theorem od_lt : OpD X (compareOp .Lt) opLt := opd_int0 op_lt fun dx dy d e => by
  unfold opLt at e
  split at e <;> cases e
  exact ⟨_, _, rfl, rfl, fun _ _ => by simp [Rep]⟩
theorem od_le : OpD X (compareOp .LtE) opLe := opd_int0 op_le fun dx dy d e => by
  unfold opLe at e
  split at e <;> cases e
  exact ⟨_, _, rfl, rfl, fun _ _ => by simp [Rep]⟩
theorem od_gt : OpD X (compareOp .Gt) opGt := opd_int0 op_gt fun dx dy d e => by
  unfold opGt at e
  split at e <;> cases e
  exact ⟨_, _, rfl, rfl, fun _ _ => by simp [Rep]⟩
theorem od_ge : OpD X (compareOp .GtE) opGe := opd_int0 op_ge fun dx dy d e => by
  unfold opGe at e
  split at e <;> cases e
  exact ⟨_, _, rfl, rfl, fun _ _ => by simp [Rep]⟩
theorem View.non_iff {G : Gs} {c : Ct} {H : Hp} {d : D} {v : V} (h : View G c H d v) : isNone d = decide (v = .non) := by
  cases d with
  | non => cases h; rfl
  | bl b => cases h; rfl
  | int i => cases h; rfl
  | str x => cases h; rfl
  | tup ds => simp only [View, Rep] at h; obtain ⟨a, vs, rfl, _⟩ := h; rfl
  | lst ds => obtain ⟨a, vs, rfl, _⟩ := h; rfl
  | dct ds => obtain ⟨a, vs, rfl, _⟩ := h; rfl
  | scr ds => obtain ⟨a, rfl, _⟩ := h; rfl
  | loc n => simp only [View, Rep] at h; obtain ⟨a, _, rfl⟩ := h; rfl
  | obj C fs => simp only [View, Rep] at h; obtain ⟨a, _, _, _, rfl, _⟩ := h; rfl
  | exv C fs => simp only [View, Rep] at h; obtain ⟨a, _, _, rfl, _⟩ := h; rfl
theorem od_is : OpD X (compareOp .Is) opIs := by
  refine ⟨_, op_isN, fun c ρ S σ H x y dx dy d Q C vx vy e k => ?_⟩
  unfold opIs at e
  split at e
  · cases e
    rename_i h
    rw [vy.non_iff] at h
    exact ⟨of_decide_eq_true h, k _ _ (.refl _) (by simp [Rep, vx.non_iff])⟩
  · cases e
theorem od_isnot : OpD X (compareOp .IsNot) opIsNot := by
  refine ⟨_, op_notN, fun c ρ S σ H x y dx dy d Q C vx vy e k => ?_⟩
  unfold opIsNot at e
  split at e
  · cases e
    rename_i h
    rw [vy.non_iff] at h
    exact ⟨of_decide_eq_true h, k _ _ (.refl _) (by simp [Rep, vx.non_iff])⟩
  · cases e
end
end Dn
end OfLayC
section OfLayD
set_option Elab.async false
set_option linter.all false
set_option maxRecDepth 100000
set_option maxHeartbeats 1000000
/-! LayD: equality, in, subscripts, slices, tests, arguments. -/
namespace Dn
open PySem PySem.Spec PyProof.Rows L2

mutual
def toPy : D → PyData
  | .non => .none
  | .bl b => .bool b
  | .int i => .int i
  | .str x => .str x
  | .tup xs => .tuple (toPyAll xs)
  | .lst xs => .list (toPyAll xs)
  | _ => .none
def toPyAll : List D → List PyData
  | [] => []
  | x :: xs => toPy x :: toPyAll xs
end
section
variable {G : Gs} {c : Ct} {H : Hp}
mutual
theorem dp_of : ∀ (d : D) (v : V), d.plain = true → Rep G c H d v → Dp G.K H v (toPy d)
  | .non, v, _, h => by simp only [Rep] at h; subst h; exact .non
  | .bl b, v, _, h => by simp only [Rep] at h; subst h; exact .bl b
  | .int i, v, _, h => by simp only [Rep] at h; subst h; exact .int i
  | .str x, v, _, h => by simp only [Rep] at h; subst h; exact .str x
  | .tup ds, v, p, h => by
    simp only [Rep] at h
    simp only [D.plain] at p
    obtain ⟨a, vs, rfl, q, r⟩ := h
    exact .tup q (dpAll_of ds vs p r)
  | .lst ds, v, p, h => by
    simp only [Rep] at h
    simp only [D.plain] at p
    obtain ⟨a, vs, rfl, _, q, r⟩ := h
    exact .lst (.of q) (dpAll_of ds vs p r)
  | .dct _, v, p, h => by simp [D.plain] at p
  | .scr _, v, p, h => by simp [D.plain] at p
  | .loc _, v, p, h => by simp [D.plain] at p
  | .obj _ _, v, p, h => by simp [D.plain] at p
  | .exv _ _, v, p, h => by simp [D.plain] at p
theorem dpAll_of : ∀ (ds : List D) (vs : List V), D.plainAll ds = true → Reps G c H ds vs → DpAll G.K H vs (toPyAll ds)
  | [], vs, _, h => by simp only [Reps] at h; subst h; exact .nil
  | d :: ds, vs, p, h => by
    simp only [Reps] at h
    simp only [D.plainAll, Bool.and_eq_true] at p
    obtain ⟨v, r, rfl, q, t⟩ := h
    exact .cons (dp_of d v p.1 q) (dpAll_of ds r p.2 t)
end
theorem dp_view {d : D} {v : V} (p : d.plain = true) (h : View G c H d v) : Dp G.K H v (toPy d) := by
  cases d with
  | lst ds =>
    simp only [D.plain] at p
    obtain ⟨a, vs, rfl, q, r⟩ := h
    exact .lst (.of q) (dpAll_of ds vs p r)
  | tup ds => exact dp_of _ _ p h
  | non => cases h; exact .non
  | bl b => cases h; exact .bl b
  | int b => cases h; exact .int b
  | str b => cases h; exact .str b
  | dct _ => simp [D.plain] at p
  | scr _ => simp [D.plain] at p
  | loc _ => simp [D.plain] at p
  | obj _ _ => simp [D.plain] at p
  | exv _ _ => simp [D.plain] at p
end
mutual
theorem canLay_of : ∀ d : D, d.plain = true → (toPy d).canLay0 = true ∧ (toPy d).depth = d.depth
  | .non, _ => by simp [toPy, PyData.canLay0, PyData.depth, D.depth]
  | .bl b, _ => by simp [toPy, PyData.canLay0, PyData.depth, D.depth]
  | .int i, _ => by simp [toPy, PyData.canLay0, PyData.depth, D.depth]
  | .str x, p => by
    simp only [D.plain] at p
    simp [toPy, PyData.canLay0, PyData.depth, D.depth]
    exact p
  | .tup ds, p => by
    simp only [D.plain] at p
    have := canLayAll_of ds p
    simp [toPy, PyData.canLay0, PyData.depth, D.depth, this]
  | .lst ds, p => by
    simp only [D.plain] at p
    have := canLayAll_of ds p
    simp [toPy, PyData.canLay0, PyData.depth, D.depth, this]
  | .dct _, p => by simp [D.plain] at p
  | .scr _, p => by simp [D.plain] at p
  | .loc _, p => by simp [D.plain] at p
  | .obj _ _, p => by simp [D.plain] at p
  | .exv _ _, p => by simp [D.plain] at p
theorem canLayAll_of : ∀ ds : List D, D.plainAll ds = true → PyData.canLayAll0 (toPyAll ds) = true ∧ PyData.depthAll (toPyAll ds) = D.depthAll ds
  | [], _ => by simp [toPyAll, PyData.canLayAll0, PyData.depthAll, D.depthAll]
  | d :: ds, p => by
    simp only [D.plainAll, Bool.and_eq_true] at p
    have h1 := canLay_of d p.1
    have h2 := canLayAll_of ds p.2
    simp [toPyAll, PyData.canLayAll0, PyData.depthAll, D.depthAll, h1, h2]
end
theorem shaped_of {d : D} (h : d.eqOk = true) : SeqAt.shaped (toPy d) = true ∧ d.plain = true := by
  simp only [D.eqOk, Bool.and_eq_true, decide_eq_true_eq] at h
  have := canLay_of d h.1
  refine ⟨?_, h.1⟩
  simp only [SeqAt.shaped, Bool.and_eq_true, decide_eq_true_eq]
  exact ⟨this.1, by rw [this.2]; omega⟩
mutual
theorem eqv_of : ∀ a b : D, a.plain = true → b.plain = true → PyData.eqv (toPy a) (toPy b) = eqD a b
  | .non, b, _, q => by cases b <;> simp_all [toPy, PyData.eqv, eqD, D.plain]
  | .bl x, b, _, q => by cases b <;> simp_all [toPy, PyData.eqv, eqD, D.plain]
  | .int x, b, _, q => by cases b <;> simp_all [toPy, PyData.eqv, eqD, D.plain]
  | .str x, b, _, q => by cases b <;> simp_all [toPy, PyData.eqv, eqD, D.plain]
  | .tup xs, b, p, q => by
    cases b with
    | tup ys =>
      simp only [D.plain] at p q
      simp only [toPy, PyData.eqv, eqD]
      exact eqvAll_of xs ys p q
    | _ => simp_all [toPy, PyData.eqv, eqD, D.plain]
  | .lst xs, b, p, q => by
    cases b with
    | lst ys =>
      simp only [D.plain] at p q
      simp only [toPy, PyData.eqv, eqD]
      exact eqvAll_of xs ys p q
    | _ => simp_all [toPy, PyData.eqv, eqD, D.plain]
  | .dct _, _, p, _ => by simp [D.plain] at p
  | .scr _, _, p, _ => by simp [D.plain] at p
  | .loc _, _, p, _ => by simp [D.plain] at p
  | .obj _ _, _, p, _ => by simp [D.plain] at p
  | .exv _ _, _, p, _ => by simp [D.plain] at p
theorem eqvAll_of : ∀ a b : List D, D.plainAll a = true → D.plainAll b = true → PyData.eqvAll (toPyAll a) (toPyAll b) = eqAll a b
  | [], [], _, _ => by simp [toPyAll, PyData.eqvAll, eqAll]
  | [], _ :: _, _, _ => by simp [toPyAll, PyData.eqvAll, eqAll]
  | _ :: _, [], _, _ => by simp [toPyAll, PyData.eqvAll, eqAll]
  | x :: xs, y :: ys, p, q => by
    simp only [D.plainAll, Bool.and_eq_true] at p q
    simp [toPyAll, PyData.eqvAll, eqAll, eqv_of x y p.1 q.1, eqvAll_of xs ys p.2 q.2]
end
theorem toPyAll_map (ds : List D) : toPyAll ds = ds.map toPy := by
  induction ds with
  | nil => rfl
  | cons d ds ih => simp [toPyAll, ih]
theorem plainAll_mem {ds : List D} (h : D.plainAll ds = true) : ∀ d ∈ ds, d.plain = true := by
  induction ds with
  | nil => simp
  | cons x xs ih =>
    simp only [D.plainAll, Bool.and_eq_true] at h
    intro d hd
    rcases List.mem_cons.mp hd with rfl | hd
    · exact h.1
    · exact ih h.2 d hd

section
variable {X : Cx} {Wx : WX} {a b e : Expr} {Fa Fb Fc : EX} {pos : Pos}
theorem od_eq (hu : X.A.units + 64 < cLine) : OpD X (compareOp .Eq) opEq := by
  refine ⟨_, op_eqD hu, fun c ρ S σ H x y dx dy d Q C vx vy e k => ?_⟩
  unfold opEq at e
  split at e
  · cases e
    rename_i h
    rw [Bool.and_eq_true] at h
    have h1 := shaped_of h.1
    have h2 := shaped_of h.2
    refine ⟨_, _, dp_view h1.2 vx, dp_view h2.2 vy, h1.1, h2.1, k _ _ (.refl _) ?_⟩
    rw [eqv_of _ _ h1.2 h2.2]
    simp [Rep]
  · cases e
theorem od_ne (hu : X.A.units + 64 < cLine) : OpD X (compareOp .NotEq) opNe := by
  refine ⟨_, op_neD hu, fun c ρ S σ H x y dx dy d Q C vx vy e k => ?_⟩
  unfold opNe at e
  split at e
  · cases e
    rename_i h
    rw [Bool.and_eq_true] at h
    have h1 := shaped_of h.1
    have h2 := shaped_of h.2
    refine ⟨_, _, dp_view h1.2 vx, dp_view h2.2 vy, h1.1, h2.1, k _ _ (.refl _) ?_⟩
    rw [eqv_of _ _ h1.2 h2.2]
    simp [Rep]
  · cases e
theorem flat_rep {G : Gs} {c : Ct} {H : Hp} {d : D} {v : V} (f : flat d = true) (h : Rep G c H d v) : flatV v = true := by
  cases d <;> simp [flat] at f <;> (simp only [Rep] at h; subst h; rfl)
theorem flat_view {G : Gs} {c : Ct} {H : Hp} {d : D} {v : V} (f : flat d = true) (h : View G c H d v) : Rep G c H d v := by
  cases d <;> simp [flat] at f <;> (simp only [View] at h; simpa [Rep] using h)
theorem flat_eq {G : Gs} {c : Ct} {H : Hp} {d e : D} {v w : V} (f : flat d = true) (g : flat e = true) (h : Rep G c H d v) (k : Rep G c H e w) : eqV v w = eqD d e := by
  cases d <;> simp [flat] at f <;> cases e <;> simp [flat] at g <;> (simp only [Rep] at h k; subst h; subst k; simp [eqV, eqD])
theorem flat_all {G : Gs} {c : Ct} {H : Hp} {e : D} {w : V} (g : flat e = true) (k : Rep G c H e w) : ∀ {ds : List D} {vs : List V}, ds.all flat = true → Reps G c H ds vs → vs.all flatV = true ∧ inV w vs = ds.any fun z => eqD z e
  | [], vs, _, h => by simp only [Reps] at h; subst h; exact ⟨rfl, rfl⟩
  | d :: ds, vs, f, h => by
    simp only [Reps] at h
    simp only [List.all_cons, Bool.and_eq_true] at f
    obtain ⟨v, r, rfl, q, t⟩ := h
    obtain ⟨i1, i2⟩ := flat_all g k f.2 t
    refine ⟨by simp [flat_rep f.1 q, i1], ?_⟩
    have : inV w (v :: r) = (eqV v w || inV w r) := rfl
    rw [this, List.any_cons, i2, flat_eq f.1 g q k]
/-- in: what the four kinds ask -/
theorem in_sem {c : Ct} {ρ : Env} {S : Store} {σ : L2.St} {H : Hp} {x y : V} {dx dy : D} {r : Bool} (neg : Bool) (C : Cn (gs X) c ρ S σ H) (vx : View (gs X) c H dx x) (vy : View (gs X) c H dy y) (e : inD dx dy = some r) {Q : VK} (k : Q (.bl (if neg then !r else r)) H) :
    (∃ d ds, Dp X.K H x d ∧ Dp X.K H y (.list ds) ∧ SeqAt.shaped d = true ∧ SeqAt.shaped (.list ds) = true ∧ Q (.bl (if neg then !ds.any fun z => PyData.eqv z d else ds.any fun z => PyData.eqv z d)) H) ∨
    (∃ p xs, y = .ref p ∧ (SqL X.K H p xs ∨ SqT X.K H p xs) ∧ flatV x = true ∧ xs.all flatV = true ∧ Q (.bl (if neg then !inV x xs else inV x xs)) H) ∨
    (∃ (ch : Nat) (z : Str), x = .str ⟨#[ch]⟩ ∧ y = .str z ∧ Q (.bl (if neg then !decide (ch ∈ z.cps.toList) else decide (ch ∈ z.cps.toList))) H) ∨
    (∃ p kvs kk, y = .ref p ∧ H p = some (.dK kvs) ∧ x = kV kk ∧ Q (.bl (if neg then !(valV kvs kk).isSome else (valV kvs kk).isSome)) H) := by
  unfold inD at e
  split at e
  · rename_i ys
    split at e
    · cases e
      rename_i h
      rw [Bool.and_eq_true] at h
      have h1 := shaped_of h.1
      have h2 := shaped_of h.2
      refine .inl ⟨_, toPyAll ys, dp_view h1.2 vx, dp_view h2.2 vy, h1.1, h2.1, ?_⟩
      have : ((toPyAll ys).any fun z => PyData.eqv z (toPy dx)) = ys.any fun z => eqD z dx := by
        have hp := h2.2
        simp only [D.plain] at hp
        have hm := plainAll_mem hp
        rw [toPyAll_map, List.any_map]
        clear vy h h2 hp k
        induction ys with
        | nil => rfl
        | cons z zs ih =>
          simp only [List.any_cons, Function.comp]
          rw [eqv_of z dx (hm z List.mem_cons_self) h1.2]
          have := ih fun d hd => hm d (List.mem_cons_of_mem _ hd)
          simp only [Function.comp_def] at this ⊢
          rw [this]
      rw [this]
      exact k
    · cases e
  · split at e
    · cases e
      rename_i h
      rw [Bool.and_eq_true] at h
      simp only [View, Rep] at vy
      obtain ⟨p, vs, rfl, q, r⟩ := vy
      have rx := flat_view h.1 vx
      obtain ⟨f1, f2⟩ := flat_all h.1 rx h.2 r
      exact .inr (.inl ⟨p, vs, rfl, .inr q, flat_rep h.1 rx, f1, by rw [f2]; exact k⟩)
    · cases e
  · rename_i s
    cases hs : sign1 dx with
    | none => rw [hs] at e; cases e
    | some ch =>
      rw [hs] at e
      cases e
      unfold sign1 at hs
      split at hs
      · rename_i xx
        split at hs
        · rename_i h1
          refine .inr (.inr (.inl ⟨ch, s, ?_, vy, k⟩))
          have hx : x = .str xx := vx
          rw [hx]
          congr 1
          obtain ⟨ar⟩ := xx
          simp only at h1 hs
          congr 1
          obtain ⟨l⟩ := ar
          match l, h1, hs with
          | [z], _, hs => simp at hs; subst hs; rfl
        · cases hs
      · cases hs
  · rename_i kvs
    cases hk : keyOf dx with
    | none => rw [hk] at e; cases e
    | some kk =>
      rw [hk] at e
      cases e
      obtain ⟨p, vs, rfl, q, r⟩ := vy
      refine .inr (.inr (.inr ⟨p, vs, kk, rfl, q, ?_, ?_⟩))
      · unfold keyOf at hk
        split at hk <;> cases hk <;> exact vx
      · have : ∀ {kvs : List (Key × D)} {vs : List (Key × V)}, RepK (gs X) c H kvs vs → (valV vs kk).isSome = (getK kvs kk).isSome := by
          intro kvs
          induction kvs with
          | nil => intro vs h; simp only [RepK] at h; subst h; rfl
          | cons p ps ih =>
            intro vs h
            obtain ⟨k0, d0⟩ := p
            simp only [RepK] at h
            obtain ⟨v, r, rfl, _, t⟩ := h
            by_cases hk : k0 = kk
            · simp [valV, getK, List.find?_cons, hk]
            · have := ih t
              simp only [valV, getK, List.find?_cons, hk, decide_false] at this ⊢
              exact this
        rw [this r]
        exact k
  · cases e
theorem op_dinV (hu : X.A.units + 1 < cLine) : True := trivial
end
end Dn
end OfLayD
section OfLayE
set_option Elab.async false
set_option linter.all false
set_option maxRecDepth 100000
set_option maxHeartbeats 1000000
/-! LayE: dicts looked into, subscripts, slices, tests, arguments, displays. -/
namespace Dn
open PySem PySem.Spec PyProof.Rows L2
section
variable {X : Cx} {Wx : WX} {a b e : Expr} {Fa Fb Fc : EX} {pos : Pos}
theorem op_dIn (hu : X.A.units + 1 < cLine) : OpR X (compareOp .In) (fun x y H Q => ∃ p o, y = .ref p ∧ DGet H p x o ∧ Q (.bl o.isSome) H) := by
  intro pins s σ H x y v u Q I rx ry h
  obtain ⟨p, o, rfl, g, q⟩ := h
  obtain rfl : u = Value.ref p := ry
  exact d_in hu I g rx fun s3 I3 => ⟨V.bl _, H, I3, rfl, q⟩
theorem op_dNotIn (hu : X.A.units + 1 < cLine) : OpR X (compareOp .NotIn) (fun x y H Q => ∃ p o, y = .ref p ∧ DGet H p x o ∧ Q (.bl (!o.isSome)) H) := by
  intro pins s σ H x y v u Q I rx ry h
  obtain ⟨p, o, rfl, g, q⟩ := h
  obtain rfl : u = Value.ref p := ry
  exact d_notIn hu I g rx fun s3 I3 => ⟨V.bl _, H, I3, rfl, q⟩
theorem ix_dct (hu : X.A.units + 1 < cLine) : IxR X (fun x y H Q => ∃ p z, x = .ref p ∧ DGet H p y (some z) ∧ Q z H) := by
  intro value slice pins s σ H x y v u Q I rx ry h hs
  obtain ⟨p, z, rfl, g, q⟩ := h
  obtain rfl : v = Value.ref p := rx
  exact tail_any (dict_typeIs I g) PySem.F.slot_dict_getitem.lookup (d_getItem hu I g ry fun w' s3 I3 rw' => ⟨z, H, I3, rw', q⟩) hs
theorem od_in (hu : X.A.units + 66 < cLine) : OpD X (compareOp .In) opIn := by
  refine ⟨_, (op_inD (by omega)).or (op_in_seq.or (op_in_sign.or (op_dIn (by omega)))), fun c ρ S σ H x y dx dy d Q C vx vy e k => ?_⟩
  unfold opIn at e
  cases hr : inD dx dy with
  | none => rw [hr] at e; cases e
  | some r =>
    rw [hr] at e
    cases e
    have hk : Q (.bl (if false = true then !r else r)) H := k _ _ (.refl _) (by simp [Rep])
    rcases in_sem false C vx vy hr hk with ⟨d, ds, h1, h2, h3, h4, q⟩ | ⟨p, xs, h1, h2, h3, h4, q⟩ | ⟨ch, z, h1, h2, q⟩ | ⟨p, kvs, kk, h1, h2, h3, q⟩
    · exact .inl ⟨d, ds, h1, h2, h3, h4, by simpa using q⟩
    · exact .inr (.inl ⟨p, xs, h1, h2, h3, h4, by simpa using q⟩)
    · exact .inr (.inr (.inl ⟨ch, z, h1, h2, by simpa using q⟩))
    · exact .inr (.inr (.inr ⟨p, _, h1, h3 ▸ DGet.k h2, by simpa using q⟩))
theorem od_notin (hu : X.A.units + 66 < cLine) : OpD X (compareOp .NotIn) opNotIn := by
  refine ⟨_, (op_notInD (by omega)).or (op_notIn_seq.or (op_notIn_sign.or (op_dNotIn (by omega)))), fun c ρ S σ H x y dx dy d Q C vx vy e k => ?_⟩
  unfold opNotIn at e
  cases hr : inD dx dy with
  | none => rw [hr] at e; cases e
  | some r =>
    rw [hr] at e
    cases e
    have hk : Q (.bl (if true = true then !r else r)) H := k _ _ (.refl _) (by simp [Rep])
    rcases in_sem true C vx vy hr hk with ⟨d, ds, h1, h2, h3, h4, q⟩ | ⟨p, xs, h1, h2, h3, h4, q⟩ | ⟨ch, z, h1, h2, q⟩ | ⟨p, kvs, kk, h1, h2, h3, q⟩
    · exact .inl ⟨d, ds, h1, h2, h3, h4, by simpa using q⟩
    · exact .inr (.inl ⟨p, xs, h1, h2, h3, h4, by simpa using q⟩)
    · exact .inr (.inr (.inl ⟨ch, z, h1, h2, by simpa using q⟩))
    · exact .inr (.inr (.inr ⟨p, _, h1, h3 ▸ DGet.k h2, by simpa using q⟩))
theorem atI_eq {α : Type} (xs : List α) (i : Int) : atI xs i = L2.atI xs i := rfl
theorem reps_at {G : Gs} {c : Ct} {H : Hp} {ds : List D} {vs : List V} {i : Int} {d : D} (r : Reps G c H ds vs) (e : atI ds i = some d) : ∃ v, L2.atI vs i = some v ∧ Rep G c H d v := by
  unfold atI at e
  obtain ⟨j, h1, h2⟩ := obind e
  obtain ⟨v, h3, h4⟩ := r.get h2
  refine ⟨v, ?_, h4⟩
  have h1' : L2.ixN vs.length i = some j := by rw [← r.length]; exact h1
  unfold L2.atI
  rw [h1']
  exact h3
theorem repK_get {G : Gs} {c : Ct} {H : Hp} {k : Key} : ∀ {kvs : List (Key × D)} {vs : List (Key × V)} {d : D}, RepK G c H kvs vs → getK kvs k = some d → ∃ v, valV vs k = some v ∧ Rep G c H d v
  | [], _, _, _, e => by cases e
  | (k0, d0) :: r, vs, d, h, e => by
    simp only [RepK] at h
    obtain ⟨v, r', rfl, q, t⟩ := h
    by_cases hk : k0 = k
    · have : d0 = d := by simpa [getK, List.find?_cons, hk] using e
      subst this
      exact ⟨v, by simp [valV, List.find?_cons, hk], q⟩
    · have e' : getK r k = some d := by simpa [getK, List.find?_cons, hk] using e
      obtain ⟨w, h1, h2⟩ := repK_get t e'
      exact ⟨w, by simpa [valV, List.find?_cons, hk] using h1, h2⟩
theorem id_ix (hu : X.A.units + 1 < cLine) : IxD X opIx := by
  refine ⟨_, ix_list.or (ix_tup.or (ix_str.or (ix_dct hu))), fun c ρ S σ H x y dx dy d Q C vx vy e k => ?_⟩
  unfold opIx at e
  split at e
  · obtain ⟨p, vs, rfl, h1, r⟩ := vx
    obtain ⟨v, h2, h3⟩ := reps_at r e
    exact .inl ⟨p, vs, _, v, rfl, vy, .of h1, h2, k _ _ (.refl _) h3⟩
  · simp only [View, Rep] at vx
    obtain ⟨p, vs, rfl, h1, r⟩ := vx
    obtain ⟨v, h2, h3⟩ := reps_at r e
    exact .inr (.inl ⟨p, vs, _, v, rfl, vy, h1, h2, k _ _ (.refl _) h3⟩)
  · split at e
    · rename_i s i hl
      cases hc : atI s.cps.toList i with
      | none => rw [hc] at e; cases e
      | some ch =>
        rw [hc] at e
        cases e
        exact .inr (.inr (.inl ⟨s, i, ch, vx, vy, by rw [← line_eq]; exact hl, hc, k _ _ (.refl _) (by simp [Rep])⟩))
    · cases e
  · obtain ⟨p, vs, rfl, h1, r⟩ := vx
    obtain ⟨v, h2, h3⟩ := repK_get r e
    refine .inr (.inr (.inr ⟨p, v, rfl, ?_, k _ _ (.refl _) h3⟩))
    rw [← h2]
    cases vy
    exact DGet.k (k := .inl _) h1
  · obtain ⟨p, vs, rfl, h1, r⟩ := vx
    obtain ⟨v, h2, h3⟩ := repK_get r e
    refine .inr (.inr (.inr ⟨p, v, rfl, ?_, k _ _ (.refl _) h3⟩))
    rw [← h2]
    cases vy
    exact DGet.k (k := .inr _) h1
  · rename_i xs i
    obtain ⟨p, rfl, h1⟩ := vx
    cases hc : atI xs i with
    | none => rw [hc] at e; cases e
    | some z =>
      rw [hc] at e
      cases e
      have h2 : L2.atI (xs.map V.int) i = some (.int z) := by
        unfold atI at hc
        obtain ⟨j, j1, j2⟩ := obind hc
        unfold L2.atI
        rw [List.length_map]
        have j1' : L2.ixN xs.length i = some j := j1
        rw [j1']
        show (xs.map V.int)[j]? = _
        rw [List.getElem?_map, j2]
        rfl
      exact .inl ⟨p, _, i, .int z, rfl, vy, h1, h2, k _ _ (.refl _) (by simp [Rep])⟩
  · cases e
/-! ### slices -/
structure PtOk (X : Cx) (Wx : WX) (e : Option Expr) (F : Dn.Env → Store → Res (Option Int)) : Prop where
  ex : ∃ t, PO X e t ∧ ∀ c ρ S σ H (Q : Option Int → Hp → Prop), Cn (gs X) c ρ S σ H → Post (gs X) Wx c ρ σ H (fun o S' => ∀ c' H', Stp c c' H H' → Cn (gs X) c' ρ S' σ H' → Q o H') (F ρ S) → t σ H Q
theorem pt_no : PtOk X Wx none eNo := ⟨_, po_none, fun c ρ S σ H Q C h => h c H .refl C⟩
theorem pt_some (ha : EvOk X Wx a Fa) : PtOk X Wx (some a) (ePart Fa) := by
  obtain ⟨t, pa, sa⟩ := ha.ex
  refine ⟨_, po_some pa, fun c ρ S σ H Q C h => ?_⟩
  refine sa c ρ S σ H _ C (h.go .refl fun x S1 h1 c1 v1 H1 s1 C1 r1 => ?_)
  split at h1
  · refine ⟨_, ?_, h1 c1 H1 s1 C1⟩
    simpa [RW, Rep] using r1
  · exact h1.elim
theorem cutL_reps {G : Gs} {c : Ct} {H : Hp} {ds : List D} {vs : List V} {lo hi : Option Int} (r : Reps G c H ds vs) : Reps G c H (cutL ds lo hi) (cutV vs lo hi) := by
  unfold cutL cutV
  rw [← r.length]
  exact (r.drop _).take _
theorem cutV_map (xs : List Int) (lo hi : Option Int) : cutV (xs.map V.int) lo hi = (cutL xs lo hi).map V.int := by
  unfold cutV cutL
  rw [List.length_map, ← List.map_drop, ← List.map_take]
  rfl
theorem reps_ints {G : Gs} {c : Ct} {H : Hp} : ∀ xs : List Int, Reps G c H (xs.map .int) (xs.map V.int)
  | [] => Reps.nil
  | x :: xs => .cons (by simp [Rep]) (reps_ints xs)
theorem ev_sl {lo hi : Option Expr} {Fl Fh : Dn.Env → Store → Res (Option Int)} {p2 : Pos} (ha : EvOk X Wx a Fa) (hl : PtOk X Wx lo Fl) (hh : PtOk X Wx hi Fh) : EvOk X Wx (.Subscript a (.Slice lo hi none p2) pos) (eSl Fa Fl Fh) := by
  obtain ⟨ta, pa, sa⟩ := ha.ex
  obtain ⟨tl, pl, sl⟩ := hl.ex
  obtain ⟨th, ph, sh⟩ := hh.ex
  refine ⟨_, pe_slice (sl_list.or (sl_tupA.or sl_str)) pa pl ph, fun c ρ S σ H Q C h => ?_⟩
  refine sa c ρ S σ H _ C (h.go .refl fun x S1 h1 c1 v1 H1 s1 C1 r1 => ?_)
  refine sl c1 ρ S1 σ H1 _ C1 (h1.go s1 fun i S2 h2 c2 H2 s2 C2 => ?_)
  refine sh c2 ρ S2 σ H2 _ C2 (h2.go (s1.trans s2) fun j S3 h3 c3 H3 s3 C3 => ?_)
  have r3 : RW (gs X) c3 ρ σ H3 x v1 := (r1.keep C1.cs.muts s2.kp).keep C2.cs.muts s3.kp
  have st := (s1.trans s2).trans s3
  obtain ⟨d, e, h4⟩ := ret1_post h3
  obtain ⟨dx, ex, e⟩ := obind e
  have vw := view_of C3 r3 ex
  unfold opSl at e
  split at e
  · cases e
    obtain ⟨p, vs, rfl, q, r⟩ := vw
    refine .inl ⟨p, vs, rfl, .of q, fun z hz => ?_⟩
    have g : Grow H3 (upd H3 z (.lst (cutV vs i j))) := .upd hz
    refine h4 c3 _ _ (st.trans (.grow g)) (C3.grow g) ?_
    show Rep _ _ _ _ _
    simp only [Rep]
    exact ⟨z, _, rfl, C3.cs.notM hz, upd_same, (cutL_reps r).keep C3.cs.muts (.grow g)⟩
  · rename_i xs
    cases e
    obtain ⟨p, rfl, q⟩ := vw
    refine .inl ⟨p, _, rfl, q, fun z hz => ?_⟩
    have g : Grow H3 (upd H3 z (.lst (cutV (List.map V.int xs) i j))) := .upd hz
    refine h4 c3 _ _ (st.trans (.grow g)) (C3.grow g) ?_
    show Rep _ _ _ _ _
    simp only [Rep]
    exact ⟨z, _, rfl, C3.cs.notM hz, upd_same, by rw [cutV_map]; exact reps_ints _⟩
  · split at e
    · cases e
    · cases e
      rename_i hw
      simp only [View, Rep] at vw
      obtain ⟨p, vs, rfl, q, r⟩ := vw
      refine .inr (.inl ⟨p, vs, rfl, q, fun z => absurd ?_ hw, fun _ z hz => ?_⟩)
      · rw [r.length]; exact z
      · have g : Grow H3 (upd H3 z (.tup (cutV vs i j))) := .upd hz
        refine h4 c3 _ _ (st.trans (.grow g)) (C3.grow g) ?_
        show Rep _ _ _ _ _
        simp only [Rep]
        exact ⟨z, _, rfl, .of upd_same, (cutL_reps r).keep C3.cs.muts (.grow g)⟩
  · split at e
    · cases e
      rename_i hl
      refine .inr (.inr ⟨_, vw, by rw [← line_eq]; exact hl, h4 c3 _ _ st C3 ?_⟩)
      show Rep _ _ _ _ _
      simp only [Rep]
      rfl
    · cases e
  · cases e
/-! ### tests -/
theorem truV_of {c : Ct} {H : Hp} {d : D} {v : V} {k : Bool} (h : View (gs X) c H d v) (e : truth d = some k) : TruV X.K v H k := by
  unfold truth at e
  split at e
  · cases e; cases h; rfl
  · cases e; cases h; rfl
  · cases e; cases h; rfl
  · split at e
    · cases e
      cases h
      refine ⟨by rw [← line_eq]; assumption, ?_⟩
      rw [Bool.eq_iff_iff]
      simp
    · cases e
  · cases e
    obtain ⟨p, vs, rfl, q, r⟩ := h
    refine .inl ⟨vs, .of q, ?_⟩
    cases vs <;> (cases ‹List D› <;> first | rfl | simp [Reps] at r)
  · cases e
    simp only [View, Rep] at h
    obtain ⟨p, vs, rfl, q, r⟩ := h
    refine .inr (.inl ⟨vs, q, ?_⟩)
    cases vs <;> (cases ‹List D› <;> first | rfl | simp [Reps] at r)
  · cases e
theorem tE_post {G : Gs} {c : Ct} {ρ : Dn.Env} {σ : L2.St} {H : Hp} {P : Bool → Store → Prop} {o : Option Bool} {S : Store} (h : Post G Wx c ρ σ H P (match o with | some b => Res.ok b S | none => Res.bad)) : ∃ b, o = some b ∧ P b S := by
  cases o with
  | none => exact h.elim
  | some d => exact ⟨d, rfl, h⟩
theorem ts_val (ha : EvOk X Wx a Fa) (he : ∀ whole, isTrue a X.env whole = (do let v ← whole; standAt a.pos; holding [v] (truthy v)) := by intro _; rfl) : TsOk X Wx a (tE Fa) := by
  obtain ⟨ta, pa, sa⟩ := ha.ex
  refine ⟨_, pt_truth pa he, fun c ρ S σ H Q C h => ?_⟩
  refine sa c ρ S σ H _ C (h.go .refl fun x S1 h1 c1 v1 H1 s1 C1 r1 => ?_)
  obtain ⟨k, e, h2⟩ := tE_post h1
  obtain ⟨dx, ex, e⟩ := obind e
  exact ⟨k, truV_of (view_of C1 r1 ex) e, h2 c1 H1 s1 C1⟩
/-- the operator gives truths alone -/
def Blf (f : D → D → Option D) : Prop := ∀ dx dy d, f dx dy = some d → ∃ k, d = .bl k
theorem ts_cmp {op : CmpOp} {f : D → D → Option D} (ho : OpD X (compareOp op) f) (hf : Blf f) (ha : EvOk X Wx a Fa) (hb : EvOk X Wx b Fb) (hm : behindInMarks op b = false) : TsOk X Wx (.Compare a [op] [b] pos) (tE (eBin f Fa Fb)) := by
  obtain ⟨r, pr, sr⟩ := ho
  obtain ⟨ta, pa, sa⟩ := ha.ex
  obtain ⟨tb, pb, sb⟩ := hb.ex
  refine ⟨_, pt_cmpR pr pa pb hm, fun c ρ S σ H Q C h => ?_⟩
  refine sa c ρ S σ H _ C (h.bind.go .refl fun x S1 h1 c1 v1 H1 s1 C1 r1 => ?_)
  refine sb c1 ρ S1 σ H1 _ C1 (h1.go s1 fun y S2 h2 c2 v2 H2 s2 C2 r2 => ?_)
  obtain ⟨d, e, h3⟩ := ret1_post h2
  obtain ⟨dx, ex, e⟩ := obind e
  obtain ⟨dy, ey, e⟩ := obind e
  obtain ⟨k, rfl⟩ := hf _ _ _ e
  refine sr c2 ρ S2 σ H2 v1 v2 dx dy _ _ C2 (view_of C2 (r1.keep C1.cs.muts s2.kp) ex) (view_of C2 r2 ey) e fun v H' g r => ?_
  simp only [Rep] at r
  have h4 : WantT (gs X) c ρ σ H Q k S2 := h3
  exact ⟨k, r, h4 c2 H' ((s1.trans s2).trans (.grow g)) (C2.grow g)⟩
theorem chain_core {op op' : CmpOp} {f g : D → D → Option D} {c' : Expr} (ho : OpD X (compareOp op) f) (ho' : OpD X (compareOp op') g) (ha : EvOk X Wx a Fa) (hb : EvOk X Wx b Fb) (hc : EvOk X Wx c' Fc) (hm : lastMarks [op, op'] [b, c'] = false) :
    ∃ t, PE X (.Compare a [op, op'] [b, c'] pos) t ∧ (∀ (hp : Blf f ∧ Blf g), PT X (.Compare a [op, op'] [b, c'] pos) (tTest t)) ∧
      ∀ c ρ S σ H (Q : VK), Cn (gs X) c ρ S σ H → Post (gs X) Wx c ρ σ H (WantE (gs X) c ρ σ H Q) (eChain f g Fa Fb Fc ρ S) → t σ H Q := by
  obtain ⟨r, pr, sr⟩ := ho
  obtain ⟨r', pr', sr'⟩ := ho'
  obtain ⟨ta, pa, sa⟩ := ha.ex
  obtain ⟨tb, pb, sb⟩ := hb.ex
  obtain ⟨tc, pc, sc⟩ := hc.ex
  refine ⟨_, pe_chain pr pr' pa pb pc hm, fun _ => pt_chain pr pr' pa pb pc hm, fun c ρ S σ H Q C h => ?_⟩
  refine sa c ρ S σ H _ C (h.go .refl fun x S1 h1 c1 v1 H1 s1 C1 r1 => ?_)
  refine sb c1 ρ S1 σ H1 _ C1 (h1.go s1 fun y S2 h2 c2 v2 H2 s2 C2 r2 => ?_)
  split at h2
  · rename_i e
    obtain ⟨dx, ex, e⟩ := obind e
    obtain ⟨dy, ey, e⟩ := obind e
    refine sr c2 ρ S2 σ H2 v1 v2 dx dy _ _ C2 (view_of C2 (r1.keep C1.cs.muts s2.kp) ex) (view_of C2 r2 ey) e fun v H' gr rv => ?_
    simp only [Rep] at rv
    refine ⟨true, rv, ?_⟩
    rw [if_pos rfl]
    have C2' := C2.grow gr
    have s2' := (s1.trans s2).trans (Stp.grow (c := c2) gr)
    refine sc c2 ρ S2 σ H' _ C2' (h2.go s2' fun z S3 h3 c3 v3 H3 s3 C3 r3 => ?_)
    obtain ⟨d, e', h4⟩ := ret1_post h3
    obtain ⟨dy', ey', e'⟩ := obind e'
    obtain ⟨dz, ez, e'⟩ := obind e'
    exact sr' c3 ρ S3 σ H3 v2 v3 dy' dz d Q C3 (view_of C3 ((r2.keep C2.cs.muts (.grow gr)).keep C2'.cs.muts s3.kp) ey') (view_of C3 r3 ez) e' fun v H4 gr' r => h4 c3 v H4 ((s2'.trans s3).trans (.grow gr')) (C3.grow gr') r
  · rename_i e
    obtain ⟨dx, ex, e⟩ := obind e
    obtain ⟨dy, ey, e⟩ := obind e
    refine sr c2 ρ S2 σ H2 v1 v2 dx dy _ _ C2 (view_of C2 (r1.keep C1.cs.muts s2.kp) ex) (view_of C2 r2 ey) e fun v H' gr rv => ?_
    simp only [Rep] at rv
    refine ⟨false, rv, ?_⟩
    rw [if_neg (by decide)]
    exact h2 c2 _ H' ((s1.trans s2).trans (.grow gr)) (C2.grow gr) (by show Rep _ _ _ _ _; simp [Rep])
  · exact h2.elim
theorem ev_chain {op op' : CmpOp} {f g : D → D → Option D} {c' : Expr} (ho : OpD X (compareOp op) f) (ho' : OpD X (compareOp op') g) (ha : EvOk X Wx a Fa) (hb : EvOk X Wx b Fb) (hc : EvOk X Wx c' Fc)
    (hm : lastMarks [op, op'] [b, c'] = false := by with_unfolding_all rfl) : EvOk X Wx (.Compare a [op, op'] [b, c'] pos) (eChain f g Fa Fb Fc) := by
  obtain ⟨t, h1, _, h2⟩ := chain_core (pos := pos) ho ho' ha hb hc hm
  exact ⟨t, h1, h2⟩
theorem eChain_bl {f g : D → D → Option D} (hp : Blf f ∧ Blf g) {ρ : Dn.Env} {S S' : Store} {w : W} (h : eChain f g Fa Fb Fc ρ S = .ok w S') : ∃ k, w = .d (.bl k) := by
  unfold eChain at h
  cases h1 : Fa ρ S with
  | exc _ _ _ => rw [h1] at h; cases h
  | bad => rw [h1] at h; cases h
  | ok x S1 =>
    rw [h1, bind_ok] at h
    cases h2 : Fb ρ S1 with
    | exc _ _ _ => rw [h2] at h; cases h
    | bad => rw [h2] at h; cases h
    | ok y S2 =>
      rw [h2, bind_ok] at h
      split at h
      · cases h3 : Fc ρ S2 with
        | exc _ _ _ => rw [h3] at h; cases h
        | bad => rw [h3] at h; cases h
        | ok z S3 =>
          rw [h3, bind_ok] at h
          generalize ho : ((look ρ S3 y).bind fun dy => (look ρ S3 z).bind fun dz => g dy dz) = o at h
          cases o with
          | none => cases h
          | some d =>
            cases h
            obtain ⟨dy, _, ho⟩ := obind ho
            obtain ⟨dz, _, ho⟩ := obind ho
            obtain ⟨k, rfl⟩ := hp.2 _ _ _ ho
            exact ⟨k, rfl⟩
      · cases h; exact ⟨_, rfl⟩
      · cases h
theorem ts_chain {op op' : CmpOp} {f g : D → D → Option D} {c' : Expr} (ho : OpD X (compareOp op) f) (ho' : OpD X (compareOp op') g) (hp : Blf f ∧ Blf g) (ha : EvOk X Wx a Fa) (hb : EvOk X Wx b Fb) (hc : EvOk X Wx c' Fc)
    (hm : lastMarks [op, op'] [b, c'] = false := by with_unfolding_all rfl) : TsOk X Wx (.Compare a [op, op'] [b, c'] pos) (tE (eChain f g Fa Fb Fc)) := by
  obtain ⟨t, _, h1, h2⟩ := chain_core (pos := pos) ho ho' ha hb hc hm
  refine ⟨_, h1 hp, fun c ρ S σ H Q C h => ?_⟩
  refine h2 c ρ S σ H _ C ?_
  have h' := h.bind
  cases hr : eChain f g Fa Fb Fc ρ S with
  | bad => rw [hr] at h'; exact h'
  | exc _ _ _ => rw [hr] at h'; exact h'
  | ok w S1 =>
    rw [hr] at h'
    obtain ⟨k, rfl⟩ := eChain_bl hp hr
    intro c1 v1 H1 s1 C1 r1
    have r1' : Rep (gs X) c1 H1 (.bl k) v1 := r1
    simp only [Rep] at r1'
    exact ⟨k, r1', h' c1 H1 s1 C1⟩
theorem ts_not {Ft : TX} (ha : TsOk X Wx a Ft) : TsOk X Wx (.UnaryOp .Not a pos) (tNot Ft) := by
  obtain ⟨t, pt, st⟩ := ha.ex
  refine ⟨_, pt_not pt, fun c ρ S σ H Q C h => ?_⟩
  exact st c ρ S σ H _ C (h.go .refl fun k S1 h1 c1 H1 s1 C1 => h1 c1 H1 s1 C1)
theorem tw_ts {Ft : TX} (ha : TwOk X Wx a Ft) : TsOk X Wx a Ft := by
  obtain ⟨t, pt, st⟩ := ha.ex
  exact ⟨t, pt.pt, st⟩
theorem tw_and1 {Ft : TX} (ha : TsOk X Wx a Ft) : TwOk X Wx (.BoolOp .And [a] pos) Ft := by
  obtain ⟨t, pt, st⟩ := ha.ex
  exact ⟨t, pw_and1 pt, st⟩
theorem tw_or1 {Ft : TX} (ha : TsOk X Wx a Ft) : TwOk X Wx (.BoolOp .Or [a] pos) Ft := by
  obtain ⟨t, pt, st⟩ := ha.ex
  exact ⟨t, pw_or1 pt, st⟩
theorem tw_and {Ft Fu : TX} {rest : List Expr} (ha : TsOk X Wx a Ft) (hb : TwOk X Wx (.BoolOp .And (b :: rest) pos) Fu) : TwOk X Wx (.BoolOp .And (a :: b :: rest) pos) (tAnd Ft Fu) := by
  obtain ⟨t, pt, st⟩ := ha.ex
  obtain ⟨u, pu, su⟩ := hb.ex
  refine ⟨_, pw_and pt pu, fun c ρ S σ H Q C h => ?_⟩
  refine st c ρ S σ H _ C (h.go .refl fun k S1 h1 c1 H1 s1 C1 => ?_)
  cases k with
  | true =>
    rw [if_pos rfl] at h1 ⊢
    exact su c1 ρ S1 σ H1 Q C1 ((h1.mono fun b S2 h2 c2 H2 s2 C2 => h2 c2 H2 (s1.trans s2) C2).step s1)
  | false =>
    rw [if_neg (by decide)] at h1 ⊢
    exact h1 c1 H1 s1 C1
theorem tw_or {Ft Fu : TX} {rest : List Expr} (ha : TsOk X Wx a Ft) (hb : TwOk X Wx (.BoolOp .Or (b :: rest) pos) Fu) : TwOk X Wx (.BoolOp .Or (a :: b :: rest) pos) (tOr Ft Fu) := by
  obtain ⟨t, pt, st⟩ := ha.ex
  obtain ⟨u, pu, su⟩ := hb.ex
  refine ⟨_, pw_or pt pu, fun c ρ S σ H Q C h => ?_⟩
  refine st c ρ S σ H _ C (h.go .refl fun k S1 h1 c1 H1 s1 C1 => ?_)
  cases k with
  | true =>
    rw [if_pos rfl] at h1 ⊢
    exact h1 c1 H1 s1 C1
  | false =>
    rw [if_neg (by decide)] at h1 ⊢
    exact su c1 ρ S1 σ H1 Q C1 ((h1.mono fun b S2 h2 c2 H2 s2 C2 => h2 c2 H2 (s1.trans s2) C2).step s1)
theorem wantE_step {G : Gs} {c c1 : Ct} {ρ : Dn.Env} {σ : L2.St} {H H1 : Hp} {Q : VK} {r : Res W} (s1 : Stp c c1 H H1) (h : Post G Wx c ρ σ H (WantE G c ρ σ H Q) r) : Post G Wx c1 ρ σ H1 (WantE G c1 ρ σ H1 Q) r :=
  (h.mono fun _ _ h2 c2 v2 H2 s2 C2 r2 => h2 c2 v2 H2 (s1.trans s2) C2 r2).step s1
theorem ev_one {op : BoolOp} (ha : EvOk X Wx a Fa) : EvOk X Wx (.BoolOp op [a] pos) Fa := by
  obtain ⟨t, pt, st⟩ := ha.ex
  exact ⟨t, pe_one pt, st⟩
theorem ev_and {rest : List Expr} (ha : EvOk X Wx a Fa) (hb : EvOk X Wx (.BoolOp .And (b :: rest) pos) Fb) : EvOk X Wx (.BoolOp .And (a :: b :: rest) pos) (eAnd Fa Fb) := by
  obtain ⟨t, pt, st⟩ := ha.ex
  obtain ⟨u, pu, su⟩ := hb.ex
  refine ⟨_, pe_and pt pu, fun c ρ S σ H Q C h => ?_⟩
  refine st c ρ S σ H _ C (h.go .refl fun x S1 h1 c1 v1 H1 s1 C1 r1 => ?_)
  split at h1
  · refine ⟨true, by simpa [RW, Rep] using r1, ?_⟩
    rw [if_pos rfl]
    exact su c1 ρ S1 σ H1 Q C1 (wantE_step s1 h1)
  · have : v1 = .bl false := by simpa [RW, Rep] using r1
    subst this
    exact ⟨false, rfl, by rw [if_neg (by decide)]; exact h1 c1 _ H1 s1 C1 r1⟩
  · exact h1.elim
theorem ev_or {rest : List Expr} (ha : EvOk X Wx a Fa) (hb : EvOk X Wx (.BoolOp .Or (b :: rest) pos) Fb) : EvOk X Wx (.BoolOp .Or (a :: b :: rest) pos) (eOr Fa Fb) := by
  obtain ⟨t, pt, st⟩ := ha.ex
  obtain ⟨u, pu, su⟩ := hb.ex
  refine ⟨_, pe_or pt pu, fun c ρ S σ H Q C h => ?_⟩
  refine st c ρ S σ H _ C (h.go .refl fun x S1 h1 c1 v1 H1 s1 C1 r1 => ?_)
  split at h1
  · have : v1 = .bl true := by simpa [RW, Rep] using r1
    subst this
    exact ⟨true, rfl, by rw [if_pos rfl]; exact h1 c1 _ H1 s1 C1 r1⟩
  · refine ⟨false, by simpa [RW, Rep] using r1, ?_⟩
    rw [if_neg (by decide)]
    exact su c1 ρ S1 σ H1 Q C1 (wantE_step s1 h1)
  · exact h1.elim
theorem ev_not (ha : EvOk X Wx a Fa) : EvOk X Wx (.UnaryOp .Not a pos) (eNot Fa) := by
  obtain ⟨t, pt, st⟩ := ha.ex
  refine ⟨_, pe_not pt, fun c ρ S σ H Q C h => ?_⟩
  refine st c ρ S σ H _ C (h.go .refl fun x S1 h1 c1 v1 H1 s1 C1 r1 => ?_)
  split at h1
  · exact ⟨_, by simpa [RW, Rep] using r1, h1 c1 _ H1 s1 C1 (by simp [RW, Rep])⟩
  · exact h1.elim
theorem ev_if {c' : Expr} {Ft : TX} (hc : TsOk X Wx c' Ft) (ha : EvOk X Wx a Fa) (hb : EvOk X Wx b Fb) : EvOk X Wx (.IfExp c' a b pos) (eIf Ft Fa Fb) := by
  obtain ⟨t, pt, st⟩ := hc.ex
  obtain ⟨ta, pa, sa⟩ := ha.ex
  obtain ⟨tb, pb, sb⟩ := hb.ex
  refine ⟨_, pe_ifExp pt pa pb, fun c ρ S σ H Q C h => ?_⟩
  refine st c ρ S σ H _ C (h.go .refl fun k S1 h1 c1 H1 s1 C1 => ?_)
  cases k with
  | true =>
    rw [if_pos rfl] at h1 ⊢
    exact sa c1 ρ S1 σ H1 Q C1 (wantE_step s1 h1)
  | false =>
    rw [if_neg (by decide)] at h1 ⊢
    exact sb c1 ρ S1 σ H1 Q C1 (wantE_step s1 h1)
end
theorem blf_eq : Blf opEq := fun dx dy d e => by unfold opEq at e; split at e <;> cases e; exact ⟨_, rfl⟩
theorem blf_ne : Blf opNe := fun dx dy d e => by unfold opNe at e; split at e <;> cases e; exact ⟨_, rfl⟩
theorem blf_lt : Blf opLt := fun dx dy d e => by unfold opLt at e; split at e <;> cases e; exact ⟨_, rfl⟩
theorem blf_le : Blf opLe := fun dx dy d e => by unfold opLe at e; split at e <;> cases e; exact ⟨_, rfl⟩
theorem blf_gt : Blf opGt := fun dx dy d e => by unfold opGt at e; split at e <;> cases e; exact ⟨_, rfl⟩
theorem blf_ge : Blf opGe := fun dx dy d e => by unfold opGe at e; split at e <;> cases e; exact ⟨_, rfl⟩
theorem blf_is : Blf opIs := fun dx dy d e => by unfold opIs at e; split at e <;> cases e; exact ⟨_, rfl⟩
theorem blf_isnot : Blf opIsNot := fun dx dy d e => by unfold opIsNot at e; split at e <;> cases e; exact ⟨_, rfl⟩
theorem blf_in : Blf opIn := fun dx dy d e => by
  unfold opIn at e
  cases h : inD dx dy with
  | none => rw [h] at e; cases e
  | some r => rw [h] at e; cases e; exact ⟨_, rfl⟩
theorem blf_notin : Blf opNotIn := fun dx dy d e => by
  unfold opNotIn at e
  cases h : inD dx dy with
  | none => rw [h] at e; cases e
  | some r => rw [h] at e; cases e; exact ⟨_, rfl⟩
end Dn
end OfLayE
section OfLayF
set_option Elab.async false
set_option linter.all false
set_option maxRecDepth 100000
set_option maxHeartbeats 1000000
/-! LayF: arguments, displays, built-ins' calls. -/
namespace Dn
open PySem PySem.Spec PyProof.Rows L2
section
variable {X : Cx} {Wx : WX} {a b e : Expr} {es : List Expr} {Fa Fb : EX} {Fs : AX} {pos : Pos}
theorem RWs.keep {G : Gs} {c c' : Ct} {ρ : Dn.Env} {σ : L2.St} {H H' : Hp} (hm : Muts c H) (k : Kp c c' H H') : ∀ {ws : List W} {vs : List V}, RWs G c ρ σ H ws vs → RWs G c' ρ σ H' ws vs
  | [], vs, h => h
  | w :: ws, vs, h => by
    obtain ⟨v, r, e, q, t⟩ := h
    exact ⟨v, r, e, q.keep hm k, t.keep hm k⟩
theorem RWs.data {G : Gs} {c : Ct} {ρ : Dn.Env} {σ : L2.St} {H : Hp} : ∀ {ws : List W} {vs : List V} {ds : List D}, RWs G c ρ σ H ws vs → allD ws = some ds → Reps G c H ds vs
  | [], vs, ds, h, e => by
    simp only [allD, Option.some.injEq] at e
    subst e
    have : vs = [] := h
    subst this
    exact .nil
  | .d x :: ws, vs, ds, h, e => by
    obtain ⟨v, r, rfl, q, t⟩ := h
    simp only [allD] at e
    cases h2 : allD ws with
    | none => rw [h2] at e; cases e
    | some ds' =>
      rw [h2] at e
      cases e
      exact .cons q (t.data h2)
  | .own i :: ws, vs, ds, h, e => by simp [allD] at e
def Views (G : Gs) (c : Ct) (H : Hp) : List D → List V → Prop
  | [], vs => vs = []
  | d :: ds, vs => ∃ v r, vs = v :: r ∧ View G c H d v ∧ Views G c H ds r
theorem RWs.views {c : Ct} {ρ : Dn.Env} {S : Store} {σ : L2.St} {H : Hp} (C : Cn (gs X) c ρ S σ H) : ∀ {ws : List W} {vs : List V} {ds : List D}, RWs (gs X) c ρ σ H ws vs → looks ρ S ws = some ds → Views (gs X) c H ds vs
  | [], vs, ds, h, e => by
    simp only [looks, Option.some.injEq] at e
    subst e
    exact h
  | w :: ws, vs, ds, h, e => by
    obtain ⟨v, r, rfl, q, t⟩ := h
    simp only [looks] at e
    obtain ⟨d, e1, e⟩ := obind e
    obtain ⟨ds', e2, e⟩ := obind e
    cases e
    exact ⟨v, r, rfl, view_of C q e1, t.views C e2⟩
theorem ar_nil : ArOk X Wx [] aNil := ⟨_, pa_nil, fun c ρ S σ H Q C h => h c [] H .refl C rfl⟩
theorem ar_cons (ha : EvOk X Wx e Fa) (hr : ArOk X Wx es Fs) (hs : starEach (e :: es) X.env = (false, eval e X.env) :: starEach es X.env := by rfl) : ArOk X Wx (e :: es) (aCons Fa Fs) := by
  obtain ⟨t, pt, st⟩ := ha.ex
  obtain ⟨u, pu, su⟩ := hr.ex
  refine ⟨_, pa_cons pt pu hs, fun c ρ S σ H Q C h => ?_⟩
  refine st c ρ S σ H _ C (h.go .refl fun x S1 h1 c1 v1 H1 s1 C1 r1 => ?_)
  refine su c1 ρ S1 σ H1 _ C1 (h1.go s1 fun xs S2 h2 c2 vs H2 s2 C2 r2 => ?_)
  exact h2 c2 (v1 :: vs) H2 (s1.trans s2) C2 ⟨v1, vs, rfl, r1.keep C1.cs.muts s2.kp, r2⟩
theorem withD_post {α : Type} {G : Gs} {c : Ct} {ρ : Dn.Env} {σ : L2.St} {H : Hp} {P : α → Store → Prop} {o : Option (List D)} {f : List D → Res α} (h : Post G Wx c ρ σ H P (withD o f)) : ∃ ds, o = some ds ∧ Post G Wx c ρ σ H P (f ds) := by
  cases o with
  | none => exact h.elim
  | some ds => exact ⟨ds, rfl, h⟩
theorem ifok_post {α : Type} {G : Gs} {c : Ct} {ρ : Dn.Env} {σ : L2.St} {H : Hp} {P : α → Store → Prop} {q : Prop} [Decidable q] {r : Res α} (h : Post G Wx c ρ σ H P (if q then r else .bad)) : q ∧ Post G Wx c ρ σ H P r := by
  split at h
  · exact ⟨by assumption, h⟩
  · exact h.elim
theorem ev_tup {j} (ha : ArOk X Wx es Fs) : EvOk X Wx (.Tuple es j pos) (eTup Fs) := by
  obtain ⟨t, pt, st⟩ := ha.ex
  refine ⟨_, pe_tup pt, fun c ρ S σ H Q C h => ?_⟩
  refine st c ρ S σ H _ C (h.go .refl fun xs S1 h1 c1 vs H1 s1 C1 r1 => ?_)
  obtain ⟨ds, e, h2⟩ := withD_post h1
  obtain ⟨hl, h3⟩ := ifok_post h2
  have r := r1.data e
  refine ⟨by rw [← r.length, ← line_eq]; exact hl, fun p hp => ?_⟩
  have g : Grow H1 (upd H1 p (.tup vs)) := .upd hp
  refine h3 c1 _ _ (s1.trans (.grow g)) (C1.grow g) ?_
  show Rep _ _ _ _ _
  simp only [Rep]
  exact ⟨p, vs, rfl, .of upd_same, r.keep C1.cs.muts (.grow g)⟩
theorem nw_lst (ha : ArOk X Wx es Fs) : NwOk X Wx (.List es pos) (nLst Fs) := by
  obtain ⟨t, pt, st⟩ := ha.ex
  refine ⟨_, pe_lst pt, fun c ρ S σ H Q C h => ?_⟩
  refine st c ρ S σ H _ C (h.go .refl fun xs S1 h1 c1 vs H1 s1 C1 r1 => ?_)
  obtain ⟨ds, e, h2⟩ := withD_post h1
  obtain ⟨hl, h3⟩ := ifok_post h2
  have r := r1.data e
  exact ⟨by rw [← r.length, ← line_eq]; exact hl, fun p hp => WantN.fresh h3 s1 C1 r hp (.upd hp) upd_same⟩
/-- a new list, let go as data -/
theorem ev_new {Fn' : NX} (hn : NwOk X Wx e Fn') : EvOk X Wx e (eNew Fn') := by
  obtain ⟨t, pt, st⟩ := hn.ex
  refine ⟨_, pt, fun c ρ S σ H Q C h => ?_⟩
  refine st c ρ S σ H _ C (h.go .refl fun ds S1 h1 c1 p vs H1 s1 C1 hp ap r1 e1 => ?_)
  refine h1 (c1.sub p) _ H1 (s1.sub hp) (C1.sub ap) ?_
  show Rep _ _ _ _ _
  simp only [Rep]
  exact ⟨p, vs, rfl, fun z => z.2 rfl, e1, r1.keep C1.cs.muts .subw⟩
/-- a new object taken into the store -/
abbrev Ct.push (c : Ct) (p : Addr) : Ct := { c with M := fun a => a = p ∨ c.M a, β := c.β ++ [p] }
theorem Kp.push {c : Ct} {H H' : Hp} {p : Addr} (g : Grow H H') (h : H p = none) : Kp c (c.push p) H H' :=
  ⟨fun a o q _ => g a o q, fun a q n => by rcases q with rfl | q; exact h; exact absurd q n, fun n a q => by
    have hl : n < c.β.length := by
      rcases Nat.lt_or_ge n c.β.length with z | z
      · exact z
      · rw [List.getElem?_eq_none z] at q; cases q
    rw [List.getElem?_append_left hl]; exact q, fun a o q => ⟨o, g a o q⟩⟩
theorem Stp.push {c : Ct} {H H' : Hp} {p : Addr} (g : Grow H H') (h : H p = none) : Stp c (c.push p) H H' :=
  ⟨.push g h, fun a o q _ _ => g a o q, fun a q => by
    rcases List.mem_append.mp q with q | q
    · exact .inl q
    · have : a = p := by simpa using q
      exact .inr (this ▸ h), rfl⟩
theorem Cs.push {G : Gs} {c : Ct} {S : Store} {H H' : Hp} {p : Addr} {u : HO} {so : SO} (C : Cs G c S H) (g : Grow H H') (h : H p = none) (hp : H' p = some u) (m : Mut (some u)) (r : SoR G (c.push p) H' so p) :
    Cs G (c.push p) (S ++ [so]) H' where
  muts a z := by
    rcases z with rfl | z
    · exact ⟨u, hp, m⟩
    · obtain ⟨o, e, m⟩ := C.muts a z
      exact ⟨o, g a o e, m⟩
  m0 a z := .inr (C.m0 a z)
  bm a z := by
    rcases List.mem_append.mp z with z | z
    · exact .inr (C.bm a z)
    · exact .inl (by simpa using z)
  nd := by
    rw [List.nodup_append]
    refine ⟨C.nd, by simp, fun x hx y hy => ?_⟩
    have : y = p := by simpa using hy
    subst this
    rintro rfl
    exact C.notM h (C.bm _ hx)
  len := by simp [C.len]
  sto n o a h1 h2 := by
    rcases Nat.lt_trichotomy n S.length with hn | hn | hn
    · rw [List.getElem?_append_left hn] at h1
      rw [List.getElem?_append_left (by rw [← C.len]; exact hn)] at h2
      exact SoR.keep C.muts (.push g h) (fun u => g a u) (C.sto n o a h1 h2)
    · subst hn
      rw [List.getElem?_append_right (Nat.le_refl _)] at h1
      rw [List.getElem?_append_right (by rw [C.len]; exact Nat.le_refl _)] at h2
      simp [C.len] at h1 h2
      subst h1 h2
      exact r
    · rw [List.getElem?_eq_none (by simp; omega)] at h1
      cases h1
theorem Cn.push {G : Gs} {c : Ct} {ρ : Dn.Env} {S : Store} {σ : L2.St} {H H' : Hp} {p : Addr} {u : HO} {so : SO} (C : Cn G c ρ S σ H) (g : Grow H H') (h : H p = none) (hp : H' p = some u) (m : Mut (some u)) (r : SoR G (c.push p) H' so p) :
    Cn G (c.push p) ρ (S ++ [so]) σ H' where
  cs := C.cs.push g h hp m r
  slen := C.slen
  val i d q := let ⟨v, e, r⟩ := C.val i d q; ⟨v, e, r.keep C.cs.muts (.push g h)⟩
  own i o q := by
    obtain ⟨p', e, m', m0, nb, r⟩ := C.own i o q
    refine ⟨p', e, .inr m', m0, fun z => ?_, SoR.keep C.cs.muts (.push g h) (fun u => g p' u) r⟩
    rcases List.mem_append.mp z with z | z
    · exact nb z
    · have : p' = p := by simpa using z
      subst this
      exact C.cs.notM h m'
  sep := C.sep
/-- one at hand taken into the store -/
abbrev Ct.tk (c : Ct) (p : Addr) : Ct := { c with β := c.β ++ [p] }
theorem Kp.tk {c : Ct} {H : Hp} {p : Addr} : Kp c (c.tk p) H H :=
  ⟨fun a o q _ => q, fun a q n => absurd q n, fun n a q => by
    have hl : n < c.β.length := by
      rcases Nat.lt_or_ge n c.β.length with z | z
      · exact z
      · rw [List.getElem?_eq_none z] at q; cases q
    rw [List.getElem?_append_left hl]; exact q, fun a o q => ⟨o, q⟩⟩
theorem Stp.tk {c0 c : Ct} {H0 H : Hp} {p : Addr} (s : Stp c0 c H0 H) (h : H0 p = none) : Stp c0 (c.tk p) H0 H :=
  ⟨s.kp.trans .tk, s.prot, fun a q => by
    rcases List.mem_append.mp q with q | q
    · exact s.newb a q
    · have : a = p := by simpa using q
      exact .inr (this ▸ h), s.z⟩
theorem Cs.tk {G : Gs} {c : Ct} {S : Store} {H : Hp} {p : Addr} {so : SO} (C : Cs G c S H) (hM : c.M p) (hb : p ∉ c.β) (r : SoR G c H so p) : Cs G (c.tk p) (S ++ [so]) H where
  muts a z := C.muts a z
  m0 a z := C.m0 a z
  bm a z := by
    rcases List.mem_append.mp z with z | z
    · exact C.bm a z
    · have : a = p := by simpa using z
      exact this ▸ hM
  nd := by
    rw [List.nodup_append]
    refine ⟨C.nd, by simp, fun x hx y hy => ?_⟩
    have : y = p := by simpa using hy
    subst this
    exact fun e => hb (e ▸ hx)
  len := by simp [C.len]
  sto n o a h1 h2 := by
    rcases Nat.lt_trichotomy n c.β.length with z | z | z
    · rw [List.getElem?_append_left (by rw [C.len]; exact z)] at h1
      rw [List.getElem?_append_left z] at h2
      exact SoR.keep C.muts .tk (fun _ u => u) (C.sto n o a h1 h2)
    · subst z
      rw [List.getElem?_append_right (by rw [C.len]; exact Nat.le_refl _), C.len] at h1
      rw [List.getElem?_append_right (Nat.le_refl _)] at h2
      simp at h1 h2
      subst h1 h2
      exact SoR.keep C.muts .tk (fun _ u => u) r
    · rw [List.getElem?_eq_none (by simp; omega)] at h2
      cases h2
theorem Cn.tk {G : Gs} {c : Ct} {ρ : Dn.Env} {S : Store} {σ : L2.St} {H : Hp} {p : Addr} {so : SO} (C : Cn G c ρ S σ H) (ap : Apart c ρ σ p) (r : SoR G c H so p) : Cn G (c.tk p) ρ (S ++ [so]) σ H where
  cs := C.cs.tk ap.1 ap.2.2.1 r
  slen := C.slen
  val i d q := let ⟨v, e, r⟩ := C.val i d q; ⟨v, e, r.keep C.cs.muts .tk⟩
  own i o q := by
    obtain ⟨p', e, m', m0, nb, r⟩ := C.own i o q
    refine ⟨p', e, m', m0, fun z => ?_, SoR.keep C.cs.muts .tk (fun _ u => u) r⟩
    rcases List.mem_append.mp z with z | z
    · exact nb z
    · have : p' = p := by simpa using z
      subst this
      exact ap.2.2.2 i o q e
  sep := C.sep
theorem ev_newS {Fn' : NX} (hn : NwOk X Wx e Fn') : EvOk X Wx e (eNewS Fn') := by
  obtain ⟨t, pt, st⟩ := hn.ex
  refine ⟨_, pt, fun c ρ S σ H Q C h => ?_⟩
  refine st c ρ S σ H _ C (h.go .refl fun ds S1 h1 c1 p vs H1 s1 C1 hp ap r1 e1 => ?_)
  refine h1 (c1.tk p) _ H1 (s1.tk hp) (C1.tk ap ⟨vs, e1, r1⟩) ?_
  show Rep _ _ _ _ _
  simp only [Rep]
  refine ⟨p, ?_, rfl⟩
  rw [List.getElem?_append_right (by rw [C1.cs.len]; exact Nat.le_refl _)]
  simp [C1.cs.len]

/-! ### built-ins by values -/
def CallD (X : Cx) (g : Value) (f : List D → Option D) : Prop :=
  ∃ r : List V → Hp → VK → Prop, CallR X g r ∧ ∀ c ρ S σ H vs ds d (Q : VK), Cn (gs X) c ρ S σ H → Views (gs X) c H ds vs → f ds = some d → (∀ v H', Grow H H' → Rep (gs X) c H' d v → Q v H') → r vs H Q
theorem call_core {r : List V → Hp → VK → Prop} {f : List D → Option D} {t : TA}
    (sr : ∀ c ρ S σ H vs ds d (Q : VK), Cn (gs X) c ρ S σ H → Views (gs X) c H ds vs → f ds = some d → (∀ v H', Grow H H' → Rep (gs X) c H' d v → Q v H') → r vs H Q)
    (sa : ∀ c ρ S σ H (Q : List V → Hp → Prop), Cn (gs X) c ρ S σ H → Post (gs X) Wx c ρ σ H (WantA (gs X) c ρ σ H Q) (Fs ρ S) → t σ H Q) :
    ∀ c ρ S σ H (Q : VK), Cn (gs X) c ρ S σ H → Post (gs X) Wx c ρ σ H (WantE (gs X) c ρ σ H Q) (eB f Fs ρ S) → tCB r t σ H Q := by
  intro c ρ S σ H Q C h
  refine sa c ρ S σ H _ C (h.go .refl fun xs S1 h1 c1 vs H1 s1 C1 r1 => ?_)
  obtain ⟨d, e, h2⟩ := ret1_post h1
  obtain ⟨ds, e1, e⟩ := obind e
  exact sr c1 ρ S1 σ H1 vs ds d Q C1 (r1.views C1 e1) e fun v H' g r => h2 c1 v H' (s1.trans (.grow g)) (C1.grow g) r
theorem ev_B {id : String} {f : List D → Option D} {x : Str} {p : Pos} (hf : CallD X (.builtin id) f) (hg : Gl X x) (hm : X.mg x = none) (hv : bootBuiltins x = some (.builtin id)) (ha : ArOk X Wx (e :: es) Fs)
    (hn : x ≠ "__name__" := by decide) (hd : (x == ("__debug__" : Str)) = false := by decide) (he : starEach (e :: es) X.env = (false, eval e X.env) :: starEach es X.env := by rfl) (hp : (backTo pos (starEach es X.env)).any (·.1) = false := by rfl) :
    EvOk X Wx (.Call (.Name x p) (e :: es) [] pos) (eB f Fs) := by
  obtain ⟨r, pr, sr⟩ := hf
  obtain ⟨t, pa, sa⟩ := ha.ex
  exact ⟨_, pe_callB pr hg hm hv pa hn hd he hp, call_core sr sa⟩
theorem ev_Ty {T : String} {f : List D → Option D} {x : Str} {p : Pos} (hf : CallD X (.type T) f) (hg : Gl X x) (hm : X.mg x = none) (hv : bootBuiltins x = some (.type T)) (ha : ArOk X Wx (e :: es) Fs)
    (hn : x ≠ "__name__" := by decide) (hd : (x == ("__debug__" : Str)) = false := by decide) (he : starEach (e :: es) X.env = (false, eval e X.env) :: starEach es X.env := by rfl) (hp : (backTo pos (starEach es X.env)).any (·.1) = false := by rfl) :
    EvOk X Wx (.Call (.Name x p) (e :: es) [] pos) (eB f Fs) := by
  obtain ⟨r, pr, sr⟩ := hf
  obtain ⟨t, pa, sa⟩ := ha.ex
  exact ⟨_, pe_callTy pr hg hm hv pa hn hd he hp, call_core sr sa⟩
theorem call_lenK : CallR X (.builtin "len") (fun xs H Q => ∃ p kvs, xs = [V.ref p] ∧ H p = some (.dK kvs) ∧ Q (.int kvs.length) H) := call_lenD
theorem CallR.or {g : Value} {r r' : List V → Hp → VK → Prop} (h : CallR X g r) (h' : CallR X g r') : CallR X g (fun xs H Q => r xs H Q ∨ r' xs H Q) := by
  intro pins s σ H xs us Q I rv q
  rcases q with q | q
  · exact h pins s σ H xs us Q I rv q
  · exact h' pins s σ H xs us Q I rv q
theorem views1 {G : Gs} {c : Ct} {H : Hp} {d : D} {vs : List V} (h : Views G c H [d] vs) : ∃ v, vs = [v] ∧ View G c H d v := by
  obtain ⟨v, r, rfl, q, t⟩ := h
  have : r = [] := t
  subst this
  exact ⟨v, rfl, q⟩
theorem views2 {G : Gs} {c : Ct} {H : Hp} {d d' : D} {vs : List V} (h : Views G c H [d, d'] vs) : ∃ v v', vs = [v, v'] ∧ View G c H d v ∧ View G c H d' v' := by
  obtain ⟨v, r, rfl, q, t⟩ := h
  obtain ⟨v', rfl, q'⟩ := views1 t
  exact ⟨v, v', rfl, q, q'⟩
theorem repK_len {G : Gs} {c : Ct} {H : Hp} : ∀ {kvs : List (Key × D)} {vs : List (Key × V)}, RepK G c H kvs vs → kvs.length = vs.length
  | [], vs, h => by simp only [RepK] at h; subst h; rfl
  | (k, d) :: r, vs, h => by
    simp only [RepK] at h
    obtain ⟨v, r', rfl, _, t⟩ := h
    simp [repK_len t]
theorem cd_len : CallD X (.builtin "len") bLen := by
  refine ⟨_, CallR.or call_len call_lenK, fun c ρ S σ H vs ds d Q C vv e k => ?_⟩
  unfold bLen at e
  split at e
  · cases e
    obtain ⟨v, rfl, q⟩ := views1 vv
    obtain ⟨p, ws, rfl, q, r⟩ := q
    exact .inl ⟨_, _, rfl, .inl ⟨ws, .of q, rfl⟩, k _ _ (.refl _) (by simp [Rep, r.length])⟩
  · cases e
    obtain ⟨v, rfl, q⟩ := views1 vv
    simp only [View, Rep] at q
    obtain ⟨p, ws, rfl, q, r⟩ := q
    exact .inl ⟨_, _, rfl, .inr ⟨ws, q, rfl⟩, k _ _ (.refl _) (by simp [Rep, r.length])⟩
  · split at e
    · cases e
      obtain ⟨v, rfl, q⟩ := views1 vv
      cases q
      exact .inl ⟨_, _, rfl, ⟨by rw [← line_eq]; assumption, rfl⟩, k _ _ (.refl _) (by simp [Rep])⟩
    · cases e
  · cases e
    obtain ⟨v, rfl, q⟩ := views1 vv
    obtain ⟨p, ws, rfl, q, r⟩ := q
    exact .inr ⟨p, ws, rfl, q, k _ _ (.refl _) (by simp [Rep, repK_len r])⟩
  · cases e
    obtain ⟨v, rfl, q⟩ := views1 vv
    obtain ⟨p, rfl, q⟩ := q
    exact .inl ⟨_, _, rfl, .inl ⟨_, q, rfl⟩, k _ _ (.refl _) (by simp [Rep])⟩
  · cases e
theorem cd_max (hc : X.calm = true) : CallD X (.builtin "max") bMax := by
  refine ⟨_, call_max2 hc, fun c ρ S σ H vs ds d Q C vv e k => ?_⟩
  unfold bMax at e
  split at e <;> cases e
  obtain ⟨v, w, rfl, q, q'⟩ := views2 vv
  cases q; cases q'
  exact ⟨_, _, rfl, k _ _ (.refl _) (by simp [Rep])⟩
theorem cd_min (hc : X.calm = true) : CallD X (.builtin "min") bMin := by
  refine ⟨_, call_min2 hc, fun c ρ S σ H vs ds d Q C vv e k => ?_⟩
  unfold bMin at e
  split at e <;> cases e
  obtain ⟨v, w, rfl, q, q'⟩ := views2 vv
  cases q; cases q'
  exact ⟨_, _, rfl, k _ _ (.refl _) (by simp [Rep])⟩
theorem cd_abs : CallD X (.builtin "abs") bAbs := by
  refine ⟨_, call_abs, fun c ρ S σ H vs ds d Q C vv e k => ?_⟩
  unfold bAbs at e
  split at e <;> cases e
  obtain ⟨v, rfl, q⟩ := views1 vv
  cases q
  exact ⟨_, rfl, k _ _ (.refl _) (by simp [Rep])⟩
theorem cd_int : CallD X (.type "int") bInt := by
  refine ⟨_, call_int1, fun c ρ S σ H vs ds d Q C vv e k => ?_⟩
  unfold bInt at e
  split at e <;> cases e
  · obtain ⟨v, rfl, q⟩ := views1 vv
    cases q
    exact .inl ⟨_, rfl, k _ _ (.refl _) (by simp [Rep])⟩
  · obtain ⟨v, rfl, q⟩ := views1 vv
    cases q
    exact .inr ⟨_, rfl, k _ _ (.refl _) (by simp [Rep])⟩
theorem cd_tuple : CallD X (.type "tuple") bTuple := by
  refine ⟨_, call_tuple_of, fun c ρ S σ H vs ds d Q C vv e k => ?_⟩
  unfold bTuple at e
  split at e <;> cases e
  · obtain ⟨v, rfl, q⟩ := views1 vv
    obtain ⟨p, ws, rfl, q, r⟩ := q
    refine ⟨p, ws, rfl, .inl ⟨.of q, fun l hl => ?_⟩⟩
    have g : Grow H (upd H l (.tup ws)) := .upd hl
    refine k _ _ g ?_
    simp only [Rep]
    exact ⟨l, ws, rfl, .of upd_same, r.keep C.cs.muts (.grow g)⟩
  · obtain ⟨v, rfl, q⟩ := views1 vv
    have q' := q
    simp only [View, Rep] at q'
    obtain ⟨p, ws, rfl, q1, r⟩ := q'
    exact ⟨p, ws, rfl, .inr ⟨q1, k _ _ (.refl _) q⟩⟩
/-- list(x): a new list -/
theorem nw_list {x : Str} {p : Pos} (hg : Gl X x) (hm : X.mg x = none) (hv : bootBuiltins x = some (.type "list")) (ha : ArOk X Wx (e :: es) Fs)
    (hn : x ≠ "__name__" := by decide) (hd : (x == ("__debug__" : Str)) = false := by decide) (he : starEach (e :: es) X.env = (false, eval e X.env) :: starEach es X.env := by rfl) (hp : (backTo pos (starEach es X.env)).any (·.1) = false := by rfl) :
    NwOk X Wx (.Call (.Name x p) (e :: es) [] pos) (nOf (eB bList Fs)) := by
  obtain ⟨t, pa, sa⟩ := ha.ex
  refine ⟨_, pe_callTy call_list_of hg hm hv pa hn hd he hp, fun c ρ S σ H Q C h => ?_⟩
  refine sa c ρ S σ H _ C (h.bind.go .refl fun xs S1 h1 c1 vs H1 s1 C1 r1 => ?_)
  obtain ⟨d, e, h2⟩ := ret1_post h1
  obtain ⟨ds, e1, e⟩ := obind e
  have vv := r1.views C1 e1
  unfold bList at e
  split at e <;> cases e
  · obtain ⟨v, rfl, q⟩ := views1 vv
    obtain ⟨p, ws, rfl, q, r⟩ := q
    exact ⟨p, ws, rfl, .inl (.of q), fun l hl => WantN.fresh (show WantN _ _ _ _ _ _ _ _ from h2) s1 C1 r hl (.upd hl) upd_same⟩
  · obtain ⟨v, rfl, q⟩ := views1 vv
    simp only [View, Rep] at q
    obtain ⟨p, ws, rfl, q, r⟩ := q
    exact ⟨p, ws, rfl, .inr q, fun l hl => WantN.fresh (show WantN _ _ _ _ _ _ _ _ from h2) s1 C1 r hl (.upd hl) upd_same⟩
/-- [..] * n, a + b: new lists -/
theorem nw_mul (ha : EvOk X Wx a Fa) (hb : EvOk X Wx b Fb) : NwOk X Wx (.BinOp a .Mult b pos) (nOf (eBin opMul Fa Fb)) := by
  obtain ⟨ta, pa, sa⟩ := ha.ex
  obtain ⟨tb, pb, sb⟩ := hb.ex
  refine ⟨_, pe_op op_rep pa pb, fun c ρ S σ H Q C h => ?_⟩
  refine sa c ρ S σ H _ C (h.bind.go .refl fun x S1 h1 c1 v1 H1 s1 C1 r1 => ?_)
  refine sb c1 ρ S1 σ H1 _ C1 (h1.go s1 fun y S2 h2 c2 v2 H2 s2 C2 r2 => ?_)
  obtain ⟨d, e, h3⟩ := ret1_post h2
  obtain ⟨dx, ex, e⟩ := obind e
  obtain ⟨dy, ey, e⟩ := obind e
  have vx := view_of C2 (r1.keep C1.cs.muts s2.kp) ex
  have vy := view_of C2 r2 ey
  unfold opMul at e
  split at e
  · split at e
    · cases e
      exact h3.elim
    · cases e
  · split at e
    · rename_i hn
      cases e
      rename_i xs n
      obtain ⟨a1, vs, rfl, q1, q2⟩ := vx
      exact ⟨a1, _, vs, rfl, vy, q1, by omega, by omega, by rw [← line_eq, ← q2.length]; exact hn.2, fun p hp => WantN.fresh (show WantN _ _ _ _ _ _ _ _ from h3) (s1.trans s2) C2 (q2.rep _) hp (.upd hp) upd_same⟩
    · cases e
  · cases e
theorem nw_add (ha : EvOk X Wx a Fa) (hb : EvOk X Wx b Fb) : NwOk X Wx (.BinOp a .Add b pos) (nOf (eBin opAdd Fa Fb)) := by
  obtain ⟨ta, pa, sa⟩ := ha.ex
  obtain ⟨tb, pb, sb⟩ := hb.ex
  refine ⟨_, pe_op op_cat pa pb, fun c ρ S σ H Q C h => ?_⟩
  refine sa c ρ S σ H _ C (h.bind.go .refl fun x S1 h1 c1 v1 H1 s1 C1 r1 => ?_)
  refine sb c1 ρ S1 σ H1 _ C1 (h1.go s1 fun y S2 h2 c2 v2 H2 s2 C2 r2 => ?_)
  obtain ⟨d, e, h3⟩ := ret1_post h2
  obtain ⟨dx, ex, e⟩ := obind e
  obtain ⟨dy, ey, e⟩ := obind e
  have vx := view_of C2 (r1.keep C1.cs.muts s2.kp) ex
  have vy := view_of C2 r2 ey
  unfold opAdd at e
  split at e
  · cases e; exact h3.elim
  · split at e
    · cases e; exact h3.elim
    · cases e
  · split at e
    · cases e
      obtain ⟨a1, vs, rfl, q1, q2⟩ := vx
      obtain ⟨a2, ws, rfl, q3, q4⟩ := vy
      exact ⟨a1, a2, vs, ws, rfl, rfl, q1, q3, by rw [← line_eq, ← q2.length, ← q4.length]; assumption, fun p hp => WantN.fresh (show WantN _ _ _ _ _ _ _ _ from h3) (s1.trans s2) C2 (q2.append q4) hp (.upd hp) upd_same⟩
    · cases e
  · split at e
    · cases e; exact h3.elim
    · cases e
  · cases e
theorem cd_list : CallD X (.type "list") bList := by
  refine ⟨_, call_list_of, fun c ρ S σ H vs ds d Q C vv e k => ?_⟩
  have fin : ∀ {ds : List D} {ws : List V} {l : Addr}, Reps (gs X) c H ds ws → H l = none → Q (.ref l) (upd H l (.lst ws)) ∨ True := fun _ _ => .inr trivial
  unfold bList at e
  split at e <;> cases e
  · obtain ⟨v, rfl, q⟩ := views1 vv
    obtain ⟨p, ws, rfl, q, r⟩ := q
    refine ⟨p, ws, rfl, .inl (.of q), fun l hl => ?_⟩
    have g : Grow H (upd H l (.lst ws)) := .upd hl
    refine k _ _ g ?_
    simp only [Rep]
    exact ⟨l, ws, rfl, C.cs.notM hl, upd_same, r.keep C.cs.muts (.grow g)⟩
  · obtain ⟨v, rfl, q⟩ := views1 vv
    simp only [View, Rep] at q
    obtain ⟨p, ws, rfl, q, r⟩ := q
    refine ⟨p, ws, rfl, .inr q, fun l hl => ?_⟩
    have g : Grow H (upd H l (.lst ws)) := .upd hl
    refine k _ _ g ?_
    simp only [Rep]
    exact ⟨l, ws, rfl, C.cs.notM hl, upd_same, r.keep C.cs.muts (.grow g)⟩
theorem blsOf_reps {G : Gs} {c : Ct} {H : Hp} : ∀ {ds : List D} {vs : List V} {bs : List Bool}, Reps G c H ds vs → blsOf ds = some bs → vs = bs.map V.bl
  | [], vs, bs, h, e => by simp only [Reps] at h; simp only [blsOf, Option.some.injEq] at e; subst h e; rfl
  | d :: ds, vs, bs, h, e => by
    simp only [Reps] at h
    obtain ⟨v, r, rfl, q, t⟩ := h
    cases d <;> simp only [blsOf] at e <;> try cases e
    cases h2 : blsOf ds with
    | none => rw [h2] at e; cases e
    | some bs' =>
      rw [h2] at e
      cases e
      simp only [Rep] at q
      subst q
      rw [blsOf_reps t h2]
      rfl
theorem intsOf_reps {G : Gs} {c : Ct} {H : Hp} : ∀ {ds : List D} {vs : List V} {ns : List Int}, Reps G c H ds vs → intsOf ds = some ns → vs = ns.map V.int
  | [], vs, bs, h, e => by simp only [Reps] at h; simp only [intsOf, Option.some.injEq] at e; subst h e; rfl
  | d :: ds, vs, bs, h, e => by
    simp only [Reps] at h
    obtain ⟨v, r, rfl, q, t⟩ := h
    cases d <;> simp only [intsOf] at e <;> try cases e
    cases h2 : intsOf ds with
    | none => rw [h2] at e; cases e
    | some bs' =>
      rw [h2] at e
      cases e
      simp only [Rep] at q
      subst q
      rw [intsOf_reps t h2]
      rfl
theorem cd_all (hc : X.calm = true) : CallD X (.builtin "all") bAll := by
  refine ⟨_, cr_all hc, fun c ρ S σ H vs ds d Q C vv e k => ?_⟩
  unfold bAll at e
  split at e
  · rename_i xs
    cases h : blsOf xs with
    | none => rw [h] at e; cases e
    | some bs =>
      rw [h] at e
      cases e
      obtain ⟨v, rfl, q⟩ := views1 vv
      obtain ⟨p, ws, rfl, q, r⟩ := q
      exact ⟨p, bs, rfl, by rw [← blsOf_reps r h]; exact .of q, k _ _ (.refl _) (by simp [Rep])⟩
  · cases e
theorem cd_any (hc : X.calm = true) : CallD X (.builtin "any") bAny := by
  refine ⟨_, cr_any hc, fun c ρ S σ H vs ds d Q C vv e k => ?_⟩
  unfold bAny at e
  split at e
  · rename_i xs
    cases h : blsOf xs with
    | none => rw [h] at e; cases e
    | some bs =>
      rw [h] at e
      cases e
      obtain ⟨v, rfl, q⟩ := views1 vv
      obtain ⟨p, ws, rfl, q, r⟩ := q
      exact ⟨p, bs, rfl, by rw [← blsOf_reps r h]; exact .of q, k _ _ (.refl _) (by simp [Rep])⟩
  · cases e
theorem cd_sum (hc : X.calm = true) : CallD X (.builtin "sum") bSum := by
  refine ⟨_, cr_sum hc, fun c ρ S σ H vs ds d Q C vv e k => ?_⟩
  unfold bSum at e
  split at e
  · rename_i xs
    cases h : intsOf xs with
    | none => rw [h] at e; cases e
    | some bs =>
      rw [h] at e
      cases e
      obtain ⟨v, rfl, q⟩ := views1 vv
      obtain ⟨p, ws, rfl, q, r⟩ := q
      exact ⟨p, bs, rfl, by rw [← intsOf_reps r h]; exact .of q, k _ _ (.refl _) (by simp [Rep])⟩
  · cases e
end
end Dn
end OfLayF
section OfLayG
set_option Elab.async false
set_option linter.all false
set_option maxRecDepth 100000
set_option maxHeartbeats 1000000
/-! LayG: what is walked, targets, comprehensions. -/
namespace Dn
open PySem PySem.Spec PyProof.Rows L2
section
/-- the walk J gives the items of it, as long as they stay -/
structure Walks (G : Gs) (c : Ct) (H : Hp) (J : It) (it : Items) : Prop where
  goes : ∀ c' H' S i, i < it.xs.length → Stp c c' H H' → Cs G c' S H' → stays it S → J.go i H'
  stops : ∀ c' H' S, Stp c c' H H' → Cs G c' S H' → stays it S → J.stop it.xs.length H'
  yields : ∀ c' H' S i v H'', i < it.xs.length → Stp c c' H H' → Cs G c' S H' → stays it S → J.yld i H' v H'' → Grow H' H'' ∧ ∃ d, it.xs[i]? = some d ∧ Rep G c' H'' d v
abbrev WantI (G : Gs) (c : Ct) (ρ : Dn.Env) (σ : L2.St) (H : Hp) (R : It → Hp → Prop) : Items → Store → Prop := fun it S' =>
  ∀ c' J H', Stp c c' H H' → Cn G c' ρ S' σ H' → Walks G c' H' J it → R J H'
structure ItOk (X : Cx) (Wx : WX) (tg e : Expr) (F : IX) : Prop where
  ex : ∃ t, PI X tg e t ∧ ∀ c ρ S σ H (R : It → Hp → Prop), Cn (gs X) c ρ S σ H → Post (gs X) Wx c ρ σ H (WantI (gs X) c ρ σ H R) (F ρ S) → t σ H R

variable {X : Cx} {Wx : WX} {tg a b e : Expr} {es : List Expr} {Fa Fb : EX} {Fs : AX} {pos : Pos}
theorem reps_get' {G : Gs} {c : Ct} {H : Hp} {ds : List D} {vs : List V} {i : Nat} {v : V} (r : Reps G c H ds vs) (e : vs[i]? = some v) : ∃ d, ds[i]? = some d ∧ Rep G c H d v := r.getV e
/-- a walk over a frozen list, a tuple, at any later state -/
theorem walks_lst {G : Gs} {c : Ct} {S : Store} {H : Hp} {p : Addr} {xs : List D} {vs : List V} (C : Cs G c S H) (hM : ¬ c.M p) (h : H p = some (.lst vs)) (r : Reps G c H xs vs) : Walks G c H (Itl G.K p) ⟨xs, none⟩ where
  goes c' H' S i hi s C' _ := ⟨vs, vs[i]'(by rw [← r.length]; exact hi), .of (s.kp.keep p _ h hM), by simp⟩
  stops c' H' S s C' _ := ⟨vs, .of (s.kp.keep p _ h hM), by rw [← r.length]; exact Nat.le_refl _⟩
  yields c' H' S i v H'' hi s C' _ y := by
    obtain ⟨rfl, y⟩ := y
    have := y vs (.of (s.kp.keep p _ h hM))
    exact ⟨.refl _, (r.keep C.muts s.kp).getV this⟩
theorem walks_tup {G : Gs} {c : Ct} {S : Store} {H : Hp} {p : Addr} {xs : List D} {vs : List V} (C : Cs G c S H) (h : SqT G.K H p vs) (r : Reps G c H xs vs) : Walks G c H (Itt G.K p) ⟨xs, none⟩ where
  goes c' H' S i hi s C' _ := ⟨vs, vs[i]'(by rw [← r.length]; exact hi), s.kp.sqt C.muts h, by simp⟩
  stops c' H' S s C' _ := ⟨vs, s.kp.sqt C.muts h, by rw [← r.length]; exact Nat.le_refl _⟩
  yields c' H' S i v H'' hi s C' _ y := by
    obtain ⟨rfl, y⟩ := y
    exact ⟨.refl _, (r.keep C.muts s.kp).getV (y vs (s.kp.sqt C.muts h))⟩
theorem walks_scr {G : Gs} {c : Ct} {S : Store} {H : Hp} {p : Addr} {xs : List Int} (C : Cs G c S H) (h : ¬ c.M p ∧ Rd H p (.lst (xs.map V.int)) ∨ KL G.K p (xs.map V.int)) : Walks G c H (Itl G.K p) ⟨xs.map .int, none⟩ := by
  have kp : ∀ {c' : Ct} {H' : Hp}, Stp c c' H H' → SqL G.K H' p (xs.map V.int) := fun s => by
    rcases h with ⟨h1, h2⟩ | h
    · exact .inl (s.kp.rd h1 h2).1
    · exact h.seq
  refine ⟨fun c' H' S i hi s C' _ => ⟨_, (xs.map V.int)[i]'(by simpa using hi), kp s, by simp⟩, fun c' H' S s C' _ => ⟨_, kp s, by simp⟩, fun c' H' S i v H'' hi s C' _ y => ?_⟩
  obtain ⟨rfl, y⟩ := y
  refine ⟨.refl _, ?_⟩
  have q := y _ (kp s)
  exact (reps_ints (G := G) (c := c') (H := H'') xs).getV q
theorem walks_str {G : Gs} {c : Ct} {H : Hp} {z : Str} : Walks G c H (Its z) ⟨z.cps.toList.map fun k => .str ⟨#[k]⟩, none⟩ where
  goes c' H' S i hi s C' _ := by show i < z.cps.size; simpa using hi
  stops c' H' S s C' _ := by show z.cps.size ≤ _; simp
  yields c' H' S i v H'' hi s C' _ y := by
    obtain ⟨rfl, ch, y, rfl⟩ := y
    refine ⟨.refl _, .str ⟨#[ch]⟩, ?_, by simp [Rep]⟩
    rw [List.getElem?_map, Array.getElem?_toList, y]
    rfl
theorem walks_loc {G : Gs} {c : Ct} {S : Store} {H : Hp} {n : Nat} {p : Addr} {xs : List D} (C : Cs G c S H) (hb : c.β[n]? = some p) : Walks G c H (Itl G.K p) ⟨xs, some n⟩ := by
  have at' : ∀ {c' : Ct} {H' : Hp} {S' : Store}, Stp c c' H H' → Cs G c' S' H' → stays ⟨xs, some n⟩ S' → ∃ vs, H' p = some (.lst vs) ∧ Reps G c' H' xs vs := fun s C' st => C'.sto n _ p st (s.kp.pre n p hb)
  refine ⟨fun c' H' S i hi s C' st => ?_, fun c' H' S s C' st => ?_, fun c' H' S i v H'' hi s C' st y => ?_⟩
  · obtain ⟨vs, q, r⟩ := at' s C' st
    exact ⟨vs, vs[i]'(by rw [← r.length]; exact hi), .of q, by simp⟩
  · obtain ⟨vs, q, r⟩ := at' s C' st
    exact ⟨vs, .of q, by rw [← r.length]; exact Nat.le_refl _⟩
  · obtain ⟨vs, q, r⟩ := at' s C' st
    obtain ⟨rfl, y⟩ := y
    exact ⟨.refl _, r.getV (y vs (.of q))⟩
theorem PI.or {wi wi' : TI} (h : PI X tg e wi) (h' : PI X tg e wi') : PI X tg e (fun σ H R => wi σ H R ∨ wi' σ H R) := ⟨fun pins s σ H R I q => by
  rcases q with q | q
  · exact h.run pins s σ H R I q
  · exact h'.run pins s σ H R I q⟩
theorem post_seq {G : Gs} {c : Ct} {ρ : Dn.Env} {S : Store} {σ : L2.St} {H : Hp} {P : Items → Store → Prop} {P2 : W → Store → Prop}
    (h : Post G Wx c ρ σ H P (iSeq Fa ρ S)) (k : ∀ d S1 it, Fa ρ S = .ok (.d d) S1 → iOf S1 d = some it → P it S1 → P2 (.d d) S1) : Post G Wx c ρ σ H P2 (Fa ρ S) := by
  unfold iSeq at h
  cases hr : Fa ρ S with
  | ok x S1 =>
    rw [hr] at h k
    cases x with
    | d d =>
      simp only [bind_ok] at h
      cases e : iOf S1 d with
      | none => rw [e] at h; exact h.elim
      | some it => rw [e] at h; exact k d S1 it rfl e h
    | own i => exact h.elim
  | exc C fs S1 => rw [hr] at h; exact h
  | bad => rw [hr] at h; exact h
theorem it_seq (ha : EvOk X Wx a Fa) : ItOk X Wx tg a (iSeq Fa) := by
  obtain ⟨t, pt, st⟩ := ha.ex
  refine ⟨_, (PI.or (pi_list pt) (PI.or (pi_tup pt) (pi_str pt))), fun c ρ S σ H R C h => ?_⟩
  have key : (∀ d S1, Fa ρ S = .ok (.d d) S1 → (¬ ∃ xs, d = .tup xs) ∧ ¬ ∃ xs, d = .str xs) ∨ (∃ xs S1, Fa ρ S = .ok (.d (.tup xs)) S1) ∨ ∃ xs S1, Fa ρ S = .ok (.d (.str xs)) S1 := by
    by_cases h1 : ∃ xs S1, Fa ρ S = .ok (.d (.tup xs)) S1
    · exact .inr (.inl h1)
    · by_cases h2 : ∃ xs S1, Fa ρ S = .ok (.d (.str xs)) S1
      · exact .inr (.inr h2)
      · refine .inl fun d S1 e => ⟨fun ⟨xs, ex⟩ => h1 ⟨xs, S1, ex ▸ e⟩, fun ⟨xs, ex⟩ => h2 ⟨xs, S1, ex ▸ e⟩⟩
  rcases key with kk | ⟨xs, S1, hF⟩ | ⟨xs, S1, hF⟩
  · left
    refine st c ρ S σ H _ C (post_seq h fun d S1 it hF e h1 => ?_)
    intro c1 v1 H1 s1 C1 r1
    have r1' : Rep (gs X) c1 H1 d v1 := r1
    have e0 := e
    simp only [iOf] at e
    split at e
    · cases e
      simp only [Rep] at r1'
      obtain ⟨p, vs, rfl, q1, q2, q3⟩ := r1'
      exact ⟨p, rfl, ⟨vs, .of q2⟩, h1 c1 _ H1 s1 C1 (walks_lst C1.cs q1 q2 q3)⟩
    · exact ((kk _ _ hF).1 ⟨_, rfl⟩).elim
    · exact ((kk _ _ hF).2 ⟨_, rfl⟩).elim
    · split at e
      · rename_i en
        cases e
        simp only [Rep] at r1'
        obtain ⟨p, q1, rfl⟩ := r1'
        obtain ⟨vs, q2, q3⟩ := C1.cs.sto _ _ p en q1
        exact ⟨p, rfl, ⟨vs, .of q2⟩, h1 c1 _ H1 s1 C1 (walks_loc C1.cs q1)⟩
      · cases e
    · cases e
      simp only [Rep] at r1'
      obtain ⟨p, rfl, q⟩ := r1'
      refine ⟨p, rfl, ?_, h1 c1 _ H1 s1 C1 (walks_scr C1.cs q)⟩
      rcases q with ⟨_, q⟩ | q
      · exact ⟨_, .inl q⟩
      · exact ⟨_, q.seq⟩
    · cases e
  · right; left
    refine st c ρ S σ H _ C (post_seq h fun d S1 it hF' e h1 => ?_)
    rw [hF] at hF'
    cases hF'
    intro c1 v1 H1 s1 C1 r1
    have r1' : Rep (gs X) c1 H1 (.tup xs) v1 := r1
    simp only [iOf, Option.some.injEq] at e
    subst e
    simp only [Rep] at r1'
    obtain ⟨p, vs, rfl, q1, q2⟩ := r1'
    exact ⟨p, rfl, ⟨vs, q1⟩, h1 c1 _ H1 s1 C1 (walks_tup C1.cs q1 q2)⟩
  · right; right
    refine st c ρ S σ H _ C (post_seq h fun d S1 it hF' e h1 => ?_)
    rw [hF] at hF'
    cases hF'
    intro c1 v1 H1 s1 C1 r1
    have r1' : Rep (gs X) c1 H1 (.str xs) v1 := r1
    simp only [iOf, Option.some.injEq] at e
    subst e
    simp only [Rep] at r1'
    exact ⟨xs, r1', h1 c1 _ H1 s1 C1 walks_str⟩
/-! ### ranges -/
theorem walks_range {G : Gs} {c : Ct} {H : Hp} {lo : Int} {n : Nat} : Walks G c H (Itr lo n) ⟨rangeL lo n, none⟩ where
  goes c' H' S i hi s C' _ := by show i < n; simpa [rangeL] using hi
  stops c' H' S s C' _ := by show n ≤ _; simp [rangeL]
  yields c' H' S i v H'' hi s C' _ y := by
    obtain ⟨rfl, rfl⟩ := y
    have hi' : i < n := by simpa [rangeL] using hi
    exact ⟨.refl _, .int (lo + i), by simp [rangeL, hi'], by simp [Rep]⟩
theorem it_range1 {p : Pos} (hg : Gl X "range") (hm : X.mg "range" = none) (ha : ArOk X Wx [a] Fs) (hs : starEach [a] X.env = [(false, eval a X.env)] := by rfl) : ItOk X Wx tg (.Call (.Name "range" p) [a] [] pos) (iRange1 Fs) := by
  obtain ⟨t, pt, st⟩ := ha.ex
  refine ⟨_, pi_range1 hg hm pt hs, fun c ρ S σ H R C h => ?_⟩
  refine st c ρ S σ H _ C (h.go .refl fun xs S1 h1 c1 vs H1 s1 C1 r1 => ?_)
  split at h1
  · obtain ⟨hr, h1⟩ := ifok_post h1
    simp only [rOk, decide_eq_true_eq] at hr
    have := r1.data rfl
    simp only [Reps, Rep] at this
    obtain ⟨v, r, rfl, rfl, rfl⟩ := this
    exact ⟨_, rfl, by omega, by omega, h1 c1 _ H1 s1 C1 walks_range⟩
  · exact h1.elim
theorem it_range2 {p : Pos} (hg : Gl X "range") (hm : X.mg "range" = none) (ha : ArOk X Wx [a, b] Fs) (hs : starEach [a, b] X.env = [(false, eval a X.env), (false, eval b X.env)] := by rfl) (hs2 : starEach [b] X.env = [(false, eval b X.env)] := by rfl) : ItOk X Wx tg (.Call (.Name "range" p) [a, b] [] pos) (iRange2 Fs) := by
  obtain ⟨t, pt, st⟩ := ha.ex
  refine ⟨_, pi_range2 hg hm pt hs hs2, fun c ρ S σ H R C h => ?_⟩
  refine st c ρ S σ H _ C (h.go .refl fun xs S1 h1 c1 vs H1 s1 C1 r1 => ?_)
  split at h1
  · obtain ⟨hr, h1⟩ := ifok_post h1
    simp only [rOk, Bool.and_eq_true, decide_eq_true_eq] at hr
    have := r1.data rfl
    simp only [Reps, Rep] at this
    obtain ⟨v, r, rfl, rfl, v', r', rfl, rfl, rfl⟩ := this
    exact ⟨_, _, rfl, ⟨by omega, by omega, by omega, by omega⟩, h1 c1 _ H1 s1 C1 walks_range⟩
  · exact h1.elim
theorem walks_rangeC {G : Gs} {c : Ct} {H : Hp} {lo k : Int} {n : Nat} : Walks G c H (Itc lo k n) ⟨(List.range n).map fun (i : Nat) => D.int (lo + i * k), none⟩ where
  goes c' H' S i hi s C' _ := by show i < n; simpa using hi
  stops c' H' S s C' _ := by show n ≤ _; simp
  yields c' H' S i v H'' hi s C' _ y := by
    obtain ⟨rfl, rfl⟩ := y
    have hi' : i < n := by simpa using hi
    exact ⟨.refl _, .int (lo + i * k), by simp [hi'], by simp [Rep]⟩
theorem rgc_of {i j k : Int} {n : Nat} (hi : rOk i = true) (hj : rOk j = true) (hk : k.natAbs < 1000000) (h : stepN i j k = some n) : RgC i j k n := by
  simp only [rOk, decide_eq_true_eq] at hi hj
  unfold stepN at h
  split at h
  · rename_i h0
    cases h
    have e : Builtin.Range.rangeSize i j k = ((((j - i + (k - 1)) / k).toNat : Nat) : Int) := by
      unfold Builtin.Range.rangeSize
      rw [if_pos (by omega)]
      split
      · rename_i hl
        have : j - i + (k - 1) = (j - i - 1) + 1 * k := by omega
        rw [this, Int.add_mul_ediv_right _ _ (by omega)]
        have : 0 ≤ (j - i - 1) / k := Int.ediv_nonneg (by omega) (by omega)
        omega
      · rename_i hl
        have : (j - i + (k - 1)) / k ≤ 0 := by
          have : (j - i + (k - 1)) / k < 1 := Int.ediv_lt_of_lt_mul h0 (by omega)
          omega
        omega
    refine ⟨by omega, by omega, ?_, e⟩
    have e2 : 0 ≤ Builtin.Range.rangeSize i j k ∧ Builtin.Range.rangeSize i j k ≤ 2 ^ 63 - 1 := by
      unfold Builtin.Range.rangeSize
      rw [if_pos (by omega)]
      split
      · have h1 : 0 ≤ (j - i - 1) / k := Int.ediv_nonneg (by omega) (by omega)
        have h2 : (j - i - 1) / k ≤ j - i - 1 := Int.ediv_le_self _ (by omega)
        omega
      · omega
    unfold Builtin.Range.small
    generalize Builtin.Range.rangeSize i j k = r at e2 ⊢
    rw [if_pos (show k > 0 by omega)]
    simp only [Builtin.Range.rangeFitsLong, Bool.and_eq_true, Bool.or_eq_true, decide_eq_true_eq, beq_iff_eq]
    exact ⟨⟨⟨⟨by omega, by omega⟩, ⟨by omega, by omega⟩⟩, ⟨by omega, by omega⟩⟩, .inr ⟨by omega, by omega⟩⟩
  · split at h
    · rename_i h1
      cases h
      subst h1
      exact RgC.neg (by omega) (by omega) (by omega) (by omega)
    · cases h
theorem it_range3 {p : Pos} {k : Expr} (hg : Gl X "range") (hm : X.mg "range" = none) (ha : ArOk X Wx [a, b, k] Fs) (hs : starEach [a, b, k] X.env = (false, eval a X.env) :: starEach [b, k] X.env := by rfl) (hpl : (backTo pos (starEach [b, k] X.env)).any (·.1) = false := by rfl) :
    ItOk X Wx tg (.Call (.Name "range" p) [a, b, k] [] pos) (iRange3 Fs) := by
  obtain ⟨t, pt, st⟩ := ha.ex
  refine ⟨_, pi_range3 hg hm pt hs hpl, fun c ρ S σ H R C h => ?_⟩
  refine st c ρ S σ H _ C (h.go .refl fun xs S1 h1 c1 vs H1 s1 C1 r1 => ?_)
  split at h1
  · obtain ⟨hr, h1⟩ := ifok_post h1
    simp only [Bool.and_eq_true, decide_eq_true_eq] at hr
    split at h1
    · rename_i e
      have := r1.data rfl
      simp only [Reps, Rep] at this
      obtain ⟨v, r, rfl, rfl, v', r', rfl, rfl, v'', r'', rfl, rfl, rfl⟩ := this
      exact ⟨_, _, _, _, rfl, rgc_of hr.1.1 hr.1.2 hr.2 e, h1 c1 _ H1 s1 C1 walks_rangeC⟩
    · exact h1.elim
  · exact h1.elim
/-! ### enumerate, reversed, zip -/
theorem grow_tup {G : Gs} {c c' : Ct} {S : Store} {H' : Hp} {T : Addr} {ds : List D} {vs : List V} (C' : Cs G c' S H') (h : H' T = none) (r : Reps G c' H' ds vs) : Grow H' (upd H' T (.tup vs)) ∧ Rep G c' (upd H' T (.tup vs)) (.tup ds) (.ref T) := by
  have g : Grow H' (upd H' T (.tup vs)) := .upd h
  refine ⟨g, ?_⟩
  simp only [Rep]
  exact ⟨T, vs, rfl, .of upd_same, r.keep C'.muts (.grow g)⟩
theorem walks_enum {G : Gs} {c : Ct} {S : Store} {H : Hp} {p : Addr} {xs : List D} {vs : List V} (C : Cs G c S H) (hM : ¬ c.M p) (h : H p = some (.lst vs)) (r : Reps G c H xs vs) :
    Walks G c H (Ite G.K p) ⟨(xs.zipIdx).map fun q => .tup [.int (q.2 : Nat), q.1], none⟩ where
  goes c' H' S i hi s C' _ := ⟨vs, vs[i]'(by rw [← r.length]; simpa using hi), .of (s.kp.keep p _ h hM), by simp⟩
  stops c' H' S s C' _ := ⟨vs, .of (s.kp.keep p _ h hM), by rw [← r.length]; simp⟩
  yields c' H' S i v H'' hi s C' _ y := by
    obtain ⟨T, x, rfl, hT, rfl, y⟩ := y
    obtain ⟨d, e, q⟩ := (r.keep C.muts s.kp).getV (y vs (.of (s.kp.keep p _ h hM)))
    have z := grow_tup (c := c') C' hT (.cons (d := .int (i : Nat)) (v := .int (i : Nat)) (by simp [Rep]) (.one q))
    exact ⟨z.1, _, by simp [List.getElem?_map, List.getElem?_zipIdx, e], z.2⟩
theorem it_enum {p tpos : Pos} {elts : List Expr} {kk : Nat} (hg : Gl X "enumerate") (hm : X.mg "enumerate" = none) (ha : EvOk X Wx a Fa) (hs : starEach [a] X.env = (false, eval a X.env) :: starEach [] X.env := by rfl) : ItOk X Wx (.Tuple elts kk tpos) (.Call (.Name "enumerate" p) [a] [] pos) (iEnum Fa) := by
  obtain ⟨t, pt, st⟩ := ha.ex
  refine ⟨_, pi_enum hg hm (pa_cons pt pa_nil hs) (hs.trans rfl), fun c ρ S σ H R C h => ?_⟩
  refine st c ρ S σ H _ C (h.go .refl fun x S1 h1 c1 v1 H1 s1 C1 r1 => ?_)
  split at h1
  · have r1' : Rep (gs X) c1 H1 (.lst _) v1 := r1
    simp only [Rep] at r1'
    obtain ⟨p, vs, rfl, q1, q2, q3⟩ := r1'
    exact ⟨p, vs, rfl, .of q2, h1 c1 _ H1 s1 C1 (walks_enum C1.cs q1 q2 q3)⟩
  · exact h1.elim
theorem reverse_at {α : Type} {xs : List α} {i : Nat} (h : i < xs.length) : xs.reverse[i]? = xs[xs.length - 1 - i]? := by
  rw [List.getElem?_reverse h]
theorem walks_revL {G : Gs} {c : Ct} {S : Store} {H : Hp} {p : Addr} {xs : List D} {vs : List V} (C : Cs G c S H) (hM : ¬ c.M p) (h : H p = some (.lst vs)) (r : Reps G c H xs vs) : Walks G c H (Itv G.K p vs.length) ⟨xs.reverse, none⟩ where
  goes c' H' S i hi s C' _ := by
    have hi' : i < vs.length := by rw [← r.length]; simpa using hi
    exact ⟨hi', vs, vs[vs.length - 1 - i]'(by omega), .of (s.kp.keep p _ h hM), by simp [show vs.length - 1 - i < vs.length by omega]⟩
  stops c' H' S s C' _ := by show vs.length ≤ _; rw [← r.length]; simp
  yields c' H' S i v H'' hi s C' _ y := by
    obtain ⟨rfl, y⟩ := y
    obtain ⟨d, e, q⟩ := (r.keep C.muts s.kp).getV (y vs (.of (s.kp.keep p _ h hM)))
    refine ⟨.refl _, d, ?_, q⟩
    rw [reverse_at (by simpa using hi), r.length]
    exact e
theorem walks_revT {G : Gs} {c : Ct} {S : Store} {H : Hp} {p : Addr} {xs : List D} {vs : List V} (C : Cs G c S H) (h : SqT G.K H p vs) (r : Reps G c H xs vs) : Walks G c H (RT.ItvT G.K p vs.length) ⟨xs.reverse, none⟩ where
  goes c' H' S i hi s C' _ := by
    have hi' : i < vs.length := by rw [← r.length]; simpa using hi
    exact ⟨hi', vs, vs[vs.length - 1 - i]'(by omega), s.kp.sqt C.muts h, by simp [show vs.length - 1 - i < vs.length by omega]⟩
  stops c' H' S s C' _ := by show vs.length ≤ _; rw [← r.length]; simp
  yields c' H' S i v H'' hi s C' _ y := by
    obtain ⟨rfl, y⟩ := y
    obtain ⟨d, e, q⟩ := (r.keep C.muts s.kp).getV (y vs (s.kp.sqt C.muts h))
    refine ⟨.refl _, d, ?_, q⟩
    rw [reverse_at (by simpa using hi), r.length]
    exact e
theorem it_rev {p : Pos} (hg : Gl X "reversed") (hm : X.mg "reversed" = none) (ha : EvOk X Wx a Fa) (hs : starEach [a] X.env = (false, eval a X.env) :: starEach [] X.env := by rfl) : ItOk X Wx tg (.Call (.Name "reversed" p) [a] [] pos) (iRev Fa) := by
  obtain ⟨t, pt, st⟩ := ha.ex
  refine ⟨_, RT.pi_revA hg hm pt hs, fun c ρ S σ H R C h => ?_⟩
  refine st c ρ S σ H _ C (h.go .refl fun x S1 h1 c1 v1 H1 s1 C1 r1 => ?_)
  split at h1
  · have r1' : Rep (gs X) c1 H1 (.lst _) v1 := r1
    simp only [Rep] at r1'
    obtain ⟨p, vs, rfl, q1, q2, q3⟩ := r1'
    exact ⟨p, vs, rfl, .inl ⟨.of q2, h1 c1 _ H1 s1 C1 (walks_revL C1.cs q1 q2 q3)⟩⟩
  · have r1' : Rep (gs X) c1 H1 (.tup _) v1 := r1
    simp only [Rep] at r1'
    obtain ⟨p, vs, rfl, q1, q2⟩ := r1'
    exact ⟨p, vs, rfl, .inr ⟨q1, h1 c1 _ H1 s1 C1 (walks_revT C1.cs q1 q2)⟩⟩
  · exact h1.elim
theorem zip_at {xs ys : List D} {i : Nat} {d e : D} (h : xs[i]? = some d) (h' : ys[i]? = some e) : ((xs.zip ys).map fun q => D.tup [q.1, q.2])[i]? = some (.tup [d, e]) := by
  rw [List.getElem?_map]
  have : (xs.zip ys)[i]? = some (d, e) := by rw [List.getElem?_zip_eq_some]; exact ⟨h, h'⟩
  rw [this]
  rfl
theorem walks_zipL {G : Gs} {c : Ct} {S : Store} {H : Hp} {p p' : Addr} {xs xs' : List D} {vs vs' : List V} (C : Cs G c S H) (hM : ¬ c.M p) (h : H p = some (.lst vs)) (r : Reps G c H xs vs) (hM' : ¬ c.M p') (h' : H p' = some (.lst vs')) (r' : Reps G c H xs' vs') :
    Walks G c H (Itz G.K p p') ⟨(xs.zip xs').map fun q => .tup [q.1, q.2], none⟩ where
  goes c' H' S i hi s C' _ := by
    have hi' : i < vs.length ∧ i < vs'.length := by rw [← r.length, ← r'.length]; simp at hi; omega
    exact ⟨vs, vs', vs[i]'hi'.1, vs'[i]'hi'.2, .of (s.kp.keep p _ h hM), .of (s.kp.keep p' _ h' hM'), by simp, by simp⟩
  stops c' H' S s C' _ := ⟨vs, vs', .of (s.kp.keep p _ h hM), .of (s.kp.keep p' _ h' hM'), by rw [← r.length, ← r'.length]; simp; omega⟩
  yields c' H' S i v H'' hi s C' _ y := by
    obtain ⟨T, x, x', rfl, hT, rfl, y, y'⟩ := y
    obtain ⟨d, e, q⟩ := (r.keep C.muts s.kp).getV (y vs (.of (s.kp.keep p _ h hM)))
    obtain ⟨d', e', q'⟩ := (r'.keep C.muts s.kp).getV (y' vs' (.of (s.kp.keep p' _ h' hM')))
    have z := grow_tup (c := c') C' hT (.cons q (.one q'))
    exact ⟨z.1, _, zip_at e e', z.2⟩
theorem walks_zipT {G : Gs} {c : Ct} {S : Store} {H : Hp} {p p' : Addr} {xs xs' : List D} {vs vs' : List V} (C : Cs G c S H) (h : SqT G.K H p vs) (r : Reps G c H xs vs) (h' : SqT G.K H p' vs') (r' : Reps G c H xs' vs') :
    Walks G c H (RZ.ItzT G.K p p') ⟨(xs.zip xs').map fun q => .tup [q.1, q.2], none⟩ where
  goes c' H' S i hi s C' _ := by
    have hi' : i < vs.length ∧ i < vs'.length := by rw [← r.length, ← r'.length]; simp at hi; omega
    exact ⟨vs, vs', vs[i]'hi'.1, vs'[i]'hi'.2, s.kp.sqt C.muts h, s.kp.sqt C.muts h', by simp, by simp⟩
  stops c' H' S s C' _ := ⟨vs, vs', s.kp.sqt C.muts h, s.kp.sqt C.muts h', by rw [← r.length, ← r'.length]; simp; omega⟩
  yields c' H' S i v H'' hi s C' _ y := by
    obtain ⟨T, x, x', rfl, hT, rfl, y, y'⟩ := y
    obtain ⟨d, e, q⟩ := (r.keep C.muts s.kp).getV (y vs (s.kp.sqt C.muts h))
    obtain ⟨d', e', q'⟩ := (r'.keep C.muts s.kp).getV (y' vs' (s.kp.sqt C.muts h'))
    have z := grow_tup (c := c') C' hT (.cons q (.one q'))
    exact ⟨z.1, _, zip_at e e', z.2⟩
theorem it_zip {p tpos : Pos} {elts : List Expr} {kk : Nat} (hg : Gl X "zip") (hm : X.mg "zip" = none) (ha : EvOk X Wx a Fa) (hb : EvOk X Wx b Fb)
    (hs : starEach [a, b] X.env = (false, eval a X.env) :: starEach [b] X.env := by rfl) (hs2 : starEach [b] X.env = (false, eval b X.env) :: starEach [] X.env := by rfl) (hpl : (backTo pos (starEach [b] X.env)).any (·.1) = false := by rfl) : ItOk X Wx (.Tuple elts kk tpos) (.Call (.Name "zip" p) [a, b] [] pos) (iZip Fa Fb) := by
  obtain ⟨t, pt, st⟩ := ha.ex
  obtain ⟨u, pu, su⟩ := hb.ex
  refine ⟨_, RZ.pi_zipA hg hm (pa_cons pt (pa_cons pu pa_nil hs2) hs) hs hpl, fun c ρ S σ H R C h => ?_⟩
  refine st c ρ S σ H _ C (h.go .refl fun x S1 h1 c1 v1 H1 s1 C1 r1 => ?_)
  refine su c1 ρ S1 σ H1 _ C1 (h1.go s1 fun y S2 h2 c2 v2 H2 s2 C2 r2 => ?_)
  split at h2
  · have r1' : Rep (gs X) c2 H2 (.lst _) v1 := r1.keep C1.cs.muts s2.kp
    have r2' : Rep (gs X) c2 H2 (.lst _) v2 := r2
    simp only [Rep] at r1' r2'
    obtain ⟨p, vs, rfl, q1, q2, q3⟩ := r1'
    obtain ⟨p', vs', rfl, q1', q2', q3'⟩ := r2'
    exact ⟨p, p', vs, vs', rfl, .inl ⟨.of q2, .of q2', h2 c2 _ H2 (s1.trans s2) C2 (walks_zipL C2.cs q1 q2 q3 q1' q2' q3')⟩⟩
  · have r1' : Rep (gs X) c2 H2 (.tup _) v1 := r1.keep C1.cs.muts s2.kp
    have r2' : Rep (gs X) c2 H2 (.tup _) v2 := r2
    simp only [Rep] at r1' r2'
    obtain ⟨p, vs, rfl, q1, q2⟩ := r1'
    obtain ⟨p', vs', rfl, q1', q2'⟩ := r2'
    exact ⟨p, p', vs, vs', rfl, .inr ⟨q1, q1', h2 c2 _ H2 (s1.trans s2) C2 (walks_zipT C2.cs q1 q2 q1' q2')⟩⟩
  · exact h2.elim
end
end Dn
end OfLayG
section OfLayH
set_option Elab.async false
set_option linter.all false
set_option maxRecDepth 100000
set_option maxHeartbeats 1000000
/-! LayH: slots set and forgotten, targets, comprehensions. -/
namespace Dn
open PySem PySem.Spec PyProof.Rows L2
section
variable {G : Gs} {c c' : Ct} {H H' : Hp} {ρ : Dn.Env} {S : Store} {σ : L2.St}
theorem set_get {α : Type} {l : List α} {i j : Nat} {x y : α} (h : (l.set i x)[j]? = some y) : (j = i ∧ y = x ∧ i < l.length) ∨ (j ≠ i ∧ l[j]? = some y) := by
  by_cases e : i = j
  · subst e
    by_cases hl : i < l.length
    · rw [List.getElem?_set_self hl] at h
      exact .inl ⟨rfl, (Option.some.inj h).symm, hl⟩
    · rw [List.getElem?_eq_none (by simpa using hl)] at h
      cases h
  · rw [List.getElem?_set_ne e] at h
    exact .inr ⟨fun z => e z.symm, h⟩
theorem Cn.set (C : Cn G c ρ S σ H) {i : Nat} {d : D} {v : V} (r : Rep G c H d v) : Cn G c (ρ.set i (.val d)) S (σ.set i (some v)) H where
  cs := C.cs
  slen := by simp [C.slen]
  val j d' h := by
    rcases set_get h with ⟨rfl, e, hl⟩ | ⟨e, h⟩
    · cases e
      exact ⟨v, by rw [List.getElem?_set_self (by rw [← C.slen]; exact hl)], r⟩
    · obtain ⟨w, q, r'⟩ := C.val j d' h
      exact ⟨w, by rw [List.getElem?_set_ne (fun z => e z.symm)]; exact q, r'⟩
  own j o h := by
    rcases set_get h with ⟨rfl, e, hl⟩ | ⟨e, h⟩
    · cases e
    · obtain ⟨p, q, r'⟩ := C.own j o h
      exact ⟨p, by rw [List.getElem?_set_ne (fun z => e z.symm)]; exact q, r'⟩
  sep j k o o' p h1 h2 h3 h4 := by
    rcases set_get h1 with ⟨rfl, e, _⟩ | ⟨e, h1⟩
    · cases e
    · rcases set_get h2 with ⟨rfl, e', _⟩ | ⟨e', h2⟩
      · cases e'
      · rw [List.getElem?_set_ne (fun z => e z.symm)] at h3
        rw [List.getElem?_set_ne (fun z => e' z.symm)] at h4
        exact C.sep j k o o' p h1 h2 h3 h4
/-- a slot is forgotten, whatever stands in it now -/
theorem Cn.kill (C : Cn G c ρ S σ H) {i : Nat} {ov : Option V} : Cn G c (ρ.set i .un) S (σ.set i ov) H where
  cs := C.cs
  slen := by simp [C.slen]
  val j d' h := by
    rcases set_get h with ⟨rfl, e, hl⟩ | ⟨e, h⟩
    · cases e
    · obtain ⟨w, q, r'⟩ := C.val j d' h
      exact ⟨w, by rw [List.getElem?_set_ne (fun z => e z.symm)]; exact q, r'⟩
  own j o h := by
    rcases set_get h with ⟨rfl, e, hl⟩ | ⟨e, h⟩
    · cases e
    · obtain ⟨p, q, r'⟩ := C.own j o h
      exact ⟨p, by rw [List.getElem?_set_ne (fun z => e z.symm)]; exact q, r'⟩
  sep j k o o' p h1 h2 h3 h4 := by
    rcases set_get h1 with ⟨rfl, e, _⟩ | ⟨e, h1⟩
    · cases e
    · rcases set_get h2 with ⟨rfl, e', _⟩ | ⟨e', h2⟩
      · cases e'
      · rw [List.getElem?_set_ne (fun z => e z.symm)] at h3
        rw [List.getElem?_set_ne (fun z => e' z.symm)] at h4
        exact C.sep j k o o' p h1 h2 h3 h4
theorem Cn.un (C : Cn G c ρ S σ H) {i : Nat} : Cn G c (ρ.set i .un) S σ H := by
  by_cases h : i < σ.length
  · have := C.kill (i := i) (ov := σ[i])
    rwa [List.set_getElem_self] at this
  · have e : ρ.set i .un = ρ := by rw [List.set_eq_of_length_le]; rw [C.slen]; omega
    rw [e]
    exact C
theorem Cn.wipeE (C : Cn G c ρ S σ H) : ∀ vs : List Nat, Cn G c (Dn.wipe ρ vs) S σ H
  | [] => C
  | v :: vs => (C.wipeE vs).un
theorem Cn.wipe (C : Cn G c ρ S σ H) : ∀ vs : List Nat, Cn G c (Dn.wipe ρ vs) S (L2.wipe σ vs) H
  | [] => C
  | v :: vs => (C.wipe vs).kill
theorem wipeE_get {i : Nat} {s : Slot} : ∀ {vs : List Nat}, (Dn.wipe ρ vs)[i]? = some s → s ≠ .un → ρ[i]? = some s ∧ i ∉ vs
  | [], h, _ => ⟨h, by simp⟩
  | v :: vs, h, n => by
    unfold Dn.wipe at h
    rcases set_get h with ⟨rfl, e, _⟩ | ⟨e, h⟩
    · exact absurd e n
    · obtain ⟨a, b⟩ := wipeE_get h n
      exact ⟨a, by simp only [List.mem_cons, not_or]; exact ⟨e, b⟩⟩
theorem wipeE_out {i : Nat} : ∀ {vs : List Nat}, i ∉ vs → (Dn.wipe ρ vs)[i]? = ρ[i]?
  | [], _ => rfl
  | v :: vs, h => by
    simp only [List.mem_cons, not_or] at h
    unfold Dn.wipe
    rw [List.getElem?_set_ne (fun z => h.1 z.symm)]
    exact wipeE_out h.2
theorem wipeS_out {i : Nat} : ∀ {vs : List Nat}, i ∉ vs → (L2.wipe σ vs)[i]? = σ[i]?
  | [], _ => rfl
  | v :: vs, h => by
    simp only [List.mem_cons, not_or] at h
    unfold L2.wipe
    rw [List.getElem?_set_ne (fun z => h.1 z.symm)]
    exact wipeS_out h.2
/-- slots that differ at vs alone -/
def Same (vs : List Nat) (σ σ' : L2.St) : Prop := σ'.length = σ.length ∧ ∀ i, i ∉ vs → σ'[i]? = σ[i]?
theorem Same.refl {vs : List Nat} {σ : L2.St} : Same vs σ σ := ⟨rfl, fun _ _ => rfl⟩
theorem Same.trans {vs : List Nat} {σ σ1 σ2 : L2.St} (a : Same vs σ σ1) (b : Same vs σ1 σ2) : Same vs σ σ2 := ⟨b.1.trans a.1, fun i h => (b.2 i h).trans (a.2 i h)⟩
theorem Same.mono {vs ws : List Nat} {σ σ1 : L2.St} (a : Same vs σ σ1) (h : ∀ i ∈ vs, i ∈ ws) : Same ws σ σ1 := ⟨a.1, fun i n => a.2 i fun z => n (h i z)⟩
theorem Same.set {i : Nat} {v : Option V} : Same [i] σ (σ.set i v) := ⟨by simp, fun j h => by rw [List.getElem?_set_ne]; simpa using fun z => h (by simp [z])⟩
theorem wipeS_in {i : Nat} : ∀ {vs : List Nat}, i ∈ vs → i < σ.length → (L2.wipe σ vs)[i]? = some none
  | v :: vs, h, hl => by
    unfold L2.wipe
    by_cases e : v = i
    · subst e
      rw [List.getElem?_set_self (by rw [wipe_length]; exact hl)]
    · rw [List.getElem?_set_ne e]
      refine wipeS_in ?_ hl
      rcases List.mem_cons.mp h with z | z
      · exact absurd z.symm e
      · exact z
theorem Same.wipe {vs : List Nat} {σ σ1 : L2.St} (a : Same vs σ σ1) : L2.wipe σ1 vs = L2.wipe σ vs := by
  apply List.ext_getElem?
  intro i
  by_cases h : i ∈ vs
  · by_cases hl : i < σ.length
    · rw [wipeS_in h hl, wipeS_in h (by rw [a.1]; exact hl)]
    · rw [List.getElem?_eq_none (by rw [wipe_length, a.1]; omega), List.getElem?_eq_none (by rw [wipe_length]; omega)]
  · rw [wipeS_out h, wipeS_out h, a.2 i h]

/-! ### what callers own, widened -/
abbrev Ct.wm0 (c : Ct) (P : Addr → Prop) : Ct := { c with M0 := P }
theorem Kp.wm0 {P : Addr → Prop} : Kp c (c.wm0 P) H H := ⟨fun _ _ q _ => q, fun _ q n => absurd q n, fun _ _ q => q, fun _ o q => ⟨o, q⟩⟩
theorem Cs.wm0 (C : Cs G c S H) {P : Addr → Prop} (h : ∀ a, P a → c.M a) : Cs G (c.wm0 P) S H where
  muts a z := C.muts a z
  m0 a z := h a z
  bm a z := C.bm a z
  nd := C.nd
  len := C.len
  sto n o a h1 h2 := SoR.keep C.muts .wm0 (fun _ u => u) (C.sto n o a h1 h2)
theorem Cn.wm0 (C : Cn G c ρ S σ H) {P : Addr → Prop} (h : ∀ a, P a → c.M a) (ho : ∀ (i : Nat) (o : SO) (p : Addr), ρ[i]? = some (.own o) → σ[i]? = some (some (V.ref p)) → ¬ P p) : Cn G (c.wm0 P) ρ S σ H where
  cs := C.cs.wm0 h
  slen := C.slen
  val i d q := let ⟨v, e, r⟩ := C.val i d q; ⟨v, e, r.keep C.cs.muts .wm0⟩
  own i o q := let ⟨p', e, m', m0, nb, r⟩ := C.own i o q; ⟨p', e, m', ho i o p' q e, nb, SoR.keep C.cs.muts .wm0 (fun _ u => u) r⟩
  sep := C.sep
theorem Stp.wm0 {P : Addr → Prop} (s : Stp (c.wm0 P) c' H H') (h : ∀ a, c.M0 a → P a) : Stp c (c'.wm0 c.M0) H H' where
  kp := ⟨s.kp.keep, s.kp.new, s.kp.pre, s.kp.there⟩
  prot a o e m n := s.prot a o e (h a m) n
  newb := s.newb
  z := rfl
/-- a change of what is nobody's but one's own -/
theorem Kp.mut {p : Addr} {o : HO} (h : c.M p) : Kp c c H (upd H p o) :=
  ⟨fun a u e n => by rw [upd_ne (show a ≠ p from fun z => n (z ▸ h))]; exact e, fun a q n => absurd q n, fun _ _ q => q, fun a u e => by
    by_cases z : a = p
    · subst z; exact ⟨o, upd_same⟩
    · exact ⟨u, by rw [upd_ne z]; exact e⟩⟩
theorem Cs.mut (C : Cs G c S H) {p : Addr} {o : HO} (h : c.M p) (hb : p ∉ c.β) (m : Mut (some o)) : Cs G c S (upd H p o) where
  muts a z := by
    by_cases e : a = p
    · subst e; exact ⟨o, upd_same, m⟩
    · obtain ⟨u, q, mu⟩ := C.muts a z
      exact ⟨u, by rw [upd_ne e]; exact q, mu⟩
  m0 := C.m0
  bm := C.bm
  nd := C.nd
  len := C.len
  sto n so a h1 h2 := SoR.keep C.muts (.mut h) (fun u q => by rw [upd_ne (show a ≠ p from fun z => hb (z ▸ List.mem_of_getElem? h2))]; exact q) (C.sto n so a h1 h2)
theorem Cn.mut (C : Cn G c ρ S σ H) {p : Addr} {o : HO} (ap : Apart c ρ σ p) (m : Mut (some o)) : Cn G c ρ S σ (upd H p o) where
  cs := C.cs.mut ap.1 ap.2.2.1 m
  slen := C.slen
  val i d q := let ⟨v, e, r⟩ := C.val i d q; ⟨v, e, r.keep C.cs.muts (.mut ap.1)⟩
  own i so q := by
    obtain ⟨p', e, m', m0, nb, r⟩ := C.own i so q
    exact ⟨p', e, m', m0, nb, SoR.keep C.cs.muts (.mut ap.1) (fun u q' => by rw [upd_ne (show p' ≠ p from fun z => ap.2.2.2 i so q (z ▸ e))]; exact q') r⟩
  sep := C.sep
theorem Stp.mut {p : Addr} {o : HO} (h : c.M p) (h0 : ¬ c.M0 p) : Stp c c H (upd H p o) :=
  ⟨.mut h, fun a u e m _ => by rw [upd_ne (show a ≠ p from fun z => h0 (z ▸ m))]; exact e, fun _ q => .inl q, rfl⟩
end

/-! ### readings that tell nothing but the meaning -/
def canE (G : Gs) (Wx : WX) (F : EX) : TE := fun σ H Q => ∃ c ρ S, Cn G c ρ S σ H ∧ Post G Wx c ρ σ H (WantE G c ρ σ H Q) (F ρ S)
def canT (G : Gs) (Wx : WX) (F : TX) : TT := fun σ H Q => ∃ c ρ S, Cn G c ρ S σ H ∧ Post G Wx c ρ σ H (WantT G c ρ σ H Q) (F ρ S)
section
variable {X : Cx} {Wx : WX} {e tg : Expr} {es : List Expr} {F : EX} {Ft : TX} {pos : Pos}
theorem EvOk.pe (h : EvOk X Wx e F) : PE X e (canE (gs X) Wx F) := by
  obtain ⟨t, pt, st⟩ := h.ex
  exact ⟨fun pins s σ H Q I ⟨c, ρ, S, C, h⟩ => pt.run pins s σ H Q I (st c ρ S σ H Q C h)⟩
theorem TsOk.pt (h : TsOk X Wx e Ft) : PT X e (canT (gs X) Wx Ft) := by
  obtain ⟨t, pt, st⟩ := h.ex
  exact ⟨fun pins s σ H Q I ⟨c, ρ, S, C, h⟩ => pt.run pins s σ H Q I (st c ρ S σ H Q C h)⟩

/-! ### targets -/
def canG (G : Gs) (vs : List Nat) (g : GX) : TG := fun v σ H Q => ∃ c ρ S d ρ', Cn G c ρ S σ H ∧ Rep G c H d v ∧ g d ρ = some ρ' ∧ ∀ σ', Same vs σ σ' → Cn G c ρ' S σ' H → Q σ' H
structure GtOk (X : Cx) (vs : List Nat) (tg : Expr) (g : GX) : Prop where
  pg : PG X tg (canG (gs X) vs g)
  kp : ∀ d ρ ρ', g d ρ = some ρ' → ∀ i, i ∉ vs → ρ'[i]? = ρ[i]?
theorem pg_weak {t t' : TG} (h : PG X tg t) (k : ∀ v σ H Q, t' v σ H Q → t v σ H Q) : PG X tg t' := ⟨fun pins s σ H v u Q I r q => h.run pins s σ H v u Q I r (k v σ H Q q)⟩
theorem gt_name {i : Nat} {x : Str} (hN : X.N.Nodup) (hi : X.N[i]? = some x) (hx : Loc X.env.scope x) (hf : X.fn x = true ∨ X.env.scope.names.lookup x = some .local := by first | exact .inl rfl | exact .inr rfl | assumption) : GtOk X [i] (.Name x pos) (Dn.gName i) := by
  refine ⟨pg_weak (pg_name hN hi hx hf) fun v σ H Q ⟨c, ρ, S, d, ρ', C, r, e, k⟩ => ?_, fun d ρ ρ' e j h => ?_⟩
  · cases e
    exact k _ .set (C.set r)
  · cases e
    rw [List.getElem?_set_ne]
    simpa using fun z => h (by simp [z])
structure GtsOk (X : Cx) (vs : List Nat) (tgs : List Expr) (gs' : List GX) : Prop where
  ex : ∃ t, PGs X tgs t ∧ ∀ c ρ S σ H ds ws ρ' (Q : L2.St → Hp → Prop), Cn (gs X) c ρ S σ H → Reps (gs X) c H ds ws → gAll gs' ds ρ = some ρ' → (∀ σ', Same vs σ σ' → Cn (gs X) c ρ' S σ' H → Q σ' H) → t ws σ H Q
  kp : ∀ ds ρ ρ', gAll gs' ds ρ = some ρ' → ∀ i, i ∉ vs → ρ'[i]? = ρ[i]?
theorem gts_nil : GtsOk X [] [] [] := ⟨⟨_, pgs_nil, fun c ρ S σ H ds ws ρ' Q C r e k => by
  cases ds with
  | nil =>
    simp only [gAll, Option.some.injEq] at e
    subst e
    simp only [Reps] at r
    exact ⟨r, k σ .refl C⟩
  | cons d ds => cases e⟩, fun ds ρ ρ' e i _ => by
  cases ds with
  | nil => cases e; rfl
  | cons d ds => cases e⟩
theorem gts_cons {g : GX} {gs' : List GX} {vs ws : List Nat} (h : GtOk X vs e g) (hr : GtsOk X ws es gs') (hs : (assignEach (e :: es) X.env).map (·.2) = assign e X.env :: (assignEach es X.env).map (·.2) := by rfl) : GtsOk X (vs ++ ws) (e :: es) (g :: gs') := by
  obtain ⟨u, pu, su⟩ := hr.ex
  refine ⟨⟨_, pgs_cons h.pg pu hs, fun c ρ S σ H ds ws ρ' Q C r e k => ?_⟩, fun ds ρ ρ' e i hi => ?_⟩
  case refine_2 =>
    cases ds with
    | nil => cases e
    | cons d ds =>
      simp only [gAll] at e
      obtain ⟨ρ1, e1, e2⟩ := obind e
      rw [hr.kp ds ρ1 ρ' e2 i (fun z => hi (by simp [z])), h.kp d ρ ρ1 e1 i (fun z => hi (by simp [z]))]
  cases ds with
  | nil => cases e
  | cons d ds =>
    simp only [Reps] at r
    obtain ⟨v, r', rfl, q, t⟩ := r
    simp only [gAll] at e
    obtain ⟨ρ1, e1, e2⟩ := obind e
    exact ⟨v, r', rfl, c, ρ, S, d, ρ1, C, q, e1, fun σ1 m1 C1 => su c ρ1 S σ1 H ds r' ρ' Q C1 t e2 fun σ2 m2 C2 => k σ2 ((m1.mono (by simp +contextual)).trans (m2.mono (by simp +contextual))) C2⟩
theorem gAll_length : ∀ {gs' : List GX} {ds : List D} {ρ ρ' : Dn.Env}, gAll gs' ds ρ = some ρ' → ds.length = gs'.length
  | [], [], _, _, _ => rfl
  | [], _ :: _, _, _, e => by cases e
  | _ :: _, [], _, _, e => by cases e
  | g :: gs', d :: ds, ρ, ρ', e => by
    simp only [gAll] at e
    obtain ⟨ρ1, e1, e2⟩ := obind e
    simp [gAll_length e2]
theorem gt_tup {gs' : List GX} {vs : List Nat} {k : Nat} {n : Nat} (hc : X.calm = true) (h : GtsOk X vs es gs') (hl : gs'.length = n := by rfl) (hn : (assignEach es X.env).length = n := by rfl) (hst : (assignEach es X.env).findIdx? (·.1) = none := by rfl) : GtOk X vs (.Tuple es k pos) (Dn.gTup gs') := by
  obtain ⟨u, pu, su⟩ := h.ex
  refine ⟨pg_weak (pg_tup hc pu hn hst) fun v σ H Q ⟨c, ρ, S, d, ρ', C, r, e, k⟩ => ?_, fun d ρ ρ' e i hi => ?_⟩
  · cases d with
    | tup ds =>
      simp only [Rep] at r
      obtain ⟨a, ws, rfl, q, t⟩ := r
      exact ⟨a, ws, rfl, q, by rw [← t.length, gAll_length e, hl], su c ρ S σ H ds ws ρ' Q C t e k⟩
    | _ => cases e
  · cases d with
    | tup ds => exact h.kp ds ρ ρ' e i hi
    | _ => cases e

/-! ### comprehensions -/
abbrev WF : WX := fun _ _ _ _ => False
structure TfOk (X : Cx) (Wx : WX) (ifs : List Expr) (F : TX) : Prop where
  pts : PTs X ifs (canT (gs X) Wx F)
theorem pts_weak {ifs : List Expr} {t t' : TT} (h : PTs X ifs t) (k : ∀ σ H Q, t' σ H Q → t σ H Q) : PTs X ifs t' := ⟨fun pins s σ H Q I q => h.run pins s σ H Q I (k σ H Q q)⟩
theorem tf_nil : TfOk X Wx [] Dn.tYes := ⟨pts_weak pts_nil fun σ H Q ⟨c, ρ, S, C, h⟩ => h c H .refl C⟩
theorem tf_one (h : TsOk X Wx e Ft) : TfOk X Wx [e] Ft := ⟨pts_one h.pt⟩
/-- the slots as they were, behind a step -/
theorem Cn.back {G : Gs} {c c' : Ct} {ρ ρ1 : Dn.Env} {S S' : Store} {σ σ1 : L2.St} {H H' : Hp} (C : Cn G c ρ S σ H) (s : Stp c c' H H') (C' : Cn G c' ρ1 S' σ1 H')
    (ho : ∀ (i : Nat) (o : SO), ρ[i]? = some (.own o) → ρ1[i]? = some (.own o) ∧ σ1[i]? = σ[i]?) : Cn G c' ρ S' σ H' where
  cs := C'.cs
  slen := C.slen
  val i d q := let ⟨v, e, r⟩ := C.val i d q; ⟨v, e, r.keep C.cs.muts s.kp⟩
  own i o q := by
    obtain ⟨h1, h2⟩ := ho i o q
    obtain ⟨p, e, m, m0, nb, r⟩ := C'.own i o h1
    exact ⟨p, by rw [← h2]; exact e, m, m0, nb, r⟩
  sep := C.sep
theorem Same.wiped {σ : L2.St} {vs : List Nat} : Same vs σ (L2.wipe σ vs) := ⟨wipe_length _ _, fun i h => wipeS_out h⟩
theorem noOwn_out {ρ : Dn.Env} {vs : List Nat} (h : noOwn ρ vs = true) {i : Nat} {o : SO} (e : ρ[i]? = some (.own o)) : i ∉ vs := fun z => by
  unfold noOwn at h
  rw [List.all_eq_true] at h
  have := h i z
  rw [e] at this
  cases this
theorem compL_post {G : Gs} {c : Ct} {ρ ρw : Dn.Env} {σ : L2.St} {H : Hp} {P : List D → Store → Prop} {it : Items} {g : GX} {acc xs : List D} {x : D} {S : Store}
    (h : Post G Wx c ρ σ H P (compL it ρw g Ft F acc (x :: xs) S)) : stays it S ∧ ∃ ρ1, g x ρw = some ρ1 ∧
      ((∃ S1 y S2, Ft ρ1 S = .ok true S1 ∧ F ρ1 S1 = .ok (.d y) S2 ∧ acc.length < line ∧ Post G Wx c ρ σ H P (compL it ρw g Ft F (acc ++ [y]) xs S2)) ∨
        ∃ S1, Ft ρ1 S = .ok false S1 ∧ Post G Wx c ρ σ H P (compL it ρw g Ft F acc xs S1)) := by
  unfold compL at h
  split at h
  · rename_i hs
    refine ⟨hs, ?_⟩
    split at h
    · exact h.elim
    · rename_i ρ1 e1
      refine ⟨ρ1, e1, ?_⟩
      split at h
      · rename_i S1 e2
        split at h
        · rename_i y S2 e3
          split at h
          · rename_i hl
            exact .inl ⟨S1, y, S2, e2, e3, hl, h⟩
          · exact h.elim
        · exact h.elim
      · rename_i S1 e2
        exact .inr ⟨S1, e2, h⟩
      · exact h.elim
  · exact h.elim
theorem compL_end {G : Gs} {c : Ct} {ρ ρw : Dn.Env} {σ : L2.St} {H : Hp} {P : List D → Store → Prop} {it : Items} {g : GX} {acc : List D} {S : Store}
    (h : Post G Wx c ρ σ H P (compL it ρw g Ft F acc [] S)) : stays it S ∧ P acc S := by
  unfold compL at h
  split at h
  · rename_i hs
    exact ⟨hs, h⟩
  · exact h.elim
/-- a comprehension: its parts, its meaning -/
structure CoOk (X : Cx) (Wx : WX) (elt tg iter : Expr) (ifs : List Expr) (scope : Scope) (F : NX) : Prop where
  ex : ∃ (wi : TI) (g : TG) (tt : TT) (te : TE) (own : List (Str × Nat)), PI X tg iter wi ∧ BlkOk X.N X.env.scope scope own ∧
    (∀ (s : Shared) (H : Hp) (C : Addr) (cl : List (Str × Addr)) (fp : List Addr), PG (X.blk s H scope (compEnvC scope cl C X.env) fp) tg g) ∧
    (∀ (s : Shared) (H : Hp) (C : Addr) (cl : List (Str × Addr)) (fp : List Addr), PTs (X.blk s H scope (compEnvC scope cl C X.env) fp) ifs tt) ∧
    (∀ (s : Shared) (H : Hp) (C : Addr) (cl : List (Str × Addr)) (fp : List Addr), PE (X.blk s H scope (compEnvC scope cl C X.env) fp) elt te) ∧ (∀ x, foldedSetIterable iter X.env x = pure x) ∧
    ∀ c ρ S σ H (Q : VK), Cn (gs X) c ρ S σ H → Post (gs X) Wx c ρ σ H (WantN (gs X) c ρ σ H Q) (F ρ S) → tLc wi g tt te (own.map (·.2)) σ H Q
/-- [elt for tg in iter if ..] -/
theorem co_comp {elt iter : Expr} {ifs : List Expr} {scope : Scope} {own : List (Str × Nat)} {vs : List Nat} {Fi : IX} {g : GX} (hi : ItOk X Wx tg iter Fi) (ok : BlkOk X.N X.env.scope scope own)
    (hg : ∀ (s : Shared) (H : Hp) (C : Addr) (cl : List (Str × Addr)) (fp : List Addr), GtOk (X.blk s H scope (compEnvC scope cl C X.env) fp) vs tg g)
    (ht : ∀ (s : Shared) (H : Hp) (C : Addr) (cl : List (Str × Addr)) (fp : List Addr), TfOk (X.blk s H scope (compEnvC scope cl C X.env) fp) WF ifs Ft)
    (he : ∀ (s : Shared) (H : Hp) (C : Addr) (cl : List (Str × Addr)) (fp : List Addr), EvOk (X.blk s H scope (compEnvC scope cl C X.env) fp) WF elt F)
    (hv : ∀ i ∈ vs, i ∈ own.map (·.2) := by decide) (hs : ∀ x, foldedSetIterable iter X.env x = pure x := by intro _; rfl) :
    CoOk X Wx elt tg iter ifs scope (nComp (own.map (·.2)) Fi g Ft F) := by
  obtain ⟨wi, pi, si⟩ := hi.ex
  have gkp := (hg X.s_0 (fun _ => none) 0 [] []).kp
  refine ⟨wi, canG (gs X) vs g, canT (gs X) WF Ft, canE (gs X) WF F, own, pi, ok, (fun s H C cl fp => (hg s H C cl fp).pg), (fun s H C cl fp => (ht s H C cl fp).pts), (fun s H C cl fp => (he s H C cl fp).pe), hs, fun c ρ S σ H Q C h => ?_⟩
  refine si c ρ S σ H _ C (h.go .refl fun it S1 h1 c1 J H1 s1 C1 wk => ?_)
  intro D hD
  obtain ⟨hno, h1⟩ := ifok_post h1
  generalize hvs : own.map (·.2) = ws at h1 hno hv ⊢
  have hH : H D = none := by
    cases e : H D with
    | none => rfl
    | some o => obtain ⟨o', e'⟩ := s1.kp.there D o e; rw [hD] at e'; cases e'
  have g0 : Grow H1 (upd H1 D (.lst [])) := .upd hD
  have C1' : Cn (gs X) (c1.add D) ρ S1 σ (upd H1 D (.lst [])) := C1.add g0 hD upd_same trivial
  have sD : Stp c1 (c1.add D) H1 (upd H1 D (.lst [])) := (Stp.add hD).trans (.grow g0)
  have apD : ∀ (i : Nat) (o : SO), ρ[i]? = some (.own o) → σ[i]? ≠ some (some (V.ref D)) := fun i o q z => by
    obtain ⟨p', e, m, _⟩ := C1.own i o q
    rw [e] at z
    cases z
    exact C1.cs.notM hD m
  -- the invariant behind i turns
  let Pv : Nat → Hp → Prop := fun i Hh => ∃ c' S' acc accV, Stp (c1.add D) c' (upd H1 D (.lst [])) Hh ∧ Cn (gs X) c' (Dn.wipe ρ ws) S' (L2.wipe σ ws) Hh ∧ c'.M D ∧ ¬ c'.M0 D ∧ D ∉ c'.β ∧ Hh D = some (.lst accV) ∧ Reps (gs X) c' Hh acc accV ∧
    Post (gs X) Wx c ρ σ H (WantN (gs X) c ρ σ H Q) (compL it (Dn.wipe ρ ws) g Ft F acc (it.xs.drop i) S')
  refine ⟨fun i m Hh => m = it.xs.length - i ∧ i ≤ it.xs.length ∧ Pv i Hh, ⟨it.xs.length, by simp, Nat.zero_le _, c1.add D, S1, [], [], .refl, C1'.wipe ws, .inl rfl, fun z => C1.cs.notM hD (C1.cs.m0 _ z), fun z => C1.cs.notM hD (C1.cs.bm _ z), upd_same, .nil, by simpa using h1⟩, ?_⟩
  rintro i m Hh ⟨rfl, hi, c', S', acc, accV, s', C', dM, d0, dB, hDh, rr, hp⟩
  have sW : Stp c1 c' H1 Hh := sD.trans s'
  by_cases hlt : i < it.xs.length
  · right
    have hdrop : it.xs.drop i = it.xs[i] :: it.xs.drop (i + 1) := by rw [List.drop_eq_getElem_cons hlt]
    rw [hdrop] at hp
    obtain ⟨hst, ρ1, eg, hp⟩ := compL_post hp
    refine ⟨wk.goes c' Hh S' i hlt sW C'.cs hst, Pv (i + 1), fun H' p' => ⟨it.xs.length - (i + 1), by omega, rfl, hlt, p'⟩, fun x H2 yl => ?_⟩
    obtain ⟨gr, d, ed, rd⟩ := wk.yields c' Hh S' i x H2 hlt sW C'.cs hst yl
    have ed' : it.xs[i] = d := by rw [List.getElem?_eq_getElem hlt] at ed; exact Option.some.inj ed
    rw [ed'] at eg
    -- the list at D is a caller's while the turn goes
    let cm : Ct := c'.wm0 fun a => a = D ∨ c'.M0 a
    have apw : ∀ (i : Nat) (o : SO), (Dn.wipe ρ ws)[i]? = some (.own o) → (L2.wipe σ ws)[i]? ≠ some (some (V.ref D)) := fun i o q z => by
      obtain ⟨q1, q2⟩ := wipeE_get q (by simp)
      rw [wipeS_out q2] at z
      exact apD i o q1 z
    have Cm : Cn (gs X) cm (Dn.wipe ρ ws) S' (L2.wipe σ ws) H2 := (C'.grow gr).wm0 (fun a z => by rcases z with rfl | z; exact dM; exact C'.cs.m0 a z) (fun i o p q1 q2 z => by
      rcases z with rfl | z
      · exact apw i o q1 q2
      · obtain ⟨p', e, _, m0, _⟩ := C'.own i o q1
        rw [e] at q2
        cases q2
        exact m0 z)
    -- a turn's end: back in the outer context
    have fin : ∀ {c3 : Ct} {S3 : Store} {σ2 : L2.St} {H4 : Hp}, Same vs (L2.wipe σ ws) σ2 → Stp cm c3 H2 H4 → Cn (gs X) c3 ρ1 S3 σ2 H4 →
        Stp c' (c3.wm0 c'.M0) Hh H4 ∧ Cn (gs X) (c3.wm0 c'.M0) (Dn.wipe ρ ws) S3 (L2.wipe σ ws) H4 ∧ c3.M D ∧ D ∉ c3.β ∧ H4 D = some (.lst accV) := fun {c3 S3 σ2 H4} sm s3 C3 => by
      have e0 : cm.M0 D := .inl rfl
      have e3 : c3.M D := C3.cs.m0 D (by rw [s3.z]; exact e0)
      have b3 : D ∉ c3.β := fun z => by
        rcases s3.newb D z with q | q
        · exact dB q
        · rw [gr _ _ hDh] at q; cases q
      have st : Stp c' (c3.wm0 c'.M0) Hh H4 := (Stp.grow gr).trans (Stp.wm0 (P := fun a => a = D ∨ c'.M0 a) s3 fun a z => .inr z)
      refine ⟨st, ?_, e3, b3, s3.prot D _ (gr _ _ hDh) e0 dB⟩
      have Cb := Cm.back s3 C3 fun i o q => by
        obtain ⟨_, q2⟩ := wipeE_get q (by simp)
        have q3 : i ∉ vs := fun z => q2 (hv i z)
        exact ⟨by rw [gkp d _ ρ1 eg i q3]; exact q, sm.2 i q3⟩
      refine Cb.wm0 (fun a z => ?_) fun i o p q1 q2 z => ?_
      · exact C3.cs.m0 a (by rw [s3.z]; exact .inr z)
      · obtain ⟨p', e, _, m0, _⟩ := Cb.own i o q1
        rw [e] at q2
        cases q2
        exact m0 (by rw [s3.z]; exact .inr z)
    refine ⟨cm, Dn.wipe ρ ws, S', d, ρ1, Cm, rd.keep (C'.grow gr).cs.muts .wm0, eg, fun σ2 sm C2 => ⟨?_, cm, ρ1, S', C2, ?_⟩⟩
    · rw [(sm.mono hv).wipe, Same.wiped.wipe]
    · rcases hp with ⟨S2, y, S3, e2, e3, hl, hp⟩ | ⟨S2, e2, hp⟩
      · rw [e2]
        intro c3 H3 s3 C3
        rw [if_pos rfl]
        refine ⟨c3, ρ1, S2, C3, ?_⟩
        rw [e3]
        intro c4 v H4 s4 C4 r4
        obtain ⟨f1, f2, f3, f4, f5⟩ := fin sm (s3.trans s4) C4
        have rr4 : Reps (gs X) (c4.wm0 c'.M0) H4 acc accV := rr.keep C'.cs.muts f1.kp
        refine ⟨accV, f5, by rw [← line_eq, ← rr.length]; exact hl, c4.wm0 c'.M0, S3, acc ++ [y], accV ++ [v], (s'.trans f1).trans (.mut f3 d0), f2.mut ⟨f3, d0, f4, apw⟩ trivial, f3, d0, f4, upd_same, ?_, hp⟩
        exact Reps.keep f2.cs.muts (Kp.mut (c := c4.wm0 c'.M0) f3) _ _ (rr4.append (.one (r4.keep C4.cs.muts .wm0)))
      · rw [e2]
        intro c3 H3 s3 C3
        rw [if_neg (by decide)]
        obtain ⟨f1, f2, f3, f4, f5⟩ := fin sm s3 C3
        exact ⟨c3.wm0 c'.M0, S2, acc, accV, s'.trans f1, f2, f3, d0, f4, f5, rr.keep C'.cs.muts f1.kp, hp⟩
  · left
    have hn : i = it.xs.length := by omega
    subst hn
    rw [List.drop_length] at hp
    obtain ⟨hst, hp⟩ := compL_end hp
    refine ⟨wk.stops c' Hh S' sW C'.cs hst, hp c' D accV Hh (s1.trans sW) ?_ hH ⟨dM, d0, dB, apD⟩ rr hDh⟩
    exact C1'.back s' C' fun i o q => by
      have q2 := noOwn_out hno q
      exact ⟨by rw [wipeE_out q2]; exact q, wipeS_out q2⟩
theorem nw_comp {elt iter : Expr} {ifs : List Expr} {scope : Scope} {Fn' : NX} (hc : X.calm = true) (hN : X.N.Nodup) (h : CoOk X Wx elt tg iter ifs scope Fn') : NwOk X Wx (.ListComp elt [⟨tg, iter, ifs, 0⟩] scope pos) Fn' := by
  obtain ⟨wi, g, tt, te, own, pi, ok, hg, ht, he, hs, sem⟩ := h.ex
  exact ⟨_, pe_lc hc hN pi ok hg ht he hs, sem⟩
end
end Dn
end OfLayH
section OfLayI
set_option Elab.async false
set_option linter.all false
set_option maxRecDepth 100000
set_option maxHeartbeats 1000000
/-! LayI: statements. -/
namespace Dn
open PySem PySem.Spec PyProof.Rows L2
section
variable {G : Gs} {Wx : WX} {c : Ct} {H : Hp} {D : Ends}
/-- behind a statement -/
def PostS (G : Gs) (Wx : WX) (c : Ct) (H : Hp) (D : Ends) : Out → Prop
  | .nx ρ S => ∀ c' σ' H', Stp c c' H H' → Cn G c' ρ S σ' H' → D.nx σ' H'
  | .ret d S => ∀ c' v H', Stp c c' H H' → Cs G c' S H' → Rep G c' H' d v → D.rt v H'
  | .brk ρ S => ∀ c' σ' H', Stp c c' H H' → Cn G c' ρ S σ' H' → D.bk σ' H'
  | .ct ρ S => ∀ c' σ' H', Stp c c' H H' → Cn G c' ρ S σ' H' → D.ct σ' H'
  | .exc C fs ρ S => ∀ cls d c' σ' H', Stp c c' H H' → Cn G c' ρ S σ' H' → ExR G c' H' C fs cls d → Wx cls d σ' H'
  | .bad => False
theorem PostS.step {c1 : Ct} {H1 : Hp} {o : Out} (s : Stp c c1 H H1) (h : PostS G Wx c H D o) : PostS G Wx c1 H1 D o := by
  cases o with
  | nx ρ S => exact fun c' σ' H' s' C' => h c' σ' H' (s.trans s') C'
  | ret d S => exact fun c' v H' s' C' r => h c' v H' (s.trans s') C' r
  | brk ρ S => exact fun c' σ' H' s' C' => h c' σ' H' (s.trans s') C'
  | ct ρ S => exact fun c' σ' H' s' C' => h c' σ' H' (s.trans s') C'
  | exc C fs ρ S => exact fun cls d c' σ' H' s' C' e => h cls d c' σ' H' (s.trans s') C' e
  | bad => exact h
theorem outR_post {α : Type} {ρ : Dn.Env} {σ : L2.St} {r : Res α} {f : α → Store → Out} (h : PostS G Wx c H D (outR ρ r f)) : Post G Wx c ρ σ H (fun a S1 => PostS G Wx c H D (f a S1)) r := by
  cases r with
  | ok a S1 => exact h
  | exc C fs S1 => exact fun cls d c' H' s C' e => h cls d c' σ H' s C' e
  | bad => exact h
theorem outR_go {α : Type} {c1 : Ct} {H1 : Hp} {P' : α → Store → Prop} {ρ : Dn.Env} {σ : L2.St} {r : Res α} {f : α → Store → Out} (s : Stp c c1 H H1) (h : PostS G Wx c H D (outR ρ r f))
    (k : ∀ a S1, PostS G Wx c H D (f a S1) → P' a S1) : Post G Wx c1 ρ σ H1 P' r := ((outR_post h).mono k).step s
theorem ifok_postS {q : Prop} [Decidable q] {o : Out} (h : PostS G Wx c H D (if q then o else .bad)) : q ∧ PostS G Wx c H D o := by
  split at h
  · exact ⟨by assumption, h⟩
  · exact h.elim
end
structure SxOk (X : Cx) (Wx : WX) (st : Stmt) (F : SX) : Prop where
  ex : ∃ t, PS X st t ∧ ∀ c ρ S σ H (D : Ends), Cn (gs X) c ρ S σ H → PostS (gs X) Wx c H D (F ρ S) → t D σ H
structure SsOk (X : Cx) (Wx : WX) (sts : List Stmt) (F : SX) : Prop where
  ex : ∃ t, PSs X sts t ∧ ∀ c ρ S σ H (D : Ends), Cn (gs X) c ρ S σ H → PostS (gs X) Wx c H D (F ρ S) → t D σ H
section
variable {X : Cx} {Wx : WX} {st : Stmt} {rest sts : List Stmt} {A B F : SX} {e tg o i value : Expr} {Fe Fo Fi : EX} {Ft : TX} {Fn' : NX} {pos : Pos}
theorem ss_nil : SsOk X Wx [] sPass := ⟨_, pss_nil, fun c ρ S σ H D C h => h c σ H .refl C⟩
theorem ss_one (h : SxOk X Wx st A) : SsOk X Wx [st] A := by
  obtain ⟨t, pt, q⟩ := h.ex
  exact ⟨_, pss_one pt, q⟩
theorem ss_cons (h : SxOk X Wx st A) (hr : SsOk X Wx rest B) : SsOk X Wx (st :: rest) (sSeq A B) := by
  obtain ⟨t, pt, q⟩ := h.ex
  obtain ⟨u, pu, r⟩ := hr.ex
  refine ⟨_, pss_cons pt pu, fun c ρ S σ H D C h => ?_⟩
  refine q c ρ S σ H _ C ?_
  have h : PostS (gs X) Wx c H D (match A ρ S with | .nx ρ1 S1 => B ρ1 S1 | o => o) := h
  cases e : A ρ S with
  | nx ρ1 S1 =>
    rw [e] at h
    exact fun c' σ' H' s C' => r c' ρ1 S1 σ' H' D C' (h.step s)
  | ret d S1 => rw [e] at h; exact h
  | brk ρ1 S1 => rw [e] at h; exact h
  | ct ρ1 S1 => rw [e] at h; exact h
  | exc C fs ρ1 S1 => rw [e] at h; exact h
  | bad => rw [e] at h; exact h
/-- slots forgotten, a list let go, ahead of a statement -/
theorem ss_kill {vs : List Nat} (hr : SsOk X Wx rest B) : SsOk X Wx rest (sSeq (sKill vs) B) := by
  obtain ⟨u, pu, r⟩ := hr.ex
  exact ⟨u, pu, fun c ρ S σ H D C h => r c (Dn.wipe ρ vs) S σ H D (C.wipeE vs) h⟩
theorem Cn.frz {G : Gs} {c : Ct} {ρ : Dn.Env} {S : Store} {σ : L2.St} {H : Hp} (C : Cn G c ρ S σ H) (i : Nat) : ∃ c', Stp c c' H H ∧ Cn G c' (ρ.modify i frz) S σ H := by
  cases e : ρ[i]? with
  | none => exact ⟨c, .refl, by rw [List.modify_eq_self (by rw [List.getElem?_eq_none_iff] at e; exact e)]; exact C⟩
  | some s =>
    have hl : i < ρ.length := by
      rcases Nat.lt_or_ge i ρ.length with z | z
      · exact z
      · rw [List.getElem?_eq_none z] at e; cases e
    have es : ρ[i] = s := by
      rw [List.getElem?_eq_getElem hl] at e
      exact Option.some.inj e
    have em : ρ.modify i Dn.frz = ρ.set i (Dn.frz s) := by
      apply List.ext_getElem?
      intro j
      rw [List.getElem?_modify, List.getElem?_set]
      by_cases z : i = j
      · subst z; simp [es, hl]
      · simp [z]
    have same : Dn.frz s = s → ∃ c', Stp c c' H H ∧ Cn G c' (ρ.modify i Dn.frz) S σ H := fun z => ⟨c, .refl, by
      rw [em, z]
      have : ρ.set i s = ρ := by
        apply List.ext_getElem?
        intro j
        rw [List.getElem?_set]
        by_cases z : i = j
        · subst z; simp [es, hl]
        · simp [z]
      rw [this]; exact C⟩
    cases s with
    | un => exact same rfl
    | val d => exact same rfl
    | own so =>
      obtain ⟨p, e1, m, m0, nb, r⟩ := C.own i so e
      -- the rest of it, the own list given up
      have give : ∀ d : D, Dn.frz (.own so) = .val d → (Rep G (c.sub p) H d (.ref p)) → ∃ c', Stp c c' H H ∧ Cn G c' (ρ.modify i Dn.frz) S σ H := fun d z rd => by
        have C1 : Cn G c (ρ.set i .un) S σ H := C.un
        have ap : Apart c (ρ.set i .un) σ p := ⟨m, m0, nb, fun j o h q => by
          rcases set_get h with ⟨rfl, e', _⟩ | ⟨ne, h⟩
          · cases e'
          · exact ne (C.sep j i o so p h e q e1)⟩
        refine ⟨c.sub p, ⟨⟨fun a o q n => q, fun a q n => absurd q.1 n, fun _ _ q => q, fun _ o q => ⟨o, q⟩⟩, fun _ _ q _ _ => q, fun _ q => .inl q, rfl⟩, ?_⟩
        have C2 := (C1.sub ap).set (i := i) rd
        rw [em, z]
        rw [List.set_set] at C2
        have es : σ.set i (some (V.ref p)) = σ := by
          apply List.ext_getElem?
          intro j
          rw [List.getElem?_set]
          by_cases z : i = j
          · subst z; rw [e1]; simp [← C.slen, hl]
          · simp [z]
        rwa [es] at C2
      cases so with
      | lst xs =>
        obtain ⟨vs, q, r⟩ := r
        refine give (.lst xs) rfl ?_
        simp only [Rep]
        exact ⟨p, vs, rfl, fun z => z.2 rfl, q, r.keep C.cs.muts .subw⟩
      | dct xs =>
        obtain ⟨vs, q, r⟩ := r
        refine give (.dct xs) rfl ?_
        simp only [Rep]
        exact ⟨p, vs, rfl, fun z => z.2 rfl, q, RepK.keep C.cs.muts .subw _ _ r⟩
      | dtt xs => exact same rfl
      | ins C' fs => exact same rfl
      | exn C' fs => exact same rfl
      | xdt fs => exact same rfl
      | dead => exact same rfl
theorem ss_frz {i : Nat} (hr : SsOk X Wx rest B) : SsOk X Wx rest (sSeq (sFrz i) B) := by
  obtain ⟨u, pu, r⟩ := hr.ex
  refine ⟨u, pu, fun c ρ S σ H D C h => ?_⟩
  obtain ⟨c', s, C'⟩ := C.frz i
  exact r c' _ S σ H D C' (PostS.step s h)
theorem st_pass : SxOk X Wx (.Pass pos) sPass := ⟨_, ps_pass, fun c ρ S σ H D C h => h c σ H .refl C⟩
theorem st_cont : SxOk X Wx (.Continue pos) sCont := ⟨_, ps_continue, fun c ρ S σ H D C h => h c σ H .refl C⟩
theorem st_never : SxOk X Wx st sBad := ⟨_, ps_never, fun c ρ S σ H D C h => h.elim⟩
theorem ss_never : SsOk X Wx sts sBad := ⟨_, pss_never, fun c ρ S σ H D C h => h.elim⟩
theorem st_drop (ha : EvOk X Wx e Fe) (hs : swapsWith e none pos.line X.env = pure false := by rfl) : SxOk X Wx (.Expr e pos) (sDrop Fe) := by
  obtain ⟨t, pt, q⟩ := ha.ex
  refine ⟨_, ps_expr pt hs, fun c ρ S σ H D C h => ?_⟩
  exact q c ρ S σ H _ C (outR_go .refl h fun x S1 h1 c1 v H1 s1 C1 r1 => h1 c1 σ H1 s1 C1)
theorem st_ret (ha : EvOk X Wx e Fe) : SxOk X Wx (.Return (some e) pos) (sRet Fe) := by
  obtain ⟨t, pt, q⟩ := ha.ex
  refine ⟨_, ps_ret pt, fun c ρ S σ H D C h => ?_⟩
  refine q c ρ S σ H _ C (outR_go .refl h fun x S1 h1 c1 v H1 s1 C1 r1 => ?_)
  cases x with
  | d d => exact h1 c1 v H1 s1 C1.cs r1
  | own i => exact h1.elim
theorem st_retN : SxOk X Wx (.Return none pos) sRetN := ⟨_, ps_retN, fun c ρ S σ H D C h => h c .non H .refl C.cs (by simp [Rep])⟩
theorem st_if {a b : List Stmt} (ht : TsOk X Wx e Ft) (ha : SsOk X Wx a A) (hb : SsOk X Wx b B) : SxOk X Wx (.If e a b pos) (sIf Ft A B) := by
  obtain ⟨t, pt, q⟩ := ht.ex
  obtain ⟨ta, pa, qa⟩ := ha.ex
  obtain ⟨tb, pb, qb⟩ := hb.ex
  refine ⟨_, ps_if pt pa pb, fun c ρ S σ H D C h => ?_⟩
  refine q c ρ S σ H _ C (outR_go .refl h fun k S1 h1 c1 H1 s1 C1 => ?_)
  cases k with
  | true => exact qa c1 ρ S1 σ H1 D C1 (PostS.step s1 h1)
  | false => exact qb c1 ρ S1 σ H1 D C1 (PostS.step s1 h1)
/-- target = value -/
theorem st_asg {vs : List Nat} {g : GX} (ha : EvOk X Wx e Fe) (hg : GtOk X vs tg g) (hs : swapsWithSole [tg] e pos.line X.env = pure false := by rfl) (hw : swappedStores [tg] e X.env = pure none := by rfl)
    (h1 : (assignEach [tg] X.env).map (·.2) = [assign tg X.env] := by rfl) : SxOk X Wx (.Assign [tg] e pos) (sSet g Fe) := by
  obtain ⟨t, pt, q⟩ := ha.ex
  refine ⟨_, ps_asg pt hg.pg hs hw h1, fun c ρ S σ H D C h => ?_⟩
  refine q c ρ S σ H _ C (outR_go .refl h fun x S1 h1 c1 v H1 s1 C1 r1 => ?_)
  cases x with
  | d d =>
    cases eg : g d ρ with
    | none => simp only [eg] at h1; exact h1.elim
    | some ρ1 =>
      simp only [eg] at h1
      exact ⟨c1, ρ, S1, d, ρ1, C1, r1, eg, fun σ' _ C' => h1 c1 σ' H1 s1 C'⟩
  | own i => exact h1.elim
/-- name = value -/
theorem st_set {i : Nat} {x : Str} {pos' : Pos} (hN : X.N.Nodup) (hi : X.N[i]? = some x) (hx : Loc X.env.scope x) (ha : EvOk X Wx e Fe) (hs : swapsWith e (some (.Name x pos')) pos.line X.env = pure false := by rfl) (hf : X.fn x = true ∨ X.env.scope.names.lookup x = some .local := by first | exact .inl rfl | exact .inr rfl | assumption) :
    SxOk X Wx (.Assign [.Name x pos'] e pos) (sSet (Dn.gName i) Fe) := by
  obtain ⟨t, pt, q⟩ := ha.ex
  refine ⟨_, ps_set hN hi hx pt hs hf, fun c ρ S σ H D C h => ?_⟩
  refine q c ρ S σ H _ C (outR_go .refl h fun x S1 h1 c1 v H1 s1 C1 r1 => ?_)
  cases x with
  | d d => exact h1 c1 _ H1 s1 (C1.set r1)
  | own i => exact h1.elim
theorem Cn.own' {G : Gs} {c : Ct} {ρ : Dn.Env} {S : Store} {σ : L2.St} {H : Hp} (C : Cn G c ρ S σ H) {i : Nat} {so : SO} {p : Addr} (ap : Apart c ρ σ p) (r : SoR G c H so p) : Cn G c (ρ.set i (.own so)) S (σ.set i (some (.ref p))) H where
  cs := C.cs
  slen := by simp [C.slen]
  val j d' h := by
    rcases set_get h with ⟨rfl, e, hl⟩ | ⟨e, h⟩
    · cases e
    · obtain ⟨w, q, r'⟩ := C.val j d' h
      exact ⟨w, by rw [List.getElem?_set_ne (fun z => e z.symm)]; exact q, r'⟩
  own j o h := by
    rcases set_get h with ⟨rfl, e, hl⟩ | ⟨e, h⟩
    · cases e
      exact ⟨p, by rw [List.getElem?_set_self (by rw [← C.slen]; exact hl)], ap.1, ap.2.1, ap.2.2.1, r⟩
    · obtain ⟨p', q, r'⟩ := C.own j o h
      exact ⟨p', by rw [List.getElem?_set_ne (fun z => e z.symm)]; exact q, r'⟩
  sep j k o o' p' h1 h2 h3 h4 := by
    rcases set_get h1 with ⟨rfl, e, hl⟩ | ⟨e, _⟩
    · rw [List.getElem?_set_self (by rw [← C.slen]; exact hl)] at h3
      cases h3
      rcases set_get h2 with ⟨rfl, _, _⟩ | ⟨e', h2⟩
      · rfl
      · rw [List.getElem?_set_ne (fun z => e' z.symm)] at h4
        exact absurd h4 (ap.2.2.2 k o' h2)
    · rw [List.getElem?_set_ne (fun z => e z.symm)] at h3
      rename_i h1'
      rcases set_get h2 with ⟨rfl, _, hl⟩ | ⟨e', h2'⟩
      · rw [List.getElem?_set_self (by rw [← C.slen]; exact hl)] at h4
        cases h4
        exact absurd h3 (ap.2.2.2 j o h1')
      · rw [List.getElem?_set_ne (fun z => e' z.symm)] at h4
        exact C.sep j k o o' p' h1' h2' h3 h4
/-- name = a new list, the slot's own -/
theorem st_own {i : Nat} {x : Str} {pos' : Pos} (hN : X.N.Nodup) (hi : X.N[i]? = some x) (hx : Loc X.env.scope x) (ha : NwOk X Wx e Fn') (hs : swapsWith e (some (.Name x pos')) pos.line X.env = pure false := by rfl) (hf : X.fn x = true ∨ X.env.scope.names.lookup x = some .local := by first | exact .inl rfl | exact .inr rfl | assumption) :
    SxOk X Wx (.Assign [.Name x pos'] e pos) (sOwn i Fn') := by
  obtain ⟨t, pt, q⟩ := ha.ex
  refine ⟨_, ps_set hN hi hx pt hs hf, fun c ρ S σ H D C h => ?_⟩
  refine q c ρ S σ H _ C (outR_go .refl h fun ds S1 h1 c1 p vs H1 s1 C1 hp ap r1 e1 => ?_)
  exact h1 c1 _ H1 s1 (C1.own' ap ⟨vs, e1, r1⟩)
end
end Dn
end OfLayI
section OfLayJ
set_option Elab.async false
set_option linter.all false
set_option maxRecDepth 100000
set_option maxHeartbeats 1000000
/-! LayJ: loops, objects changed. -/
namespace Dn
open PySem PySem.Spec PyProof.Rows L2
section
variable {X : Cx} {Wx : WX} {st : Stmt} {rest body : List Stmt} {A B F : SX} {e tg o i iter value : Expr} {es : List Expr} {Fe Fo Fi : EX} {Fs : AX} {Ft : TX} {Fit : IX} {pos : Pos}
/-! ### loops -/
theorem forL_end {G : Gs} {c : Ct} {H : Hp} {D : Ends} {it : Items} {g : GX} {kl : List Nat} {ρ : Dn.Env} {S : Store} (h : PostS G Wx c H D (forL it g F kl [] ρ S)) : stays it S ∧ PostS G Wx c H D (.nx (Dn.wipe ρ kl) S) := by
  unfold forL at h
  split at h
  · rename_i q; exact ⟨q, h⟩
  · exact h.elim
theorem forL_cons {G : Gs} {c : Ct} {H : Hp} {D : Ends} {it : Items} {g : GX} {kl : List Nat} {x : Dn.D} {xs : List Dn.D} {ρ : Dn.Env} {S : Store} (h : PostS G Wx c H D (forL it g F kl (x :: xs) ρ S)) :
    stays it S ∧ ∃ ρ1, g x ρ = some ρ1 ∧ match F ρ1 S with
      | .nx ρ2 S2 => PostS G Wx c H D (forL it g F kl xs (Dn.wipe ρ2 kl) S2)
      | .ct ρ2 S2 => PostS G Wx c H D (forL it g F kl xs (Dn.wipe ρ2 kl) S2)
      | .brk ρ2 S2 => PostS G Wx c H D (.nx (Dn.wipe ρ2 kl) S2)
      | .ret d S2 => PostS G Wx c H D (.ret d S2)
      | .exc C fs ρ2 S2 => PostS G Wx c H D (.exc C fs ρ2 S2)
      | .bad => False := by
  unfold forL at h
  split at h
  · rename_i q
    refine ⟨q, ?_⟩
    split at h
    · exact h.elim
    · rename_i ρ1 e
      refine ⟨ρ1, e, ?_⟩
      cases eb : F ρ1 S <;> simp only [eb] at h ⊢ <;> exact h
  · exact h.elim
theorem st_for {g : GX} {vs kl : List Nat} (hp : PassesOwn (model X.prog X.w) X.A X.env X.xe) (hc : X.calm = true) (hi : ItOk X Wx tg iter Fit) (hg : GtOk X vs tg g) (hb : SsOk X Wx body F)
    (hs : ∀ x, foldedSetIterable iter X.env x = pure x := by intro _; rfl) : SxOk X Wx (.For tg iter body [] pos) (sFor Fit g F kl) := by
  obtain ⟨wi, pi, si⟩ := hi.ex
  obtain ⟨tb, pb, qb⟩ := hb.ex
  refine ⟨_, ps_for hp hc pi hg.pg pb hs, fun c ρ S σ H D C h => ?_⟩
  refine si c ρ S σ H _ C (outR_go .refl h fun it S1 h1 c1 J H1 s1 C1 wk => ?_)
  let W : Nat → Nat → L2.St → Hp → Prop := fun i m σ' Hh => m = it.xs.length - i ∧ i ≤ it.xs.length ∧ ∃ c' ρ' S', Stp c1 c' H1 Hh ∧ Cn (gs X) c' ρ' S' σ' Hh ∧ PostS (gs X) Wx c H D (forL it g F kl (it.xs.drop i) ρ' S')
  refine ⟨W, ⟨it.xs.length, by simp, Nat.zero_le _, c1, ρ, S1, .refl, C1, by simpa using h1⟩, ?_⟩
  rintro i m σ' Hh ⟨rfl, hi, c', ρ', S', s', C', hp⟩
  by_cases hlt : i < it.xs.length
  · right
    rw [List.drop_eq_getElem_cons hlt] at hp
    obtain ⟨hst, ρ1, eg, hp⟩ := forL_cons hp
    refine ⟨wk.goes c' Hh S' i hlt s' C'.cs hst, fun σ2 H2 => ∃ c2 ρ2 S2, Stp c c2 H H2 ∧ Stp c1 c2 H1 H2 ∧ Cn (gs X) c2 (Dn.wipe ρ2 kl) S2 σ2 H2 ∧ PostS (gs X) Wx c H D (forL it g F kl (it.xs.drop (i + 1)) (Dn.wipe ρ2 kl) S2), fun σ2 H2 ⟨c2, ρ2, S2, _, s2, C2, p2⟩ => ⟨it.xs.length - (i + 1), by omega, rfl, hlt, c2, _, S2, s2, C2, p2⟩, fun x H2 yl => ?_⟩
    obtain ⟨gr, d, ed, rd⟩ := wk.yields c' Hh S' i x H2 hlt s' C'.cs hst yl
    have ed' : it.xs[i] = d := by rw [List.getElem?_eq_getElem hlt] at ed; exact Option.some.inj ed
    rw [ed'] at eg
    refine ⟨c', ρ', S', d, ρ1, C'.grow gr, rd, eg, fun σ2 _ C2 => ?_⟩
    refine qb c' ρ1 S' σ2 H2 _ C2 ?_
    have sA : Stp c c' H H2 := (s1.trans s').trans (.grow gr)
    have sB : Stp c1 c' H1 H2 := s'.trans (.grow gr)
    have nxt : ∀ {ρ2 S2}, PostS (gs X) Wx c H D (forL it g F kl (it.xs.drop (i + 1)) (Dn.wipe ρ2 kl) S2) → ∀ c3 σ3 H3, Stp c' c3 H2 H3 → Cn (gs X) c3 ρ2 S2 σ3 H3 →
        ∃ c2 ρ2 S2, Stp c c2 H H3 ∧ Stp c1 c2 H1 H3 ∧ Cn (gs X) c2 (Dn.wipe ρ2 kl) S2 σ3 H3 ∧ PostS (gs X) Wx c H D (forL it g F kl (it.xs.drop (i + 1)) (Dn.wipe ρ2 kl) S2) := fun {ρ2 S2} h3 c3 σ3 H3 s3 C3 =>
      ⟨c3, ρ2, S2, sA.trans s3, sB.trans s3, C3.wipeE kl, h3⟩
    cases eb : F ρ1 S' with
    | nx ρ2 S2 => rw [eb] at hp; exact fun c3 σ3 H3 s3 C3 => nxt hp c3 σ3 H3 s3 C3
    | ct ρ2 S2 => rw [eb] at hp; exact fun c3 σ3 H3 s3 C3 => nxt hp c3 σ3 H3 s3 C3
    | brk ρ2 S2 => rw [eb] at hp; exact fun c3 σ3 H3 s3 C3 => hp c3 σ3 H3 (sA.trans s3) (C3.wipeE kl)
    | ret d S2 => rw [eb] at hp; exact PostS.step (o := .ret d S2) sA hp
    | exc C fs ρ2 S2 => rw [eb] at hp; exact PostS.step (o := .exc C fs ρ2 S2) sA hp
    | bad => rw [eb] at hp; exact hp.elim
  · left
    have hn : i = it.xs.length := by omega
    subst hn
    rw [List.drop_length] at hp
    obtain ⟨hst, hp⟩ := forL_end hp
    exact ⟨wk.stops c' Hh S' s' C'.cs hst, hp c' σ' Hh (s1.trans s') (C'.wipeE kl)⟩
theorem st_while {fuel : Nat} {kl : List Nat} (hp : PassesOwn (model X.prog X.w) X.A X.env X.xe) (ht : TsOk X Wx e Ft) (hb : SsOk X Wx body F) : SxOk X Wx (.While e body [] pos) (sWhile fuel Ft F kl) := by
  obtain ⟨tt, pt, qt⟩ := ht.ex
  obtain ⟨tb, pb, qb⟩ := hb.ex
  refine ⟨_, ps_while hp pt pb, fun c ρ S σ H D C h => ?_⟩
  refine ⟨fun m σ' Hh => ∃ c' ρ' S', Stp c c' H Hh ∧ Cn (gs X) c' ρ' S' σ' Hh ∧ PostS (gs X) Wx c H D (whileL Ft F kl m ρ' S'), ⟨fuel, c, ρ, S, .refl, C, h⟩, ?_⟩
  rintro m σ' Hh ⟨c', ρ', S', s', C', hq⟩
  cases m with
  | zero => exact hq.elim
  | succ m =>
    refine qt c' ρ' S' σ' Hh _ C' (outR_go s' hq fun k S1 h1 c1 H1 s1 C1 => ?_)
    cases k with
    | true =>
      rw [if_pos rfl] at h1 ⊢
      refine ⟨fun σ2 H2 => ∃ c' ρ' S', Stp c c' H H2 ∧ Cn (gs X) c' ρ' S' σ2 H2 ∧ PostS (gs X) Wx c H D (whileL Ft F kl m ρ' S'), fun σ2 H2 z => ⟨m, Nat.lt_succ_self m, z⟩, ?_⟩
      refine qb c1 ρ' S1 σ' H1 _ C1 ?_
      have sA := s'.trans s1
      cases eb : F ρ' S1 with
      | nx ρ2 S2 => simp only [eb] at h1; exact fun c3 σ3 H3 s3 C3 => ⟨c3, _, S2, sA.trans s3, C3.wipeE kl, h1⟩
      | ct ρ2 S2 => simp only [eb] at h1; exact fun c3 σ3 H3 s3 C3 => ⟨c3, _, S2, sA.trans s3, C3.wipeE kl, h1⟩
      | brk ρ2 S2 => simp only [eb] at h1; exact fun c3 σ3 H3 s3 C3 => h1 c3 σ3 H3 (sA.trans s3) C3
      | ret d S2 => simp only [eb] at h1; exact PostS.step (o := .ret d S2) sA h1
      | exc C fs ρ2 S2 => simp only [eb] at h1; exact PostS.step (o := .exc C fs ρ2 S2) sA h1
      | bad => simp only [eb] at h1; exact h1.elim
    | false =>
      rw [if_neg (by decide)] at h1 ⊢
      exact h1 c1 σ' H1 (s'.trans s1) C1
/-! ### objects changed -/
theorem Cn.putOwn {G : Gs} {c : Ct} {ρ : Dn.Env} {S : Store} {σ : L2.St} {H : Hp} {i : Nat} {so so' : SO} {p : Addr} {u : HO} (C : Cn G c ρ S σ H) (e : ρ[i]? = some (.own so)) (ep : σ[i]? = some (some (V.ref p))) (m : Mut (some u)) (r : SoR G c (upd H p u) so' p) :
    Cn G c (ρ.set i (.own so')) S σ (upd H p u) := by
  obtain ⟨p', e1, hm, m0, nb, _⟩ := C.own i so e
  rw [ep] at e1
  cases e1
  refine ⟨C.cs.mut hm nb m, by simp [C.slen], fun j d h => ?_, fun j o h => ?_, fun j k o o' q h1 h2 h3 h4 => ?_⟩
  · rcases set_get h with ⟨_, e', _⟩ | ⟨ne, h⟩
    · cases e'
    · obtain ⟨v, q, r'⟩ := C.val j d h
      exact ⟨v, q, r'.keep C.cs.muts (.mut hm)⟩
  · rcases set_get h with ⟨rfl, e', _⟩ | ⟨ne, h⟩
    · cases e'
      exact ⟨p, ep, hm, m0, nb, r⟩
    · obtain ⟨q, eq, mq, mq0, nq, rq⟩ := C.own j o h
      refine ⟨q, eq, mq, mq0, nq, SoR.keep C.cs.muts (.mut hm) (fun w hw => ?_) rq⟩
      rw [upd_ne (show q ≠ p from fun z => ne (C.sep j i o so p h e (z ▸ eq) ep))]
      exact hw
  · have get : ∀ {j : Nat} {o : SO}, (ρ.set i (.own so'))[j]? = some (Slot.own o) → ∃ o2 : SO, ρ[j]? = some (Slot.own o2) := fun {j o} h => by
      rcases set_get h with ⟨rfl, _, _⟩ | ⟨_, h⟩
      · exact ⟨_, e⟩
      · exact ⟨_, h⟩
    obtain ⟨a, ha⟩ := get h1
    obtain ⟨b, hb⟩ := get h2
    exact C.sep j k a b q ha hb h3 h4
theorem nodup_at {l : List Addr} (h : l.Nodup) {n m : Nat} {a : Addr} (e1 : l[n]? = some a) (e2 : l[m]? = some a) : n = m := by
  have h1 : n < l.length := (List.getElem?_eq_some_iff.mp e1).1
  have h2 : m < l.length := (List.getElem?_eq_some_iff.mp e2).1
  rw [List.getElem?_eq_getElem h1] at e1
  rw [List.getElem?_eq_getElem h2] at e2
  have e3 : l[n] = l[m] := (Option.some.inj e1).trans (Option.some.inj e2).symm
  rcases Nat.lt_trichotomy n m with z | z | z
  · exact absurd e3 (List.pairwise_iff_getElem.mp h n m h1 h2 z)
  · exact z
  · exact absurd e3.symm (List.pairwise_iff_getElem.mp h m n h2 h1 z)
theorem Cs.putLoc {G : Gs} {c : Ct} {S : Store} {H : Hp} {n : Nat} {so' : SO} {p : Addr} {u : HO} (C : Cs G c S H) (ep : c.β[n]? = some p) (m : Mut (some u)) (r : SoR G c (upd H p u) so' p) : Cs G c (S.set n so') (upd H p u) := by
  have hm : c.M p := C.bm p (List.mem_of_getElem? ep)
  refine ⟨fun a z => ?_, C.m0, C.bm, C.nd, by simp [C.len], fun k o a h1 h2 => ?_⟩
  · by_cases e : a = p
    · subst e; exact ⟨u, upd_same, m⟩
    · obtain ⟨w, q, mu⟩ := C.muts a z
      exact ⟨w, by rw [upd_ne e]; exact q, mu⟩
  · rcases set_get h1 with ⟨rfl, e', _⟩ | ⟨ne, h1⟩
    · cases e'
      rw [ep] at h2
      cases h2
      exact r
    · refine SoR.keep C.muts (.mut hm) (fun w hw => ?_) (C.sto k o a h1 h2)
      rw [upd_ne (show a ≠ p from fun z => ne (nodup_at C.nd (z ▸ h2) ep))]
      exact hw
theorem Cn.putLoc {G : Gs} {c : Ct} {ρ : Dn.Env} {S : Store} {σ : L2.St} {H : Hp} {n : Nat} {so' : SO} {p : Addr} {u : HO} (C : Cn G c ρ S σ H) (ep : c.β[n]? = some p) (m : Mut (some u)) (r : SoR G c (upd H p u) so' p) : Cn G c ρ (S.set n so') σ (upd H p u) := by
  have hb := List.mem_of_getElem? ep
  have hm : c.M p := C.cs.bm p hb
  refine ⟨C.cs.putLoc ep m r, C.slen, fun j d h => ?_, fun j o h => ?_, C.sep⟩
  · obtain ⟨v, q, r'⟩ := C.val j d h
    exact ⟨v, q, r'.keep C.cs.muts (.mut hm)⟩
  · obtain ⟨q, eq, mq, mq0, nq, rq⟩ := C.own j o h
    refine ⟨q, eq, mq, mq0, nq, SoR.keep C.cs.muts (.mut hm) (fun w hw => ?_) rq⟩
    rw [upd_ne (show q ≠ p from fun z => nq (z ▸ hb))]
    exact hw
theorem Stp.putLoc {c : Ct} {H : Hp} {n : Nat} {p : Addr} {u : HO} (ep : c.β[n]? = some p) (hm : c.M p) : Stp c c H (upd H p u) :=
  ⟨.mut hm, fun a w e _ nb => by rw [upd_ne (show a ≠ p from fun z => nb (z ▸ List.mem_of_getElem? ep))]; exact e, fun _ q => .inl q, rfl⟩
/-- what an owner is: where it stands, and that a change of it may be put back -/
theorem owner_at {G : Gs} {c : Ct} {ρ : Dn.Env} {S : Store} {σ : L2.St} {H : Hp} {w : W} {v : V} {so : SO} (C : Cn G c ρ S σ H) (r : RW G c ρ σ H w v) (e : owner ρ S w = some so) :
    ∃ p, v = .ref p ∧ c.M p ∧ SoR G c H so p ∧ ∀ so' u, Mut (some u) → SoR G c (upd H p u) so' p →
      ∃ ρ' S', putBack ρ S so' w = .nx ρ' S' ∧ (∀ c0 H0, Stp c0 c H0 H → Stp c0 c H0 (upd H p u)) ∧ Cn G c ρ' S' σ (upd H p u) := by
  cases w with
  | own i =>
    obtain ⟨⟨o, eo⟩, e2⟩ := r
    simp only [owner, eo, Option.some.injEq] at e
    subst e
    obtain ⟨p, e1, hm, m0, nb, rr⟩ := C.own i o eo
    rw [e1] at e2
    cases e2
    exact ⟨p, rfl, hm, rr, fun so' u m r' => ⟨_, _, rfl, fun c0 H0 s0 => s0.trans (.mut hm m0), C.putOwn eo e1 m r'⟩⟩
  | d x =>
    cases x with
    | loc n =>
      have r' : Rep G c H (.loc n) v := r
      simp only [Rep] at r'
      obtain ⟨p, ep, rfl⟩ := r'
      have e : S[n]? = some so := e
      have hm : c.M p := C.cs.bm p (List.mem_of_getElem? ep)
      exact ⟨p, rfl, hm, C.cs.sto n so p e ep, fun so' u m r' => ⟨_, _, rfl, fun c0 H0 s0 => s0.trans (.putLoc ep hm), C.putLoc ep m r'⟩⟩
    | _ => cases e
/-- a builtin's method that changes its object -/
def MutD (X : Cx) (T id : String) (op : MOp) : Prop :=
  ∃ r : V → List V → Hp → VK → Prop, MtR X id r ∧ ∀ c S H p vs so ds res (Q : VK), Cs (gs X) c S H → c.M p → SoR (gs X) c H so p → Reps (gs X) c H ds vs → tyS T so = true → op so ds = some res →
    (∀ v u, Mut (some u) → SoR (gs X) c (upd H p u) res.2 p → Rep (gs X) c (upd H p u) res.1 v → Q v (upd H p u)) → r (.ref p) vs H Q
theorem tyS_V {G : Gs} {c : Ct} {H : Hp} {T : String} {so : SO} {p : Addr} (h : tyS T so = true) (r : SoR G c H so p) : tyV G.K T (.ref p) H := by
  cases so with
  | lst xs =>
    obtain ⟨vs, q, _⟩ := r
    exact .inl ⟨by simpa [tyS] using h, vs, .of q⟩
  | dct xs =>
    obtain ⟨vs, q, _⟩ := r
    exact .inr (.inr (.inl ⟨by simpa [tyS] using h, .inl ⟨vs, q⟩⟩))
  | dtt xs => cases h
  | ins C fs => cases h
  | exn C fs => cases h
  | xdt fs => cases h
  | dead => cases h
theorem mut_core {T : String} {op : MOp} {k : Dn.D → Out → Out} {r : V → List V → Hp → VK → Prop} {to : TE} {ta : TA}
    (sr : ∀ c S H p vs so ds res (Q : VK), Cs (gs X) c S H → c.M p → SoR (gs X) c H so p → Reps (gs X) c H ds vs → tyS T so = true → op so ds = some res →
      (∀ v u, Mut (some u) → SoR (gs X) c (upd H p u) res.2 p → Rep (gs X) c (upd H p u) res.1 v → Q v (upd H p u)) → r (.ref p) vs H Q)
    (hop : ∀ so ds res, op so ds = some res → tyS T so = true)
    (so_ : ∀ c ρ S σ H (Q : VK), Cn (gs X) c ρ S σ H → Post (gs X) Wx c ρ σ H (WantE (gs X) c ρ σ H Q) (Fo ρ S) → to σ H Q)
    (sa : ∀ c ρ S σ H (Q : List V → Hp → Prop), Cn (gs X) c ρ S σ H → Post (gs X) Wx c ρ σ H (WantA (gs X) c ρ σ H Q) (Fs ρ S) → ta σ H Q)
    {c ρ S σ H D} {Q : VK} (C : Cn (gs X) c ρ S σ H) (h : PostS (gs X) Wx c H D (sMutK T op Fo Fs k ρ S))
    (fin : ∀ d v c' ρ' S' H', PostS (gs X) Wx c H D (k d (.nx ρ' S')) → Stp c c' H H' → Cn (gs X) c' ρ' S' σ H' → Rep (gs X) c' H' d v → Q v H') : tBM X.K T r to ta σ H Q := by
  refine so_ c ρ S σ H _ C (outR_go .refl h fun w S1 h1 c1 v1 H1 s1 C1 r1 => ?_)
  cases eo : owner ρ S1 w with
  | none => simp only [eo] at h1; exact h1.elim
  | some so1 =>
    simp only [eo] at h1
    obtain ⟨hty, h1⟩ := ifok_postS h1
    obtain ⟨p, rfl, hm, rr, _⟩ := owner_at C1 r1 eo
    refine ⟨tyS_V hty rr, sa c1 ρ S1 σ H1 _ C1 (outR_go s1 h1 fun xs S2 h2 c2 vs H2 s2 C2 r2 => ?_)⟩
    have r1' := r1.keep C1.cs.muts s2.kp
    cases ed : allD xs with
    | none => simp only [ed] at h2; exact h2.elim
    | some ds =>
      simp only [ed] at h2
      cases er : (owner ρ S2 w).bind fun so => op so ds with
      | none => simp only [er] at h2; exact h2.elim
      | some res =>
        simp only [er] at h2
        obtain ⟨so2, eo2, er⟩ := obind er
        obtain ⟨p', ep, hm2, rr2, back⟩ := owner_at C2 r1' eo2
        cases ep
        refine sr c2 S2 H2 p vs so2 ds res _ C2.cs hm2 rr2 (r2.data ed) (hop _ _ _ er) er fun v u mu r' rv => ?_
        obtain ⟨ρ', S', eb, st, C'⟩ := back res.2 u mu r'
        rw [eb] at h2
        exact fin res.1 v c2 ρ' S' _ h2 (st _ _ (s1.trans s2)) C' rv

theorem st_mut {T id : String} {op : MOp} {name : Str} {apos cpos : Pos} (hm : MutD X T id op) (hop : ∀ so ds res, op so ds = some res → tyS T so = true) (pa : PlainAttrs T) (slot : PySem.Slot T name id) (hty : typeOf (.builtin id) = pure (.type "method_descriptor")) (ho : EvOk X Wx o Fo) (ha : ArOk X Wx (e :: es) Fs)
    (hbase : attributeBase o name X.env (eval o X.env) = eval o X.env := by rfl)
    (hfew : ((backTo cpos (starEach (e :: es) X.env)).all (fun x => !x.1) && (backToKw cpos (keywordEach [] X.env)).all (fun x => x.1.isSome)
      && decide ((e :: es).length + ([] : List Keyword).length + (if ([] : List Keyword).isEmpty then 0 else 1) < 30)) = true := by rfl)
    (hline : (apos.endLine == cpos.line) = true := by rfl) (hs : starEach (e :: es) X.env = (false, eval e X.env) :: starEach es X.env := by rfl) (hplain : (backTo cpos (starEach es X.env)).any (·.1) = false := by rfl)
    (hsw : swapsWith (.Call (.Attribute o name apos) (e :: es) [] cpos) none pos.line X.env = pure false := by rfl) :
    SxOk X Wx (.Expr (.Call (.Attribute o name apos) (e :: es) [] cpos) pos) (sMut T op Fo Fs) := by
  obtain ⟨r, pr, sr⟩ := hm
  obtain ⟨to, po, so⟩ := ho.ex
  obtain ⟨ta, pa', sa⟩ := ha.ex
  refine ⟨_, ps_expr (pe_bm pa slot hty pr po pa' hbase hfew hline hs hplain) hsw, fun c ρ S σ H D C h => ?_⟩
  exact mut_core (k := fun _ r => r) sr hop so sa C h fun d v c' ρ' S' H' hq s' C' _ => hq c' σ H' s' C'
/-- .. without arguments -/
theorem st_mut0 {T id : String} {op : MOp} {name : Str} {apos cpos : Pos} (hm : MutD X T id op) (hop : ∀ so ds res, op so ds = some res → tyS T so = true) (pa : PlainAttrs T) (slot : PySem.Slot T name id) (hty : typeOf (.builtin id) = pure (.type "method_descriptor")) (ho : EvOk X Wx o Fo)
    (hbase : attributeBase o name X.env (eval o X.env) = eval o X.env := by rfl) (hline : (apos.endLine == cpos.line) = true := by rfl)
    (hsw : swapsWith (.Call (.Attribute o name apos) [] [] cpos) none pos.line X.env = pure false := by rfl) :
    SxOk X Wx (.Expr (.Call (.Attribute o name apos) [] [] cpos) pos) (sMut T op Fo aNil) := by
  obtain ⟨r, pr, sr⟩ := hm
  obtain ⟨to, po, so⟩ := ho.ex
  refine ⟨_, ps_expr (pe_bm0 pa slot hty pr po hbase hline) hsw, fun c ρ S σ H D C h => ?_⟩
  exact mut_core (k := fun _ r => r) (ta := fun σ H Q => Q [] H) (Q := fun v H' => D.nx σ H') sr hop so (Fs := aNil) (fun c ρ S σ H Q C h => (show WantA (gs X) c ρ σ H Q [] S from h) c [] H .refl C rfl) C h fun d v c' ρ' S' H' hq s' C' _ => hq c' σ H' s' C'

theorem st_mutSet {T id : String} {op : MOp} {name : Str} {apos cpos pos' : Pos} {x : Str} {i : Nat} (hN : X.N.Nodup) (hi : X.N[i]? = some x) (hx : Loc X.env.scope x) (hm : MutD X T id op) (hop : ∀ so ds res, op so ds = some res → tyS T so = true) (pa : PlainAttrs T) (slot : PySem.Slot T name id) (hty : typeOf (.builtin id) = pure (.type "method_descriptor")) (ho : EvOk X Wx o Fo)
    (hbase : attributeBase o name X.env (eval o X.env) = eval o X.env := by rfl) (hline : (apos.endLine == cpos.line) = true := by rfl)
    (hsw : swapsWith (.Call (.Attribute o name apos) [] [] cpos) (some (.Name x pos')) pos.line X.env = pure false := by rfl) (hf : X.fn x = true ∨ X.env.scope.names.lookup x = some .local := by first | exact .inl rfl | exact .inr rfl | assumption) :
    SxOk X Wx (.Assign [.Name x pos'] (.Call (.Attribute o name apos) [] [] cpos) pos) (sMutSet T op Fo aNil (Dn.gName i)) := by
  obtain ⟨r, pr, sr⟩ := hm
  obtain ⟨to, po, so⟩ := ho.ex
  refine ⟨_, ps_set hN hi hx (pe_bm0 pa slot hty pr po hbase hline) hsw hf, fun c ρ S σ H D C h => ?_⟩
  exact mut_core (ta := fun σ H Q => Q [] H) (Q := fun v H' => D.nx (σ.set i (some v)) H') sr hop so (Fs := aNil) (fun c ρ S σ H Q C h => (show WantA (gs X) c ρ σ H Q [] S from h) c [] H .refl C rfl) C h fun d v c' ρ' S' H' hq s' C' rv => hq c' _ H' s' (C'.set rv)
theorem mapp_ty : ∀ so ds res, mApp so ds = some res → tyS "list" so = true := fun so ds res h => by
  unfold mApp at h
  split at h
  · rfl
  · cases h
theorem mext_ty : ∀ so ds res, mExt so ds = some res → tyS "list" so = true := fun so ds res h => by
  unfold mExt at h
  split at h
  · rfl
  · cases h
theorem mclear_ty : ∀ so ds res, mClear so ds = some res → tyS "list" so = true := fun so ds res h => by
  unfold mClear at h
  split at h
  · rfl
  · cases h
theorem mpop_ty : ∀ so ds res, mPop so ds = some res → tyS "list" so = true := fun so ds res h => by
  unfold mPop at h
  split at h
  · rfl
  · cases h
theorem mpopAt_ty : ∀ so ds res, mPopAt so ds = some res → tyS "list" so = true := fun so ds res h => by
  unfold mPopAt at h
  split at h
  · rfl
  · cases h
theorem reps1 {G : Gs} {c : Ct} {H : Hp} {d : Dn.D} {vs : List V} (h : Reps G c H [d] vs) : ∃ v, vs = [v] ∧ Rep G c H d v := by
  simp only [Reps] at h
  obtain ⟨v, r, rfl, q, rfl⟩ := h
  exact ⟨v, rfl, q⟩
theorem reps2 {G : Gs} {c : Ct} {H : Hp} {d d' : Dn.D} {vs : List V} (h : Reps G c H [d, d'] vs) : ∃ v v', vs = [v, v'] ∧ Rep G c H d v ∧ Rep G c H d' v' := by
  simp only [Reps] at h
  obtain ⟨v, r, rfl, q, v', r', rfl, q', rfl⟩ := h
  exact ⟨v, v', rfl, q, q'⟩
theorem md_append : MutD X "list" "list.append" mApp := by
  refine ⟨_, mt_append, fun c S H p vs so ds res Q C hm r rd ht e k => ?_⟩
  unfold mApp at e
  split at e
  · split at e
    · cases e
      rename_i hl
      obtain ⟨v, rfl, rv⟩ := reps1 rd
      obtain ⟨us, q, ru⟩ := r
      refine ⟨p, us, v, rfl, rfl, q, by rw [← line_eq, ← ru.length]; exact hl, k .non _ trivial ⟨_, upd_same, ?_⟩ (by simp [Rep])⟩
      exact (ru.append (.one rv)).keep C.muts (.mut hm)
    · cases e
  · cases e
theorem md_extend : MutD X "list" "list.extend" mExt := by
  refine ⟨_, mt_extend, fun c S H p vs so ds res Q C hm r rd ht e k => ?_⟩
  unfold mExt at e
  split at e
  · split at e
    · cases e
      rename_i hl
      obtain ⟨v, rfl, rv⟩ := reps1 rd
      simp only [Rep] at rv
      obtain ⟨b, zs, rfl, _, qz, rz⟩ := rv
      obtain ⟨us, q, ru⟩ := r
      refine ⟨p, b, us, zs, rfl, rfl, q, qz, by rw [← line_eq, ← ru.length, ← rz.length]; exact hl, k .non _ trivial ⟨_, upd_same, ?_⟩ (by simp [Rep])⟩
      exact (ru.append rz).keep C.muts (.mut hm)
    · cases e
  · cases e
theorem md_clear : MutD X "list" "list.clear" mClear := by
  refine ⟨_, mt_clear, fun c S H p vs so ds res Q C hm r rd ht e k => ?_⟩
  unfold mClear at e
  split at e
  · cases e
    simp only [Reps] at rd
    subst rd
    obtain ⟨us, q, ru⟩ := r
    exact ⟨p, us, rfl, rfl, q, k .non _ trivial ⟨_, upd_same, .nil⟩ (by simp [Rep])⟩
  · cases e
theorem reps_dropLast {G : Gs} {c : Ct} {H : Hp} {ds : List Dn.D} {vs : List V} (h : Reps G c H ds vs) : Reps G c H ds.dropLast vs.dropLast := by
  rw [List.dropLast_eq_take, List.dropLast_eq_take, h.length]
  exact h.take _
theorem reps_erase {G : Gs} {c : Ct} {H : Hp} {ds : List Dn.D} {vs : List V} (k : Nat) (h : Reps G c H ds vs) : Reps G c H (ds.eraseIdx k) (vs.eraseIdx k) := by
  rw [List.eraseIdx_eq_take_drop_succ, List.eraseIdx_eq_take_drop_succ]
  exact (h.take _).append (h.drop _)
theorem md_pop : MutD X "list" "list.pop" mPop := by
  refine ⟨_, mt_pop, fun c S H p vs so ds res Q C hm r rd ht e k => ?_⟩
  unfold mPop at e
  split at e
  · rename_i xs
    cases el : xs[xs.length - 1]? with
    | none => rw [el] at e; cases e
    | some d =>
      rw [el] at e
      cases e
      simp only [Reps] at rd
      subst rd
      obtain ⟨us, q, ru⟩ := r
      obtain ⟨v, ev, rv⟩ := ru.get el
      rw [ru.length] at ev
      exact ⟨p, us, v, rfl, rfl, q, ev, k v _ trivial ⟨_, upd_same, (reps_dropLast ru).keep C.muts (.mut hm)⟩ (rv.keep C.muts (.mut hm))⟩
  · cases e
theorem md_popAt : MutD X "list" "list.pop" mPopAt := by
  refine ⟨_, mt_popAt, fun c S H p vs so ds res Q C hm r rd ht e k => ?_⟩
  unfold mPopAt at e
  split at e
  · rename_i xs i
    split at e
    · rename_i hi
      cases el : xs[i.toNat]? with
      | none => rw [el] at e; cases e
      | some d =>
        rw [el] at e
        cases e
        obtain ⟨w, rfl, rw'⟩ := reps1 rd
        simp only [Rep] at rw'
        subst rw'
        obtain ⟨us, q, ru⟩ := r
        obtain ⟨v, ev, rv⟩ := ru.get el
        have hl := (List.getElem?_eq_some_iff.mp ev).1
        have hs : seqIndex? i us.length = some i.toNat := by
          have := ixN_seq (n := us.length) (i := i) (j := i.toNat) (by unfold L2.ixN; rw [if_pos hi.1, if_pos (by omega)])
          exact this.1
        exact ⟨p, us, i, i.toNat, v, rfl, rfl, q, by omega, (by omega), hs, ev, k v _ trivial ⟨_, upd_same, (reps_erase _ ru).keep C.muts (.mut hm)⟩ (rv.keep C.muts (.mut hm))⟩
    · cases e
  · cases e
end
end Dn
end OfLayJ
section OfLayK
set_option Elab.async false
set_option linter.all false
set_option maxRecDepth 100000
set_option maxHeartbeats 1000000
/-! LayK: subscripts and fields written. -/
namespace Dn
open PySem PySem.Spec PyProof.Rows L2
section
variable {X : Cx} {Wx : WX} {st : Stmt} {rest body : List Stmt} {A B F : SX} {e tg o i iter value : Expr} {es : List Expr} {Fe Fo Fi : EX} {Fs : AX} {Ft : TX} {Fit : IX} {pos : Pos}
/-! ### o[i] = v -/
theorem repK_any {G : Gs} {c : Ct} {H : Hp} {k : Key} : ∀ {kvs : List (Key × Dn.D)} {vs : List (Key × V)}, RepK G c H kvs vs → (kvs.any fun kv => decide (kv.1 = k)) = vs.any fun kv => decide (kv.1 = k)
  | [], vs, h => by simp only [RepK] at h; subst h; rfl
  | (k0, d) :: r, vs, h => by
    simp only [RepK] at h
    obtain ⟨v, r', rfl, _, t⟩ := h
    simp only [List.any_cons]
    rw [repK_any t]
theorem repK_map {G : Gs} {c : Ct} {H : Hp} {k : Key} {d : Dn.D} {v : V} (rd : Rep G c H d v) : ∀ {kvs : List (Key × Dn.D)} {vs : List (Key × V)}, RepK G c H kvs vs →
    RepK G c H (kvs.map fun kv => if kv.1 = k then (kv.1, d) else kv) (vs.map fun kv => if kv.1 = k then (kv.1, v) else kv)
  | [], vs, h => by simp only [RepK] at h; subst h; simp [RepK]
  | (k0, d0) :: r, vs, h => by
    simp only [RepK] at h
    obtain ⟨v0, r', rfl, q, t⟩ := h
    simp only [List.map_cons]
    by_cases e : k0 = k
    · rw [if_pos e, if_pos e]
      simp only [RepK]
      exact ⟨v, _, rfl, rd, repK_map rd t⟩
    · rw [if_neg e, if_neg e]
      simp only [RepK]
      exact ⟨v0, _, rfl, q, repK_map rd t⟩
theorem repK_snoc {G : Gs} {c : Ct} {H : Hp} {k : Key} {d : Dn.D} {v : V} (rd : Rep G c H d v) : ∀ {kvs : List (Key × Dn.D)} {vs : List (Key × V)}, RepK G c H kvs vs → RepK G c H (kvs ++ [(k, d)]) (vs ++ [(k, v)])
  | [], vs, h => by simp only [RepK] at h; subst h; simp only [List.nil_append, RepK]; exact ⟨v, [], rfl, rd, rfl⟩
  | (k0, d0) :: r, vs, h => by
    simp only [RepK] at h
    obtain ⟨v0, r', rfl, q, t⟩ := h
    simp only [List.cons_append, RepK]
    exact ⟨v0, _, rfl, q, repK_snoc rd t⟩
theorem repK_put {G : Gs} {c : Ct} {H : Hp} {k : Key} {d : Dn.D} {v : V} {kvs : List (Key × Dn.D)} {vs : List (Key × V)} (r : RepK G c H kvs vs) (rd : Rep G c H d v) : RepK G c H (setK kvs k d) (putK vs k v) := by
  unfold setK putK
  rw [repK_any r]
  split
  · exact repK_map rd r
  · exact repK_snoc rd r
theorem PSet.or {t t' : TSet} (h : PSet X t) (h' : PSet X t') : PSet X (fun o i v H Q => t o i v H Q ∨ t' o i v H Q) := by
  intro pins s σ H o i v ov iv u Q I ro ri rv q
  rcases q with q | q
  · exact h pins s σ H o i v ov iv u Q I ro ri rv q
  · exact h' pins s σ H o i v ov iv u Q I ro ri rv q
theorem st_sub {tpos : Pos} (hu : X.A.units + 1 < cLine) (hv : EvOk X Wx e Fe) (ho : EvOk X Wx o Fo) (hi : EvOk X Wx i Fi) (hs : swapsWithSole [.Subscript o i tpos] e pos.line X.env = pure false := by rfl) (hw : swappedStores [.Subscript o i tpos] e X.env = pure none := by rfl)
    (h1 : (assignEach [.Subscript o i tpos] X.env).map (·.2) = [assign (.Subscript o i tpos) X.env] := by rfl)
    (ha : ∀ v, assign (.Subscript o i tpos) X.env v = (do
      let ov ← holding [v] (eval o X.env)
      let iv ← holding [v, ov] (eval i X.env)
      standAt tpos
      holding [v, ov, iv] (setItem ov iv v)
      release [v, ov, iv] []) := by intro _; rfl) : SxOk X Wx (.Assign [.Subscript o i tpos] e pos) (sSub Fo Fi Fe) := by
  obtain ⟨te, pe, qe⟩ := hv.ex
  obtain ⟨to, po, qo⟩ := ho.ex
  obtain ⟨ti, pi, qi⟩ := hi.ex
  refine ⟨_, ps_asg pe (pg_sub po pi (PSet.or set_list (set_dict hu)) ha) hs hw h1, fun c ρ S σ H D C h => ?_⟩
  refine qe c ρ S σ H _ C (outR_go .refl h fun x S1 h1 c1 v1 H1 s1 C1 r1 => ?_)
  refine qo c1 ρ S1 σ H1 _ C1 (outR_go s1 h1 fun w S2 h2 c2 v2 H2 s2 C2 r2 => ?_)
  refine qi c2 ρ S2 σ H2 _ C2 (outR_go (s1.trans s2) h2 fun k S3 h3 c3 v3 H3 s3 C3 r3 => ?_)
  have r1' := (r1.keep C1.cs.muts s2.kp).keep C2.cs.muts s3.kp
  have r2' := r2.keep C2.cs.muts s3.kp
  have sA := (s1.trans s2).trans s3
  cases x with
  | own j => exact h3.elim
  | d v =>
    cases k with
    | own j => exact h3.elim
    | d kd =>
      cases eo : owner ρ S3 w with
      | none => simp only [eo] at h3; exact h3.elim
      | some so =>
        simp only [eo] at h3
        cases es : setAt so kd v with
        | none => simp only [es] at h3; exact h3.elim
        | some so' =>
          simp only [es] at h3
          obtain ⟨p, rfl, hm, rr, back⟩ := owner_at C3 r2' eo
          have rv : Rep (gs X) c3 H3 v v1 := r1'
          have rk : Rep (gs X) c3 H3 kd v3 := r3
          unfold setAt at es
          split at es
          · rename_i xs n
            cases ei : ixN xs.length n with
            | none => rw [ei] at es; cases es
            | some j =>
              rw [ei] at es
              cases es
              obtain ⟨us, q, ru⟩ := rr
              simp only [Rep] at rk
              subst rk
              obtain ⟨ρ', S', eb, st, C'⟩ := back (.lst (xs.set j v)) (.lst (us.set j v1)) trivial ⟨_, upd_same, (ru.set j rv).keep C3.cs.muts (.mut hm)⟩
              rw [eb] at h3
              exact .inl ⟨p, us, _, j, rfl, rfl, q, by rw [← ru.length]; exact ei, h3 c3 σ _ (st _ _ sA) C'⟩
          · rename_i kvs n
            split at es
            · rename_i hl
              cases es
              obtain ⟨us, q, ru⟩ := rr
              simp only [Rep] at rk
              subst rk
              obtain ⟨ρ', S', eb, st, C'⟩ := back (.dct (setK kvs (.inl n) v)) (.dK (putK us (.inl n) v1)) trivial ⟨_, upd_same, RepK.keep C3.cs.muts (.mut hm) _ _ (repK_put ru rv)⟩
              rw [eb] at h3
              exact .inr ⟨p, _, rfl, DPut.k (k := .inl n) q (by rw [← line_eq, ← repK_len ru]; exact hl), h3 c3 σ _ (st _ _ sA) C'⟩
            · cases es
          · rename_i kvs n
            split at es
            · rename_i hl
              cases es
              obtain ⟨us, q, ru⟩ := rr
              simp only [Rep] at rk
              subst rk
              obtain ⟨ρ', S', eb, st, C'⟩ := back (.dct (setK kvs (.inr n) v)) (.dK (putK us (.inr n) v1)) trivial ⟨_, upd_same, RepK.keep C3.cs.muts (.mut hm) _ _ (repK_put ru rv)⟩
              rw [eb] at h3
              exact .inr ⟨p, _, rfl, DPut.k (k := .inr n) q (by rw [← line_eq, ← repK_len ru]; exact hl), h3 c3 σ _ (st _ _ sA) C'⟩
            · cases es
          · cases es
/-! ### fields -/
def FldOk (X : Cx) (cs : List String) (f : Str) : Prop := ∀ C ∈ cs, ∀ A, X.mg C = some (.ref A) → Cls X.K A ∧ NoAttr X.K A f
theorem repF_get {G : Gs} {c : Ct} {H : Hp} {f : Str} : ∀ {fs : List (Str × Dn.D)} {vs : List (Str × V)} {d : Dn.D}, RepF G c H fs vs → fs.lookup f = some d → ∃ v, vs.lookup f = some v ∧ Rep G c H d v
  | [], _, _, _, e => by cases e
  | (k, d0) :: r, vs, d, h, e => by
    simp only [RepF] at h
    obtain ⟨v, r', rfl, q, t⟩ := h
    simp only [List.lookup] at e ⊢
    cases hk : f == k with
    | true => rw [hk] at e; simp only at e ⊢; cases e; exact ⟨v, rfl, q⟩
    | false => rw [hk] at e; simp only at e ⊢; exact repF_get t e
theorem repF_put {G : Gs} {c : Ct} {H : Hp} {f : Str} {d : Dn.D} {v : V} (rd : Rep G c H d v) : ∀ {fs : List (Str × Dn.D)} {vs : List (Str × V)}, RepF G c H fs vs → RepF G c H (setF fs f d) (putF f v vs)
  | [], vs, h => by simp only [RepF] at h; subst h; simp only [setF, putF, RepF]; exact ⟨v, [], rfl, rd, rfl⟩
  | (k, d0) :: r, vs, h => by
    simp only [RepF] at h
    obtain ⟨v0, r', rfl, q, t⟩ := h
    simp only [setF, putF]
    by_cases e : k = f
    · rw [if_pos e, if_pos e]
      simp only [RepF]
      exact ⟨v, r', by rw [e], rd, t⟩
    · rw [if_neg e, if_neg e]
      simp only [RepF]
      exact ⟨v0, _, rfl, q, repF_put rd t⟩
theorem repF_len {G : Gs} {c : Ct} {H : Hp} : ∀ {fs : List (Str × Dn.D)} {vs : List (Str × V)}, RepF G c H fs vs → fs.length = vs.length
  | [], vs, h => by simp only [RepF] at h; subst h; rfl
  | (k, d) :: r, vs, h => by
    simp only [RepF] at h
    obtain ⟨v, r', rfl, _, t⟩ := h
    simp [repF_len t]
theorem ev_fld {cs : List String} {f : Str} (hf : FldOk X cs f) (ha : EvOk X Wx e Fe) (hb : attributeBase e f X.env (eval e X.env) = eval e X.env := by rfl) : EvOk X Wx (.Attribute e f pos) (eFld cs f Fe) := by
  obtain ⟨te, pe, qe⟩ := ha.ex
  refine ⟨_, pe_fld pe hb, fun c ρ S σ H Q C h => ?_⟩
  refine qe c ρ S σ H _ C (h.go .refl fun x S1 h1 c1 v1 H1 s1 C1 r1 => ?_)
  cases x with
  | own j => exact h1.elim
  | d x =>
    obtain ⟨d, ed, h2⟩ := ret1_post h1
    have r1' : Rep (gs X) c1 H1 x v1 := r1
    unfold fldOf at ed
    split at ed
    · split at ed
      · rename_i hC
        simp only [Rep] at r1'
        obtain ⟨a, A, dx, vs, rfl, hM, hA, ha, rf⟩ := r1'
        obtain ⟨v, ev, rv⟩ := repF_get rf ed
        obtain ⟨q1, q2⟩ := hf _ hC A hA
        exact ⟨a, A, dx, vs, v, rfl, ha, q1, q2, ev, h2 c1 v H1 s1 C1 rv⟩
      · cases ed
    · split at ed
      · rename_i es
        split at ed
        · rename_i hC
          simp only [Rep] at r1'
          obtain ⟨a, ea, rfl⟩ := r1'
          obtain ⟨A, dx, vs, hA, ha, rf⟩ := C1.cs.sto _ _ a es ea
          obtain ⟨v, ev, rv⟩ := repF_get rf ed
          obtain ⟨q1, q2⟩ := hf _ hC A hA
          exact ⟨a, A, dx, vs, v, rfl, ha, q1, q2, ev, h2 c1 v H1 s1 C1 rv⟩
        · cases ed
      · cases ed
    · cases ed
theorem st_fld {cs : List String} {f : Str} {pos' : Pos} (hf : FldOk X cs f) (hv : EvOk X Wx e Fe) (ho : EvOk X Wx o Fo) (hs : swapsWith e (some (.Attribute o f pos')) pos.line X.env = pure false := by rfl) : SxOk X Wx (.Assign [.Attribute o f pos'] e pos) (sFld cs Fo f Fe) := by
  obtain ⟨te, pe, qe⟩ := hv.ex
  obtain ⟨to, po, qo⟩ := ho.ex
  refine ⟨_, ps_fld po pe hs, fun c ρ S σ H D C h => ?_⟩
  refine qe c ρ S σ H _ C (outR_go .refl h fun x S1 h1 c1 v1 H1 s1 C1 r1 => ?_)
  refine qo c1 ρ S1 σ H1 _ C1 (outR_go s1 h1 fun w S2 h2 c2 v2 H2 s2 C2 r2 => ?_)
  have r1' := r1.keep C1.cs.muts s2.kp
  cases x with
  | own j => exact h2.elim
  | d v =>
    cases w with
    | own j => exact h2.elim
    | d x =>
      cases x with
      | loc n =>
        cases es : S2[n]? with
        | none => simp only [es] at h2; exact h2.elim
        | some so =>
          cases so with
          | ins C' fs =>
            simp only [es] at h2
            obtain ⟨⟨hC, hl⟩, h2⟩ := ifok_postS h2
            have r2' : Rep (gs X) c2 H2 (.loc n) v2 := r2
            simp only [Rep] at r2'
            obtain ⟨a, ea, rfl⟩ := r2'
            obtain ⟨A, dx, vs, hA, ha, rf⟩ := C2.cs.sto _ _ a es ea
            obtain ⟨q1, q2⟩ := hf _ hC A hA
            have hm := C2.cs.bm a (List.mem_of_getElem? ea)
            have rv : Rep (gs X) c2 H2 v v1 := r1'
            refine ⟨a, A, dx, vs, rfl, ha, q1, q2, by rw [← repF_len rf]; omega, h2 c2 σ _ ((s1.trans s2).trans (.putLoc ea hm)) (C2.putLoc ea trivial ⟨A, dx, _, hA, upd_same, RepF.keep C2.cs.muts (.mut hm) _ _ (repF_put rv rf)⟩)⟩
          | _ => simp only [es] at h2; exact h2.elim
      | _ => exact h2.elim
end
end Dn
end OfLayK
section OfLayL
set_option Elab.async false
set_option linter.all false
set_option maxRecDepth 100000
set_option maxHeartbeats 1000000
/-! LayL: a comprehension's list in a name. -/
namespace Dn
open PySem PySem.Spec PyProof.Rows L2
section
variable {X : Cx} {Wx : WX} {tg iter elt : Expr} {ifs : List Expr} {scope : Scope} {pos spos py : Pos} {i : Nat} {y : Str} {Fn' : NX}
/-- name = [..], let go -/
theorem st_setC (hc : X.calm = true) (hN : X.N.Nodup) (hy : X.N[i]? = some y) (hyl : X.env.scope.names.lookup y = some .local)
    (hsw : swapsWith (.ListComp elt [⟨tg, iter, ifs, 0⟩] scope pos) (some (.Name y py)) spos.line X.env = pure true) (h : CoOk X Wx elt tg iter ifs scope Fn') :
    SxOk X Wx (.Assign [.Name y py] (.ListComp elt [⟨tg, iter, ifs, 0⟩] scope pos) spos) (sSet (Dn.gName i) (eNew Fn')) := by
  obtain ⟨wi, g, tt, te, own, pi, ok, hg, ht, he, hs, sem⟩ := h.ex
  refine ⟨_, ps_setLc hc hN hy hyl hsw pi ok hg ht he hs, fun c ρ S σ H D C h => ?_⟩
  have h2 : Post (gs X) Wx c ρ σ H (fun ds S1 => PostS (gs X) Wx c H D (.nx (ρ.set i (.val (.lst ds))) S1)) (Fn' ρ S) := by
    have := (outR_post (σ := σ) h).bind
    exact this
  refine sem c ρ S σ H _ C (h2.mono fun ds S1 h1 c1 p vs H1 s1 C1 hp ap r1 e1 => ?_)
  refine h1 (c1.sub p) _ H1 (s1.sub hp) ((C1.sub ap).set (i := i) ?_)
  simp only [Rep]
  exact ⟨p, vs, rfl, fun z => z.2 rfl, e1, r1.keep C1.cs.muts .subw⟩
/-- .. in the store -/
theorem st_setCS (hc : X.calm = true) (hN : X.N.Nodup) (hy : X.N[i]? = some y) (hyl : X.env.scope.names.lookup y = some .local)
    (hsw : swapsWith (.ListComp elt [⟨tg, iter, ifs, 0⟩] scope pos) (some (.Name y py)) spos.line X.env = pure true) (h : CoOk X Wx elt tg iter ifs scope Fn') :
    SxOk X Wx (.Assign [.Name y py] (.ListComp elt [⟨tg, iter, ifs, 0⟩] scope pos) spos) (sSet (Dn.gName i) (eNewS Fn')) := by
  obtain ⟨wi, g, tt, te, own, pi, ok, hg, ht, he, hs, sem⟩ := h.ex
  refine ⟨_, ps_setLc hc hN hy hyl hsw pi ok hg ht he hs, fun c ρ S σ H D C h => ?_⟩
  have h2 : Post (gs X) Wx c ρ σ H (fun ds S1 => PostS (gs X) Wx c H D (.nx (ρ.set i (.val (.loc S1.length))) (S1 ++ [.lst ds]))) (Fn' ρ S) := by
    have := (outR_post (σ := σ) h).bind
    exact this
  refine sem c ρ S σ H _ C (h2.mono fun ds S1 h1 c1 p vs H1 s1 C1 hp ap r1 e1 => ?_)
  refine h1 (c1.tk p) _ H1 (s1.tk hp) ((Cn.tk (so := .lst ds) C1 ap ⟨vs, e1, r1⟩).set (i := i) ?_)
  simp only [Rep]
  refine ⟨p, ?_, rfl⟩
  rw [List.getElem?_append_right (by rw [C1.cs.len]; exact Nat.le_refl _)]
  simp [C1.cs.len]
/-- .. the slot's own -/
theorem st_ownC (hc : X.calm = true) (hN : X.N.Nodup) (hy : X.N[i]? = some y) (hyl : X.env.scope.names.lookup y = some .local)
    (hsw : swapsWith (.ListComp elt [⟨tg, iter, ifs, 0⟩] scope pos) (some (.Name y py)) spos.line X.env = pure true) (h : CoOk X Wx elt tg iter ifs scope Fn') :
    SxOk X Wx (.Assign [.Name y py] (.ListComp elt [⟨tg, iter, ifs, 0⟩] scope pos) spos) (sOwn i Fn') := by
  obtain ⟨wi, g, tt, te, own, pi, ok, hg, ht, he, hs, sem⟩ := h.ex
  refine ⟨_, ps_setLc hc hN hy hyl hsw pi ok hg ht he hs, fun c ρ S σ H D C h => ?_⟩
  refine sem c ρ S σ H _ C ((outR_post (σ := σ) h).mono fun ds S1 h1 c1 p vs H1 s1 C1 hp ap r1 e1 => ?_)
  exact h1 c1 _ H1 s1 (C1.own' ap ⟨vs, e1, r1⟩)
end
end Dn
end OfLayL
section OfLayM
set_option Elab.async false
set_option linter.all false
set_option maxRecDepth 100000
set_option maxHeartbeats 1000000
/-! LayM: defs and their calls. -/
namespace Dn
open PySem PySem.Spec PyProof.Rows L2
section
variable {G : Gs} {c c' : Ct} {H H' : Hp} {ρ : Dn.Env} {S S' : Store} {σ : L2.St}
/-- behind a def -/
def PostF (G : Gs) (c : Ct) (H : Hp) (Q : VK) (E : XK) : Res D → Prop
  | .ok d S' => ∀ c' v H', Stp c c' H H' → Cs G c' S' H' → Rep G c' H' d v → Q v H'
  | .exc C fs S' => ∀ cls d c' H', Stp c c' H H' → Cs G c' S' H' → ExR G c' H' C fs cls d → E cls d H'
  | .bad => False
/-- a callee's view: all that may be changed is a caller's -/
abbrev Ct.ent (c : Ct) : Ct := c.wm0 c.M
theorem Cs.ent (C : Cs G c S H) : Cs G c.ent S H := C.wm0 fun _ z => z
/-- behind a call: the slots stand -/
theorem Cn.after (C : Cn G c ρ S σ H) (s : Stp c.ent c' H H') (C' : Cs G c' S' H') : Cn G (c'.wm0 c.M0) ρ S' σ H' where
  cs := C'.wm0 fun a z => C'.m0 a (by rw [s.z]; exact C.cs.m0 a z)
  slen := C.slen
  val i d q := let ⟨v, e, r⟩ := C.val i d q; ⟨v, e, ((r.keep C.cs.muts .wm0).keep C.cs.ent.muts s.kp).keep C'.muts .wm0⟩
  own i o q := by
    obtain ⟨p, e, m, m0, nb, r⟩ := C.own i o q
    have pm : c'.M p := C'.m0 p (by rw [s.z]; exact m)
    have there : ∃ u, H p = some u := by obtain ⟨u, hu, _⟩ := C.cs.muts p m; exact ⟨u, hu⟩
    obtain ⟨u0, hu0⟩ := there
    have pb : p ∉ c'.β := fun z => by
      rcases s.newb p z with y | y
      · exact nb y
      · rw [hu0] at y; cases y
    refine ⟨p, e, pm, m0, pb, ?_⟩
    have r1 : SoR G c.ent H o p := SoR.keep C.cs.muts .wm0 (fun _ h => h) r
    have r2 : SoR G c' H' o p := SoR.keep C.cs.ent.muts s.kp (fun u hu => s.prot p u hu m nb) r1
    exact SoR.keep C'.muts .wm0 (fun _ h => h) r2
  sep := C.sep
theorem Stp.after (C : Cs G c S H) (s : Stp c.ent c' H H') : Stp c (c'.wm0 c.M0) H H' := Stp.wm0 (P := c.M) s fun a z => C.m0 a z
theorem ExR.keep {C : String} {fs : Fld} {cls : Value} {d : Option Addr} (hm : Muts c H) (k : Kp c c' H H') (h : ExR G c H C fs cls d) : ExR G c' H' C fs cls d := by
  obtain ⟨A, h1, h2, h3, h4⟩ := h
  refine ⟨A, h1, h2, h3, fun n => ?_⟩
  obtain ⟨dd, vs, e, q1, q2, q3⟩ := h4 n
  exact ⟨dd, vs, e, (fun z => by rw [k.new dd z q1] at q2; cases q2), k.keep dd _ q2 q1, RepF.keep hm k _ _ q3⟩
end
/-- what a def promises: it tells what den tells -/
structure FnG (P : Program) (w : World) (K : PySem.W.Frag) (mg : Str → Option Value) (base : Heap) (k : Nat) (f : Addr) (fd : FuncData) (ps : List Str) (den : Fn) : Prop where
  len : ∀ ds S, ds.length ≠ ps.length → den ds S = .bad
  run : ∀ (A : Around) (outer : List PySem.Env) (s : Shared) (H : Hp) (args : Args) (us : List Value) (vs : List V) (Q : VK) (E : XK) (c : Ct) (S : Store) (ds : List D), Room k A → A.guards = some [] → Env0 P w K mg base A outer s H →
    BindsTo s fd args (ps.zip us) → Vals vs us → Cs ⟨K, mg⟩ c S H → (∀ a, c.M a → c.M0 a) → Reps ⟨K, mg⟩ c H ds vs → PostF ⟨K, mg⟩ c H Q E (den ds S) → codeAny (model P w) A (.call (.ref f) args) (CR (L2.CX P w) outer P w H s Q E) s
theorem FnG.mono {P : Program} {w : World} {K : PySem.W.Frag} {mg : Str → Option Value} {base : Heap} {j k : Nat} {f : Addr} {fd : FuncData} {ps : List Str} {den : Fn} (F : FnG P w K mg base j f fd ps den) (h : j ≤ k) : FnG P w K mg base k f fd ps den :=
  ⟨F.len, fun A outer s H args us vs Q E c S ds hr => F.run A outer s H args us vs Q E c S ds (hr.mono h)⟩
theorem FnG.length {P : Program} {w : World} {K : PySem.W.Frag} {mg : Str → Option Value} {base : Heap} {k : Nat} {f : Addr} {fd : FuncData} {ps : List Str} {den : Fn} (F : FnG P w K mg base k f fd ps den) {G : Gs} {c : Ct} {H : Hp} {Q : VK} {E : XK} {ds : List D} {S : Store} (h : PostF G c H Q E (den ds S)) : ds.length = ps.length := by
  by_cases e : ds.length = ps.length
  · exact e
  · rw [F.len ds S e] at h
    exact h.elim
/-- a def's wish: the entry's -/
abbrev WxE (E : XK) : WX := fun cls d _ H => E cls d H
theorem startE_get {n : Nat} {ds : List D} {i : Nat} {s : Slot} (h : (startE n ds)[i]? = some s) : (∃ d, s = .val d ∧ ds[i]? = some d) ∨ (s = .un ∧ ds.length ≤ i) := by
  unfold startE at h
  by_cases hi : i < ds.length
  · rw [List.getElem?_append_left (by simpa using hi), List.getElem?_map, List.getElem?_eq_getElem hi] at h
    cases h
    exact .inl ⟨_, rfl, List.getElem?_eq_getElem hi⟩
  · rw [List.getElem?_append_right (by simpa using hi), List.getElem?_replicate] at h
    split at h
    · cases h; exact .inr ⟨rfl, by omega⟩
    · cases h
theorem Cn.start {G : Gs} {c : Ct} {H : Hp} {S : Store} {N : List Str} {ds : List D} {vs : List V} (C : Cs G c S H) (r : Reps G c H ds vs) (hl : ds.length ≤ N.length) : Cn G c (startE N.length ds) S (L2.start N vs) H where
  cs := C
  slen := by
    have e := r.length
    simp [startE, L2.start]; omega
  val i d h := by
    rcases startE_get h with ⟨d', e, q⟩ | ⟨e, _⟩
    · cases e
      obtain ⟨v, ev, rv⟩ := r.get q
      have hi := (List.getElem?_eq_some_iff.mp ev).1
      refine ⟨v, ?_, rv⟩
      unfold L2.start
      rw [List.getElem?_append_left (by simpa using hi), List.getElem?_map, ev]
      rfl
    · cases e
  own i o h := by
    rcases startE_get h with ⟨d', e, q⟩ | ⟨e, _⟩ <;> cases e
  sep i j o o' p h := by
    rcases startE_get h with ⟨d', e, q⟩ | ⟨e, _⟩ <;> cases e
/-- a def of the text, by its body -/
theorem fnG_of {P : Program} {w : World} {K : PySem.W.Frag} {mg : Str → Option Value} {base : Heap} {k : Nat} {f : Addr} {name qual : Str} {params : Arguments} {body : List Stmt} {scope : Scope} {dV kV doc pm cdv ct oc : Value} {an od : Option Addr}
    {osl : Array (Option Value)} {N ps : List Str} {F : SX} (lk : K.lookup f = some ⟨oc, od, .func (PySem.W.fnOf name qual params body scope dV kV doc pm an cdv ct), osl⟩) (hcd : PySem.W.codeIn K cdv qual = true) (S : FnScope N ps scope)
    (hbody : ∀ (A : Around) (outer : List PySem.Env) (s : Shared) (H : Hp) (E : XK), Room k (A.deeper (envOfC qual scope s.heap.objs.size f cdv)) → A.guards = some [] → SsOk (cxOf (L2.CX P w) P w K mg base N qual scope f cdv A outer s H E) (WxE E) body F) :
    FnG P w K mg base (k + 1) f (PySem.W.fnOf name qual params body scope dV kV doc pm an cdv ct) ps (defD ps.length N.length F) := by
  constructor
  · intro ds S ne
    unfold defD
    rw [if_neg ne]
  intro A outer s H args us vs Q E c S0 ds hr hgd e0 hb rv C h0 rd hp
  have hlen : ds.length = ps.length := by
    by_cases e : ds.length = ps.length
    · exact e
    · unfold defD at hp
      rw [if_neg e] at hp
      exact hp.elim
  have hvl : vs.length = ps.length := by rw [← rd.length]; exact hlen
  have old : ∀ b o, base.get? b = some o → s.heap.get? b = some o := fun b o e => (e0.bs b o e).1
  have there := e0.mod.kin.keeps old
  have hnames : ∀ y ∈ ps.zip us, scope.names.lookup y.1 = some .local ∨ (scope.names.lookup y.1 = some .cell ∧ ((cellsFrom (s.heap.objs.size + 1) scope.names []).lookup y.1).isSome = true) := by
    rintro ⟨n, v⟩ hy
    have hn := (List.of_mem_zip hy).1
    exact (S.par n hn).imp id fun q => ⟨q, PySem.W.cellsFrom_some _ _ _ (.inl q)⟩
  refine codeAny_call_function hr.depth (there _ _ lk) rfl S.co S.gen rfl (PySem.W.codeRec_of there hcd) (hb _ _ _ _ (wpAny_newFunctionEnv_cells S.kind hnames ?_))
  rintro env rfl s1 x
  have hpl : ps.length ≤ N.length := by
    have e := congrArg List.length S.pre
    rw [List.length_take] at e
    omega
  obtain ⟨t, ht, sem⟩ := (hbody A outer s H E (hr.deeper _) hgd).ex
  have I0 := inv_start (CX := L2.CX P w) (N := N) (E := E) S hr.hd e0 hvl rv x
  have Cn0 : Cn ⟨K, mg⟩ c (startE N.length ds) S0 (L2.start N vs) H := Cn.start C rd (by omega)
  have hp' : PostS ⟨K, mg⟩ (WxE E) c H { nx := fun _ H' => Q .non H', rt := Q } (F (startE N.length ds) S0) := by
    unfold defD at hp
    rw [if_pos hlen] at hp
    cases eF : F (startE N.length ds) S0 with
    | nx ρ' S' => rw [eF] at hp; exact fun c' σ' H' s' C' => hp c' .non H' s' C'.cs (by simp [Rep])
    | ret d S' => rw [eF] at hp; exact fun c' v H' s' C' r' => hp c' v H' s' C' r'
    | exc X' fs ρ' S' => rw [eF] at hp; exact fun cls d c' σ' H' s' C' e' => hp cls d c' H' s' C'.cs e'
    | brk ρ' S' => rw [eF] at hp; exact hp.elim
    | ct ρ' S' => rw [eF] at hp; exact hp.elim
    | bad => rw [eF] at hp; exact hp.elim
  have ran := ht.run [] s1 (L2.start N vs) H _ I0 (sem c _ S0 _ H _ Cn0 hp')
  have back : ∀ {σ' : L2.St} {H' : Hp} {v : V} {u : Value} {s' : Shared}, Inv (cxOf (L2.CX P w) P w K mg base N qual scope f cdv A outer s H E) [] σ' H' s' → RelV v u → Q v H' → CE outer P w H s Q u s' :=
    fun J ru q => ⟨_, _, J.os, J.bare, J.base, J.hok, ru, q⟩
  refine ⟨(e0.mod.nolimit.keeps old).keeps x.toInCall.keep, codeAny_func (wpAny_mono ran (fun fl s' h => ?_) fun _ _ h => h)⟩
  match fl, h with
  | .ret u, ⟨v, σ', H', J, ru, q⟩ => exact back J ru q
  | .next, ⟨σ', H', J, q⟩ => exact back (v := .non) (u := .none) J rfl q
  | .brk, ⟨_, _, _, q⟩ => exact q.elim
  | .cont, ⟨_, _, _, q⟩ => exact q.elim

/-! ### calls -/
/-- the callee's promise as a reading of its arguments -/
def spG (G : Gs) (den : Fn) : List V → Hp → VK → XK → Prop := fun vs H Q E => ∃ c S ds, Cs G c S H ∧ (∀ a, c.M a → c.M0 a) ∧ Reps G c H ds vs ∧ PostF G c H Q E (den ds S)
section
variable {X : Cx} {Wx : WX} {k : Nat} {f : Addr} {fd : FuncData} {ps : List Str} {den : Fn} {dvs : List V} {dd : List D} {ds : List Value} {x m : Str} {p pos apos : Pos} {e o : Expr} {es : List Expr} {Fs : AX} {Fo : EX}
theorem run_fnG {E : XK} {pins : List (Addr × Obj)} {σ : L2.St} {H : Hp} {s : Shared} {Q : VK} {us : List Value} {vs : List V} (F : FnG X.prog X.w X.K X.mg X.base k f fd ps den) (hr : Room k X.A) (hgd : X.A.guards = some []) (hb : Binds X.K fd ps ds) (hd : Vals dvs ds)
    (hx : PassesAt (L2.CX X.prog X.w) X σ E) (I : Inv X pins σ H s) (r : Vals vs us) (h : spG (gs X) den (vs ++ dvs) H Q E) : wpAny (model X.prog X.w) X.A (call (.ref f) us) (EP X pins σ Q) X.xe s := by
  obtain ⟨c, S, ds', C, h0, rd, hp⟩ := h
  have r2 := r.append hd
  have hl : (us ++ ds).length = ps.length := by
    have e1 := F.length hp
    have e2 := rd.length
    have e3 := r2.length
    omega
  have ran := F.run X.A X.stack s H ⟨us, []⟩ (us ++ ds) (vs ++ dvs) Q E c S ds' hr hgd I.env0 (hb s us I.kIn hl) r2 C h0 rd hp
  refine wpAny_call (codeAny_mono ran fun res s' q => ?_)
  match res, q with
  | .error e, q => exact hx pins H s e s' I q
  | .ok (.ret u), q => exact I.after q
  | .ok .next, q => exact q.elim
  | .ok .brk, q => exact q.elim
  | .ok .cont, q => exact q.elim
/-- the reading of a call with the defaults behind -/
def tCallG (G : Gs) (den : Fn) (dvs : List V) (Wx : WX) (t : TA) : TE := fun σ H Q => t σ H fun vs H1 => spG G den (vs ++ dvs) H1 Q (WE Wx σ)
theorem pe_callG {t : TA} (F : FnG X.prog X.w X.K X.mg X.base k f fd ps den) (hr : Room k X.A) (hgd : X.A.guards = some []) (tk : Takes X Wx) (hg : Gl X x) (hm : X.mg x = some (.ref f)) (hk : PySem.W.keepIn X.K (.ref f) = true) (hb : Binds X.K fd ps ds) (hd : Vals dvs ds)
    (ha : PA X (e :: es) t) (hdb : (x == ("__debug__" : Str)) = false := by decide) (he : starEach (e :: es) X.env = (false, eval e X.env) :: starEach es X.env := by rfl) (hpl : (backTo pos (starEach es X.env)).any (·.1) = false := by rfl) :
    PE X (.Call (.Name x p) (e :: es) [] pos) (tCallG (gs X) den dvs Wx t) := by
  constructor
  intro pins s σ H Q I h
  have args := ha.run pos pins s σ H _ I h
  refine wpAny_Call_Name_kw (ld_glob I hg hm (PySem.W.callWith_K (h₀ := X.base) I.ok.mod.kin hk (thn args ?_) he hpl) hdb)
  rintro us s1 ⟨vs, H1, I1, r, q⟩
  exact ⟨I1.kIn, run_fnG F hr hgd hb hd (passAt tk σ) I1 r q⟩
theorem pe_callG0 (F : FnG X.prog X.w X.K X.mg X.base k f fd ps den) (hr : Room k X.A) (hgd : X.A.guards = some []) (tk : Takes X Wx) (hg : Gl X x) (hm : X.mg x = some (.ref f)) (hk : PySem.W.keepIn X.K (.ref f) = true) (hb : Binds X.K fd ps ds) (hd : Vals dvs ds)
    (hdb : (x == ("__debug__" : Str)) = false := by decide) : PE X (.Call (.Name x p) [] [] pos) (tCallG (gs X) den dvs Wx tNil) :=
  ⟨fun pins s σ H Q I h => wpAny_Call_Name_kw (ld_glob I hg hm (PySem.W.callWith_K0 I.kIn hk (run_fnG (us := []) F hr hgd hb hd (passAt tk σ) I .nil h)) hdb)⟩
/-- the callee's end is the caller's -/
theorem spG_of {c : Ct} {ρ : Dn.Env} {σ : L2.St} {H : Hp} {c1 : Ct} {S1 : Store} {H1 : Hp} {Q : VK} {ds : List D} {vs : List V} {P : W → Store → Prop} (C1 : Cn (gs X) c1 ρ S1 σ H1) (s1 : Stp c c1 H H1) (r : Reps (gs X) c1 H1 ds vs)
    (h : Post (gs X) Wx c ρ σ H P (retD (den ds S1))) (hP : ∀ d S', P (.d d) S' → ∀ c' v H', Stp c c' H H' → Cn (gs X) c' ρ S' σ H' → Rep (gs X) c' H' d v → Q v H') : spG (gs X) den vs H1 Q (WE Wx σ) := by
  refine ⟨c1.ent, S1, ds, C1.cs.ent, fun a z => z, r.keep C1.cs.muts .wm0, ?_⟩
  cases eD : den ds S1 with
  | ok d S' =>
    rw [eD] at h
    exact fun c' v H' s' C' r' => hP d S' h (c'.wm0 c1.M0) v H' (s1.trans (.after C1.cs s')) (C1.after s' C') (r'.keep C'.muts .wm0)
  | exc C fs S' =>
    rw [eD] at h
    exact fun cls d c' H' s' C' e' => h cls d (c'.wm0 c1.M0) H' (s1.trans (.after C1.cs s')) (C1.after s' C') (e'.keep C'.muts .wm0)
  | bad => rw [eD] at h; exact h.elim
theorem ev_call (F : FnG X.prog X.w X.K X.mg X.base k f fd ps den) (hr : Room k X.A) (hgd : X.A.guards = some []) (tk : Takes X Wx) (hg : Gl X x) (hm : X.mg x = some (.ref f)) (hk : PySem.W.keepIn X.K (.ref f) = true) (hb : Binds X.K fd ps ds) (hd : Vals dvs ds) (hdd : ∀ c H, Reps (gs X) c H dd dvs)
    (ha : ArOk X Wx (e :: es) Fs) (hdb : (x == ("__debug__" : Str)) = false := by decide) (he : starEach (e :: es) X.env = (false, eval e X.env) :: starEach es X.env := by rfl) (hpl : (backTo pos (starEach es X.env)).any (·.1) = false := by rfl) :
    EvOk X Wx (.Call (.Name x p) (e :: es) [] pos) (eCall den dd Fs) := by
  obtain ⟨t, pt, st⟩ := ha.ex
  refine ⟨_, pe_callG F hr hgd tk hg hm hk hb hd pt hdb he hpl, fun c ρ S σ H Q C h => ?_⟩
  refine st c ρ S σ H _ C (h.go .refl fun xs S1 h1 c1 vs H1 s1 C1 r1 => ?_)
  obtain ⟨ds', ed, h2⟩ := withD_post h1
  exact spG_of C1 s1 ((r1.data ed).append (hdd _ _)) h2 fun d S' q c' v H' s' C' r' => q c' v H' s' C' r'
theorem ev_call0 (F : FnG X.prog X.w X.K X.mg X.base k f fd ps den) (hr : Room k X.A) (hgd : X.A.guards = some []) (tk : Takes X Wx) (hg : Gl X x) (hm : X.mg x = some (.ref f)) (hk : PySem.W.keepIn X.K (.ref f) = true) (hb : Binds X.K fd ps ds) (hd : Vals dvs ds) (hdd : ∀ c H, Reps (gs X) c H dd dvs)
    (hdb : (x == ("__debug__" : Str)) = false := by decide) : EvOk X Wx (.Call (.Name x p) [] [] pos) (eCall den dd aNil) := by
  refine ⟨_, pe_callG0 F hr hgd tk hg hm hk hb hd hdb, fun c ρ S σ H Q C h => ?_⟩
  exact spG_of (vs := [] ++ dvs) C .refl (show Reps (gs X) c H ([] ++ dd) dvs from hdd c H) h fun d S' q c' v H' s' C' r' => q c' v H' s' C' r'
end
end Dn
end OfLayM
section OfLayN
set_option Elab.async false
set_option linter.all false
set_option maxRecDepth 100000
set_option maxHeartbeats 1000000
/-! LayN: methods, new instances. -/
namespace Dn
open PySem PySem.Spec PyProof.Rows L2
section
variable {X : Cx} {Wx : WX} {k : Nat} {f A : Addr} {fd : FuncData} {ps : List Str} {den : Fn} {dvs : List V} {dd : List D} {ds : List Value} {x m : Str} {p pos apos : Pos} {e o : Expr} {es : List Expr} {Fs : AX} {Fo : EX}
/-- the class at A has that method -/
def MtAt (X : Cx) (m : Str) (dd : List D) (C : String) (den : Fn) (A : Addr) (dvs : List V) : Prop :=
  ∃ (f : Addr) (fd : FuncData) (ps : List Str) (k : Nat) (ds : List Value), X.mg C = some (.ref A) ∧ Cls X.K A ∧ Meth X.K A m f ∧ FnG X.prog X.w X.K X.mg X.base k f fd ps den ∧ Room k X.A ∧ L2.Binds X.K fd ps ds ∧ Vals dvs ds ∧ ∀ c H, Reps (gs X) c H dd dvs
structure MtOk (X : Cx) (m : Str) (dd : List D) (C : String) (den : Fn) : Prop where
  ex : ∃ A dvs, MtAt X m dd C den A dvs
theorem mt_of {C : String} (hm : X.mg C = some (.ref A)) (c : Cls X.K A) (b : Meth X.K A m f) (F : FnG X.prog X.w X.K X.mg X.base k f fd ps den) (hr : Room k X.A) (hb : L2.Binds X.K fd ps ds) (hd : Vals dvs ds) (hdd : ∀ c H, Reps (gs X) c H dd dvs) : MtOk X m dd C den :=
  ⟨A, dvs, f, fd, ps, k, ds, hm, c, b, F, hr, hb, hd, hdd⟩
def tMethG (X : Cx) (m : Str) (dd : List D) (Wx : WX) (ta : TE) (t : TA) : TE := fun σ H Q => ta σ H fun v H1 => ∃ C den A dvs, MtAt X m dd C den A dvs ∧ ∃ a dx fs, v = .ref a ∧ H1 a = some (.ins A dx fs) ∧ fs.lookup m = none ∧
  t σ H1 fun vs H2 => spG (gs X) den (v :: (vs ++ dvs)) H2 Q (WE Wx σ)
theorem pe_methG {ta : TE} {t : TA} {pl : Sem Bool} (he : PE X o ta) (hgd : X.A.guards = some []) (tk : Takes X Wx) (ha : PA X (e :: es) t)
    (hst : starEach (e :: es) X.env = (false, eval e X.env) :: starEach es X.env := by rfl) (hpl : (backTo pos (starEach es X.env)).any (·.1) = false := by rfl)
    (ht : eval (.Call (.Attribute o m apos) (e :: es) [] pos) X.env = (do
      let ov ← eval o X.env
      standAt apos.atName
      let (f, first) ← holding [ov] (getMethod ov m pl)
      callWith pos f first (backTo pos (starEach (e :: es) X.env)) (backToKw pos (keywordEach [] X.env))) := by rfl) :
    PE X (.Call (.Attribute o m apos) (e :: es) [] pos) (tMethG X m dd Wx ta t) := by
  constructor
  intro pins s σ H Q I h
  have obj := he.run pins s σ H _ I h
  refine PySem.W.methodCall_KW (pl := pl) (thn obj ?_) ht
  rintro u s1 ⟨v, H1, I1, rx, C, den, A, dvs, ⟨f, fd, ps, k, ds, hm, c, b, F, hr, hb, hd, _⟩, a, dx, fs, rfl, ea, l, q⟩
  obtain rfl : u = Value.ref a := rx
  have args := ha.run pos pins s1 σ H1 _ I1 q
  refine getmeth_ok I1 ea c b l (PySem.W.callWith_K (first := [.ref a]) (h₀ := X.base) I.ok.mod.kin b.kp (thn args ?_) hst hpl)
  rintro us s2 ⟨vs, H2, I2, r, q2⟩
  exact ⟨I2.kIn, run_fnG (us := .ref a :: us) (vs := .ref a :: vs) F hr hgd hb hd (passAt tk σ) I2 (.cons rfl r) q2⟩
theorem pe_methG0 {ta : TE} {pl : Sem Bool} (he : PE X o ta) (hgd : X.A.guards = some []) (tk : Takes X Wx)
    (ht : eval (.Call (.Attribute o m apos) [] [] pos) X.env = (do
      let ov ← eval o X.env
      standAt apos.atName
      let (f, first) ← holding [ov] (getMethod ov m pl)
      callWith pos f first (backTo pos (starEach [] X.env)) (backToKw pos (keywordEach [] X.env))) := by rfl) :
    PE X (.Call (.Attribute o m apos) [] [] pos) (tMethG X m dd Wx ta tNil) := by
  constructor
  intro pins s σ H Q I h
  have obj := he.run pins s σ H _ I h
  refine PySem.W.methodCall_KW (pl := pl) (thn obj ?_) ht
  rintro u s1 ⟨v, H1, I1, rx, C, den, A, dvs, ⟨f, fd, ps, k, ds, hm, c, b, F, hr, hb, hd, _⟩, a, dx, fs, rfl, ea, l, q⟩
  obtain rfl : u = Value.ref a := rx
  exact getmeth_ok I1 ea c b l (PySem.W.callWith_K0 (first := [.ref a]) I1.kIn b.kp (run_fnG (us := [.ref a]) (vs := [.ref a]) F hr hgd hb hd (passAt tk σ) I1 (.cons rfl .nil) q))
theorem repF_none {G : Gs} {c : Ct} {H : Hp} {f : Str} : ∀ {fs : List (Str × D)} {vs : List (Str × V)}, RepF G c H fs vs → fs.lookup f = none → vs.lookup f = none
  | [], vs, h, _ => by simp only [RepF] at h; subst h; rfl
  | (k, d0) :: r, vs, h, e => by
    simp only [RepF] at h
    obtain ⟨v, r', rfl, q, t⟩ := h
    simp only [List.lookup] at e ⊢
    cases hk : f == k with
    | true => rw [hk] at e; cases e
    | false => rw [hk] at e; simp only at e ⊢; exact repF_none t e
/-- the instance that a value is -/
theorem inst_of {c : Ct} {ρ : Dn.Env} {S : Store} {σ : L2.St} {H : Hp} {d : D} {v : V} {C : String} (Cc : Cn (gs X) c ρ S σ H) (r : Rep (gs X) c H d v) (hn : noFld S m d = true) (hC : clsOf S d = some C) :
    ∃ a A dx fs, v = .ref a ∧ X.mg C = some (.ref A) ∧ H a = some (.ins A dx fs) ∧ fs.lookup m = none := by
  cases d with
  | obj C' fs =>
    simp only [clsOf, Option.some.injEq] at hC
    subst hC
    simp only [Rep] at r
    obtain ⟨a, A, dx, vs, rfl, _, hA, ha, rf⟩ := r
    exact ⟨a, A, dx, vs, rfl, hA, ha, repF_none rf (by simpa [noFld] using hn)⟩
  | loc n =>
    simp only [Rep] at r
    obtain ⟨a, ea, rfl⟩ := r
    cases es : S[n]? with
    | none => simp [noFld, es] at hn
    | some so =>
      cases so with
      | ins C' fs =>
        simp only [clsOf, es, Option.some.injEq] at hC
        subst hC
        obtain ⟨A, dx, vs, hA, ha, rf⟩ := Cc.cs.sto n _ a es ea
        exact ⟨a, A, dx, vs, rfl, hA, ha, repF_none rf (by simpa [noFld, es] using hn)⟩
      | _ => simp [noFld, es] at hn
  | _ => simp [noFld] at hn
theorem lookup_mem {β : Type} {l : List (String × β)} {a : String} {b : β} (h : l.lookup a = some b) : (a, b) ∈ l := by
  induction l with
  | nil => cases h
  | cons p r ih =>
    obtain ⟨a', b'⟩ := p
    simp only [List.lookup] at h
    cases e : a == a' with
    | true =>
      rw [e] at h
      cases h
      rw [beq_iff_eq] at e
      subst e
      exact List.mem_cons_self
    | false => rw [e] at h; exact List.mem_cons_of_mem _ (ih h)
theorem meth_core {tbl : List (String × Fn)} {ta : TE} {t : TA} (h : ∀ p ∈ tbl, MtOk X m dd p.1 p.2) (sa : ∀ c ρ S σ H (Q : VK), Cn (gs X) c ρ S σ H → Post (gs X) Wx c ρ σ H (WantE (gs X) c ρ σ H Q) (Fo ρ S) → ta σ H Q)
    (st : ∀ c ρ S σ H (Q : List V → Hp → Prop), Cn (gs X) c ρ S σ H → Post (gs X) Wx c ρ σ H (WantA (gs X) c ρ σ H Q) (Fs ρ S) → t σ H Q) :
    ∀ c ρ S σ H (Q : VK), Cn (gs X) c ρ S σ H → Post (gs X) Wx c ρ σ H (WantE (gs X) c ρ σ H Q) (eMeth m tbl dd Fo Fs ρ S) → tMethG X m dd Wx ta t σ H Q := by
  intro c ρ S σ H Q C hp
  refine sa c ρ S σ H _ C (hp.go .refl fun x S1 h1 c1 v H1 s1 C1 r1 => ?_)
  cases x with
  | own i => exact h1.elim
  | d d =>
    have r1' : Rep (gs X) c1 H1 d v := r1
    cases hn : noFld S1 m d with
    | false => simp only [hn, Bool.false_eq_true, if_false] at h1; exact h1.elim
    | true =>
      simp only [hn, if_true] at h1
      cases hC : clsOf S1 d with
      | none => simp only [hC, Option.bind_none] at h1; exact h1.elim
      | some Cn' =>
        simp only [hC, Option.bind_some] at h1
        cases hT : tbl.lookup Cn' with
        | none => simp only [hT] at h1; exact h1.elim
        | some g =>
          simp only [hT] at h1
          have mem : (Cn', g) ∈ tbl := lookup_mem hT
          obtain ⟨A, dvs, at'⟩ := (h _ mem).ex
          obtain ⟨a, A', dx, fs, rfl, hA', ha, hl⟩ := inst_of C1 r1' hn hC
          have at2 := at'
          obtain ⟨f, fd, ps, k, ds, hm, _, _, _, _, _, _, hdd⟩ := at2
          have eA : A' = A := by
            have : (some (Value.ref A') : Option Value) = some (.ref A) := hA'.symm.trans hm
            cases this; rfl
          subst eA
          refine ⟨Cn', g, A', dvs, at', a, dx, fs, rfl, ha, hl, ?_⟩
          refine st c1 ρ S1 σ H1 _ C1 (h1.go s1 fun xs S2 h2 c2 vs H2 s2 C2 r2 => ?_)
          obtain ⟨ds', ed, h3⟩ := withD_post h2
          exact spG_of C2 (s1.trans s2) (.cons (r1'.keep C1.cs.muts s2.kp) ((r2.data ed).append (hdd _ _))) h3 fun d S' q c' v H' s' C' r' => q c' v H' s' C' r'
theorem ev_meth {tbl : List (String × Fn)} {pl : Sem Bool} (h : ∀ p ∈ tbl, MtOk X m dd p.1 p.2) (ho : EvOk X Wx o Fo) (hgd : X.A.guards = some []) (tk : Takes X Wx) (ha : ArOk X Wx (e :: es) Fs)
    (hst : starEach (e :: es) X.env = (false, eval e X.env) :: starEach es X.env := by rfl) (hpl : (backTo pos (starEach es X.env)).any (·.1) = false := by rfl)
    (ht : eval (.Call (.Attribute o m apos) (e :: es) [] pos) X.env = (do
      let ov ← eval o X.env
      standAt apos.atName
      let (f, first) ← holding [ov] (getMethod ov m pl)
      callWith pos f first (backTo pos (starEach (e :: es) X.env)) (backToKw pos (keywordEach [] X.env))) := by rfl) :
    EvOk X Wx (.Call (.Attribute o m apos) (e :: es) [] pos) (eMeth m tbl dd Fo Fs) := by
  obtain ⟨ta, pa, sa⟩ := ho.ex
  obtain ⟨t, pt, st⟩ := ha.ex
  exact ⟨_, pe_methG (dd := dd) pa hgd tk pt hst hpl ht, meth_core h sa st⟩
theorem ev_meth0 {tbl : List (String × Fn)} {pl : Sem Bool} (h : ∀ p ∈ tbl, MtOk X m dd p.1 p.2) (ho : EvOk X Wx o Fo) (hgd : X.A.guards = some []) (tk : Takes X Wx)
    (ht : eval (.Call (.Attribute o m apos) [] [] pos) X.env = (do
      let ov ← eval o X.env
      standAt apos.atName
      let (f, first) ← holding [ov] (getMethod ov m pl)
      callWith pos f first (backTo pos (starEach [] X.env)) (backToKw pos (keywordEach [] X.env))) := by rfl) :
    EvOk X Wx (.Call (.Attribute o m apos) [] [] pos) (eMeth m tbl dd Fo aNil) := by
  obtain ⟨ta, pa, sa⟩ := ho.ex
  exact ⟨_, pe_methG0 (dd := dd) pa hgd tk ht, meth_core h sa fun c ρ S σ H Q C h => (show WantA (gs X) c ρ σ H Q [] S from h) c [] H .refl C rfl⟩

/-! ### new instances -/
theorem guards_make {A0 : Around} {C : Addr} {us : List Value} {kw : List (Str × Value)} (h : A0.guards = some []) : (A0.under (.builtin "type.__call__" ⟨.ref C :: us, kw⟩)).guards = some [] := by
  unfold Around.under
  simp only [h]
  rfl
theorem run_makeG {E : XK} {pins : List (Addr × Obj)} {σ : L2.St} {H : Hp} {s : Shared} {Q : VK} {us : List Value} {vs : List V} (M : Mk X.K A f) (F : FnG X.prog X.w X.K X.mg X.base k f fd ps den) (hr : Room (k + 1) X.A) (hgd : X.A.guards = some []) (hb : L2.Binds X.K fd ps ds) (hd : Vals dvs ds)
    (hx : PassesAt (L2.CX X.prog X.w) X σ E) (I : Inv X pins σ H s) (r : Vals vs us)
    (h : ∀ x dx, H x = none → H dx = none → dx ≠ x → spG (gs X) den (.ref x :: (vs ++ dvs)) (upd (upd H dx (.own x)) x (.ins A dx [])) (fun v H2 => v = .non ∧ Q (.ref x) H2) E) :
    wpAny (model X.prog X.w) X.A (call (.ref A) us) (EP X pins σ Q) X.xe s := by
  have f1 : H s.heap.objs.size = none := I.hok.fresh (Nat.le_refl _)
  have f2 : H (s.heap.objs.size + 1) = none := I.hok.fresh (Nat.le_succ _)
  obtain ⟨c, S, ds', C, h0, rd, hp⟩ := h _ _ f2 f1 (Nat.ne_of_lt (Nat.lt_succ_self _))
  have I2 := Inv.made (C := A) I
  have r2 : Vals (V.ref (s.heap.objs.size + 1) :: (vs ++ dvs)) (Value.ref (s.heap.objs.size + 1) :: (us ++ ds)) := .cons rfl (r.append hd)
  have hl : (Value.ref (s.heap.objs.size + 1) :: us ++ ds).length = ps.length := by
    have e1 := F.length hp
    have e2 := rd.length
    have e3 := r2.length
    have e4 : (Value.ref (s.heap.objs.size + 1) :: us ++ ds).length = (Value.ref (s.heap.objs.size + 1) :: (us ++ ds)).length := rfl
    omega
  have ran := F.run _ X.stack _ _ ⟨Value.ref (s.heap.objs.size + 1) :: us, []⟩ (Value.ref (s.heap.objs.size + 1) :: (us ++ ds)) _ _ E c S ds' (hr.make A us []) (guards_make hgd) (I2.env0.make A us []) (hb _ (Value.ref (s.heap.objs.size + 1) :: us) I2.kIn hl) r2 C h0 rd hp
  refine wpAny_call (make_map (f := f) I.kIn M.makes M.init (beq_iff_eq.mp M.fn) (codeAny_mono ran fun res s' q => ?_))
  match res, q with
  | .error e, q => exact hx pins _ _ e s' I2 q
  | .ok (.ret u), q =>
    obtain ⟨v, H', I3, rv, rfl, q3⟩ := I2.after q
    exact ⟨rv, V.ref (s.heap.objs.size + 1), H', I3, rfl, q3⟩
  | .ok .next, q => exact q.elim
  | .ok .brk, q => exact q.elim
  | .ok .cont, q => exact q.elim
def tMakeG (G : Gs) (A : Addr) (den : Fn) (dvs : List V) (Wx : WX) (t : TA) : TE := fun σ H Q => t σ H fun vs H1 => ∀ x dx, H1 x = none → H1 dx = none → dx ≠ x →
  spG G den (.ref x :: (vs ++ dvs)) (upd (upd H1 dx (.own x)) x (.ins A dx [])) (fun v H2 => v = .non ∧ Q (.ref x) H2) (WE Wx σ)
theorem pe_makeG {t : TA} (M : Mk X.K A f) (F : FnG X.prog X.w X.K X.mg X.base k f fd ps den) (hr : Room (k + 1) X.A) (hgd : X.A.guards = some []) (tk : Takes X Wx) (hg : Gl X x) (hm : X.mg x = some (.ref A)) (hb : L2.Binds X.K fd ps ds) (hd : Vals dvs ds)
    (ha : PA X (e :: es) t) (hdb : (x == ("__debug__" : Str)) = false := by decide) (he : starEach (e :: es) X.env = (false, eval e X.env) :: starEach es X.env := by rfl) (hpl : (backTo pos (starEach es X.env)).any (·.1) = false := by rfl) :
    PE X (.Call (.Name x p) (e :: es) [] pos) (tMakeG (gs X) A den dvs Wx t) := by
  constructor
  intro pins s σ H Q I h
  have args := ha.run pos pins s σ H _ I h
  refine wpAny_Call_Name_kw (ld_glob I hg hm (PySem.W.callWith_K (h₀ := X.base) I.ok.mod.kin M.kp (thn args ?_) he hpl) hdb)
  rintro us s1 ⟨vs, H1, I1, r, q⟩
  exact ⟨I1.kIn, run_makeG M F hr hgd hb hd (passAt tk σ) I1 r q⟩
/-- the new instance taken into the store, then __init__ -/
theorem make_start {c1 : Ct} {S1 : Store} {H1 : Hp} {C : String} {a dx : Addr} (C1 : Cs (gs X) c1 S1 H1) (hm : X.mg C = some (.ref A)) (h1 : H1 a = none) (h2 : H1 dx = none) (ne : dx ≠ a) :
    let H2 := upd (upd H1 dx (.own a)) a (.ins A dx [])
    Grow H1 H2 ∧ H2 a = some (.ins A dx []) ∧ Cs (gs X) (c1.push a) (S1 ++ [.ins C []]) H2 ∧ Rep (gs X) (c1.push a) H2 (.loc S1.length) (.ref a) := by
  intro H2
  have g1 : Grow H1 (upd H1 dx (.own a)) := .upd h2
  have n1 : upd H1 dx (.own a) a = none := by rw [upd_ne (Ne.symm ne)]; exact h1
  have g : Grow H1 H2 := g1.trans (.upd n1)
  have e : H2 a = some (.ins A dx []) := upd_same
  refine ⟨g, e, C1.push g h1 e trivial ⟨A, dx, [], hm, e, by simp [RepF]⟩, ?_⟩
  simp only [Rep]
  refine ⟨a, ?_, rfl⟩
  rw [List.getElem?_append_right (by rw [C1.len]; exact Nat.le_refl _)]
  simp [C1.len]
theorem ev_make {C : String} (M : Mk X.K A f) (F : FnG X.prog X.w X.K X.mg X.base k f fd ps den) (hr : Room (k + 1) X.A) (hgd : X.A.guards = some []) (tk : Takes X Wx) (hg : Gl X C) (hm : X.mg C = some (.ref A)) (hb : L2.Binds X.K fd ps ds) (hd : Vals dvs ds) (hdd : ∀ c H, Reps (gs X) c H dd dvs)
    (ha : ArOk X Wx (e :: es) Fs) (hdb : ((C : Str) == ("__debug__" : Str)) = false := by decide) (he : starEach (e :: es) X.env = (false, eval e X.env) :: starEach es X.env := by rfl) (hpl : (backTo pos (starEach es X.env)).any (·.1) = false := by rfl) :
    EvOk X Wx (.Call (.Name C p) (e :: es) [] pos) (eMake C den dd Fs) := by
  obtain ⟨t, pt, st⟩ := ha.ex
  refine ⟨_, pe_makeG M F hr hgd tk hg hm hb hd pt hdb he hpl, fun c ρ S σ H Q Cc h => ?_⟩
  refine st c ρ S σ H _ Cc (h.go .refl fun xs S1 h1 c1 vs H1 s1 C1 r1 => ?_)
  obtain ⟨ds', ed, h2⟩ := withD_post h1
  intro a dx na nd ne
  obtain ⟨g, ea, Cp, rp⟩ := make_start (X := X) C1.cs hm na nd ne
  have C1p : Cn (gs X) (c1.push a) ρ (S1 ++ [.ins C []]) σ (upd (upd H1 dx (.own a)) a (.ins A dx [])) := C1.push g na ea trivial ⟨A, dx, [], hm, ea, by simp [RepF]⟩
  have sp : Stp c (c1.push a) H (upd (upd H1 dx (.own a)) a (.ins A dx [])) := s1.trans (.push g na)
  refine ⟨(c1.push a).ent, S1 ++ [.ins C []], .loc S1.length :: (ds' ++ dd), C1p.cs.ent, fun a z => z, Reps.keep C1p.cs.muts .wm0 _ _ (.cons rp (((r1.data ed).append (hdd _ _)).keep C1.cs.muts (.push g na))), ?_⟩
  cases eD : den (.loc S1.length :: (ds' ++ dd)) (S1 ++ [.ins C []]) with
  | ok d S' =>
    rw [eD] at h2
    cases d with
    | non =>
      have h2 : WantE (gs X) c ρ σ H Q (.d (.loc S1.length)) S' := h2
      intro c' v H' s' C' r'
      refine ⟨by simpa [Rep] using r', h2 (c'.wm0 (c1.push a).M0) (.ref a) H' (sp.trans (.after C1p.cs s')) (C1p.after s' C') ?_⟩
      exact Rep.keep C'.muts .wm0 _ _ (Rep.keep C1p.cs.ent.muts s'.kp _ _ (Rep.keep C1p.cs.muts .wm0 _ _ rp))
    | _ => exact h2.elim
  | exc C fs S' =>
    rw [eD] at h2
    exact fun cls d c' H' s' C' e' => h2 cls d (c'.wm0 (c1.push a).M0) H' (sp.trans (.after C1p.cs s')) (C1p.after s' C') (e'.keep C'.muts .wm0)
  | bad => rw [eD] at h2; exact h2.elim
end
end Dn
end OfLayN
section OfLayO
set_option Elab.async false
set_option linter.all false
set_option maxRecDepth 100000
set_option maxHeartbeats 1000000
/-! LayO: the law's end. -/
namespace Dn
open PySem PySem.Spec PyProof.Rows L2
abbrev c0 : Ct := ⟨fun _ => False, fun _ => False, []⟩
theorem cs0 {G : Gs} {H : Hp} : Cs G c0 [] H := ⟨fun _ z => z.elim, fun _ z => z, fun _ z => (nomatch z), List.nodup_nil, rfl, fun n o a h _ => by simp at h⟩
section
variable {P : Program} {w : World} {K : PySem.W.Frag} {mg mb : Str → Option Value} {k : Nat} {fa a : Addr} {fd : FuncData} {x : Str} {s₁ : Shared} {vs : List Value} {ns : List Int} {den : Fn} {Send : Store}
/-- behind the law's call, H the abstract heap ahead of it -/
theorem law_core (H : Hp) (old : ∀ b, H b = none ∨ (b = a ∧ K.lookup a = none ∧ ∃ o xs, H a = some (.frz o (.lst xs)))) (KX : K.In s₁.heap) (hns : s₁.heap.Ns mainGlobals mg) (hb : s₁.heap.Ns builtinsNs mb) (hbb : ∀ x : Str, x ≠ "__name__" → mb x = bootBuiltins x) (hlim : s₁.heap.NoLimit) (hg : s₁.gens = #[])
    (ha : s₁.heap.get? a = some { cls := .type "list", data := .seq vs.toArray }) (hr : Room k callerA) (F : ∀ base : Heap, K.In base → base.Ns mainGlobals mg → FnG P w K mg base k fa fd [x] den) (hbind : ∀ (s : Shared) (u : Value), BindsTo s fd ⟨[u], []⟩ [(x, u)])
    (hok : HOk P w H s₁.heap) (hS : Rep ⟨K, mg⟩ c0 H (.scr ns) (.ref a)) (hden : den [.scr ns] [] = .ok (.bl true) Send) :
    codeAny (model P w) callerA (.call (.ref fa) ⟨[.ref a], []⟩) (fun r s' => r = .ok (.ret (.bool true)) ∧ OldK s₁.heap s'.heap ∧ s'.os = s₁.os ∧ AllBare s'.gens) s₁ := by
  have only : ∀ {b : Addr} {o : Obj}, s₁.heap.get? b = some o → b ≠ a → H b = none := fun {b o} _ ne => (old b).elim id fun z => absurd z.1 ne
  have hid : ∀ {b : Addr} {o : Obj}, s₁.heap.get? b = some o → b ≠ a ∨ H a = none → (hidT s₁.heap H).get? b = some o := fun {b o} e h => by
    rcases h with h | h
    · exact hidT_get e (only e h)
    · by_cases z : b = a
      · exact hidT_get e (z ▸ h)
      · exact hidT_get e (only e z)
  have space : ∀ {b : Addr} {m : Str → Option Value}, s₁.heap.Ns b m → (hidT s₁.heap H).Ns b m := fun {b m} q => by
    obtain ⟨o, es, ep, e, d, r⟩ := q
    refine ⟨o, es, ep, hid e (.inl ?_), d, r⟩
    rintro rfl
    rw [ha] at e
    cases e
    cases d
  have inB : K.In (hidT s₁.heap H) := fun b o e => hid (KX b o e) (by
    rcases old a with z | ⟨_, z, _⟩
    · exact .inr z
    · refine .inl ?_
      rintro rfl
      rw [z] at e
      cases e)
  have nolim : (hidT s₁.heap H).NoLimit := by
    obtain ⟨mc, h1, h2⟩ := hlim
    exact ⟨mc, space h1, h2⟩
  have e0 : Env0 P w K mg (hidT s₁.heap H) callerA [] s₁ H := {
    frames := rfl
    mod := ⟨inB, space hns, ⟨mb, space hb, hbb⟩, nolim⟩
    bs := fun b o e => of_hidT e
    bsz := Nat.le_of_eq (hidT_size _ _)
    funs := trivial
    frf := fun b z => (nomatch z)
    hok := hok
    bare := .of_eq hg }
  have want : PostF ⟨K, mg⟩ c0 H (fun v _ => v = .bl true) (fun _ _ _ => False) (den [.scr ns] []) := by
    rw [hden]
    exact fun c' v H' _ _ r => by simpa [Rep] using r
  refine codeAny_mono ((F _ inB (space hns)).run callerA [] s₁ H ⟨[.ref a], []⟩ [.ref a] [.ref a] _ _ c0 [] [.scr ns] hr rfl e0 (hbind s₁ (.ref a)) (.cons rfl .nil) cs0 (fun _ z => z) (.one hS) want) fun r s' h => ?_
  match r, h with
  | .error e, ⟨_, _, _, _, _, _, _, _, _, _, _, _, z⟩ => exact z.elim
  | .ok .next, h => exact h.elim
  | .ok .brk, h => exact h.elim
  | .ok .cont, h => exact h.elim
  | .ok (.ret u), ⟨v, H', os, bare, un, hok', rv, q⟩ =>
    have q : v = .bl true := q
    subst q
    obtain rfl : u = Value.bool true := rv
    refine ⟨rfl, OldK.of_keep fun b o e => ?_, os, bare⟩
    rcases old b with z | ⟨rfl, _, ob, xs, z⟩
    · exact un.keep b o e z (fun q => (nomatch q)) (fun q => (nomatch q))
    · obtain ⟨e1, _⟩ := hok b _ z
      obtain ⟨e2, _⟩ := hok' b _ (un.frzs b ob _ z)
      rw [e1] at e
      cases e
      exact e2
theorem law_callG (KX : K.In s₁.heap) (hns : s₁.heap.Ns mainGlobals mg) (hb : s₁.heap.Ns builtinsNs mb) (hbb : ∀ x : Str, x ≠ "__name__" → mb x = bootBuiltins x) (hlim : s₁.heap.NoLimit) (hg : s₁.gens = #[])
    (ha : s₁.heap.get? a = some { cls := .type "list", data := .seq vs.toArray }) (hi : IntsAre vs ns) (hl : ns.length ≤ sizeLine) (hr : Room k callerA) (F : ∀ base : Heap, K.In base → base.Ns mainGlobals mg → FnG P w K mg base k fa fd [x] den) (hbind : ∀ (s : Shared) (u : Value), BindsTo s fd ⟨[u], []⟩ [(x, u)])
    (hden : den [.scr ns] [] = .ok (.bl true) Send) :
    codeAny (model P w) callerA (.call (.ref fa) ⟨[.ref a], []⟩) (fun r s' => r = .ok (.ret (.bool true)) ∧ OldK s₁.heap s'.heap ∧ s'.os = s₁.os ∧ AllBare s'.gens) s₁ := by
  have rv := vals_ints hi
  have size : vs.length ≤ sizeLine := by rw [hi.length]; exact hl
  cases hk : K.lookup a with
  | some o =>
    have e := KX a o hk
    rw [ha] at e
    cases e
    refine law_core (fun _ => none) (fun _ => .inl rfl) KX hns hb hbb hlim hg ha hr F hbind (fun b u z => by cases (show (none : Option HO) = some u from z)) ?_ hden
    simp only [Rep]
    exact ⟨a, rfl, .inr (.inr ⟨_, vs.toArray, _, hk, rfl, rfl, rfl, by simpa using size, by simpa using rv⟩)⟩
  | none =>
    let H : Hp := fun b => if b = a then some (.frz { cls := .type "list", data := .seq vs.toArray } (.lst (ns.map V.int))) else none
    have hH : H a = some (.frz { cls := .type "list", data := .seq vs.toArray } (.lst (ns.map V.int))) := if_pos rfl
    refine law_core H (fun b => ?_) KX hns hb hbb hlim hg ha hr F hbind (fun b u z => ?_) ?_ hden
    · by_cases e : b = a
      · exact .inr ⟨e, hk, _, _, hH⟩
      · exact .inl (if_neg e)
    · by_cases e : b = a
      · subst e
        rw [hH] at z
        cases z
        exact ⟨ha, by rw [List.length_map]; exact hl, vs, _, rv, ha⟩
      · rw [show H b = none from if_neg e] at z
        cases z
    · simp only [Rep]
      exact ⟨a, rfl, .inl ⟨id, .inr ⟨_, hH⟩⟩⟩
end
/-- the end of a law's head: F gives the written part, the law's function, its promise -/
theorem walk_G {l : PySem.W.OpenLaw} {n k : Nat} {q : Program} {loose : List Str} {XP : (Str → Option Value) → Heap → Prop} {YP : World → Heap → Prop} {d : DefRec} {x : Str} {den : Fn}
    (hn : l.most = some n) (hn2 : n ≤ sizeLine) (hdf : d.params.defaults = []) (hr : Room k callerA)
    (F : ∀ (w : World) (mg : Str → Option Value) (fa : Addr) (h : Heap), YP w h → h.Ns mainGlobals mg → mg d.name = some (.ref fa) →
      ∃ (K : PySem.W.Frag) (fd : FuncData), K.In h ∧ (∀ (s : Shared) (u : Value), BindsTo s fd ⟨[u], []⟩ [(x, u)]) ∧ ∀ base : Heap, K.In base → base.Ns mainGlobals mg → FnG l.prog w K mg base k fa fd [x] den)
    (law : ∀ ns : List Int, ns.length ≤ n → (∀ z ∈ ns, Builtin.Int.intBits z ≤ 1048576) → ∃ S, den [.scr ns] [] = .ok (.bl true) S) :
    PySem.W.WalkO q loose XP YP l.row.toRowW d [] (fun f vs => PySem.call f vs) := by
  refine Att.attach_callB hn hdf ?_
  intro w s₀ s₁ mg mb fa o pm cd doc a vs ns G Y ho hd hcd hmg hobj hints hlen hbits hg
  obtain ⟨K, fd, KX, hb, hF⟩ := F w mg fa _ Y G.T.g hmg
  obtain ⟨S, hS⟩ := law ns hlen hbits
  exact law_callG KX G.T.g G.T.b G.T.builtins G.T.nolimit hg hobj hints (Nat.le_trans hlen hn2) hr hF hb hS
end Dn
end OfLayO
section OfLayP
set_option Elab.async false
set_option linter.all false
set_option maxRecDepth 100000
set_option maxHeartbeats 1000000
/-! LayP: objects just made, let go as data. -/
namespace Dn
open PySem PySem.Spec PyProof.Rows L2
section
variable {G : Gs} {c c' : Ct} {H H' : Hp}
mutual
/-- what stands knows places of the store alone -/
theorem Rep.und : ∀ (d : D) (v : V), Rep G c H d v → d.und c.β.length = true
  | .non, v, _ => rfl
  | .bl b, v, _ => rfl
  | .int i, v, _ => rfl
  | .str x, v, _ => rfl
  | .scr xs, v, _ => rfl
  | .tup ds, v, h => by
    simp only [Rep] at h
    obtain ⟨a, vs, _, _, r⟩ := h
    simpa [D.und] using Reps.und ds vs r
  | .lst ds, v, h => by
    simp only [Rep] at h
    obtain ⟨a, vs, _, _, _, r⟩ := h
    simpa [D.und] using Reps.und ds vs r
  | .dct kvs, v, h => by
    simp only [Rep] at h
    obtain ⟨a, vs, _, _, _, r⟩ := h
    simpa [D.und] using RepK.und kvs vs r
  | .loc n, v, h => by
    simp only [Rep] at h
    obtain ⟨a, e, _⟩ := h
    simpa [D.und] using (List.getElem?_eq_some_iff.mp e).1
  | .obj C fs, v, h => by
    simp only [Rep] at h
    obtain ⟨a, A, dx, vs, _, _, _, _, r⟩ := h
    simpa [D.und] using RepF.und fs vs r
  | .exv C fs, v, h => by
    simp only [Rep] at h
    obtain ⟨a, A, vs, _, _, _, r, _⟩ := h
    simpa [D.und] using RepF.und fs vs r
theorem Reps.und : ∀ (ds : List D) (vs : List V), Reps G c H ds vs → D.undAll c.β.length ds = true
  | [], _, _ => rfl
  | d :: ds, vs, h => by
    simp only [Reps] at h
    obtain ⟨v, r, _, q, t⟩ := h
    simp only [D.undAll, Bool.and_eq_true]
    exact ⟨Rep.und d v q, Reps.und ds r t⟩
theorem RepK.und : ∀ (ds : List (Key × D)) (vs : List (Key × V)), RepK G c H ds vs → D.undK c.β.length ds = true
  | [], _, _ => rfl
  | (k, d) :: ds, vs, h => by
    simp only [RepK] at h
    obtain ⟨v, r, _, q, t⟩ := h
    simp only [D.undK, Bool.and_eq_true]
    exact ⟨Rep.und d v q, RepK.und ds r t⟩
theorem RepF.und : ∀ (ds : List (Str × D)) (vs : List (Str × V)), RepF G c H ds vs → D.undF c.β.length ds = true
  | [], _, _ => rfl
  | (k, d) :: ds, vs, h => by
    simp only [RepF] at h
    obtain ⟨v, r, _, q, t⟩ := h
    simp only [D.undF, Bool.and_eq_true]
    exact ⟨Rep.und d v q, RepF.und ds r t⟩
end
/-- fewer objects in the store, fewer that may be changed -/
structure Low (n : Nat) (c c' : Ct) : Prop where
  m : ∀ a, c'.M a → c.M a
  b : ∀ k a, k < n → c.β[k]? = some a → c'.β[k]? = some a
mutual
theorem Rep.low {n : Nat} (l : Low n c c') : ∀ (d : D) (v : V), d.und n = true → Rep G c H d v → Rep G c' H d v
  | .non, v, _, h => by simpa [Rep] using h
  | .bl b, v, _, h => by simpa [Rep] using h
  | .int i, v, _, h => by simpa [Rep] using h
  | .str x, v, _, h => by simpa [Rep] using h
  | .scr xs, v, _, h => by
    simp only [Rep] at h ⊢
    obtain ⟨a, e, q⟩ := h
    refine ⟨a, e, q.imp (fun z => ⟨fun y => z.1 (l.m a y), z.2⟩) id⟩
  | .tup ds, v, u, h => by
    simp only [Rep] at h ⊢
    obtain ⟨a, vs, e, q, r⟩ := h
    exact ⟨a, vs, e, q, Reps.low l ds vs (by simpa [D.und] using u) r⟩
  | .lst ds, v, u, h => by
    simp only [Rep] at h ⊢
    obtain ⟨a, vs, e, q1, q2, r⟩ := h
    exact ⟨a, vs, e, fun y => q1 (l.m a y), q2, Reps.low l ds vs (by simpa [D.und] using u) r⟩
  | .dct kvs, v, u, h => by
    simp only [Rep] at h ⊢
    obtain ⟨a, vs, e, q1, q2, r⟩ := h
    exact ⟨a, vs, e, fun y => q1 (l.m a y), q2, RepK.low l kvs vs (by simpa [D.und] using u) r⟩
  | .loc k, v, u, h => by
    simp only [Rep] at h ⊢
    obtain ⟨a, e, q⟩ := h
    exact ⟨a, l.b k a (by simpa [D.und] using u) e, q⟩
  | .obj C fs, v, u, h => by
    simp only [Rep] at h ⊢
    obtain ⟨a, A, dx, vs, e, q1, q2, q3, r⟩ := h
    exact ⟨a, A, dx, vs, e, fun y => q1 (l.m a y), q2, q3, RepF.low l fs vs (by simpa [D.und] using u) r⟩
  | .exv C fs, v, u, h => by
    simp only [Rep] at h ⊢
    obtain ⟨a, A, vs, e, q1, q2, r, z⟩ := h
    exact ⟨a, A, vs, e, fun y => q1 (l.m a y), q2, RepF.low l fs vs (by simpa [D.und] using u) r, z.imp id fun ⟨dx, z1, z2, z3⟩ => ⟨dx, z1, fun y => z2 (l.m dx y), z3⟩⟩
theorem Reps.low {n : Nat} (l : Low n c c') : ∀ (ds : List D) (vs : List V), D.undAll n ds = true → Reps G c H ds vs → Reps G c' H ds vs
  | [], vs, _, h => by simpa [Reps] using h
  | d :: ds, vs, u, h => by
    simp only [Reps] at h ⊢
    simp only [D.undAll, Bool.and_eq_true] at u
    obtain ⟨v, r, e, q, t⟩ := h
    exact ⟨v, r, e, Rep.low l d v u.1 q, Reps.low l ds r u.2 t⟩
theorem RepK.low {n : Nat} (l : Low n c c') : ∀ (ds : List (Key × D)) (vs : List (Key × V)), D.undK n ds = true → RepK G c H ds vs → RepK G c' H ds vs
  | [], vs, _, h => by simpa [RepK] using h
  | (x, d) :: ds, vs, u, h => by
    simp only [RepK] at h ⊢
    simp only [D.undK, Bool.and_eq_true] at u
    obtain ⟨v, r, e, q, t⟩ := h
    exact ⟨v, r, e, Rep.low l d v u.1 q, RepK.low l ds r u.2 t⟩
theorem RepF.low {n : Nat} (l : Low n c c') : ∀ (ds : List (Str × D)) (vs : List (Str × V)), D.undF n ds = true → RepF G c H ds vs → RepF G c' H ds vs
  | [], vs, _, h => by simpa [RepF] using h
  | (x, d) :: ds, vs, u, h => by
    simp only [RepF] at h ⊢
    simp only [D.undF, Bool.and_eq_true] at u
    obtain ⟨v, r, e, q, t⟩ := h
    exact ⟨v, r, e, Rep.low l d v u.1 q, RepF.low l ds r u.2 t⟩
end
def SO.und (n : Nat) : SO → Prop
  | .lst ds => D.undAll n ds = true
  | .dct kvs => D.undK n kvs = true
  | .dtt kvs => D.undAll n (kvs.map (·.2)) = true
  | .ins _ fs => D.undF n fs = true
  | .exn _ none => True
  | .exn _ (some m) => m < n
  | .xdt fs => D.undF n fs = true
  | .dead => True
theorem SoR.und {o : SO} {a : Addr} (h : SoR G c H o a) : o.und c.β.length := by
  cases o with
  | lst ds => obtain ⟨vs, _, r⟩ := h; exact Reps.und _ _ r
  | dct kvs => obtain ⟨vs, _, r⟩ := h; exact RepK.und _ _ r
  | dtt kvs => obtain ⟨vs, _, _, r⟩ := h; exact Reps.und _ _ r
  | ins C fs => obtain ⟨A, dx, vs, _, _, r⟩ := h; exact RepF.und _ _ r
  | exn C d =>
    cases d with
    | none => trivial
    | some m => obtain ⟨A, dx, _, _, e⟩ := h; exact (List.getElem?_eq_some_iff.mp e).1
  | xdt fs => obtain ⟨vs, _, r⟩ := h; exact RepF.und _ _ r
  | dead => trivial
theorem SoR.low {n : Nat} (l : Low n c c') {o : SO} {a : Addr} (u : o.und n) (h : SoR G c H o a) : SoR G c' H o a := by
  cases o with
  | lst ds => obtain ⟨vs, q, r⟩ := h; exact ⟨vs, q, Reps.low l _ _ u r⟩
  | dct kvs => obtain ⟨vs, q, r⟩ := h; exact ⟨vs, q, RepK.low l _ _ u r⟩
  | dtt kvs => obtain ⟨vs, q, q2, r⟩ := h; exact ⟨vs, q, q2, Reps.low l _ _ u r⟩
  | ins C fs => obtain ⟨A, dx, vs, q1, q2, r⟩ := h; exact ⟨A, dx, vs, q1, q2, RepF.low l _ _ u r⟩
  | exn C d =>
    cases d with
    | none => exact h
    | some m => obtain ⟨A, dx, q1, q2, e⟩ := h; exact ⟨A, dx, q1, q2, l.b m dx u e⟩
  | xdt fs => obtain ⟨vs, q, r⟩ := h; exact ⟨vs, q, RepF.low l _ _ u r⟩
  | dead => trivial
/-- the last objects of the store are let go -/
abbrev Ct.cut (c' : Ct) (β : List Addr) : Ct := { c' with M := fun a => c'.M a ∧ a ∉ c'.β.drop β.length, β := β }
theorem pre_take (k : ∀ (n : Nat) (a : Addr), c.β[n]? = some a → c'.β[n]? = some a) : c'.β.take c.β.length = c.β := by
  apply List.ext_getElem?
  intro i
  by_cases h : i < c.β.length
  · rw [List.getElem?_take_of_lt h, List.getElem?_eq_getElem h]
    exact k i _ (List.getElem?_eq_getElem h)
  · rw [List.getElem?_eq_none (by simp; omega), List.getElem?_eq_none (by omega)]
theorem Cn.cut {ρ : Dn.Env} {S rest : Store} {σ : L2.St} (C : Cn G c ρ S σ H) (s : Stp c c' H H') (C' : Cn G c' ρ (S ++ rest) σ H') :
    Cn G (c'.cut c.β) ρ S σ H' ∧ Stp c (c'.cut c.β) H H' ∧ Low c.β.length c' (c'.cut c.β) ∧ ∀ k a, c.β.length ≤ k → c'.β[k]? = some a → ¬ (c'.cut c.β).M a := by
  have tk := pre_take s.kp.pre
  have split : c'.β = c.β ++ c'.β.drop c.β.length := by
    rw [← List.take_append_drop c.β.length c'.β, tk]
    simp
  have nd := C'.cs.nd
  rw [split, List.nodup_append] at nd
  have out : ∀ a, a ∈ c.β → a ∉ c'.β.drop c.β.length := fun a h1 h2 => nd.2.2 a h1 a h2 rfl
  have memb : ∀ a, a ∈ c'.β.drop c.β.length → a ∈ c'.β := fun a h => List.mem_of_mem_drop h
  have l : Low c.β.length c' (c'.cut c.β) := ⟨fun a z => z.1, fun k a hk e => by
    have := List.getElem?_take_of_lt (l := c'.β) hk
    rw [tk] at this
    rw [this]
    exact e⟩
  have m0 : ∀ a, c.M0 a → a ∉ c'.β.drop c.β.length := fun a h z => by
    rcases s.newb a (memb a z) with q | q
    · exact out a q z
    · obtain ⟨o, e, _⟩ := C.cs.muts a (C.cs.m0 a h)
      rw [q] at e; cases e
  have kp : Kp c (c'.cut c.β) H H' := ⟨s.kp.keep, fun a z n => s.kp.new a z.1 n, fun n a e => e, s.kp.there⟩
  have len := C.cs.len
  refine ⟨⟨⟨fun a z => C'.cs.muts a z.1, fun a z => ⟨C'.cs.m0 a z, m0 a (by rw [← s.z]; exact z)⟩, fun a z => ⟨C'.cs.bm a (by rw [split]; exact List.mem_append_left _ z), out a z⟩, C.cs.nd, C.cs.len, fun n o a h1 h2 => ?_⟩, C.slen, fun i d q => ?_, fun i o q => ?_, C.sep⟩,
    ⟨kp, s.prot, fun a z => .inl z, s.z⟩, l, fun k a hk e z => z.2 ?_⟩
  · have hn : n < c.β.length := (List.getElem?_eq_some_iff.mp h2).1
    have h1' : (S ++ rest)[n]? = some o := by rw [List.getElem?_append_left (by rw [len]; exact hn)]; exact h1
    have h2' : c'.β[n]? = some a := s.kp.pre n a h2
    exact SoR.low l (C.cs.sto n o a h1 h2).und (C'.cs.sto n o a h1' h2')
  · obtain ⟨v, e, r⟩ := C.val i d q
    exact ⟨v, e, r.keep C.cs.muts kp⟩
  · obtain ⟨p, e, m, m0', nb, r⟩ := C'.own i o q
    obtain ⟨p2, e2, m2, _, _, r2⟩ := C.own i o q
    have ep : p = p2 := by rw [e] at e2; exact V.ref.inj (Option.some.inj (Option.some.inj e2))
    subst ep
    exact ⟨p, e, ⟨m, fun z => nb (memb p z)⟩, m0', fun z => nb (by rw [split]; exact List.mem_append_left _ z), SoR.low l r2.und r⟩
  · have : k - c.β.length < (c'.β.drop c.β.length).length := by
      have := (List.getElem?_eq_some_iff.mp e).1
      simp; omega
    refine List.mem_of_getElem? (i := k - c.β.length) ?_
    rw [List.getElem?_drop]
    rw [show c.β.length + (k - c.β.length) = k by omega]
    exact e
end
end Dn
end OfLayP
section OfLayQ
set_option Elab.async false
set_option linter.all false
set_option maxRecDepth 100000
set_option maxHeartbeats 1000000
/-! LayQ: frozen instances, exceptions as values. -/
namespace Dn
open PySem PySem.Spec PyProof.Rows L2
section
variable {X : Cx} {Wx : WX} {k : Nat} {f A : Addr} {fd : FuncData} {ps : List Str} {den : Fn} {dvs : List V} {dd : List D} {ds : List Value} {x m : Str} {p pos apos : Pos} {e o : Expr} {es : List Expr} {Fs : AX} {Fo Fe : EX} {E : XK} {pins : List (Addr × Obj)} {σ : L2.St} {H : Hp} {s : Shared} {Q : VK} {us : List Value} {vs : List V}
/-! ### C(..), C an exception class with an own __init__ -/
theorem run_excG (T : OexC X.K A) (iC : PySem.W.findIn X.K (.ref A) "__init__" = some (some (.ref f))) (tI : PySem.W.typeIn X.K (.ref f) = some (.type "function")) (hF : FnG X.prog X.w X.K X.mg X.base k f fd ps den) (hr : Room (k + 1) X.A) (hgd : X.A.guards = some []) (hb : L2.Binds X.K fd ps ds) (hd : Vals dvs ds)
    (hx : PassesAt (L2.CX X.prog X.w) X σ E) (I : Inv X pins σ H s) (r : Vals vs us) (hlen : vs.length ≤ 1000) (h : ∀ a, H a = none → spG (gs X) den (.ref a :: (vs ++ dvs)) (upd H a (exo a A none)) (fun v H2 => v = .non ∧ Q (.ref a) H2) E) :
    wpAny (model X.prog X.w) X.A (call (.ref A) us) (EP X pins σ Q) X.xe s := by
  obtain ⟨nm, q, N, bs, bm, sn, sub, ab, col, dd', k0, k1, k2, k3, k5, hC, hbm⟩ := T.cls
  obtain ⟨hp, g, dr, tk, os⟩ := s
  have n1 : H (hp.objs.size + 1) = none := I.hok.fresh (Nat.le_succ _)
  obtain ⟨c, S, ds', C, h0, rd, hq⟩ := h _ n1
  have grown : ∀ b o, hp.get? b = some o → ((hp.push (PySem.W.kdv_tup us)).push (PySem.HandSPX.excO A hp.objs.size)).get? b = some o := fun b o e => Heap.get?_push_of_some _ (Heap.get?_push_of_some _ e)
  have I2 : Inv X pins σ (upd H (hp.objs.size + 1) (exo (hp.objs.size + 1) A none)) ⟨(hp.push (PySem.W.kdv_tup us)).push (PySem.HandSPX.excO A hp.objs.size), g, dr, tk, os⟩ :=
    I.laid (t' := tk) grown (Nat.le_succ _) (exo_ok (by heap_get))
  have r2 : Vals (V.ref (hp.objs.size + 1) :: (vs ++ dvs)) (Value.ref (hp.objs.size + 1) :: (us ++ ds)) := .cons rfl (r.append hd)
  have hl : (Value.ref (hp.objs.size + 1) :: us ++ ds).length = ps.length := by
    have e1 := hF.length hq
    have e2 := rd.length
    have e3 := r2.length
    have e4 : (Value.ref (hp.objs.size + 1) :: us ++ ds).length = (Value.ref (hp.objs.size + 1) :: (us ++ ds)).length := rfl
    omega
  have hus : us.length ≤ sizeLine := by
    have e := Paired.length r
    rw [sizeLine_eq]
    omega
  have ran := hF.run _ X.stack _ _ ⟨Value.ref (hp.objs.size + 1) :: us, []⟩ (Value.ref (hp.objs.size + 1) :: (us ++ ds)) _ _ E c S ds' (hr.make A us []) (guards_make hgd) (I2.env0.make A us []) (hb _ (Value.ref (hp.objs.size + 1) :: us) I2.kIn hl) r2 C h0 rd hq
  refine wpAny_call (PySem.HandSPX.call_own PySem.F.excBase_ValueError (fun Y => PySem.HandSPX.refsVE_contains Y bm hbm) (I.kIn _ _ hC) (PySem.W.looks_findIn I.kIn iC) (fun self => PySem.W.bind_fn I.kIn self tI) hus (codeAny_mono ran fun res s' q => ?_))
  match res, q with
  | .error e, q => exact hx pins _ _ e s' I2 q
  | .ok (.ret u), q =>
    obtain ⟨v, H', I3, rv, rfl, q3⟩ := I2.after q
    exact ⟨rv, V.ref (hp.objs.size + 1), H', I3, rfl, q3⟩
  | .ok .next, q => exact q.elim
  | .ok .brk, q => exact q.elim
  | .ok .cont, q => exact q.elim
def tExcG (G : Gs) (A : Addr) (den : Fn) (dvs : List V) (Wx : WX) (t : TA) : TE := fun σ H Q => t σ H fun vs H1 => vs.length ≤ 1000 ∧ ∀ a, H1 a = none → spG G den (.ref a :: (vs ++ dvs)) (upd H1 a (exo a A none)) (fun v H2 => v = .non ∧ Q (.ref a) H2) (WE Wx σ)
theorem pe_excG {t : TA} (T : OexC X.K A) (iC : PySem.W.findIn X.K (.ref A) "__init__" = some (some (.ref f))) (tI : PySem.W.typeIn X.K (.ref f) = some (.type "function")) (hF : FnG X.prog X.w X.K X.mg X.base k f fd ps den) (hr : Room (k + 1) X.A) (hgd : X.A.guards = some []) (tk : Takes X Wx) (hg : Gl X x) (hm : X.mg x = some (.ref A)) (hb : L2.Binds X.K fd ps ds) (hd : Vals dvs ds)
    (ha : PA X (e :: es) t) (hdb : (x == ("__debug__" : Str)) = false := by decide) (he : starEach (e :: es) X.env = (false, eval e X.env) :: starEach es X.env := by rfl) (hpl : (backTo pos (starEach es X.env)).any (·.1) = false := by rfl) :
    PE X (.Call (.Name x p) (e :: es) [] pos) (tExcG (gs X) A den dvs Wx t) := by
  constructor
  intro pins s σ H Q I h
  have args := ha.run pos pins s σ H _ I h
  refine wpAny_Call_Name_kw (ld_glob I hg hm (PySem.W.callWith_K (h₀ := X.base) I.ok.mod.kin T.kC (thn args ?_) he hpl) hdb)
  rintro us s1 ⟨vs, H1, I1, r, hl, q⟩
  exact ⟨I1.kIn, run_excG T iC tI hF hr hgd hb hd (passAt tk σ) I1 r hl q⟩
theorem reps_length {c : Ct} {ds' : List D} {vs' : List V} (r : Reps (gs X) c H ds' vs') (h : ds'.length ≤ 1000) : vs'.length ≤ 1000 := by rw [← r.length]; exact h
theorem ev_exc {C : String} (T : OexC X.K A) (iC : PySem.W.findIn X.K (.ref A) "__init__" = some (some (.ref f))) (tI : PySem.W.typeIn X.K (.ref f) = some (.type "function")) (hF : FnG X.prog X.w X.K X.mg X.base k f fd ps den) (hr : Room (k + 1) X.A) (hgd : X.A.guards = some []) (tk : Takes X Wx) (hg : Gl X C) (hm : X.mg C = some (.ref A)) (hb : L2.Binds X.K fd ps ds) (hd : Vals dvs ds) (hdd : ∀ c H, Reps (gs X) c H dd dvs)
    (ha : ArOk X Wx (e :: es) Fs) (hdb : ((C : Str) == ("__debug__" : Str)) = false := by decide) (he : starEach (e :: es) X.env = (false, eval e X.env) :: starEach es X.env := by rfl) (hpl : (backTo pos (starEach es X.env)).any (·.1) = false := by rfl) :
    EvOk X Wx (.Call (.Name C p) (e :: es) [] pos) (eExc C den dd Fs) := by
  obtain ⟨t, pt, st⟩ := ha.ex
  refine ⟨_, pe_excG T iC tI hF hr hgd tk hg hm hb hd pt hdb he hpl, fun c ρ S σ H Q Cc h => ?_⟩
  refine st c ρ S σ H _ Cc (h.go .refl fun xs S1 h1 c1 vs H1 s1 C1 r1 => ?_)
  obtain ⟨ds', ed, h2⟩ := withD_post h1
  obtain ⟨hlen, h2⟩ := ifok_post h2
  refine ⟨reps_length (r1.data ed) hlen, fun a na => ?_⟩
  have g : Grow H1 (upd H1 a (exo a A none)) := .upd na
  have rnew : SoR (gs X) (c1.push a) (upd H1 a (exo a A none)) (.exn C none) a := ⟨A, hm, upd_same⟩
  have C1p : Cn (gs X) (c1.push a) ρ (S1 ++ [.exn C none]) σ (upd H1 a (exo a A none)) := C1.push g na upd_same trivial rnew
  have sp1 : Stp c1 (c1.push a) H1 (upd H1 a (exo a A none)) := .push g na
  have at_a : (c1.push a).β[S1.length]? = some a := by
    show (c1.β ++ [a])[S1.length]? = some a
    rw [List.getElem?_append_right (by rw [C1.cs.len]; exact Nat.le_refl _)]
    simp [C1.cs.len]
  have rp : Rep (gs X) (c1.push a) (upd H1 a (exo a A none)) (.loc S1.length) (.ref a) := by
    simp only [Rep]
    exact ⟨a, at_a, rfl⟩
  refine ⟨(c1.push a).ent, S1 ++ [.exn C none], .loc S1.length :: (ds' ++ dd), C1p.cs.ent, fun a z => z, Reps.keep C1p.cs.muts .wm0 _ _ (.cons rp (((r1.data ed).append (hdd _ _)).keep C1.cs.muts (.push g na))), ?_⟩
  cases eD : den (.loc S1.length :: (ds' ++ dd)) (S1 ++ [.exn C none]) with
  | bad => rw [eD] at h2; exact h2.elim
  | exc C fs S' =>
    rw [eD] at h2
    exact fun cls d c' H' s' C' e' => h2 cls d (c'.wm0 (c1.push a).M0) H' ((s1.trans sp1).trans (.after C1p.cs s')) (C1p.after s' C') (e'.keep C'.muts .wm0)
  | ok d S' =>
    rw [eD, bind_ok] at h2
    intro c' v H' s' C' r'
    split at h2
    · rename_i fs e1
      split at h2
      case isFalse => exact h2.elim
      rename_i hcond
      obtain ⟨eS, hu⟩ := hcond
      have h3 := h2
      subst eS
      have Cp := C1p.after s' C'
      have sA : Stp c1 (c'.wm0 (c1.push a).M0) H1 H' := sp1.trans (.after C1p.cs s')
      obtain ⟨Cc', sc, low, out⟩ := C1.cut sA Cp
      refine ⟨by simpa [Rep] using r', ?_⟩
      have h3 : WantE (gs X) c ρ σ H Q (.d (.exv C fs)) S1 := h3
      refine h3 _ (.ref a) H' (s1.trans sc) Cc' ?_
      have ea : (c'.wm0 (c1.push a).M0).β[S1.length]? = some a := s'.kp.pre S1.length a at_a
      obtain ⟨A', dx, hA', q1, q2⟩ := Cp.cs.sto S1.length (.exn C (some (S1.length + 1))) a (by simp) ea
      obtain ⟨vs', q3, rf⟩ := Cp.cs.sto (S1.length + 1) (.xdt fs) dx (by simp) q2
      show Rep _ _ _ _ _
      simp only [Rep]
      have len := C1.cs.len
      rw [len] at hu
      exact ⟨a, A', vs', rfl, out _ a (by omega) ea, hA', RepF.low low _ _ hu rf, .inr ⟨dx, q1, out _ dx (by omega) q2, q3⟩⟩
    · exact h2.elim
/-- C(..), C without an own __init__ -/
theorem ev_exc0 {C : String} (q : PySem.W.excIn X.K A He.veBase "ValueError.__new__" = true) (kC : PySem.W.keepIn X.K (.ref A) = true) (hg : Gl X C) (hm : X.mg C = some (.ref A))
    (ha : ArOk X Wx (e :: es) Fs) (hdb : ((C : Str) == ("__debug__" : Str)) = false := by decide) (he : starEach (e :: es) X.env = (false, eval e X.env) :: starEach es X.env := by rfl) (hpl : (backTo pos (starEach es X.env)).any (·.1) = false := by rfl) :
    EvOk X Wx (.Call (.Name C p) (e :: es) [] pos) (eExc0 C Fs) := by
  obtain ⟨t, pt, st⟩ := ha.ex
  have pe : PE X (.Call (.Name C p) (e :: es) [] pos) (fun σ H Q => t σ H fun vs H1 => vs.length ≤ 1000 ∧ ∀ a, H1 a = none → Q (.ref a) (upd H1 a (exo a A none))) := by
    constructor
    intro pins s σ H Q I h
    have args := pt.run pos pins s σ H _ I h
    refine wpAny_Call_Name_kw (ld_glob I hg hm (PySem.W.callWith_K (h₀ := X.base) I.ok.mod.kin kC (thn args ?_) he hpl) hdb)
    rintro us s1 ⟨vs, H1, I1, r, hl, q1⟩
    refine ⟨I1.kIn, ?_⟩
    show wpAny _ _ (call (.ref A) us) _ _ _
    obtain ⟨bm, N, nm, qn, bs, hdct, sn, sub, ab, col, dd, k0, k1, k2, k3, k5, mN, hC, hN, hni, T⟩ := exc_obj I1.kIn q
    have hz : us.length ≤ sizeLine := by
      have e := Paired.length r
      rw [sizeLine_eq]
      omega
    refine wpAny_call_exc_subT PySem.F.excBase_ValueError T hC hN hni (fun h' a hm => ?_) hz
    obtain ⟨t0, ht, _, _⟩ := hm.there
    exact ⟨.ref a, _, I1.laidN hm.keeps hm.new (I1.hok.gone hm.new) (exo_ok ht), rfl, q1 a (I1.hok.gone hm.new)⟩
  refine ⟨_, pe, fun c ρ S σ H Q Cc h => ?_⟩
  refine st c ρ S σ H _ Cc (h.go .refl fun xs S1 h1 c1 vs H1 s1 C1 r1 => ?_)
  obtain ⟨ds', ed, h2⟩ := withD_post h1
  obtain ⟨hlen, h2⟩ := ifok_post h2
  refine ⟨reps_length (r1.data ed) hlen, fun a na => ?_⟩
  have g : Grow H1 (upd H1 a (exo a A none)) := .upd na
  have h2 : WantE (gs X) c ρ σ H Q (.d (.exv C [])) S1 := h2
  refine h2 c1 (.ref a) _ (s1.trans (.grow g)) (C1.grow g) ?_
  show Rep _ _ _ _ _
  simp only [Rep]
  exact ⟨a, A, [], rfl, C1.cs.notM na, hm, by simp [RepF], .inl ⟨rfl, upd_same⟩⟩
/-! ### a frozen instance -/
theorem ev_makeF {C : String} (M : Mk X.K A f) (hF : FnG X.prog X.w X.K X.mg X.base k f fd ps den) (hr : Room (k + 1) X.A) (hgd : X.A.guards = some []) (tk : Takes X Wx) (hg : Gl X C) (hm : X.mg C = some (.ref A)) (hb : L2.Binds X.K fd ps ds) (hd : Vals dvs ds) (hdd : ∀ c H, Reps (gs X) c H dd dvs)
    (ha : ArOk X Wx (e :: es) Fs) (hdb : ((C : Str) == ("__debug__" : Str)) = false := by decide) (he : starEach (e :: es) X.env = (false, eval e X.env) :: starEach es X.env := by rfl) (hpl : (backTo pos (starEach es X.env)).any (·.1) = false := by rfl) :
    EvOk X Wx (.Call (.Name C p) (e :: es) [] pos) (eMakeF C den dd Fs) := by
  obtain ⟨t, pt, st⟩ := ha.ex
  refine ⟨_, pe_makeG M hF hr hgd tk hg hm hb hd pt hdb he hpl, fun c ρ S σ H Q Cc h => ?_⟩
  refine st c ρ S σ H _ Cc (h.go .refl fun xs S1 h1 c1 vs H1 s1 C1 r1 => ?_)
  obtain ⟨ds', ed, h2⟩ := withD_post h1
  intro a dx na nd ne
  obtain ⟨g, ea, _, rp⟩ := make_start (X := X) C1.cs hm na nd ne
  have C1p : Cn (gs X) (c1.push a) ρ (S1 ++ [.ins C []]) σ (upd (upd H1 dx (.own a)) a (.ins A dx [])) := C1.push g na ea trivial ⟨A, dx, [], hm, ea, by simp [RepF]⟩
  have sp1 : Stp c1 (c1.push a) H1 (upd (upd H1 dx (.own a)) a (.ins A dx [])) := .push g na
  have at_a : (c1.push a).β[S1.length]? = some a := by
    show (c1.β ++ [a])[S1.length]? = some a
    rw [List.getElem?_append_right (by rw [C1.cs.len]; exact Nat.le_refl _)]
    simp [C1.cs.len]
  refine ⟨(c1.push a).ent, S1 ++ [.ins C []], .loc S1.length :: (ds' ++ dd), C1p.cs.ent, fun a z => z, Reps.keep C1p.cs.muts .wm0 _ _ (.cons rp (((r1.data ed).append (hdd _ _)).keep C1.cs.muts (.push g na))), ?_⟩
  cases eD : den (.loc S1.length :: (ds' ++ dd)) (S1 ++ [.ins C []]) with
  | bad => rw [eD] at h2; exact h2.elim
  | exc C fs S' =>
    rw [eD] at h2
    exact fun cls d c' H' s' C' e' => h2 cls d (c'.wm0 (c1.push a).M0) H' ((s1.trans sp1).trans (.after C1p.cs s')) (C1p.after s' C') (e'.keep C'.muts .wm0)
  | ok d S' =>
    rw [eD, bind_ok] at h2
    intro c' v H' s' C' r'
    split at h2
    · rename_i fs e1
      split at h2
      case isFalse => exact h2.elim
      rename_i hcond
      obtain ⟨eS, hu⟩ := hcond
      have h3 := h2
      subst eS
      have Cp := C1p.after s' C'
      have sA : Stp c1 (c'.wm0 (c1.push a).M0) H1 H' := sp1.trans (.after C1p.cs s')
      obtain ⟨Cc', sc, low, out⟩ := C1.cut sA Cp
      refine ⟨by simpa [Rep] using r', ?_⟩
      have h3 : WantE (gs X) c ρ σ H Q (.d (.obj C fs)) S1 := h3
      refine h3 _ (.ref a) H' (s1.trans sc) Cc' ?_
      have ea : (c'.wm0 (c1.push a).M0).β[S1.length]? = some a := s'.kp.pre S1.length a at_a
      obtain ⟨A', dx', vs', hA', q1, rf⟩ := Cp.cs.sto S1.length (.ins C fs) a (by simp) ea
      show Rep _ _ _ _ _
      simp only [Rep]
      have len := C1.cs.len
      rw [len] at hu
      exact ⟨a, A', dx', vs', rfl, out _ a (by omega) ea, hA', q1, RepF.low low _ _ hu rf⟩
    · exact h2.elim
end
end Dn
end OfLayQ
section OfLayR
set_option Elab.async false
set_option linter.all false
set_option maxRecDepth 100000
set_option maxHeartbeats 1000000
/-! LayR: an exception's __init__, its fields; isinstance. -/
namespace Dn
open PySem PySem.Spec PyProof.Rows L2
/-! ### the class of an exception, asked for -/
section
open PySem.W PySem.Calls
variable {prog : Program} {w : World} {A : Around} {E : Value → Shared → Prop} {s : Shared} {K : Frag} {x D : Addr} {ox : Obj} {od : Option Obj}
theorem found_class (c : ExcC K D) : findObj K D od "__class__" = some (.bind (.builtin "getset_descriptor.__get__") (.builtin "object.__class__")) := by
  obtain ⟨cd, hc, _⟩ := any_some c.hd
  unfold findObj
  simp [hc, c.ha, c.hn, c.ht]
theorem class_asked {Q : Option Value → Shared → Prop} (c : ExcC K D) (X : K.In s.heap) (I : InstAt s.heap x ox D od) (h : Q (some (.ref D)) { s with toks := s.toks + 1 }) : wpAny (model prog w) A (getAttr? (.ref x) "__class__") Q E s := by
  have found := looks_find (M := model prog w) X I (found_class (od := od) c)
  obtain ⟨hp, g, d, t, os⟩ := s
  have typ := I.type (M := model prog w)
  have lga := looks_findIn (M := model prog w) X c.hg
  have lgt := looks_findIn (M := model prog w) X c.hk
  have isExc : Looks (model prog w) hp (isInstance (.ref x) (.type "BaseException")) true := typ.andThen (looks_subIn X c.hs)
  have notObj : (Value.builtin "BaseException.__getattribute__" == Value.builtin "object.__getattribute__") = false := by decide +kernel
  unfold getAttr? getAttrBy? getAttrBy
  refine wpAny_bind (wpAny_mkText (wpAny_bind (wpAny_attempt (wpAny_holding (wpAny_bind (typ.at (wpAny_bind (lga.at ?_))))))))
  show wpAny _ _ (if (onTheHeap (Value.ref D) && Value.builtin "BaseException.__getattribute__" == Value.builtin "object.__getattribute__") = true then _ else _) _ _ _
  rw [if_neg (by rw [notObj, Bool.and_false]; exact Bool.false_ne_true)]
  unfold getAttrByItsOwn hookBefore
  refine wpAny_bind ?_
  rw [if_pos (show onTheHeap (Value.ref D) = true from rfl)]
  refine lgt.at (wpAny_bind (wpAny_attempt (wpAny_holding ?_)))
  unfold callGetattribute
  rw [if_neg (show ¬ (false && onTheHeap (Value.builtin "BaseException.__getattribute__")) = true from Bool.false_ne_true)]
  unfold boundAndCalled
  rw [PySem.F.excAttr_ValueError.ga.bind (.ref x)]
  refine wpAny_bind (wpAny_pure ?_)
  show wpAny _ _ (call (.builtin "BaseException.__getattribute__") [.ref x, .str "__class__" t]) _ _ _
  refine wpAny_call (codeAny_call_builtin PySem.F.excAttr_ValueError.ga.plain PySem.F.entry_bexc_ga (@check_slot (model prog w) _ _ ⟨hp, g, d, t + 1, os⟩ "BaseException.__getattribute__" "BaseException" "__getattribute__" (.ref x) [.str "__class__" t] [] _ (by decide +kernel) (by decide +kernel) isExc (PySem.F.args_bexc_ga (.ref x) (.str "__class__" t)) ?_))
  unfold Builtin.«object.__getattribute__»
  refine wpAny_bind (wpAny_of_eq (a := ((Value.ref x : Value), [Value.str "__class__" t])) (by first | rfl | (simp only [slotArgs]; rfl)) (wpAny_bind (wpAny_pure (wpAny_bind (typ.at (wpAny_bind (found.at ?_)))))))
  show wpAny _ _ (holding [Value.builtin "object.__class__"] (call (.builtin "getset_descriptor.__get__") [.builtin "object.__class__", .ref x, .ref D]) >>= ret) _ _ _
  refine wpAny_bind (wpAny_holding (wpAny_call (class_get (s := ⟨hp, g, d, t + 1, os⟩) (ox := ox) (od := od) X I c.hm (wpAny_pure ?_))))
  show wpAny _ _ (handedOut (.ref D)) _ _ _
  rw [handedOut_of (v := .ref D) rfl]
  first
    | exact wpAny_pure (wpAny_pure h)
    | exact wpAny_pure h
    | exact wpAny_pure (wpAny_bind (wpAny_pure (wpAny_pure h)))
theorem kit_exc (c : ExcC K D) : KitX K (.ref x) (.ref D) (fun h => ∃ ox od, InstAt h x ox D od) where
  ty := fun _ _ _ ⟨_, _, I⟩ => I.type
  it := fun _ _ X _ => by
    obtain ⟨cd, hc, _⟩ := any_some c.hd
    unfold clsIn at hc
    split at hc
    · rename_i ho
      intro A' Q' E' s' k q
      unfold isType loadHead
      exact wpAny_bind (wpAny_loadPart (k _ _ (X _ _ ho)) (wpAny_pure q))
    · cases hc
  ne := fun h tp dd its n sl X htp => by
    obtain ⟨cd, hc, _⟩ := any_some c.hd
    refine Bool.eq_false_iff.mpr fun q => ?_
    obtain rfl : D = tp := Value.ref.inj (beq_iff_eq.mp q)
    unfold clsIn at hc
    split at hc
    · rename_i ho
      cases (X _ _ ho).symm.trans htp
    · cases hc
  ca := fun X ⟨_, _, I⟩ k => class_asked c X I k
end
section
variable {X : Cx} {Wx : WX} {x : Str} {p p2 pos : Pos} {e o : Expr} {es : List Expr} {Fs : AX} {Fo Fe : EX}
/-- an exception that is tracked stands -/
theorem exo_inst {pins : List (Addr × Obj)} {σ : L2.St} {H : Hp} {s : Shared} {a A : Addr} (I : Inv X pins σ H s) (h : H a = some (exo a A none)) : ∃ ox, PySem.W.InstAt s.heap a ox A none := by
  obtain ⟨t1, e⟩ := exo_at I.hok h
  exact ⟨_, e, rfl, rfl, trivial⟩
theorem exo_instD {pins : List (Addr × Obj)} {σ : L2.St} {H : Hp} {s : Shared} {a A dx : Addr} {fs : List (Str × V)} (I : Inv X pins σ H s) (h : H a = some (exo a A (some dx))) (hd : H dx = some (exd dx fs)) :
    ∃ ox od, ∃ mA : Str → Option Value, PySem.W.InstAt s.heap a ox A (some od) ∧ (∀ name, PySem.W.lookIn name od = some (mA name)) ∧ ∀ f, RelO (fs.lookup f) (mA f) := by
  obtain ⟨t1, e⟩ := exo_at I.hok h
  obtain ⟨mA, hns, rel⟩ := exd_at I.hok hd
  obtain ⟨od, ho, hl⟩ := lookIn_ns hns
  exact ⟨{ cls := .ref A, dict := some dx, data := .fields #[.ref t1, .none, .none, .none, .bool false, .none] }, od, mA, ⟨e, rfl, rfl, ho⟩, hl, rel⟩
/-! ### fields -/
def XFldOk (X : Cx) (cs : List String) (f : Str) : Prop := ∀ C ∈ cs, ∀ A, X.mg C = some (.ref A) → XfC X.K A ∧ PySem.W.findIn X.K (.ref A) f = some none
def tEF (K : PySem.W.Frag) (f : Str) (te : TE) : TE := fun σ H Q => te σ H fun v H1 => ∃ a A dx fs y, v = .ref a ∧ H1 a = some (exo a A (some dx)) ∧ H1 dx = some (exd dx fs) ∧ fs.lookup f = some y ∧ XfC K A ∧ PySem.W.findIn K (.ref A) f = some none ∧ Q y H1
theorem pe_ef {f : Str} {te : TE} (he : PE X e te) (hb : attributeBase e f X.env (eval e X.env) = eval e X.env) : PE X (.Attribute e f pos) (tEF X.K f te) := by
  constructor
  intro pins s σ H Q I h
  have obj := he.run pins s σ H _ I h
  refine attr_of hb (thn obj ?_)
  rintro u s1 ⟨v, H1, I1, rv, a, A, dx, fs, y, rfl, ha, hd, hl, T, hno, q⟩
  obtain rfl : u = Value.ref a := rv
  obtain ⟨ox, od, mA, J, look, rel⟩ := exo_instD I1 ha hd
  obtain ⟨u, hu, ru⟩ := RelO.some_of (v := y) (o := mA f) (by rw [← hl]; exact rel f)
  exact PySem.HandSPX.exc_get I1.kIn J T.ga T.gg T.exC (PySem.W.findObj_own T.hdC hno rfl (by rw [look, hu])) (handed_of ru) ⟨y, H1, I1.tok _, ru, q⟩
theorem ev_xfld {cs : List String} {f : Str} (hf : XFldOk X cs f) (ha : EvOk X Wx e Fe) (hb : attributeBase e f X.env (eval e X.env) = eval e X.env := by rfl) : EvOk X Wx (.Attribute e f pos) (eXFld cs f Fe) := by
  obtain ⟨te, pe, qe⟩ := ha.ex
  refine ⟨_, pe_ef pe hb, fun c ρ S σ H Q C h => ?_⟩
  refine qe c ρ S σ H _ C (h.go .refl fun x S1 h1 c1 v1 H1 s1 C1 r1 => ?_)
  cases x with
  | own j => exact h1.elim
  | d x =>
    obtain ⟨d, ed, h2⟩ := ret1_post h1
    have r1' : Rep (gs X) c1 H1 x v1 := r1
    unfold xfldOf at ed
    split at ed
    · split at ed
      · rename_i hC
        simp only [Rep] at r1'
        obtain ⟨a, A, vs, rfl, hM, hA, rf, z⟩ := r1'
        obtain ⟨y, ey, ry⟩ := repF_get rf ed
        obtain ⟨q1, q2⟩ := hf _ hC A hA
        rcases z with ⟨rfl, _⟩ | ⟨dx, z1, _, z3⟩
        · cases ey
        · exact ⟨a, A, dx, vs, y, rfl, z1, z3, ey, q1, q2, h2 c1 y H1 s1 C1 ry⟩
      · cases ed
    · cases ed
/-! ### in an exception's __init__ -/
/-- the base class at B hands its __init__ out -/
structure BaseInit (K : PySem.W.Frag) (B : Addr) : Prop where
  sp : PySem.W.specialIn K (.ref B) "__getattribute__" = some (some (.builtin "type.__getattribute__"))
  rd : PySem.W.readsIn K B (.type "type") = true
  fd : PySem.W.findCls K (.ref B) (.type "type") "__init__" = some (.val (.builtin "ValueError.__init__"))
def OexOk (X : Cx) (cs : List String) : Prop := ∀ C ∈ cs, ∀ A, X.mg C = some (.ref A) → OexC X.K A
theorem pe_binit {B : Addr} {ta : TA} {pl : Sem Bool} (T : BaseInit X.K B) (hg : Gl X x) (hm : X.mg x = some (.ref B)) (ha : PA X (e :: es) ta)
    (hc : eval (.Call (.Attribute (.Name x p) "__init__" p2) (e :: es) [] pos) X.env = (do
      let ov ← eval (.Name x p) X.env
      standAt p2.atName
      let (f, first) ← holding [ov] (getMethod ov "__init__" pl)
      callWith pos f first (backTo pos (starEach (e :: es) X.env)) (backToKw pos (keywordEach [] X.env))) := by rfl)
    (hdb : (x == ("__debug__" : Str)) = false := by decide) (he : starEach (e :: es) X.env = (false, eval e X.env) :: starEach es X.env := by rfl) (hpl : (backTo pos (starEach es X.env)).any (·.1) = false := by rfl) :
    PE X (.Call (.Attribute (.Name x p) "__init__" p2) (e :: es) [] pos) (tVeI X.K ta) := by
  constructor
  intro pins s σ H Q I h
  refine PySem.W.methodCall_KW (ld_glob I hg hm (PySem.W.method_cls I.kIn T.sp (PySem.W.cls_value I.kIn T.rd T.fd (by decide +kernel) ?_)) hdb) hc
  show wpAny _ _ (callWith pos (Value.builtin "ValueError.__init__") [] (backTo pos (starEach (e :: es) X.env)) []) _ _ _
  have args := ha.run pos pins _ σ H _ (I.tok (s.toks + 1)) h
  refine PyProof.Rows.callWith_method1 (thn args ?_) he hpl
  rintro us s1 ⟨vs, H1, I1, r1, a, C, ws, rfl, hl, T, ea, q⟩
  cases r1 with
  | @cons _ u0 _ ur ra rw' =>
    obtain rfl : u0 = Value.ref a := ra
    refine oinit_ok T I1 ea ?_ fun s' J => ⟨.non, H1, J, rfl, q⟩
    have l := Paired.length rw'
    rw [sizeLine_eq]
    omega
theorem RWs.length {G : Gs} {c : Ct} {ρ : Dn.Env} {σ : L2.St} {H : Hp} : ∀ {ws : List W} {vs : List V}, RWs G c ρ σ H ws vs → ws.length = vs.length
  | [], vs, h => by
    have : vs = [] := h
    subst this; rfl
  | w :: ws, vs, h => by
    obtain ⟨v, r, rfl, _, t⟩ := h
    simp [t.length]
theorem ev_xinit {B : Addr} {cs : List String} {pl : Sem Bool} (hcs : OexOk X cs) (T : BaseInit X.K B) (hg : Gl X x) (hm : X.mg x = some (.ref B)) (ha : ArOk X Wx (e :: es) Fs)
    (hc : eval (.Call (.Attribute (.Name x p) "__init__" p2) (e :: es) [] pos) X.env = (do
      let ov ← eval (.Name x p) X.env
      standAt p2.atName
      let (f, first) ← holding [ov] (getMethod ov "__init__" pl)
      callWith pos f first (backTo pos (starEach (e :: es) X.env)) (backToKw pos (keywordEach [] X.env))) := by rfl)
    (hdb : (x == ("__debug__" : Str)) = false := by decide) (he : starEach (e :: es) X.env = (false, eval e X.env) :: starEach es X.env := by rfl) (hpl : (backTo pos (starEach es X.env)).any (·.1) = false := by rfl) :
    EvOk X Wx (.Call (.Attribute (.Name x p) "__init__" p2) (e :: es) [] pos) (eXInit cs Fs) := by
  obtain ⟨t, pt, st⟩ := ha.ex
  refine ⟨_, pe_binit T hg hm pt hc hdb he hpl, fun c ρ S σ H Q C h => ?_⟩
  refine st c ρ S σ H _ C (h.go .refl fun xs S1 h1 c1 vs H1 s1 C1 r1 => ?_)
  split at h1
  · rename_i n r
    split at h1
    · rename_i C' es'
      obtain ⟨⟨hC, hl⟩, h2⟩ := ifok_post h1
      obtain ⟨v, ws, rfl, rv, rr⟩ := r1
      have rv : Rep (gs X) c1 H1 (.loc n) v := rv
      simp only [Rep] at rv
      obtain ⟨a, ea, rfl⟩ := rv
      obtain ⟨A, hA, hH⟩ := C1.cs.sto n _ a es' ea
      exact ⟨a, A, ws, rfl, by rw [← rr.length]; exact hl, hcs _ hC A hA, hH, h2 c1 .non H1 s1 C1 (by show Rep _ _ _ _ _; simp [Rep])⟩
    · exact h1.elim
  · exact h1.elim
theorem st_xfld {cs : List String} {f : Str} {pos' : Pos} (hcs : OexOk X cs) (hf : XFldOk X cs f) (hv : EvOk X Wx e Fe) (ho : EvOk X Wx o Fo) (hs : swapsWith e (some (.Attribute o f pos')) pos.line X.env = pure false := by rfl) : SxOk X Wx (.Assign [.Attribute o f pos'] e pos) (sXFld cs Fo f Fe) := by
  obtain ⟨te, pe, qe⟩ := hv.ex
  obtain ⟨to, po, qo⟩ := ho.ex
  refine ⟨_, ps_ost po pe hs, fun c ρ S σ H D C h => ?_⟩
  refine qe c ρ S σ H _ C (outR_go .refl h fun x S1 h1 c1 v1 H1 s1 C1 r1 => ?_)
  refine qo c1 ρ S1 σ H1 _ C1 (outR_go s1 h1 fun w S2 h2 c2 v2 H2 s2 C2 r2 => ?_)
  have r1' := r1.keep C1.cs.muts s2.kp
  have sA := s1.trans s2
  cases x with
  | own j => exact h2.elim
  | d v =>
    have rv : Rep (gs X) c2 H2 v v1 := r1'
    cases w with
    | own j => exact h2.elim
    | d x =>
      cases x with
      | loc n =>
        have r2' : Rep (gs X) c2 H2 (.loc n) v2 := r2
        simp only [Rep] at r2'
        obtain ⟨a, ea, rfl⟩ := r2'
        have hma := C2.cs.bm a (List.mem_of_getElem? ea)
        cases es : S2[n]? with
        | none => simp only [es] at h2; exact h2.elim
        | some so =>
          have hn : n < S2.length := (List.getElem?_eq_some_iff.mp es).1
          cases so with
          | exn C' d =>
            cases d with
            | none =>
              simp only [es] at h2
              obtain ⟨hC, h2⟩ := ifok_postS h2
              obtain ⟨A, hA, hH⟩ := C2.cs.sto n _ a es ea
              refine ⟨a, A, rfl, hcs _ hC A hA, (hf _ hC A hA).2, .inl ⟨hH, fun dx hd ne => ?_⟩⟩
              have g1 : Grow H2 (upd H2 dx (exd dx [(f, v1)])) := .upd hd
              have rx : SoR (gs X) (c2.push dx) (upd H2 dx (exd dx [(f, v1)])) (.xdt [(f, v)]) dx := ⟨[(f, v1)], upd_same, by
                simp only [RepF]
                exact ⟨v1, [], rfl, rv.keep C2.cs.muts (.push g1 hd), rfl⟩⟩
              have C3 := C2.push g1 hd upd_same trivial rx
              have at_dx : (c2.push dx).β[S2.length]? = some dx := by
                show (c2.β ++ [dx])[S2.length]? = some dx
                rw [List.getElem?_append_right (by rw [C2.cs.len]; exact Nat.le_refl _)]
                simp [C2.cs.len]
              have at_a : (c2.push dx).β[n]? = some a := (Kp.push (c := c2) g1 hd).pre n a ea
              have C4 := C3.putLoc (so' := .exn C' (some S2.length)) (u := exo a A (some dx)) at_a trivial ⟨A, dx, hA, upd_same, at_dx⟩
              rw [List.set_append_left _ _ hn] at C4
              exact h2 (c2.push dx) σ _ (sA.trans ((Stp.push g1 hd).trans (.putLoc at_a (.inr hma)))) C4
            | some m =>
              simp only [es] at h2
              cases em : S2[m]? with
              | none => simp only [em] at h2; exact h2.elim
              | some so2 =>
                cases so2 with
                | xdt fs =>
                  simp only [em] at h2
                  obtain ⟨⟨hC, hl⟩, h2⟩ := ifok_postS h2
                  obtain ⟨A, dx, hA, hH, hdx⟩ := C2.cs.sto n _ a es ea
                  obtain ⟨vs, hD, rf⟩ := C2.cs.sto m _ dx em hdx
                  have hmd := C2.cs.bm dx (List.mem_of_getElem? hdx)
                  refine ⟨a, A, rfl, hcs _ hC A hA, (hf _ hC A hA).2, .inr ⟨dx, vs, hH, hD, by rw [← repF_len rf]; exact hl, ?_⟩⟩
                  refine h2 c2 σ _ (sA.trans (.putLoc hdx hmd)) (C2.putLoc (so' := .xdt ((f, v) :: fs)) hdx trivial ⟨_, upd_same, ?_⟩)
                  simp only [RepF]
                  exact ⟨v1, vs, rfl, rv.keep C2.cs.muts (.mut hmd), RepF.keep C2.cs.muts (.mut hmd) _ _ rf⟩
                | _ => simp only [em] at h2; exact h2.elim
          | _ => simp only [es] at h2; exact h2.elim
      | _ => exact h2.elim
/-! ### isinstance -/
/-- a type told, as a value -/
def TyVal (X : Cx) : Ty → Value → Prop
  | .b n, t => t = .type n
  | .c C, t => ∃ A, t = .ref A ∧ X.mg C = some (.ref A) ∧ ExcC X.K A
/-- what the library's rules ask -/
theorem kit_view {pins : List (Addr × Obj)} {c : Ct} {ρ : Dn.Env} {S : Store} {σ : L2.St} {H : Hp} {s : Shared} {d : D} {v : V} {u : Value} {t : Ty} (hx : ∀ C A, d = .exv C A → ∀ B, X.mg C = some (.ref B) → ExcC X.K B) (I : Inv X pins σ H s) (r : View (gs X) c H d v) (ru : RelV v u) (e : tyOf d = some t) :
    ∃ tv P, TyVal X t tv ∧ PySem.W.KitX X.K u tv P ∧ P s.heap ∧ u ≠ .builtin "__main__.__loader__#opaque" := by
  have base : ∀ {tv : Value}, TyX X.K H v tv → TyVal X t tv → ∃ tv P, TyVal X t tv ∧ PySem.W.KitX X.K u tv P ∧ P s.heap ∧ u ≠ .builtin "__main__.__loader__#opaque" := fun {tv} ty h => by
    obtain ⟨P, Z, p, ne⟩ := kit_of I ru ty
    exact ⟨tv, P, h, Z, p, ne⟩
  cases d with
  | non => cases e; cases r; exact base (.base .non) rfl
  | bl b => cases e; cases r; exact base (.base (.bl b)) rfl
  | int i => cases e; cases r; exact base (.base (.int i)) rfl
  | str z => cases e; cases r; exact base (.base (.str z)) rfl
  | tup ds =>
    cases e
    simp only [View, Rep] at r
    obtain ⟨a, vs, rfl, q, _⟩ := r
    rcases q with (q | ⟨ob, q⟩) | ⟨ob, its, n, q1, q2, _⟩
    · exact base (.base (.tup q)) rfl
    · exact base (.fTuple q) rfl
    · exact base (.kTuple q1 q2) rfl
  | lst ds =>
    cases e
    obtain ⟨a, vs, rfl, q, _⟩ := r
    exact base (.base (.lst q)) rfl
  | dct ds =>
    cases e
    obtain ⟨a, vs, rfl, q, _⟩ := r
    exact base (.base (.dK q)) rfl
  | scr xs =>
    cases e
    obtain ⟨a, rfl, q⟩ := r
    rcases q with (q | ⟨ob, q⟩) | ⟨ob, its, n, q1, q2, _⟩
    · exact base (.base (.lst q)) rfl
    · exact base (.base (.frz q)) rfl
    · exact base (.kList q1 q2) rfl
  | loc n => cases e
  | obj C fs => cases e
  | exv C fs =>
    cases e
    simp only [View, Rep] at r
    obtain ⟨a, A, vs, rfl, _, hA, _, z⟩ := r
    obtain rfl : u = Value.ref a := ru
    have xc := hx C fs rfl A hA
    refine ⟨.ref A, _, ⟨A, rfl, hA, xc⟩, kit_exc xc, ?_, fun z => nomatch z⟩
    rcases z with ⟨_, z⟩ | ⟨dx, z1, _, z3⟩
    · obtain ⟨ox, J⟩ := exo_inst I z
      exact ⟨ox, none, J⟩
    · obtain ⟨ox, od, mA, J, _, _⟩ := exo_instD I z1 z3
      exact ⟨ox, some od, J⟩
/-- the answers of a table are the machine's: one class, several -/
def TabOne (X : Cx) (u : Value) (tab : List (Ty × Bool)) : Prop := ∀ t b tv, tab.lookup t = some b → TyVal X t tv → PySem.W.kitOne X.K tv u = some b
def TabAny (X : Cx) (us : List Value) (tab : List (Ty × Bool)) : Prop := ∀ t b tv, tab.lookup t = some b → TyVal X t tv → PySem.W.kitAny X.K tv us = some b
def ExcOk (X : Cx) (tab : List (Ty × Bool)) : Prop := ∀ C : String, (tab.lookup (.c C)).isSome → ∀ A, X.mg C = some (.ref A) → ExcC X.K A
/-- isinstance by values: x, the class value -/
theorem isi_core {pins : List (Addr × Obj)} {c : Ct} {ρ : Dn.Env} {S : Store} {σ : L2.St} {H : Hp} {s : Shared} {d : D} {v cv : V} {u cu : Value} {t : Ty} {b : Bool} {tab : List (Ty × Bool)} {Q : VK} (hx : ExcOk X tab) (ht : TabOne X cu tab) (hc : ∀ w, RelV cv w → w = cu) (I : Inv X pins σ H s) (r : View (gs X) c H d v) (ru : RelV v u) {cw : Value} (rc : RelV cv cw) (e : tyOf d = some t) (eb : tab.lookup t = some b) (q : Q (.bl b) H) :
    wpAny (model X.prog X.w) X.A (call (.builtin "isinstance") [u, cw]) (EP X pins σ Q) X.xe s := by
  obtain rfl := hc _ rc
  obtain ⟨tv, P, h1, Z, p, ne⟩ := kit_view (S := S) (ρ := ρ) (fun C fs ed => by
    subst ed
    cases e
    exact hx C (by rw [eb]; rfl)) I r ru e
  exact PySem.W.kia_one Z I.kIn p (ht t b tv eb h1) ne fun tk => ⟨.bl b, H, I.tok tk, rfl, q⟩
def rI1 (X : Cx) (tab : List (Ty × Bool)) (cv : V) : List V → Hp → VK → Prop := fun xs H Q => ∃ v c d t b, xs = [v, cv] ∧ View (gs X) c H d v ∧ tyOf d = some t ∧ tab.lookup t = some b ∧ Q (.bl b) H
theorem call_i1 {tab : List (Ty × Bool)} {cv : V} {cu : Value} (hx : ExcOk X tab) (ht : TabOne X cu tab) (hc : ∀ w, RelV cv w → w = cu) : CallR X (.builtin "isinstance") (rI1 X tab cv) := by
  intro pins s σ H xs us Q I r h
  obtain ⟨v, c, d, t, b, rfl, vw, e, eb, q⟩ := h
  obtain ⟨u1, u2, rfl, r1, r2⟩ := vals2 r
  exact isi_core (ρ := []) (S := []) hx ht hc I vw r1 r2 e eb q
theorem isi_d {tab : List (Ty × Bool)} {ρ : Dn.Env} {S : Store} {w : W} {d : D} (h : ((look ρ S w).bind fun d => (tyOf d).bind fun t => (tab.lookup t).map D.bl) = some d) : ∃ dx t b, look ρ S w = some dx ∧ tyOf dx = some t ∧ tab.lookup t = some b ∧ d = .bl b := by
  obtain ⟨dx, e1, h⟩ := obind h
  obtain ⟨t, e2, h⟩ := obind h
  cases e3 : tab.lookup t with
  | none => rw [e3] at h; cases h
  | some b => rw [e3] at h; cases h; exact ⟨dx, t, b, e1, e2, e3, rfl⟩
/-- isinstance(e, C) -/
theorem ev_isi {ce : Expr} {cv : V} {cu : Value} {tab : List (Ty × Bool)} {p : Pos} (hx : ExcOk X tab) (ht : TabOne X cu tab) (hc : ∀ w, RelV cv w → w = cu) (hce : PE X ce (tC cv)) (ha : EvOk X Wx e Fe) (hg : Gl X "isinstance") (hm : X.mg "isinstance" = none)
    (he : starEach [e, ce] X.env = (false, eval e X.env) :: starEach [ce] X.env := by rfl) (he2 : starEach [ce] X.env = (false, eval ce X.env) :: starEach [] X.env := by rfl) (hp : (backTo pos (starEach [ce] X.env)).any (·.1) = false := by rfl) :
    EvOk X Wx (.Call (.Name "isinstance" p) [e, ce] [] pos) (eIsi tab Fe) := by
  obtain ⟨t, pt, st⟩ := ha.ex
  refine ⟨_, pe_callB (call_i1 hx ht hc) hg hm (by decide +kernel) (pa_cons pt (pa_cons hce pa_nil he2) he) (by decide) (by decide) he hp, fun c ρ S σ H Q C h => ?_⟩
  refine st c ρ S σ H _ C (h.go .refl fun x S1 h1 c1 v H1 s1 C1 r1 => ?_)
  obtain ⟨d, e, h2⟩ := ret1_post h1
  obtain ⟨dx, t, b, e1, e2, e3, rfl⟩ := isi_d e
  exact ⟨v, c1, dx, t, b, rfl, view_of C1 r1 e1, e2, e3, h2 c1 _ H1 s1 C1 (by show Rep _ _ _ _ _; simp [Rep])⟩
/-- isinstance(e, (C, ..)) -/
def rIT (X : Cx) (tab : List (Ty × Bool)) (cvs : List V) : List V → Hp → VK → Prop := fun xs H Q => ∃ v tp c d t b, xs = [v, .ref tp] ∧ H tp = some (.tup cvs) ∧ View (gs X) c H d v ∧ tyOf d = some t ∧ tab.lookup t = some b ∧ Q (.bl b) H
theorem call_iT {tab : List (Ty × Bool)} {cvs : List V} {cus : List Value} (hx : ExcOk X tab) (ht : TabAny X cus tab) (hc : ∀ ws, Vals cvs ws → ws = cus) : CallR X (.builtin "isinstance") (rIT X tab cvs) := by
  intro pins s σ H xs us Q I r h
  obtain ⟨v, tp, c, d, t, b, rfl, hT, vw, e, eb, q⟩ := h
  obtain ⟨u1, u2, rfl, r1, r2⟩ := vals2 r
  obtain rfl : u2 = Value.ref tp := r2
  obtain ⟨_, its, rv, o, h1, h2, n, h3⟩ := (show ObjOk X.prog X.w H s.heap tp (.tup cvs) from I.hok tp _ hT)
  obtain rfl := hc _ rv
  obtain ⟨oc, od, dt, sl⟩ := o
  simp only at h2 h3
  subst h2 h3
  obtain ⟨tv, P, k1, Z, p, ne⟩ := kit_view (S := []) (ρ := []) (fun C fs ed => by
    subst ed
    cases e
    exact hx C (by rw [eb]; rfl)) I vw r1 e
  exact PySem.W.kia_tup Z I.kIn p h1 (ht t b tv eb k1) ne fun tk => ⟨.bl b, H, I.tok tk, rfl, q⟩
def tCs (cvs : List V) : TA := fun _ H Q => Q cvs H
theorem pa_cs1 {ce : Expr} {cv : V} {ces : List Expr} {cvs : List V} (h : PE X ce (tC cv)) (hr : PA X ces (tCs cvs)) (hs : starEach (ce :: ces) X.env = (false, eval ce X.env) :: starEach ces X.env := by rfl) : PA X (ce :: ces) (tCs (cv :: cvs)) :=
  ⟨fun pos pins s σ H Q I q => (pa_cons h hr hs).run pos pins s σ H Q I q⟩
theorem pa_cs0 : PA X [] (tCs []) := ⟨fun pos pins s σ H Q I q => pa_nil.run pos pins s σ H Q I q⟩
theorem ev_isiT {ces : List Expr} {cvs : List V} {cus : List Value} {tab : List (Ty × Bool)} {p p2 : Pos} {j} (hx : ExcOk X tab) (ht : TabAny X cus tab) (hc : ∀ ws, Vals cvs ws → ws = cus) (hce : PA X ces (tCs cvs)) (hsz : cvs.length ≤ 100) (ha : EvOk X Wx e Fe) (hg : Gl X "isinstance") (hm : X.mg "isinstance" = none)
    (he : starEach [e, .Tuple ces j p2] X.env = (false, eval e X.env) :: starEach [.Tuple ces j p2] X.env := by rfl) (he2 : starEach [.Tuple ces j p2] X.env = (false, eval (.Tuple ces j p2) X.env) :: starEach [] X.env := by rfl) (hp : (backTo pos (starEach [.Tuple ces j p2] X.env)).any (·.1) = false := by rfl) :
    EvOk X Wx (.Call (.Name "isinstance" p) [e, .Tuple ces j p2] [] pos) (eIsi tab Fe) := by
  obtain ⟨t, pt, st⟩ := ha.ex
  refine ⟨_, pe_callB (call_iT hx ht hc) hg hm (by decide +kernel) (pa_cons pt (pa_cons (pe_tup hce) pa_nil he2) he) (by decide) (by decide) he hp, fun c ρ S σ H Q C h => ?_⟩
  refine st c ρ S σ H _ C (h.go .refl fun x S1 h1 c1 v H1 s1 C1 r1 => ?_)
  obtain ⟨d, e, h2⟩ := ret1_post h1
  obtain ⟨dx, t, b, e1, e2, e3, rfl⟩ := isi_d e
  refine ⟨by rw [sizeLine_eq]; omega, fun q hq => ?_⟩
  have g : Grow H1 (upd H1 q (.tup cvs)) := .upd hq
  exact ⟨v, q, c1, dx, t, b, rfl, upd_same, view_of (C1.grow g) (r1.keep C1.cs.muts (.grow g)) e1, e2, e3, h2 c1 _ _ (s1.trans (.grow g)) (C1.grow g) (by show Rep _ _ _ _ _; simp [Rep])⟩
end
end Dn
end OfLayR
section OfLayS
set_option Elab.async false
set_option linter.all false
set_option maxRecDepth 100000
set_option maxHeartbeats 1000000
/-! LayS: what the top has written, by names. -/
namespace Dn
open PySem PySem.Spec PyProof.Rows L2
/-! ### the Hook -/
abbrev AlY : Type := He.AlD × Bool
def obsY (fa : List He.Fa) (fn : List He.DefD) (ex : PySem.W.Frag → Bool) (K : PySem.W.Frag) : AlY := (He.obsD fa fn K, ex K)
def hookY (n : Nat) (fa : List He.Fa) (fn : List He.DefD) (ex : PySem.W.Frag → Bool) : PySem.W.Hook where
  α := AlY
  obs := fun s => obsY fa fn ex (He.frG s.heap.get? (cStatics :: He.asD s.heap.get? n))
  val := fun _ => (He.valD fn, true)
  says := fun _ h => ∃ K : PySem.W.Frag, K.In h ∧ obsY fa fn ex K = (He.valD fn, true)
  of := fun _ _ e => ⟨_, He.frG_in, e⟩
  keeps := fun _ _ _ ⟨K, hK, c⟩ k => ⟨K, PySem.W.Frag.In.keeps hK k, c⟩
def obY (n : Nat) (fa : List He.Fa) (fn : List He.DefD) (ex : PySem.W.Frag → Bool) (s : PySem.W.SharedT) : AlY := obsY fa fn ex (He.frG (HandSHeadRun.getT s) (cStatics :: He.asD (HandSHeadRun.getT s) n))
theorem obY_eq {n : Nat} {fa : List He.Fa} {fn : List He.DefD} {ex : PySem.W.Frag → Bool} (s : PySem.W.SharedT) : obY n fa fn ex s = (hookY n fa fn ex).obs s.abs := by
  have e : HandSHeadRun.getT s = s.abs.heap.get? := funext (HandSHeadRun.getT_eq s)
  show obsY fa fn ex (He.frG (HandSHeadRun.getT s) (cStatics :: He.asD (HandSHeadRun.getT s) n)) = _
  rw [e]
  rfl
/-- the written part, the module's names -/
structure Txt (fa : List He.Fa) (fn : List He.DefD) (ex : PySem.W.Frag → Bool) (K : PySem.W.Frag) (mg : Str → Option Value) : Prop where
  c : He.SaysD fa fn K
  more : ex K = true
  ns : ∃ h : Heap, K.In h ∧ h.Ns mainGlobals mg
section
variable {fa : List He.Fa} {fn : List He.DefD} {ex : PySem.W.Frag → Bool} {K : PySem.W.Frag} {mg : Str → Option Value} {P : Program} {w : World} {base : Heap}
theorem Txt.of {h : Heap} (hK : K.In h) (G : h.Ns mainGlobals mg) (e : obsY fa fn ex K = (He.valD fn, true)) : Txt fa fn ex K mg :=
  ⟨congrArg (fun z : AlY => z.1) e, congrArg (fun z : AlY => z.2) e, h, hK, G⟩
theorem Txt.glo (T : Txt fa fn ex K mg) (i : Nat) {x : Str} (h : fa[i]? = some (.glo x) := by rfl) : mg x = some (.ref (He.ga K x)) := by
  obtain ⟨hp, hK, G⟩ := T.ns
  exact He.glo_ok hK G (T.c.fact i h)
theorem Txt.free (T : Txt fa fn ex K mg) (i : Nat) {x : Str} (h : fa[i]? = some (.free x) := by rfl) : mg x = none := by
  obtain ⟨hp, hK, G⟩ := T.ns
  exact He.free_ok hK G (T.c.fact i h)
theorem Txt.int (T : Txt fa fn ex K mg) (i : Nat) {x : Str} {z : Int} (h : fa[i]? = some (.int x z) := by rfl) : ∃ t, mg x = some (.int z t) := by
  obtain ⟨hp, hK, G⟩ := T.ns
  exact He.int_ok hK G (T.c.fact i h)
theorem Txt.str (T : Txt fa fn ex K mg) (i : Nat) {x z : Str} (h : fa[i]? = some (.str x z) := by rfl) : ∃ t, mg x = some (.str z t) := by
  obtain ⟨hp, hK, G⟩ := T.ns
  exact He.str_ok hK G (T.c.fact i h)
theorem Txt.cls (T : Txt fa fn ex K mg) (i : Nat) {x : Str} (h : fa[i]? = some (.cls x) := by rfl) : Cls K (He.ga K x) := He.cls_ok (T.c.fact i h)
theorem Txt.noat (T : Txt fa fn ex K mg) (i : Nat) {x f : Str} (h : fa[i]? = some (.noat x f) := by rfl) : NoAttr K (He.ga K x) f := He.noat_ok (T.c.fact i h)
theorem Txt.meth (T : Txt fa fn ex K mg) (i : Nat) {x m : Str} (h : fa[i]? = some (.meth x m) := by rfl) : Meth K (He.ga K x) m (He.ma K (He.ga K x) m) := He.meth_ok (T.c.fact i h)
theorem Txt.mkr (T : Txt fa fn ex K mg) (i : Nat) {x : Str} (h : fa[i]? = some (.mkr x) := by rfl) : Mk K (He.ga K x) (He.ma K (He.ga K x) "__init__") := He.mkr_ok (T.c.fact i h)
/-! ### a def of the module, ready to be called -/
structure CallOk (P : Program) (w : World) (K : PySem.W.Frag) (mg : Str → Option Value) (base : Heap) (k : Nat) (x : Str) (dd : List D) (den : Fn) : Prop where
  ex : ∃ (f : Addr) (fd : FuncData) (ps : List Str) (ds : List Value) (dvs : List V), mg x = some (.ref f) ∧ PySem.W.keepIn K (.ref f) = true ∧ FnG P w K mg base k f fd ps den ∧ L2.Binds K fd ps ds ∧ Vals dvs ds ∧ ∀ (G : Gs) c H, Reps G c H dd dvs
theorem CallOk.mono {j k : Nat} {x : Str} {dd : List D} {den : Fn} (h : CallOk P w K mg base j x dd den) (l : j ≤ k) : CallOk P w K mg base k x dd den := by
  obtain ⟨f, fd, ps, ds, dvs, h1, h2, h3, h4⟩ := h.ex
  exact ⟨f, fd, ps, ds, dvs, h1, h2, h3.mono l, h4⟩
/-- a def's promise by its body -/
abbrev BodyOk (P : Program) (w : World) (K : PySem.W.Frag) (mg : Str → Option Value) (base : Heap) (k : Nat) (N : List Str) (d : He.DefD) (F : SX) : Prop :=
  ∀ (f : Addr) (cdv : Value) (A : Around) (outer : List PySem.Env) (s : Shared) (H : Hp) (E : XK), Room k (A.deeper (envOfC d.qual d.scope s.heap.objs.size f cdv)) → A.guards = some [] →
    SsOk (cxOf (L2.CX P w) P w K mg base N d.qual d.scope f cdv A outer s H E) (WxE E) d.body F
theorem fnG_funD {k : Nat} {x qual : Str} {params : Arguments} {body : List Stmt} {scope : Scope} {dvs : List V} {kws : List (Str × V)} {f : Addr} {fd : FuncData} {N ps : List Str} {F : SX} (D' : FunD K x qual params body scope dvs kws f fd) (S : FnScope N ps scope)
    (hbody : ∀ (cdv : Value) (A : Around) (outer : List PySem.Env) (s : Shared) (H : Hp) (E : XK), Room k (A.deeper (envOfC qual scope s.heap.objs.size f cdv)) → A.guards = some [] → SsOk (cxOf (L2.CX P w) P w K mg base N qual scope f cdv A outer s H E) (WxE E) body F) :
    FnG P w K mg base (k + 1) f fd ps (defD ps.length N.length F) := by
  obtain ⟨oc, od, dV, kV, doc, pm, an, cdv, ct, osl, rfl, lk, hcd, _, _⟩ := D'.ex
  exact fnG_of lk hcd S fun A outer s H E hr hg => hbody cdv A outer s H E hr hg
theorem fnG_bad {k : Nat} {f : Addr} {fd : FuncData} {ps : List Str} : FnG P w K mg base k f fd ps (fun _ _ => .bad) := ⟨fun _ _ _ => rfl, fun _ _ _ _ _ _ _ _ _ _ _ _ _ _ _ _ _ _ _ _ h => h.elim⟩
/-- all parameters are written; the def has no defaults -/
abbrev BindN (d : He.DefD) (ps : List Str) : Prop := ∀ (kV doc pm : Value) (an : Option Addr) (cdv ct : Value) (us : List Value), us.length = ps.length → bindArgs (PySem.W.fnOf d.name d.qual d.params d.body d.scope .none kV doc pm an cdv ct) ⟨us, []⟩ = pure (ps.zip us)
theorem binds_all {d : He.DefD} {f : Addr} {fd : FuncData} {ps : List Str} (D' : FunD K d.name d.qual d.params d.body d.scope (d.dvs K) (d.kws K) f fd) (h0 : d.dfl = []) (h : BindN d ps) : L2.Binds K fd ps [] := by
  have e : d.dvs K = [] := by unfold He.DefD.dvs; rw [h0]; rfl
  rw [e] at D'
  exact D'.bindsN h
theorem Txt.call (T : Txt fa fn ex K mg) (i j : Nat) {k : Nat} {d : He.DefD} {x : Str} {N ps : List Str} {F : SX} (hd : fn[i]? = some d) (hg : fa[j]? = some (.glo x)) (hx : d.at_ = (x, none)) (S : FnScope N ps d.scope) (hb : BindN d ps) (h0 : d.dfl = []) (hbody : BodyOk P w K mg base k N d F) :
    CallOk P w K mg base (k + 1) x [] (defD ps.length N.length F) := by
  obtain ⟨fd, D'⟩ := T.c.def_ i hd
  have eA : He.fAd K d.at_ = He.ga K x := by rw [hx]; rfl
  exact ⟨_, fd, ps, [], [], by rw [eA]; exact T.glo j hg, D'.kp, fnG_funD D' S fun cdv A outer s H E hr hgd => hbody _ cdv A outer s H E hr hgd, binds_all D' h0 hb, .nil, fun _ _ _ => .nil⟩
/-- one that is never called -/
theorem Txt.callBad (T : Txt fa fn ex K mg) (i j : Nat) {k : Nat} {d : He.DefD} {x : Str} {ps : List Str} (hd : fn[i]? = some d) (hg : fa[j]? = some (.glo x)) (hx : d.at_ = (x, none)) (hb : BindN d ps) (h0 : d.dfl = []) : CallOk P w K mg base k x [] (fun _ _ => .bad) := by
  obtain ⟨fd, D'⟩ := T.c.def_ i hd
  have eA : He.fAd K d.at_ = He.ga K x := by rw [hx]; rfl
  exact ⟨_, fd, ps, [], [], by rw [eA]; exact T.glo j hg, D'.kp, fnG_bad, binds_all D' h0 hb, .nil, fun _ _ _ => .nil⟩
end
section
variable {X : Cx} {Wx : WX} {k : Nat} {den : Fn} {dd : List D} {x : Str} {p pos : Pos} {e : Expr} {es : List Expr} {Fs : AX}
theorem ev_callK (h : CallOk X.prog X.w X.K X.mg X.base k x dd den) (hr : Room k X.A) (hgd : X.A.guards = some []) (tk : Takes X Wx) (hg : Gl X x) (ha : ArOk X Wx (e :: es) Fs) (hdb : (x == ("__debug__" : Str)) = false := by decide)
    (he : starEach (e :: es) X.env = (false, eval e X.env) :: starEach es X.env := by rfl) (hpl : (backTo pos (starEach es X.env)).any (·.1) = false := by rfl) : EvOk X Wx (.Call (.Name x p) (e :: es) [] pos) (eCall den dd Fs) := by
  obtain ⟨f, fd, ps, ds, dvs, h1, h2, h3, h4, h5, h6⟩ := h.ex
  exact ev_call h3 hr hgd tk hg h1 h2 h4 h5 (h6 _) ha hdb he hpl
theorem ev_callK0 (h : CallOk X.prog X.w X.K X.mg X.base k x dd den) (hr : Room k X.A) (hgd : X.A.guards = some []) (tk : Takes X Wx) (hg : Gl X x) (hdb : (x == ("__debug__" : Str)) = false := by decide) : EvOk X Wx (.Call (.Name x p) [] [] pos) (eCall den dd aNil) := by
  obtain ⟨f, fd, ps, ds, dvs, h1, h2, h3, h4, h5, h6⟩ := h.ex
  exact ev_call0 h3 hr hgd tk hg h1 h2 h4 h5 (h6 _) hdb
end
/-! ### exception classes -/
def oexB (K : PySem.W.Frag) (C : Addr) : Bool := (match K.lookup C with
  | some ⟨.type "type", _, .cls cd, sl⟩ => (match cd.mro, sl.toList with
    | .ref C' :: bm, [_, _, _, _, some (.builtin n), _] => decide (C' = C) && decide (n = "ValueError.__new__") && cd.hasDict && !cd.hasDel && PySem.HandSPX.refsVE bm
    | _, _ => false)
  | _ => false) && decide (PySem.W.findIn K (.ref C) "__setattr__" = some (some (.builtin "object.__setattr__"))) && decide (PySem.W.subIn K (.ref C) (.type "BaseException") = some true) && decide (PySem.W.typeIn K (.ref C) = some (.type "type")) && PySem.W.keepIn K (.ref C)
theorem oexB_ok {K : PySem.W.Frag} {C : Addr} (h : oexB K C = true) : OexC K C := by
  unfold oexB at h
  simp only [Bool.and_eq_true, decide_eq_true_eq] at h
  obtain ⟨⟨⟨⟨h1, h2⟩, h3⟩, h4⟩, h5⟩ := h
  refine ⟨?_, h2, h3, h4, h5⟩
  split at h1
  · rename_i dd cd sl ho
    split at h1
    · rename_i C' bm k0 k1 k2 k3 n k5 hm hs
      simp only [Bool.and_eq_true, decide_eq_true_eq, Bool.not_eq_true'] at h1
      obtain ⟨⟨⟨⟨rfl, rfl⟩, hdi⟩, hdel⟩, hv⟩ := h1
      obtain ⟨nm, bs, mro, ns, qn, hd, sn, sub, ab, col, del⟩ := cd
      dsimp only at hm hdi hdel
      subst hm hdi hdel
      obtain ⟨l⟩ := sl
      simp only at hs
      subst hs
      exact ⟨nm, qn, ns, bs, bm, sn, sub, ab, col, dd, k0, k1, k2, k3, k5, ho, hv⟩
    · cases h1
  · cases h1
def excCB (K : PySem.W.Frag) (D : Addr) : Bool := decide (PySem.W.findIn K (.ref D) "__getattribute__" = some (some (.builtin "BaseException.__getattribute__"))) && decide (PySem.W.findIn K (.ref D) "__getattr__" = some none) && decide (PySem.W.subIn K (.ref D) (.type "BaseException") = some true) && PySem.W.hasDictIn K D &&
  decide (PySem.W.findIn K (.ref D) "__class__" = some (some (.builtin "object.__class__"))) && decide (PySem.W.specialIn K (.builtin "object.__class__") "__get__" = some (some (.builtin "getset_descriptor.__get__"))) && decide (PySem.W.takesIn K (.builtin "object.__class__") = some true) && decide (PySem.W.mroIn K D (.type "object") = some true)
theorem excCB_ok {K : PySem.W.Frag} {D : Addr} (h : excCB K D = true) : ExcC K D := by
  unfold excCB at h
  simp only [Bool.and_eq_true, decide_eq_true_eq] at h
  obtain ⟨⟨⟨⟨⟨⟨⟨h1, h2⟩, h3⟩, h4⟩, h5⟩, h6⟩, h7⟩, h8⟩ := h
  exact ⟨h1, h2, h3, h4, h5, h6, h7, h8⟩
def binitB (K : PySem.W.Frag) (B : Addr) : Bool := decide (PySem.W.specialIn K (.ref B) "__getattribute__" = some (some (.builtin "type.__getattribute__"))) && PySem.W.readsIn K B (.type "type") && (match PySem.W.findCls K (.ref B) (.type "type") "__init__" with
  | some (.val (.builtin n)) => decide (n = "ValueError.__init__")
  | _ => false)
theorem binitB_ok {K : PySem.W.Frag} {B : Addr} (h : binitB K B = true) : BaseInit K B := by
  unfold binitB at h
  simp only [Bool.and_eq_true, decide_eq_true_eq] at h
  obtain ⟨⟨h1, h2⟩, h3⟩ := h
  refine ⟨h1, h2, ?_⟩
  split at h3
  · rename_i n e
    rw [of_decide_eq_true h3] at e
    exact e
  · cases h3
/-- an __init__ of an exception class as a def -/
def einitB (K : PySem.W.Frag) (C : Addr) : Bool := decide (PySem.W.findIn K (.ref C) "__init__" = some (some (.ref (He.ma K C "__init__")))) && decide (PySem.W.typeIn K (.ref (He.ma K C "__init__")) = some (.type "function"))
/-! ### tables of isinstance -/
def tyVal (K : PySem.W.Frag) : Ty → Value
  | .b n => .type n
  | .c C => .ref (He.ga K C)
def tabB (K : PySem.W.Frag) (u : Value) (tab : List (Ty × Bool)) : Bool := tab.all fun q => decide (PySem.W.kitOne K (tyVal K q.1) u = some q.2)
def tabAB (K : PySem.W.Frag) (us : List Value) (tab : List (Ty × Bool)) : Bool := tab.all fun q => decide (PySem.W.kitAny K (tyVal K q.1) us = some q.2)
theorem lookup_ty {β : Type} {l : List (Ty × β)} {a : Ty} {b : β} (h : l.lookup a = some b) : (a, b) ∈ l := by
  induction l with
  | nil => cases h
  | cons p r ih =>
    obtain ⟨a', b'⟩ := p
    simp only [List.lookup] at h
    cases e : a == a' with
    | true =>
      rw [e] at h
      cases h
      have := eq_of_beq e
      subst this
      exact List.mem_cons_self
    | false => rw [e] at h; exact List.mem_cons_of_mem _ (ih h)
theorem tyVal_ok {X : Cx} (hg : ∀ (C : String) (A : Addr), X.mg C = some (.ref A) → A = He.ga X.K C) {t : Ty} {tv : Value} (h : TyVal X t tv) : tv = tyVal X.K t := by
  cases t with
  | b n => exact h
  | c C =>
    obtain ⟨A, rfl, hm, _⟩ := h
    rw [hg C A hm]
    rfl
end Dn
end OfLayS
section OfLayT
set_option Elab.async false
set_option linter.all false
set_option maxRecDepth 100000
set_option maxHeartbeats 1000000
/-! LayT: exception classes, tables of isinstance, by names. -/
namespace Dn
open PySem PySem.Spec PyProof.Rows L2
/-- what is looked at beside: all exception classes; those with an own __init__; without; the base; fields with their classes; tables of isinstance -/
structure Xs where
  all : List String
  ini : List String
  no : List String
  base : String
  fld : List (Str × List String)
  one : List (Ty × List (Ty × Bool))
  any : List (List Ty × List (Ty × Bool))
def inAll (x : Xs) (tab : List (Ty × Bool)) : Bool := tab.all fun q => match q.1 with
  | .c C => x.all.contains C
  | .b _ => true
def Xs.ok (x : Xs) (K : PySem.W.Frag) : Bool :=
  (x.all.all fun C => excCB K (He.ga K C) && xfB K (He.ga K C)) && (x.ini.all fun C => oexB K (He.ga K C) && einitB K (He.ga K C)) && (x.no.all fun C => PySem.W.excIn K (He.ga K C) He.veBase "ValueError.__new__" && PySem.W.keepIn K (.ref (He.ga K C))) &&
  binitB K (He.ga K x.base) && (x.fld.all fun q => q.2.all fun C => decide (PySem.W.findIn K (.ref (He.ga K C)) q.1 = some none)) &&
  (x.one.all fun q => tabB K (tyVal K q.1) q.2) && (x.any.all fun q => tabAB K (q.1.map (tyVal K)) q.2)
section
variable {x : Xs} {fa : List He.Fa} {fn : List He.DefD} {ex : PySem.W.Frag → Bool} {K : PySem.W.Frag} {mg : Str → Option Value} {P : Program} {w : World} {base : Heap}
abbrev faX (x : Xs) (fa : List He.Fa) : List He.Fa := (x.all.map fun C : String => He.Fa.glo (C : Str)) ++ fa
theorem Txt.exg (T : Txt (faX x fa) fn x.ok K mg) {C : String} (h : C ∈ x.all) : mg C = some (.ref (He.ga K C)) := by
  obtain ⟨hp, hK, G⟩ := T.ns
  exact He.glo_ok hK G (He.SaysD.facts T.c (List.mem_append_left _ (List.mem_map_of_mem (f := fun C : String => He.Fa.glo (C : Str)) h)))
theorem Txt.exA (T : Txt (faX x fa) fn x.ok K mg) {C : String} (h : C ∈ x.all) {A : Addr} (e : mg C = some (.ref A)) : A = He.ga K C := by
  have := (T.exg h).symm.trans e
  cases this
  rfl
theorem Txt.parts (T : Txt (faX x fa) fn x.ok K mg) : (∀ C ∈ x.all, ExcC K (He.ga K C) ∧ XfC K (He.ga K C)) ∧ (∀ C ∈ x.ini, OexC K (He.ga K C) ∧ einitB K (He.ga K C) = true) ∧
    (∀ C ∈ x.no, PySem.W.excIn K (He.ga K C) He.veBase "ValueError.__new__" = true ∧ PySem.W.keepIn K (.ref (He.ga K C)) = true) ∧ BaseInit K (He.ga K x.base) ∧ (∀ q ∈ x.fld, ∀ C ∈ q.2, PySem.W.findIn K (.ref (He.ga K C)) q.1 = some none) ∧
    (∀ q ∈ x.one, tabB K (tyVal K q.1) q.2 = true) ∧ ∀ q ∈ x.any, tabAB K (q.1.map (tyVal K)) q.2 = true := by
  have h := T.more
  unfold Xs.ok at h
  simp only [Bool.and_eq_true, List.all_eq_true, decide_eq_true_eq] at h
  obtain ⟨⟨⟨⟨⟨⟨h1, h2⟩, h3⟩, h4⟩, h5⟩, h6⟩, h7⟩ := h
  exact ⟨fun C hC => ⟨excCB_ok (h1 C hC).1, xfB_ok (h1 C hC).2⟩, fun C hC => ⟨oexB_ok (h2 C hC).1, (h2 C hC).2⟩, h3, binitB_ok h4, h5, h6, h7⟩
theorem Txt.xfld (T : Txt (faX x fa) fn x.ok K mg) {f : Str} {cs : List String} (h : (f, cs) ∈ x.fld) (hc : cs.all (x.all.contains ·) = true) {X : Cx} (hK : X.K = K := by rfl) (hm : X.mg = mg := by rfl) : XFldOk X cs f := by
  subst hK hm
  intro C hC A e
  have hA : C ∈ x.all := by
    have := List.all_eq_true.mp hc C hC
    simpa using this
  obtain rfl := T.exA hA e
  exact ⟨(T.parts.1 C hA).2, T.parts.2.2.2.2.1 _ h C hC⟩
theorem Txt.oex (T : Txt (faX x fa) fn x.ok K mg) {cs : List String} (hc : cs.all (fun C => x.ini.contains C && x.all.contains C) = true) {X : Cx} (hK : X.K = K := by rfl) (hm : X.mg = mg := by rfl) : OexOk X cs := by
  subst hK hm
  intro C hC A e
  have h := List.all_eq_true.mp hc C hC
  simp only [Bool.and_eq_true, List.contains_iff_mem] at h
  obtain rfl := T.exA h.2 e
  exact (T.parts.2.1 C h.1).1
theorem Txt.excOk (T : Txt (faX x fa) fn x.ok K mg) {tab : List (Ty × Bool)} (h : inAll x tab = true) {X : Cx} (hK : X.K = K := by rfl) (hm : X.mg = mg := by rfl) : ExcOk X tab := by
  subst hK hm
  intro C hC A e
  obtain ⟨b, hb⟩ := Option.isSome_iff_exists.mp hC
  have h2 := List.all_eq_true.mp h _ (lookup_ty hb)
  simp only [List.contains_iff_mem] at h2
  obtain rfl := T.exA h2 e
  exact (T.parts.1 C h2).1
theorem tv_of (T : Txt (faX x fa) fn x.ok K mg) {X : Cx} (hK : X.K = K) (hm : X.mg = mg) {tab : List (Ty × Bool)} (h : inAll x tab = true) {t : Ty} {b : Bool} {tv : Value} (hl : tab.lookup t = some b) (ht : TyVal X t tv) : tv = tyVal K t := by
  subst hK hm
  cases t with
  | b n => exact ht
  | c C =>
    obtain ⟨A, rfl, e, _⟩ := ht
    have h2 := List.all_eq_true.mp h _ (lookup_ty hl)
    simp only [List.contains_iff_mem] at h2
    obtain rfl := T.exA h2 e
    rfl
theorem Txt.tabOne (T : Txt (faX x fa) fn x.ok K mg) {tab : List (Ty × Bool)} {c : Ty} (hq : (c, tab) ∈ x.one) (h : inAll x tab = true) {X : Cx} (hK : X.K = K := by rfl) (hm : X.mg = mg := by rfl) : TabOne X (tyVal X.K c) tab := by
  intro t b tv hl ht
  obtain rfl := tv_of T hK hm h hl ht
  have h2 := List.all_eq_true.mp (T.parts.2.2.2.2.2.1 _ hq) _ (lookup_ty hl)
  rw [hK]
  exact of_decide_eq_true h2
theorem Txt.tabAny (T : Txt (faX x fa) fn x.ok K mg) {tab : List (Ty × Bool)} {cs : List Ty} (hq : (cs, tab) ∈ x.any) (h : inAll x tab = true) {X : Cx} (hK : X.K = K := by rfl) (hm : X.mg = mg := by rfl) : TabAny X (cs.map (tyVal X.K)) tab := by
  intro t b tv hl ht
  obtain rfl := tv_of T hK hm h hl ht
  have h2 := List.all_eq_true.mp (T.parts.2.2.2.2.2.2 _ hq) _ (lookup_ty hl)
  rw [hK]
  exact of_decide_eq_true h2
/-! ### exceptions with an own __init__, ready to be made -/
structure InitOk (P : Program) (w : World) (K : PySem.W.Frag) (mg : Str → Option Value) (base : Heap) (k : Nat) (C : String) (dd : List D) (den : Fn) : Prop where
  ex : ∃ (A f : Addr) (fd : FuncData) (ps : List Str) (ds : List Value) (dvs : List V), mg C = some (.ref A) ∧ OexC K A ∧ PySem.W.findIn K (.ref A) "__init__" = some (some (.ref f)) ∧ PySem.W.typeIn K (.ref f) = some (.type "function") ∧
    FnG P w K mg base k f fd ps den ∧ L2.Binds K fd ps ds ∧ Vals dvs ds ∧ ∀ (G : Gs) c H, Reps G c H dd dvs
theorem Txt.init (T : Txt (faX x fa) fn x.ok K mg) (i : Nat) {k : Nat} {d : He.DefD} {C : String} {N ps : List Str} {F : SX} (hd : fn[i]? = some d) (hC : C ∈ x.ini) (hC2 : C ∈ x.all) (hx : d.at_ = ((C : Str), some ("__init__" : Str))) (S : FnScope N ps d.scope) (hb : BindN d ps) (h0 : d.dfl = []) (hbody : BodyOk P w K mg base k N d F) :
    InitOk P w K mg base (k + 1) C [] (defD ps.length N.length F) := by
  obtain ⟨fd, D'⟩ := T.c.def_ i hd
  have eA : He.fAd K d.at_ = He.ma K (He.ga K C) "__init__" := by rw [hx]; rfl
  have h2 := (T.parts.2.1 C hC).2
  unfold einitB at h2
  simp only [Bool.and_eq_true, decide_eq_true_eq] at h2
  exact ⟨He.ga K C, _, fd, ps, [], [], T.exg hC2, (T.parts.2.1 C hC).1, by rw [eA]; exact h2.1, by rw [eA]; exact h2.2, fnG_funD D' S fun cdv A outer s H E hr hgd => hbody _ cdv A outer s H E hr hgd, binds_all D' h0 hb, .nil, fun _ _ _ => .nil⟩
end
section
variable {X : Cx} {Wx : WX} {k : Nat} {den : Fn} {dd : List D} {C : String} {p p2 pos : Pos} {e : Expr} {es : List Expr} {Fs : AX} {Fe : EX} {tab : List (Ty × Bool)}
theorem ev_excK (h : InitOk X.prog X.w X.K X.mg X.base k C dd den) (hr : Room (k + 1) X.A) (hgd : X.A.guards = some []) (tk : Takes X Wx) (hg : Gl X C) (ha : ArOk X Wx (e :: es) Fs) (hdb : ((C : Str) == ("__debug__" : Str)) = false := by decide)
    (he : starEach (e :: es) X.env = (false, eval e X.env) :: starEach es X.env := by rfl) (hpl : (backTo pos (starEach es X.env)).any (·.1) = false := by rfl) : EvOk X Wx (.Call (.Name C p) (e :: es) [] pos) (eExc C den dd Fs) := by
  obtain ⟨A, f, fd, ps, ds, dvs, h1, h2, h3, h4, h5, h6, h7, h8⟩ := h.ex
  exact ev_exc h2 h3 h4 h5 hr hgd tk hg h1 h6 h7 (h8 _) ha hdb he hpl
/-- isinstance(e, T), T a built-in type; an own class -/
theorem ev_isiB {n : String} (hx : ExcOk X tab) (ht : TabOne X (.type n) tab) (hgn : Gl X n) (hmn : X.mg n = none) (hbn : bootBuiltins n = some (.type n)) (ha : EvOk X Wx e Fe) (hg : Gl X "isinstance") (hm : X.mg "isinstance" = none) (hn : (n : Str) ≠ "__name__" := by decide) (hdb : ((n : Str) == ("__debug__" : Str)) = false := by decide)
    (he : starEach [e, .Name n p2] X.env = (false, eval e X.env) :: starEach [.Name n p2] X.env := by rfl) (he2 : starEach [.Name n p2] X.env = (false, eval (.Name n p2) X.env) :: starEach [] X.env := by rfl) (hp : (backTo pos (starEach [.Name n p2] X.env)).any (·.1) = false := by rfl) :
    EvOk X Wx (.Call (.Name "isinstance" p) [e, .Name n p2] [] pos) (eIsi tab Fe) :=
  ev_isi (cv := .ty n) hx ht (fun w h => h) (pe_bltn hgn hmn hbn rfl hn hdb) ha hg hm he he2 hp
theorem ev_isiO {A : Addr} (hx : ExcOk X tab) (ht : TabOne X (.ref A) tab) (hgn : Gl X C) (hmn : X.mg C = some (.ref A)) (ha : EvOk X Wx e Fe) (hg : Gl X "isinstance") (hm : X.mg "isinstance" = none) (hdb : ((C : Str) == ("__debug__" : Str)) = false := by decide)
    (he : starEach [e, .Name C p2] X.env = (false, eval e X.env) :: starEach [.Name C p2] X.env := by rfl) (he2 : starEach [.Name C p2] X.env = (false, eval (.Name C p2) X.env) :: starEach [] X.env := by rfl) (hp : (backTo pos (starEach [.Name C p2] X.env)).any (·.1) = false := by rfl) :
    EvOk X Wx (.Call (.Name "isinstance" p) [e, .Name C p2] [] pos) (eIsi tab Fe) :=
  ev_isi (cv := .ref A) hx ht (fun w h => h) (pe_glob hgn hmn rfl hdb) ha hg hm he he2 hp
/-- the classes of a tuple of classes -/
structure ClsOk (X : Cx) (ces : List Expr) (cs : List Ty) : Prop where
  ex : ∃ cvs, PA X ces (tCs cvs) ∧ (∀ ws, Vals cvs ws → ws = cs.map (tyVal X.K)) ∧ cvs.length = cs.length
theorem cls_nil : ClsOk X [] [] := ⟨[], pa_cs0, fun ws h => by cases h; rfl, rfl⟩
theorem cls_b {n : String} {ces : List Expr} {cs : List Ty} (hgn : Gl X n) (hmn : X.mg n = none) (hbn : bootBuiltins n = some (.type n)) (h : ClsOk X ces cs) (hn : (n : Str) ≠ "__name__" := by decide) (hdb : ((n : Str) == ("__debug__" : Str)) = false := by decide)
    (he : starEach (.Name n p :: ces) X.env = (false, eval (.Name n p) X.env) :: starEach ces X.env := by rfl) : ClsOk X (.Name n p :: ces) (.b n :: cs) := by
  obtain ⟨cvs, h1, h2, h3⟩ := h.ex
  refine ⟨.ty n :: cvs, pa_cs1 (pe_bltn hgn hmn hbn rfl hn hdb) h1 he, fun ws hw => ?_, by simp [h3]⟩
  cases hw with
  | cons r t =>
    rw [h2 _ t]
    have : _ = Value.type n := r
    rw [this]
    rfl
theorem cls_c {ces : List Expr} {cs : List Ty} (hgn : Gl X C) (hmn : X.mg C = some (.ref (He.ga X.K C))) (h : ClsOk X ces cs) (hdb : ((C : Str) == ("__debug__" : Str)) = false := by decide)
    (he : starEach (.Name C p :: ces) X.env = (false, eval (.Name C p) X.env) :: starEach ces X.env := by rfl) : ClsOk X (.Name C p :: ces) (.c C :: cs) := by
  obtain ⟨cvs, h1, h2, h3⟩ := h.ex
  refine ⟨.ref (He.ga X.K C) :: cvs, pa_cs1 (pe_glob hgn hmn rfl hdb) h1 he, fun ws hw => ?_, by simp [h3]⟩
  cases hw with
  | cons r t =>
    rw [h2 _ t]
    have : _ = Value.ref (He.ga X.K C) := r
    rw [this]
    rfl
theorem ev_isiM {ces : List Expr} {cs : List Ty} {j} (hx : ExcOk X tab) (ht : TabAny X (cs.map (tyVal X.K)) tab) (hcl : ClsOk X ces cs) (hsz : cs.length ≤ 100) (ha : EvOk X Wx e Fe) (hg : Gl X "isinstance") (hm : X.mg "isinstance" = none)
    (he : starEach [e, .Tuple ces j p2] X.env = (false, eval e X.env) :: starEach [.Tuple ces j p2] X.env := by rfl) (he2 : starEach [.Tuple ces j p2] X.env = (false, eval (.Tuple ces j p2) X.env) :: starEach [] X.env := by rfl) (hp : (backTo pos (starEach [.Tuple ces j p2] X.env)).any (·.1) = false := by rfl) :
    EvOk X Wx (.Call (.Name "isinstance" p) [e, .Tuple ces j p2] [] pos) (eIsi tab Fe) := by
  obtain ⟨cvs, h1, h2, h3⟩ := hcl.ex
  exact ev_isiT hx ht h2 h1 (by omega) ha hg hm he he2 hp
end
end Dn
end OfLayT
section OfG08
set_option Elab.async false
set_option linter.all false
set_option maxRecDepth 100000
set_option maxHeartbeats 4000000
namespace K08
open PySem PySem.Spec PyProof.Rows L2 Dn
noncomputable section
def top (i : Nat) : Stmt := PySem.Challenge.pw_glowboard_k08_refusals_apart.main.body.getD i (.Pass ⟨0, 0, 0, 0⟩)
def inn (i j : Nat) : Stmt := match top i with
  | .ClassDef _ _ _ b _ _ _ _ _ _ _ => b.getD j (.Pass ⟨0, 0, 0, 0⟩)
  | _ => .Pass ⟨0, 0, 0, 0⟩
def xcs : List String := ["NoPicture", "NoSign", "TooWide", "OffBoard", "NoNote", "NoText", "NoScene", "Busy"]
def tab_tuple_list : List (Ty × Bool) := [(.b "NoneType", false), (.b "bool", false), (.b "int", false), (.b "str", false), (.b "tuple", true), (.b "list", true), (.b "dict", false), (.c "GlowError", false), (.c "NoPicture", false), (.c "NoTable", false), (.c "NoFont", false), (.c "NoSign", false), (.c "TooWide", false), (.c "NoLine", false), (.c "NoSpot", false), (.c "OffBoard", false), (.c "NoNote", false), (.c "NoText", false), (.c "NoScene", false), (.c "Busy", false), (.c "NoRow", false), (.c "NoBoard", false), (.c "NoName", false)]
def tab_tuple : List (Ty × Bool) := [(.b "NoneType", false), (.b "bool", false), (.b "int", false), (.b "str", false), (.b "tuple", true), (.b "list", false), (.b "dict", false), (.c "GlowError", false), (.c "NoPicture", false), (.c "NoTable", false), (.c "NoFont", false), (.c "NoSign", false), (.c "TooWide", false), (.c "NoLine", false), (.c "NoSpot", false), (.c "OffBoard", false), (.c "NoNote", false), (.c "NoText", false), (.c "NoScene", false), (.c "Busy", false), (.c "NoRow", false), (.c "NoBoard", false), (.c "NoName", false)]
def tab_list : List (Ty × Bool) := [(.b "NoneType", false), (.b "bool", false), (.b "int", false), (.b "str", false), (.b "tuple", false), (.b "list", true), (.b "dict", false), (.c "GlowError", false), (.c "NoPicture", false), (.c "NoTable", false), (.c "NoFont", false), (.c "NoSign", false), (.c "TooWide", false), (.c "NoLine", false), (.c "NoSpot", false), (.c "OffBoard", false), (.c "NoNote", false), (.c "NoText", false), (.c "NoScene", false), (.c "Busy", false), (.c "NoRow", false), (.c "NoBoard", false), (.c "NoName", false)]
def tab_bool : List (Ty × Bool) := [(.b "NoneType", false), (.b "bool", true), (.b "int", false), (.b "str", false), (.b "tuple", false), (.b "list", false), (.b "dict", false), (.c "GlowError", false), (.c "NoPicture", false), (.c "NoTable", false), (.c "NoFont", false), (.c "NoSign", false), (.c "TooWide", false), (.c "NoLine", false), (.c "NoSpot", false), (.c "OffBoard", false), (.c "NoNote", false), (.c "NoText", false), (.c "NoScene", false), (.c "Busy", false), (.c "NoRow", false), (.c "NoBoard", false), (.c "NoName", false)]
def tab_str : List (Ty × Bool) := [(.b "NoneType", false), (.b "bool", false), (.b "int", false), (.b "str", true), (.b "tuple", false), (.b "list", false), (.b "dict", false), (.c "GlowError", false), (.c "NoPicture", false), (.c "NoTable", false), (.c "NoFont", false), (.c "NoSign", false), (.c "TooWide", false), (.c "NoLine", false), (.c "NoSpot", false), (.c "OffBoard", false), (.c "NoNote", false), (.c "NoText", false), (.c "NoScene", false), (.c "Busy", false), (.c "NoRow", false), (.c "NoBoard", false), (.c "NoName", false)]
def tab_int : List (Ty × Bool) := [(.b "NoneType", false), (.b "bool", true), (.b "int", true), (.b "str", false), (.b "tuple", false), (.b "list", false), (.b "dict", false), (.c "GlowError", false), (.c "NoPicture", false), (.c "NoTable", false), (.c "NoFont", false), (.c "NoSign", false), (.c "TooWide", false), (.c "NoLine", false), (.c "NoSpot", false), (.c "OffBoard", false), (.c "NoNote", false), (.c "NoText", false), (.c "NoScene", false), (.c "Busy", false), (.c "NoRow", false), (.c "NoBoard", false), (.c "NoName", false)]
def tab_OffBoard : List (Ty × Bool) := [(.b "NoneType", false), (.b "bool", false), (.b "int", false), (.b "str", false), (.b "tuple", false), (.b "list", false), (.b "dict", false), (.c "GlowError", false), (.c "NoPicture", false), (.c "NoTable", false), (.c "NoFont", false), (.c "NoSign", false), (.c "TooWide", false), (.c "NoLine", false), (.c "NoSpot", false), (.c "OffBoard", true), (.c "NoNote", false), (.c "NoText", false), (.c "NoScene", false), (.c "Busy", false), (.c "NoRow", false), (.c "NoBoard", false), (.c "NoName", false)]
def tab_TooWide : List (Ty × Bool) := [(.b "NoneType", false), (.b "bool", false), (.b "int", false), (.b "str", false), (.b "tuple", false), (.b "list", false), (.b "dict", false), (.c "GlowError", false), (.c "NoPicture", false), (.c "NoTable", false), (.c "NoFont", false), (.c "NoSign", false), (.c "TooWide", true), (.c "NoLine", false), (.c "NoSpot", false), (.c "OffBoard", false), (.c "NoNote", false), (.c "NoText", false), (.c "NoScene", false), (.c "Busy", false), (.c "NoRow", false), (.c "NoBoard", false), (.c "NoName", false)]
def tab_NoSign : List (Ty × Bool) := [(.b "NoneType", false), (.b "bool", false), (.b "int", false), (.b "str", false), (.b "tuple", false), (.b "list", false), (.b "dict", false), (.c "GlowError", false), (.c "NoPicture", false), (.c "NoTable", false), (.c "NoFont", false), (.c "NoSign", true), (.c "TooWide", false), (.c "NoLine", false), (.c "NoSpot", false), (.c "OffBoard", false), (.c "NoNote", false), (.c "NoText", false), (.c "NoScene", false), (.c "Busy", false), (.c "NoRow", false), (.c "NoBoard", false), (.c "NoName", false)]
def tab_NoPicture : List (Ty × Bool) := [(.b "NoneType", false), (.b "bool", false), (.b "int", false), (.b "str", false), (.b "tuple", false), (.b "list", false), (.b "dict", false), (.c "GlowError", false), (.c "NoPicture", true), (.c "NoTable", false), (.c "NoFont", false), (.c "NoSign", false), (.c "TooWide", false), (.c "NoLine", false), (.c "NoSpot", false), (.c "OffBoard", false), (.c "NoNote", false), (.c "NoText", false), (.c "NoScene", false), (.c "Busy", false), (.c "NoRow", false), (.c "NoBoard", false), (.c "NoName", false)]
def tab_Busy : List (Ty × Bool) := [(.b "NoneType", false), (.b "bool", false), (.b "int", false), (.b "str", false), (.b "tuple", false), (.b "list", false), (.b "dict", false), (.c "GlowError", false), (.c "NoPicture", false), (.c "NoTable", false), (.c "NoFont", false), (.c "NoSign", false), (.c "TooWide", false), (.c "NoLine", false), (.c "NoSpot", false), (.c "OffBoard", false), (.c "NoNote", false), (.c "NoText", false), (.c "NoScene", false), (.c "Busy", true), (.c "NoRow", false), (.c "NoBoard", false), (.c "NoName", false)]
def tab_NoScene : List (Ty × Bool) := [(.b "NoneType", false), (.b "bool", false), (.b "int", false), (.b "str", false), (.b "tuple", false), (.b "list", false), (.b "dict", false), (.c "GlowError", false), (.c "NoPicture", false), (.c "NoTable", false), (.c "NoFont", false), (.c "NoSign", false), (.c "TooWide", false), (.c "NoLine", false), (.c "NoSpot", false), (.c "OffBoard", false), (.c "NoNote", false), (.c "NoText", false), (.c "NoScene", true), (.c "Busy", false), (.c "NoRow", false), (.c "NoBoard", false), (.c "NoName", false)]
def tab_NoText : List (Ty × Bool) := [(.b "NoneType", false), (.b "bool", false), (.b "int", false), (.b "str", false), (.b "tuple", false), (.b "list", false), (.b "dict", false), (.c "GlowError", false), (.c "NoPicture", false), (.c "NoTable", false), (.c "NoFont", false), (.c "NoSign", false), (.c "TooWide", false), (.c "NoLine", false), (.c "NoSpot", false), (.c "OffBoard", false), (.c "NoNote", false), (.c "NoText", true), (.c "NoScene", false), (.c "Busy", false), (.c "NoRow", false), (.c "NoBoard", false), (.c "NoName", false)]
def tab_NoNote : List (Ty × Bool) := [(.b "NoneType", false), (.b "bool", false), (.b "int", false), (.b "str", false), (.b "tuple", false), (.b "list", false), (.b "dict", false), (.c "GlowError", false), (.c "NoPicture", false), (.c "NoTable", false), (.c "NoFont", false), (.c "NoSign", false), (.c "TooWide", false), (.c "NoLine", false), (.c "NoSpot", false), (.c "OffBoard", false), (.c "NoNote", true), (.c "NoText", false), (.c "NoScene", false), (.c "Busy", false), (.c "NoRow", false), (.c "NoBoard", false), (.c "NoName", false)]
def tab_NoSpot : List (Ty × Bool) := [(.b "NoneType", false), (.b "bool", false), (.b "int", false), (.b "str", false), (.b "tuple", false), (.b "list", false), (.b "dict", false), (.c "GlowError", false), (.c "NoPicture", false), (.c "NoTable", false), (.c "NoFont", false), (.c "NoSign", false), (.c "TooWide", false), (.c "NoLine", false), (.c "NoSpot", true), (.c "OffBoard", false), (.c "NoNote", false), (.c "NoText", false), (.c "NoScene", false), (.c "Busy", false), (.c "NoRow", false), (.c "NoBoard", false), (.c "NoName", false)]
def tab_NoLine : List (Ty × Bool) := [(.b "NoneType", false), (.b "bool", false), (.b "int", false), (.b "str", false), (.b "tuple", false), (.b "list", false), (.b "dict", false), (.c "GlowError", false), (.c "NoPicture", false), (.c "NoTable", false), (.c "NoFont", false), (.c "NoSign", false), (.c "TooWide", false), (.c "NoLine", true), (.c "NoSpot", false), (.c "OffBoard", false), (.c "NoNote", false), (.c "NoText", false), (.c "NoScene", false), (.c "Busy", false), (.c "NoRow", false), (.c "NoBoard", false), (.c "NoName", false)]
def tab_NoFont : List (Ty × Bool) := [(.b "NoneType", false), (.b "bool", false), (.b "int", false), (.b "str", false), (.b "tuple", false), (.b "list", false), (.b "dict", false), (.c "GlowError", false), (.c "NoPicture", false), (.c "NoTable", false), (.c "NoFont", true), (.c "NoSign", false), (.c "TooWide", false), (.c "NoLine", false), (.c "NoSpot", false), (.c "OffBoard", false), (.c "NoNote", false), (.c "NoText", false), (.c "NoScene", false), (.c "Busy", false), (.c "NoRow", false), (.c "NoBoard", false), (.c "NoName", false)]
def tab_NoTable : List (Ty × Bool) := [(.b "NoneType", false), (.b "bool", false), (.b "int", false), (.b "str", false), (.b "tuple", false), (.b "list", false), (.b "dict", false), (.c "GlowError", false), (.c "NoPicture", false), (.c "NoTable", true), (.c "NoFont", false), (.c "NoSign", false), (.c "TooWide", false), (.c "NoLine", false), (.c "NoSpot", false), (.c "OffBoard", false), (.c "NoNote", false), (.c "NoText", false), (.c "NoScene", false), (.c "Busy", false), (.c "NoRow", false), (.c "NoBoard", false), (.c "NoName", false)]
def tab_NoName : List (Ty × Bool) := [(.b "NoneType", false), (.b "bool", false), (.b "int", false), (.b "str", false), (.b "tuple", false), (.b "list", false), (.b "dict", false), (.c "GlowError", false), (.c "NoPicture", false), (.c "NoTable", false), (.c "NoFont", false), (.c "NoSign", false), (.c "TooWide", false), (.c "NoLine", false), (.c "NoSpot", false), (.c "OffBoard", false), (.c "NoNote", false), (.c "NoText", false), (.c "NoScene", false), (.c "Busy", false), (.c "NoRow", false), (.c "NoBoard", false), (.c "NoName", true)]
def tab_NoBoard : List (Ty × Bool) := [(.b "NoneType", false), (.b "bool", false), (.b "int", false), (.b "str", false), (.b "tuple", false), (.b "list", false), (.b "dict", false), (.c "GlowError", false), (.c "NoPicture", false), (.c "NoTable", false), (.c "NoFont", false), (.c "NoSign", false), (.c "TooWide", false), (.c "NoLine", false), (.c "NoSpot", false), (.c "OffBoard", false), (.c "NoNote", false), (.c "NoText", false), (.c "NoScene", false), (.c "Busy", false), (.c "NoRow", false), (.c "NoBoard", true), (.c "NoName", false)]
def tab_NoRow : List (Ty × Bool) := [(.b "NoneType", false), (.b "bool", false), (.b "int", false), (.b "str", false), (.b "tuple", false), (.b "list", false), (.b "dict", false), (.c "GlowError", false), (.c "NoPicture", false), (.c "NoTable", false), (.c "NoFont", false), (.c "NoSign", false), (.c "TooWide", false), (.c "NoLine", false), (.c "NoSpot", false), (.c "OffBoard", false), (.c "NoNote", false), (.c "NoText", false), (.c "NoScene", false), (.c "Busy", false), (.c "NoRow", true), (.c "NoBoard", false), (.c "NoName", false)]
def tab_GlowError : List (Ty × Bool) := [(.b "NoneType", false), (.b "bool", false), (.b "int", false), (.b "str", false), (.b "tuple", false), (.b "list", false), (.b "dict", false), (.c "GlowError", true), (.c "NoPicture", true), (.c "NoTable", true), (.c "NoFont", true), (.c "NoSign", true), (.c "TooWide", true), (.c "NoLine", true), (.c "NoSpot", true), (.c "OffBoard", true), (.c "NoNote", true), (.c "NoText", true), (.c "NoScene", true), (.c "Busy", true), (.c "NoRow", true), (.c "NoBoard", true), (.c "NoName", true)]
def tab_ValueError : List (Ty × Bool) := [(.b "NoneType", false), (.b "bool", false), (.b "int", false), (.b "str", false), (.b "tuple", false), (.b "list", false), (.b "dict", false), (.c "GlowError", true), (.c "NoPicture", true), (.c "NoTable", true), (.c "NoFont", true), (.c "NoSign", true), (.c "TooWide", true), (.c "NoLine", true), (.c "NoSpot", true), (.c "OffBoard", true), (.c "NoNote", true), (.c "NoText", true), (.c "NoScene", true), (.c "Busy", true), (.c "NoRow", true), (.c "NoBoard", true), (.c "NoName", true)]
def xs : Xs := { all := ["GlowError", "NoPicture", "NoTable", "NoFont", "NoSign", "TooWide", "NoLine", "NoSpot", "OffBoard", "NoNote", "NoText", "NoScene", "Busy", "NoRow", "NoBoard", "NoName"], ini := ["NoPicture", "NoSign", "TooWide", "OffBoard", "NoNote", "NoText", "NoScene", "Busy"], no := ["GlowError", "NoTable", "NoFont", "NoLine", "NoSpot", "NoRow", "NoBoard", "NoName"], base := "GlowError", fld := [("row", ["NoPicture", "NoNote"]), ("sign", ["NoSign"]), ("at", ["NoSign", "NoText"]), ("word", ["TooWide"]), ("number", ["OffBoard"]), ("part", ["NoScene"]), ("owed", ["Busy"])], one := [(.b "tuple", tab_tuple), (.b "list", tab_list), (.b "bool", tab_bool), (.b "str", tab_str), (.b "int", tab_int), (.c "OffBoard", tab_OffBoard), (.c "TooWide", tab_TooWide), (.c "NoSign", tab_NoSign), (.c "NoPicture", tab_NoPicture), (.c "Busy", tab_Busy), (.c "NoScene", tab_NoScene), (.c "NoText", tab_NoText), (.c "NoNote", tab_NoNote), (.c "NoSpot", tab_NoSpot), (.c "NoLine", tab_NoLine), (.c "NoFont", tab_NoFont), (.c "NoTable", tab_NoTable), (.c "NoName", tab_NoName), (.c "NoBoard", tab_NoBoard), (.c "NoRow", tab_NoRow), (.c "GlowError", tab_GlowError), (.b "ValueError", tab_ValueError)], any := [([.b "tuple", .b "list"], tab_tuple_list)] }
abbrev s_NoPicture_init__ : Stmt := inn 2 0
abbrev d_NoPicture_init__ : He.DefD := ⟨("NoPicture", some "__init__"), "__init__", "NoPicture.__init__", defArgs s_NoPicture_init__, defBody s_NoPicture_init__, defScope s_NoPicture_init__, [], []⟩
abbrev s_NoSign_init__ : Stmt := inn 5 0
abbrev d_NoSign_init__ : He.DefD := ⟨("NoSign", some "__init__"), "__init__", "NoSign.__init__", defArgs s_NoSign_init__, defBody s_NoSign_init__, defScope s_NoSign_init__, [], []⟩
abbrev s_TooWide_init__ : Stmt := inn 6 0
abbrev d_TooWide_init__ : He.DefD := ⟨("TooWide", some "__init__"), "__init__", "TooWide.__init__", defArgs s_TooWide_init__, defBody s_TooWide_init__, defScope s_TooWide_init__, [], []⟩
abbrev s_OffBoard_init__ : Stmt := inn 9 0
abbrev d_OffBoard_init__ : He.DefD := ⟨("OffBoard", some "__init__"), "__init__", "OffBoard.__init__", defArgs s_OffBoard_init__, defBody s_OffBoard_init__, defScope s_OffBoard_init__, [], []⟩
abbrev s_NoNote_init__ : Stmt := inn 10 0
abbrev d_NoNote_init__ : He.DefD := ⟨("NoNote", some "__init__"), "__init__", "NoNote.__init__", defArgs s_NoNote_init__, defBody s_NoNote_init__, defScope s_NoNote_init__, [], []⟩
abbrev s_NoText_init__ : Stmt := inn 11 0
abbrev d_NoText_init__ : He.DefD := ⟨("NoText", some "__init__"), "__init__", "NoText.__init__", defArgs s_NoText_init__, defBody s_NoText_init__, defScope s_NoText_init__, [], []⟩
abbrev s_NoScene_init__ : Stmt := inn 12 0
abbrev d_NoScene_init__ : He.DefD := ⟨("NoScene", some "__init__"), "__init__", "NoScene.__init__", defArgs s_NoScene_init__, defBody s_NoScene_init__, defScope s_NoScene_init__, [], []⟩
abbrev s_Busy_init__ : Stmt := inn 13 0
abbrev d_Busy_init__ : He.DefD := ⟨("Busy", some "__init__"), "__init__", "Busy.__init__", defArgs s_Busy_init__, defBody s_Busy_init__, defScope s_Busy_init__, [], []⟩
abbrev s_law_draw : Stmt := top 18
abbrev d_law_draw : He.DefD := ⟨("_law_draw", none), "_law_draw", "_law_draw", defArgs s_law_draw, defBody s_law_draw, defScope s_law_draw, [], []⟩
abbrev s_law_great : Stmt := top 19
abbrev d_law_great : He.DefD := ⟨("_law_great", none), "_law_great", "_law_great", defArgs s_law_great, defBody s_law_great, defScope s_law_great, [], []⟩
abbrev s_law_alike : Stmt := top 20
abbrev d_law_alike : He.DefD := ⟨("_law_alike", none), "_law_alike", "_law_alike", defArgs s_law_alike, defBody s_law_alike, defScope s_law_alike, [], []⟩
abbrev s_law_made : Stmt := top 21
abbrev d_law_made : He.DefD := ⟨("_law_made", none), "_law_made", "_law_made", defArgs s_law_made, defBody s_law_made, defScope s_law_made, [], []⟩
abbrev s_law_kinds : Stmt := top 22
abbrev d_law_kinds : He.DefD := ⟨("_law_kinds", none), "_law_kinds", "_law_kinds", defArgs s_law_kinds, defBody s_law_kinds, defScope s_law_kinds, [], []⟩
abbrev s_law_fields : Stmt := top 23
abbrev d_law_fields : He.DefD := ⟨("_law_fields", none), "_law_fields", "_law_fields", defArgs s_law_fields, defBody s_law_fields, defScope s_law_fields, [], []⟩
abbrev s_law : Stmt := top 24
abbrev d_law : He.DefD := ⟨("law", none), "law", "law", defArgs s_law, defBody s_law, defScope s_law, [], []⟩
def fn : List He.DefD := [d_NoPicture_init__, d_NoSign_init__, d_TooWide_init__, d_OffBoard_init__, d_NoNote_init__, d_NoText_init__, d_NoScene_init__, d_Busy_init__, d_law_draw, d_law_great, d_law_alike, d_law_made, d_law_kinds, d_law_fields, d_law]
def faR : List He.Fa := [.free "len", .free "range", .free "all", .glo "_law_draw", .glo "_law_great", .glo "_law_alike", .glo "_law_made", .glo "_law_kinds", .glo "_law_fields", .glo "law", .free "isinstance", .free "tuple", .free "list", .free "bool", .free "str", .free "int", .free "ValueError"]
abbrev fa : List He.Fa := faX xs faR
abbrev TT (K : PySem.W.Frag) (mg : Str → Option Value) : Prop := Txt fa fn xs.ok K mg
theorem isi_tuple {X : Cx} {Wx : WX} {e : Expr} {p p2 pos : Pos} {Fe : EX} (T : TT X.K X.mg) (hgn : Gl X "tuple") (hg : Gl X "isinstance") (ha : EvOk X Wx e Fe)
    (he : starEach [e, .Name "tuple" p2] X.env = (false, eval e X.env) :: starEach [.Name "tuple" p2] X.env := by rfl) (he2 : starEach [.Name "tuple" p2] X.env = (false, eval (.Name "tuple" p2) X.env) :: starEach [] X.env := by rfl) (hp : (backTo pos (starEach [.Name "tuple" p2] X.env)).any (·.1) = false := by rfl) :
    EvOk X Wx (.Call (.Name "isinstance" p) [e, .Name "tuple" p2] [] pos) (eIsi tab_tuple Fe) := ev_isiB (T.excOk (by decide)) (T.tabOne (c := .b "tuple") (by simp [xs]) (by decide)) hgn (T.free 27) (by decide +kernel) ha hg (T.free 26) (by decide) (by decide) he he2 hp
theorem isi_list {X : Cx} {Wx : WX} {e : Expr} {p p2 pos : Pos} {Fe : EX} (T : TT X.K X.mg) (hgn : Gl X "list") (hg : Gl X "isinstance") (ha : EvOk X Wx e Fe)
    (he : starEach [e, .Name "list" p2] X.env = (false, eval e X.env) :: starEach [.Name "list" p2] X.env := by rfl) (he2 : starEach [.Name "list" p2] X.env = (false, eval (.Name "list" p2) X.env) :: starEach [] X.env := by rfl) (hp : (backTo pos (starEach [.Name "list" p2] X.env)).any (·.1) = false := by rfl) :
    EvOk X Wx (.Call (.Name "isinstance" p) [e, .Name "list" p2] [] pos) (eIsi tab_list Fe) := ev_isiB (T.excOk (by decide)) (T.tabOne (c := .b "list") (by simp [xs]) (by decide)) hgn (T.free 28) (by decide +kernel) ha hg (T.free 26) (by decide) (by decide) he he2 hp
theorem isi_bool {X : Cx} {Wx : WX} {e : Expr} {p p2 pos : Pos} {Fe : EX} (T : TT X.K X.mg) (hgn : Gl X "bool") (hg : Gl X "isinstance") (ha : EvOk X Wx e Fe)
    (he : starEach [e, .Name "bool" p2] X.env = (false, eval e X.env) :: starEach [.Name "bool" p2] X.env := by rfl) (he2 : starEach [.Name "bool" p2] X.env = (false, eval (.Name "bool" p2) X.env) :: starEach [] X.env := by rfl) (hp : (backTo pos (starEach [.Name "bool" p2] X.env)).any (·.1) = false := by rfl) :
    EvOk X Wx (.Call (.Name "isinstance" p) [e, .Name "bool" p2] [] pos) (eIsi tab_bool Fe) := ev_isiB (T.excOk (by decide)) (T.tabOne (c := .b "bool") (by simp [xs]) (by decide)) hgn (T.free 29) (by decide +kernel) ha hg (T.free 26) (by decide) (by decide) he he2 hp
theorem isi_str {X : Cx} {Wx : WX} {e : Expr} {p p2 pos : Pos} {Fe : EX} (T : TT X.K X.mg) (hgn : Gl X "str") (hg : Gl X "isinstance") (ha : EvOk X Wx e Fe)
    (he : starEach [e, .Name "str" p2] X.env = (false, eval e X.env) :: starEach [.Name "str" p2] X.env := by rfl) (he2 : starEach [.Name "str" p2] X.env = (false, eval (.Name "str" p2) X.env) :: starEach [] X.env := by rfl) (hp : (backTo pos (starEach [.Name "str" p2] X.env)).any (·.1) = false := by rfl) :
    EvOk X Wx (.Call (.Name "isinstance" p) [e, .Name "str" p2] [] pos) (eIsi tab_str Fe) := ev_isiB (T.excOk (by decide)) (T.tabOne (c := .b "str") (by simp [xs]) (by decide)) hgn (T.free 30) (by decide +kernel) ha hg (T.free 26) (by decide) (by decide) he he2 hp
theorem isi_int {X : Cx} {Wx : WX} {e : Expr} {p p2 pos : Pos} {Fe : EX} (T : TT X.K X.mg) (hgn : Gl X "int") (hg : Gl X "isinstance") (ha : EvOk X Wx e Fe)
    (he : starEach [e, .Name "int" p2] X.env = (false, eval e X.env) :: starEach [.Name "int" p2] X.env := by rfl) (he2 : starEach [.Name "int" p2] X.env = (false, eval (.Name "int" p2) X.env) :: starEach [] X.env := by rfl) (hp : (backTo pos (starEach [.Name "int" p2] X.env)).any (·.1) = false := by rfl) :
    EvOk X Wx (.Call (.Name "isinstance" p) [e, .Name "int" p2] [] pos) (eIsi tab_int Fe) := ev_isiB (T.excOk (by decide)) (T.tabOne (c := .b "int") (by simp [xs]) (by decide)) hgn (T.free 31) (by decide +kernel) ha hg (T.free 26) (by decide) (by decide) he he2 hp
theorem isi_OffBoard {X : Cx} {Wx : WX} {e : Expr} {p p2 pos : Pos} {Fe : EX} (T : TT X.K X.mg) (hgn : Gl X "OffBoard") (hg : Gl X "isinstance") (ha : EvOk X Wx e Fe)
    (he : starEach [e, .Name "OffBoard" p2] X.env = (false, eval e X.env) :: starEach [.Name "OffBoard" p2] X.env := by rfl) (he2 : starEach [.Name "OffBoard" p2] X.env = (false, eval (.Name "OffBoard" p2) X.env) :: starEach [] X.env := by rfl) (hp : (backTo pos (starEach [.Name "OffBoard" p2] X.env)).any (·.1) = false := by rfl) :
    EvOk X Wx (.Call (.Name "isinstance" p) [e, .Name "OffBoard" p2] [] pos) (eIsi tab_OffBoard Fe) := ev_isiO (T.excOk (by decide)) (T.tabOne (c := .c "OffBoard") (by simp [xs]) (by decide)) hgn (T.exg (by simp [xs])) ha hg (T.free 26) (by decide) he he2 hp
theorem isi_TooWide {X : Cx} {Wx : WX} {e : Expr} {p p2 pos : Pos} {Fe : EX} (T : TT X.K X.mg) (hgn : Gl X "TooWide") (hg : Gl X "isinstance") (ha : EvOk X Wx e Fe)
    (he : starEach [e, .Name "TooWide" p2] X.env = (false, eval e X.env) :: starEach [.Name "TooWide" p2] X.env := by rfl) (he2 : starEach [.Name "TooWide" p2] X.env = (false, eval (.Name "TooWide" p2) X.env) :: starEach [] X.env := by rfl) (hp : (backTo pos (starEach [.Name "TooWide" p2] X.env)).any (·.1) = false := by rfl) :
    EvOk X Wx (.Call (.Name "isinstance" p) [e, .Name "TooWide" p2] [] pos) (eIsi tab_TooWide Fe) := ev_isiO (T.excOk (by decide)) (T.tabOne (c := .c "TooWide") (by simp [xs]) (by decide)) hgn (T.exg (by simp [xs])) ha hg (T.free 26) (by decide) he he2 hp
theorem isi_NoSign {X : Cx} {Wx : WX} {e : Expr} {p p2 pos : Pos} {Fe : EX} (T : TT X.K X.mg) (hgn : Gl X "NoSign") (hg : Gl X "isinstance") (ha : EvOk X Wx e Fe)
    (he : starEach [e, .Name "NoSign" p2] X.env = (false, eval e X.env) :: starEach [.Name "NoSign" p2] X.env := by rfl) (he2 : starEach [.Name "NoSign" p2] X.env = (false, eval (.Name "NoSign" p2) X.env) :: starEach [] X.env := by rfl) (hp : (backTo pos (starEach [.Name "NoSign" p2] X.env)).any (·.1) = false := by rfl) :
    EvOk X Wx (.Call (.Name "isinstance" p) [e, .Name "NoSign" p2] [] pos) (eIsi tab_NoSign Fe) := ev_isiO (T.excOk (by decide)) (T.tabOne (c := .c "NoSign") (by simp [xs]) (by decide)) hgn (T.exg (by simp [xs])) ha hg (T.free 26) (by decide) he he2 hp
theorem isi_NoPicture {X : Cx} {Wx : WX} {e : Expr} {p p2 pos : Pos} {Fe : EX} (T : TT X.K X.mg) (hgn : Gl X "NoPicture") (hg : Gl X "isinstance") (ha : EvOk X Wx e Fe)
    (he : starEach [e, .Name "NoPicture" p2] X.env = (false, eval e X.env) :: starEach [.Name "NoPicture" p2] X.env := by rfl) (he2 : starEach [.Name "NoPicture" p2] X.env = (false, eval (.Name "NoPicture" p2) X.env) :: starEach [] X.env := by rfl) (hp : (backTo pos (starEach [.Name "NoPicture" p2] X.env)).any (·.1) = false := by rfl) :
    EvOk X Wx (.Call (.Name "isinstance" p) [e, .Name "NoPicture" p2] [] pos) (eIsi tab_NoPicture Fe) := ev_isiO (T.excOk (by decide)) (T.tabOne (c := .c "NoPicture") (by simp [xs]) (by decide)) hgn (T.exg (by simp [xs])) ha hg (T.free 26) (by decide) he he2 hp
theorem isi_Busy {X : Cx} {Wx : WX} {e : Expr} {p p2 pos : Pos} {Fe : EX} (T : TT X.K X.mg) (hgn : Gl X "Busy") (hg : Gl X "isinstance") (ha : EvOk X Wx e Fe)
    (he : starEach [e, .Name "Busy" p2] X.env = (false, eval e X.env) :: starEach [.Name "Busy" p2] X.env := by rfl) (he2 : starEach [.Name "Busy" p2] X.env = (false, eval (.Name "Busy" p2) X.env) :: starEach [] X.env := by rfl) (hp : (backTo pos (starEach [.Name "Busy" p2] X.env)).any (·.1) = false := by rfl) :
    EvOk X Wx (.Call (.Name "isinstance" p) [e, .Name "Busy" p2] [] pos) (eIsi tab_Busy Fe) := ev_isiO (T.excOk (by decide)) (T.tabOne (c := .c "Busy") (by simp [xs]) (by decide)) hgn (T.exg (by simp [xs])) ha hg (T.free 26) (by decide) he he2 hp
theorem isi_NoScene {X : Cx} {Wx : WX} {e : Expr} {p p2 pos : Pos} {Fe : EX} (T : TT X.K X.mg) (hgn : Gl X "NoScene") (hg : Gl X "isinstance") (ha : EvOk X Wx e Fe)
    (he : starEach [e, .Name "NoScene" p2] X.env = (false, eval e X.env) :: starEach [.Name "NoScene" p2] X.env := by rfl) (he2 : starEach [.Name "NoScene" p2] X.env = (false, eval (.Name "NoScene" p2) X.env) :: starEach [] X.env := by rfl) (hp : (backTo pos (starEach [.Name "NoScene" p2] X.env)).any (·.1) = false := by rfl) :
    EvOk X Wx (.Call (.Name "isinstance" p) [e, .Name "NoScene" p2] [] pos) (eIsi tab_NoScene Fe) := ev_isiO (T.excOk (by decide)) (T.tabOne (c := .c "NoScene") (by simp [xs]) (by decide)) hgn (T.exg (by simp [xs])) ha hg (T.free 26) (by decide) he he2 hp
theorem isi_NoText {X : Cx} {Wx : WX} {e : Expr} {p p2 pos : Pos} {Fe : EX} (T : TT X.K X.mg) (hgn : Gl X "NoText") (hg : Gl X "isinstance") (ha : EvOk X Wx e Fe)
    (he : starEach [e, .Name "NoText" p2] X.env = (false, eval e X.env) :: starEach [.Name "NoText" p2] X.env := by rfl) (he2 : starEach [.Name "NoText" p2] X.env = (false, eval (.Name "NoText" p2) X.env) :: starEach [] X.env := by rfl) (hp : (backTo pos (starEach [.Name "NoText" p2] X.env)).any (·.1) = false := by rfl) :
    EvOk X Wx (.Call (.Name "isinstance" p) [e, .Name "NoText" p2] [] pos) (eIsi tab_NoText Fe) := ev_isiO (T.excOk (by decide)) (T.tabOne (c := .c "NoText") (by simp [xs]) (by decide)) hgn (T.exg (by simp [xs])) ha hg (T.free 26) (by decide) he he2 hp
theorem isi_NoNote {X : Cx} {Wx : WX} {e : Expr} {p p2 pos : Pos} {Fe : EX} (T : TT X.K X.mg) (hgn : Gl X "NoNote") (hg : Gl X "isinstance") (ha : EvOk X Wx e Fe)
    (he : starEach [e, .Name "NoNote" p2] X.env = (false, eval e X.env) :: starEach [.Name "NoNote" p2] X.env := by rfl) (he2 : starEach [.Name "NoNote" p2] X.env = (false, eval (.Name "NoNote" p2) X.env) :: starEach [] X.env := by rfl) (hp : (backTo pos (starEach [.Name "NoNote" p2] X.env)).any (·.1) = false := by rfl) :
    EvOk X Wx (.Call (.Name "isinstance" p) [e, .Name "NoNote" p2] [] pos) (eIsi tab_NoNote Fe) := ev_isiO (T.excOk (by decide)) (T.tabOne (c := .c "NoNote") (by simp [xs]) (by decide)) hgn (T.exg (by simp [xs])) ha hg (T.free 26) (by decide) he he2 hp
theorem isi_NoSpot {X : Cx} {Wx : WX} {e : Expr} {p p2 pos : Pos} {Fe : EX} (T : TT X.K X.mg) (hgn : Gl X "NoSpot") (hg : Gl X "isinstance") (ha : EvOk X Wx e Fe)
    (he : starEach [e, .Name "NoSpot" p2] X.env = (false, eval e X.env) :: starEach [.Name "NoSpot" p2] X.env := by rfl) (he2 : starEach [.Name "NoSpot" p2] X.env = (false, eval (.Name "NoSpot" p2) X.env) :: starEach [] X.env := by rfl) (hp : (backTo pos (starEach [.Name "NoSpot" p2] X.env)).any (·.1) = false := by rfl) :
    EvOk X Wx (.Call (.Name "isinstance" p) [e, .Name "NoSpot" p2] [] pos) (eIsi tab_NoSpot Fe) := ev_isiO (T.excOk (by decide)) (T.tabOne (c := .c "NoSpot") (by simp [xs]) (by decide)) hgn (T.exg (by simp [xs])) ha hg (T.free 26) (by decide) he he2 hp
theorem isi_NoLine {X : Cx} {Wx : WX} {e : Expr} {p p2 pos : Pos} {Fe : EX} (T : TT X.K X.mg) (hgn : Gl X "NoLine") (hg : Gl X "isinstance") (ha : EvOk X Wx e Fe)
    (he : starEach [e, .Name "NoLine" p2] X.env = (false, eval e X.env) :: starEach [.Name "NoLine" p2] X.env := by rfl) (he2 : starEach [.Name "NoLine" p2] X.env = (false, eval (.Name "NoLine" p2) X.env) :: starEach [] X.env := by rfl) (hp : (backTo pos (starEach [.Name "NoLine" p2] X.env)).any (·.1) = false := by rfl) :
    EvOk X Wx (.Call (.Name "isinstance" p) [e, .Name "NoLine" p2] [] pos) (eIsi tab_NoLine Fe) := ev_isiO (T.excOk (by decide)) (T.tabOne (c := .c "NoLine") (by simp [xs]) (by decide)) hgn (T.exg (by simp [xs])) ha hg (T.free 26) (by decide) he he2 hp
theorem isi_NoFont {X : Cx} {Wx : WX} {e : Expr} {p p2 pos : Pos} {Fe : EX} (T : TT X.K X.mg) (hgn : Gl X "NoFont") (hg : Gl X "isinstance") (ha : EvOk X Wx e Fe)
    (he : starEach [e, .Name "NoFont" p2] X.env = (false, eval e X.env) :: starEach [.Name "NoFont" p2] X.env := by rfl) (he2 : starEach [.Name "NoFont" p2] X.env = (false, eval (.Name "NoFont" p2) X.env) :: starEach [] X.env := by rfl) (hp : (backTo pos (starEach [.Name "NoFont" p2] X.env)).any (·.1) = false := by rfl) :
    EvOk X Wx (.Call (.Name "isinstance" p) [e, .Name "NoFont" p2] [] pos) (eIsi tab_NoFont Fe) := ev_isiO (T.excOk (by decide)) (T.tabOne (c := .c "NoFont") (by simp [xs]) (by decide)) hgn (T.exg (by simp [xs])) ha hg (T.free 26) (by decide) he he2 hp
theorem isi_NoTable {X : Cx} {Wx : WX} {e : Expr} {p p2 pos : Pos} {Fe : EX} (T : TT X.K X.mg) (hgn : Gl X "NoTable") (hg : Gl X "isinstance") (ha : EvOk X Wx e Fe)
    (he : starEach [e, .Name "NoTable" p2] X.env = (false, eval e X.env) :: starEach [.Name "NoTable" p2] X.env := by rfl) (he2 : starEach [.Name "NoTable" p2] X.env = (false, eval (.Name "NoTable" p2) X.env) :: starEach [] X.env := by rfl) (hp : (backTo pos (starEach [.Name "NoTable" p2] X.env)).any (·.1) = false := by rfl) :
    EvOk X Wx (.Call (.Name "isinstance" p) [e, .Name "NoTable" p2] [] pos) (eIsi tab_NoTable Fe) := ev_isiO (T.excOk (by decide)) (T.tabOne (c := .c "NoTable") (by simp [xs]) (by decide)) hgn (T.exg (by simp [xs])) ha hg (T.free 26) (by decide) he he2 hp
theorem isi_NoName {X : Cx} {Wx : WX} {e : Expr} {p p2 pos : Pos} {Fe : EX} (T : TT X.K X.mg) (hgn : Gl X "NoName") (hg : Gl X "isinstance") (ha : EvOk X Wx e Fe)
    (he : starEach [e, .Name "NoName" p2] X.env = (false, eval e X.env) :: starEach [.Name "NoName" p2] X.env := by rfl) (he2 : starEach [.Name "NoName" p2] X.env = (false, eval (.Name "NoName" p2) X.env) :: starEach [] X.env := by rfl) (hp : (backTo pos (starEach [.Name "NoName" p2] X.env)).any (·.1) = false := by rfl) :
    EvOk X Wx (.Call (.Name "isinstance" p) [e, .Name "NoName" p2] [] pos) (eIsi tab_NoName Fe) := ev_isiO (T.excOk (by decide)) (T.tabOne (c := .c "NoName") (by simp [xs]) (by decide)) hgn (T.exg (by simp [xs])) ha hg (T.free 26) (by decide) he he2 hp
theorem isi_NoBoard {X : Cx} {Wx : WX} {e : Expr} {p p2 pos : Pos} {Fe : EX} (T : TT X.K X.mg) (hgn : Gl X "NoBoard") (hg : Gl X "isinstance") (ha : EvOk X Wx e Fe)
    (he : starEach [e, .Name "NoBoard" p2] X.env = (false, eval e X.env) :: starEach [.Name "NoBoard" p2] X.env := by rfl) (he2 : starEach [.Name "NoBoard" p2] X.env = (false, eval (.Name "NoBoard" p2) X.env) :: starEach [] X.env := by rfl) (hp : (backTo pos (starEach [.Name "NoBoard" p2] X.env)).any (·.1) = false := by rfl) :
    EvOk X Wx (.Call (.Name "isinstance" p) [e, .Name "NoBoard" p2] [] pos) (eIsi tab_NoBoard Fe) := ev_isiO (T.excOk (by decide)) (T.tabOne (c := .c "NoBoard") (by simp [xs]) (by decide)) hgn (T.exg (by simp [xs])) ha hg (T.free 26) (by decide) he he2 hp
theorem isi_NoRow {X : Cx} {Wx : WX} {e : Expr} {p p2 pos : Pos} {Fe : EX} (T : TT X.K X.mg) (hgn : Gl X "NoRow") (hg : Gl X "isinstance") (ha : EvOk X Wx e Fe)
    (he : starEach [e, .Name "NoRow" p2] X.env = (false, eval e X.env) :: starEach [.Name "NoRow" p2] X.env := by rfl) (he2 : starEach [.Name "NoRow" p2] X.env = (false, eval (.Name "NoRow" p2) X.env) :: starEach [] X.env := by rfl) (hp : (backTo pos (starEach [.Name "NoRow" p2] X.env)).any (·.1) = false := by rfl) :
    EvOk X Wx (.Call (.Name "isinstance" p) [e, .Name "NoRow" p2] [] pos) (eIsi tab_NoRow Fe) := ev_isiO (T.excOk (by decide)) (T.tabOne (c := .c "NoRow") (by simp [xs]) (by decide)) hgn (T.exg (by simp [xs])) ha hg (T.free 26) (by decide) he he2 hp
theorem isi_GlowError {X : Cx} {Wx : WX} {e : Expr} {p p2 pos : Pos} {Fe : EX} (T : TT X.K X.mg) (hgn : Gl X "GlowError") (hg : Gl X "isinstance") (ha : EvOk X Wx e Fe)
    (he : starEach [e, .Name "GlowError" p2] X.env = (false, eval e X.env) :: starEach [.Name "GlowError" p2] X.env := by rfl) (he2 : starEach [.Name "GlowError" p2] X.env = (false, eval (.Name "GlowError" p2) X.env) :: starEach [] X.env := by rfl) (hp : (backTo pos (starEach [.Name "GlowError" p2] X.env)).any (·.1) = false := by rfl) :
    EvOk X Wx (.Call (.Name "isinstance" p) [e, .Name "GlowError" p2] [] pos) (eIsi tab_GlowError Fe) := ev_isiO (T.excOk (by decide)) (T.tabOne (c := .c "GlowError") (by simp [xs]) (by decide)) hgn (T.exg (by simp [xs])) ha hg (T.free 26) (by decide) he he2 hp
theorem isi_ValueError {X : Cx} {Wx : WX} {e : Expr} {p p2 pos : Pos} {Fe : EX} (T : TT X.K X.mg) (hgn : Gl X "ValueError") (hg : Gl X "isinstance") (ha : EvOk X Wx e Fe)
    (he : starEach [e, .Name "ValueError" p2] X.env = (false, eval e X.env) :: starEach [.Name "ValueError" p2] X.env := by rfl) (he2 : starEach [.Name "ValueError" p2] X.env = (false, eval (.Name "ValueError" p2) X.env) :: starEach [] X.env := by rfl) (hp : (backTo pos (starEach [.Name "ValueError" p2] X.env)).any (·.1) = false := by rfl) :
    EvOk X Wx (.Call (.Name "isinstance" p) [e, .Name "ValueError" p2] [] pos) (eIsi tab_ValueError Fe) := ev_isiB (T.excOk (by decide)) (T.tabOne (c := .b "ValueError") (by simp [xs]) (by decide)) hgn (T.free 32) (by decide +kernel) ha hg (T.free 26) (by decide) (by decide) he he2 hp
section
variable {P : Program} {w : World} {K : PySem.W.Frag} {mg : Str → Option Value} {base : Heap}
/-! NoPicture_init__ -/
abbrev N_NoPicture_init__ : List Str := ["self", "row"]
abbrev ps_NoPicture_init__ : List Str := ["self", "row"]
theorem sc_NoPicture_init__ : FnScope N_NoPicture_init__ ps_NoPicture_init__ d_NoPicture_init__.scope := ⟨rfl, rfl, rfl, by decide +kernel, rfl, by decide +kernel, by decide +kernel⟩
theorem bn_NoPicture_init__ : BindN d_NoPicture_init__ ps_NoPicture_init__ := fun _ _ _ _ _ _ us hl => match us, hl with | [_, _], _ => rfl
def bd_NoPicture_init__ : SX := (sSeq (sDrop (eXInit xcs (aCons (eName 0) (aCons (eC (.str "no picture")) aNil)))) (sXFld ["NoPicture", "NoNote"] (eName 0) "row" (eName 1)))
def den_NoPicture_init__ : Fn := defD 2 2 bd_NoPicture_init__
theorem bo_NoPicture_init__ (T : TT K mg) : BodyOk P w K mg base 0 N_NoPicture_init__ d_NoPicture_init__ bd_NoPicture_init__ :=
  fun f cdv A outer s H E hr hgd => by
    have hN := (sc_NoPicture_init__).nd
    have tk : Takes (cxOf (L2.CX P w) P w K mg base N_NoPicture_init__ d_NoPicture_init__.qual d_NoPicture_init__.scope f cdv A outer s H E) (WxE E) := takes_of rfl rfl rfl rfl
    have hu := hr.units
    have hu1 : (A.deeper (envOfC d_NoPicture_init__.qual d_NoPicture_init__.scope s.heap.objs.size f cdv)).units + 1 < cLine := by omega
    have hu2 : (A.deeper (envOfC d_NoPicture_init__.qual d_NoPicture_init__.scope s.heap.objs.size f cdv)).units + 66 < cLine := by have := hr.un; omega
    have hpo : PassesOwn (model P w) (A.deeper (envOfC d_NoPicture_init__.qual d_NoPicture_init__.scope s.heap.objs.size f cdv)) (envOfC d_NoPicture_init__.qual d_NoPicture_init__.scope s.heap.objs.size f cdv) (cxOf (L2.CX P w) P w K mg base N_NoPicture_init__ d_NoPicture_init__.qual d_NoPicture_init__.scope f cdv A outer s H E).xe := passes_of (X := cxOf (L2.CX P w) P w K mg base N_NoPicture_init__ d_NoPicture_init__.qual d_NoPicture_init__.scope f cdv A outer s H E) rfl
    exact (ss_cons (st_drop (ev_xinit (T.oex (by decide)) T.parts.2.2.2.1 rfl (T.exg (by simp [xs])) (ar_cons (ev_name 0) (ar_cons ev_str ar_nil)))) (ss_one (st_xfld (T.oex (by decide)) (T.xfld (by simp [xs]) (by decide)) (ev_name 1) (ev_name 0))))
theorem ok_NoPicture_init__ (T : TT K mg) : InitOk P w K mg base 1 "NoPicture" [] den_NoPicture_init__ :=
  T.init 0 (d := d_NoPicture_init__) (ps := ps_NoPicture_init__) (N := N_NoPicture_init__) (k := 0) rfl (by simp [xs]) (by simp [xs]) rfl sc_NoPicture_init__ bn_NoPicture_init__ rfl (bo_NoPicture_init__ T)
/-! NoSign_init__ -/
abbrev N_NoSign_init__ : List Str := ["self", "sign", "at"]
abbrev ps_NoSign_init__ : List Str := ["self", "sign", "at"]
theorem sc_NoSign_init__ : FnScope N_NoSign_init__ ps_NoSign_init__ d_NoSign_init__.scope := ⟨rfl, rfl, rfl, by decide +kernel, rfl, by decide +kernel, by decide +kernel⟩
theorem bn_NoSign_init__ : BindN d_NoSign_init__ ps_NoSign_init__ := fun _ _ _ _ _ _ us hl => match us, hl with | [_, _, _], _ => rfl
def bd_NoSign_init__ : SX := (sSeq (sDrop (eXInit xcs (aCons (eName 0) (aCons (eC (.str "a sign without a picture")) aNil)))) (sSeq (sXFld ["NoSign"] (eName 0) "sign" (eName 1)) (sXFld ["NoSign", "NoText"] (eName 0) "at" (eName 2))))
def den_NoSign_init__ : Fn := defD 3 3 bd_NoSign_init__
theorem bo_NoSign_init__ (T : TT K mg) : BodyOk P w K mg base 0 N_NoSign_init__ d_NoSign_init__ bd_NoSign_init__ :=
  fun f cdv A outer s H E hr hgd => by
    have hN := (sc_NoSign_init__).nd
    have tk : Takes (cxOf (L2.CX P w) P w K mg base N_NoSign_init__ d_NoSign_init__.qual d_NoSign_init__.scope f cdv A outer s H E) (WxE E) := takes_of rfl rfl rfl rfl
    have hu := hr.units
    have hu1 : (A.deeper (envOfC d_NoSign_init__.qual d_NoSign_init__.scope s.heap.objs.size f cdv)).units + 1 < cLine := by omega
    have hu2 : (A.deeper (envOfC d_NoSign_init__.qual d_NoSign_init__.scope s.heap.objs.size f cdv)).units + 66 < cLine := by have := hr.un; omega
    have hpo : PassesOwn (model P w) (A.deeper (envOfC d_NoSign_init__.qual d_NoSign_init__.scope s.heap.objs.size f cdv)) (envOfC d_NoSign_init__.qual d_NoSign_init__.scope s.heap.objs.size f cdv) (cxOf (L2.CX P w) P w K mg base N_NoSign_init__ d_NoSign_init__.qual d_NoSign_init__.scope f cdv A outer s H E).xe := passes_of (X := cxOf (L2.CX P w) P w K mg base N_NoSign_init__ d_NoSign_init__.qual d_NoSign_init__.scope f cdv A outer s H E) rfl
    exact (ss_cons (st_drop (ev_xinit (T.oex (by decide)) T.parts.2.2.2.1 rfl (T.exg (by simp [xs])) (ar_cons (ev_name 0) (ar_cons ev_str ar_nil)))) (ss_cons (st_xfld (T.oex (by decide)) (T.xfld (by simp [xs]) (by decide)) (ev_name 1) (ev_name 0)) (ss_one (st_xfld (T.oex (by decide)) (T.xfld (by simp [xs]) (by decide)) (ev_name 2) (ev_name 0)))))
theorem ok_NoSign_init__ (T : TT K mg) : InitOk P w K mg base 1 "NoSign" [] den_NoSign_init__ :=
  T.init 1 (d := d_NoSign_init__) (ps := ps_NoSign_init__) (N := N_NoSign_init__) (k := 0) rfl (by simp [xs]) (by simp [xs]) rfl sc_NoSign_init__ bn_NoSign_init__ rfl (bo_NoSign_init__ T)
/-! TooWide_init__ -/
abbrev N_TooWide_init__ : List Str := ["self", "word"]
abbrev ps_TooWide_init__ : List Str := ["self", "word"]
theorem sc_TooWide_init__ : FnScope N_TooWide_init__ ps_TooWide_init__ d_TooWide_init__.scope := ⟨rfl, rfl, rfl, by decide +kernel, rfl, by decide +kernel, by decide +kernel⟩
theorem bn_TooWide_init__ : BindN d_TooWide_init__ ps_TooWide_init__ := fun _ _ _ _ _ _ us hl => match us, hl with | [_, _], _ => rfl
def bd_TooWide_init__ : SX := (sSeq (sDrop (eXInit xcs (aCons (eName 0) (aCons (eC (.str "a word that is too wide")) aNil)))) (sXFld ["TooWide"] (eName 0) "word" (eName 1)))
def den_TooWide_init__ : Fn := defD 2 2 bd_TooWide_init__
theorem bo_TooWide_init__ (T : TT K mg) : BodyOk P w K mg base 0 N_TooWide_init__ d_TooWide_init__ bd_TooWide_init__ :=
  fun f cdv A outer s H E hr hgd => by
    have hN := (sc_TooWide_init__).nd
    have tk : Takes (cxOf (L2.CX P w) P w K mg base N_TooWide_init__ d_TooWide_init__.qual d_TooWide_init__.scope f cdv A outer s H E) (WxE E) := takes_of rfl rfl rfl rfl
    have hu := hr.units
    have hu1 : (A.deeper (envOfC d_TooWide_init__.qual d_TooWide_init__.scope s.heap.objs.size f cdv)).units + 1 < cLine := by omega
    have hu2 : (A.deeper (envOfC d_TooWide_init__.qual d_TooWide_init__.scope s.heap.objs.size f cdv)).units + 66 < cLine := by have := hr.un; omega
    have hpo : PassesOwn (model P w) (A.deeper (envOfC d_TooWide_init__.qual d_TooWide_init__.scope s.heap.objs.size f cdv)) (envOfC d_TooWide_init__.qual d_TooWide_init__.scope s.heap.objs.size f cdv) (cxOf (L2.CX P w) P w K mg base N_TooWide_init__ d_TooWide_init__.qual d_TooWide_init__.scope f cdv A outer s H E).xe := passes_of (X := cxOf (L2.CX P w) P w K mg base N_TooWide_init__ d_TooWide_init__.qual d_TooWide_init__.scope f cdv A outer s H E) rfl
    exact (ss_cons (st_drop (ev_xinit (T.oex (by decide)) T.parts.2.2.2.1 rfl (T.exg (by simp [xs])) (ar_cons (ev_name 0) (ar_cons ev_str ar_nil)))) (ss_one (st_xfld (T.oex (by decide)) (T.xfld (by simp [xs]) (by decide)) (ev_name 1) (ev_name 0))))
theorem ok_TooWide_init__ (T : TT K mg) : InitOk P w K mg base 1 "TooWide" [] den_TooWide_init__ :=
  T.init 2 (d := d_TooWide_init__) (ps := ps_TooWide_init__) (N := N_TooWide_init__) (k := 0) rfl (by simp [xs]) (by simp [xs]) rfl sc_TooWide_init__ bn_TooWide_init__ rfl (bo_TooWide_init__ T)
/-! OffBoard_init__ -/
abbrev N_OffBoard_init__ : List Str := ["self", "number"]
abbrev ps_OffBoard_init__ : List Str := ["self", "number"]
theorem sc_OffBoard_init__ : FnScope N_OffBoard_init__ ps_OffBoard_init__ d_OffBoard_init__.scope := ⟨rfl, rfl, rfl, by decide +kernel, rfl, by decide +kernel, by decide +kernel⟩
theorem bn_OffBoard_init__ : BindN d_OffBoard_init__ ps_OffBoard_init__ := fun _ _ _ _ _ _ us hl => match us, hl with | [_, _], _ => rfl
def bd_OffBoard_init__ : SX := (sSeq (sDrop (eXInit xcs (aCons (eName 0) (aCons (eC (.str "a stretch off the board")) aNil)))) (sXFld ["OffBoard"] (eName 0) "number" (eName 1)))
def den_OffBoard_init__ : Fn := defD 2 2 bd_OffBoard_init__
theorem bo_OffBoard_init__ (T : TT K mg) : BodyOk P w K mg base 0 N_OffBoard_init__ d_OffBoard_init__ bd_OffBoard_init__ :=
  fun f cdv A outer s H E hr hgd => by
    have hN := (sc_OffBoard_init__).nd
    have tk : Takes (cxOf (L2.CX P w) P w K mg base N_OffBoard_init__ d_OffBoard_init__.qual d_OffBoard_init__.scope f cdv A outer s H E) (WxE E) := takes_of rfl rfl rfl rfl
    have hu := hr.units
    have hu1 : (A.deeper (envOfC d_OffBoard_init__.qual d_OffBoard_init__.scope s.heap.objs.size f cdv)).units + 1 < cLine := by omega
    have hu2 : (A.deeper (envOfC d_OffBoard_init__.qual d_OffBoard_init__.scope s.heap.objs.size f cdv)).units + 66 < cLine := by have := hr.un; omega
    have hpo : PassesOwn (model P w) (A.deeper (envOfC d_OffBoard_init__.qual d_OffBoard_init__.scope s.heap.objs.size f cdv)) (envOfC d_OffBoard_init__.qual d_OffBoard_init__.scope s.heap.objs.size f cdv) (cxOf (L2.CX P w) P w K mg base N_OffBoard_init__ d_OffBoard_init__.qual d_OffBoard_init__.scope f cdv A outer s H E).xe := passes_of (X := cxOf (L2.CX P w) P w K mg base N_OffBoard_init__ d_OffBoard_init__.qual d_OffBoard_init__.scope f cdv A outer s H E) rfl
    exact (ss_cons (st_drop (ev_xinit (T.oex (by decide)) T.parts.2.2.2.1 rfl (T.exg (by simp [xs])) (ar_cons (ev_name 0) (ar_cons ev_str ar_nil)))) (ss_one (st_xfld (T.oex (by decide)) (T.xfld (by simp [xs]) (by decide)) (ev_name 1) (ev_name 0))))
theorem ok_OffBoard_init__ (T : TT K mg) : InitOk P w K mg base 1 "OffBoard" [] den_OffBoard_init__ :=
  T.init 3 (d := d_OffBoard_init__) (ps := ps_OffBoard_init__) (N := N_OffBoard_init__) (k := 0) rfl (by simp [xs]) (by simp [xs]) rfl sc_OffBoard_init__ bn_OffBoard_init__ rfl (bo_OffBoard_init__ T)
/-! NoNote_init__ -/
abbrev N_NoNote_init__ : List Str := ["self", "row"]
abbrev ps_NoNote_init__ : List Str := ["self", "row"]
theorem sc_NoNote_init__ : FnScope N_NoNote_init__ ps_NoNote_init__ d_NoNote_init__.scope := ⟨rfl, rfl, rfl, by decide +kernel, rfl, by decide +kernel, by decide +kernel⟩
theorem bn_NoNote_init__ : BindN d_NoNote_init__ ps_NoNote_init__ := fun _ _ _ _ _ _ us hl => match us, hl with | [_, _], _ => rfl
def bd_NoNote_init__ : SX := (sSeq (sDrop (eXInit xcs (aCons (eName 0) (aCons (eC (.str "no stretch is noted so")) aNil)))) (sXFld ["NoPicture", "NoNote"] (eName 0) "row" (eName 1)))
def den_NoNote_init__ : Fn := defD 2 2 bd_NoNote_init__
theorem bo_NoNote_init__ (T : TT K mg) : BodyOk P w K mg base 0 N_NoNote_init__ d_NoNote_init__ bd_NoNote_init__ :=
  fun f cdv A outer s H E hr hgd => by
    have hN := (sc_NoNote_init__).nd
    have tk : Takes (cxOf (L2.CX P w) P w K mg base N_NoNote_init__ d_NoNote_init__.qual d_NoNote_init__.scope f cdv A outer s H E) (WxE E) := takes_of rfl rfl rfl rfl
    have hu := hr.units
    have hu1 : (A.deeper (envOfC d_NoNote_init__.qual d_NoNote_init__.scope s.heap.objs.size f cdv)).units + 1 < cLine := by omega
    have hu2 : (A.deeper (envOfC d_NoNote_init__.qual d_NoNote_init__.scope s.heap.objs.size f cdv)).units + 66 < cLine := by have := hr.un; omega
    have hpo : PassesOwn (model P w) (A.deeper (envOfC d_NoNote_init__.qual d_NoNote_init__.scope s.heap.objs.size f cdv)) (envOfC d_NoNote_init__.qual d_NoNote_init__.scope s.heap.objs.size f cdv) (cxOf (L2.CX P w) P w K mg base N_NoNote_init__ d_NoNote_init__.qual d_NoNote_init__.scope f cdv A outer s H E).xe := passes_of (X := cxOf (L2.CX P w) P w K mg base N_NoNote_init__ d_NoNote_init__.qual d_NoNote_init__.scope f cdv A outer s H E) rfl
    exact (ss_cons (st_drop (ev_xinit (T.oex (by decide)) T.parts.2.2.2.1 rfl (T.exg (by simp [xs])) (ar_cons (ev_name 0) (ar_cons ev_str ar_nil)))) (ss_one (st_xfld (T.oex (by decide)) (T.xfld (by simp [xs]) (by decide)) (ev_name 1) (ev_name 0))))
theorem ok_NoNote_init__ (T : TT K mg) : InitOk P w K mg base 1 "NoNote" [] den_NoNote_init__ :=
  T.init 4 (d := d_NoNote_init__) (ps := ps_NoNote_init__) (N := N_NoNote_init__) (k := 0) rfl (by simp [xs]) (by simp [xs]) rfl sc_NoNote_init__ bn_NoNote_init__ rfl (bo_NoNote_init__ T)
/-! NoText_init__ -/
abbrev N_NoText_init__ : List Str := ["self", "at"]
abbrev ps_NoText_init__ : List Str := ["self", "at"]
theorem sc_NoText_init__ : FnScope N_NoText_init__ ps_NoText_init__ d_NoText_init__.scope := ⟨rfl, rfl, rfl, by decide +kernel, rfl, by decide +kernel, by decide +kernel⟩
theorem bn_NoText_init__ : BindN d_NoText_init__ ps_NoText_init__ := fun _ _ _ _ _ _ us hl => match us, hl with | [_, _], _ => rfl
def bd_NoText_init__ : SX := (sSeq (sDrop (eXInit xcs (aCons (eName 0) (aCons (eC (.str "no such text")) aNil)))) (sXFld ["NoSign", "NoText"] (eName 0) "at" (eName 1)))
def den_NoText_init__ : Fn := defD 2 2 bd_NoText_init__
theorem bo_NoText_init__ (T : TT K mg) : BodyOk P w K mg base 0 N_NoText_init__ d_NoText_init__ bd_NoText_init__ :=
  fun f cdv A outer s H E hr hgd => by
    have hN := (sc_NoText_init__).nd
    have tk : Takes (cxOf (L2.CX P w) P w K mg base N_NoText_init__ d_NoText_init__.qual d_NoText_init__.scope f cdv A outer s H E) (WxE E) := takes_of rfl rfl rfl rfl
    have hu := hr.units
    have hu1 : (A.deeper (envOfC d_NoText_init__.qual d_NoText_init__.scope s.heap.objs.size f cdv)).units + 1 < cLine := by omega
    have hu2 : (A.deeper (envOfC d_NoText_init__.qual d_NoText_init__.scope s.heap.objs.size f cdv)).units + 66 < cLine := by have := hr.un; omega
    have hpo : PassesOwn (model P w) (A.deeper (envOfC d_NoText_init__.qual d_NoText_init__.scope s.heap.objs.size f cdv)) (envOfC d_NoText_init__.qual d_NoText_init__.scope s.heap.objs.size f cdv) (cxOf (L2.CX P w) P w K mg base N_NoText_init__ d_NoText_init__.qual d_NoText_init__.scope f cdv A outer s H E).xe := passes_of (X := cxOf (L2.CX P w) P w K mg base N_NoText_init__ d_NoText_init__.qual d_NoText_init__.scope f cdv A outer s H E) rfl
    exact (ss_cons (st_drop (ev_xinit (T.oex (by decide)) T.parts.2.2.2.1 rfl (T.exg (by simp [xs])) (ar_cons (ev_name 0) (ar_cons ev_str ar_nil)))) (ss_one (st_xfld (T.oex (by decide)) (T.xfld (by simp [xs]) (by decide)) (ev_name 1) (ev_name 0))))
theorem ok_NoText_init__ (T : TT K mg) : InitOk P w K mg base 1 "NoText" [] den_NoText_init__ :=
  T.init 5 (d := d_NoText_init__) (ps := ps_NoText_init__) (N := N_NoText_init__) (k := 0) rfl (by simp [xs]) (by simp [xs]) rfl sc_NoText_init__ bn_NoText_init__ rfl (bo_NoText_init__ T)
/-! NoScene_init__ -/
abbrev N_NoScene_init__ : List Str := ["self", "part"]
abbrev ps_NoScene_init__ : List Str := ["self", "part"]
theorem sc_NoScene_init__ : FnScope N_NoScene_init__ ps_NoScene_init__ d_NoScene_init__.scope := ⟨rfl, rfl, rfl, by decide +kernel, rfl, by decide +kernel, by decide +kernel⟩
theorem bn_NoScene_init__ : BindN d_NoScene_init__ ps_NoScene_init__ := fun _ _ _ _ _ _ us hl => match us, hl with | [_, _], _ => rfl
def bd_NoScene_init__ : SX := (sSeq (sDrop (eXInit xcs (aCons (eName 0) (aCons (eC (.str "a part does not lie in its pile")) aNil)))) (sXFld ["NoScene"] (eName 0) "part" (eName 1)))
def den_NoScene_init__ : Fn := defD 2 2 bd_NoScene_init__
theorem bo_NoScene_init__ (T : TT K mg) : BodyOk P w K mg base 0 N_NoScene_init__ d_NoScene_init__ bd_NoScene_init__ :=
  fun f cdv A outer s H E hr hgd => by
    have hN := (sc_NoScene_init__).nd
    have tk : Takes (cxOf (L2.CX P w) P w K mg base N_NoScene_init__ d_NoScene_init__.qual d_NoScene_init__.scope f cdv A outer s H E) (WxE E) := takes_of rfl rfl rfl rfl
    have hu := hr.units
    have hu1 : (A.deeper (envOfC d_NoScene_init__.qual d_NoScene_init__.scope s.heap.objs.size f cdv)).units + 1 < cLine := by omega
    have hu2 : (A.deeper (envOfC d_NoScene_init__.qual d_NoScene_init__.scope s.heap.objs.size f cdv)).units + 66 < cLine := by have := hr.un; omega
    have hpo : PassesOwn (model P w) (A.deeper (envOfC d_NoScene_init__.qual d_NoScene_init__.scope s.heap.objs.size f cdv)) (envOfC d_NoScene_init__.qual d_NoScene_init__.scope s.heap.objs.size f cdv) (cxOf (L2.CX P w) P w K mg base N_NoScene_init__ d_NoScene_init__.qual d_NoScene_init__.scope f cdv A outer s H E).xe := passes_of (X := cxOf (L2.CX P w) P w K mg base N_NoScene_init__ d_NoScene_init__.qual d_NoScene_init__.scope f cdv A outer s H E) rfl
    exact (ss_cons (st_drop (ev_xinit (T.oex (by decide)) T.parts.2.2.2.1 rfl (T.exg (by simp [xs])) (ar_cons (ev_name 0) (ar_cons ev_str ar_nil)))) (ss_one (st_xfld (T.oex (by decide)) (T.xfld (by simp [xs]) (by decide)) (ev_name 1) (ev_name 0))))
theorem ok_NoScene_init__ (T : TT K mg) : InitOk P w K mg base 1 "NoScene" [] den_NoScene_init__ :=
  T.init 6 (d := d_NoScene_init__) (ps := ps_NoScene_init__) (N := N_NoScene_init__) (k := 0) rfl (by simp [xs]) (by simp [xs]) rfl sc_NoScene_init__ bn_NoScene_init__ rfl (bo_NoScene_init__ T)
/-! Busy_init__ -/
abbrev N_Busy_init__ : List Str := ["self", "owed"]
abbrev ps_Busy_init__ : List Str := ["self", "owed"]
theorem sc_Busy_init__ : FnScope N_Busy_init__ ps_Busy_init__ d_Busy_init__.scope := ⟨rfl, rfl, rfl, by decide +kernel, rfl, by decide +kernel, by decide +kernel⟩
theorem bn_Busy_init__ : BindN d_Busy_init__ ps_Busy_init__ := fun _ _ _ _ _ _ us hl => match us, hl with | [_, _], _ => rfl
def bd_Busy_init__ : SX := (sSeq (sDrop (eXInit xcs (aCons (eName 0) (aCons (eC (.str "a drawing is on the road")) aNil)))) (sXFld ["Busy"] (eName 0) "owed" (eName 1)))
def den_Busy_init__ : Fn := defD 2 2 bd_Busy_init__
theorem bo_Busy_init__ (T : TT K mg) : BodyOk P w K mg base 0 N_Busy_init__ d_Busy_init__ bd_Busy_init__ :=
  fun f cdv A outer s H E hr hgd => by
    have hN := (sc_Busy_init__).nd
    have tk : Takes (cxOf (L2.CX P w) P w K mg base N_Busy_init__ d_Busy_init__.qual d_Busy_init__.scope f cdv A outer s H E) (WxE E) := takes_of rfl rfl rfl rfl
    have hu := hr.units
    have hu1 : (A.deeper (envOfC d_Busy_init__.qual d_Busy_init__.scope s.heap.objs.size f cdv)).units + 1 < cLine := by omega
    have hu2 : (A.deeper (envOfC d_Busy_init__.qual d_Busy_init__.scope s.heap.objs.size f cdv)).units + 66 < cLine := by have := hr.un; omega
    have hpo : PassesOwn (model P w) (A.deeper (envOfC d_Busy_init__.qual d_Busy_init__.scope s.heap.objs.size f cdv)) (envOfC d_Busy_init__.qual d_Busy_init__.scope s.heap.objs.size f cdv) (cxOf (L2.CX P w) P w K mg base N_Busy_init__ d_Busy_init__.qual d_Busy_init__.scope f cdv A outer s H E).xe := passes_of (X := cxOf (L2.CX P w) P w K mg base N_Busy_init__ d_Busy_init__.qual d_Busy_init__.scope f cdv A outer s H E) rfl
    exact (ss_cons (st_drop (ev_xinit (T.oex (by decide)) T.parts.2.2.2.1 rfl (T.exg (by simp [xs])) (ar_cons (ev_name 0) (ar_cons ev_str ar_nil)))) (ss_one (st_xfld (T.oex (by decide)) (T.xfld (by simp [xs]) (by decide)) (ev_name 1) (ev_name 0))))
theorem ok_Busy_init__ (T : TT K mg) : InitOk P w K mg base 1 "Busy" [] den_Busy_init__ :=
  T.init 7 (d := d_Busy_init__) (ps := ps_Busy_init__) (N := N_Busy_init__) (k := 0) rfl (by simp [xs]) (by simp [xs]) rfl sc_Busy_init__ bn_Busy_init__ rfl (bo_Busy_init__ T)
/-! law_draw -/
abbrev N_law_draw : List Str := ["_law_script", "_law_k", "_law_many", "_law_number"]
abbrev ps_law_draw : List Str := ["_law_script", "_law_k", "_law_many"]
theorem sc_law_draw : FnScope N_law_draw ps_law_draw d_law_draw.scope := ⟨rfl, rfl, rfl, by decide +kernel, rfl, by decide +kernel, by decide +kernel⟩
theorem bn_law_draw : BindN d_law_draw ps_law_draw := fun _ _ _ _ _ _ us hl => match us, hl with | [_, _, _], _ => rfl
def bd_law_draw : SX := (sSeq (sSet (gName 3) (eC (.int 0))) (sSeq (sIf (tE (eBin opGt (eB bLen (aCons (eName 0) aNil)) (eC (.int 0)))) (sSet (gName 3) (eBin opMod (eBin opIx (eName 0) (eBin opMod (eName 1) (eB bLen (aCons (eName 0) aNil)))) (eC (.int 999999937)))) sPass) (sSeq (sSet (gName 3) (eBin opAdd (eBin opMul (eBin opAdd (eName 3) (eC (.int 1))) (eC (.int 16807))) (eBin opMul (eBin opMul (eBin opAdd (eName 1) (eC (.int 3))) (eBin opAdd (eName 1) (eC (.int 3)))) (eC (.int 40009))))) (sRet (eBin opMod (eBin opMod (eBin opMul (eBin opMod (eName 3) (eC (.int 1000000007))) (eC (.int 30011))) (eC (.int 998244353))) (eName 2))))))
def den_law_draw : Fn := defD 3 4 bd_law_draw
theorem bo_law_draw (T : TT K mg) : BodyOk P w K mg base 0 N_law_draw d_law_draw bd_law_draw :=
  fun f cdv A outer s H E hr hgd => by
    have hN := (sc_law_draw).nd
    have tk : Takes (cxOf (L2.CX P w) P w K mg base N_law_draw d_law_draw.qual d_law_draw.scope f cdv A outer s H E) (WxE E) := takes_of rfl rfl rfl rfl
    have hu := hr.units
    have hu1 : (A.deeper (envOfC d_law_draw.qual d_law_draw.scope s.heap.objs.size f cdv)).units + 1 < cLine := by omega
    have hu2 : (A.deeper (envOfC d_law_draw.qual d_law_draw.scope s.heap.objs.size f cdv)).units + 66 < cLine := by have := hr.un; omega
    have hpo : PassesOwn (model P w) (A.deeper (envOfC d_law_draw.qual d_law_draw.scope s.heap.objs.size f cdv)) (envOfC d_law_draw.qual d_law_draw.scope s.heap.objs.size f cdv) (cxOf (L2.CX P w) P w K mg base N_law_draw d_law_draw.qual d_law_draw.scope f cdv A outer s H E).xe := passes_of (X := cxOf (L2.CX P w) P w K mg base N_law_draw d_law_draw.qual d_law_draw.scope f cdv A outer s H E) rfl
    exact (ss_cons (st_set hN rfl (by first | exact Or.inl rfl | exact Or.inr rfl) ev_int) (ss_cons (st_if (ts_cmp od_gt blf_gt (ev_B cd_len rfl (T.free 16) (by decide +kernel) (ar_cons (ev_name 0) ar_nil)) ev_int (by rfl)) (ss_one (st_set hN rfl (by first | exact Or.inl rfl | exact Or.inr rfl) (ev_bin od_mod (ev_ix (id_ix hu1) (ev_name 0) (ev_bin od_mod (ev_name 1) (ev_B cd_len rfl (T.free 16) (by decide +kernel) (ar_cons (ev_name 0) ar_nil)))) ev_int))) ss_nil) (ss_cons (st_set hN rfl (by first | exact Or.inl rfl | exact Or.inr rfl) (ev_bin od_add (ev_bin od_mul (ev_bin od_add (ev_name 3) ev_int) ev_int) (ev_bin od_mul (ev_bin od_mul (ev_bin od_add (ev_name 1) ev_int) (ev_bin od_add (ev_name 1) ev_int)) ev_int))) (ss_one (st_ret (ev_bin od_mod (ev_bin od_mod (ev_bin od_mul (ev_bin od_mod (ev_name 3) ev_int) ev_int) ev_int) (ev_name 2)))))))
theorem ok_law_draw (T : TT K mg) : CallOk P w K mg base 1 "_law_draw" [] den_law_draw :=
  T.call 8 19 (d := d_law_draw) (ps := ps_law_draw) (N := N_law_draw) (k := 0) rfl rfl rfl sc_law_draw bn_law_draw rfl (bo_law_draw T)
/-! law_great -/
abbrev N_law_great : List Str := ["_law_script", "_law_k", "_law_many", "_law_number"]
abbrev ps_law_great : List Str := ["_law_script", "_law_k", "_law_many"]
theorem sc_law_great : FnScope N_law_great ps_law_great d_law_great.scope := ⟨rfl, rfl, rfl, by decide +kernel, rfl, by decide +kernel, by decide +kernel⟩
theorem bn_law_great : BindN d_law_great ps_law_great := fun _ _ _ _ _ _ us hl => match us, hl with | [_, _, _], _ => rfl
def bd_law_great : SX := (sSeq (sSet (gName 3) (eC (.int 0))) (sSeq (sIf (tE (eBin opGt (eB bLen (aCons (eName 0) aNil)) (eC (.int 0)))) (sSet (gName 3) (eBin opIx (eName 0) (eBin opMod (eName 1) (eB bLen (aCons (eName 0) aNil))))) sPass) (sRet (eBin opMod (eBin opAdd (eBin opMul (eBin opMod (eName 3) (eName 2)) (eC (.int 48271))) (eBin opMul (eBin opMul (eBin opAdd (eName 1) (eC (.int 1))) (eBin opAdd (eName 1) (eC (.int 1)))) (eC (.int 2654435761)))) (eName 2)))))
def den_law_great : Fn := defD 3 4 bd_law_great
theorem bo_law_great (T : TT K mg) : BodyOk P w K mg base 0 N_law_great d_law_great bd_law_great :=
  fun f cdv A outer s H E hr hgd => by
    have hN := (sc_law_great).nd
    have tk : Takes (cxOf (L2.CX P w) P w K mg base N_law_great d_law_great.qual d_law_great.scope f cdv A outer s H E) (WxE E) := takes_of rfl rfl rfl rfl
    have hu := hr.units
    have hu1 : (A.deeper (envOfC d_law_great.qual d_law_great.scope s.heap.objs.size f cdv)).units + 1 < cLine := by omega
    have hu2 : (A.deeper (envOfC d_law_great.qual d_law_great.scope s.heap.objs.size f cdv)).units + 66 < cLine := by have := hr.un; omega
    have hpo : PassesOwn (model P w) (A.deeper (envOfC d_law_great.qual d_law_great.scope s.heap.objs.size f cdv)) (envOfC d_law_great.qual d_law_great.scope s.heap.objs.size f cdv) (cxOf (L2.CX P w) P w K mg base N_law_great d_law_great.qual d_law_great.scope f cdv A outer s H E).xe := passes_of (X := cxOf (L2.CX P w) P w K mg base N_law_great d_law_great.qual d_law_great.scope f cdv A outer s H E) rfl
    exact (ss_cons (st_set hN rfl (by first | exact Or.inl rfl | exact Or.inr rfl) ev_int) (ss_cons (st_if (ts_cmp od_gt blf_gt (ev_B cd_len rfl (T.free 16) (by decide +kernel) (ar_cons (ev_name 0) ar_nil)) ev_int (by rfl)) (ss_one (st_set hN rfl (by first | exact Or.inl rfl | exact Or.inr rfl) (ev_ix (id_ix hu1) (ev_name 0) (ev_bin od_mod (ev_name 1) (ev_B cd_len rfl (T.free 16) (by decide +kernel) (ar_cons (ev_name 0) ar_nil)))))) ss_nil) (ss_one (st_ret (ev_bin od_mod (ev_bin od_add (ev_bin od_mul (ev_bin od_mod (ev_name 3) (ev_name 2)) ev_int) (ev_bin od_mul (ev_bin od_mul (ev_bin od_add (ev_name 1) ev_int) (ev_bin od_add (ev_name 1) ev_int)) ev_int)) (ev_name 2))))))
theorem ok_law_great (T : TT K mg) : CallOk P w K mg base 1 "_law_great" [] den_law_great :=
  T.call 9 20 (d := d_law_great) (ps := ps_law_great) (N := N_law_great) (k := 0) rfl rfl rfl sc_law_great bn_law_great rfl (bo_law_great T)
/-! law_alike -/
abbrev N_law_alike : List Str := ["_law_found", "_law_due", "_law_k"]
abbrev ps_law_alike : List Str := ["_law_found", "_law_due"]
theorem sc_law_alike : FnScope N_law_alike ps_law_alike d_law_alike.scope := ⟨rfl, rfl, rfl, by decide +kernel, rfl, by decide +kernel, by decide +kernel⟩
theorem bn_law_alike : BindN d_law_alike ps_law_alike := fun _ _ _ _ _ _ us hl => match us, hl with | [_, _], _ => rfl
def bd_law_alike (den_law_alike : Nat → Fn) (n : Nat) : SX := (sSeq (sIf (tE (eIsi tab_tuple_list (eName 1))) (sSeq (sIf (tOr (tE (eBin opNe (eIsi tab_tuple (eName 1)) (eIsi tab_tuple (eName 0)))) (tE (eBin opNe (eIsi tab_list (eName 1)) (eIsi tab_list (eName 0))))) (sRet (eC (.bl false))) sPass) (sSeq (sIf (tE (eBin opNe (eB bLen (aCons (eName 0) aNil)) (eB bLen (aCons (eName 1) aNil)))) (sRet (eC (.bl false))) sPass) (sRet (eB bAll (aCons (eNew (nComp [2] (iRange1 (aCons (eB bLen (aCons (eName 1) aNil)) aNil)) (gName 2) tYes (eCall (den_law_alike n) [] (aCons (eBin opIx (eName 0) (eName 2)) (aCons (eBin opIx (eName 1) (eName 2)) aNil))))) aNil))))) sPass) (sSeq (sIf (tOr (tE (eBin opIs (eName 1) (eC .non))) (tE (eBin opIs (eName 0) (eC .non)))) (sRet (eAnd (eBin opIs (eName 1) (eC .non)) (eBin opIs (eName 0) (eC .non)))) sPass) (sSeq (sIf (tOr (tE (eIsi tab_bool (eName 1))) (tE (eIsi tab_bool (eName 0)))) (sRet (eAnd (eIsi tab_bool (eName 1)) (eAnd (eIsi tab_bool (eName 0)) (eBin opEq (eName 0) (eName 1))))) sPass) (sSeq (sIf (tE (eIsi tab_str (eName 1))) (sRet (eAnd (eIsi tab_str (eName 0)) (eBin opEq (eName 0) (eName 1)))) sPass) (sRet (eAnd (eIsi tab_int (eName 0)) (eBin opEq (eName 0) (eName 1))))))))
def bdr_law_alike (g : Fn) : SX := (sSeq (sIf (tE (eIsi tab_tuple_list (eName 1))) (sSeq (sIf (tOr (tE (eBin opNe (eIsi tab_tuple (eName 1)) (eIsi tab_tuple (eName 0)))) (tE (eBin opNe (eIsi tab_list (eName 1)) (eIsi tab_list (eName 0))))) (sRet (eC (.bl false))) sPass) (sSeq (sIf (tE (eBin opNe (eB bLen (aCons (eName 0) aNil)) (eB bLen (aCons (eName 1) aNil)))) (sRet (eC (.bl false))) sPass) (sRet (eB bAll (aCons (eNew (nComp [2] (iRange1 (aCons (eB bLen (aCons (eName 1) aNil)) aNil)) (gName 2) tYes (eCall g [] (aCons (eBin opIx (eName 0) (eName 2)) (aCons (eBin opIx (eName 1) (eName 2)) aNil))))) aNil))))) sPass) (sSeq (sIf (tOr (tE (eBin opIs (eName 1) (eC .non))) (tE (eBin opIs (eName 0) (eC .non)))) (sRet (eAnd (eBin opIs (eName 1) (eC .non)) (eBin opIs (eName 0) (eC .non)))) sPass) (sSeq (sIf (tOr (tE (eIsi tab_bool (eName 1))) (tE (eIsi tab_bool (eName 0)))) (sRet (eAnd (eIsi tab_bool (eName 1)) (eAnd (eIsi tab_bool (eName 0)) (eBin opEq (eName 0) (eName 1))))) sPass) (sSeq (sIf (tE (eIsi tab_str (eName 1))) (sRet (eAnd (eIsi tab_str (eName 0)) (eBin opEq (eName 0) (eName 1)))) sPass) (sRet (eAnd (eIsi tab_int (eName 0)) (eBin opEq (eName 0) (eName 1))))))))
def den_law_alike : Nat → Fn
  | 0 => fun _ _ => .bad
  | n + 1 => defD 2 3 (bdr_law_alike (den_law_alike n))
theorem bo_law_alike (T : TT K mg) {g : Fn} {n : Nat} (ih : CallOk P w K mg base (1 + n) "_law_alike" [] g) : BodyOk P w K mg base (1 + n) N_law_alike d_law_alike (bdr_law_alike g) :=
  fun f cdv A outer s H E hr hgd => by
    have hN := (sc_law_alike).nd
    have tk : Takes (cxOf (L2.CX P w) P w K mg base N_law_alike d_law_alike.qual d_law_alike.scope f cdv A outer s H E) (WxE E) := takes_of rfl rfl rfl rfl
    have hu := hr.units
    have hu1 : (A.deeper (envOfC d_law_alike.qual d_law_alike.scope s.heap.objs.size f cdv)).units + 1 < cLine := by omega
    have hu2 : (A.deeper (envOfC d_law_alike.qual d_law_alike.scope s.heap.objs.size f cdv)).units + 66 < cLine := by have := hr.un; omega
    have hpo : PassesOwn (model P w) (A.deeper (envOfC d_law_alike.qual d_law_alike.scope s.heap.objs.size f cdv)) (envOfC d_law_alike.qual d_law_alike.scope s.heap.objs.size f cdv) (cxOf (L2.CX P w) P w K mg base N_law_alike d_law_alike.qual d_law_alike.scope f cdv A outer s H E).xe := passes_of (X := cxOf (L2.CX P w) P w K mg base N_law_alike d_law_alike.qual d_law_alike.scope f cdv A outer s H E) rfl
    exact (ss_cons (st_if (ts_val (ev_isiM (tab := tab_tuple_list) (T.excOk (by decide)) (T.tabAny (cs := [.b "tuple", .b "list"]) (by simp [xs]) (by decide)) (cls_b rfl (T.free 27) (by decide +kernel) (cls_b rfl (T.free 28) (by decide +kernel) cls_nil)) (by decide) (ev_name 1) rfl (T.free 26))) (ss_cons (st_if (tw_ts (tw_or (ts_cmp (od_ne hu) blf_ne (isi_tuple T rfl rfl (ev_name 1)) (isi_tuple T rfl rfl (ev_name 0)) (by rfl)) (tw_or1 (ts_cmp (od_ne hu) blf_ne (isi_list T rfl rfl (ev_name 1)) (isi_list T rfl rfl (ev_name 0)) (by rfl))))) (ss_one (st_ret ev_bl)) ss_nil) (ss_cons (st_if (ts_cmp (od_ne hu) blf_ne (ev_B cd_len rfl (T.free 16) (by decide +kernel) (ar_cons (ev_name 0) ar_nil)) (ev_B cd_len rfl (T.free 16) (by decide +kernel) (ar_cons (ev_name 1) ar_nil)) (by rfl)) (ss_one (st_ret ev_bl)) ss_nil) (ss_one (st_ret (ev_B (cd_all rfl) rfl (T.free 18) (by decide +kernel) (ar_cons (ev_new (nw_comp rfl hN (co_comp (own := [("_law_k", 2)]) (it_range1 rfl (T.free 17) (ar_cons (ev_B cd_len rfl (T.free 16) (by decide +kernel) (ar_cons (ev_name 1) ar_nil)) ar_nil)) (blkOk_by (by rfl)) (fun _ _ _ _ _ => (gt_name hN rfl (by first | exact Or.inl rfl | exact Or.inr rfl))) (fun _ _ _ _ _ => tf_nil) (fun _ _ _ _ _ => (ev_callK ih hr hgd LamX.takes0 rfl (ar_cons (ev_ix (id_ix hu1) (ev_name 0) (ev_name 2)) (ar_cons (ev_ix (id_ix hu1) (ev_name 1) (ev_name 2)) ar_nil))))))) ar_nil)))))) ss_nil) (ss_cons (st_if (tw_ts (tw_or (ts_cmp od_is blf_is (ev_name 1) ev_non (by rfl)) (tw_or1 (ts_cmp od_is blf_is (ev_name 0) ev_non (by rfl))))) (ss_one (st_ret (ev_and (ev_cmp od_is (ev_name 1) ev_non (by rfl)) (ev_one (ev_cmp od_is (ev_name 0) ev_non (by rfl)))))) ss_nil) (ss_cons (st_if (tw_ts (tw_or (ts_val (isi_bool T rfl rfl (ev_name 1))) (tw_or1 (ts_val (isi_bool T rfl rfl (ev_name 0)))))) (ss_one (st_ret (ev_and (isi_bool T rfl rfl (ev_name 1)) (ev_and (isi_bool T rfl rfl (ev_name 0)) (ev_one (ev_cmp (od_eq hu) (ev_name 0) (ev_name 1) (by rfl))))))) ss_nil) (ss_cons (st_if (ts_val (isi_str T rfl rfl (ev_name 1))) (ss_one (st_ret (ev_and (isi_str T rfl rfl (ev_name 0)) (ev_one (ev_cmp (od_eq hu) (ev_name 0) (ev_name 1) (by rfl)))))) ss_nil) (ss_one (st_ret (ev_and (isi_int T rfl rfl (ev_name 0)) (ev_one (ev_cmp (od_eq hu) (ev_name 0) (ev_name 1) (by rfl))))))))))
theorem ok_law_alike (T : TT K mg) : ∀ n : Nat, CallOk P w K mg base (1 + n) "_law_alike" [] (den_law_alike n)
  | 0 => T.callBad 10 21 (d := d_law_alike) (ps := ps_law_alike) rfl rfl rfl bn_law_alike rfl
  | n + 1 => T.call 10 21 (d := d_law_alike) (ps := ps_law_alike) (N := N_law_alike) (k := 1 + n) rfl rfl rfl sc_law_alike bn_law_alike rfl (bo_law_alike T (ok_law_alike T n))
/-! law_made -/
abbrev N_law_made : List Str := ["_law_number", "_law_told", "_law_words", "_law_some"]
abbrev ps_law_made : List Str := ["_law_number", "_law_told", "_law_words"]
theorem sc_law_made : FnScope N_law_made ps_law_made d_law_made.scope := ⟨rfl, rfl, rfl, by decide +kernel, rfl, by decide +kernel, by decide +kernel⟩
theorem bn_law_made : BindN d_law_made ps_law_made := fun _ _ _ _ _ _ us hl => match us, hl with | [_, _, _], _ => rfl
def bd_law_made : SX := (sSeq (sSet (gName 3) (eNew (nLst (aCons (eExc "NoPicture" den_NoPicture_init__ [] (aCons (eName 1) aNil)) (aCons (eExc "NoSign" den_NoSign_init__ [] (aCons (eName 2) (aCons (eName 0) aNil))) (aCons (eExc "TooWide" den_TooWide_init__ [] (aCons (eName 0) aNil)) (aCons (eExc "OffBoard" den_OffBoard_init__ [] (aCons (eName 0) aNil)) (aCons (eExc "NoNote" den_NoNote_init__ [] (aCons (eName 0) aNil)) (aCons (eExc "NoText" den_NoText_init__ [] (aCons (eName 1) aNil)) aNil))))))))) (sSeq (sSet (gName 3) (eBin opAdd (eName 3) (eNew (nLst (aCons (eExc "NoScene" den_NoScene_init__ [] (aCons (eName 0) aNil)) (aCons (eExc "Busy" den_Busy_init__ [] (aCons (eName 0) aNil)) (aCons (eExc0 "NoTable" (aCons (eName 2) aNil)) (aCons (eExc0 "NoFont" (aCons (eName 2) aNil)) (aCons (eExc0 "NoLine" (aCons (eName 2) aNil)) (aCons (eExc0 "NoSpot" (aCons (eName 2) aNil)) aNil)))))))))) (sRet (eBin opAdd (eName 3) (eNew (nLst (aCons (eExc0 "NoRow" (aCons (eName 2) aNil)) (aCons (eExc0 "NoBoard" (aCons (eName 2) aNil)) (aCons (eExc0 "NoName" (aCons (eName 2) aNil)) aNil)))))))))
def den_law_made : Fn := defD 3 4 bd_law_made
theorem bo_law_made (T : TT K mg) : BodyOk P w K mg base 2 N_law_made d_law_made bd_law_made :=
  fun f cdv A outer s H E hr hgd => by
    have hN := (sc_law_made).nd
    have tk : Takes (cxOf (L2.CX P w) P w K mg base N_law_made d_law_made.qual d_law_made.scope f cdv A outer s H E) (WxE E) := takes_of rfl rfl rfl rfl
    have hu := hr.units
    have hu1 : (A.deeper (envOfC d_law_made.qual d_law_made.scope s.heap.objs.size f cdv)).units + 1 < cLine := by omega
    have hu2 : (A.deeper (envOfC d_law_made.qual d_law_made.scope s.heap.objs.size f cdv)).units + 66 < cLine := by have := hr.un; omega
    have hpo : PassesOwn (model P w) (A.deeper (envOfC d_law_made.qual d_law_made.scope s.heap.objs.size f cdv)) (envOfC d_law_made.qual d_law_made.scope s.heap.objs.size f cdv) (cxOf (L2.CX P w) P w K mg base N_law_made d_law_made.qual d_law_made.scope f cdv A outer s H E).xe := passes_of (X := cxOf (L2.CX P w) P w K mg base N_law_made d_law_made.qual d_law_made.scope f cdv A outer s H E) rfl
    exact (ss_cons (st_set hN rfl (by first | exact Or.inl rfl | exact Or.inr rfl) (ev_new (nw_lst (ar_cons (ev_excK (ok_NoPicture_init__ T) (hr.mono (by decide)) hgd tk rfl (ar_cons (ev_name 1) ar_nil)) (ar_cons (ev_excK (ok_NoSign_init__ T) (hr.mono (by decide)) hgd tk rfl (ar_cons (ev_name 2) (ar_cons (ev_name 0) ar_nil))) (ar_cons (ev_excK (ok_TooWide_init__ T) (hr.mono (by decide)) hgd tk rfl (ar_cons (ev_name 0) ar_nil)) (ar_cons (ev_excK (ok_OffBoard_init__ T) (hr.mono (by decide)) hgd tk rfl (ar_cons (ev_name 0) ar_nil)) (ar_cons (ev_excK (ok_NoNote_init__ T) (hr.mono (by decide)) hgd tk rfl (ar_cons (ev_name 0) ar_nil)) (ar_cons (ev_excK (ok_NoText_init__ T) (hr.mono (by decide)) hgd tk rfl (ar_cons (ev_name 1) ar_nil)) ar_nil))))))))) (ss_cons (st_set hN rfl (by first | exact Or.inl rfl | exact Or.inr rfl) (ev_bin od_add (ev_name 3) (ev_new (nw_lst (ar_cons (ev_excK (ok_NoScene_init__ T) (hr.mono (by decide)) hgd tk rfl (ar_cons (ev_name 0) ar_nil)) (ar_cons (ev_excK (ok_Busy_init__ T) (hr.mono (by decide)) hgd tk rfl (ar_cons (ev_name 0) ar_nil)) (ar_cons (ev_exc0 (T.parts.2.2.1 _ (by simp [xs])).1 (T.parts.2.2.1 _ (by simp [xs])).2 rfl (T.exg (by simp [xs])) (ar_cons (ev_name 2) ar_nil)) (ar_cons (ev_exc0 (T.parts.2.2.1 _ (by simp [xs])).1 (T.parts.2.2.1 _ (by simp [xs])).2 rfl (T.exg (by simp [xs])) (ar_cons (ev_name 2) ar_nil)) (ar_cons (ev_exc0 (T.parts.2.2.1 _ (by simp [xs])).1 (T.parts.2.2.1 _ (by simp [xs])).2 rfl (T.exg (by simp [xs])) (ar_cons (ev_name 2) ar_nil)) (ar_cons (ev_exc0 (T.parts.2.2.1 _ (by simp [xs])).1 (T.parts.2.2.1 _ (by simp [xs])).2 rfl (T.exg (by simp [xs])) (ar_cons (ev_name 2) ar_nil)) ar_nil)))))))))) (ss_one (st_ret (ev_bin od_add (ev_name 3) (ev_new (nw_lst (ar_cons (ev_exc0 (T.parts.2.2.1 _ (by simp [xs])).1 (T.parts.2.2.1 _ (by simp [xs])).2 rfl (T.exg (by simp [xs])) (ar_cons (ev_name 2) ar_nil)) (ar_cons (ev_exc0 (T.parts.2.2.1 _ (by simp [xs])).1 (T.parts.2.2.1 _ (by simp [xs])).2 rfl (T.exg (by simp [xs])) (ar_cons (ev_name 2) ar_nil)) (ar_cons (ev_exc0 (T.parts.2.2.1 _ (by simp [xs])).1 (T.parts.2.2.1 _ (by simp [xs])).2 rfl (T.exg (by simp [xs])) (ar_cons (ev_name 2) ar_nil)) ar_nil))))))))))
theorem ok_law_made (T : TT K mg) : CallOk P w K mg base 3 "_law_made" [] den_law_made :=
  T.call 11 22 (d := d_law_made) (ps := ps_law_made) (N := N_law_made) (k := 2) rfl rfl rfl sc_law_made bn_law_made rfl (bo_law_made T)
/-! law_kinds -/
abbrev N_law_kinds : List Str := ["_law_one", "_law_some"]
abbrev ps_law_kinds : List Str := ["_law_one"]
theorem sc_law_kinds : FnScope N_law_kinds ps_law_kinds d_law_kinds.scope := ⟨rfl, rfl, rfl, by decide +kernel, rfl, by decide +kernel, by decide +kernel⟩
theorem bn_law_kinds : BindN d_law_kinds ps_law_kinds := fun _ _ _ _ _ _ us hl => match us, hl with | [_], _ => rfl
def bd_law_kinds : SX := (sSeq (sSet (gName 1) (eNew (nLst (aCons (eIsi tab_NoPicture (eName 0)) (aCons (eIsi tab_NoSign (eName 0)) (aCons (eIsi tab_TooWide (eName 0)) (aCons (eIsi tab_OffBoard (eName 0)) aNil))))))) (sSeq (sSet (gName 1) (eBin opAdd (eName 1) (eNew (nLst (aCons (eIsi tab_NoNote (eName 0)) (aCons (eIsi tab_NoText (eName 0)) (aCons (eIsi tab_NoScene (eName 0)) (aCons (eIsi tab_Busy (eName 0)) aNil)))))))) (sSeq (sSet (gName 1) (eBin opAdd (eName 1) (eNew (nLst (aCons (eIsi tab_NoTable (eName 0)) (aCons (eIsi tab_NoFont (eName 0)) (aCons (eIsi tab_NoLine (eName 0)) (aCons (eIsi tab_NoSpot (eName 0)) aNil)))))))) (sRet (eBin opAdd (eName 1) (eNew (nLst (aCons (eIsi tab_NoRow (eName 0)) (aCons (eIsi tab_NoBoard (eName 0)) (aCons (eIsi tab_NoName (eName 0)) aNil))))))))))
def den_law_kinds : Fn := defD 1 2 bd_law_kinds
theorem bo_law_kinds (T : TT K mg) : BodyOk P w K mg base 0 N_law_kinds d_law_kinds bd_law_kinds :=
  fun f cdv A outer s H E hr hgd => by
    have hN := (sc_law_kinds).nd
    have tk : Takes (cxOf (L2.CX P w) P w K mg base N_law_kinds d_law_kinds.qual d_law_kinds.scope f cdv A outer s H E) (WxE E) := takes_of rfl rfl rfl rfl
    have hu := hr.units
    have hu1 : (A.deeper (envOfC d_law_kinds.qual d_law_kinds.scope s.heap.objs.size f cdv)).units + 1 < cLine := by omega
    have hu2 : (A.deeper (envOfC d_law_kinds.qual d_law_kinds.scope s.heap.objs.size f cdv)).units + 66 < cLine := by have := hr.un; omega
    have hpo : PassesOwn (model P w) (A.deeper (envOfC d_law_kinds.qual d_law_kinds.scope s.heap.objs.size f cdv)) (envOfC d_law_kinds.qual d_law_kinds.scope s.heap.objs.size f cdv) (cxOf (L2.CX P w) P w K mg base N_law_kinds d_law_kinds.qual d_law_kinds.scope f cdv A outer s H E).xe := passes_of (X := cxOf (L2.CX P w) P w K mg base N_law_kinds d_law_kinds.qual d_law_kinds.scope f cdv A outer s H E) rfl
    exact (ss_cons (st_set hN rfl (by first | exact Or.inl rfl | exact Or.inr rfl) (ev_new (nw_lst (ar_cons (isi_NoPicture T rfl rfl (ev_name 0)) (ar_cons (isi_NoSign T rfl rfl (ev_name 0)) (ar_cons (isi_TooWide T rfl rfl (ev_name 0)) (ar_cons (isi_OffBoard T rfl rfl (ev_name 0)) ar_nil))))))) (ss_cons (st_set hN rfl (by first | exact Or.inl rfl | exact Or.inr rfl) (ev_bin od_add (ev_name 1) (ev_new (nw_lst (ar_cons (isi_NoNote T rfl rfl (ev_name 0)) (ar_cons (isi_NoText T rfl rfl (ev_name 0)) (ar_cons (isi_NoScene T rfl rfl (ev_name 0)) (ar_cons (isi_Busy T rfl rfl (ev_name 0)) ar_nil)))))))) (ss_cons (st_set hN rfl (by first | exact Or.inl rfl | exact Or.inr rfl) (ev_bin od_add (ev_name 1) (ev_new (nw_lst (ar_cons (isi_NoTable T rfl rfl (ev_name 0)) (ar_cons (isi_NoFont T rfl rfl (ev_name 0)) (ar_cons (isi_NoLine T rfl rfl (ev_name 0)) (ar_cons (isi_NoSpot T rfl rfl (ev_name 0)) ar_nil)))))))) (ss_one (st_ret (ev_bin od_add (ev_name 1) (ev_new (nw_lst (ar_cons (isi_NoRow T rfl rfl (ev_name 0)) (ar_cons (isi_NoBoard T rfl rfl (ev_name 0)) (ar_cons (isi_NoName T rfl rfl (ev_name 0)) ar_nil)))))))))))
theorem ok_law_kinds (T : TT K mg) : CallOk P w K mg base 1 "_law_kinds" [] den_law_kinds :=
  T.call 12 23 (d := d_law_kinds) (ps := ps_law_kinds) (N := N_law_kinds) (k := 0) rfl rfl rfl sc_law_kinds bn_law_kinds rfl (bo_law_kinds T)
/-! law_fields -/
abbrev N_law_fields : List Str := ["_law_some", "_law_number", "_law_told", "_law_words", "_law_found"]
abbrev ps_law_fields : List Str := ["_law_some", "_law_number", "_law_told", "_law_words"]
theorem sc_law_fields : FnScope N_law_fields ps_law_fields d_law_fields.scope := ⟨rfl, rfl, rfl, by decide +kernel, rfl, by decide +kernel, by decide +kernel⟩
theorem bn_law_fields : BindN d_law_fields ps_law_fields := fun _ _ _ _ _ _ us hl => match us, hl with | [_, _, _, _], _ => rfl
def bd_law_fields : SX := (sSeq (sSet (gName 4) (eNew (nLst (aCons (eXFld ["NoPicture", "NoNote"] "row" (eBin opIx (eName 0) (eC (.int 0)))) (aCons (eXFld ["NoSign"] "sign" (eBin opIx (eName 0) (eC (.int 1)))) (aCons (eXFld ["NoSign", "NoText"] "at" (eBin opIx (eName 0) (eC (.int 1)))) (aCons (eXFld ["TooWide"] "word" (eBin opIx (eName 0) (eC (.int 2)))) (aCons (eXFld ["OffBoard"] "number" (eBin opIx (eName 0) (eC (.int 3)))) (aCons (eXFld ["NoPicture", "NoNote"] "row" (eBin opIx (eName 0) (eC (.int 4)))) (aCons (eXFld ["NoSign", "NoText"] "at" (eBin opIx (eName 0) (eC (.int 5)))) aNil)))))))))) (sSeq (sSet (gName 4) (eBin opAdd (eName 4) (eNew (nLst (aCons (eXFld ["NoScene"] "part" (eBin opIx (eName 0) (eC (.int 6)))) (aCons (eXFld ["Busy"] "owed" (eBin opIx (eName 0) (eC (.int 7)))) aNil)))))) (sRet (eCall (den_law_alike 3) [] (aCons (eName 4) (aCons (eNew (nLst (aCons (eName 2) (aCons (eName 3) (aCons (eName 1) (aCons (eName 1) (aCons (eName 1) (aCons (eName 1) (aCons (eName 2) (aCons (eName 1) (aCons (eName 1) aNil))))))))))) aNil))))))
def den_law_fields : Fn := defD 4 5 bd_law_fields
theorem bo_law_fields (T : TT K mg) : BodyOk P w K mg base 4 N_law_fields d_law_fields bd_law_fields :=
  fun f cdv A outer s H E hr hgd => by
    have hN := (sc_law_fields).nd
    have tk : Takes (cxOf (L2.CX P w) P w K mg base N_law_fields d_law_fields.qual d_law_fields.scope f cdv A outer s H E) (WxE E) := takes_of rfl rfl rfl rfl
    have hu := hr.units
    have hu1 : (A.deeper (envOfC d_law_fields.qual d_law_fields.scope s.heap.objs.size f cdv)).units + 1 < cLine := by omega
    have hu2 : (A.deeper (envOfC d_law_fields.qual d_law_fields.scope s.heap.objs.size f cdv)).units + 66 < cLine := by have := hr.un; omega
    have hpo : PassesOwn (model P w) (A.deeper (envOfC d_law_fields.qual d_law_fields.scope s.heap.objs.size f cdv)) (envOfC d_law_fields.qual d_law_fields.scope s.heap.objs.size f cdv) (cxOf (L2.CX P w) P w K mg base N_law_fields d_law_fields.qual d_law_fields.scope f cdv A outer s H E).xe := passes_of (X := cxOf (L2.CX P w) P w K mg base N_law_fields d_law_fields.qual d_law_fields.scope f cdv A outer s H E) rfl
    exact (ss_cons (st_set hN rfl (by first | exact Or.inl rfl | exact Or.inr rfl) (ev_new (nw_lst (ar_cons (ev_xfld (T.xfld (by simp [xs]) (by decide)) (ev_ix (id_ix hu1) (ev_name 0) ev_int)) (ar_cons (ev_xfld (T.xfld (by simp [xs]) (by decide)) (ev_ix (id_ix hu1) (ev_name 0) ev_int)) (ar_cons (ev_xfld (T.xfld (by simp [xs]) (by decide)) (ev_ix (id_ix hu1) (ev_name 0) ev_int)) (ar_cons (ev_xfld (T.xfld (by simp [xs]) (by decide)) (ev_ix (id_ix hu1) (ev_name 0) ev_int)) (ar_cons (ev_xfld (T.xfld (by simp [xs]) (by decide)) (ev_ix (id_ix hu1) (ev_name 0) ev_int)) (ar_cons (ev_xfld (T.xfld (by simp [xs]) (by decide)) (ev_ix (id_ix hu1) (ev_name 0) ev_int)) (ar_cons (ev_xfld (T.xfld (by simp [xs]) (by decide)) (ev_ix (id_ix hu1) (ev_name 0) ev_int)) ar_nil)))))))))) (ss_cons (st_set hN rfl (by first | exact Or.inl rfl | exact Or.inr rfl) (ev_bin od_add (ev_name 4) (ev_new (nw_lst (ar_cons (ev_xfld (T.xfld (by simp [xs]) (by decide)) (ev_ix (id_ix hu1) (ev_name 0) ev_int)) (ar_cons (ev_xfld (T.xfld (by simp [xs]) (by decide)) (ev_ix (id_ix hu1) (ev_name 0) ev_int)) ar_nil)))))) (ss_one (st_ret (ev_callK ((ok_law_alike T 3).mono (by decide)) hr hgd tk rfl (ar_cons (ev_name 4) (ar_cons (ev_new (nw_lst (ar_cons (ev_name 2) (ar_cons (ev_name 3) (ar_cons (ev_name 1) (ar_cons (ev_name 1) (ar_cons (ev_name 1) (ar_cons (ev_name 1) (ar_cons (ev_name 2) (ar_cons (ev_name 1) (ar_cons (ev_name 1) ar_nil))))))))))) ar_nil)))))))
theorem ok_law_fields (T : TT K mg) : CallOk P w K mg base 5 "_law_fields" [] den_law_fields :=
  T.call 13 24 (d := d_law_fields) (ps := ps_law_fields) (N := N_law_fields) (k := 4) rfl rfl rfl sc_law_fields bn_law_fields rfl (bo_law_fields T)
/-! law -/
abbrev N_law : List Str := ["_law_script", "_law_number", "_law_told", "_law_words", "_law_some", "_law_k", "_law_j"]
abbrev ps_law : List Str := ["_law_script"]
theorem sc_law : FnScope N_law ps_law d_law.scope := ⟨rfl, rfl, rfl, by decide +kernel, rfl, by decide +kernel, by decide +kernel⟩
theorem bn_law : BindN d_law ps_law := fun _ _ _ _ _ _ us hl => match us, hl with | [_], _ => rfl
def bd_law : SX := (sSeq (sSet (gName 1) (eBin opAdd (eBin opSub (eCall den_law_great [] (aCons (eName 0) (aCons (eC (.int 0)) (aCons (eBin opSub (eBin opMul (eC (.int 2)) (eBin opPow (eC (.int 10)) (eC (.int 60)))) (eC (.int 1))) aNil)))) (eBin opPow (eC (.int 10)) (eC (.int 60)))) (eC (.int 1)))) (sSeq (sSet (gName 2) (eBin opIx (eNew (nLst (aCons (eName 1) (aCons (eC .non) aNil)))) (eCall den_law_draw [] (aCons (eName 0) (aCons (eC (.int 1)) (aCons (eC (.int 2)) aNil)))))) (sSeq (sSet (gName 3) (eBin opIx (eNew (nLst (aCons (eC (.str "")) (aCons (eC (.str "a")) (aCons (eC (.str "no")) (aCons (eC (.str "x y")) aNil)))))) (eCall den_law_draw [] (aCons (eName 0) (aCons (eC (.int 2)) (aCons (eC (.int 4)) aNil)))))) (sSeq (sSet (gName 4) (eCall den_law_made [] (aCons (eName 1) (aCons (eName 2) (aCons (eName 3) aNil))))) (sSeq (sFor (iRange1 (aCons (eC (.int 15)) aNil)) (gName 5) (sSeq (sIf (tE (eBin opNe (eCall den_law_kinds [] (aCons (eBin opIx (eName 4) (eName 5)) aNil)) (eNew (nComp [6] (iRange1 (aCons (eC (.int 15)) aNil)) (gName 6) tYes (eBin opEq (eName 5) (eName 6)))))) (sRet (eC (.bl false))) sPass) (sIf (tOr (tNot (tE (eIsi tab_GlowError (eBin opIx (eName 4) (eName 5))))) (tNot (tE (eIsi tab_ValueError (eBin opIx (eName 4) (eName 5)))))) (sRet (eC (.bl false))) sPass)) []) (sRet (eCall den_law_fields [] (aCons (eName 4) (aCons (eName 1) (aCons (eName 2) (aCons (eName 3) aNil)))))))))))
def den_law : Fn := defD 1 7 bd_law
theorem bo_law (T : TT K mg) : BodyOk P w K mg base 5 N_law d_law bd_law :=
  fun f cdv A outer s H E hr hgd => by
    have hN := (sc_law).nd
    have tk : Takes (cxOf (L2.CX P w) P w K mg base N_law d_law.qual d_law.scope f cdv A outer s H E) (WxE E) := takes_of rfl rfl rfl rfl
    have hu := hr.units
    have hu1 : (A.deeper (envOfC d_law.qual d_law.scope s.heap.objs.size f cdv)).units + 1 < cLine := by omega
    have hu2 : (A.deeper (envOfC d_law.qual d_law.scope s.heap.objs.size f cdv)).units + 66 < cLine := by have := hr.un; omega
    have hpo : PassesOwn (model P w) (A.deeper (envOfC d_law.qual d_law.scope s.heap.objs.size f cdv)) (envOfC d_law.qual d_law.scope s.heap.objs.size f cdv) (cxOf (L2.CX P w) P w K mg base N_law d_law.qual d_law.scope f cdv A outer s H E).xe := passes_of (X := cxOf (L2.CX P w) P w K mg base N_law d_law.qual d_law.scope f cdv A outer s H E) rfl
    exact (ss_cons (st_set hN rfl (by first | exact Or.inl rfl | exact Or.inr rfl) (ev_bin od_add (ev_bin od_sub (ev_callK ((ok_law_great T).mono (by decide)) hr hgd tk rfl (ar_cons (ev_name 0) (ar_cons ev_int (ar_cons (ev_bin od_sub (ev_bin od_mul ev_int (ev_bin od_pow ev_int ev_int)) ev_int) ar_nil)))) (ev_bin od_pow ev_int ev_int)) ev_int)) (ss_cons (st_set hN rfl (by first | exact Or.inl rfl | exact Or.inr rfl) (ev_ix (id_ix hu1) (ev_new (nw_lst (ar_cons (ev_name 1) (ar_cons ev_non ar_nil)))) (ev_callK ((ok_law_draw T).mono (by decide)) hr hgd tk rfl (ar_cons (ev_name 0) (ar_cons ev_int (ar_cons ev_int ar_nil)))))) (ss_cons (st_set hN rfl (by first | exact Or.inl rfl | exact Or.inr rfl) (ev_ix (id_ix hu1) (ev_new (nw_lst (ar_cons ev_str (ar_cons ev_str (ar_cons ev_str (ar_cons ev_str ar_nil)))))) (ev_callK ((ok_law_draw T).mono (by decide)) hr hgd tk rfl (ar_cons (ev_name 0) (ar_cons ev_int (ar_cons ev_int ar_nil)))))) (ss_cons (st_set hN rfl (by first | exact Or.inl rfl | exact Or.inr rfl) (ev_callK ((ok_law_made T).mono (by decide)) hr hgd tk rfl (ar_cons (ev_name 1) (ar_cons (ev_name 2) (ar_cons (ev_name 3) ar_nil))))) (ss_cons (st_for (kl := []) hpo rfl (it_range1 rfl (T.free 17) (ar_cons ev_int ar_nil)) (gt_name hN rfl (by first | exact Or.inl rfl | exact Or.inr rfl)) (ss_cons (st_if (ts_cmp (od_ne hu) blf_ne (ev_callK ((ok_law_kinds T).mono (by decide)) hr hgd tk rfl (ar_cons (ev_ix (id_ix hu1) (ev_name 4) (ev_name 5)) ar_nil)) (ev_new (nw_comp rfl hN (co_comp (own := [("_law_j", 6)]) (it_range1 rfl (T.free 17) (ar_cons ev_int ar_nil)) (blkOk_by (by rfl)) (fun _ _ _ _ _ => (gt_name hN rfl (by first | exact Or.inl rfl | exact Or.inr rfl))) (fun _ _ _ _ _ => tf_nil) (fun _ _ _ _ _ => (ev_cmp (od_eq hu) (ev_name 5) (ev_name 6) (by rfl)))))) (by rfl)) (ss_one (st_ret ev_bl)) ss_nil) (ss_one (st_if (tw_ts (tw_or (ts_not (ts_val (isi_GlowError T rfl rfl (ev_ix (id_ix hu1) (ev_name 4) (ev_name 5))))) (tw_or1 (ts_not (ts_val (isi_ValueError T rfl rfl (ev_ix (id_ix hu1) (ev_name 4) (ev_name 5)))))))) (ss_one (st_ret ev_bl)) ss_nil)))) (ss_one (st_ret (ev_callK ((ok_law_fields T).mono (by decide)) hr hgd tk rfl (ar_cons (ev_name 4) (ar_cons (ev_name 1) (ar_cons (ev_name 2) (ar_cons (ev_name 3) ar_nil))))))))))))
theorem ok_law (T : TT K mg) : CallOk P w K mg base 6 "law" [] den_law :=
  T.call 14 25 (d := d_law) (ps := ps_law) (N := N_law) (k := 5) rfl rfl rfl sc_law bn_law rfl (bo_law T)
end
end
end K08
end OfG08
section OfH08
set_option Elab.async false
set_option linter.all false
set_option maxRecDepth 100000
set_option maxHeartbeats 0
namespace K08
open PySem PySem.Spec PyProof.Rows L2 Dn
abbrev R : PySem.W.OpenRow := PySem.W.OpenLaw.row PySem.Challenge.rw_glowboard_k08_refusals_apart
abbrev hk : PySem.W.Hook := hookY 6 fa fn xs.ok
def ob (s : PySem.W.SharedT) : AlY := obY 6 fa fn xs.ok s
theorem run (w : World) : HandSHeadRun.RunEq R (PySem.W.view R.prog [24]) hk ob 6000 ["GlowError", "NoPicture", "NoTable", "NoFont", "NoSign", "TooWide", "NoLine", "NoSpot", "OffBoard", "NoNote", "NoText", "NoScene", "Busy", "NoRow", "NoBoard", "NoName", "_law_draw", "_law_great", "_law_alike", "_law_made", "_law_kinds", "_law_fields"] w := by
  intro os
  kernel_rfl
theorem facts {P : Program} {w : World} {K : PySem.W.Frag} {h : Heap} {mg : Str → Option Value} {f : Addr} (X : K.In h) (G : h.Ns mainGlobals mg) (hfa : mg ("law" : Str) = some (.ref f)) (c : obsY fa fn xs.ok K = (He.valD fn, true)) :
    ∃ fd : FuncData, (∀ (s : Shared) (v : Value), BindsTo s fd ⟨[v], []⟩ [("_law_script", v)]) ∧ ∀ base : Heap, K.In base → base.Ns mainGlobals mg → FnG P w K mg base 6 f fd ["_law_script"] den_law := by
  have T : TT K mg := Txt.of X G c
  obtain ⟨fd, D'⟩ := T.c.def_ 14 (d := d_law) rfl
  have e := hfa.symm.trans (T.glo 25 (x := "law") rfl)
  cases e
  have b := FunD.bindsA (ps := ["_law_script"]) D' bn_law
  refine ⟨fd, fun s v => b s [v] rfl, fun base _ _ => ?_⟩
  exact fnG_funD D' sc_law fun cdv A outer s H E hr hgd => bo_law T _ cdv A outer s H E hr hgd
end K08
open PySem PySem.W PySem.Calls PyProof.Rows
theorem K08_head (law : ∀ ns : List Int, ns.length ≤ 63 → (∀ z ∈ ns, Builtin.Int.intBits z ≤ 1048576) → ∃ S, K08.den_law [.scr ns] [] = .ok (.bl true) S) : PySem.Challenge.rw_glowboard_k08_refusals_apart.Holds := by
  w_on; o_law
  refine HandSHeadRun.head_any (r := OpenLaw.row PySem.Challenge.rw_glowboard_k08_refusals_apart) (q := view (OpenLaw.row PySem.Challenge.rw_glowboard_k08_refusals_apart).prog [24]) (H := K08.hk) (ob := K08.ob) (M := 6000) (loose := ["GlowError", "NoPicture", "NoTable", "NoFont", "NoSign", "TooWide", "NoLine", "NoSpot", "OffBoard", "NoNote", "NoText", "NoScene", "Busy", "NoRow", "NoBoard", "NoName", "_law_draw", "_law_great", "_law_alike", "_law_made", "_law_kinds", "_law_fields"]) (d := HandSHeadRun.topDef (OpenLaw.row PySem.Challenge.rw_glowboard_k08_refusals_apart).prog 24) (kwd := []) Dn.obY_eq
    (by kernel_rfl) (fun s => by kernel_rfl) K08.run (by kernel_rfl) (by kernel_rfl) (by kernel_rfl) (by rfl) (by first | assumption | decide +kernel) (by decide +kernel) ⟨rfl, rfl, rfl, rfl, rfl, by decide +kernel⟩ ?hw ?hc
  case hw => w_witness2
  case hc =>
    refine Dn.walk_G (l := PySem.Challenge.rw_glowboard_k08_refusals_apart) (n := 63) (k := 6) (x := "_law_script") (den := K08.den_law) rfl (by decide) (by kernel_rfl) ⟨rfl, by decide, by decide⟩ ?F law
    intro w mg fa h Y G hmg0
    obtain ⟨K, KX, c⟩ := Y
    have hmg : mg ("law" : PySem.Str) = some (.ref fa) := by
      have e : (HandSHeadRun.topDef (OpenLaw.row PySem.Challenge.rw_glowboard_k08_refusals_apart).prog 24).name = ("law" : PySem.Str) := by kernel_rfl
      rw [← e]
      exact hmg0
    obtain ⟨fd, hb, hF⟩ := K08.facts (P := (PySem.Challenge.rw_glowboard_k08_refusals_apart).prog) (w := w) KX G hmg c
    exact ⟨K, fd, KX, hb, hF⟩
end OfH08
section OfP08
set_option linter.all false
set_option maxRecDepth 100000
set_option maxHeartbeats 4000000
namespace K08
open PySem Dn
theorem mo_r (a b : Int) (h : b.natAbs < 2 ^ 64) : mulOk a b = true := by
  unfold mulOk
  rw [decide_eq_true h]
  simp [defD, sSeq, sSet, outR, eC, Dn.gName, startE, sIf, tE, eBin, eUn, eB, aCons, aNil, eName, look, looks, bLen, opGt, opLt, opGe, opLe, opSub, opNe, opEq, opIs, opIsNot, truth, opMod, opIx, opAdd, opMul, opPow, sRet, sPass, ret1, Res.bind, eNew, nLst, withD, allD, retD, eCall, eTup, eAnd, eOr, eNot, Dn.tAnd, Dn.tOr, Dn.tNot, isNone]
theorem mo_l (a b : Int) (h : a.natAbs < 2 ^ 64) : mulOk a b = true := by
  unfold mulOk
  rw [decide_eq_true h]
  simp [defD, sSeq, sSet, outR, eC, Dn.gName, startE, sIf, tE, eBin, eUn, eB, aCons, aNil, eName, look, looks, bLen, opGt, opLt, opGe, opLe, opSub, opNe, opEq, opIs, opIsNot, truth, opMod, opIx, opAdd, opMul, opPow, sRet, sPass, ret1, Res.bind, eNew, nLst, withD, allD, retD, eCall, eTup, eAnd, eOr, eNot, Dn.tAnd, Dn.tOr, Dn.tNot, isNone]
theorem atI_mod (ns : List Int) (k : Int) (h : 0 < ns.length) : ∃ v, Dn.atI ns (k.fmod (ns.length : Nat)) = some v := by
  have h1 : 0 ≤ k.fmod (ns.length : Nat) := Int.fmod_nonneg_of_pos _ (by omega)
  have h2 : k.fmod (ns.length : Nat) < (ns.length : Nat) := Int.fmod_lt_of_pos _ (by omega)
  unfold Dn.atI Dn.ixN
  rw [if_pos h1, if_pos h2]
  refine ⟨ns[(k.fmod (ns.length : Nat)).toNat]'(by omega), ?_⟩
  simp only [Option.bind_some]
  exact List.getElem?_eq_getElem _
def numAt (ns : List Int) (k : Int) : Int := (Dn.atI ns (k.fmod (ns.length : Nat))).getD 0
def drawV (ns : List Int) (k m : Int) : Int :=
  (((((if 0 < ns.length then (numAt ns k).fmod 999999937 else 0) + 1) * 16807 + (k + 3) * (k + 3) * 40009).fmod 1000000007 * 30011).fmod 998244353).fmod m
theorem draw_ok (ns : List Int) (k m : Int) (hk : 0 ≤ k) (hk2 : k < 1000) (hm : m ≠ 0) (S : Store) : den_law_draw [.scr ns, .int k, .int m] S = .ok (.int (drawV ns k m)) S := by
  have m1 : ∀ a, mulOk a 16807 = true := fun a => mo_r a _ (by decide)
  have m2 : mulOk (k + 3) (k + 3) = true := mo_r _ _ (by omega)
  have m3 : ∀ a, mulOk a 40009 = true := fun a => mo_r a _ (by decide)
  have m4 : ∀ a, mulOk a 30011 = true := fun a => mo_r a _ (by decide)
  by_cases h : 0 < ns.length
  · obtain ⟨x, hx⟩ := atI_mod ns k h
    have hne : ns.length ≠ 0 := by omega
    have hne2 : ns ≠ [] := fun e => by simp [defD, sSeq, sSet, outR, eC, Dn.gName, startE, sIf, tE, eBin, eUn, eB, aCons, aNil, eName, look, looks, bLen, opGt, opLt, opGe, opLe, opSub, opNe, opEq, opIs, opIsNot, truth, opMod, opIx, opAdd, opMul, opPow, sRet, sPass, ret1, Res.bind, eNew, nLst, withD, allD, retD, eCall, eTup, eAnd, eOr, eNot, Dn.tAnd, Dn.tOr, Dn.tNot, isNone, e] at h
    have hp : (0 : Int) < (ns.length : Nat) := by omega
    simp [defD, sSeq, sSet, outR, eC, Dn.gName, startE, sIf, tE, eBin, eUn, eB, aCons, aNil, eName, look, looks, bLen, opGt, opLt, opGe, opLe, opSub, opNe, opEq, opIs, opIsNot, truth, opMod, opIx, opAdd, opMul, opPow, sRet, sPass, ret1, Res.bind, eNew, nLst, withD, allD, retD, eCall, eTup, eAnd, eOr, eNot, Dn.tAnd, Dn.tOr, Dn.tNot, isNone, den_law_draw, bd_law_draw, h, hp, hne, hne2, hx, m1, m2, m3, m4, hm, drawV, numAt]
  · have h0 : ns = [] := by
      cases ns with
      | nil => rfl
      | cons a r => simp [defD, sSeq, sSet, outR, eC, Dn.gName, startE, sIf, tE, eBin, eUn, eB, aCons, aNil, eName, look, looks, bLen, opGt, opLt, opGe, opLe, opSub, opNe, opEq, opIs, opIsNot, truth, opMod, opIx, opAdd, opMul, opPow, sRet, sPass, ret1, Res.bind, eNew, nLst, withD, allD, retD, eCall, eTup, eAnd, eOr, eNot, Dn.tAnd, Dn.tOr, Dn.tNot, isNone] at h
    subst h0
    simp [defD, sSeq, sSet, outR, eC, Dn.gName, startE, sIf, tE, eBin, eUn, eB, aCons, aNil, eName, look, looks, bLen, opGt, opLt, opGe, opLe, opSub, opNe, opEq, opIs, opIsNot, truth, opMod, opIx, opAdd, opMul, opPow, sRet, sPass, ret1, Res.bind, eNew, nLst, withD, allD, retD, eCall, eTup, eAnd, eOr, eNot, Dn.tAnd, Dn.tOr, Dn.tNot, isNone, den_law_draw, bd_law_draw, m1, m2, m3, m4, hm, drawV, numAt]
end K08
end OfP08
section OfP08b
set_option linter.all false
set_option maxRecDepth 100000
set_option maxHeartbeats 4000000
namespace K08
open PySem Dn
def greatV (ns : List Int) (k m : Int) : Int := ((if 0 < ns.length then numAt ns k else 0).fmod m * 48271 + (k + 1) * (k + 1) * 2654435761).fmod m
theorem great_ok (ns : List Int) (k m : Int) (hk : 0 ≤ k) (hk2 : k < 1000) (hm : m ≠ 0) (S : Store) : den_law_great [.scr ns, .int k, .int m] S = .ok (.int (greatV ns k m)) S := by
  have m1 : ∀ a, mulOk a 48271 = true := fun a => mo_r a _ (by decide)
  have m2 : mulOk (k + 1) (k + 1) = true := mo_r _ _ (by omega)
  have m3 : ∀ a, mulOk a 2654435761 = true := fun a => mo_r a _ (by decide)
  by_cases h : 0 < ns.length
  · obtain ⟨x, hx⟩ := atI_mod ns k h
    have hne : ns.length ≠ 0 := by omega
    have hne2 : ns ≠ [] := fun e => by simp [defD, sSeq, sSet, outR, eC, Dn.gName, startE, sIf, tE, eBin, eUn, eB, aCons, aNil, eName, look, looks, bLen, opGt, opLt, opGe, opLe, opSub, opNe, opEq, opIs, opIsNot, truth, opMod, opIx, opAdd, opMul, opPow, sRet, sPass, ret1, Res.bind, eNew, nLst, withD, allD, retD, eCall, eTup, eAnd, eOr, eNot, Dn.tAnd, Dn.tOr, Dn.tNot, isNone, e] at h
    have hp : (0 : Int) < (ns.length : Nat) := by omega
    simp [defD, sSeq, sSet, outR, eC, Dn.gName, startE, sIf, tE, eBin, eUn, eB, aCons, aNil, eName, look, looks, bLen, opGt, opLt, opGe, opLe, opSub, opNe, opEq, opIs, opIsNot, truth, opMod, opIx, opAdd, opMul, opPow, sRet, sPass, ret1, Res.bind, eNew, nLst, withD, allD, retD, eCall, eTup, eAnd, eOr, eNot, Dn.tAnd, Dn.tOr, Dn.tNot, isNone, den_law_great, bd_law_great, h, hp, hne, hne2, hx, m1, m2, m3, hm, greatV, numAt]
  · have h0 : ns = [] := by
      cases ns with
      | nil => rfl
      | cons a r => simp [defD, sSeq, sSet, outR, eC, Dn.gName, startE, sIf, tE, eBin, eUn, eB, aCons, aNil, eName, look, looks, bLen, opGt, opLt, opGe, opLe, opSub, opNe, opEq, opIs, opIsNot, truth, opMod, opIx, opAdd, opMul, opPow, sRet, sPass, ret1, Res.bind, eNew, nLst, withD, allD, retD, eCall, eTup, eAnd, eOr, eNot, Dn.tAnd, Dn.tOr, Dn.tNot, isNone] at h
    subst h0
    simp [defD, sSeq, sSet, outR, eC, Dn.gName, startE, sIf, tE, eBin, eUn, eB, aCons, aNil, eName, look, looks, bLen, opGt, opLt, opGe, opLe, opSub, opNe, opEq, opIs, opIsNot, truth, opMod, opIx, opAdd, opMul, opPow, sRet, sPass, ret1, Res.bind, eNew, nLst, withD, allD, retD, eCall, eTup, eAnd, eOr, eNot, Dn.tAnd, Dn.tOr, Dn.tNot, isNone, den_law_great, bd_law_great, m1, m2, m3, hm, greatV, numAt]
def madeL (z : Int) (t : D) (w : Str) : List D :=
  [.exv "NoPicture" [("row", t)], .exv "NoSign" [("at", .int z), ("sign", .str w)], .exv "TooWide" [("word", .int z)], .exv "OffBoard" [("number", .int z)], .exv "NoNote" [("row", .int z)], .exv "NoText" [("at", t)],
   .exv "NoScene" [("part", .int z)], .exv "Busy" [("owed", .int z)], .exv "NoTable" [], .exv "NoFont" [], .exv "NoLine" [], .exv "NoSpot" [], .exv "NoRow" [], .exv "NoBoard" [], .exv "NoName" []]
theorem made_ok (z : Int) (t : D) (w : Str) (ht : t = .int z ∨ t = .non) : den_law_made [.int z, t, .str w] [] = .ok (.lst (madeL z t w)) [] := by
  rcases ht with rfl | rfl
  · simp [defD, sSeq, sSet, outR, eC, Dn.gName, startE, sIf, tE, eBin, eUn, eB, aCons, aNil, eName, look, looks, bLen, opGt, opLt, opGe, opLe, opSub, opNe, opEq, opIs, opIsNot, truth, opMod, opIx, opAdd, opMul, opPow, sRet, sPass, ret1, Res.bind, eNew, nLst, withD, allD, retD, eCall, eTup, eAnd, eOr, eNot, Dn.tAnd, Dn.tOr, Dn.tNot, isNone, sDrop, eXInit, xcs, sXFld, eExc, eExc0, D.undF, D.und, den_law_made, bd_law_made, den_NoPicture_init__, bd_NoPicture_init__, den_NoSign_init__, bd_NoSign_init__, den_TooWide_init__, bd_TooWide_init__, den_OffBoard_init__, bd_OffBoard_init__, den_NoNote_init__, bd_NoNote_init__, den_NoText_init__, bd_NoText_init__, den_NoScene_init__, bd_NoScene_init__, den_Busy_init__, bd_Busy_init__, madeL, line]
  · simp [defD, sSeq, sSet, outR, eC, Dn.gName, startE, sIf, tE, eBin, eUn, eB, aCons, aNil, eName, look, looks, bLen, opGt, opLt, opGe, opLe, opSub, opNe, opEq, opIs, opIsNot, truth, opMod, opIx, opAdd, opMul, opPow, sRet, sPass, ret1, Res.bind, eNew, nLst, withD, allD, retD, eCall, eTup, eAnd, eOr, eNot, Dn.tAnd, Dn.tOr, Dn.tNot, isNone, sDrop, eXInit, xcs, sXFld, eExc, eExc0, D.undF, D.und, den_law_made, bd_law_made, den_NoPicture_init__, bd_NoPicture_init__, den_NoSign_init__, bd_NoSign_init__, den_TooWide_init__, bd_TooWide_init__, den_OffBoard_init__, bd_OffBoard_init__, den_NoNote_init__, bd_NoNote_init__, den_NoText_init__, bd_NoText_init__, den_NoScene_init__, bd_NoScene_init__, den_Busy_init__, bd_Busy_init__, madeL, line]
end K08
end OfP08b
section OfP08c
set_option linter.all false
set_option maxRecDepth 100000
set_option maxHeartbeats 4000000
namespace K08
noncomputable section
open PySem Dn
def kindsL (i : Nat) : List D := (List.range 15).map fun j => .bl (decide (i = j))
theorem kinds_ok (z : Int) (t : D) (w : Str) (i : Nat) (hi : i < 15) : ∃ C fs, (madeL z t w)[i]? = some (.exv C fs) ∧ den_law_kinds [.exv C fs] [] = .ok (.lst (kindsL i)) [] ∧ tab_GlowError.lookup (.c C) = some true ∧ tab_ValueError.lookup (.c C) = some true := by
  match i, hi with
  | 0, _ | 1, _ | 2, _ | 3, _ | 4, _ | 5, _ | 6, _ | 7, _ | 8, _ | 9, _ | 10, _ | 11, _ | 12, _ | 13, _ | 14, _ => exact ⟨_, _, rfl, rfl, rfl, rfl⟩
theorem alike_flat (n : Nat) (S : Store) (d : D) (h : (∃ z, d = .int z) ∨ d = .non ∨ ∃ w : Str, d = .str w ∧ w.cps.all (· < 0x110000) = true) : den_law_alike (n + 1) [d, d] S = .ok (.bl true) S := by
  rcases h with ⟨z, rfl⟩ | rfl | ⟨w, rfl, hw⟩
  · simp [defD, sSeq, sSet, outR, eC, Dn.gName, startE, sIf, tE, eBin, eUn, eB, aCons, aNil, eName, look, looks, bLen, opGt, opLt, opGe, opLe, opSub, opNe, opEq, opIs, opIsNot, truth, opMod, opIx, opAdd, opMul, opPow, sRet, sPass, ret1, Res.bind, eNew, nLst, withD, allD, retD, eCall, eTup, eAnd, eOr, eNot, Dn.tAnd, Dn.tOr, Dn.tNot, isNone, eIsi, tyOf, eXFld, xfldOf, D.eqOk, D.plain, D.plainAll, D.depth, D.depthAll, eqD, eqAll, den_law_alike, bdr_law_alike, tab_tuple_list, tab_bool, tab_str, tab_int, List.lookup]
  · simp [defD, sSeq, sSet, outR, eC, Dn.gName, startE, sIf, tE, eBin, eUn, eB, aCons, aNil, eName, look, looks, bLen, opGt, opLt, opGe, opLe, opSub, opNe, opEq, opIs, opIsNot, truth, opMod, opIx, opAdd, opMul, opPow, sRet, sPass, ret1, Res.bind, eNew, nLst, withD, allD, retD, eCall, eTup, eAnd, eOr, eNot, Dn.tAnd, Dn.tOr, Dn.tNot, isNone, eIsi, tyOf, eXFld, xfldOf, D.eqOk, D.plain, D.plainAll, D.depth, D.depthAll, eqD, eqAll, den_law_alike, bdr_law_alike, tab_tuple_list, tab_bool, tab_str, tab_int, List.lookup]
  · simp [defD, sSeq, sSet, outR, eC, Dn.gName, startE, sIf, tE, eBin, eUn, eB, aCons, aNil, eName, look, looks, bLen, opGt, opLt, opGe, opLe, opSub, opNe, opEq, opIs, opIsNot, truth, opMod, opIx, opAdd, opMul, opPow, sRet, sPass, ret1, Res.bind, eNew, nLst, withD, allD, retD, eCall, eTup, eAnd, eOr, eNot, Dn.tAnd, Dn.tOr, Dn.tNot, isNone, eIsi, tyOf, eXFld, xfldOf, D.eqOk, D.plain, D.plainAll, D.depth, D.depthAll, eqD, eqAll] at hw
    simp [defD, sSeq, sSet, outR, eC, Dn.gName, startE, sIf, tE, eBin, eUn, eB, aCons, aNil, eName, look, looks, bLen, opGt, opLt, opGe, opLe, opSub, opNe, opEq, opIs, opIsNot, truth, opMod, opIx, opAdd, opMul, opPow, sRet, sPass, ret1, Res.bind, eNew, nLst, withD, allD, retD, eCall, eTup, eAnd, eOr, eNot, Dn.tAnd, Dn.tOr, Dn.tNot, isNone, eIsi, tyOf, eXFld, xfldOf, D.eqOk, D.plain, D.plainAll, D.depth, D.depthAll, eqD, eqAll, den_law_alike, bdr_law_alike, tab_tuple_list, tab_bool, tab_str, tab_int, List.lookup, hw]
theorem line_is : line = 16777216 := rfl
theorem rOk_small {i : Int} (h : -1000000 ≤ i) (h2 : i < 1000000) : rOk i = true := by
  unfold rOk
  exact decide_eq_true (by omega)
theorem bls_true (r : List D) : blsOf (r.map fun _ => D.bl true) = some (List.replicate r.length true) := by
  induction r with
  | nil => rfl
  | cons a r ih => simp [defD, sSeq, sSet, outR, eC, Dn.gName, startE, sIf, tE, eBin, eUn, eB, aCons, aNil, eName, look, looks, bLen, opGt, opLt, opGe, opLe, opSub, opNe, opEq, opIs, opIsNot, truth, opMod, opIx, opAdd, opMul, opPow, sRet, sPass, ret1, Res.bind, eNew, nLst, withD, allD, retD, eCall, eTup, eAnd, eOr, eNot, Dn.tAnd, Dn.tOr, Dn.tNot, isNone, eIsi, tyOf, eXFld, xfldOf, D.eqOk, D.plain, D.plainAll, D.depth, D.depthAll, eqD, eqAll, blsOf, ih, List.replicate_succ]
theorem atI_nat {α : Type} {ds : List α} {i : Nat} (hi : i < ds.length) : Dn.atI ds (i : Int) = some ds[i] := by
  unfold Dn.atI Dn.ixN
  rw [if_pos (by omega), if_pos (by omega)]
  simp [defD, sSeq, sSet, outR, eC, Dn.gName, startE, sIf, tE, eBin, eUn, eB, aCons, aNil, eName, look, looks, bLen, opGt, opLt, opGe, opLe, opSub, opNe, opEq, opIs, opIsNot, truth, opMod, opIx, opAdd, opMul, opPow, sRet, sPass, ret1, Res.bind, eNew, nLst, withD, allD, retD, eCall, eTup, eAnd, eOr, eNot, Dn.tAnd, Dn.tOr, Dn.tNot, isNone, eIsi, tyOf, eXFld, xfldOf, D.eqOk, D.plain, D.plainAll, D.depth, D.depthAll, eqD, eqAll, hi]
theorem alike_elem (n : Nat) (S : Store) (ds : List D) (i : Nat) (hi : i < ds.length) (h : den_law_alike n [ds[i], ds[i]] S = .ok (.bl true) S) :
    eCall (den_law_alike n) [] (aCons (eBin opIx (eName 0) (eName 2)) (aCons (eBin opIx (eName 1) (eName 2)) aNil)) [.val (.lst ds), .val (.lst ds), .val (.int i)] S = .ok (.d (.bl true)) S := by
  simp [defD, sSeq, sSet, outR, eC, Dn.gName, startE, sIf, tE, eBin, eUn, eB, aCons, aNil, eName, look, looks, bLen, opGt, opLt, opGe, opLe, opSub, opNe, opEq, opIs, opIsNot, truth, opMod, opIx, opAdd, opMul, opPow, sRet, sPass, ret1, Res.bind, eNew, nLst, withD, allD, retD, eCall, eTup, eAnd, eOr, eNot, Dn.tAnd, Dn.tOr, Dn.tNot, isNone, eIsi, tyOf, eXFld, xfldOf, D.eqOk, D.plain, D.plainAll, D.depth, D.depthAll, eqD, eqAll, atI_nat hi, h]
theorem alike_comp (n : Nat) (S : Store) (ds : List D) (hl : ds.length < 1000) (h : ∀ d ∈ ds, den_law_alike n [d, d] S = .ok (.bl true) S) :
    compL ⟨rangeL 0 ds.length, none⟩ (wipe [.val (.lst ds), .val (.lst ds), .un] [2]) (Dn.gName 2) tYes (eCall (den_law_alike n) [] (aCons (eBin opIx (eName 0) (eName 2)) (aCons (eBin opIx (eName 1) (eName 2)) aNil))) [] (rangeL 0 ds.length) S = .ok ((rangeL 0 ds.length).map fun _ => .bl true) S := by
  refine compL_map (stays_none _ _) (fun _ => .bl true) _ _ (by rw [rangeL_length, List.length_nil, line_is]; omega) fun x hx => ?_
  obtain ⟨i, hi, rfl⟩ := rangeL_mem hx
  refine ⟨_, rfl, ?_⟩
  have e : (0 : Int) + (i : Int) = i := by omega
  rw [e]
  exact alike_elem n S ds i hi (h _ (List.getElem_mem hi))
theorem alike_list (n : Nat) (S : Store) (ds : List D) (hl : ds.length < 1000) (h : ∀ d ∈ ds, den_law_alike n [d, d] S = .ok (.bl true) S) : den_law_alike (n + 1) [.lst ds, .lst ds] S = .ok (.bl true) S := by
  have hn : rOk (ds.length : Nat) = true := rOk_small (by omega) (by omega)
  have hc := alike_comp n S ds hl h
  have hb := bls_true (rangeL 0 ds.length)
  have t1 : tab_tuple_list.lookup (.b "list") = some true := rfl
  have t2 : tab_tuple.lookup (.b "list") = some false := rfl
  have t3 : tab_list.lookup (.b "list") = some true := rfl
  simp [defD, sSeq, sSet, outR, eC, Dn.gName, startE, sIf, tE, eBin, eUn, eB, aCons, aNil, eName, look, looks, bLen, opGt, opLt, opGe, opLe, opSub, opNe, opEq, opIs, opIsNot, truth, opMod, opIx, opAdd, opMul, opPow, sRet, sPass, ret1, Res.bind, eNew, nLst, withD, allD, retD, eCall, eTup, eAnd, eOr, eNot, Dn.tAnd, Dn.tOr, Dn.tNot, isNone, eIsi, tyOf, eXFld, xfldOf, D.eqOk, D.plain, D.plainAll, D.depth, D.depthAll, eqD, eqAll, den_law_alike, bdr_law_alike, t1, t2, t3, nComp, noOwn, iRange1, hn, hc, bAll, hb]
def fieldsL (z : Int) (t : D) (w : Str) : List D := [t, .str w, .int z, .int z, .int z, .int z, t, .int z, .int z]
theorem fields_ok (z : Int) (t : D) (w : Str) (ht : t = .int z ∨ t = .non) (hw : w.cps.all (· < 0x110000) = true) : den_law_fields [.lst (madeL z t w), .int z, t, .str w] [] = .ok (.bl true) [] := by
  have h : den_law_alike 3 [.lst (fieldsL z t w), .lst (fieldsL z t w)] [] = .ok (.bl true) [] := by
    refine alike_list 2 [] _ (by simp [defD, sSeq, sSet, outR, eC, Dn.gName, startE, sIf, tE, eBin, eUn, eB, aCons, aNil, eName, look, looks, bLen, opGt, opLt, opGe, opLe, opSub, opNe, opEq, opIs, opIsNot, truth, opMod, opIx, opAdd, opMul, opPow, sRet, sPass, ret1, Res.bind, eNew, nLst, withD, allD, retD, eCall, eTup, eAnd, eOr, eNot, Dn.tAnd, Dn.tOr, Dn.tNot, isNone, eIsi, tyOf, eXFld, xfldOf, D.eqOk, D.plain, D.plainAll, D.depth, D.depthAll, eqD, eqAll, fieldsL]) fun d hd => alike_flat 1 [] d ?_
    simp [defD, sSeq, sSet, outR, eC, Dn.gName, startE, sIf, tE, eBin, eUn, eB, aCons, aNil, eName, look, looks, bLen, opGt, opLt, opGe, opLe, opSub, opNe, opEq, opIs, opIsNot, truth, opMod, opIx, opAdd, opMul, opPow, sRet, sPass, ret1, Res.bind, eNew, nLst, withD, allD, retD, eCall, eTup, eAnd, eOr, eNot, Dn.tAnd, Dn.tOr, Dn.tNot, isNone, eIsi, tyOf, eXFld, xfldOf, D.eqOk, D.plain, D.plainAll, D.depth, D.depthAll, eqD, eqAll, fieldsL] at hd
    have ft : (∃ z, t = D.int z) ∨ t = D.non := ht.imp (fun e => ⟨z, e⟩) id
    have hh : d = t ∨ d = .str w ∨ d = .int z := by
      rcases hd with h | h | h | h | h <;> simp [defD, sSeq, sSet, outR, eC, Dn.gName, startE, sIf, tE, eBin, eUn, eB, aCons, aNil, eName, look, looks, bLen, opGt, opLt, opGe, opLe, opSub, opNe, opEq, opIs, opIsNot, truth, opMod, opIx, opAdd, opMul, opPow, sRet, sPass, ret1, Res.bind, eNew, nLst, withD, allD, retD, eCall, eTup, eAnd, eOr, eNot, Dn.tAnd, Dn.tOr, Dn.tNot, isNone, eIsi, tyOf, eXFld, xfldOf, D.eqOk, D.plain, D.plainAll, D.depth, D.depthAll, eqD, eqAll, h]
    rcases hh with rfl | rfl | rfl
    · exact ft.imp id .inl
    · exact .inr (.inr ⟨w, rfl, hw⟩)
    · exact .inl ⟨_, rfl⟩
  unfold fieldsL at h
  have e1 : (Str.ofString "sign" == Str.ofString "at") = false := by decide
  simp [defD, sSeq, sSet, outR, eC, Dn.gName, startE, sIf, tE, eBin, eUn, eB, aCons, aNil, eName, look, looks, bLen, opGt, opLt, opGe, opLe, opSub, opNe, opEq, opIs, opIsNot, truth, opMod, opIx, opAdd, opMul, opPow, sRet, sPass, ret1, Res.bind, eNew, nLst, withD, allD, retD, eCall, eTup, eAnd, eOr, eNot, Dn.tAnd, Dn.tOr, Dn.tNot, isNone, eIsi, tyOf, eXFld, xfldOf, D.eqOk, D.plain, D.plainAll, D.depth, D.depthAll, eqD, eqAll, e1, den_law_fields, bd_law_fields, madeL, Dn.atI, Dn.ixN, line, h, List.lookup]
theorem fmod_2 (x : Int) : x.fmod 2 = 0 ∨ x.fmod 2 = 1 := by
  have h1 := Int.fmod_nonneg_of_pos x (b := 2) (by decide)
  have h2 := Int.fmod_lt_of_pos x (b := 2) (by decide)
  omega
theorem fmod_4 (x : Int) : x.fmod 4 = 0 ∨ x.fmod 4 = 1 ∨ x.fmod 4 = 2 ∨ x.fmod 4 = 3 := by
  have h1 := Int.fmod_nonneg_of_pos x (b := 4) (by decide)
  have h2 := Int.fmod_lt_of_pos x (b := 4) (by decide)
  omega
theorem kcomp (ρ : Dn.Env) {a b c d e : Slot} (i : Nat) (h : ρ = [a, b, c, d, e, .val (.int i), .un]) : compL ⟨rangeL 0 15, none⟩ (wipe ρ [6]) (Dn.gName 6) tYes (eBin opEq (eName 5) (eName 6)) [] (rangeL 0 15) [] = .ok (kindsL i) [] := by
  subst h
  have := compL_map (it := ⟨rangeL 0 15, none⟩) (ρ := wipe [a, b, c, d, e, .val (.int i), .un] [6]) (g := Dn.gName 6) (e := eBin opEq (eName 5) (eName 6)) (S := []) (stays_none _ _)
    (fun d => match d with | .int j => .bl ((i : Int) == j) | _ => .non) (rangeL 0 15) [] (by rw [rangeL_length, List.length_nil, line_is]; omega) fun x hx => by
      obtain ⟨j, hj, rfl⟩ := rangeL_mem hx
      refine ⟨_, rfl, ?_⟩
      simp [defD, sSeq, sSet, outR, eC, Dn.gName, startE, sIf, tE, eBin, eUn, eB, aCons, aNil, eName, look, looks, bLen, opGt, opLt, opGe, opLe, opSub, opNe, opEq, opIs, opIsNot, truth, opMod, opIx, opAdd, opMul, opPow, sRet, sPass, ret1, Res.bind, eNew, nLst, withD, allD, retD, eCall, eTup, eAnd, eOr, eNot, Dn.tAnd, Dn.tOr, Dn.tNot, isNone, eIsi, tyOf, eXFld, xfldOf, D.eqOk, D.plain, D.plainAll, D.depth, D.depthAll, eqD, eqAll, wipe]
  rw [this, List.nil_append]
  congr 1
  unfold rangeL kindsL
  rw [List.map_map]
  apply List.map_congr_left
  intro j _
  simp only [Function.comp, Int.zero_add]
  congr 1
  rw [Bool.eq_iff_iff]
  simp [defD, sSeq, sSet, outR, eC, Dn.gName, startE, sIf, tE, eBin, eUn, eB, aCons, aNil, eName, look, looks, bLen, opGt, opLt, opGe, opLe, opSub, opNe, opEq, opIs, opIsNot, truth, opMod, opIx, opAdd, opMul, opPow, sRet, sPass, ret1, Res.bind, eNew, nLst, withD, allD, retD, eCall, eTup, eAnd, eOr, eNot, Dn.tAnd, Dn.tOr, Dn.tNot, isNone, eIsi, tyOf, eXFld, xfldOf, D.eqOk, D.plain, D.plainAll, D.depth, D.depthAll, eqD, eqAll]
  omega
theorem bl_all (bs : List Bool) : D.plainAll (bs.map .bl) = true ∧ D.depthAll (bs.map .bl) = 0 ∧ eqAll (bs.map .bl) (bs.map .bl) = true := by
  induction bs with
  | nil => exact ⟨rfl, rfl, rfl⟩
  | cons b r ih => simp [defD, sSeq, sSet, outR, eC, Dn.gName, startE, sIf, tE, eBin, eUn, eB, aCons, aNil, eName, look, looks, bLen, opGt, opLt, opGe, opLe, opSub, opNe, opEq, opIs, opIsNot, truth, opMod, opIx, opAdd, opMul, opPow, sRet, sPass, ret1, Res.bind, eNew, nLst, withD, allD, retD, eCall, eTup, eAnd, eOr, eNot, Dn.tAnd, Dn.tOr, Dn.tNot, isNone, eIsi, tyOf, eXFld, xfldOf, D.eqOk, D.plain, D.plainAll, D.depth, D.depthAll, eqD, eqAll, D.plainAll, D.depthAll, D.depth, D.plain, eqAll, eqD, ih]
theorem kinds_eq (i : Nat) : eqAll (kindsL i) (kindsL i) = true := by
  have := (bl_all ((List.range 15).map fun j => decide (i = j))).2.2
  rw [List.map_map] at this
  exact this
theorem kinds_plain (i : Nat) : D.plainAll (kindsL i) = true ∧ D.depthAll (kindsL i) = 0 := by
  have := bl_all ((List.range 15).map fun j => decide (i = j))
  rw [List.map_map] at this
  exact ⟨this.1, this.2.1⟩
def bLoop : SX := (sSeq (sIf (tE (eBin opNe (eCall den_law_kinds [] (aCons (eBin opIx (eName 4) (eName 5)) aNil)) (eNew (nComp [6] (iRange1 (aCons (eC (.int 15)) aNil)) (Dn.gName 6) tYes (eBin opEq (eName 5) (eName 6)))))) (sRet (eC (.bl false))) sPass) (sIf (Dn.tOr (Dn.tNot (tE (eIsi tab_GlowError (eBin opIx (eName 4) (eName 5))))) (Dn.tNot (tE (eIsi tab_ValueError (eBin opIx (eName 4) (eName 5)))))) (sRet (eC (.bl false))) sPass))
theorem bd_law_is : bd_law = (sSeq (sSet (Dn.gName 1) (eBin opAdd (eBin opSub (eCall den_law_great [] (aCons (eName 0) (aCons (eC (.int 0)) (aCons (eBin opSub (eBin opMul (eC (.int 2)) (eBin opPow (eC (.int 10)) (eC (.int 60)))) (eC (.int 1))) aNil)))) (eBin opPow (eC (.int 10)) (eC (.int 60)))) (eC (.int 1)))) (sSeq (sSet (Dn.gName 2) (eBin opIx (eNew (nLst (aCons (eName 1) (aCons (eC .non) aNil)))) (eCall den_law_draw [] (aCons (eName 0) (aCons (eC (.int 1)) (aCons (eC (.int 2)) aNil)))))) (sSeq (sSet (Dn.gName 3) (eBin opIx (eNew (nLst (aCons (eC (.str "")) (aCons (eC (.str "a")) (aCons (eC (.str "no")) (aCons (eC (.str "x y")) aNil)))))) (eCall den_law_draw [] (aCons (eName 0) (aCons (eC (.int 2)) (aCons (eC (.int 4)) aNil)))))) (sSeq (sSet (Dn.gName 4) (eCall den_law_made [] (aCons (eName 1) (aCons (eName 2) (aCons (eName 3) aNil))))) (sSeq (sFor (iRange1 (aCons (eC (.int 15)) aNil)) (Dn.gName 5) bLoop []) (sRet (eCall den_law_fields [] (aCons (eName 4) (aCons (eName 1) (aCons (eName 2) (aCons (eName 3) aNil))))))))))) := rfl
theorem law_ok (ns : List Int) : den_law [.scr ns] [] = .ok (.bl true) [] := by
  -- the numbers drawn
  obtain ⟨z, hz⟩ : ∃ z, z = greatV ns 0 (2 * 10 ^ 60 - 1) - 10 ^ 60 + 1 := ⟨_, rfl⟩
  have hg : den_law_great [.scr ns, .int 0, .int 1999999999999999999999999999999999999999999999999999999999999] [] = .ok (.int (greatV ns 0 (2 * 10 ^ 60 - 1))) [] := great_ok ns 0 _ (by decide) (by decide) (by decide) []
  have hd1 := draw_ok ns 1 2 (by decide) (by decide) (by decide) []
  have hd2 := draw_ok ns 2 4 (by decide) (by decide) (by decide) []
  obtain ⟨t, ht, ht2⟩ : ∃ t, Dn.atI [D.int z, D.non] (drawV ns 1 2) = some t ∧ (t = .int z ∨ t = .non) := by
    rcases fmod_2 (((((if 0 < ns.length then (numAt ns 1).fmod 999999937 else 0) + 1) * 16807 + (1 + 3) * (1 + 3) * 40009).fmod 1000000007 * 30011).fmod 998244353) with h | h
    · exact ⟨.int z, by unfold drawV; rw [h]; rfl, .inl rfl⟩
    · exact ⟨.non, by unfold drawV; rw [h]; rfl, .inr rfl⟩
  obtain ⟨w, hw, hw2⟩ : ∃ w : Str, Dn.atI [D.str "", D.str "a", D.str "no", D.str "x y"] (drawV ns 2 4) = some (.str w) ∧ w.cps.all (· < 0x110000) = true := by
    rcases fmod_4 (((((if 0 < ns.length then (numAt ns 2).fmod 999999937 else 0) + 1) * 16807 + (2 + 3) * (2 + 3) * 40009).fmod 1000000007 * 30011).fmod 998244353) with h | h | h | h
    · exact ⟨"", by unfold drawV; rw [h]; rfl, by decide +kernel⟩
    · exact ⟨"a", by unfold drawV; rw [h]; rfl, by decide +kernel⟩
    · exact ⟨"no", by unfold drawV; rw [h]; rfl, by decide +kernel⟩
    · exact ⟨"x y", by unfold drawV; rw [h]; rfl, by decide +kernel⟩
  have hm := made_ok z t w ht2
  have hf := fields_ok z t w ht2 hw2
  obtain ⟨env, henv⟩ : ∃ env : Slot → Dn.Env, env = fun s => [.val (.scr ns), .val (.int z), .val t, .val (.str w), .val (.lst (madeL z t w)), s, .un] := ⟨_, rfl⟩
  -- the loop
  have loop : ∃ s, forL ⟨rangeL 0 15, none⟩ (Dn.gName 5) bLoop [] (rangeL 0 15) (env .un) [] = .nx (env s) [] := by
    obtain ⟨ρ', S', h1, s, rfl, rfl⟩ := forL_inv (it := ⟨rangeL 0 15, none⟩) (g := Dn.gName 5) (b := bLoop) (kl := []) (fun _ ρ S => ∃ s, ρ = env s ∧ S = []) (fun _ _ _ _ => stays_none _ _) (rangeL 0 15) 0 (env .un) [] ⟨_, rfl, rfl⟩ fun j x ρ S hx ⟨s, e1, e2⟩ => by
      subst e1 e2
      have hj : j < 15 := by
        have := (List.getElem?_eq_some_iff.mp hx).1
        simpa using this
      rw [rangeL_get hj] at hx
      cases hx
      have e0 : (0 : Int) + (j : Int) = j := by omega
      rw [e0]
      obtain ⟨C, fs, k1, k2, k3, k4⟩ := kinds_ok z t w j hj
      have kc := kcomp (env (.val (.int j))) j (by subst henv; rfl)
      have kat : Dn.atI (madeL z t w) (j : Int) = some (.exv C fs) := by
        unfold Dn.atI Dn.ixN
        have hl : (madeL z t w).length = 15 := rfl
        rw [hl, if_pos (by omega), if_pos (by omega)]
        simpa using k1
      have kq : eqAll (kindsL j) (kindsL j) = true := kinds_eq j
      have kp := kinds_plain j
      refine ⟨env (.val (.int j)), by subst henv; rfl, env (.val (.int j)), [], .inl ?_, _, rfl, rfl⟩
      subst henv
      have ro : rOk 15 = true := rfl
      simp [defD, sSeq, sSet, outR, eC, Dn.gName, startE, sIf, tE, eBin, eUn, eB, aCons, aNil, eName, look, looks, bLen, opGt, opLt, opGe, opLe, opSub, opNe, opEq, opIs, opIsNot, truth, opMod, opIx, opAdd, opMul, opPow, sRet, sPass, ret1, Res.bind, eNew, nLst, withD, allD, retD, eCall, eTup, eAnd, eOr, eNot, Dn.tAnd, Dn.tOr, Dn.tNot, isNone, eIsi, tyOf, eXFld, xfldOf, D.eqOk, D.plain, D.plainAll, D.depth, D.depthAll, eqD, eqAll, bLoop, kat, k2, k3, k4, nComp, noOwn, iRange1, ro, kc, kq, kp]
    exact ⟨s, h1⟩
  obtain ⟨s, loop⟩ := loop
  subst henv
  have ro : rOk 15 = true := rfl
  have loopF : sFor (iRange1 (aCons (eC (.int 15)) aNil)) (Dn.gName 5) bLoop [] [.val (.scr ns), .val (.int z), .val t, .val (.str w), .val (.lst (madeL z t w)), .un, .un] [] = .nx [.val (.scr ns), .val (.int z), .val t, .val (.str w), .val (.lst (madeL z t w)), s, .un] [] := by
    rw [← loop]
    simp [defD, sSeq, sSet, outR, eC, Dn.gName, startE, sIf, tE, eBin, eUn, eB, aCons, aNil, eName, look, looks, bLen, opGt, opLt, opGe, opLe, opSub, opNe, opEq, opIs, opIsNot, truth, opMod, opIx, opAdd, opMul, opPow, sRet, sPass, ret1, Res.bind, eNew, nLst, withD, allD, retD, eCall, eTup, eAnd, eOr, eNot, Dn.tAnd, Dn.tOr, Dn.tNot, isNone, eIsi, tyOf, eXFld, xfldOf, D.eqOk, D.plain, D.plainAll, D.depth, D.depthAll, eqD, eqAll, sFor, iRange1, ro]
  have nn : (2:Int) * 10 ^ 60 - 1 = 1999999999999999999999999999999999999999999999999999999999999 := by decide
  have nz : (10:Int) ^ 60 = 1000000000000000000000000000000000000000000000000000000000000 := by decide
  rw [nn, nz] at hz
  rw [nn] at hg
  have hl : (madeL z t w).length = 15 := rfl
  have mo : mulOk 2 1000000000000000000000000000000000000000000000000000000000000 = true := by decide +kernel
  simp [defD, sSeq, sSet, outR, eC, Dn.gName, startE, sIf, tE, eBin, eUn, eB, aCons, aNil, eName, look, looks, bLen, opGt, opLt, opGe, opLe, opSub, opNe, opEq, opIs, opIsNot, truth, opMod, opIx, opAdd, opMul, opPow, sRet, sPass, ret1, Res.bind, eNew, nLst, withD, allD, retD, eCall, eTup, eAnd, eOr, eNot, Dn.tAnd, Dn.tOr, Dn.tNot, isNone, eIsi, tyOf, eXFld, xfldOf, D.eqOk, D.plain, D.plainAll, D.depth, D.depthAll, eqD, eqAll, mo, den_law, bd_law_is, hg, hd1, hd2, ← hz, ht, hw, hm, ro, loopF, hf, line, hl]
end
end K08
end OfP08c
section OfZ08
theorem PySem.Challenge.cw_glowboard_k08_refusals_apart_holds : PySem.Challenge.rw_glowboard_k08_refusals_apart.Holds :=
  K08_head fun ns _ _ => ⟨[], K08.law_ok ns⟩
end OfZ08
