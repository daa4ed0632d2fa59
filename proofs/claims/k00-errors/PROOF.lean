import PyProof.Rows.All
import Wide.All
import OpenK.AllK
import Wide.FinOn
import HandS.Base
import HandS.Call
import HandS.List
import HandS.Wide
import HandS.Exc
import HandS.Comp
import HandS.Deep
import HandS.Zip
import HandS.TupAny
import HandS.Flow
import HandS.IsInst
import HandS.More
import HandS.Style
import HandS.ExcInit
import HandS.ExcSuper
import KE.KExcSuper
import KE.KSuper
import HandS.TryMany
import HandS.ExcField
import HandS.ExcIs
import KE.KExcIs
import HandS.Ends
import HandS.Defaults
import HandS.HeadEnd
import HandS.HeadHook1
import HandS.HeadHook2
import HandS.Words
import KE.KStateDown
import HandS.Head0
import HandS.Head1
import HandS.Head2
import HandS.HotCalls
import PySem.Challenge.RW_drawnwrought_k00_errors_and_limits
/-! text Fw1 -/
set_option Elab.async false
set_option linter.all false
set_option maxRecDepth 100000
set_option maxHeartbeats 4000000
/-! Ev: a small language for what the laws' texts use, and what it computes, over values and a list of objects. -/
namespace Ev
open PySem

/-- a value: tuples are values, lists stand in the row of objects; lis: a list that is only read (the script); fn i: the i-th def of the text -/
inductive A where
  | non | bl (b : Bool) | int (i : Int) | str (x : Str) | tup (xs : List A) | lis (xs : List A) | ref (n : Nat) | fn (i : Nat)

/-- an object: a list -/
inductive O where
  | lst (xs : List A)

abbrev Ho := List O
abbrev Sl := List (Option A)
/-- an exception: its class's number, its attributes -/
structure Xv where
  cls : Nat
  fs : List (Str × A)
inductive R (α : Type) where
  | ok (a : α) (h : Ho) | exc (x : Xv) (h : Ho) | err

def R.bind {α β : Type} (r : R α) (f : α → Ho → R β) : R β := match r with
  | .ok a h => f a h
  | .exc x h => .exc x h
  | .err => .err
def give {α : Type} (o : Option α) (h : Ho) : R α := match o with
  | some a => .ok a h
  | none => .err

/-! ### values -/
mutual
def A.beq : A → A → Bool
  | .non, .non => true
  | .bl a, .bl b => a == b
  | .int a, .int b => a == b
  | .str a, .str b => a == b
  | .tup a, .tup b => A.beqs a b
  | .lis a, .lis b => A.beqs a b
  | .ref a, .ref b => a == b
  | .fn a, .fn b => a == b
  | _, _ => false
def A.beqs : List A → List A → Bool
  | [], [] => true
  | a :: r, b :: s => A.beq a b && A.beqs r s
  | _, _ => false
end
mutual
/-- every object that it names stands below n -/
def A.inb (n : Nat) : A → Bool
  | .tup xs => A.inbs n xs
  | .lis xs => A.inbs n xs
  | .ref m => decide (m < n)
  | _ => true
def A.inbs (n : Nat) : List A → Bool
  | [] => true
  | x :: r => A.inb n x && A.inbs n r
end
def O.items : O → List A
  | .lst xs => xs
/-- the items of a list -/
def seqOf (h : Ho) (n : Nat) : Option (List A) := (h[n]?).map O.items
/-- behind a call: what was made there goes, if nothing that stays names it -/
def trim {α : Type} (n : Nat) (ok : Bool) (h : Ho) (k : Ho → α) : α :=
  if h.length ≤ n then k h else if ok && (h.take n).all (fun o => A.inbs n o.items) then k (h.take n) else k h

def optMap {α β : Type} (f : α → Option β) : List α → Option (List β)
  | [] => some []
  | x :: r => match f x with
    | some y => match optMap f r with
      | some ys => some (y :: ys)
      | none => none
    | none => none
/-- a value as data; n bounds the depth -/
def toD (h : Ho) : Nat → A → Option PyData
  | 0, _ => none
  | n + 1, a => match a with
    | .non => some .none
    | .bl b => some (.bool b)
    | .int i => some (.int i)
    | .str x => some (.str x)
    | .tup xs => (optMap (toD h n) xs).map .tuple
    | .lis xs => (optMap (toD h n) xs).map .list
    | .ref m => match seqOf h m with
      | some xs => (optMap (toD h n) xs).map .list
      | none => none
    | .fn _ => none
def dataOf (h : Ho) (a : A) : Option PyData := toD h 12 a

def lineOk (n : Nat) : Bool := Nat.ble n 16777216
def mulOk (i j : Int) : Bool := Nat.blt (i.natAbs.log2 + j.natAbs.log2) 1000000
def divOk (j : Int) : Bool := j != 0 && Nat.blt j.natAbs.log2 9000
def powOk (i j : Int) : Bool := decide (0 ≤ j) && decide (j ≤ 1000000) && Nat.blt i.natAbs (2 ^ 64)

def newL (xs : List A) (h : Ho) : R A := .ok (.ref h.length) (h ++ [.lst xs])

def binA (op : Operator) (x y : A) (h : Ho) : R A := match op with
  | .Add => match x, y with
    | .int i, .int j => .ok (.int (i + j)) h
    | .tup a, .tup b => if lineOk (a.length + b.length) then .ok (.tup (a ++ b)) h else .err
    | .ref m, .ref n => match h[m]?, h[n]? with
      | some (.lst a), some (.lst b) => if lineOk (a.length + b.length) then newL (a ++ b) h else .err
      | _, _ => .err
    | .str a, .str b => if lineOk (a.length + b.length) then .ok (.str (a ++ b)) h else .err
    | _, _ => .err
  | .Sub => match x, y with
    | .int i, .int j => .ok (.int (i - j)) h
    | _, _ => .err
  | .Mult => match x, y with
    | .int i, .int j => if mulOk i j then .ok (.int (i * j)) h else .err
    | _, _ => .err
  | .FloorDiv => match x, y with
    | .int i, .int j => if divOk j then .ok (.int (i.fdiv j)) h else .err
    | _, _ => .err
  | .Mod => match x, y with
    | .int i, .int j => if j != 0 then .ok (.int (i.fmod j)) h else .err
    | _, _ => .err
  | .Pow => match x, y with
    | .int i, .int j => if powOk i j then .ok (.int (i ^ j.toNat)) h else .err
    | _, _ => .err
  | _ => .err

def negA : A → Option A
  | .int i => some (.int (-i))
  | _ => none

/-- a value's truth -/
def truth (x : A) (h : Ho) : Option Bool := match x with
  | .non => some false
  | .bl b => some b
  | .int i => some (i != 0)
  | .str s => if lineOk s.length then some ((s.length : Int) != 0) else none
  | .tup xs => some (!xs.isEmpty)
  | .lis xs => some (!xs.isEmpty)
  | .ref n => (seqOf h n).map fun xs => !xs.isEmpty
  | .fn _ => none

def eqA (x y : A) (h : Ho) : Option Bool := match dataOf h x, dataOf h y with
  | some d, some e => if SeqAt.shaped d && SeqAt.shaped e then some (PyData.eqv d e) else none
  | _, _ => none
/-- x in a list, a tuple -/
def inA (x y : A) (h : Ho) : Option Bool := match dataOf h x, dataOf h y with
  | some d, some (.tuple ds) => if SeqAt.shaped d && SeqAt.shaped (.tuple ds) then some (ds.any fun z => PyData.eqv z d) else none
  | some d, some (.list ds) => if SeqAt.shaped d && SeqAt.shaped (.list ds) then some (ds.any fun z => PyData.eqv z d) else none
  | _, _ => none
def isNon : A → Bool
  | .non => true
  | _ => false
def cmpA (op : CmpOp) (x y : A) (h : Ho) : Option Bool := match op with
  | .Lt => match x, y with
    | .int i, .int j => some (decide (i < j))
    | _, _ => none
  | .LtE => match x, y with
    | .int i, .int j => some (decide (i ≤ j))
    | _, _ => none
  | .Gt => match x, y with
    | .int i, .int j => some (decide (j < i))
    | _, _ => none
  | .GtE => match x, y with
    | .int i, .int j => some (decide (j ≤ i))
    | _, _ => none
  | .Eq => eqA x y h
  | .NotEq => (eqA x y h).map (!·)
  | .Is => match y with
    | .non => some (isNon x)
    | _ => none
  | .IsNot => match y with
    | .non => some (!isNon x)
    | _ => none
  | .In => inA x y h
  | .NotIn => (inA x y h).map (!·)

/-- the place of an index -/
def idx (n : Nat) (i : Int) : Option Nat := if 0 ≤ i then (if i < n then some i.toNat else none) else if -(n : Int) ≤ i then some (i + n).toNat else none
def subA (x i : A) (h : Ho) : Option A := match i with
  | .int k => match x with
    | .tup xs => (idx xs.length k).bind fun j => xs[j]?
    | .lis xs => (idx xs.length k).bind fun j => xs[j]?
    | .ref n => (seqOf h n).bind fun xs => (idx xs.length k).bind fun j => xs[j]?
    | .str s => if lineOk s.length then (idx s.cps.toList.length k).bind fun j => (s.cps.toList[j]?).map fun c => .str ⟨#[c]⟩ else none
    | _ => none
  | _ => none
def part : A → Option (Option Int)
  | .non => some none
  | .int i => some (some i)
  | _ => none
def clipI (n d : Nat) : Option Int → Nat
  | none => d
  | some i => if i < 0 then (i + (n : Int)).toNat else min i.toNat n
def cut {α : Type} (xs : List α) (lo hi : Option Int) : List α := (xs.drop (clipI xs.length 0 lo)).take (clipI xs.length xs.length hi - clipI xs.length 0 lo)
def slcA (x : A) (l u : Option Int) (h : Ho) : R A := match x with
  | .tup xs => .ok (.tup (cut xs l u)) h
  | .lis xs => newL (cut xs l u) h
  | .ref n => match seqOf h n with
    | some xs => newL (cut xs l u) h
    | none => .err
  | _ => .err

/-- the built-ins that the texts call -/
inductive Bl where
  | len | abs | int | bool | max | min | sum | any | all | tuple | list | isi (T : String) | repr
def isiA (T : String) : A → Option Bool
  | .non => some false
  | .bl _ => some (T == "bool" || T == "int")
  | .int _ => some (T == "int")
  | .str _ => some (T == "str")
  | .tup _ => some (T == "tuple")
  | .lis _ => some (T == "list")
  | .ref _ => some (T == "list")
  | .fn _ => none
def intsOf : List A → Option (List Int)
  | [] => some []
  | .int i :: r => (intsOf r).map (i :: ·)
  | _ :: _ => none
def blsOf : List A → Option (List Bool)
  | [] => some []
  | .bl i :: r => (blsOf r).map (i :: ·)
  | _ :: _ => none
def least : Int → List Int → Int
  | m, [] => m
  | m, x :: r => least (if x < m then x else m) r
def most : Int → List Int → Int
  | m, [] => m
  | m, x :: r => most (if m < x then x else m) r
def bltA (f : Bl) (xs : List A) (h : Ho) : R A := match f with
  | .len => match xs with
    | [.tup ys] => .ok (.int ys.length) h
    | [.lis ys] => .ok (.int ys.length) h
    | [.ref n] => match seqOf h n with
      | some ys => .ok (.int ys.length) h
      | none => .err
    | [.str s] => if lineOk s.length then .ok (.int s.length) h else .err
    | _ => .err
  | .abs => match xs with
    | [.int i] => .ok (.int (if i < 0 then -i else i)) h
    | _ => .err
  | .int => match xs with
    | [.int i] => .ok (.int i) h
    | [.bl b] => .ok (.int (if b then 1 else 0)) h
    | _ => .err
  | .bool => match xs with
    | [.int i] => .ok (.bl (i != 0)) h
    | [.bl b] => .ok (.bl b) h
    | _ => .err
  | .max => match xs with
    | [.int i, .int j] => .ok (.int (if j > i then j else i)) h
    | [.ref n] => match (seqOf h n).bind intsOf with
      | some (i :: r) => .ok (.int (most i r)) h
      | _ => .err
    | _ => .err
  | .min => match xs with
    | [.int i, .int j] => .ok (.int (if j < i then j else i)) h
    | [.ref n] => match (seqOf h n).bind intsOf with
      | some (i :: r) => .ok (.int (least i r)) h
      | _ => .err
    | _ => .err
  | .sum => match xs with
    | [.ref n] => match (seqOf h n).bind intsOf with
      | some is => .ok (.int is.sum) h
      | none => .err
    | _ => .err
  | .any => match xs with
    | [.ref n] => match (seqOf h n).bind blsOf with
      | some bs => .ok (.bl (bs.any id)) h
      | none => .err
    | _ => .err
  | .all => match xs with
    | [.ref n] => match (seqOf h n).bind blsOf with
      | some bs => .ok (.bl (bs.all id)) h
      | none => .err
    | _ => .err
  | .tuple => match xs with
    | [.tup ys] => .ok (.tup ys) h
    | [.ref n] => match seqOf h n with
      | some ys => .ok (.tup ys) h
      | none => .err
    | _ => .err
  | .list => match xs with
    | [.tup ys] => newL ys h
    | [.ref n] => match seqOf h n with
      | some ys => newL ys h
      | none => .err
    | _ => .err
  | .isi T => match xs with
    | [x] => match isiA T x with
      | some b => .ok (.bl b) h
      | none => .err
    | _ => .err
  | .repr => match xs with
    | [x] => match dataOf h x with
      | some d => if d.showable && !d.hasDict && Nat.ble d.depth 64 && lineOk d.shown.length then .ok (.str d.shown) h else .err
      | none => .err
    | _ => .err

/-- the methods that the texts call -/
inductive Mt where
  | append | insert | pop | extend
def setL (n : Nat) (xs : List A) (h : Ho) : Ho := h.set n (.lst xs)
def mthA (m : Mt) (o : A) (xs : List A) (h : Ho) : R A := match o with
  | .ref n => match h[n]? with
    | some (.lst ys) => match m with
      | .append => match xs with
        | [y] => if lineOk (ys.length + 1) then .ok .non (setL n (ys ++ [y]) h) else .err
        | _ => .err
      | .insert => match xs with
        | [.int i, y] => if lineOk (ys.length + 1) && decide (0 ≤ i) && decide (i < 2 ^ 63) then .ok .non (setL n (ys.take i.toNat ++ [y] ++ ys.drop i.toNat) h) else .err
        | _ => .err
      | .pop => match xs with
        | [] => match ys[ys.length - 1]? with
          | some y => .ok y (setL n ys.dropLast h)
          | none => .err
        | _ => .err
      | .extend => match xs with
        | [.ref k] => match h[k]? with
          | some (.lst zs) => if n != k && lineOk (ys.length + zs.length) then .ok .non (setL n (ys ++ zs) h) else .err
          | _ => .err
        | _ => .err
    | _ => .err
  | _ => .err

/-! ### the language -/
/-- a target of an assignment or a loop -/
inductive Tg where
  | nm (i : Nat) | tp (gs : List Tg)
mutual
inductive E where
  | var (i : Nat) | lit (a : A) | glo (x : Str) (a : A)
  | neg (a : E) | not (a : E) | bin (op : Operator) (a b : E)
  | and (a b : E) | or (a b : E) | ite (c : T) (a b : E)
  | cmp (op : CmpOp) (a b : E) | chn (op op' : CmpOp) (a b c : E)
  | tup (es : List E) | lst (es : List E)
  | sub (a i : E) | slc (a lo hi : E) | rev (a : E)
  | call (f : Nat) (es : List E) | cval (f : E) (es : List E) | blt (f : Bl) (es : List E) | isi (T : String) (e : E) | mth (m : Mt) (o : E) (es : List E)
  | comp (elt : E) (g : Tg) (it : I) (c : T) (own : List Nat)
/-- a test -/
inductive T where
  | yes | val (e : E) | and (a b : T) | or (a b : T) | not (a : T)
/-- what is walked -/
inductive I where
  | sq (e : E) | rg (es : List E) | zp (a b : E) | en (a : E)
end

mutual
def Tg.put : Tg → A → Sl → Option Sl
  | .nm i, a, σ => some (σ.set i (some a))
  | .tp gs, a, σ => match a with
    | .tup xs => Tg.puts gs xs σ
    | _ => none
def Tg.puts : List Tg → List A → Sl → Option Sl
  | [], [], σ => some σ
  | g :: r, x :: s, σ => match Tg.put g x σ with
    | some σ' => Tg.puts r s σ'
    | none => none
  | _, _, _ => none
end

/-- lists that are walked stand as they were -/
def still (src : List (Nat × List A)) (h : Ho) : Bool := src.all fun p => match seqOf h p.1 with
  | some xs => A.beqs xs p.2
  | none => false

/-- no exception comes out -/
def R.calm {α : Type} : R α → R α
  | .ok a h => .ok a h
  | _ => .err
def compL (src : List (Nat × List A)) (f : A → Ho → R (Option A)) : List A → Ho → R (List A)
  | [], h => if still src h then .ok [] h else .err
  | x :: r, h => if still src h then (f x h).bind fun o h => (compL src f r h).bind fun ys h => .ok (match o with
      | some y => y :: ys
      | none => ys) h else .err

def rng (lo hi : Int) : List A := (List.range (hi - lo).toNat).map fun i => .int (lo + (i : Nat))
def rngOk (i : Int) : Bool := decide (-(2 ^ 62) ≤ i) && decide (i < 2 ^ 62)
def pairs : List A → List A → List A
  | x :: r, y :: s => .tup [x, y] :: pairs r s
  | _, _ => []
def numbered : Nat → List A → List A
  | _, [] => []
  | i, x :: r => .tup [.int i, x] :: numbered (i + 1) r
/-- what a walk goes over: the items, and the lists that must stand still -/
def walkSq (x : A) (h : Ho) : Option (List A × List (Nat × List A)) := match x with
  | .tup xs => some (xs, [])
  | .lis xs => some (xs, [])
  | .ref n => (seqOf h n).map fun xs => (xs, [(n, xs)])
  | _ => none
def walkRg (xs : List A) : Option (List A × List (Nat × List A)) := match xs with
  | [.int j] => if rngOk j then some (rng 0 j, []) else none
  | [.int i, .int j] => if rngOk i && rngOk j then some (rng i j, []) else none
  | _ => none
def walkZp (x y : A) (h : Ho) : Option (List A × List (Nat × List A)) := match x, y with
  | .tup xs, .tup ys => some (pairs xs ys, [])
  | .ref m, .ref n => match seqOf h m, seqOf h n with
    | some xs, some ys => some (pairs xs ys, [(m, xs), (n, ys)])
    | _, _ => none
  | _, _ => none
def walkEn (x : A) (h : Ho) : Option (List A × List (Nat × List A)) := match x with
  | .ref n => (seqOf h n).map fun xs => (numbered 0 xs, [(n, xs)])
  | _ => none

def wipe (σ : Sl) : List Nat → Sl
  | [] => σ
  | v :: vs => (wipe σ vs).set v none

section
variable (C : Nat → List A → Ho → R A)
mutual
def evE : E → Sl → Ho → R A
  | .var i, σ, h => match σ[i]? with
    | some (some a) => .ok a h
    | _ => .err
  | .lit a, _, h => .ok a h
  | .glo _ a, _, h => .ok a h
  | .neg a, σ, h => (evE a σ h).bind fun x h => give (negA x) h
  | .not a, σ, h => (evE a σ h).bind fun x h => give ((truth x h).map fun b => .bl (!b)) h
  | .bin op a b, σ, h => (evE a σ h).bind fun x h => (evE b σ h).bind fun y h => binA op x y h
  | .and a b, σ, h => (evE a σ h).bind fun x h => match truth x h with
    | some true => evE b σ h
    | some false => .ok x h
    | none => .err
  | .or a b, σ, h => (evE a σ h).bind fun x h => match truth x h with
    | some true => .ok x h
    | some false => evE b σ h
    | none => .err
  | .ite c a b, σ, h => (evT c σ h).bind fun k h => if k then evE a σ h else evE b σ h
  | .cmp op a b, σ, h => (evE a σ h).bind fun x h => (evE b σ h).bind fun y h => give ((cmpA op x y h).map .bl) h
  | .chn op op' a b c, σ, h => (evE a σ h).bind fun x h => (evE b σ h).bind fun y h => match cmpA op x y h with
    | some true => (evE c σ h).bind fun z h => give ((cmpA op' y z h).map .bl) h
    | some false => .ok (.bl false) h
    | none => .err
  | .tup es, σ, h => (evEs es σ h).bind fun xs h => .ok (.tup xs) h
  | .lst es, σ, h => (evEs es σ h).bind fun xs h => newL xs h
  | .sub a i, σ, h => (evE a σ h).bind fun x h => (evE i σ h).bind fun y h => give (subA x y h) h
  | .slc a lo hi, σ, h => (evE a σ h).bind fun x h => (evE lo σ h).bind fun l h => (give (part l) h).bind fun l h => (evE hi σ h).bind fun u h => (give (part u) h).bind fun u h => slcA x l u h
  | .rev a, σ, h => (evE a σ h).bind fun x h => match x with
    | .ref n => match seqOf h n with
      | some xs => newL xs.reverse h
      | none => .err
    | _ => .err
  | .call f es, σ, h => (evEs es σ h).bind fun xs h => C f xs h
  | .cval f es, σ, h => (evE f σ h).bind fun x h => match x with
    | .fn i => (evEs es σ h).bind fun xs h => C i xs h
    | _ => .err
  | .blt f es, σ, h => (evEs es σ h).bind fun xs h => bltA f xs h
  | .isi T e, σ, h => (evE e σ h).bind fun x h => bltA (.isi T) [x] h
  | .mth m o es, σ, h => (evE o σ h).bind fun x h => match x with
    | .ref n => (evEs es σ h).bind fun xs h => mthA m (.ref n) xs h
    | _ => .err
  | .comp elt g it c own, σ, h => (evI it σ h).bind fun w h =>
      (compL w.2 (fun x h => match Tg.put g x (wipe σ own) with
        | some σ' => (evT c σ' h).calm.bind fun k h => if k then (evE elt σ' h).calm.bind fun y h => .ok (some y) h else .ok none h
        | none => .err) w.1 h).bind fun ys h => if lineOk ys.length then newL ys h else .err
def evEs : List E → Sl → Ho → R (List A)
  | [], _, h => .ok [] h
  | e :: r, σ, h => (evE e σ h).bind fun x h => (evEs r σ h).bind fun xs h => .ok (x :: xs) h
def evT : T → Sl → Ho → R Bool
  | .yes, _, h => .ok true h
  | .val e, σ, h => (evE e σ h).bind fun x h => give (truth x h) h
  | .and a b, σ, h => (evT a σ h).bind fun k h => if k then evT b σ h else .ok false h
  | .or a b, σ, h => (evT a σ h).bind fun k h => if k then .ok true h else evT b σ h
  | .not a, σ, h => (evT a σ h).bind fun k h => .ok (!k) h
def evI : I → Sl → Ho → R (List A × List (Nat × List A))
  | .sq e, σ, h => (evE e σ h).bind fun x h => give (walkSq x h) h
  | .rg es, σ, h => (evEs es σ h).bind fun xs h => give (walkRg xs) h
  | .zp a b, σ, h => (evE a σ h).bind fun x h => (evE b σ h).bind fun y h => give (walkZp x y h) h
  | .en a, σ, h => (evE a σ h).bind fun x h => give (walkEn x h) h
end
end

/-- x op= y -/
def augA (op : Operator) (x y : A) (h : Ho) : R A := match op with
  | .Add => match x, y with
    | .int i, .int j => .ok (.int (i + j)) h
    | .str a, .str b => if lineOk (a.length + b.length) then .ok (.str (a ++ b)) h else .err
    | .ref m, .ref n => match h[m]?, h[n]? with
      | some (.lst a), some (.lst b) => if lineOk (a.length + b.length) then .ok (.ref m) (setL m (a ++ b) h) else .err
      | _, _ => .err
    | _, _ => .err
  | .Sub => match x, y with
    | .int i, .int j => .ok (.int (i - j)) h
    | _, _ => .err
  | .Mult => match x, y with
    | .int i, .int j => if mulOk i j then .ok (.int (i * j)) h else .err
    | _, _ => .err
  | .FloorDiv => match x, y with
    | .int i, .int j => if divOk j then .ok (.int (i.fdiv j)) h else .err
    | _, _ => .err
  | .Mod => match x, y with
    | .int i, .int j => if j != 0 then .ok (.int (i.fmod j)) h else .err
    | _, _ => .err
  | _ => .err
/-! ### statements -/
/-- an except suite's answer: e is the caught exception -/
inductive Su where
  | lit (a : A) | fld (f : Str) | tup (ss : List Su) | ite (c : Str) (a b : Su) | isl (cs : List Str) | nol | ive (a b : Su)
structure Hd where
  cls : Str
  as? : Option Nat
  su : Su
inductive S where
  | exp (e : E) | asg (g : Tg) (e : E) | par (is : List Nat) (es : List E) | aug (i : Nat) (op : Operator) (e : E)
  | sto (o i e : E) | ret (e : E) | retN | pass | brk | cnt
  | ife (c : T) (a b : List S) | whl (c : T) (b : List S) | for_ (g : Tg) (it : I) (b : List S)
  | rais (c : Nat) (es : List E) | try_ (b : List S) (hs : List Hd)
inductive Ot where
  | nx (σ : Sl) (h : Ho) | rt (a : A) (h : Ho) | bk (σ : Sl) (h : Ho) | ct (σ : Sl) (h : Ho) | ex (x : Xv) (σ : Sl) (h : Ho) | err
def R.then {α : Type} (r : R α) (σ : Sl) (f : α → Ho → Ot) : Ot := match r with
  | .ok a h => f a h
  | .exc x h => .ex x σ h
  | .err => .err
def Ot.then (o : Ot) (f : Sl → Ho → Ot) : Ot := match o with
  | .nx σ h => f σ h
  | o => o

/-- a loop of at most n turns -/
def whileL (c : Sl → Ho → R Bool) (b : Sl → Ho → Ot) : Nat → Sl → Ho → Ot
  | 0, _, _ => .err
  | n + 1, σ, h => (c σ h).then σ fun k h => if k then match b σ h with
      | .nx σ h => whileL c b n σ h
      | .ct σ h => whileL c b n σ h
      | .bk σ h => .nx σ h
      | o => o
    else .nx σ h
def forL (src : List (Nat × List A)) (g : Tg) (b : Sl → Ho → Ot) : List A → Sl → Ho → Ot
  | [], σ, h => if still src h then .nx σ h else .err
  | x :: r, σ, h => if still src h then match Tg.put g x σ with
      | none => .err
      | some σ => match b σ h with
        | .nx σ h => forL src g b r σ h
        | .ct σ h => forL src g b r σ h
        | .bk σ h => .nx σ h
        | o => o
    else .err
def setsP : List Nat → List A → Sl → Option Sl
  | [], [], σ => some σ
  | i :: r, x :: s, σ => setsP r s (σ.set i (some x))
  | _, _, _ => none
def stoA (o i v : A) (h : Ho) : Option Ho := match o, i with
  | .ref n, .int k => match h[n]? with
    | some (.lst xs) => (idx xs.length k).map fun j => setL n (xs.set j v) h
    | _ => none
  | _, _ => none

/-- a class of errors: its name, its attributes in the order of its arguments, the names that an except clause or isinstance takes it by -/
structure Ec where
  name : Str
  fs : List Str
  up : List Str
structure Df where
  name : Str
  N : List Str
  ps : Nat
  body : List S
structure Pg where
  defs : List Df
  ecs : List Ec
def Pg.takes (P : Pg) (c : Nat) (x : Str) : Bool := match P.ecs[c]? with
  | some e => e.up.any (· == x)
  | none => false
def look (f : Str) : List (Str × A) → Option A
  | [] => none
  | (g, x) :: r => if f == g then some x else look f r
mutual
def evU (P : Pg) (x : Xv) : Su → Option A
  | .lit a => some a
  | .fld f => look f x.fs
  | .tup ss => (evUs P x ss).map .tup
  | .ite c a b => if P.takes x.cls c then evU P x a else evU P x b
  | .isl _ => none
  | .nol => none
  | .ive _ _ => none
def evUs (P : Pg) (x : Xv) : List Su → Option (List A)
  | [] => some []
  | s :: r => match evU P x s with
    | some a => (evUs P x r).map (a :: ·)
    | none => none
end
/-- a suite's answer where a list may be made -/
def evH (P : Pg) (x : Xv) (h : Ho) : Su → Option (A × Ho)
  | .isl cs => some (.ref h.length, h ++ [.lst (cs.map fun c => .bl (P.takes x.cls c))])
  | .nol => some (.ref h.length, h ++ [.lst []])
  | .ive a _ => evH P x h a
  | s => (evU P x s).map fun a => (a, h)
def handle (P : Pg) (x : Xv) (σ : Sl) (h : Ho) : List Hd → Ot
  | [] => .ex x σ h
  | d :: r => if P.takes x.cls d.cls then match evH P x h d.su with
      | some p => .rt p.1 p.2
      | none => .err
    else handle P x σ h r

section
variable (P : Pg) (W : Nat) (C : Nat → List A → Ho → R A)
mutual
def evS : S → Sl → Ho → Ot
  | .exp e, σ, h => (evE C e σ h).then σ fun _ h => .nx σ h
  | .asg g e, σ, h => (evE C e σ h).then σ fun x h => match Tg.put g x σ with
    | some σ => .nx σ h
    | none => .err
  | .par is es, σ, h => (evEs C es σ h).then σ fun xs h => match setsP is xs σ with
    | some σ => .nx σ h
    | none => .err
  | .aug i op e, σ, h => match σ[i]? with
    | some (some x) => (evE C e σ h).then σ fun y h => (augA op x y h).then σ fun z h => .nx (σ.set i (some z)) h
    | _ => .err
  | .sto o i e, σ, h => (evE C e σ h).then σ fun v h => (evE C o σ h).then σ fun x h => (evE C i σ h).then σ fun y h => match stoA x y v h with
    | some h => .nx σ h
    | none => .err
  | .ret e, σ, h => (evE C e σ h).then σ fun x h => .rt x h
  | .retN, _, h => .rt .non h
  | .pass, σ, h => .nx σ h
  | .brk, σ, h => .bk σ h
  | .cnt, σ, h => .ct σ h
  | .ife c a b, σ, h => (evT C c σ h).then σ fun k h => if k then evSs a σ h else evSs b σ h
  | .whl c b, σ, h => whileL (evT C c) (fun σ h => evSs b σ h) W σ h
  | .for_ g it b, σ, h => (evI C it σ h).then σ fun w h => forL w.2 g (fun σ h => evSs b σ h) w.1 σ h
  | .rais c es, σ, h => (evEs C es σ h).then σ fun xs h => match P.ecs[c]? with
    | some e => if xs.length == e.fs.length then .ex ⟨c, e.fs.zip xs⟩ σ h else .err
    | none => .err
  | .try_ b hs, σ, h => match evSs b σ h with
    | .ex x σ h => handle P x σ h hs
    | o => o
def evSs : List S → Sl → Ho → Ot
  | [], σ, h => .nx σ h
  | s :: r, σ, h => (evS s σ h).then fun σ h => evSs r σ h
end
end

mutual
/-- the same, told of objects n further on -/
def A.up (n : Nat) : A → A
  | .tup xs => .tup (A.ups n xs)
  | .lis xs => .lis (A.ups n xs)
  | .ref m => .ref (n + m)
  | .non => .non
  | .bl b => .bl b
  | .int i => .int i
  | .str z => .str z
  | .fn f => .fn f
def A.ups (n : Nat) : List A → List A
  | [] => []
  | x :: r => A.up n x :: A.ups n r
end
def O.up (n : Nat) : O → O
  | .lst xs => .lst (A.ups n xs)
def upF (n : Nat) : List (Str × A) → List (Str × A)
  | [] => []
  | p :: r => (p.1, A.up n p.2) :: upF n r
/-- what was computed with no object around, with h around -/
def graft (h : Ho) : R A → R A
  | .ok a h' => .ok (A.up h.length a) (h ++ h'.map (O.up h.length))
  | .exc x h' => .exc ⟨x.cls, upF h.length x.fs⟩ (h ++ h'.map (O.up h.length))
  | .err => .err
/-- a call that no object is handed to: it is computed with no object around -/
def callP (C : Nat → List A → Ho → R A) (f : Nat) (xs : List A) (h : Ho) : R A := if A.inbs 0 xs then graft h (C f xs []) else C f xs h
/-- a def's call, k calls deep at most -/
def callK (P : Pg) (W : Nat) : Nat → Nat → List A → Ho → R A
  | 0, _, _, _ => .err
  | k + 1, f, xs, h => match P.defs[f]? with
    | none => .err
    | some d => if xs.length == d.ps then match evSs P W (callP (callK P W k)) d.body (xs.map some ++ List.replicate (d.N.length - xs.length) none) h with
        | .rt a h' => trim h.length (A.inb h.length a) h' fun h' => .ok a h'
        | .nx _ h' => trim h.length true h' fun h' => .ok .non h'
        | .ex x _ h' => trim h.length (A.inbs h.length (x.fs.map (·.2))) h' fun h' => .exc x h'
        | _ => .err
      else .err
end Ev

/-! text Fw2 -/
set_option Elab.async false
set_option linter.all false
set_option maxRecDepth 100000
set_option maxHeartbeats 4000000
/-! Ev: how values and objects are told of the layer's heap, and what a reading of a computed part says. -/
namespace Ev
open PySem PySem.Spec PyProof.Rows L2

/-- what the text's top has written: the written part, the names, the program -/
structure Ws where
  K : PySem.W.Frag
  mg : Str → Option Value
  G : Pg

/-- a list that nothing changes -/
def Ro (K : PySem.W.Frag) (H : Hp) (a : Addr) (vs : List V) : Prop :=
  (∃ o, H a = some (.frz o (.lst vs))) ∨
    ∃ (o : Obj) (its : Array Value) (n : Nat), K.lookup a = some o ∧ o.cls = .type "list" ∧ o.dict = none ∧ o.data = .seq its n ∧ its.size ≤ sizeLine ∧ Vals vs its.toList
theorem Ro.sq {K : PySem.W.Frag} {H : Hp} {a : Addr} {vs : List V} (h : Ro K H a vs) : SqL K H a vs := h.elim (fun ⟨o, e⟩ => .inl (.inr ⟨o, e⟩)) .inr

mutual
inductive Ra (S : Ws) (r : List Addr) (H : Hp) : A → V → Prop
  | non : Ra S r H .non .non
  | bl (b : Bool) : Ra S r H (.bl b) (.bl b)
  | int (i : Int) : Ra S r H (.int i) (.int i)
  | str (x : Str) : Ra S r H (.str x) (.str x)
  | tup {xs : List A} {a : Addr} {vs : List V} (q : SqT S.K H a vs) (h : Ras S r H xs vs) : Ra S r H (.tup xs) (.ref a)
  | lis {xs : List A} {a : Addr} {vs : List V} (q : Ro S.K H a vs) (h : Ras S r H xs vs) : Ra S r H (.lis xs) (.ref a)
  | ref {n : Nat} {p : Addr} (h : r[n]? = some p) : Ra S r H (.ref n) (.ref p)
  | fn {i : Nat} {d : Df} {f : Addr} (h : S.G.defs[i]? = some d) (e : S.mg d.name = some (.ref f)) : Ra S r H (.fn i) (.ref f)
inductive Ras (S : Ws) (r : List Addr) (H : Hp) : List A → List V → Prop
  | nil : Ras S r H [] []
  | cons {a : A} {v : V} {as : List A} {vs : List V} (h : Ra S r H a v) (t : Ras S r H as vs) : Ras S r H (a :: as) (v :: vs)
end
/-- the objects stand at r -/
structure Rel (S : Ws) (r : List Addr) (h : Ho) (H : Hp) : Prop where
  len : r.length = h.length
  nd : r.Nodup
  at_ : ∀ (n : Nat) (xs : List A), h[n]? = some (O.lst xs) → ∃ p vs, r[n]? = some p ∧ H p = some (.lst vs) ∧ Ras S r H xs vs
/-- the slots -/
structure Rs (S : Ws) (r : List Addr) (H : Hp) (s : Sl) (σ : L2.St) : Prop where
  len : s.length = σ.length
  at_ : ∀ (i : Nat) (a : A), s[i]? = some (some a) → ∃ v, σ[i]? = some (some v) ∧ Ra S r H a v
/-- a later state -/
structure Step (r : List Addr) (H : Hp) (r' : List Addr) (H' : Hp) : Prop where
  pre : r <+: r'
  new : ∀ b, b ∈ r' → b ∉ r → H b = none
  keep : ∀ b o, H b = some o → b ∉ r → H' b = some o
theorem Step.refl {r : List Addr} {H : Hp} : Step r H r H := ⟨List.prefix_refl _, fun _ h n => absurd h n, fun _ _ e _ => e⟩
theorem Step.trans {r r1 r2 : List Addr} {H H1 H2 : Hp} (a : Step r H r1 H1) (b : Step r1 H1 r2 H2) : Step r H r2 H2 := by
  refine ⟨a.pre.trans b.pre, fun c h n => ?_, fun c o e n => ?_⟩
  · by_cases m : c ∈ r1
    · exact a.new c m n
    · cases q : H c with
      | none => rfl
      | some o =>
        have e1 := a.keep c o q n
        rw [b.new c h m] at e1
        cases e1
  · refine b.keep c o (a.keep c o e n) fun m => ?_
    rw [a.new c m n] at e
    cases e
section
variable {S : Ws} {r r' : List Addr} {H H' : Hp} {h h' : Ho}
theorem Rel.lstOf (R : Rel S r h H) {b : Addr} (hb : b ∈ r) : ∃ vs, H b = some (.lst vs) := by
  obtain ⟨n, hn⟩ := List.getElem?_of_mem hb
  have hl : n < h.length := by rw [← R.len]; exact (List.getElem?_eq_some_iff.mp hn).1
  cases q : h[n] with
  | lst xs =>
    obtain ⟨p, vs, e1, e2, _⟩ := R.at_ n xs (by rw [List.getElem?_eq_getElem hl, q])
    rw [hn] at e1
    cases e1
    exact ⟨vs, e2⟩
theorem Rel.notIn (R : Rel S r h H) {b : Addr} {o : HO} (e : H b = some o) (ne : ∀ vs, o ≠ .lst vs) : b ∉ r := fun hb => by
  obtain ⟨vs, q⟩ := R.lstOf hb
  rw [e] at q
  exact ne vs (Option.some.inj q)
theorem Rd.step (R : Rel S r h H) (st : Step r H r' H') {a : Addr} {u : HO} (d : L2.Rd H a u) (ne : ∀ vs, u ≠ .lst vs) : L2.Rd H' a u := by
  rcases d with e | ⟨o, e⟩
  · exact .inl (st.keep a _ e (R.notIn e ne))
  · exact .inr ⟨o, st.keep a _ e (R.notIn e fun vs q => by cases q)⟩
theorem SqT.step (R : Rel S r h H) (st : Step r H r' H') {a : Addr} {vs : List V} (d : SqT S.K H a vs) : SqT S.K H' a vs := by
  rcases d with d | d
  · exact .inl (Rd.step R st d fun vs q => by cases q)
  · exact .inr d
theorem Ro.step (R : Rel S r h H) (st : Step r H r' H') {a : Addr} {vs : List V} (d : Ro S.K H a vs) : Ro S.K H' a vs := by
  rcases d with ⟨o, e⟩ | d
  · exact .inl ⟨o, st.keep a _ e (R.notIn e fun vs q => by cases q)⟩
  · exact .inr d
theorem pre_get {r r' : List Addr} (p : r <+: r') {n : Nat} {a : Addr} (e : r[n]? = some a) : r'[n]? = some a := by
  obtain ⟨t, rfl⟩ := p
  rw [List.getElem?_append_left (List.getElem?_eq_some_iff.mp e).1, e]
mutual
theorem Ra.step (R : Rel S r h H) (st : Step r H r' H') : ∀ {a : A} {v : V}, Ra S r H a v → Ra S r' H' a v
  | _, _, .non => .non
  | _, _, .bl b => .bl b
  | _, _, .int i => .int i
  | _, _, .str x => .str x
  | _, _, .tup q t => .tup (SqT.step R st q) (Ras.step R st t)
  | _, _, .lis q t => .lis (Ro.step R st q) (Ras.step R st t)
  | _, _, .ref e => .ref (pre_get st.pre e)
  | _, _, .fn e1 e2 => .fn e1 e2
theorem Ras.step (R : Rel S r h H) (st : Step r H r' H') : ∀ {as : List A} {vs : List V}, Ras S r H as vs → Ras S r' H' as vs
  | _, _, .nil => .nil
  | _, _, .cons a t => .cons (Ra.step R st a) (Ras.step R st t)
end
theorem Ras.length : ∀ {as : List A} {vs : List V}, Ras S r H as vs → as.length = vs.length
  | _, _, .nil => rfl
  | _, _, .cons _ t => congrArg Nat.succ (Ras.length t)
theorem Ras.get : ∀ {as : List A} {vs : List V} {i : Nat} {a : A}, Ras S r H as vs → as[i]? = some a → ∃ v, vs[i]? = some v ∧ Ra S r H a v
  | _, _, _, _, .nil, e => by simp at e
  | _, _, 0, _, .cons q _, e => by
    simp at e
    subst e
    exact ⟨_, rfl, q⟩
  | _, _, i + 1, a, .cons _ t, e => by
    obtain ⟨v, e1, q⟩ := Ras.get (i := i) (a := a) t (by simpa using e)
    exact ⟨v, by simpa using e1, q⟩
theorem Ras.get' : ∀ {as : List A} {vs : List V} {i : Nat} {v : V}, Ras S r H as vs → vs[i]? = some v → ∃ a, as[i]? = some a ∧ Ra S r H a v
  | _, _, _, _, .nil, e => by simp at e
  | _, _, 0, _, .cons q _, e => by
    simp at e
    subst e
    exact ⟨_, rfl, q⟩
  | _, _, i + 1, v, .cons _ t, e => by
    obtain ⟨a, e1, q⟩ := Ras.get' (i := i) (v := v) t (by simpa using e)
    exact ⟨a, by simpa using e1, q⟩
theorem Ras.app : ∀ {as bs : List A} {vs ws : List V}, Ras S r H as vs → Ras S r H bs ws → Ras S r H (as ++ bs) (vs ++ ws)
  | _, _, _, _, .nil, q => q
  | _, _, _, _, .cons a t, q => .cons a (Ras.app t q)
theorem Ras.take : ∀ {as : List A} {vs : List V} (n : Nat), Ras S r H as vs → Ras S r H (as.take n) (vs.take n)
  | _, _, 0, _ => .nil
  | _, _, _ + 1, .nil => .nil
  | _, _, n + 1, .cons a t => .cons a (Ras.take n t)
theorem Ras.drop : ∀ {as : List A} {vs : List V} (n : Nat), Ras S r H as vs → Ras S r H (as.drop n) (vs.drop n)
  | _, _, 0, q => q
  | _, _, _ + 1, .nil => .nil
  | _, _, n + 1, .cons _ t => Ras.drop n t
theorem Ras.set {a : A} {v : V} (q : Ra S r H a v) : ∀ {as : List A} {vs : List V} (i : Nat), Ras S r H as vs → Ras S r H (as.set i a) (vs.set i v)
  | _, _, _, .nil => .nil
  | _, _, 0, .cons _ t => .cons q t
  | _, _, i + 1, .cons p t => .cons p (Ras.set q i t)
theorem Ras.one {a : A} {v : V} (q : Ra S r H a v) : Ras S r H [a] [v] := .cons q .nil
theorem Ras.snoc {as : List A} {vs : List V} {a : A} {v : V} (t : Ras S r H as vs) (q : Ra S r H a v) : Ras S r H (as ++ [a]) (vs ++ [v]) := t.app (.one q)
theorem Ras.rev : ∀ {as : List A} {vs : List V}, Ras S r H as vs → Ras S r H as.reverse vs.reverse
  | _, _, .nil => .nil
  | _, _, .cons a t => by
    rw [List.reverse_cons, List.reverse_cons]
    exact (Ras.rev t).snoc a
theorem Ras.dropLast {as : List A} {vs : List V} (t : Ras S r H as vs) : Ras S r H as.dropLast vs.dropLast := by
  rw [List.dropLast_eq_take, List.dropLast_eq_take, t.length]
  exact t.take _
theorem Rs.step (R : Rel S r h H) (st : Step r H r' H') {s : Sl} {σ : L2.St} (q : Rs S r H s σ) : Rs S r' H' s σ :=
  ⟨q.len, fun i a e => let ⟨v, e1, t⟩ := q.at_ i a e; ⟨v, e1, t.step R st⟩⟩
theorem Rs.set {s : Sl} {σ : L2.St} {a : A} {v : V} (q : Rs S r H s σ) (t : Ra S r H a v) (i : Nat) : Rs S r H (s.set i (some a)) (σ.set i (some v)) := by
  refine ⟨by rw [List.length_set, List.length_set, q.len], fun j b e => ?_⟩
  by_cases hj : i = j
  · subst hj
    have hl : i < s.length := by
      have := (List.getElem?_eq_some_iff.mp e).1
      rwa [List.length_set] at this
    rw [List.getElem?_set_self hl] at e
    cases e
    exact ⟨v, List.getElem?_set_self (by rw [← q.len]; exact hl), t⟩
  · rw [List.getElem?_set_ne hj] at e
    rw [List.getElem?_set_ne hj]
    exact q.at_ j b e
theorem Rs.wipe {s : Sl} {σ : L2.St} (q : Rs S r H s σ) : ∀ own : List Nat, Rs S r H (Ev.wipe s own) (L2.wipe σ own)
  | [] => q
  | v :: vs => by
    have ih := Rs.wipe q vs
    refine ⟨by show ((Ev.wipe s vs).set v none).length = ((L2.wipe σ vs).set v none).length; rw [List.length_set, List.length_set, ih.len], fun i a e => ?_⟩
    have e : ((Ev.wipe s vs).set v none)[i]? = some (some a) := e
    show ∃ w, ((L2.wipe σ vs).set v none)[i]? = some (some w) ∧ _
    by_cases hi : v = i
    · subst hi
      have hl : v < (Ev.wipe s vs).length := by
        have := (List.getElem?_eq_some_iff.mp e).1
        rwa [List.length_set] at this
      rw [List.getElem?_set_self hl] at e
      cases e
    · rw [List.getElem?_set_ne hi] at e
      rw [List.getElem?_set_ne hi]
      exact ih.at_ i a e

/-- a new list -/
theorem Rel.push (R : Rel S r h H) {p : Addr} {xs : List A} {vs : List V} (hp : H p = none) (t : Ras S r H xs vs) :
    Rel S (r ++ [p]) (h ++ [.lst xs]) (upd H p (.lst vs)) ∧ Step r H (r ++ [p]) (upd H p (.lst vs)) ∧ Ra S (r ++ [p]) (upd H p (.lst vs)) (.ref h.length) (.ref p) := by
  have np : p ∉ r := fun hb => by
    obtain ⟨ws, e⟩ := R.lstOf hb
    rw [hp] at e
    cases e
  have st : Step r H (r ++ [p]) (upd H p (.lst vs)) := by
    refine ⟨List.prefix_append _ _, fun b hb nb => ?_, fun b o e nb => ?_⟩
    · rcases List.mem_append.mp hb with z | z
      · exact absurd z nb
      · rw [List.mem_singleton.mp z]
        exact hp
    · rw [upd_ne (ne_of_none e hp)]
      exact e
  refine ⟨⟨by rw [List.length_append, List.length_append, R.len]; rfl, ?_, fun n ys e => ?_⟩, st, .ref ?_⟩
  · exact List.nodup_append.mpr ⟨R.nd, by simp, fun a ha b hb => by
      rw [List.mem_singleton.mp hb]
      exact fun z => np (z ▸ ha)⟩
  · by_cases hn : n < h.length
    · rw [List.getElem?_append_left hn] at e
      obtain ⟨q, ws, e1, e2, t2⟩ := R.at_ n ys e
      refine ⟨q, ws, pre_get (List.prefix_append _ _) e1, ?_, t2.step R st⟩
      rw [upd_ne (ne_of_none e2 hp)]
      exact e2
    · rw [List.getElem?_append_right (by omega)] at e
      have hn0 : n - h.length = 0 := by
        have := (List.getElem?_eq_some_iff.mp e).1
        simp at this
        omega
      rw [hn0] at e
      simp at e
      subst e
      refine ⟨p, vs, ?_, upd_same, t.step R st⟩
      rw [List.getElem?_append_right (by rw [R.len]; omega), R.len, hn0]
      rfl
  · rw [List.getElem?_append_right (by rw [R.len]; exact Nat.le_refl _), R.len, Nat.sub_self]
    rfl
/-- a new object that is no list of ours (a tuple, an error's dict) -/
theorem Step.other {p : Addr} {u : HO} (R : Rel S r h H) (hp : H p = none) : Rel S r h (upd H p u) ∧ Step r H r (upd H p u) := by
  have st : Step r H r (upd H p u) := ⟨List.prefix_refl _, fun b hb nb => absurd hb nb, fun b o e nb => by rw [upd_ne (ne_of_none e hp)]; exact e⟩
  refine ⟨⟨R.len, R.nd, fun n xs e => ?_⟩, st⟩
  obtain ⟨q, ws, e1, e2, t⟩ := R.at_ n xs e
  exact ⟨q, ws, e1, by rw [upd_ne (ne_of_none e2 hp)]; exact e2, t.step R st⟩
/-- a list of ours changed -/
theorem Rel.put (R : Rel S r h H) {n : Nat} {p : Addr} {xs ys : List A} {ws : List V} (e : h[n]? = some (.lst ys)) (ep : r[n]? = some p) (t : Ras S r H xs ws) :
    Rel S r (h.set n (.lst xs)) (upd H p (.lst ws)) ∧ Step r H r (upd H p (.lst ws)) := by
  have hp : p ∈ r := List.mem_of_getElem? ep
  have st : Step r H r (upd H p (.lst ws)) := ⟨List.prefix_refl _, fun b hb nb => absurd hb nb, fun b o e nb => by
    have bp : b ≠ p := fun z => nb (by rw [z]; exact hp)
    rw [upd_ne bp]
    exact e⟩
  have hl : n < h.length := (List.getElem?_eq_some_iff.mp e).1
  refine ⟨⟨by rw [List.length_set]; exact R.len, R.nd, fun m zs em => ?_⟩, st⟩
  by_cases hm : n = m
  · subst hm
    rw [List.getElem?_set_self hl] at em
    cases em
    exact ⟨p, ws, ep, upd_same, t.step R st⟩
  · rw [List.getElem?_set_ne hm] at em
    obtain ⟨q, us, e1, e2, t2⟩ := R.at_ m zs em
    have nq : q ≠ p := fun z => by
      subst z
      obtain ⟨h1, f1⟩ := List.getElem?_eq_some_iff.mp e1
      obtain ⟨h2, f2⟩ := List.getElem?_eq_some_iff.mp ep
      exact hm ((List.getElem_inj R.nd).mp (f2.trans f1.symm))
    exact ⟨q, us, e1, by rw [upd_ne nq]; exact e2, t2.step R st⟩
end

/-! ### what is wanted of a computed part -/
/-- an exception: its class, its own dict with the attributes -/
def Rx (S : Ws) (r : List Addr) (H : Hp) (x : Xv) (cls : Value) (d : Option Addr) : Prop :=
  ∃ (e : Ec) (C dd : Addr) (fs : List (Str × V)), S.G.ecs[x.cls]? = some e ∧ S.mg e.name = some (.ref C) ∧ cls = .ref C ∧ d = some dd ∧ H dd = some (.xd fs) ∧ fs.map (·.1) = x.fs.map (·.1) ∧ Ras S r H (x.fs.map (·.2)) (fs.map (·.2)) ∧ x.fs.map (·.1) = e.fs
/-- what is wanted of a result: rel tells how it shows -/
def Po {α β : Type} (S : Ws) (rel : List Addr → Hp → α → β → Prop) (r : List Addr) (H : Hp) (res : R α) (Q : β → Hp → Prop) (E : XK) : Prop := match res with
  | .ok a h' => ∀ r' H' v, Step r H r' H' → Rel S r' h' H' → rel r' H' a v → Q v H'
  | .exc x h' => ∀ r' H' cls d, Step r H r' H' → Rel S r' h' H' → Rx S r' H' x cls d → E cls d H'
  | .err => False
abbrev PoV (S : Ws) (r : List Addr) (H : Hp) (res : R A) (Q : VK) (E : XK) : Prop := Po S (fun r H a v => Ra S r H a v) r H res Q E
abbrev PoB (S : Ws) (r : List Addr) (H : Hp) (res : R Bool) (Q : Bool → Hp → Prop) (E : XK) : Prop := Po S (fun _ _ (a : Bool) b => a = b) r H res Q E
abbrev PoL (S : Ws) (r : List Addr) (H : Hp) (res : R (List A)) (Q : List V → Hp → Prop) (E : XK) : Prop := Po S (fun r H as vs => Ras S r H as vs) r H res Q E
/-- a state that the computing's state tells of -/
structure At (S : Ws) (r : List Addr) (s : Sl) (h : Ho) (σ : L2.St) (H : Hp) : Prop where
  rel : Rel S r h H
  sl : Rs S r H s σ
theorem At.step {S : Ws} {r r' : List Addr} {s : Sl} {h h' : Ho} {σ : L2.St} {H H' : Hp} (a : At S r s h σ H) (st : Step r H r' H') (R' : Rel S r' h' H') : At S r' s h' σ H' := ⟨R', a.sl.step a.rel st⟩
def rdE (S : Ws) (W : WX) (f : Sl → Ho → R A) : TE := fun σ H Q => ∃ r s h, At S r s h σ H ∧ PoV S r H (f s h) Q fun cls d H' => W cls d σ H'
def rdB (S : Ws) (W : WX) (f : Sl → Ho → R Bool) : TT := fun σ H Q => ∃ r s h, At S r s h σ H ∧ PoB S r H (f s h) Q fun cls d H' => W cls d σ H'
def rdA (S : Ws) (W : WX) (f : Sl → Ho → R (List A)) : TA := fun σ H Q => ∃ r s h, At S r s h σ H ∧ PoL S r H (f s h) Q fun cls d H' => W cls d σ H'

section
variable {α β γ δ : Type} {S : Ws} {rel : List Addr → Hp → α → β → Prop} {rel2 : List Addr → Hp → γ → δ → Prop} {r r' : List Addr} {H H' : Hp} {h : Ho} {s : Sl} {σ : L2.St} {res : R α} {Q Q' : β → Hp → Prop} {E : XK}
/-- from a state on to a later one -/
theorem Po.from (p : Po S rel r H res Q E) (st : Step r H r' H') : Po S rel r' H' res Q E := by
  cases res with
  | ok a h' => exact fun r2 H2 v s2 R2 t => p r2 H2 v (st.trans s2) R2 t
  | exc x h' => exact fun r2 H2 c d s2 R2 t => p r2 H2 c d (st.trans s2) R2 t
  | err => exact p
theorem Po.mono (p : Po S rel r H res Q E) (k : ∀ v H, Q v H → Q' v H) : Po S rel r H res Q' E := by
  cases res with
  | ok a h' => exact fun r2 H2 v s2 R2 t => k v H2 (p r2 H2 v s2 R2 t)
  | exc x h' => exact p
  | err => exact p
/-- first one part, then what is done with it -/
theorem Po.bind {g : α → Ho → R γ} {Q : δ → Hp → Prop} (a : At S r s h σ H) (p : Po S rel2 r H (res.bind g) Q E) :
    Po S rel r H res (fun v H1 => ∃ r1 a1 h1, At S r1 s h1 σ H1 ∧ Step r H r1 H1 ∧ rel r1 H1 a1 v ∧ Po S rel2 r1 H1 (g a1 h1) Q E) E := by
  cases res with
  | ok a1 h1 => exact fun r1 H1 v st R1 t => ⟨r1, a1, h1, a.step st R1, st, t, Po.from p st⟩
  | exc x h' => exact p
  | err => exact p
end
end Ev

/-! text Fw3 -/
set_option Elab.async false
set_option linter.all false
set_option maxRecDepth 100000
set_option maxHeartbeats 4000000
/-! Ev: the operators: what the layer's rules ask follows from what is computed. -/
namespace Ev
open PySem PySem.Spec PyProof.Rows L2

abbrev sOf (X : Cx) (G : Pg) : Ws := ⟨X.K, X.mg, G⟩

theorem line_le {n : Nat} (h : lineOk n = true) : n ≤ sizeLine := by
  rw [sizeLine_eq]
  exact Nat.le_of_ble_eq_true h
section
variable {S : Ws} {r : List Addr} {H : Hp} {h : Ho}
theorem seq_at (R : Rel S r h H) {n : Nat} {p : Addr} {xs : List A} (e : seqOf h n = some xs) (ep : r[n]? = some p) : ∃ vs, H p = some (.lst vs) ∧ Ras S r H xs vs := by
  unfold seqOf at e
  cases q : h[n]? with
  | none =>
    rw [q] at e
    cases e
  | some o =>
    cases o with
    | lst ys =>
      rw [q] at e
      cases e
      obtain ⟨p', vs, e1, e2, t⟩ := R.at_ n _ q
      rw [ep] at e1
      cases e1
      exact ⟨vs, e2, t⟩
/-- a list that a value names, to be read -/
theorem ref_seq (R : Rel S r h H) {n : Nat} {v : V} {xs : List A} (e : seqOf h n = some xs) (t : Ra S r H (.ref n) v) : ∃ p vs, v = .ref p ∧ SqL S.K H p vs ∧ Ras S r H xs vs := by
  cases t with
  | ref ep =>
    obtain ⟨vs, e2, t2⟩ := seq_at R e ep
    exact ⟨_, vs, rfl, SqL.of e2, t2⟩

/-! ### data -/
mutual
theorem dp_of (R : Rel S r h H) : ∀ (n : Nat) {a : A} {v : V} {d : PyData}, toD h n a = some d → Ra S r H a v → Dp S.K H v d
  | 0, _, _, _, e, _ => by cases e
  | n + 1, .non, _, _, e, t => by
    cases t
    cases e
    exact .non
  | n + 1, .bl b, _, _, e, t => by
    cases t
    cases e
    exact .bl b
  | n + 1, .int i, _, _, e, t => by
    cases t
    cases e
    exact .int i
  | n + 1, .str x, _, _, e, t => by
    cases t
    cases e
    exact .str x
  | n + 1, .tup xs, _, d, e, t => by
    have e : (optMap (toD h n) xs).map PyData.tuple = some d := e
    cases q : optMap (toD h n) xs with
    | none =>
      rw [q] at e
      cases e
    | some ds =>
      rw [q] at e
      cases e
      cases t with
      | tup hq ht => exact .tup hq (dps_of R n q ht)
  | n + 1, .lis xs, _, d, e, t => by
    have e : (optMap (toD h n) xs).map PyData.list = some d := e
    cases q : optMap (toD h n) xs with
    | none =>
      rw [q] at e
      cases e
    | some ds =>
      rw [q] at e
      cases e
      cases t with
      | lis hq ht => exact .lst hq.sq (dps_of R n q ht)
  | n + 1, .ref m, v, d, e, t => by
    have e : (match seqOf h m with
      | some xs => (optMap (toD h n) xs).map PyData.list
      | none => none) = some d := e
    cases q : seqOf h m with
    | none =>
      rw [q] at e
      cases e
    | some xs =>
      rw [q] at e
      have e : (optMap (toD h n) xs).map PyData.list = some d := e
      cases q2 : optMap (toD h n) xs with
      | none =>
        rw [q2] at e
        cases e
      | some ds =>
        rw [q2] at e
        cases e
        obtain ⟨p, vs, rfl, hs, ht⟩ := ref_seq R q t
        exact .lst hs (dps_of R n q2 ht)
  | n + 1, .fn _, _, _, e, _ => by cases e
theorem dps_of (R : Rel S r h H) : ∀ (n : Nat) {as : List A} {vs : List V} {ds : List PyData}, optMap (toD h n) as = some ds → Ras S r H as vs → DpAll S.K H vs ds
  | n, [], _, _, e, t => by
    cases t
    cases e
    exact .nil
  | n, a :: as, _, ds, e, t => by
    unfold optMap at e
    cases q : toD h n a with
    | none =>
      rw [q] at e
      cases e
    | some d =>
      rw [q] at e
      cases q2 : optMap (toD h n) as with
      | none =>
        rw [q2] at e
        cases e
      | some es =>
        rw [q2] at e
        cases e
        cases t with
        | cons ta tr => exact .cons (dp_of R n q ta) (dps_of R n q2 tr)
end

/-! ### operators -/
variable {X : Cx} {G : Pg}
/-- what is computed of two values -/
def r2 (S : Ws) (g : A → A → Ho → R A) : R2 := fun v u H Q => ∃ r h a b E, Rel S r h H ∧ Ra S r H a v ∧ Ra S r H b u ∧ PoV S r H (g a b h) Q E
theorem Po.here {α β : Type} {rel : List Addr → Hp → α → β → Prop} {a : α} {v : β} {Q : β → Hp → Prop} {E : XK} (R : Rel S r h H) (t : rel r H a v) (p : Po S rel r H (.ok a h) Q E) : Q v H := p r H v .refl R t
theorem Po.list {xs : List A} {vs : List V} {Q : VK} {E : XK} (R : Rel S r h H) (t : Ras S r H xs vs) (p : PoV S r H (newL xs h) Q E) : ∀ q, H q = none → Q (.ref q) (upd H q (.lst vs)) := fun q hq => by
  obtain ⟨R', st, ra⟩ := R.push hq t
  exact p _ _ _ st R' ra
theorem op_bin (op : Operator) : OpR X (binaryOp op) (r2 (sOf X G) (binA op)) := by
  intro pins s σ H x y v u Q I rx ry hh
  obtain ⟨r, h, a, b, E, R, ta, tb, p⟩ := hh
  cases op with
  | Add =>
    cases ta with
    | int i =>
      cases tb with
      | int j => exact op_add pins s σ H _ _ v u Q I rx ry ⟨i, j, rfl, rfl, Po.here R (.int _) p⟩
      | _ => exact False.elim p
    | str i =>
      cases tb with
      | str j =>
        have p : PoV _ r H (if lineOk (i.length + j.length) = true then .ok (.str (i ++ j)) h else .err) Q E := p
        by_cases c : lineOk (i.length + j.length) = true
        · rw [if_pos c] at p
          exact op_add_str pins s σ H _ _ v u Q I rx ry ⟨i, j, rfl, rfl, line_le c, Po.here R (.str _) p⟩
        · rw [if_neg c] at p
          exact False.elim p
      | _ => exact False.elim p
    | @tup xs a vs qa ha =>
      cases tb with
      | @tup ys b ws qb hb =>
        have p : PoV _ r H (if lineOk (xs.length + ys.length) = true then .ok (.tup (xs ++ ys)) h else .err) Q E := p
        by_cases c : lineOk (xs.length + ys.length) = true
        · rw [if_pos c] at p
          have lx := ha.length
          have ly := hb.length
          refine op_catA pins s σ H _ _ v u Q I rx ry ⟨a, b, vs, ws, rfl, rfl, qa, qb, ?_, fun e => ?_, fun _ e => ?_, fun _ _ q hq => ?_⟩
          · have := line_le c
            omega
          · subst e
            have e : xs = [] := List.length_eq_zero_iff.mp lx
            subst e
            exact Po.here R (.tup qb hb) p
          · subst e
            have e : ys = [] := List.length_eq_zero_iff.mp ly
            subst e
            rw [List.append_nil] at p
            exact Po.here R (.tup qa ha) p
          · obtain ⟨R', st⟩ := Step.other (u := HO.tup (vs ++ ws)) R hq
            exact p _ _ _ st R' (.tup (SqT.of upd_same) ((ha.app hb).step R st))
        · rw [if_neg c] at p
          exact False.elim p
      | _ => exact False.elim p
    | @ref m pa ha =>
      cases tb with
      | @ref n pb hb =>
        have p : PoV _ r H (match h[m]?, h[n]? with
          | some (.lst a), some (.lst b) => if lineOk (a.length + b.length) = true then newL (a ++ b) h else .err
          | _, _ => .err) Q E := p
        cases q1 : h[m]? with
        | none =>
          rw [q1] at p
          exact False.elim p
        | some o1 =>
          cases q2 : h[n]? with
          | none =>
            rw [q1, q2] at p
            cases o1
            exact False.elim p
          | some o2 =>
            rw [q1, q2] at p
            cases o1 with
            | lst xs =>
              cases o2 with
              | lst ys =>
                have p : PoV _ r H (if lineOk (xs.length + ys.length) = true then newL (xs ++ ys) h else .err) Q E := p
                by_cases c : lineOk (xs.length + ys.length) = true
                · rw [if_pos c] at p
                  obtain ⟨vs, e1, t1⟩ := seq_at R (show seqOf h m = some xs by unfold seqOf; rw [q1]; rfl) ha
                  obtain ⟨ws, e2, t2⟩ := seq_at R (show seqOf h n = some ys by unfold seqOf; rw [q2]; rfl) hb
                  refine op_cat pins s σ H _ _ v u Q I rx ry ⟨pa, pb, vs, ws, rfl, rfl, e1, e2, ?_, Po.list R (t1.app t2) p⟩
                  have := line_le c
                  rw [t1.length, t2.length] at this
                  exact this
                · rw [if_neg c] at p
                  exact False.elim p
      | _ => exact False.elim p
    | _ => exact False.elim p
  | Sub =>
    cases ta with
    | int i =>
      cases tb with
      | int j => exact op_sub pins s σ H _ _ v u Q I rx ry ⟨i, j, rfl, rfl, Po.here R (.int _) p⟩
      | _ => exact False.elim p
    | _ => exact False.elim p
  | Mult =>
    cases ta with
    | int i =>
      cases tb with
      | int j =>
        have p : PoV _ r H (if mulOk i j = true then .ok (.int (i * j)) h else .err) Q E := p
        by_cases c : mulOk i j = true
        · rw [if_pos c] at p
          exact op_mulW pins s σ H _ _ v u Q I rx ry ⟨i, j, rfl, rfl, Nat.le_of_ble_eq_true c, Po.here R (.int _) p⟩
        · rw [if_neg c] at p
          exact False.elim p
      | _ => exact False.elim p
    | _ => exact False.elim p
  | FloorDiv =>
    cases ta with
    | int i =>
      cases tb with
      | int j =>
        have p : PoV _ r H (if divOk j = true then .ok (.int (i.fdiv j)) h else .err) Q E := p
        by_cases c : divOk j = true
        · rw [if_pos c] at p
          obtain ⟨t, rfl⟩ := rx
          obtain ⟨t', rfl⟩ := ry
          have c' := Bool.and_eq_true_iff.mp c
          have hj : j ≠ 0 := bne_iff_ne.mp c'.1
          have hl : j.natAbs.log2 < 9000 := Nat.le_of_ble_eq_true c'.2
          exact floordiv_int hj ⟨.int _, H, I.tok _, ⟨_, rfl⟩, Po.here R (.int _) p⟩ (.inl (PyProof.noPylong_of_log2 hl))
        · rw [if_neg c] at p
          exact False.elim p
      | _ => exact False.elim p
    | _ => exact False.elim p
  | Mod =>
    cases ta with
    | int i =>
      cases tb with
      | int j =>
        have p : PoV _ r H (if (j != 0) = true then .ok (.int (i.fmod j)) h else .err) Q E := p
        by_cases c : (j != 0) = true
        · rw [if_pos c] at p
          exact op_modN pins s σ H _ _ v u Q I rx ry ⟨i, j, rfl, rfl, bne_iff_ne.mp c, Po.here R (.int _) p⟩
        · rw [if_neg c] at p
          exact False.elim p
      | _ => exact False.elim p
    | _ => exact False.elim p
  | Pow =>
    cases ta with
    | int i =>
      cases tb with
      | int j =>
        have p : PoV _ r H (if powOk i j = true then .ok (.int (i ^ j.toNat)) h else .err) Q E := p
        by_cases c : powOk i j = true
        · rw [if_pos c] at p
          have c1 := Bool.and_eq_true_iff.mp c
          have c2 := Bool.and_eq_true_iff.mp c1.1
          exact op_pow pins s σ H _ _ v u Q I rx ry ⟨i, j, rfl, rfl, ⟨of_decide_eq_true c2.1, of_decide_eq_true c2.2, Nat.le_of_ble_eq_true c1.2⟩, Po.here R (.int _) p⟩
        · rw [if_neg c] at p
          exact False.elim p
      | _ => exact False.elim p
    | _ => exact False.elim p
  | _ => exact False.elim p
end
end Ev

/-! text Fw4 -/
set_option Elab.async false
set_option linter.all false
set_option maxRecDepth 100000
set_option maxHeartbeats 4000000
/-! Ev: comparisons, truth, items, slices, built-ins, methods. -/
namespace Ev
open PySem PySem.Spec PyProof.Rows L2
section
variable {S : Ws} {r : List Addr} {H : Hp} {h : Ho} {X : Cx} {G : Pg}
def rC (S : Ws) (op : CmpOp) : R2 := fun v u H Q => ∃ r h a b k, Rel S r h H ∧ Ra S r H a v ∧ Ra S r H b u ∧ cmpA op a b h = some k ∧ Q (.bl k) H
theorem eqA_dp (R : Rel S r h H) {a b : A} {v u : V} {k : Bool} (ta : Ra S r H a v) (tb : Ra S r H b u) (e : eqA a b h = some k) :
    ∃ d f, Dp S.K H v d ∧ Dp S.K H u f ∧ SeqAt.shaped d = true ∧ SeqAt.shaped f = true ∧ PyData.eqv d f = k := by
  unfold eqA at e
  cases q1 : dataOf h a with
  | none =>
    rw [q1] at e
    cases e
  | some d =>
    cases q2 : dataOf h b with
    | none =>
      rw [q1, q2] at e
      cases e
    | some f =>
      rw [q1, q2] at e
      have e : (if (SeqAt.shaped d && SeqAt.shaped f) = true then some (PyData.eqv d f) else none) = some k := e
      by_cases c : (SeqAt.shaped d && SeqAt.shaped f) = true
      · rw [if_pos c] at e
        obtain ⟨c1, c2⟩ := Bool.and_eq_true_iff.mp c
        exact ⟨d, f, dp_of R 12 q1 ta, dp_of R 12 q2 tb, c1, c2, Option.some.inj e⟩
      · rw [if_neg c] at e
        cases e
theorem inA_dp (R : Rel S r h H) {a b : A} {v u : V} {k : Bool} (ta : Ra S r H a v) (tb : Ra S r H b u) (e : inA a b h = some k) :
    ∃ d ds, Dp S.K H v d ∧ SeqAt.shaped d = true ∧ (ds.any fun z => PyData.eqv z d) = k ∧ ((Dp S.K H u (.tuple ds) ∧ SeqAt.shaped (.tuple ds) = true) ∨ (Dp S.K H u (.list ds) ∧ SeqAt.shaped (.list ds) = true)) := by
  unfold inA at e
  cases q1 : dataOf h a with
  | none =>
    rw [q1] at e
    cases e
  | some d =>
    cases q2 : dataOf h b with
    | none =>
      rw [q1, q2] at e
      cases e
    | some f =>
      rw [q1, q2] at e
      cases f with
      | tuple ds =>
        have e : (if (SeqAt.shaped d && SeqAt.shaped (.tuple ds)) = true then some (ds.any fun z => PyData.eqv z d) else none) = some k := e
        by_cases c : (SeqAt.shaped d && SeqAt.shaped (.tuple ds)) = true
        · rw [if_pos c] at e
          obtain ⟨c1, c2⟩ := Bool.and_eq_true_iff.mp c
          exact ⟨d, ds, dp_of R 12 q1 ta, c1, Option.some.inj e, .inl ⟨dp_of R 12 q2 tb, c2⟩⟩
        · rw [if_neg c] at e
          cases e
      | list ds =>
        have e : (if (SeqAt.shaped d && SeqAt.shaped (.list ds)) = true then some (ds.any fun z => PyData.eqv z d) else none) = some k := e
        by_cases c : (SeqAt.shaped d && SeqAt.shaped (.list ds)) = true
        · rw [if_pos c] at e
          obtain ⟨c1, c2⟩ := Bool.and_eq_true_iff.mp c
          exact ⟨d, ds, dp_of R 12 q1 ta, c1, Option.some.inj e, .inr ⟨dp_of R 12 q2 tb, c2⟩⟩
        · rw [if_neg c] at e
          cases e
      | _ => cases e
theorem non_of {a : A} {v : V} (t : Ra S r H a v) : decide (v = .non) = isNon a := by
  cases t <;> rfl
theorem op_cmp (hu : X.A.units + 65 < cLine) (op : CmpOp) : OpR X (compareOp op) (rC (sOf X G) op) := by
  intro pins s σ H x y v u Q I rx ry hh
  obtain ⟨r, h, a, b, k, R, ta, tb, e, q⟩ := hh
  have hu64 : X.A.units + 64 < cLine := by omega
  cases op with
  | Eq =>
    obtain ⟨d, f, h1, h2, h3, h4, h5⟩ := eqA_dp R ta tb e
    exact op_eqD hu64 pins s σ H x y v u Q I rx ry ⟨d, f, h1, h2, h3, h4, by rw [h5]; exact q⟩
  | NotEq =>
    have e : (eqA a b h).map (!·) = some k := e
    cases q1 : eqA a b h with
    | none =>
      rw [q1] at e
      cases e
    | some k' =>
      rw [q1] at e
      cases e
      obtain ⟨d, f, h1, h2, h3, h4, h5⟩ := eqA_dp R ta tb q1
      exact op_neD hu64 pins s σ H x y v u Q I rx ry ⟨d, f, h1, h2, h3, h4, by rw [h5]; exact q⟩
  | Lt =>
    cases ta with
    | int i =>
      cases tb with
      | int j =>
        cases e
        exact op_lt pins s σ H _ _ v u Q I rx ry ⟨i, j, rfl, rfl, q⟩
      | _ => cases e
    | _ => cases e
  | LtE =>
    cases ta with
    | int i =>
      cases tb with
      | int j =>
        cases e
        exact op_le pins s σ H _ _ v u Q I rx ry ⟨i, j, rfl, rfl, q⟩
      | _ => cases e
    | _ => cases e
  | Gt =>
    cases ta with
    | int i =>
      cases tb with
      | int j =>
        cases e
        exact op_gt pins s σ H _ _ v u Q I rx ry ⟨i, j, rfl, rfl, q⟩
      | _ => cases e
    | _ => cases e
  | GtE =>
    cases ta with
    | int i =>
      cases tb with
      | int j =>
        cases e
        exact op_ge pins s σ H _ _ v u Q I rx ry ⟨i, j, rfl, rfl, q⟩
      | _ => cases e
    | _ => cases e
  | Is =>
    cases tb with
    | non =>
      cases e
      exact op_isN pins s σ H x _ v u Q I rx ry ⟨rfl, by rw [non_of ta]; exact q⟩
    | _ => cases e
  | IsNot =>
    cases tb with
    | non =>
      cases e
      exact op_notN pins s σ H x _ v u Q I rx ry ⟨rfl, by rw [non_of ta]; exact q⟩
    | _ => cases e
  | In =>
    obtain ⟨d, ds, h1, h2, h3, h4⟩ := inA_dp R ta tb e
    obtain ⟨as, g1⟩ := Dp.reads I d x v h1 rx
    have room : X.A.units + 1 + min (PyData.depthAll ds) d.depth < cLine := room_in_shaped h2 hu
    rcases h4 with ⟨h4, h5⟩ | ⟨h4, h5⟩
    · obtain ⟨bs, g2⟩ := Dp.reads I _ y u h4 ry
      exact SeqAt.in_tuple_reads g2 g1 (SeqAt.canLay_of_shaped h5) (SeqAt.canLay_of_shaped h2) room ⟨.bl _, H, I, rfl, by rw [h3]; exact q⟩
    · obtain ⟨bs, g2⟩ := Dp.reads I _ y u h4 ry
      exact SeqAt.in_list_reads g2 g1 (SeqAt.canLay_of_shaped h5) (SeqAt.canLay_of_shaped h2) room ⟨.bl _, H, I, rfl, by rw [h3]; exact q⟩
  | NotIn =>
    have e : (inA a b h).map (!·) = some k := e
    cases q1 : inA a b h with
    | none =>
      rw [q1] at e
      cases e
    | some k' =>
      rw [q1] at e
      cases e
      obtain ⟨d, ds, h1, h2, h3, h4⟩ := inA_dp R ta tb q1
      obtain ⟨as, g1⟩ := Dp.reads I d x v h1 rx
      have room : X.A.units + 1 + min (PyData.depthAll ds) d.depth < cLine := room_in_shaped h2 hu
      rcases h4 with ⟨h4, h5⟩ | ⟨h4, h5⟩
      · obtain ⟨bs, g2⟩ := Dp.reads I _ y u h4 ry
        exact SeqAt.notIn_tuple_reads g2 g1 (SeqAt.canLay_of_shaped h5) (SeqAt.canLay_of_shaped h2) room ⟨.bl _, H, I, rfl, by rw [h3]; exact q⟩
      · obtain ⟨bs, g2⟩ := Dp.reads I _ y u h4 ry
        exact SeqAt.notIn_list_reads g2 g1 (SeqAt.canLay_of_shaped h5) (SeqAt.canLay_of_shaped h2) room ⟨.bl _, H, I, rfl, by rw [h3]; exact q⟩

/-! ### truth, minus -/
theorem isEmpty_ra {as : List A} {vs : List V} (t : Ras S r H as vs) : vs.isEmpty = as.isEmpty := by
  cases t <;> rfl
theorem tru_of (R : Rel S r h H) {a : A} {v : V} {k : Bool} (t : Ra S r H a v) (e : truth a h = some k) : TruV S.K v H k := by
  cases t with
  | non => exact (Option.some.inj e).symm
  | bl b => exact (Option.some.inj e).symm
  | int i => exact (Option.some.inj e).symm
  | str x =>
    have e : (if lineOk x.length = true then some ((x.length : Int) != 0) else none) = some k := e
    by_cases c : lineOk x.length = true
    · rw [if_pos c] at e
      exact ⟨line_le c, (Option.some.inj e).symm⟩
    · rw [if_neg c] at e
      cases e
  | tup q t =>
    refine .inr (.inl ⟨_, q, ?_⟩)
    rw [isEmpty_ra t]
    exact (Option.some.inj e).symm
  | lis q t =>
    refine .inl ⟨_, q.sq, ?_⟩
    rw [isEmpty_ra t]
    exact (Option.some.inj e).symm
  | @ref n p ep =>
    have e : (seqOf h n).map (fun xs => !xs.isEmpty) = some k := e
    cases q : seqOf h n with
    | none =>
      rw [q] at e
      cases e
    | some xs =>
      rw [q] at e
      obtain ⟨vs, e2, t2⟩ := seq_at R q ep
      refine .inl ⟨vs, SqL.of e2, ?_⟩
      rw [isEmpty_ra t2]
      exact (Option.some.inj e).symm
  | fn _ _ => cases e
theorem un_minus : UnR X (unaryOp .USub) (fun v H Q => ∃ r h a b, Rel (sOf X G) r h H ∧ Ra (sOf X G) r H a v ∧ negA a = some b ∧ ∀ u, Ra (sOf X G) r H b u → Q u H) := by
  intro pins s σ H x v Q I rx hh
  obtain ⟨r, h, a, b, R, t, e, q⟩ := hh
  cases t with
  | int i =>
    cases e
    exact un_neg pins s σ H _ v Q I rx ⟨i, rfl, q _ (.int _)⟩
  | _ => cases e

/-! ### items -/
theorem idx_eq (n : Nat) (i : Int) : idx n i = ixN n i := rfl
theorem ix_all : IxR X (fun v u H Q => ∃ r h a b c, Rel (sOf X G) r h H ∧ Ra (sOf X G) r H a v ∧ Ra (sOf X G) r H b u ∧ subA a b h = some c ∧ ∀ w, Ra (sOf X G) r H c w → Q w H) := by
  intro value slice pins s σ H x y v u Q I rx ry hh hsub
  obtain ⟨r, h, a, b, c, R, ta, tb, e, q⟩ := hh
  have look : ∀ {xs : List A} {vs : List V} {k : Int}, Ras (sOf X G) r H xs vs → ((idx xs.length k).bind fun j => xs[j]?) = some c → ∃ w, atI vs k = some w ∧ Q w H := fun {xs vs k} t e => by
    rw [idx_eq, t.length] at e
    unfold atI
    cases q1 : ixN vs.length k with
    | none =>
      rw [q1] at e
      cases e
    | some j =>
      rw [q1] at e
      obtain ⟨w, e1, t1⟩ := t.get (show xs[j]? = some c from e)
      exact ⟨w, e1, q w t1⟩
  cases tb with
  | int k =>
    cases ta with
    | tup hq t =>
      obtain ⟨w, e1, q1⟩ := look t e
      exact ix_tup value slice pins s σ H _ _ v u Q I rx ry ⟨_, _, k, w, rfl, rfl, hq, e1, q1⟩ hsub
    | lis hq t =>
      obtain ⟨w, e1, q1⟩ := look t e
      exact ix_list value slice pins s σ H _ _ v u Q I rx ry ⟨_, _, k, w, rfl, rfl, hq.sq, e1, q1⟩ hsub
    | @ref n p ep =>
      have e : ((seqOf h n).bind fun xs => (idx xs.length k).bind fun j => xs[j]?) = some c := e
      cases q0 : seqOf h n with
      | none =>
        rw [q0] at e
        cases e
      | some xs =>
        rw [q0] at e
        obtain ⟨vs, e2, t2⟩ := seq_at R q0 ep
        obtain ⟨w, e1, q1⟩ := look t2 e
        exact ix_list value slice pins s σ H _ _ v u Q I rx ry ⟨_, _, k, w, rfl, rfl, SqL.of e2, e1, q1⟩ hsub
    | str z =>
      have e : (if lineOk z.length = true then (idx z.cps.toList.length k).bind fun j => (z.cps.toList[j]?).map fun c => A.str ⟨#[c]⟩ else none) = some c := e
      by_cases cz : lineOk z.length = true
      · rw [if_pos cz] at e
        rw [idx_eq] at e
        cases q1 : ixN z.cps.toList.length k with
        | none =>
          rw [q1] at e
          cases e
        | some j =>
          rw [q1] at e
          have e : (z.cps.toList[j]?).map (fun c => A.str ⟨#[c]⟩) = some c := e
          cases q2 : z.cps.toList[j]? with
          | none =>
            rw [q2] at e
            cases e
          | some cp =>
            rw [q2] at e
            cases e
            refine ix_str value slice pins s σ H _ _ v u Q I rx ry ⟨z, k, cp, rfl, rfl, line_le cz, ?_, q _ (.str _)⟩ hsub
            unfold atI
            rw [q1]
            exact q2
      · rw [if_neg cz] at e
        cases e
    | _ => cases e
  | _ => cases e

/-! ### slices -/
theorem clip_sIx (n d : Nat) (o : Option Int) : clipI n d o = HT.sIx n d o := by
  cases o <;> rfl
theorem cut_ra {xs : List A} {vs : List V} (t : Ras S r H xs vs) (lo hi : Option Int) : Ras S r H (cut xs lo hi) (cutV vs lo hi) := by
  unfold cut cutV
  rw [t.length, clip_sIx, clip_sIx]
  exact (t.drop _).take _
theorem cutV_whole {vs : List V} {lo hi : Option Int} (e1 : HT.sIx vs.length 0 lo = 0) (e2 : HT.sIx vs.length vs.length hi = vs.length) : cutV vs lo hi = vs := by
  unfold cutV
  rw [e1, e2, List.drop_zero, Nat.sub_zero, List.take_length]
theorem Ras.uniq {as bs : List A} {vs : List V} (e : as = bs) (t : Ras S r H as vs) : Ras S r H bs vs := e ▸ t
/-- the reading of a slice by values -/
def rSl (S : Ws) : V → Option Int → Option Int → Hp → VK → Prop := fun v lo hi H Q => ∃ r h a E, Rel S r h H ∧ Ra S r H a v ∧ PoV S r H (match a with
  | .tup xs => .ok (.tup (cut xs lo hi)) h
  | .lis xs => newL (cut xs lo hi) h
  | .ref n => match seqOf h n with
    | some xs => newL (cut xs lo hi) h
    | none => .err
  | _ => .err) Q E
theorem sl_all : SlR X (rSl (sOf X G)) := by
  intro pins s σ H x v vl vu lo hi sl Q I rx hs pl pu hh
  obtain ⟨r, h, a, E, R, t, p⟩ := hh
  cases t with
  | @tup xs p0 vs hq t =>
    refine sl_tupA pins s σ H _ v vl vu lo hi sl Q I rx hs pl pu ⟨p0, vs, rfl, hq, fun ⟨e1, e2⟩ => ?_, fun _ q hq0 => ?_⟩
    · have t2 := cut_ra t lo hi
      rw [cutV_whole e1 e2] at t2
      exact Po.here R (.tup hq t2) p
    · obtain ⟨R', st⟩ := Step.other (u := HO.tup (cutV vs lo hi)) R hq0
      exact p _ _ _ st R' (.tup (SqT.of upd_same) ((cut_ra t lo hi).step R st))
  | lis hq t => exact sl_list pins s σ H _ v vl vu lo hi sl Q I rx hs pl pu ⟨_, _, rfl, hq.sq, Po.list R (cut_ra t lo hi) p⟩
  | @ref n p0 ep =>
    have p : PoV (sOf X G) r H (match seqOf h n with
      | some xs => newL (cut xs lo hi) h
      | none => .err) Q E := p
    cases q0 : seqOf h n with
    | none =>
      rw [q0] at p
      exact False.elim p
    | some xs =>
      rw [q0] at p
      obtain ⟨vs, e2, t2⟩ := seq_at R q0 ep
      exact sl_list pins s σ H _ v vl vu lo hi sl Q I rx hs pl pu ⟨_, _, rfl, SqL.of e2, Po.list R (cut_ra t2 lo hi) p⟩
  | _ => exact False.elim p
end
end Ev

/-! text Fw5 -/
set_option Elab.async false
set_option linter.all false
set_option maxRecDepth 100000
set_option maxHeartbeats 4000000
/-! Ev: built-ins and methods. -/
namespace Ev
open PySem PySem.Spec PyProof.Rows L2
section
variable {S : Ws} {r : List Addr} {H : Hp} {h : Ho} {X : Cx} {G : Pg}
def Bl.val : Bl → Value
  | .len => .builtin "len" | .abs => .builtin "abs" | .int => .type "int" | .bool => .type "bool" | .max => .builtin "max" | .min => .builtin "min"
  | .sum => .builtin "sum" | .any => .builtin "any" | .all => .builtin "all" | .tuple => .type "tuple" | .list => .type "list" | .isi _ => .builtin "isinstance" | .repr => .builtin "repr"
def Bl.name : Bl → String
  | .len => "len" | .abs => "abs" | .int => "int" | .bool => "bool" | .max => "max" | .min => "min" | .sum => "sum" | .any => "any" | .all => "all"
  | .tuple => "tuple" | .list => "list" | .isi _ => "isinstance" | .repr => "repr"
theorem Bl.boot (f : Bl) : bootBuiltins (f.name : Str) = some f.val := by
  cases f with
  | isi T =>
    show bootBuiltins "isinstance" = some (.builtin "isinstance")
    decide +kernel
  | _ => decide +kernel
def rBl (S : Ws) (f : Bl) : List V → Hp → VK → Prop := fun vs H Q => ∃ r h as E, Rel S r h H ∧ Ras S r H as vs ∧ PoV S r H (bltA f as h) Q E

theorem ints_of : ∀ {as : List A} {vs : List V} {ns : List Int}, Ras S r H as vs → intsOf as = some ns → vs = ns.map V.int
  | [], _, _, .nil, e => by
    cases e
    rfl
  | .int i :: as, _, ns, .cons t ts, e => by
    cases t
    have e : (intsOf as).map (i :: ·) = some ns := e
    cases q : intsOf as with
    | none =>
      rw [q] at e
      cases e
    | some ms =>
      rw [q] at e
      cases e
      rw [ints_of ts q]
      rfl
theorem bls_of : ∀ {as : List A} {vs : List V} {ns : List Bool}, Ras S r H as vs → blsOf as = some ns → vs = ns.map V.bl
  | [], _, _, .nil, e => by
    cases e
    rfl
  | .bl i :: as, _, ns, .cons t ts, e => by
    cases t
    have e : (blsOf as).map (i :: ·) = some ns := e
    cases q : blsOf as with
    | none =>
      rw [q] at e
      cases e
    | some ms =>
      rw [q] at e
      cases e
      rw [bls_of ts q]
      rfl
theorem least_is : ∀ (xs : List Int) (m : Int), least m xs ∈ m :: xs ∧ ∀ y, y ∈ m :: xs → least m xs ≤ y
  | [], m => ⟨List.mem_cons_self, fun y hy => by
    rcases List.mem_cons.mp hy with e | e
    · rw [e]
      exact Int.le_refl _
    · cases e⟩
  | x :: r, m => by
    obtain ⟨h1, h2⟩ := least_is r (if x < m then x else m)
    show least (if x < m then x else m) r ∈ _ ∧ ∀ y, _ → least (if x < m then x else m) r ≤ y
    refine ⟨?_, fun y hy => ?_⟩
    · rcases List.mem_cons.mp h1 with e | e
      · rw [e]
        split
        · exact List.mem_cons_of_mem _ List.mem_cons_self
        · exact List.mem_cons_self
      · exact List.mem_cons_of_mem _ (List.mem_cons_of_mem _ e)
    · have hb := h2 _ List.mem_cons_self
      rcases List.mem_cons.mp hy with e | e
      · subst e
        split at hb <;> split <;> omega
      · rcases List.mem_cons.mp e with e | e
        · subst e
          split at hb <;> split <;> omega
        · exact h2 y (List.mem_cons_of_mem _ e)
theorem most_is : ∀ (xs : List Int) (m : Int), most m xs ∈ m :: xs ∧ ∀ y, y ∈ m :: xs → y ≤ most m xs
  | [], m => ⟨List.mem_cons_self, fun y hy => by
    rcases List.mem_cons.mp hy with e | e
    · rw [e]
      exact Int.le_refl _
    · cases e⟩
  | x :: r, m => by
    obtain ⟨h1, h2⟩ := most_is r (if m < x then x else m)
    show most (if m < x then x else m) r ∈ _ ∧ ∀ y, _ → y ≤ most (if m < x then x else m) r
    refine ⟨?_, fun y hy => ?_⟩
    · rcases List.mem_cons.mp h1 with e | e
      · rw [e]
        split
        · exact List.mem_cons_of_mem _ List.mem_cons_self
        · exact List.mem_cons_self
      · exact List.mem_cons_of_mem _ (List.mem_cons_of_mem _ e)
    · have hb := h2 _ List.mem_cons_self
      rcases List.mem_cons.mp hy with e | e
      · subst e
        split at hb <;> split <;> omega
      · rcases List.mem_cons.mp e with e | e
        · subst e
          split at hb <;> split <;> omega
        · exact h2 y (List.mem_cons_of_mem _ e)
def isiT (T : String) : Bool := T == "int" || T == "bool" || T == "str" || T == "tuple" || T == "list"
theorem isi_of {T : String} (hT : isiT T = true) {a : A} {v : V} {b : Bool} (R : Rel S r h H) (t : Ra S r H a v) (e : isiA T a = some b) : ∃ ty, TyX S.K H v (.type ty) ∧ kitB ty T = some b := by
  have five : T = "int" ∨ T = "bool" ∨ T = "str" ∨ T = "tuple" ∨ T = "list" := by
    unfold isiT at hT
    simp only [Bool.or_eq_true, beq_iff_eq] at hT
    rcases hT with (((h | h) | h) | h) | h
    · exact .inl h
    · exact .inr (.inl h)
    · exact .inr (.inr (.inl h))
    · exact .inr (.inr (.inr (.inl h)))
    · exact .inr (.inr (.inr (.inr h)))
  cases t with
  | non =>
    cases e
    refine ⟨"NoneType", .base .non, ?_⟩
    rcases five with h | h | h | h | h <;> subst h <;> decide +kernel
  | bl k =>
    cases e
    refine ⟨"bool", .base (.bl k), ?_⟩
    rcases five with h | h | h | h | h <;> subst h <;> decide +kernel
  | int k =>
    cases e
    refine ⟨"int", .base (.int k), ?_⟩
    rcases five with h | h | h | h | h <;> subst h <;> decide +kernel
  | str k =>
    cases e
    refine ⟨"str", .base (.str k), ?_⟩
    rcases five with h | h | h | h | h <;> subst h <;> decide +kernel
  | @tup xs a vs hq t =>
    cases e
    refine ⟨"tuple", ?_, ?_⟩
    · rcases hq with (q | ⟨o, q⟩) | ⟨o, its, n, q1, q2, _⟩
      · exact .base (.tup q)
      · exact .fTuple q
      · exact .kTuple q1 q2
    · rcases five with h | h | h | h | h <;> subst h <;> decide +kernel
  | @lis xs a vs hq t =>
    cases e
    refine ⟨"list", ?_, ?_⟩
    · rcases hq with ⟨o, q⟩ | ⟨o, its, n, q1, q2, _⟩
      · exact .base (.frz q)
      · exact .kList q1 q2
    · rcases five with h | h | h | h | h <;> subst h <;> decide +kernel
  | @ref n p ep =>
    cases e
    obtain ⟨vs, q⟩ := R.lstOf (List.mem_of_getElem? ep)
    refine ⟨"list", .base (.lst q), ?_⟩
    rcases five with h | h | h | h | h <;> subst h <;> decide +kernel
  | fn _ _ => cases e
/-- isinstance(x, T), T a built-in class -/
theorem call_isT {T : String} (hT : isiT T = true) : CallR X (.builtin "isinstance") (fun xs H Q => ∃ r h a v E, xs = [v, .ty T] ∧ Rel (sOf X G) r h H ∧ Ra (sOf X G) r H a v ∧ PoV (sOf X G) r H (bltA (.isi T) [a] h) Q E) := by
  intro pins s σ H xs us Q I rx hh
  obtain ⟨r, h, a, v, E, rfl, R, t, p⟩ := hh
  have p : PoV (sOf X G) r H (match isiA T a with
    | some b => .ok (.bl b) h
    | none => .err) Q E := p
  cases e : isiA T a with
  | none =>
    rw [e] at p
    exact False.elim p
  | some b =>
    rw [e] at p
    obtain ⟨ty, h1, h2⟩ := isi_of hT R t e
    exact call_isi pins s σ H _ us Q I rx ⟨v, .ty T, _, .type T, b, rfl, .ty T, h1, kit_ty h2, Po.here R (.bl b) p⟩

theorem seq_or {n : Nat} {v : V} {Q : VK} {E : XK} {f : List A → R A} (R : Rel S r h H) (t : Ra S r H (.ref n) v) (p : PoV S r H (match seqOf h n with
    | some ys => f ys
    | none => .err) Q E) : ∃ p0 xs vs, v = .ref p0 ∧ SqL S.K H p0 vs ∧ Ras S r H xs vs ∧ PoV S r H (f xs) Q E := by
  cases q : seqOf h n with
  | none =>
    rw [q] at p
    exact False.elim p
  | some xs =>
    rw [q] at p
    obtain ⟨p0, vs, e1, e2, t2⟩ := ref_seq R q t
    exact ⟨p0, xs, vs, e1, e2, t2, p⟩
theorem ra_lis {xs : List A} {v : V} (t : Ra S r H (.lis xs) v) : ∃ a vs, v = .ref a ∧ SqL S.K H a vs ∧ Ras S r H xs vs := by
  cases t with
  | lis q t => exact ⟨_, _, rfl, q.sq, t⟩
theorem ra_tup {xs : List A} {v : V} (t : Ra S r H (.tup xs) v) : ∃ a vs, v = .ref a ∧ SqT S.K H a vs ∧ Ras S r H xs vs := by
  cases t with
  | tup q t => exact ⟨_, _, rfl, q, t⟩
theorem bl_len : CallR X (.builtin "len") (rBl (sOf X G) .len) := by
  intro pins s σ H xs us Q I rx hh
  obtain ⟨r, h, as, E, R, t, p⟩ := hh
  cases t with
  | nil => exact False.elim p
  | @cons a v as vs t ts =>
    cases ts with
    | cons _ _ => cases a <;> exact False.elim p
    | nil =>
      cases a with
      | tup ys =>
        obtain ⟨b, ws, rfl, hq, tt⟩ := ra_tup t
        refine call_len_seq pins s σ H _ us Q I rx ⟨b, ws, rfl, .inr hq, ?_⟩
        rw [← tt.length]
        exact Po.here R (.int _) p
      | lis ys =>
        obtain ⟨b, ws, rfl, hq, tt⟩ := ra_lis t
        refine call_len_seq pins s σ H _ us Q I rx ⟨b, ws, rfl, .inl hq, ?_⟩
        rw [← tt.length]
        exact Po.here R (.int _) p
      | ref n =>
        obtain ⟨b, ys, ws, rfl, hq, tt, p⟩ := seq_or R t p
        refine call_len_seq pins s σ H _ us Q I rx ⟨b, ws, rfl, .inl hq, ?_⟩
        rw [← tt.length]
        exact Po.here R (.int _) p
      | str z =>
        cases t
        have p : PoV (sOf X G) r H (if lineOk z.length = true then .ok (.int z.length) h else .err) Q E := p
        by_cases c : lineOk z.length = true
        · rw [if_pos c] at p
          exact call_len_str pins s σ H _ us Q I rx ⟨z, rfl, line_le c, Po.here R (.int _) p⟩
        · rw [if_neg c] at p
          exact False.elim p
      | _ => exact False.elim p
theorem bl_abs : CallR X (.builtin "abs") (rBl (sOf X G) .abs) := by
  intro pins s σ H xs us Q I rx hh
  obtain ⟨r, h, as, E, R, t, p⟩ := hh
  cases t with
  | nil => exact False.elim p
  | @cons a v as vs t ts =>
    cases ts with
    | cons _ _ => cases a <;> exact False.elim p
    | nil =>
      cases t with
      | int i => exact call_abs pins s σ H _ us Q I rx ⟨i, rfl, Po.here R (.int _) p⟩
      | _ => exact False.elim p
theorem bl_int : CallR X (.type "int") (rBl (sOf X G) .int) := by
  intro pins s σ H xs us Q I rx hh
  obtain ⟨r, h, as, E, R, t, p⟩ := hh
  cases t with
  | nil => exact False.elim p
  | @cons a v as vs t ts =>
    cases ts with
    | cons _ _ => cases a <;> exact False.elim p
    | nil =>
      cases t with
      | int i => exact call_int1 pins s σ H _ us Q I rx (.inl ⟨i, rfl, Po.here R (.int _) p⟩)
      | bl i => exact call_int1 pins s σ H _ us Q I rx (.inr ⟨i, rfl, Po.here R (.int _) p⟩)
      | _ => exact False.elim p
theorem bl_bool : CallR X (.type "bool") (rBl (sOf X G) .bool) := by
  intro pins s σ H xs us Q I rx hh
  obtain ⟨r, h, as, E, R, t, p⟩ := hh
  cases t with
  | nil => exact False.elim p
  | @cons a v as vs t ts =>
    cases ts with
    | cons _ _ => cases a <;> exact False.elim p
    | nil =>
      cases t with
      | int i => exact call_bool1 pins s σ H _ us Q I rx (.inl ⟨i, rfl, Po.here R (.bl _) p⟩)
      | bl i => exact call_bool1 pins s σ H _ us Q I rx (.inr ⟨i, rfl, Po.here R (.bl _) p⟩)
      | _ => exact False.elim p
theorem bl_tuple : CallR X (.type "tuple") (rBl (sOf X G) .tuple) := by
  intro pins s σ H xs us Q I rx hh
  obtain ⟨r, h, as, E, R, t, p⟩ := hh
  cases t with
  | nil => exact False.elim p
  | @cons a v as vs t ts =>
    cases ts with
    | cons _ _ => cases a <;> exact False.elim p
    | nil =>
      cases a with
      | tup ys =>
        obtain ⟨b, ws, rfl, hq, tt⟩ := ra_tup t
        exact call_tuple_of pins s σ H _ us Q I rx ⟨b, ws, rfl, .inr ⟨hq, Po.here R t p⟩⟩
      | ref n =>
        obtain ⟨b, ys, ws, rfl, hq, tt, p⟩ := seq_or R t p
        refine call_tuple_of pins s σ H _ us Q I rx ⟨b, ws, rfl, .inl ⟨hq, fun q hq0 => ?_⟩⟩
        obtain ⟨R', st⟩ := Step.other (u := HO.tup ws) R hq0
        exact p _ _ _ st R' (.tup (SqT.of upd_same) (tt.step R st))
      | _ => exact False.elim p
theorem bl_list : CallR X (.type "list") (rBl (sOf X G) .list) := by
  intro pins s σ H xs us Q I rx hh
  obtain ⟨r, h, as, E, R, t, p⟩ := hh
  cases t with
  | nil => exact False.elim p
  | @cons a v as vs t ts =>
    cases ts with
    | cons _ _ => cases a <;> exact False.elim p
    | nil =>
      cases a with
      | tup ys =>
        obtain ⟨b, ws, rfl, hq, tt⟩ := ra_tup t
        exact call_list_of pins s σ H _ us Q I rx ⟨b, ws, rfl, .inr hq, Po.list R tt p⟩
      | ref n =>
        obtain ⟨b, ys, ws, rfl, hq, tt, p⟩ := seq_or R t p
        exact call_list_of pins s σ H _ us Q I rx ⟨b, ws, rfl, .inl hq, Po.list R tt p⟩
      | _ => exact False.elim p
theorem ints_or {n : Nat} {v : V} {Q : VK} {E : XK} {f : List Int → R A} (R : Rel S r h H) (t : Ra S r H (.ref n) v) (p : PoV S r H (match (seqOf h n).bind intsOf with
    | some ys => f ys
    | none => .err) Q E) : ∃ p0 ns, v = .ref p0 ∧ SqL S.K H p0 (ns.map V.int) ∧ PoV S r H (f ns) Q E := by
  cases q : seqOf h n with
  | none =>
    rw [q] at p
    exact False.elim p
  | some xs =>
    rw [q] at p
    cases q2 : intsOf xs with
    | none =>
      rw [show (some xs).bind intsOf = none from q2] at p
      exact False.elim p
    | some ns =>
      rw [show (some xs).bind intsOf = some ns from q2] at p
      obtain ⟨p0, vs, e1, e2, t2⟩ := ref_seq R q t
      rw [ints_of t2 q2] at e2
      exact ⟨p0, ns, e1, e2, p⟩
theorem bls_or {n : Nat} {v : V} {Q : VK} {E : XK} {f : List Bool → R A} (R : Rel S r h H) (t : Ra S r H (.ref n) v) (p : PoV S r H (match (seqOf h n).bind blsOf with
    | some ys => f ys
    | none => .err) Q E) : ∃ p0 ns, v = .ref p0 ∧ SqL S.K H p0 (ns.map V.bl) ∧ PoV S r H (f ns) Q E := by
  cases q : seqOf h n with
  | none =>
    rw [q] at p
    exact False.elim p
  | some xs =>
    rw [q] at p
    cases q2 : blsOf xs with
    | none =>
      rw [show (some xs).bind blsOf = none from q2] at p
      exact False.elim p
    | some ns =>
      rw [show (some xs).bind blsOf = some ns from q2] at p
      obtain ⟨p0, vs, e1, e2, t2⟩ := ref_seq R q t
      rw [bls_of t2 q2] at e2
      exact ⟨p0, ns, e1, e2, p⟩
theorem bl_sum (hc : X.calm = true) : CallR X (.builtin "sum") (rBl (sOf X G) .sum) := by
  intro pins s σ H xs us Q I rx hh
  obtain ⟨r, h, as, E, R, t, p⟩ := hh
  cases t with
  | nil => exact False.elim p
  | @cons a v as vs t ts =>
    cases ts with
    | cons _ _ => cases a <;> exact False.elim p
    | nil =>
      cases a with
      | ref n =>
        obtain ⟨b, ns, rfl, hq, p⟩ := ints_or (f := fun ns => .ok (.int ns.sum) h) R t p
        exact cr_sum hc pins s σ H _ us Q I rx ⟨b, ns, rfl, hq, Po.here R (.int _) p⟩
      | _ => exact False.elim p
theorem bl_any (hc : X.calm = true) : CallR X (.builtin "any") (rBl (sOf X G) .any) := by
  intro pins s σ H xs us Q I rx hh
  obtain ⟨r, h, as, E, R, t, p⟩ := hh
  cases t with
  | nil => exact False.elim p
  | @cons a v as vs t ts =>
    cases ts with
    | cons _ _ => cases a <;> exact False.elim p
    | nil =>
      cases a with
      | ref n =>
        obtain ⟨b, ns, rfl, hq, p⟩ := bls_or (f := fun ns => .ok (.bl (ns.any id)) h) R t p
        exact cr_any hc pins s σ H _ us Q I rx ⟨b, ns, rfl, hq, Po.here R (.bl _) p⟩
      | _ => exact False.elim p
theorem bl_all' (hc : X.calm = true) : CallR X (.builtin "all") (rBl (sOf X G) .all) := by
  intro pins s σ H xs us Q I rx hh
  obtain ⟨r, h, as, E, R, t, p⟩ := hh
  cases t with
  | nil => exact False.elim p
  | @cons a v as vs t ts =>
    cases ts with
    | cons _ _ => cases a <;> exact False.elim p
    | nil =>
      cases a with
      | ref n =>
        obtain ⟨b, ns, rfl, hq, p⟩ := bls_or (f := fun ns => .ok (.bl (ns.all id)) h) R t p
        exact cr_all hc pins s σ H _ us Q I rx ⟨b, ns, rfl, hq, Po.here R (.bl _) p⟩
      | _ => exact False.elim p
theorem bl_max (hc : X.calm = true) : CallR X (.builtin "max") (rBl (sOf X G) .max) := by
  intro pins s σ H xs us Q I rx hh
  obtain ⟨r, h, as, E, R, t, p⟩ := hh
  cases t with
  | nil => exact False.elim p
  | @cons a v as vs t ts =>
    cases ts with
    | nil =>
      cases a with
      | ref n =>
        obtain ⟨b, ns, rfl, hq, p⟩ := ints_or (f := fun ns => match ns with
          | i :: r => .ok (.int (most i r)) h
          | [] => .err) R t (by
            have p : PoV (sOf X G) r H (match (seqOf h n).bind intsOf with
              | some (i :: r) => .ok (.int (most i r)) h
              | _ => .err) Q E := p
            cases q : (seqOf h n).bind intsOf with
            | none =>
              rw [q] at p
              exact p
            | some l =>
              rw [q] at p
              cases l <;> exact p)
        cases ns with
        | nil => exact False.elim p
        | cons i l =>
          obtain ⟨m1, m2⟩ := most_is l i
          refine cr_max hc pins s σ H _ us Q I rx ⟨b, i :: l, rfl, hq, Nat.succ_pos _, fun m h1 h2 => ?_⟩
          have e : m = most i l := Int.le_antisymm (m2 m h1) (h2 _ m1)
          rw [e]
          exact Po.here R (.int _) p
      | _ => exact False.elim p
    | @cons a2 v2 as2 vs2 t2 ts2 =>
      cases ts2 with
      | cons _ _ => cases a <;> cases a2 <;> exact False.elim p
      | nil =>
        cases t with
        | int i =>
          cases t2 with
          | int j => exact call_max2 hc pins s σ H _ us Q I rx ⟨i, j, rfl, Po.here R (.int _) p⟩
          | _ => exact False.elim p
        | _ => exact False.elim p
theorem bl_min (hc : X.calm = true) : CallR X (.builtin "min") (rBl (sOf X G) .min) := by
  intro pins s σ H xs us Q I rx hh
  obtain ⟨r, h, as, E, R, t, p⟩ := hh
  cases t with
  | nil => exact False.elim p
  | @cons a v as vs t ts =>
    cases ts with
    | nil =>
      cases a with
      | ref n =>
        obtain ⟨b, ns, rfl, hq, p⟩ := ints_or (f := fun ns => match ns with
          | i :: r => .ok (.int (least i r)) h
          | [] => .err) R t (by
            have p : PoV (sOf X G) r H (match (seqOf h n).bind intsOf with
              | some (i :: r) => .ok (.int (least i r)) h
              | _ => .err) Q E := p
            cases q : (seqOf h n).bind intsOf with
            | none =>
              rw [q] at p
              exact p
            | some l =>
              rw [q] at p
              cases l <;> exact p)
        cases ns with
        | nil => exact False.elim p
        | cons i l =>
          obtain ⟨m1, m2⟩ := least_is l i
          refine cr_min hc pins s σ H _ us Q I rx ⟨b, i :: l, rfl, hq, Nat.succ_pos _, fun m h1 h2 => ?_⟩
          have e : m = least i l := Int.le_antisymm (h2 _ m1) (m2 m h1)
          rw [e]
          exact Po.here R (.int _) p
      | _ => exact False.elim p
    | @cons a2 v2 as2 vs2 t2 ts2 =>
      cases ts2 with
      | cons _ _ => cases a <;> cases a2 <;> exact False.elim p
      | nil =>
        cases t with
        | int i =>
          cases t2 with
          | int j => exact call_min2 hc pins s σ H _ us Q I rx ⟨i, j, rfl, Po.here R (.int _) p⟩
          | _ => exact False.elim p
        | _ => exact False.elim p
theorem bl_repr (hg : X.A.guards = some []) (hu : X.A.units + 65 < cLine) : CallR X (.builtin "repr") (rBl (sOf X G) .repr) := by
  intro pins s σ H xs us Q I rx hh
  obtain ⟨r, h, as, E, R, t, p⟩ := hh
  cases t with
  | nil => exact False.elim p
  | @cons a v as vs t ts =>
    cases ts with
    | cons _ _ => cases a <;> exact False.elim p
    | nil =>
      have p : PoV (sOf X G) r H (match dataOf h a with
        | some d => if (d.showable && !d.hasDict && Nat.ble d.depth 64 && lineOk d.shown.length) = true then .ok (.str d.shown) h else .err
        | none => .err) Q E := p
      cases e : dataOf h a with
      | none =>
        rw [e] at p
        exact False.elim p
      | some d =>
        rw [e] at p
        have p : PoV (sOf X G) r H (if (d.showable && !d.hasDict && Nat.ble d.depth 64 && lineOk d.shown.length) = true then .ok (.str d.shown) h else .err) Q E := p
        by_cases c : (d.showable && !d.hasDict && Nat.ble d.depth 64 && lineOk d.shown.length) = true
        · rw [if_pos c] at p
          obtain ⟨c1, c4⟩ := Bool.and_eq_true_iff.mp c
          obtain ⟨c2, c3⟩ := Bool.and_eq_true_iff.mp c1
          obtain ⟨cs, cd⟩ := Bool.and_eq_true_iff.mp c2
          have hsz : d.shown.length ≤ sizeLine := line_le c4
          have hdp : d.depth ≤ 64 := Nat.le_of_ble_eq_true c3
          have hnd : d.hasDict = false := by
            cases z : d.hasDict with
            | false => rfl
            | true =>
              rw [z] at cd
              cases cd
          have q : Q (.str d.shown) H := Po.here R (.str _) p
          obtain ⟨u, rfl, ru⟩ := vals1 rx
          have dp := dp_of R 12 e t
          obtain ⟨as, rd⟩ := Dp.reads I d v u dp ru
          cases dp with
          | non =>
            cases ru
            exact PySem.P.repr_of_none ⟨.str _, H, I.tok _, ⟨_, rfl⟩, q⟩
          | bl b =>
            cases ru
            refine PySem.P.repr_of_bool ⟨.str _, H, I.tok _, ⟨_, rfl⟩, ?_⟩
            exact q
          | int i =>
            obtain ⟨tk, rfl⟩ := ru
            exact PySem.P.repr_of_int (of_decide_eq_true cs) ⟨.str _, H, I.tok _, ⟨_, rfl⟩, q⟩
          | str x =>
            obtain ⟨tk, rfl⟩ := ru
            exact PySem.P.repr_of_str ⟨.str _, H, I.tok _, ⟨_, rfl⟩, q⟩ hsz
          | lst _ _ =>
            cases ru
            exact repr_of_reads' rd cs (fun z => by rw [hnd] at z; cases z) hg (by omega) (fun _ _ z => z) (fun h' u tk hk => ⟨.str _, H, I.kept hk, ⟨_, rfl⟩, q⟩) hsz
          | tup _ _ =>
            cases ru
            exact repr_of_reads' rd cs (fun z => by rw [hnd] at z; cases z) hg (by omega) (fun _ _ z => z) (fun h' u tk hk => ⟨.str _, H, I.kept hk, ⟨_, rfl⟩, q⟩) hsz
        · rw [if_neg c] at p
          exact False.elim p
/-- every built-in but isinstance -/
theorem bl_call (hc : X.calm = true) (hg : X.A.guards = some []) (hu : X.A.units + 65 < cLine) : ∀ f : Bl, (∀ T, f ≠ .isi T) → CallR X f.val (rBl (sOf X G) f)
  | .len, _ => bl_len
  | .abs, _ => bl_abs
  | .int, _ => bl_int
  | .bool, _ => bl_bool
  | .max, _ => bl_max hc
  | .min, _ => bl_min hc
  | .sum, _ => bl_sum hc
  | .any, _ => bl_any hc
  | .all, _ => bl_all' hc
  | .tuple, _ => bl_tuple
  | .list, _ => bl_list
  | .isi T, n => absurd rfl (n T)
  | .repr, _ => bl_repr hg hu
end
end Ev

/-! text Fw6 -/
set_option Elab.async false
set_option linter.all false
set_option maxRecDepth 100000
set_option maxHeartbeats 4000000
/-! Ev: methods of lists; stores. -/
namespace Ev
open PySem PySem.Spec PyProof.Rows L2
section
variable {S : Ws} {r : List Addr} {H : Hp} {h : Ho} {X : Cx} {G : Pg}
def Mt.name : Mt → String
  | .append => "append" | .insert => "insert" | .pop => "pop" | .extend => "extend"
def Mt.id : Mt → String
  | .append => "list.append" | .insert => "list.insert" | .pop => "list.pop" | .extend => "list.extend"
def rMt (S : Ws) (m : Mt) : V → List V → Hp → VK → Prop := fun v vs H Q => ∃ r h n as E, Rel S r h H ∧ Ra S r H (.ref n) v ∧ Ras S r H as vs ∧ PoV S r H (mthA m (.ref n) as h) Q E
theorem ref_lst (R : Rel S r h H) {n : Nat} {v : V} {xs : List A} (e : h[n]? = some (.lst xs)) (t : Ra S r H (.ref n) v) : ∃ p vs, v = .ref p ∧ r[n]? = some p ∧ H p = some (.lst vs) ∧ Ras S r H xs vs := by
  cases t with
  | ref ep =>
    obtain ⟨p, vs, e1, e2, t2⟩ := R.at_ n xs e
    rw [ep] at e1
    cases e1
    exact ⟨_, vs, rfl, ep, e2, t2⟩
theorem Po.put {xs ys : List A} {ws : List V} {n : Nat} {p : Addr} {Q : VK} {E : XK} {a : A} {v : V} (R : Rel S r h H) (e : h[n]? = some (.lst ys)) (ep : r[n]? = some p) (t : Ras S r H xs ws) (ta : Ra S r H a v)
    (q : PoV S r H (.ok a (setL n xs h)) Q E) : Q v (upd H p (.lst ws)) := by
  obtain ⟨R', st⟩ := R.put e ep t
  exact q _ _ _ st R' (ta.step R st)
theorem lst_or {n : Nat} {Q : VK} {E : XK} {f : List A → R A} (p : PoV S r H (match h[n]? with
    | some (.lst ys) => f ys
    | none => .err) Q E) : ∃ ys, h[n]? = some (.lst ys) ∧ PoV S r H (f ys) Q E := by
  cases q : h[n]? with
  | none =>
    rw [q] at p
    exact False.elim p
  | some o =>
    cases o with
    | lst ys =>
      rw [q] at p
      exact ⟨ys, rfl, p⟩
theorem mt_app : MtR X "list.append" (rMt (sOf X G) .append) := by
  intro pins s σ H x xs v us Q I rx rs hh
  obtain ⟨r, h, n, as, E, R, t, ts, p⟩ := hh
  have p : PoV (sOf X G) r H (match h[n]? with
    | some (.lst ys) => mthA .append (.ref n) as h
    | none => .err) Q E := by
    cases q : h[n]? with
    | none =>
      have : mthA .append (.ref n) as h = .err := by
        unfold mthA
        simp only [q]
      rw [this] at p
      exact p
    | some o =>
      cases o with
      | lst ys => exact p
  obtain ⟨ys, e, p⟩ := lst_or (f := fun _ => mthA .append (.ref n) as h) p
  obtain ⟨p0, vs, rfl, ep, e2, t2⟩ := ref_lst R e t
  unfold mthA at p
  simp only [e] at p
  cases ts with
  | nil => exact False.elim p
  | @cons a v0 as vs0 ta ts =>
    cases ts with
    | cons _ _ => exact False.elim p
    | nil =>
      have p : PoV (sOf X G) r H (if lineOk (ys.length + 1) = true then .ok .non (setL n (ys ++ [a]) h) else .err) Q E := p
      by_cases c : lineOk (ys.length + 1) = true
      · rw [if_pos c] at p
        have hz := line_le c
        rw [t2.length] at hz
        exact mt_append pins s σ H _ _ v us Q I rx rs ⟨p0, vs, v0, rfl, rfl, e2, hz, Po.put R e ep (t2.snoc ta) .non p⟩
      · rw [if_neg c] at p
        exact False.elim p
theorem mt_ins : MtR X "list.insert" (rMt (sOf X G) .insert) := by
  intro pins s σ H x xs v us Q I rx rs hh
  obtain ⟨r, h, n, as, E, R, t, ts, p⟩ := hh
  unfold mthA at p
  cases e : h[n]? with
  | none =>
    simp only [e] at p
    exact False.elim p
  | some o =>
    cases o with
    | lst ys =>
      simp only [e] at p
      obtain ⟨p0, vs, rfl, ep, e2, t2⟩ := ref_lst R e t
      cases ts with
      | nil => exact False.elim p
      | @cons a v0 as vs0 ta ts =>
        cases ts with
        | nil => cases a <;> exact False.elim p
        | @cons a1 v1 as1 vs1 ta1 ts1 =>
          cases ts1 with
          | cons _ _ => cases a <;> exact False.elim p
          | nil =>
            cases ta with
            | int i =>
              have p : PoV (sOf X G) r H (if (lineOk (ys.length + 1) && decide (0 ≤ i) && decide (i < 2 ^ 63)) = true then .ok .non (setL n (ys.take i.toNat ++ [a1] ++ ys.drop i.toNat) h) else .err) Q E := p
              by_cases c : (lineOk (ys.length + 1) && decide (0 ≤ i) && decide (i < 2 ^ 63)) = true
              · rw [if_pos c] at p
                obtain ⟨c1, c3⟩ := Bool.and_eq_true_iff.mp c
                obtain ⟨c1, c2⟩ := Bool.and_eq_true_iff.mp c1
                have hz := line_le c1
                rw [t2.length] at hz
                exact mt_insert pins s σ H _ _ v us Q I rx rs ⟨p0, vs, i, v1, rfl, rfl, e2, hz, of_decide_eq_true c2, of_decide_eq_true c3, Po.put R e ep (((t2.take _).snoc ta1).app (t2.drop _)) .non p⟩
              · rw [if_neg c] at p
                exact False.elim p
            | _ => exact False.elim p
theorem mt_popE : MtR X "list.pop" (rMt (sOf X G) .pop) := by
  intro pins s σ H x xs v us Q I rx rs hh
  obtain ⟨r, h, n, as, E, R, t, ts, p⟩ := hh
  unfold mthA at p
  cases e : h[n]? with
  | none =>
    simp only [e] at p
    exact False.elim p
  | some o =>
    cases o with
    | lst ys =>
      simp only [e] at p
      obtain ⟨p0, vs, rfl, ep, e2, t2⟩ := ref_lst R e t
      cases ts with
      | cons _ _ => exact False.elim p
      | nil =>
        have p : PoV (sOf X G) r H (match ys[ys.length - 1]? with
          | some y => .ok y (setL n ys.dropLast h)
          | none => .err) Q E := p
        cases q : ys[ys.length - 1]? with
        | none =>
          rw [q] at p
          exact False.elim p
        | some y =>
          rw [q] at p
          obtain ⟨w, e3, t3⟩ := t2.get q
          rw [t2.length] at e3
          exact mt_pop pins s σ H _ _ v us Q I rx rs ⟨p0, vs, w, rfl, rfl, e2, e3, Po.put R e ep t2.dropLast t3 p⟩
theorem mt_ext : MtR X "list.extend" (rMt (sOf X G) .extend) := by
  intro pins s σ H x xs v us Q I rx rs hh
  obtain ⟨r, h, n, as, E, R, t, ts, p⟩ := hh
  unfold mthA at p
  cases e : h[n]? with
  | none =>
    simp only [e] at p
    exact False.elim p
  | some o =>
    cases o with
    | lst ys =>
      simp only [e] at p
      obtain ⟨p0, vs, rfl, ep, e2, t2⟩ := ref_lst R e t
      cases ts with
      | nil => exact False.elim p
      | @cons a v0 as vs0 ta ts =>
        cases ts with
        | cons _ _ => cases a <;> exact False.elim p
        | nil =>
          cases a with
          | ref k =>
            simp only at p
            cases e4 : h[k]? with
            | none =>
              simp only [e4] at p
              exact False.elim p
            | some o =>
              cases o with
              | lst zs =>
                simp only [e4] at p
                obtain ⟨p1, ws, rfl, ep1, e5, t5⟩ := ref_lst R e4 ta
                by_cases c : (n != k && lineOk (ys.length + zs.length)) = true
                · rw [if_pos c] at p
                  have hz := line_le (Bool.and_eq_true_iff.mp c).2
                  rw [t2.length, t5.length] at hz
                  exact mt_extend pins s σ H _ _ v us Q I rx rs ⟨p0, p1, vs, ws, rfl, rfl, e2, e5, hz, Po.put R e ep (t2.app t5) .non p⟩
                · rw [if_neg c] at p
                  exact False.elim p
          | _ => exact False.elim p
theorem mt_call : ∀ m : Mt, MtR X m.id (rMt (sOf X G) m)
  | .append => mt_app
  | .insert => mt_ins
  | .pop => mt_popE
  | .extend => mt_ext
theorem mt_slot : ∀ m : Mt, Slot "list" (m.name : Str) m.id
  | .append => PySem.F.slot_list_append
  | .insert => PySem.F.slot_list_insert
  | .pop => PySem.F.slot_list_pop
  | .extend => PySem.F.slot_list_extend
theorem mt_type : ∀ m : Mt, typeOf (.builtin m.id) = pure (.type "method_descriptor")
  | .append => PySem.F.type_list_append
  | .insert => PySem.F.type_list_insert
  | .pop => PySem.F.type_list_pop
  | .extend => PySem.F.type_list_extend
/-- o[i] = v -/
def rSt (S : Ws) : V → V → V → Hp → (Hp → Prop) → Prop := fun o i v H Q => ∃ r h a b c h', Rel S r h H ∧ Ra S r H a o ∧ Ra S r H b i ∧ Ra S r H c v ∧ stoA a b c h = some h' ∧ ∀ r' H', Step r H r' H' → Rel S r' h' H' → Q H'
theorem set_all : PSet X (rSt (sOf X G)) := by
  intro pins s σ H o i v ov iv u Q I ro ri rv hh
  obtain ⟨r, h, a, b, c, h', R, ta, tb, tc, e, q⟩ := hh
  unfold stoA at e
  cases a with
  | ref n =>
    cases tb with
    | int k =>
      simp only at e
      cases e1 : h[n]? with
      | none =>
        simp only [e1] at e
        cases e
      | some ob =>
        cases ob with
        | lst xs =>
          simp only [e1] at e
          obtain ⟨p0, vs, rfl, ep, e2, t2⟩ := ref_lst R e1 ta
          rw [idx_eq] at e
          cases e3 : ixN xs.length k with
          | none =>
            rw [e3] at e
            cases e
          | some j =>
            rw [e3] at e
            cases e
            obtain ⟨R', st⟩ := R.put e1 ep (t2.set tc j)
            rw [t2.length] at e3
            exact set_list pins s σ H _ _ v ov iv u Q I ro ri rv ⟨p0, vs, k, j, rfl, rfl, e2, e3, q _ _ st R'⟩
    | _ => cases e
  | _ => cases e
end
end Ev

/-! text Fw7 -/
set_option Elab.async false
set_option linter.all false
set_option maxRecDepth 100000
set_option maxHeartbeats 4000000
/-! Ev: the check that a piece of syntax is what a term of the language says; the calls' contracts. -/
namespace Ev
open PySem PySem.Spec PyProof.Rows L2

/-- the names by their slots, the program, the module's constants -/
structure Ck where
  N : List Str
  G : Pg
  cts : List (Str × A)
  exn : List Str
def visB (sc : Scope) (x : Str) : Bool := match sc.names.lookup x with
  | some .local => true
  | some .cell => true
  | some .free => true
  | _ => false
def locB (sc : Scope) (x : Str) : Bool := match sc.names.lookup x with
  | some .local => true
  | some .cell => true
  | _ => false
def isLocB (sc : Scope) (x : Str) : Bool := match sc.names.lookup x with
  | some .local => true
  | _ => false
def glB (sc : Scope) (x : Str) : Bool := match sc.names.lookup x with
  | some .globalImplicit => true
  | _ => false
def dbgB (x : Str) : Bool := !(x == ("__debug__" : Str)) && !(x == ("__classdict__" : Str)) && !(x == ("__name__" : Str))
def isStar : Expr → Bool
  | .Starred _ _ => true
  | _ => false
def isSlice : Expr → Bool
  | .Slice _ _ _ _ => true
  | _ => false
def isAttr : Expr → Bool
  | .Attribute _ _ _ => true
  | _ => false
def isCall : Expr → Bool
  | .Call _ _ _ _ => true
  | _ => false
def isSet : Expr → Bool
  | .Set _ _ _ => true
  | _ => false
def opEq : Operator → Operator → Bool
  | .Add, .Add => true | .Sub, .Sub => true | .Mult, .Mult => true | .FloorDiv, .FloorDiv => true | .Mod, .Mod => true | .Pow, .Pow => true
  | _, _ => false
def cmpEq : CmpOp → CmpOp → Bool
  | .Eq, .Eq => true | .NotEq, .NotEq => true | .Lt, .Lt => true | .LtE, .LtE => true | .Gt, .Gt => true | .GtE, .GtE => true
  | .Is, .Is => true | .IsNot, .IsNot => true | .In, .In => true | .NotIn, .NotIn => true
  | _, _ => false
def litEq : A → Const → Bool
  | .non, .none => true
  | .bl a, .bool b => a == b
  | .int a, .int b => a == b
  | .str a, .str b => a == b
  | _, _ => false
/-- a module's name as a value: a def, a constant -/
def gloB (c : Ck) (x : Str) (a : A) : Bool := match a with
  | .fn i => match c.G.defs[i]? with
    | some d => d.name == x
    | none => false
  | a => match look x c.cts with
    | some b => A.beq a b
    | none => false
mutual
/-- a target; own: the block's own names (a def's: all) -/
def ckG (c : Ck) (sc : Scope) (own : Str → Bool) : Tg → Expr → Bool
  | .nm i, .Name x _ => decide (c.N[i]? = some x) && locB sc x && (own x || isLocB sc x)
  | .tp gs, .Tuple ts _ _ => ckGs c sc own gs ts
  | _, _ => false
def ckGs (c : Ck) (sc : Scope) (own : Str → Bool) : List Tg → List Expr → Bool
  | [], [] => true
  | g :: gs, t :: ts => !isStar t && ckG c sc own g t && ckGs c sc own gs ts
  | _, _ => false
end
mutual
/-- the target stores in these slots alone -/
def Tg.within (own : List Nat) : Tg → Bool
  | .nm i => own.any (· == i)
  | .tp gs => Tg.withins own gs
def Tg.withins (own : List Nat) : List Tg → Bool
  | [] => true
  | g :: gs => Tg.within own g && Tg.withins own gs
end
def isTupE : Expr → Bool
  | .Tuple _ _ _ => true
  | _ => false
def isNonE : E → Bool
  | .lit .non => true
  | _ => false
def isYes : T → Bool
  | .yes => true
  | _ => false
def Bl.isIsi : Bl → Bool
  | .isi _ => true
  | _ => false
def defB (c : Ck) (f : Nat) (x : Str) : Bool := match c.G.defs[f]? with
  | some d => d.name == x
  | none => false
def isCmp : Expr → Bool
  | .Compare _ _ _ _ => true
  | _ => false
def plainT : Expr → Bool
  | .UnaryOp .Not _ _ => false
  | .BoolOp _ _ _ => false
  | .IfExp _ _ _ _ => false
  | .Compare _ _ _ _ => false
  | _ => true
def ownOf (c : Ck) (own : List Nat) : List (Str × Nat) := own.map fun i => (c.N.getD i Str.empty, i)
mutual
def ckE (c : Ck) (sc : Scope) : E → Expr → Bool
  | .var i, .Name x _ => decide (c.N[i]? = some x) && visB sc x && dbgB x
  | .lit a, .Constant k _ _ => litEq a k
  | .glo x a, .Name y _ => x == y && glB sc y && dbgB y && gloB c y a
  | .neg a, .UnaryOp .USub x _ => ckE c sc a x
  | .not a, .UnaryOp .Not x _ => ckE c sc a x
  | .bin op a b, .BinOp x op' y _ => opEq op op' && ckE c sc a x && ckE c sc b y
  | .and a b, .BoolOp .And (x :: y :: r) p => ckE c sc a x && (match r with
    | [] => ckE c sc b y
    | z :: r => ckE c sc b (.BoolOp .And (y :: z :: r) p))
  | .or a b, .BoolOp .Or (x :: y :: r) p => ckE c sc a x && (match r with
    | [] => ckE c sc b y
    | z :: r => ckE c sc b (.BoolOp .Or (y :: z :: r) p))
  | .ite t a b, .IfExp z x y _ => ckT c sc t z && ckE c sc a x && ckE c sc b y
  | .cmp op a b, .Compare x [op'] [y] _ => cmpEq op op' && ckE c sc a x && ckE c sc b y && !isSet y
  | .chn op op2 a b d, .Compare x [op', op2'] [y, z] _ => cmpEq op op' && cmpEq op2 op2' && ckE c sc a x && ckE c sc b y && ckE c sc d z && !isSet z
  | .tup es, .Tuple xs _ _ => ckEs c sc es xs && Nat.ble es.length 1000
  | .lst es, .List xs _ => ckEs c sc es xs && Nat.ble es.length 1000
  | .sub a i, .Subscript x y _ => !isSlice y && ckE c sc a x && ckE c sc i y
  | .slc a lo hi, .Subscript x (.Slice l u none _) _ => ckE c sc a x && (match l with
    | none => isNonE lo
    | some l => ckE c sc lo l) && (match u with
    | none => isNonE hi
    | some u => ckE c sc hi u)
  | .rev a, .Subscript x (.Slice none none (some (.UnaryOp .USub (.Constant (.int k) _ _) _)) _) _ => k == 1 && ckE c sc a x
  | .call f es, .Call (.Name x _) args [] _ => defB c f x && glB sc x && dbgB x && ckEs c sc es args
  | .cval f es, .Call (.Subscript x y p) args [] _ => ckE c sc f (.Subscript x y p) && ckEs c sc es args
  | .isi T e, .Call (.Name x _) [y, .Name z _] [] _ => x == ("isinstance" : Str) && glB sc x && z == (T : Str) && glB sc z && isiT T && !isStar y && ckE c sc e y
  | .blt f es, .Call (.Name x _) args [] _ => !f.isIsi && x == (f.name : Str) && glB sc x && !args.isEmpty && ckEs c sc es args
  | .mth m o es, .Call (.Attribute x n ap) args [] p => n == (m.name : Str) && ap.endLine == p.line && !isCall x && ckE c sc o x && ckEs c sc es args && Nat.ble args.length 20
  | .comp e g it t own, .ListComp x [⟨tg, iter, ifs, as⟩] scope _ => as == 0 && blkC c.N sc scope (ownOf c own) && ckI c sc it iter tg && ckG c (relS scope sc) (fun x => scope.names.lookup x == some .cell) g tg && Tg.within own g
      && (match ifs with
        | [] => isYes t
        | [y] => ckT c (relS scope sc) t y
        | _ => false) && ckE c (relS scope sc) e x
  | _, _ => false
def ckEs (c : Ck) (sc : Scope) : List E → List Expr → Bool
  | [], [] => true
  | e :: es, x :: xs => !isStar x && ckE c sc e x && ckEs c sc es xs
  | _, _ => false
def ckT (c : Ck) (sc : Scope) : T → Expr → Bool
  | .and a b, .BoolOp .And (x :: y :: r) p => ckT c sc a x && (match r with
    | [] => ckT c sc b y
    | z :: r => ckT c sc b (.BoolOp .And (y :: z :: r) p))
  | .or a b, .BoolOp .Or (x :: y :: r) p => ckT c sc a x && (match r with
    | [] => ckT c sc b y
    | z :: r => ckT c sc b (.BoolOp .Or (y :: z :: r) p))
  | .not a, .UnaryOp .Not x _ => ckT c sc a x
  | .val e, x => (isCmp x || plainT x) && ckE c sc e x
  | _, _ => false
def ckI (c : Ck) (sc : Scope) : I → Expr → Expr → Bool
  | .sq e, x, _ => !isSet x && ckE c sc e x
  | .rg es, .Call (.Name x _) args [] _, _ => x == ("range" : Str) && glB sc x && (Nat.beq args.length 1 || Nat.beq args.length 2) && ckEs c sc es args
  | .zp a b, .Call (.Name x _) [y, z] [] _, tg => x == ("zip" : Str) && glB sc x && isTupE tg && !isStar y && !isStar z && ckE c sc a y && ckE c sc b z
  | .en a, .Call (.Name x _) [y] [] _, tg => x == ("enumerate" : Str) && glB sc x && isTupE tg && !isStar y && ckE c sc a y
  | _, _, _ => false
end

/-! ### a def's contract -/
structure FnG (P : Program) (w : World) (K : PySem.W.Frag) (mg : Str → Option Value) (base : Heap) (k : Nat) (f : Addr) (fd : FuncData) (ps : List Str) (sp : Sp) : Prop where
  len : ∀ vs H Q E, sp vs H Q E → vs.length = ps.length
  run : ∀ (A : Around) (outer : List Env) (s : Shared) (H : Hp) (args : Args) (us : List Value) (vs : List V) (Q : VK) (E : XK), A.guards = some [] → Room k A → Env0 P w K mg base A outer s H → BindsTo s fd args (ps.zip us) → Vals vs us →
    sp vs H Q E → codeAny (model P w) A (.call (.ref f) args) (CR (L2.CX P w) outer P w H s Q E) s
/-- what the computing says of a call -/
def spF (S : Ws) (C : Nat → List A → Ho → R A) (f : Nat) (n : Nat) : Sp := fun vs H Q E => ∃ r h as, Rel S r h H ∧ Ras S r H as vs ∧ as.length = n ∧ PoV S r H (C f as h) Q E
structure Wd (P : Program) (w : World) (K : PySem.W.Frag) (mg : Str → Option Value) (base : Heap) (c : Ck) (k : Nat) (C : Nat → List A → Ho → R A) : Prop where
  fns : ∀ (f : Nat) (d : Df), c.G.defs[f]? = some d → ∃ fa fd, mg d.name = some (.ref fa) ∧ PySem.W.keepIn K (.ref fa) = true ∧ Binds K fd (d.N.take d.ps) [] ∧ (d.N.take d.ps).length = d.ps ∧
    FnG P w K mg base k fa fd (d.N.take d.ps) (spF ⟨K, mg, c.G⟩ C f d.ps)
  args : ∀ (f : Nat) (d : Df) (as : List A) (h : Ho), c.G.defs[f]? = some d → as.length ≠ d.ps → C f as h = .err
  free : ∀ x : String, (["len", "abs", "int", "bool", "max", "min", "sum", "any", "all", "tuple", "list", "isinstance", "repr", "range", "zip", "enumerate", "str"] : List String).contains x = true → mg (x : Str) = none
  cts : ∀ x a, look x c.cts = some a → ∃ u v, mg x = some u ∧ RelV v u ∧ ∀ (b : A), A.beq b a = true → ∀ r H, Ra ⟨K, mg, c.G⟩ r H b v
/-- a context in which the language's terms are told -/
structure Cxt (X : Cx) (c : Ck) (sc : Scope) (own : Str → Bool) (k : Nat) (C : Nat → List A → Ho → R A) : Prop where
  wd : Wd X.prog X.w X.K X.mg X.base c k C
  N : X.N = c.N
  nd : c.N.Nodup
  sc : X.env.scope = sc
  own : ∀ x, own x = true → X.fn x = true
  calm : X.calm = true
  gd : X.A.guards = some []
  room : Room k X.A
theorem Cxt.un {X : Cx} {c : Ck} {sc : Scope} {own : Str → Bool} {k : Nat} {C : Nat → List A → Ho → R A} (t : Cxt X c sc own k C) : X.A.units + 65 < cLine := by
  have := t.room.un
  omega
/-- the callee runs -/
theorem run_call {X : Cx} {c : Ck} {sc : Scope} {own : Str → Bool} {k : Nat} {C : Nat → List A → Ho → R A} {W : WX} (t : Cxt X c sc own k C) (tk : Takes X W) {f : Nat} {d : Df} (hd : c.G.defs[f]? = some d) {pins : List (Addr × Obj)} {σ : L2.St} {H : Hp} {s : Shared} {Q : VK}
    {us : List Value} {vs : List V} (I : Inv X pins σ H s) (rv : Vals vs us) {r : List Addr} {h : Ho} {as : List A} (R : Rel (sOf X c.G) r h H) (ra : Ras (sOf X c.G) r H as vs) (p : PoV (sOf X c.G) r H (C f as h) Q fun cls d H' => W cls d σ H') {fa : Addr} (hf : X.mg d.name = some (.ref fa)) :
    wpAny (model X.prog X.w) X.A (call (.ref fa) us) (EP X pins σ Q) X.xe s := by
  obtain ⟨fa', fd, e1, kp, bd, hl, F⟩ := t.wd.fns f d hd
  rw [hf] at e1
  cases e1
  have ha : as.length = d.ps := by
    cases Nat.decEq as.length d.ps with
    | isTrue e => exact e
    | isFalse n =>
      rw [t.wd.args f d as h hd n] at p
      exact False.elim p
  have lu : us.length = (d.N.take d.ps).length := by rw [hl, ← ha, ra.length, rv.length]
  have b := bd s us I.kIn (by rw [List.append_nil]; exact lu)
  rw [List.append_nil] at b
  refine wpAny_call (codeAny_mono (F.run X.A X.stack s H ⟨us, []⟩ us vs Q (fun cls d H' => W cls d σ H') t.gd t.room I.env0 b rv ⟨r, h, as, R, ra, ha, p⟩) fun rr s' hq => ?_)
  cases rr with
  | error e => exact tk e s' (XE.of_call I (fun _ _ _ z => z) hq)
  | ok fl =>
    cases fl with
    | ret u => exact I.after hq
    | next => exact False.elim hq
    | brk => exact False.elim hq
    | cont => exact False.elim hq
end Ev

/-! text Fw8 -/
set_option Elab.async false
set_option linter.all false
set_option maxRecDepth 100000
set_option maxHeartbeats 4000000
/-! Ev: each construct of an expression: the layer's reading follows from what is computed. -/
namespace Ev
open PySem PySem.Spec PyProof.Rows L2
section
variable {X : Cx} {c : Ck} {sc : Scope} {own : Str → Bool} {k : Nat} {C : Nat → List A → Ho → R A} {W : WX}
theorem _root_.L2.PE.imp {x : Expr} {t t' : TE} (h : PE X x t) (q : ∀ σ H Q, t' σ H Q → t σ H Q) : PE X x t' := ⟨fun p s σ H Q I w => h.run p s σ H Q I (q _ _ _ w)⟩
theorem _root_.L2.PT.imp {x : Expr} {t t' : TT} (h : PT X x t) (q : ∀ σ H Q, t' σ H Q → t σ H Q) : PT X x t' := ⟨fun p s σ H Q I w => h.run p s σ H Q I (q _ _ _ w)⟩
theorem _root_.L2.PW.imp {x : Expr} {t t' : TT} (h : PW X x t) (q : ∀ σ H Q, t' σ H Q → t σ H Q) : PW X x t' := ⟨fun wh p s σ H Q I w => h.run wh p s σ H Q I (q _ _ _ w)⟩
theorem _root_.L2.PA.imp {x : List Expr} {t t' : TA} (h : PA X x t) (q : ∀ σ H Q, t' σ H Q → t σ H Q) : PA X x t' := ⟨fun pos p s σ H Q I w => h.run pos p s σ H Q I (q _ _ _ w)⟩
theorem _root_.L2.PE.sem {x : Expr} {f g : Sl → Ho → R A} {S : Ws} (h : PE X x (rdE S W f)) (e : ∀ s o, g s o = f s o) : PE X x (rdE S W g) := h.imp fun σ H Q ⟨r, s, o, a, p⟩ => ⟨r, s, o, a, by rw [e s o] at p; exact p⟩

theorem vis_of {x : Str} (t : Cxt X c sc own k C) (h : visB sc x = true) : Vis X.env.scope x := by
  rw [t.sc]
  unfold visB at h
  unfold Vis
  split at h
  · exact .inl ‹_›
  · exact .inr (.inl ‹_›)
  · exact .inr (.inr ‹_›)
  · cases h
theorem gl_of {x : Str} (t : Cxt X c sc own k C) (h : glB sc x = true) : Gl X x := by
  show X.env.scope.names.lookup x = _
  rw [t.sc]
  unfold glB at h
  split at h
  · assumption
  · cases h
theorem dbg_of {x : Str} (h : dbgB x = true) : (x == ("__debug__" : Str)) = false ∧ (x == ("__classdict__" : Str)) = false ∧ x ≠ "__name__" := by
  unfold dbgB at h
  obtain ⟨h1, h3⟩ := Bool.and_eq_true_iff.mp h
  obtain ⟨h1, h2⟩ := Bool.and_eq_true_iff.mp h1
  refine ⟨by simpa using h1, by simpa using h2, ?_⟩
  intro e
  subst e
  simp at h3
/-! ### names, constants -/
theorem e_var (t : Cxt X c sc own k C) {i : Nat} {x : Str} {p : Pos} (h1 : c.N[i]? = some x) (h2 : visB sc x = true) (h3 : dbgB x = true) : PE X (.Name x p) (rdE (sOf X c.G) W (evE C (.var i))) := by
  obtain ⟨d1, d2, _⟩ := dbg_of h3
  refine (pe_var (i := i) (by rw [t.N]; exact h1) (vis_of t h2) d1 d2).imp fun σ H Q ⟨r, s, h, a, q⟩ => ?_
  unfold evE at q
  cases e : s[i]? with
  | none =>
    rw [e] at q
    exact False.elim q
  | some o =>
    cases o with
    | none =>
      rw [e] at q
      exact False.elim q
    | some b =>
      rw [e] at q
      obtain ⟨v, e1, ra⟩ := a.sl.at_ i b e
      exact ⟨v, e1, Po.here a.rel ra q⟩
theorem e_lit {a : A} {ct : Const} {j : Nat} {p : Pos} {G : Pg} (h : litEq a ct = true) : PE X (.Constant ct j p) (rdE (sOf X G) W (evE C (.lit a))) := by
  unfold litEq at h
  split at h
  · exact pe_non.imp fun σ H Q ⟨r, s, h, a, q⟩ => Po.here a.rel .non q
  · rename_i b b'
    have e : b = b' := beq_iff_eq.mp h
    subst e
    exact pe_bl.imp fun σ H Q ⟨r, s, h, a, q⟩ => Po.here a.rel (.bl b) q
  · rename_i b b'
    have e : b = b' := beq_iff_eq.mp h
    subst e
    exact pe_int.imp fun σ H Q ⟨r, s, h, a, q⟩ => Po.here a.rel (.int b) q
  · rename_i b b'
    have e : b = b' := beq_iff_eq.mp h
    subst e
    exact pe_str.imp fun σ H Q ⟨r, s, h, a, q⟩ => Po.here a.rel (.str b) q
  · cases h
theorem glo_of (t : Cxt X c sc own k C) {x : Str} {a : A} (h : gloB c x a = true) : ∃ u v, X.mg x = some u ∧ RelV v u ∧ ∀ r H, Ra (sOf X c.G) r H a v := by
  have other : ∀ b, look x c.cts = some b → A.beq a b = true → (∃ u v, X.mg x = some u ∧ RelV v u ∧ ∀ r H, Ra (sOf X c.G) r H a v) := fun b e1 e2 => by
    obtain ⟨u, v, m1, m2, m3⟩ := t.wd.cts x b e1
    exact ⟨u, v, m1, m2, fun r H => m3 a e2 r H⟩
  unfold gloB at h
  split at h
  · rename_i i
    split at h
    · rename_i d hd
      have e : d.name = x := beq_iff_eq.mp h
      subst e
      obtain ⟨fa, fd, m1, _⟩ := t.wd.fns i d hd
      exact ⟨.ref fa, .ref fa, m1, rfl, fun r H => .fn hd m1⟩
    · cases h
  · split at h
    · rename_i b hb
      exact other b hb h
    · cases h
theorem e_glo (t : Cxt X c sc own k C) {x y : Str} {a : A} {p : Pos} (h1 : glB sc x = true) (h2 : dbgB x = true) (h3 : gloB c x a = true) : PE X (.Name x p) (rdE (sOf X c.G) W (evE C (.glo y a))) := by
  obtain ⟨d1, _, _⟩ := dbg_of h2
  obtain ⟨u, v, m1, m2, m3⟩ := glo_of t h3
  exact (pe_glob (gl_of t h1) m1 m2 d1).imp fun σ H Q ⟨r, s, h, a, q⟩ => Po.here a.rel (m3 r H) q

/-! ### operators -/
theorem e_neg {x : Expr} {p : Pos} {G : Pg} {f : Sl → Ho → R A} (ha : PE X x (rdE (sOf X G) W f)) : PE X (.UnaryOp .USub x p) (rdE (sOf X G) W fun s h => (f s h).bind fun a h => give (negA a) h) := by
  refine (pe_un (un_minus (G := G)) ha).imp fun σ H Q ⟨r, s, h, a, q⟩ => ⟨r, s, h, a, (Po.bind a q).mono fun v H1 ⟨r1, a1, h1, A1, st, t, q1⟩ => ?_⟩
  cases e : negA a1 with
  | none =>
    rw [e] at q1
    exact False.elim q1
  | some b =>
    rw [e] at q1
    exact ⟨r1, h1, a1, b, A1.rel, t, e, fun u tu => Po.here A1.rel tu q1⟩
theorem e_not {x : Expr} {p : Pos} {G : Pg} {f : Sl → Ho → R A} (ha : PE X x (rdE (sOf X G) W f)) : PE X (.UnaryOp .Not x p) (rdE (sOf X G) W fun s h => (f s h).bind fun a h => give ((truth a h).map fun b => .bl (!b)) h) := by
  refine (pe_notT ha).imp fun σ H Q ⟨r, s, h, a, q⟩ => ⟨r, s, h, a, (Po.bind a q).mono fun v H1 ⟨r1, a1, h1, A1, st, t, q1⟩ => ?_⟩
  cases e : truth a1 h1 with
  | none =>
    rw [e] at q1
    exact False.elim q1
  | some b =>
    rw [e] at q1
    exact ⟨b, tru_of A1.rel t e, Po.here A1.rel (.bl _) q1⟩
theorem R.assoc {α β γ : Type} (a : R α) (f : α → Ho → R β) (g : β → Ho → R γ) : (a.bind f).bind g = a.bind fun x h => (f x h).bind g := by
  cases a <;> rfl
/-- two parts in a row -/
theorem twoG {γ δ : Type} {rel : List Addr → Hp → γ → δ → Prop} {G : Pg} {f g : Sl → Ho → R A} {m : A → A → Ho → R γ} {σ : L2.St} {H : Hp} {Q : δ → Hp → Prop} {r : List Addr} {s : Sl} {h : Ho} (a : At (sOf X G) r s h σ H)
    (q : Po (sOf X G) rel r H ((f s h).bind fun a h => (g s h).bind fun b h => m a b h) Q fun cls d H' => W cls d σ H') :
    rdE (sOf X G) W f σ H fun v H1 => rdE (sOf X G) W g σ H1 fun u H2 => ∃ r h a b, At (sOf X G) r s h σ H2 ∧ Ra (sOf X G) r H2 a v ∧ Ra (sOf X G) r H2 b u ∧ Po (sOf X G) rel r H2 (m a b h) Q fun cls d H' => W cls d σ H' := by
  refine ⟨r, s, h, a, (Po.bind a q).mono fun v H1 ⟨r1, a1, h1, A1, st1, t1, q1⟩ => ⟨r1, s, h1, A1, (Po.bind A1 q1).mono fun u H2 ⟨r2, b2, h2, A2, st2, t2, q2⟩ => ?_⟩⟩
  exact ⟨r2, h2, a1, b2, A2, t1.step A1.rel st2, t2, q2⟩
/-- on with what is wanted -/
theorem rd_mono {G : Pg} {f : Sl → Ho → R A} {σ : L2.St} {H : Hp} {Q Q' : VK} (h : rdE (sOf X G) W f σ H Q) (k : ∀ v H, Q v H → Q' v H) : rdE (sOf X G) W f σ H Q' := by
  obtain ⟨r, s, h, a, q⟩ := h
  exact ⟨r, s, h, a, q.mono k⟩
theorem e_bin {x y : Expr} {p : Pos} {G : Pg} {f g : Sl → Ho → R A} (op : Operator) (ha : PE X x (rdE (sOf X G) W f)) (hb : PE X y (rdE (sOf X G) W g)) :
    PE X (.BinOp x op y p) (rdE (sOf X G) W fun s h => (f s h).bind fun a h => (g s h).bind fun b h => binA op a b h) := by
  refine (pe_op (op_bin (G := G) op) ha hb).imp fun σ H Q ⟨r, s, h, a, q⟩ => ?_
  exact rd_mono (twoG a q) fun v H1 q1 => rd_mono q1 fun u H2 ⟨r2, h2, b1, b2, A2, t1, t2, q2⟩ => ⟨r2, h2, b1, b2, _, A2.rel, t1, t2, q2⟩
theorem give_bl {G : Pg} {r : List Addr} {H : Hp} {h : Ho} {o : Option Bool} {Q : VK} {E : XK} (R : Rel (sOf X G) r h H) (q : PoV (sOf X G) r H (give (o.map A.bl) h) Q E) : ∃ k, o = some k ∧ Q (.bl k) H := by
  cases o with
  | none => exact False.elim q
  | some k => exact ⟨k, rfl, Po.here R (.bl k) q⟩
theorem mark_of {op : CmpOp} {y : Expr} (h : isSet y = false) : behindInMarks op y = false := by
  cases y <;> first
    | rfl
    | (exact absurd h (by simp [isSet]))
theorem e_cmp (t : Cxt X c sc own k C) {x y : Expr} {p : Pos} {f g : Sl → Ho → R A} (op : CmpOp) (hy : isSet y = false) (ha : PE X x (rdE (sOf X c.G) W f)) (hb : PE X y (rdE (sOf X c.G) W g)) :
    PE X (.Compare x [op] [y] p) (rdE (sOf X c.G) W fun s h => (f s h).bind fun a h => (g s h).bind fun b h => give ((cmpA op a b h).map .bl) h) := by
  refine (pe_cmpR (op_cmp (G := c.G) t.un op) ha hb (mark_of hy)).imp fun σ H Q ⟨r, s, h, a, q⟩ => ?_
  refine rd_mono (twoG a q) fun v H1 q1 => rd_mono q1 fun u H2 ⟨r2, h2, b1, b2, A2, t1, t2, q2⟩ => ?_
  obtain ⟨kk, e, q3⟩ := give_bl A2.rel q2
  exact ⟨r2, h2, b1, b2, kk, A2.rel, t1, t2, e, q3⟩
theorem give_tr {G : Pg} {r : List Addr} {H : Hp} {h : Ho} {o : Option Bool} {Q : Bool → Hp → Prop} {E : XK} (R : Rel (sOf X G) r h H) (q : PoB (sOf X G) r H ((give (o.map A.bl) h).bind fun z h => give (truth z h) h) Q E) : ∃ k, o = some k ∧ Q k H := by
  cases o with
  | none => exact False.elim q
  | some k => exact ⟨k, rfl, q r H k .refl R rfl⟩
theorem t_cmp (t : Cxt X c sc own k C) {x y : Expr} {p : Pos} {f g : Sl → Ho → R A} (op : CmpOp) (hy : isSet y = false) (ha : PE X x (rdE (sOf X c.G) W f)) (hb : PE X y (rdE (sOf X c.G) W g)) :
    PT X (.Compare x [op] [y] p) (rdB (sOf X c.G) W fun s h => ((f s h).bind fun a h => (g s h).bind fun b h => give ((cmpA op a b h).map .bl) h).bind fun z h => give (truth z h) h) := by
  refine (pt_cmpR (op_cmp (G := c.G) t.un op) ha hb (mark_of hy)).imp fun σ H Q ⟨r, s, h, a, q⟩ => ?_
  simp only [R.assoc] at q
  refine rd_mono (twoG a q) fun v H1 q1 => rd_mono q1 fun u H2 ⟨r2, h2, b1, b2, A2, t1, t2, q2⟩ => ?_
  obtain ⟨kk, e, q3⟩ := give_tr A2.rel q2
  exact ⟨r2, h2, b1, b2, kk, A2.rel, t1, t2, e, kk, rfl, q3⟩
/-- a op b op c -/
def chnR (f g d : Sl → Ho → R A) (op op2 : CmpOp) (s : Sl) (h : Ho) : R A := (f s h).bind fun x h => (g s h).bind fun y h => match cmpA op x y h with
  | some true => (d s h).bind fun z h => give ((cmpA op2 y z h).map .bl) h
  | some false => .ok (.bl false) h
  | none => .err
theorem lmark_of {o1 o2 : CmpOp} {y z : Expr} (h : isSet z = false) : lastMarks [o1, o2] [y, z] = false := mark_of h
theorem chn_rd (t : Cxt X c sc own k C) {f g d : Sl → Ho → R A} {op op2 : CmpOp} {σ : L2.St} {H : Hp} {Q : VK} (hh : rdE (sOf X c.G) W (chnR f g d op op2) σ H Q) :
    tChain (rC (sOf X c.G) op) (rC (sOf X c.G) op2) (rdE (sOf X c.G) W f) (rdE (sOf X c.G) W g) (rdE (sOf X c.G) W d) σ H Q := by
  obtain ⟨r, s, h, a, q⟩ := hh
  refine rd_mono (twoG a q) fun v H1 q1 => rd_mono q1 fun u H2 ⟨r2, h2, b1, b2, A2, t1, t2, q2⟩ => ?_
  cases e : cmpA op b1 b2 h2 with
  | none =>
    rw [e] at q2
    exact False.elim q2
  | some kk =>
    rw [e] at q2
    refine ⟨r2, h2, b1, b2, kk, A2.rel, t1, t2, e, kk, rfl, ?_⟩
    cases kk with
    | false =>
      rw [if_neg Bool.false_ne_true]
      exact Po.here A2.rel (.bl false) q2
    | true =>
      rw [if_pos rfl]
      refine ⟨r2, s, h2, A2, (Po.bind A2 q2).mono fun w H3 ⟨r3, b3, h3, A3, st3, t3, q3⟩ => ?_⟩
      obtain ⟨k3, e3, q4⟩ := give_bl A3.rel q3
      exact ⟨r3, h3, b2, b3, k3, A3.rel, t2.step A2.rel st3, t3, e3, q4⟩
theorem e_chn (t : Cxt X c sc own k C) {x y z : Expr} {p : Pos} {f g d : Sl → Ho → R A} (op op2 : CmpOp) (hz : isSet z = false) (ha : PE X x (rdE (sOf X c.G) W f)) (hb : PE X y (rdE (sOf X c.G) W g)) (hd : PE X z (rdE (sOf X c.G) W d)) :
    PE X (.Compare x [op, op2] [y, z] p) (rdE (sOf X c.G) W (chnR f g d op op2)) :=
  (pe_chain (op_cmp (G := c.G) t.un op) (op_cmp (G := c.G) t.un op2) ha hb hd (lmark_of hz)).imp fun σ H Q hh => chn_rd t hh
theorem rdB_bl {G : Pg} {f : Sl → Ho → R A} {σ : L2.St} {H : Hp} {Q : Bool → Hp → Prop} (hf : ∀ s h a h', f s h = .ok a h' → ∃ b, a = .bl b) (hh : rdB (sOf X G) W (fun s h => (f s h).bind fun z h => give (truth z h) h) σ H Q) :
    rdE (sOf X G) W f σ H fun v H' => ∃ kk, v = .bl kk ∧ Q kk H' := by
  obtain ⟨r, s, h, a, q⟩ := hh
  dsimp only at q
  refine ⟨r, s, h, a, ?_⟩
  cases e : f s h with
  | err =>
    rw [e] at q
    exact q
  | exc x h' =>
    rw [e] at q
    exact q
  | ok b h' =>
    rw [e] at q
    obtain ⟨bb, rfl⟩ := hf s h b h' e
    intro r' H' v st R' t
    cases t with
    | bl _ => exact ⟨bb, rfl, q r' H' bb st R' rfl⟩
theorem chn_bl {f g d : Sl → Ho → R A} {op op2 : CmpOp} (s : Sl) (h : Ho) (a : A) (h' : Ho) (e : chnR f g d op op2 s h = .ok a h') : ∃ b, a = .bl b := by
  unfold chnR at e
  cases q1 : f s h with
  | err =>
    rw [q1] at e
    cases e
  | exc x h2 =>
    rw [q1] at e
    cases e
  | ok x h2 =>
    rw [q1] at e
    simp only [R.bind] at e
    cases q2 : g s h2 with
    | err =>
      rw [q2] at e
      cases e
    | exc x h3 =>
      rw [q2] at e
      cases e
    | ok y h3 =>
      rw [q2] at e
      simp only [R.bind] at e
      cases q3 : cmpA op x y h3 with
      | none =>
        rw [q3] at e
        cases e
      | some kk =>
        rw [q3] at e
        cases kk with
        | false =>
          cases e
          exact ⟨_, rfl⟩
        | true =>
          simp only at e
          cases q4 : d s h3 with
          | err =>
            rw [q4] at e
            cases e
          | exc x h4 =>
            rw [q4] at e
            cases e
          | ok z h4 =>
            rw [q4] at e
            simp only [R.bind] at e
            cases q5 : cmpA op2 y z h4 with
            | none =>
              rw [q5] at e
              cases e
            | some k5 =>
              rw [q5] at e
              cases e
              exact ⟨_, rfl⟩
theorem t_chn (t : Cxt X c sc own k C) {x y z : Expr} {p : Pos} {f g d : Sl → Ho → R A} (op op2 : CmpOp) (hz : isSet z = false) (ha : PE X x (rdE (sOf X c.G) W f)) (hb : PE X y (rdE (sOf X c.G) W g)) (hd : PE X z (rdE (sOf X c.G) W d)) :
    PT X (.Compare x [op, op2] [y, z] p) (rdB (sOf X c.G) W fun s h => (chnR f g d op op2 s h).bind fun z h => give (truth z h) h) :=
  (pt_chain (op_cmp (G := c.G) t.un op) (op_cmp (G := c.G) t.un op2) ha hb hd (lmark_of hz)).imp fun σ H Q hh => chn_rd t (rdB_bl chn_bl hh)

/-! ### and, or, if -/
theorem e_and {x y : Expr} {xs : List Expr} {p : Pos} {G : Pg} {f g : Sl → Ho → R A} (ha : PE X x (rdE (sOf X G) W f)) (hb : PE X (.BoolOp .And (y :: xs) p) (rdE (sOf X G) W g)) :
    PE X (.BoolOp .And (x :: y :: xs) p) (rdE (sOf X G) W fun s h => (f s h).bind fun x h => match truth x h with
      | some true => g s h
      | some false => .ok x h
      | none => .err) := by
  refine (pe_andT ha hb).imp fun σ H Q ⟨r, s, h, a, q⟩ => ⟨r, s, h, a, (Po.bind a q).mono fun v H1 ⟨r1, a1, h1, A1, st, t, q1⟩ => ?_⟩
  cases e : truth a1 h1 with
  | none =>
    rw [e] at q1
    exact False.elim q1
  | some b =>
    rw [e] at q1
    refine ⟨b, tru_of A1.rel t e, ?_⟩
    cases b with
    | true =>
      rw [if_pos rfl]
      exact ⟨r1, s, h1, A1, q1⟩
    | false =>
      rw [if_neg Bool.false_ne_true]
      exact Po.here A1.rel t q1
theorem e_or {x y : Expr} {xs : List Expr} {p : Pos} {G : Pg} {f g : Sl → Ho → R A} (ha : PE X x (rdE (sOf X G) W f)) (hb : PE X (.BoolOp .Or (y :: xs) p) (rdE (sOf X G) W g)) :
    PE X (.BoolOp .Or (x :: y :: xs) p) (rdE (sOf X G) W fun s h => (f s h).bind fun x h => match truth x h with
      | some true => .ok x h
      | some false => g s h
      | none => .err) := by
  refine (pe_orT ha hb).imp fun σ H Q ⟨r, s, h, a, q⟩ => ⟨r, s, h, a, (Po.bind a q).mono fun v H1 ⟨r1, a1, h1, A1, st, t, q1⟩ => ?_⟩
  cases e : truth a1 h1 with
  | none =>
    rw [e] at q1
    exact False.elim q1
  | some b =>
    rw [e] at q1
    refine ⟨b, tru_of A1.rel t e, ?_⟩
    cases b with
    | true =>
      rw [if_pos rfl]
      exact Po.here A1.rel t q1
    | false =>
      rw [if_neg Bool.false_ne_true]
      exact ⟨r1, s, h1, A1, q1⟩
/-- a test, then one of two ways -/
theorem tB_then {γ δ : Type} {rel : List Addr → Hp → γ → δ → Prop} {G : Pg} {f : Sl → Ho → R Bool} {m : Bool → Ho → R γ} {σ : L2.St} {H : Hp} {Q : δ → Hp → Prop} {r : List Addr} {s : Sl} {h : Ho} (a : At (sOf X G) r s h σ H)
    (q : Po (sOf X G) rel r H ((f s h).bind m) Q fun cls d H' => W cls d σ H') : rdB (sOf X G) W f σ H fun b H1 => ∃ r h, At (sOf X G) r s h σ H1 ∧ Po (sOf X G) rel r H1 (m b h) Q fun cls d H' => W cls d σ H' :=
  ⟨r, s, h, a, (Po.bind a q).mono fun v H1 ⟨r1, a1, h1, A1, st, t, q1⟩ => ⟨r1, h1, A1, by
    subst t
    exact q1⟩⟩
theorem e_ite {x y z : Expr} {p : Pos} {G : Pg} {tt : Sl → Ho → R Bool} {f g : Sl → Ho → R A} (hc : PT X z (rdB (sOf X G) W tt)) (ha : PE X x (rdE (sOf X G) W f)) (hb : PE X y (rdE (sOf X G) W g)) :
    PE X (.IfExp z x y p) (rdE (sOf X G) W fun s h => (tt s h).bind fun k h => if k then f s h else g s h) := by
  refine (pe_ifExp hc ha hb).imp fun σ H Q ⟨r, s, h, a, q⟩ => ?_
  obtain ⟨r0, s0, h0, a0, q0⟩ := tB_then a q
  refine ⟨r0, s0, h0, a0, q0.mono fun b H1 ⟨r1, h1, A1, q1⟩ => ?_⟩
  cases b with
  | true => exact ⟨r1, _, h1, A1, q1⟩
  | false => exact ⟨r1, _, h1, A1, q1⟩
theorem t_and {x y : Expr} {xs : List Expr} {p : Pos} {G : Pg} {f g : Sl → Ho → R Bool} (ha : PT X x (rdB (sOf X G) W f)) (hb : PW X (.BoolOp .And (y :: xs) p) (rdB (sOf X G) W g)) :
    PW X (.BoolOp .And (x :: y :: xs) p) (rdB (sOf X G) W fun s h => (f s h).bind fun k h => if k then g s h else .ok false h) := by
  refine (pw_and ha hb).imp fun σ H Q ⟨r, s, h, a, q⟩ => ?_
  obtain ⟨r0, s0, h0, a0, q0⟩ := tB_then a q
  refine ⟨r0, s0, h0, a0, q0.mono fun b H1 ⟨r1, h1, A1, q1⟩ => ?_⟩
  cases b with
  | true => exact ⟨r1, _, h1, A1, q1⟩
  | false => exact q1 r1 H1 false .refl A1.rel rfl
theorem t_or {x y : Expr} {xs : List Expr} {p : Pos} {G : Pg} {f g : Sl → Ho → R Bool} (ha : PT X x (rdB (sOf X G) W f)) (hb : PW X (.BoolOp .Or (y :: xs) p) (rdB (sOf X G) W g)) :
    PW X (.BoolOp .Or (x :: y :: xs) p) (rdB (sOf X G) W fun s h => (f s h).bind fun k h => if k then .ok true h else g s h) := by
  refine (pw_or ha hb).imp fun σ H Q ⟨r, s, h, a, q⟩ => ?_
  obtain ⟨r0, s0, h0, a0, q0⟩ := tB_then a q
  refine ⟨r0, s0, h0, a0, q0.mono fun b H1 ⟨r1, h1, A1, q1⟩ => ?_⟩
  cases b with
  | true => exact q1 r1 H1 true .refl A1.rel rfl
  | false => exact ⟨r1, _, h1, A1, q1⟩
theorem t_not {x : Expr} {p : Pos} {G : Pg} {f : Sl → Ho → R Bool} (ha : PT X x (rdB (sOf X G) W f)) : PT X (.UnaryOp .Not x p) (rdB (sOf X G) W fun s h => (f s h).bind fun k h => .ok (!k) h) := by
  refine (pt_not ha).imp fun σ H Q ⟨r, s, h, a, q⟩ => ?_
  obtain ⟨r0, s0, h0, a0, q0⟩ := tB_then a q
  exact ⟨r0, s0, h0, a0, q0.mono fun b H1 ⟨r1, h1, A1, q1⟩ => q1 r1 H1 _ .refl A1.rel rfl⟩
/-- any other expression as a test -/
theorem t_val {x : Expr} {G : Pg} {f : Sl → Ho → R A} (ha : PE X x (rdE (sOf X G) W f)) (he : ∀ whole, isTrue x X.env whole = (do let v ← whole; standAt x.pos; holding [v] (truthy v))) :
    PT X x (rdB (sOf X G) W fun s h => (f s h).bind fun z h => give (truth z h) h) := by
  refine (pt_truth ha he).imp fun σ H Q ⟨r, s, h, a, q⟩ => ⟨r, s, h, a, (Po.bind a q).mono fun v H1 ⟨r1, a1, h1, A1, st, t, q1⟩ => ?_⟩
  cases e : truth a1 h1 with
  | none =>
    rw [e] at q1
    exact False.elim q1
  | some b =>
    rw [e] at q1
    exact ⟨b, tru_of A1.rel t e, q1 r1 H1 b .refl A1.rel rfl⟩
end
end Ev

/-! text Fw9 -/
set_option Elab.async false
set_option linter.all false
set_option maxRecDepth 100000
set_option maxHeartbeats 4000000
/-! Ev: arguments, displays, items, slices, calls. -/
namespace Ev
open PySem PySem.Spec PyProof.Rows L2
section
variable {X : Cx} {c : Ck} {sc : Scope} {own : Str → Bool} {k : Nat} {C : Nat → List A → Ho → R A} {W : WX}
def noStars (xs : List Expr) : Bool := xs.all fun x => !isStar x
theorem se_cons {e : Expr} {es : List Expr} {env : Env} (h : isStar e = false) : starEach (e :: es) env = (false, eval e env) :: starEach es env := by
  cases e <;> first
    | rfl
    | (cases h)
theorem se_any {pos : Pos} {env : Env} : ∀ {es : List Expr}, noStars es = true → (backTo pos (starEach es env)).any (·.1) = false
  | [], _ => rfl
  | e :: es, h => by
    obtain ⟨h1, h2⟩ := Bool.and_eq_true_iff.mp (show (!isStar e && noStars es) = true from h)
    rw [se_cons (by simpa using h1)]
    show (false || (backTo pos (starEach es env)).any (·.1)) = false
    rw [se_any h2]
    rfl
theorem se_all {pos : Pos} {env : Env} : ∀ {es : List Expr}, noStars es = true → (backTo pos (starEach es env)).all (fun x => !x.1) = true
  | [], _ => rfl
  | e :: es, h => by
    obtain ⟨h1, h2⟩ := Bool.and_eq_true_iff.mp (show (!isStar e && noStars es) = true from h)
    rw [se_cons (by simpa using h1)]
    show (true && (backTo pos (starEach es env)).all (fun x => !x.1)) = true
    rw [se_all h2]
    rfl
theorem as_nil {G : Pg} : PA X [] (rdA (sOf X G) W fun _ h => .ok [] h) := pa_nil.imp fun σ H Q ⟨r, s, h, a, q⟩ => Po.here a.rel .nil q
theorem as_cons {x : Expr} {xs : List Expr} {G : Pg} {f : Sl → Ho → R A} {g : Sl → Ho → R (List A)} (ns : isStar x = false) (ha : PE X x (rdE (sOf X G) W f)) (hb : PA X xs (rdA (sOf X G) W g)) :
    PA X (x :: xs) (rdA (sOf X G) W fun s h => (f s h).bind fun a h => (g s h).bind fun as h => .ok (a :: as) h) := by
  refine (pa_cons ha hb (se_cons ns)).imp fun σ H Q ⟨r, s, h, a, q⟩ => ⟨r, s, h, a, (Po.bind a q).mono fun v H1 ⟨r1, a1, h1, A1, st1, t1, q1⟩ => ⟨r1, s, h1, A1, (Po.bind A1 q1).mono fun vs H2 ⟨r2, b2, h2, A2, st2, t2, q2⟩ => ?_⟩⟩
  exact Po.here A2.rel (Ras.cons (t1.step A1.rel st2) t2) q2
theorem small_line {n : Nat} (h : n ≤ 1000) : n ≤ sizeLine := Nat.le_trans h (by decide)
/-- the items' count -/
theorem rdA_len {G : Pg} {g : Sl → Ho → R (List A)} {n : Nat} {σ : L2.St} {H : Hp} {Q : List V → Hp → Prop} (hl : ∀ s h as h', g s h = .ok as h' → as.length = n) {r : List Addr} {s : Sl} {h : Ho} (a : At (sOf X G) r s h σ H)
    (q : PoL (sOf X G) r H (g s h) Q fun cls d H' => W cls d σ H') : PoL (sOf X G) r H (g s h) (fun vs H' => vs.length = n ∧ Q vs H') fun cls d H' => W cls d σ H' := by
  cases e : g s h with
  | err =>
    rw [e] at q
    exact q
  | exc x h' =>
    rw [e] at q
    exact q
  | ok as h' =>
    rw [e] at q
    exact fun r' H' v st R' t => ⟨by rw [← t.length]; exact hl s h as h' e, q r' H' v st R' t⟩
theorem e_tup {xs : List Expr} {y : Nat} {p : Pos} {G : Pg} {g : Sl → Ho → R (List A)} {n : Nat} (hn : n ≤ 1000) (hl : ∀ s h as h', g s h = .ok as h' → as.length = n) (ha : PA X xs (rdA (sOf X G) W g)) :
    PE X (.Tuple xs y p) (rdE (sOf X G) W fun s h => (g s h).bind fun as h => .ok (.tup as) h) := by
  refine (pe_tup ha).imp fun σ H Q ⟨r, s, h, a, q⟩ => ⟨r, s, h, a, (rdA_len hl a (Po.bind a q)).mono fun vs H1 ⟨hv, r1, as, h1, A1, st, t, q1⟩ => ⟨small_line (by omega), fun p hp => ?_⟩⟩
  obtain ⟨R', st'⟩ := Step.other (u := HO.tup vs) A1.rel hp
  exact q1 _ _ _ st' R' (.tup (SqT.of upd_same) (t.step A1.rel st'))
theorem e_lst {xs : List Expr} {p : Pos} {G : Pg} {g : Sl → Ho → R (List A)} {n : Nat} (hn : n ≤ 1000) (hl : ∀ s h as h', g s h = .ok as h' → as.length = n) (ha : PA X xs (rdA (sOf X G) W g)) :
    PE X (.List xs p) (rdE (sOf X G) W fun s h => (g s h).bind fun as h => newL as h) := by
  refine (pe_lst ha).imp fun σ H Q ⟨r, s, h, a, q⟩ => ⟨r, s, h, a, (rdA_len hl a (Po.bind a q)).mono fun vs H1 ⟨hv, r1, as, h1, A1, st, t, q1⟩ => ⟨small_line (by omega), ?_⟩⟩
  exact Po.list A1.rel t q1
theorem evEs_len : ∀ (es : List E) (s : Sl) (h : Ho) (as : List A) (h' : Ho), evEs C es s h = .ok as h' → as.length = es.length
  | [], s, h, as, h', e => by
    unfold evEs at e
    cases e
    rfl
  | x :: es, s, h, as, h', e => by
    unfold evEs at e
    cases q1 : evE C x s h with
    | err =>
      rw [q1] at e
      cases e
    | exc y h2 =>
      rw [q1] at e
      cases e
    | ok y h2 =>
      rw [q1] at e
      simp only [R.bind] at e
      cases q2 : evEs C es s h2 with
      | err =>
        rw [q2] at e
        cases e
      | exc z h3 =>
        rw [q2] at e
        cases e
      | ok ys h3 =>
        rw [q2] at e
        simp only [R.bind] at e
        cases e
        rw [List.length_cons, List.length_cons, evEs_len es s h2 ys _ q2]
/-! ### items, slices -/
theorem e_sub {x y : Expr} {p : Pos} {G : Pg} {f g : Sl → Ho → R A} (hy : isSlice y = false) (ha : PE X x (rdE (sOf X G) W f)) (hb : PE X y (rdE (sOf X G) W g)) :
    PE X (.Subscript x y p) (rdE (sOf X G) W fun s h => (f s h).bind fun a h => (g s h).bind fun b h => give (subA a b h) h) := by
  refine (pe_ix (ix_all (G := G)) ha hb ?_).imp fun σ H Q ⟨r, s, h, a, q⟩ => ?_
  · intro o i
    cases y <;> first
      | rfl
      | (cases hy)
  · refine rd_mono (twoG a q) fun v H1 q1 => rd_mono q1 fun u H2 ⟨r2, h2, b1, b2, A2, t1, t2, q2⟩ => ?_
    cases e : subA b1 b2 h2 with
    | none =>
      rw [e] at q2
      exact False.elim q2
    | some d =>
      rw [e] at q2
      exact ⟨r2, h2, b1, b2, d, A2.rel, t1, t2, e, fun w tw => Po.here A2.rel tw q2⟩
/-- a part of a slice as it is read -/
def asPart (v : V) (o : Option Int) : Prop := (v = .non ∧ o = none) ∨ ∃ i, v = .int i ∧ o = some i
def rdO (t : TE) : TO := fun σ H Q => t σ H fun v H1 => ∃ o, asPart v o ∧ Q o H1
theorem _root_.L2.PO.imp {x : Option Expr} {t t' : TO} (h : PO X x t) (q : ∀ σ H Q, t' σ H Q → t σ H Q) : PO X x t' := ⟨fun p s σ H Q I w => h.run p s σ H Q I (q _ _ _ w)⟩
theorem o_none {G : Pg} : PO X none (rdO (rdE (sOf X G) W fun s h => .ok .non h)) := po_none.imp fun σ H Q ⟨r, s, h, a, q⟩ => by
  obtain ⟨o, ⟨_, e⟩ | ⟨i, e, _⟩, q1⟩ := Po.here a.rel Ra.non q
  · subst e
    exact q1
  · cases e
theorem o_some {x : Expr} {t : TE} (hx : PE X x t) : PO X (some x) (rdO t) := by
  refine ⟨fun pins s0 σ H Q I w => ?_⟩
  rw [evalPart_some]
  refine thn (hx.run pins s0 σ H _ I w) fun u s1 ⟨v, H1, I1, r1, o, ho, q1⟩ => ?_
  rcases ho with ⟨rfl, rfl⟩ | ⟨i, rfl, rfl⟩
  · cases r1
    exact ⟨none, H1, I1, .none, q1⟩
  · obtain ⟨t, rfl⟩ := r1
    exact ⟨some i, H1, I1, .int i t, q1⟩
theorem part_of {S : Ws} {r : List Addr} {H : Hp} {a : A} {v : V} {o : Option Int} (t : Ra S r H a v) (e : part a = some o) : asPart v o := by
  cases t <;> first
    | (cases e
       exact .inl ⟨rfl, rfl⟩)
    | (cases e
       exact .inr ⟨_, rfl, rfl⟩)
    | (cases e)
theorem e_slc {x : Expr} {lo hi : Option Expr} {p p2 : Pos} {G : Pg} {f g d : Sl → Ho → R A} (ha : PE X x (rdE (sOf X G) W f)) (hl : PO X lo (rdO (rdE (sOf X G) W g))) (hu : PO X hi (rdO (rdE (sOf X G) W d))) :
    PE X (.Subscript x (.Slice lo hi none p2) p) (rdE (sOf X G) W fun s h => (f s h).bind fun x h => (g s h).bind fun l h => (give (part l) h).bind fun l h => (d s h).bind fun u h => (give (part u) h).bind fun u h => slcA x l u h) := by
  refine (pe_slice (sl_all (G := G)) ha hl hu).imp fun σ H Q ⟨r, s, h, a, q⟩ => ⟨r, s, h, a, (Po.bind a q).mono fun v H1 ⟨r1, a1, h1, A1, st1, t1, q1⟩ => ⟨r1, s, h1, A1, (Po.bind A1 q1).mono fun v2 H2 ⟨r2, a2, h2, A2, st2, t2, q2⟩ => ?_⟩⟩
  cases e : part a2 with
  | none =>
    rw [e] at q2
    exact False.elim q2
  | some o2 =>
    rw [e] at q2
    have q2 : PoV (sOf X G) r2 H2 ((d s h2).bind fun u h => (give (part u) h).bind fun u h => slcA a1 o2 u h) Q fun cls d H' => W cls d σ H' := q2
    refine ⟨o2, part_of t2 e, r2, s, h2, A2, (Po.bind A2 q2).mono fun v3 H3 ⟨r3, a3, h3, A3, st3, t3, q3⟩ => ?_⟩
    cases e3 : part a3 with
    | none =>
      rw [e3] at q3
      exact False.elim q3
    | some o3 =>
      rw [e3] at q3
      exact ⟨o3, part_of t3 e3, r3, h3, a1, _, A3.rel, (t1.step A1.rel st2).step A2.rel st3, q3⟩
theorem e_rev {x : Expr} {j : Nat} {p1 p2 p3 p : Pos} {G : Pg} {f : Sl → Ho → R A} (ha : PE X x (rdE (sOf X G) W f)) :
    PE X (.Subscript x (.Slice none none (some (.UnaryOp .USub (.Constant (.int 1) j p1) p2)) p3) p) (rdE (sOf X G) W fun s h => (f s h).bind fun x h => match x with
    | .ref n => match seqOf h n with
      | some xs => newL xs.reverse h
      | none => .err
    | _ => .err) := by
  refine (pe_revL ha).imp fun σ H Q ⟨r, s, h, a, q⟩ => ⟨r, s, h, a, (Po.bind a q).mono fun v H1 ⟨r1, a1, h1, A1, st1, t1, q1⟩ => ?_⟩
  cases a1 with
  | ref n =>
    obtain ⟨xs, e, q2⟩ : ∃ xs, seqOf h1 n = some xs ∧ PoV (sOf X G) r1 H1 (newL xs.reverse h1) Q fun cls d H' => W cls d σ H' := by
      cases e : seqOf h1 n with
      | none =>
        simp only [e] at q1
        exact False.elim q1
      | some xs =>
        simp only [e] at q1
        exact ⟨xs, rfl, q1⟩
    obtain ⟨p, vs, rfl, sq, t2⟩ := ref_seq A1.rel e t1
    exact ⟨p, vs, rfl, sq, Po.list A1.rel t2.rev q2⟩
  | _ => exact False.elim q1

/-! ### calls -/
theorem key_of (t : Cxt X c sc own k C) {f : Nat} {d : Df} (hd : c.G.defs[f]? = some d) : ∃ fa, X.mg d.name = some (.ref fa) ∧ PySem.W.keepIn X.K (.ref fa) = true := by
  obtain ⟨fa, fd, e, kp, _⟩ := t.wd.fns f d hd
  exact ⟨fa, e, kp⟩
/-- the arguments, then the callee -/
theorem args_then (t : Cxt X c sc own k C) (tk : Takes X W) {f : Nat} {d : Df} (hd : c.G.defs[f]? = some d) {args : List Expr} {F : Sl → Ho → R (List A)} (h0 : args = [] → ∀ s h, F s h = .ok [] h) (ns : noStars args = true) (ha : PA X args (rdA (sOf X c.G) W F))
    {fa : Addr} (hf : X.mg d.name = some (.ref fa)) {pos : Pos} {pins : List (Addr × Obj)} {s : Shared} {σ : L2.St} {H : Hp} {Q : VK} (I : Inv X pins σ H s) {r : List Addr} {s0 : Sl} {h : Ho} (a : At (sOf X c.G) r s0 h σ H)
    (q : PoV (sOf X c.G) r H ((F s0 h).bind fun xs h => C f xs h) Q fun cls d H' => W cls d σ H') : wpAny (model X.prog X.w) X.A (callWith pos (.ref fa) [] (backTo pos (starEach args X.env)) []) (EP X pins σ Q) X.xe s := by
  obtain ⟨fa', e1, kp⟩ := key_of t hd
  rw [hf] at e1
  cases e1
  cases args with
  | nil =>
    rw [h0 rfl] at q
    exact PySem.W.callWith_K0 I.kIn kp (run_call t tk hd (us := []) I .nil a.rel .nil q hf)
  | cons e es =>
    obtain ⟨h1, h2⟩ := Bool.and_eq_true_iff.mp (show (!isStar e && noStars es) = true from ns)
    refine PySem.W.callWith_K (h₀ := X.base) I.ok.mod.kin kp (thn (ha.run pos pins s σ H _ I ⟨r, s0, h, a, Po.bind a q⟩) fun us s1 ⟨vs, H1, I1, rv, r1, as, h1, A1, st, t1, q1⟩ => ⟨I1.kIn, ?_⟩) (se_cons (by simpa using h1)) (se_any h2)
    exact run_call t tk hd I1 rv A1.rel t1 q1 hf
theorem e_call (t : Cxt X c sc own k C) (tk : Takes X W) {f : Nat} {d : Df} (hd : c.G.defs[f]? = some d) {x : Str} (hx : d.name = x) (h1 : glB sc x = true) (h2 : dbgB x = true) {args : List Expr} {F : Sl → Ho → R (List A)} (h0 : args = [] → ∀ s h, F s h = .ok [] h)
    (ns : noStars args = true) (ha : PA X args (rdA (sOf X c.G) W F)) {p pos : Pos} : PE X (.Call (.Name x p) args [] pos) (rdE (sOf X c.G) W fun s h => (F s h).bind fun xs h => C f xs h) := by
  refine ⟨fun pins s σ H Q I ⟨r, s0, h, a, q⟩ => ?_⟩
  obtain ⟨d1, _, _⟩ := dbg_of h2
  obtain ⟨fa, e1, kp⟩ := key_of t hd
  subst hx
  exact wpAny_Call_Name_kw (ld_glob I (gl_of t h1) e1 (args_then t tk hd h0 ns ha e1 I a q) d1)
theorem e_cval (t : Cxt X c sc own k C) (tk : Takes X W) {x y : Expr} {p : Pos} {f : Sl → Ho → R A} (hf : PE X (.Subscript x y p) (rdE (sOf X c.G) W f)) {args : List Expr} {F : Sl → Ho → R (List A)} (h0 : args = [] → ∀ s h, F s h = .ok [] h)
    (ns : noStars args = true) (ha : PA X args (rdA (sOf X c.G) W F)) {pos : Pos} : PE X (.Call (.Subscript x y p) args [] pos) (rdE (sOf X c.G) W fun s h => (f s h).bind fun x h => match x with
    | .fn i => (F s h).bind fun xs h => C i xs h
    | _ => .err) := by
  refine ⟨fun pins s σ H Q I ⟨r, s0, h, a, q⟩ => ?_⟩
  refine PyProof.Rows.Call_ (thn (hf.run pins s σ H _ I ⟨r, s0, h, a, Po.bind a q⟩) fun v s1 ⟨u, H1, I1, rv, r1, a1, h1, A1, st, t1, q1⟩ => ?_)
  cases t1 with
  | fn e1 e2 =>
    cases rv
    exact args_then t tk e1 h0 ns ha e2 I1 A1 q1
  | _ => exact False.elim q1
/-! ### built-ins -/
theorem gl_free (t : Cxt X c sc own k C) {x : String} (h : (["len", "abs", "int", "bool", "max", "min", "sum", "any", "all", "tuple", "list", "isinstance", "repr", "range", "zip", "enumerate", "str"] : List String).contains x = true) : X.mg (x : Str) = none := t.wd.free x h
theorem e_blt (t : Cxt X c sc own k C) {f : Bl} (hf : ∀ T, f ≠ .isi T) (h1 : glB sc (f.name : Str) = true) {args : List Expr} {F : Sl → Ho → R (List A)} (hne : args ≠ []) (ns : noStars args = true) (ha : PA X args (rdA (sOf X c.G) W F)) {p pos : Pos} :
    PE X (.Call (.Name (f.name : Str) p) args [] pos) (rdE (sOf X c.G) W fun s h => (F s h).bind fun xs h => bltA f xs h) := by
  cases args with
  | nil => exact absurd rfl hne
  | cons e es =>
    obtain ⟨n1, n2⟩ := Bool.and_eq_true_iff.mp (show (!isStar e && noStars es) = true from ns)
    have n1 : isStar e = false := by simpa using n1
    have B := bl_call (X := X) (G := c.G) t.calm t.gd t.un f hf
    have fin : PE X (.Call (.Name (f.name : Str) p) (e :: es) [] pos) (tCB (rBl (sOf X c.G) f) (rdA (sOf X c.G) W F)) := by
      have v := Bl.boot f
      cases f with
      | isi T => exact absurd rfl (hf T)
      | int => exact pe_callTy B (gl_of t h1) (gl_free t (by decide)) v ha (by decide) (by decide) (se_cons n1) (se_any n2)
      | bool => exact pe_callTy B (gl_of t h1) (gl_free t (by decide)) v ha (by decide) (by decide) (se_cons n1) (se_any n2)
      | tuple => exact pe_callTy B (gl_of t h1) (gl_free t (by decide)) v ha (by decide) (by decide) (se_cons n1) (se_any n2)
      | list => exact pe_callTy B (gl_of t h1) (gl_free t (by decide)) v ha (by decide) (by decide) (se_cons n1) (se_any n2)
      | _ => exact pe_callB B (gl_of t h1) (gl_free t (by decide)) v ha (by decide) (by decide) (se_cons n1) (se_any n2)
    exact fin.imp fun σ H Q ⟨r, s, h, a, q⟩ => ⟨r, s, h, a, (Po.bind a q).mono fun vs H1 ⟨r1, as, h1, A1, st, t1, q1⟩ => ⟨r1, h1, as, _, A1.rel, t1, q1⟩⟩
theorem five_of {T : String} (h : isiT T = true) : T = "int" ∨ T = "bool" ∨ T = "str" ∨ T = "tuple" ∨ T = "list" := by
  unfold isiT at h
  simp only [Bool.or_eq_true, beq_iff_eq] at h
  rcases h with (((h | h) | h) | h) | h
  · exact .inl h
  · exact .inr (.inl h)
  · exact .inr (.inr (.inl h))
  · exact .inr (.inr (.inr (.inl h)))
  · exact .inr (.inr (.inr (.inr h)))
theorem pe_tyN (t : Cxt X c sc own k C) {T : String} (hT : isiT T = true) (h1 : glB sc (T : Str) = true) {p : Pos} : PE X (.Name (T : Str) p) (tC (.ty T)) := by
  have go : bootBuiltins (T : Str) = some (.type T) → (T : Str) ≠ "__name__" → (((T : Str) == ("__debug__" : Str)) = false) → X.mg (T : Str) = none → PE X (.Name (T : Str) p) (tC (.ty T)) := fun hv hn hd hm =>
    ⟨fun _ _ _ H _ I h => ld_blt I (gl_of t h1) hm hv ⟨.ty T, H, I, rfl, h⟩ hn hd⟩
  rcases five_of hT with rfl | rfl | rfl | rfl | rfl <;> exact go (by decide +kernel) (by decide) (by decide) (gl_free t (by decide))
theorem e_isi (t : Cxt X c sc own k C) {T : String} (hT : isiT T = true) (h0 : glB sc ("isinstance" : Str) = true) (h1 : glB sc (T : Str) = true) {y : Expr} (ny : isStar y = false) {f : Sl → Ho → R A} (ha : PE X y (rdE (sOf X c.G) W f)) {p p2 pos : Pos} :
    PE X (.Call (.Name ("isinstance" : Str) p) [y, .Name (T : Str) p2] [] pos) (rdE (sOf X c.G) W fun s h => (f s h).bind fun a h => bltA (.isi T) [a] h) := by
  have A := pa_cons ha (pa_cons (pe_tyN t hT h1 (p := p2)) pa_nil) (se_cons ny)
  refine (pe_callB (call_isT (X := X) (G := c.G) hT) (gl_of t h0) (gl_free t (by decide)) (Bl.boot (.isi T)) A (by decide) (by decide) (se_cons ny) rfl).imp fun σ H Q ⟨r, s, h, a, q⟩ => ?_
  exact ⟨r, s, h, a, (Po.bind a q).mono fun v H1 ⟨r1, a1, h1, A1, st, t1, q1⟩ => ⟨r1, h1, a1, v, _, rfl, A1.rel, t1, q1⟩⟩
/-! ### a list's methods -/
theorem e_mth {m : Mt} {x : Expr} {args : List Expr} {G : Pg} {f : Sl → Ho → R A} {F : Sl → Ho → R (List A)} (nc : isCall x = false) (h0 : args = [] → ∀ s h, F s h = .ok [] h) (ns : noStars args = true) (few : args.length ≤ 20) (ho : PE X x (rdE (sOf X G) W f)) (ha : PA X args (rdA (sOf X G) W F))
    {ap cp : Pos} (hl : (ap.endLine == cp.line) = true) : PE X (.Call (.Attribute x (m.name : Str) ap) args [] cp) (rdE (sOf X G) W fun s h => (f s h).bind fun x h => match x with
    | .ref n => (F s h).bind fun xs h => mthA m (.ref n) xs h
    | _ => .err) := by
  have hb : attributeBase x (m.name : Str) X.env (eval x X.env) = eval x X.env := by
    cases x <;> first
      | rfl
      | (cases nc)
  cases args with
  | nil =>
    refine (pe_bm0 PySem.F.plainAttrs_list (mt_slot m) (mt_type m) (mt_call (X := X) (G := G) m) ho hb hl).imp fun σ H Q ⟨r, s, h, a, q⟩ => ⟨r, s, h, a, (Po.bind a q).mono fun v H1 ⟨r1, a1, h1, A1, st, t1, q1⟩ => ?_⟩
    cases t1 with
    | ref e =>
      obtain ⟨vs, e2⟩ := A1.rel.lstOf (List.mem_of_getElem? e)
      simp only [h0 rfl] at q1
      exact ⟨.inl ⟨rfl, vs, SqL.of e2⟩, r1, h1, _, [], _, A1.rel, .ref e, .nil, q1⟩
    | _ => exact False.elim q1
  | cons e es =>
    obtain ⟨n1, n2⟩ := Bool.and_eq_true_iff.mp (show (!isStar e && noStars es) = true from ns)
    have n1 : isStar e = false := by simpa using n1
    have hfew : ((backTo cp (starEach (e :: es) X.env)).all (fun x => !x.1) && (backToKw cp (keywordEach [] X.env)).all (fun x => x.1.isSome) && decide ((e :: es).length + ([] : List Keyword).length + (if ([] : List Keyword).isEmpty then 0 else 1) < 30)) = true := by
      rw [se_all ns]
      have : (e :: es).length + ([] : List Keyword).length + (if ([] : List Keyword).isEmpty then 0 else 1) < 30 := by
        show (e :: es).length + 0 + 0 < 30
        omega
      rw [decide_eq_true this]
      rfl
    refine (pe_bm PySem.F.plainAttrs_list (mt_slot m) (mt_type m) (mt_call (X := X) (G := G) m) ho ha hb hfew hl (se_cons n1) (se_any n2)).imp fun σ H Q ⟨r, s, h, a, q⟩ => ⟨r, s, h, a, (Po.bind a q).mono fun v H1 ⟨r1, a1, h1, A1, st, t1, q1⟩ => ?_⟩
    cases t1 with
    | ref e =>
      obtain ⟨vs, e2⟩ := A1.rel.lstOf (List.mem_of_getElem? e)
      exact ⟨.inl ⟨rfl, vs, SqL.of e2⟩, r1, s, h1, A1, (Po.bind A1 q1).mono fun us H2 ⟨r2, as, h2, A2, st2, t2, q2⟩ => ⟨r2, h2, _, as, _, A2.rel, (Ra.ref e).step A1.rel st2, t2, q2⟩⟩
    | _ => exact False.elim q1
end
end Ev

/-! text Fw10 -/
set_option Elab.async false
set_option linter.all false
set_option maxRecDepth 100000
set_option maxHeartbeats 4000000
/-! Ev: targets, what is walked, comprehensions. -/
namespace Ev
open PySem PySem.Spec PyProof.Rows L2
mutual
theorem A.beq_is : ∀ (a b : A), A.beq a b = true → a = b
  | .non, .non, _ => rfl
  | .bl a, .bl b, h => congrArg A.bl (beq_iff_eq.mp h)
  | .int a, .int b, h => congrArg A.int (beq_iff_eq.mp h)
  | .str a, .str b, h => congrArg A.str (beq_iff_eq.mp h)
  | .tup a, .tup b, h => congrArg A.tup (A.beqs_is a b h)
  | .lis a, .lis b, h => congrArg A.lis (A.beqs_is a b h)
  | .ref a, .ref b, h => congrArg A.ref (beq_iff_eq.mp h)
  | .fn a, .fn b, h => congrArg A.fn (beq_iff_eq.mp h)
theorem A.beqs_is : ∀ (a b : List A), A.beqs a b = true → a = b
  | [], [], _ => rfl
  | x :: a, y :: b, h => by
    obtain ⟨h1, h2⟩ := Bool.and_eq_true_iff.mp (show (A.beq x y && A.beqs a b) = true from h)
    rw [A.beq_is x y h1, A.beqs_is a b h2]
end
theorem still_at {src : List (Nat × List A)} {h : Ho} {n : Nat} {xs : List A} (m : (n, xs) ∈ src) (e : still src h = true) : seqOf h n = some xs := by
  have q := List.all_eq_true.mp e _ m
  simp only at q
  split at q
  · rename_i ys e1
    rw [e1, A.beqs_is _ _ q]
  · cases q

/-! ### targets -/
section
variable {X : Cx} {c : Ck} {sc : Scope} {own : Str → Bool} {k : Nat} {C : Nat → List A → Ho → R A} {W : WX}
/-- the slots that a store may touch -/
def Keeps (own : List Nat) (σ σ' : L2.St) : Prop := ∀ i, i ∉ own → σ'[i]? = σ[i]?
def rdG (S : Ws) (g : Tg) : TG := fun v σ H Q => ∃ r s h a s', At S r s h σ H ∧ Ra S r H a v ∧ Tg.put g a s = some s' ∧ ∀ σ', At S r s' h σ' H → σ'.length = σ.length → (∀ own, Tg.within own g = true → Keeps own σ σ') → Q σ' H
def rdGs (S : Ws) (gs : List Tg) : TGs := fun vs σ H Q => ∃ r s h as s', At S r s h σ H ∧ Ras S r H as vs ∧ Tg.puts gs as s = some s' ∧ ∀ σ', At S r s' h σ' H → σ'.length = σ.length → (∀ own, Tg.withins own gs = true → Keeps own σ σ') → Q σ' H
theorem _root_.L2.PG.imp {x : Expr} {t t' : TG} (h : PG X x t) (q : ∀ v σ H Q, t' v σ H Q → t v σ H Q) : PG X x t' := ⟨fun p s σ H v u Q I r w => h.run p s σ H v u Q I r (q _ _ _ _ w)⟩
theorem _root_.L2.PGs.imp {x : List Expr} {t t' : TGs} (h : PGs X x t) (q : ∀ v σ H Q, t' v σ H Q → t v σ H Q) : PGs X x t' := ⟨fun p s σ H v u Q I r w => h.run p s σ H v u Q I r (q _ _ _ _ w)⟩
theorem loc_of (t : Cxt X c sc own k C) {x : Str} (h : locB sc x = true) : L2.Loc X.env.scope x := by
  rw [t.sc]
  unfold locB at h
  unfold L2.Loc
  split at h
  · exact .inl ‹_›
  · exact .inr ‹_›
  · cases h
theorem ae_cons {e : Expr} {es : List Expr} {env : Env} (h : isStar e = false) : assignEach (e :: es) env = (false, assign e env) :: assignEach es env := by
  cases e <;> first
    | rfl
    | (cases h)
theorem ae_len {env : Env} : ∀ {es : List Expr}, noStars es = true → (assignEach es env).length = es.length
  | [], _ => rfl
  | e :: es, h => by
    obtain ⟨h1, h2⟩ := Bool.and_eq_true_iff.mp (show (!isStar e && noStars es) = true from h)
    rw [ae_cons (by simpa using h1), List.length_cons, List.length_cons, ae_len h2]
theorem ae_find {env : Env} : ∀ {es : List Expr}, noStars es = true → (assignEach es env).findIdx? (·.1) = none
  | [], _ => rfl
  | e :: es, h => by
    obtain ⟨h1, h2⟩ := Bool.and_eq_true_iff.mp (show (!isStar e && noStars es) = true from h)
    rw [ae_cons (by simpa using h1), List.findIdx?_cons, ae_find h2]
    rfl
theorem ckGs_ns {c : Ck} {sc : Scope} {own : Str → Bool} : ∀ {gs : List Tg} {ts : List Expr}, ckGs c sc own gs ts = true → noStars ts = true ∧ gs.length = ts.length
  | [], [], _ => ⟨rfl, rfl⟩
  | g :: gs, t :: ts, h => by
    obtain ⟨h1, h2⟩ := Bool.and_eq_true_iff.mp (show (!isStar t && ckG c sc own g t && ckGs c sc own gs ts) = true from h)
    obtain ⟨h1, _⟩ := Bool.and_eq_true_iff.mp h1
    obtain ⟨i1, i2⟩ := ckGs_ns h2
    exact ⟨Bool.and_eq_true_iff.mpr ⟨h1, i1⟩, by rw [List.length_cons, List.length_cons, i2]⟩
theorem puts_len : ∀ {gs : List Tg} {as : List A} {s s' : Sl}, Tg.puts gs as s = some s' → gs.length = as.length
  | [], [], _, _, _ => rfl
  | [], _ :: _, _, _, e => by
    unfold Tg.puts at e
    cases e
  | _ :: _, [], _, _, e => by
    unfold Tg.puts at e
    cases e
  | g :: gs, a :: as, s, s', e => by
    unfold Tg.puts at e
    split at e
    · rw [List.length_cons, List.length_cons, puts_len e]
    · cases e
mutual
theorem okG (t : Cxt X c sc own k C) : ∀ (g : Tg) (x : Expr), ckG c sc own g x = true → PG X x (rdG (sOf X c.G) g)
  | .nm i, e, h => by
    cases e with
    | Name x p =>
      obtain ⟨h1, h3⟩ := Bool.and_eq_true_iff.mp (show (decide (c.N[i]? = some x) && locB sc x && (own x || isLocB sc x)) = true from h)
      obtain ⟨h1, h2⟩ := Bool.and_eq_true_iff.mp h1
      have hf : X.fn x = true ∨ X.env.scope.names.lookup x = some .local := by
        rcases Bool.or_eq_true_iff.mp h3 with q | q
        · exact .inl (t.own x q)
        · rw [t.sc]
          unfold isLocB at q
          split at q
          · exact .inr ‹_›
          · cases q
      refine (pg_name (by rw [t.N]; exact t.nd) (by rw [t.N]; exact of_decide_eq_true h1) (loc_of t h2) hf).imp fun v σ H Q ⟨r, s, h, a, s', A0, ta, e, q⟩ => ?_
      have e : s.set i (some a) = s' := Option.some.inj e
      subst e
      exact q _ ⟨A0.rel, A0.sl.set ta i⟩ (List.length_set ..) fun own hw j hj => by
        have hm : i ∈ own := by
          obtain ⟨y, hy, e⟩ := List.any_eq_true.mp (show own.any (· == i) = true from hw)
          have e : y = i := beq_iff_eq.mp e
          subst e
          exact hy
        refine List.getElem?_set_ne fun z => ?_
        subst z
        exact hj hm
    | _ => exact nomatch (show false = true from h)
  | .tp gs, e, h => by
    cases e with
    | Tuple ts _ _ =>
      have h : ckGs c sc own gs ts = true := h
      obtain ⟨n1, n2⟩ := ckGs_ns h
      refine (pg_tup t.calm (okGs t gs ts h) (ae_len n1) (ae_find n1)).imp fun v σ H Q ⟨r, s, h, a, s', A0, ta, e, q⟩ => ?_
      cases ta with
      | @tup xs p vs sq ts' =>
        have e : Tg.puts gs xs s = some s' := e
        exact ⟨p, vs, rfl, sq, by rw [← ts'.length, ← puts_len e, n2], r, s, h, xs, s', A0, ts', e, fun σ' A' l' kp => q σ' A' l' kp⟩
      | _ => cases e
    | _ => exact nomatch (show false = true from h)
theorem okGs (t : Cxt X c sc own k C) : ∀ (gs : List Tg) (xs : List Expr), ckGs c sc own gs xs = true → PGs X xs (rdGs (sOf X c.G) gs)
  | [], [], _ => pgs_nil.imp fun v σ H Q ⟨r, s, h, as, s', A0, ta, e, q⟩ => by
    cases as with
    | nil =>
      cases ta
      cases e
      exact ⟨rfl, q σ A0 rfl fun own _ i _ => rfl⟩
    | cons => cases e
  | g :: gs, x :: xs, h => by
    obtain ⟨h1, h2⟩ := Bool.and_eq_true_iff.mp (show (!isStar x && ckG c sc own g x && ckGs c sc own gs xs) = true from h)
    obtain ⟨h0, h1⟩ := Bool.and_eq_true_iff.mp h1
    refine (pgs_cons (okG t g x h1) (okGs t gs xs h2) (by rw [ae_cons (by simpa using h0)]; rfl)).imp fun v σ H Q ⟨r, s, h, as, s', A0, ta, e, q⟩ => ?_
    cases as with
    | nil => cases e
    | cons a as =>
      cases ta with
      | cons t1 t2 =>
        unfold Tg.puts at e
        cases e1 : Tg.put g a s with
        | none =>
          rw [e1] at e
          cases e
        | some s1 =>
          rw [e1] at e
          refine ⟨_, _, rfl, r, s, h, a, s1, A0, t1, e1, fun σ1 A1 l1 k1 => ⟨r, s1, h, as, s', A1, t2, e, fun σ2 A2 l2 k2 => q σ2 A2 (l2.trans l1) fun own hw i hi => ?_⟩⟩
          obtain ⟨w1, w2⟩ := Bool.and_eq_true_iff.mp (show (Tg.within own g && Tg.withins own gs) = true from hw)
          rw [k2 own w2 i hi, k1 own w1 i hi]
  | [], _ :: _, h => by cases h
  | _ :: _, [], h => by cases h
end
end
end Ev

/-! text Fw11 -/
set_option Elab.async false
set_option linter.all false
set_option maxRecDepth 100000
set_option maxHeartbeats 4000000
/-! Ev: what is walked. -/
namespace Ev
open PySem PySem.Spec PyProof.Rows L2
/-- from r1, H1 on the iterator gives xs, while the lists of src stand still -/
def Wk (S : Ws) (r1 : List Addr) (H1 : Hp) (J : It) (xs : List A) (src : List (Nat × List A)) : Prop :=
  ∀ r h H, Step r1 H1 r H → Rel S r h H → still src h = true → ∀ i : Nat, (∀ a, xs[i]? = some a → J.go i H ∧ ∀ v H', J.yld i H v H' → Step r H r H' ∧ Rel S r h H' ∧ Ra S r H' a v) ∧ (xs.length ≤ i → J.stop i H)
def rdI (S : Ws) (W : WX) (g : Sl → Ho → R (List A × List (Nat × List A))) : TI := fun σ H Q => ∃ r s h, At S r s h σ H ∧ Po S (fun r H (w : List A × List (Nat × List A)) (J : It) => Wk S r H J w.1 w.2) r H (g s h) Q fun cls d H' => W cls d σ H'
section
variable {S : Ws} {r1 : List Addr} {H1 : Hp} {h1 : Ho}
theorem wk_tup (R1 : Rel S r1 h1 H1) {a : Addr} {vs : List V} {xs : List A} (sq : SqT S.K H1 a vs) (ts : Ras S r1 H1 xs vs) : Wk S r1 H1 (Itt S.K a) xs [] := by
  intro r h H st R _ i
  have sq' := SqT.step R1 st sq
  have ts' := ts.step R1 st
  refine ⟨fun x hx => ?_, fun hl => ⟨vs, sq', by rw [← ts.length]; exact hl⟩⟩
  obtain ⟨v, e, tv⟩ := ts'.get hx
  refine ⟨⟨vs, v, sq', e⟩, fun u H' ⟨e1, e2⟩ => ?_⟩
  subst e1
  have e3 := e2 vs sq'
  rw [e] at e3
  cases e3
  exact ⟨.refl, R, tv⟩
theorem wk_lis (R1 : Rel S r1 h1 H1) {a : Addr} {vs : List V} {xs : List A} (sq : Ro S.K H1 a vs) (ts : Ras S r1 H1 xs vs) : Wk S r1 H1 (Itl S.K a) xs [] := by
  intro r h H st R _ i
  have sq' := (Ro.step R1 st sq).sq
  have ts' := ts.step R1 st
  refine ⟨fun x hx => ?_, fun hl => ⟨vs, sq', by rw [← ts.length]; exact hl⟩⟩
  obtain ⟨v, e, tv⟩ := ts'.get hx
  refine ⟨⟨vs, v, sq', e⟩, fun u H' ⟨e1, e2⟩ => ?_⟩
  subst e1
  have e3 := e2 vs sq'
  rw [e] at e3
  cases e3
  exact ⟨.refl, R, tv⟩
theorem ref_at {r : List Addr} {h : Ho} {H : Hp} (st : Step r1 H1 r H) (R : Rel S r h H) {n : Nat} {p : Addr} {xs : List A} {src : List (Nat × List A)} (ep : r1[n]? = some p) (m : (n, xs) ∈ src) (e : still src h = true) : ∃ vs, SqL S.K H p vs ∧ Ras S r H xs vs := by
  obtain ⟨vs, e1, t⟩ := seq_at R (still_at m e) (pre_get st.pre ep)
  exact ⟨vs, SqL.of e1, t⟩
theorem wk_ref {n : Nat} {p : Addr} {xs : List A} (ep : r1[n]? = some p) : Wk S r1 H1 (Itl S.K p) xs [(n, xs)] := by
  intro r h H st R sl i
  obtain ⟨vs, sq', ts'⟩ := ref_at st R ep (List.mem_singleton.mpr rfl) sl
  refine ⟨fun x hx => ?_, fun hl => ⟨vs, sq', by rw [← ts'.length]; exact hl⟩⟩
  obtain ⟨v, e, tv⟩ := ts'.get hx
  refine ⟨⟨vs, v, sq', e⟩, fun u H' ⟨e1, e2⟩ => ?_⟩
  subst e1
  have e3 := e2 vs sq'
  rw [e] at e3
  cases e3
  exact ⟨.refl, R, tv⟩
theorem wk_rng {lo hi : Int} : Wk S r1 H1 (Itr lo (hi - lo).toNat) (rng lo hi) [] := by
  intro r h H st R _ i
  unfold rng
  refine ⟨fun x hx => ?_, fun hl => ?_⟩
  · rw [List.getElem?_map] at hx
    cases e : (List.range (hi - lo).toNat)[i]? with
    | none =>
      rw [e] at hx
      cases hx
    | some j =>
      rw [e] at hx
      cases hx
      obtain ⟨l, e⟩ := List.getElem?_eq_some_iff.mp e
      rw [List.length_range] at l
      rw [List.getElem_range] at e
      subst e
      refine ⟨l, fun u H' ⟨e1, e2⟩ => ?_⟩
      subst e1 e2
      exact ⟨.refl, R, .int _⟩
  · rw [List.length_map, List.length_range] at hl
    exact hl
theorem pairs_get : ∀ {xs ys : List A} {i : Nat} {a : A}, (pairs xs ys)[i]? = some a → ∃ x y, xs[i]? = some x ∧ ys[i]? = some y ∧ a = .tup [x, y]
  | [], _, _, _, e => by
    unfold pairs at e
    simp at e
  | _ :: _, [], _, _, e => by
    unfold pairs at e
    simp at e
  | x :: xs, y :: ys, 0, _, e => by
    unfold pairs at e
    simp at e
    exact ⟨x, y, rfl, rfl, e.symm⟩
  | x :: xs, y :: ys, i + 1, a, e => by
    unfold pairs at e
    obtain ⟨x', y', e1, e2, e3⟩ := pairs_get (i := i) (a := a) (xs := xs) (ys := ys) (by simpa using e)
    exact ⟨x', y', by simpa using e1, by simpa using e2, e3⟩
theorem pairs_len : ∀ {xs ys : List A} {i : Nat}, (pairs xs ys).length ≤ i → xs.length ≤ i ∨ ys.length ≤ i
  | [], _, _, _ => .inl (Nat.zero_le _)
  | _ :: _, [], _, _ => .inr (Nat.zero_le _)
  | x :: xs, y :: ys, 0, e => by
    unfold pairs at e
    simp at e
  | x :: xs, y :: ys, i + 1, e => by
    unfold pairs at e
    have e : (pairs xs ys).length ≤ i := by simpa using e
    rcases pairs_len e with q | q
    · exact .inl (by simpa using q)
    · exact .inr (by simpa using q)
theorem two_new {r : List Addr} {h : Ho} {H : Hp} (R : Rel S r h H) {T : Addr} (hT : H T = none) {x y : A} {v u : V} (tx : Ra S r H x v) (ty : Ra S r H y u) :
    Step r H r (upd H T (.tup [v, u])) ∧ Rel S r h (upd H T (.tup [v, u])) ∧ Ra S r (upd H T (.tup [v, u])) (.tup [x, y]) (.ref T) := by
  obtain ⟨R', st⟩ := Step.other (u := HO.tup [v, u]) R hT
  exact ⟨st, R', .tup (SqT.of upd_same) (.cons (tx.step R st) (.cons (ty.step R st) .nil))⟩
theorem wk_zpT (R1 : Rel S r1 h1 H1) {a b : Addr} {vs ws : List V} {xs ys : List A} (sq : SqT S.K H1 a vs) (ts : Ras S r1 H1 xs vs) (sq2 : SqT S.K H1 b ws) (ts2 : Ras S r1 H1 ys ws) : Wk S r1 H1 (RZ.ItzT S.K a b) (pairs xs ys) [] := by
  intro r h H st R _ i
  have q1 := SqT.step R1 st sq
  have q2 := SqT.step R1 st sq2
  have t1 := ts.step R1 st
  have t2 := ts2.step R1 st
  refine ⟨fun z hz => ?_, fun hl => ⟨vs, ws, q1, q2, by rw [← t1.length, ← t2.length]; exact pairs_len hl⟩⟩
  obtain ⟨x, y, e1, e2, rfl⟩ := pairs_get hz
  obtain ⟨v, f1, g1⟩ := t1.get e1
  obtain ⟨w, f2, g2⟩ := t2.get e2
  refine ⟨⟨vs, ws, v, w, q1, q2, f1, f2⟩, fun u H' ⟨T, v', w', e, hT, eH, k1, k2⟩ => ?_⟩
  have k1 := k1 vs q1
  have k2 := k2 ws q2
  rw [f1] at k1
  rw [f2] at k2
  cases k1
  cases k2
  subst e eH
  exact two_new R hT g1 g2
theorem wk_zpL {m n : Nat} {a b : Addr} {xs ys : List A} (ea : r1[m]? = some a) (eb : r1[n]? = some b) : Wk S r1 H1 (Itz S.K a b) (pairs xs ys) [(m, xs), (n, ys)] := by
  intro r h H st R sl i
  obtain ⟨vs, q1, t1⟩ := ref_at st R ea (List.mem_cons_self) sl
  obtain ⟨ws, q2, t2⟩ := ref_at st R eb (List.mem_cons_of_mem _ List.mem_cons_self) sl
  refine ⟨fun z hz => ?_, fun hl => ⟨vs, ws, q1, q2, by rw [← t1.length, ← t2.length]; exact pairs_len hl⟩⟩
  obtain ⟨x, y, e1, e2, rfl⟩ := pairs_get hz
  obtain ⟨v, f1, g1⟩ := t1.get e1
  obtain ⟨w, f2, g2⟩ := t2.get e2
  refine ⟨⟨vs, ws, v, w, q1, q2, f1, f2⟩, fun u H' ⟨T, v', w', e, hT, eH, k1, k2⟩ => ?_⟩
  have k1 := k1 vs q1
  have k2 := k2 ws q2
  rw [f1] at k1
  rw [f2] at k2
  cases k1
  cases k2
  subst e eH
  exact two_new R hT g1 g2
theorem num_get : ∀ {xs : List A} {k i : Nat} {a : A}, (numbered k xs)[i]? = some a → ∃ x, xs[i]? = some x ∧ a = .tup [.int ((k + i : Nat) : Int), x]
  | [], _, _, _, e => by
    unfold numbered at e
    simp at e
  | x :: xs, k, 0, _, e => by
    unfold numbered at e
    simp at e
    exact ⟨x, rfl, by rw [← e]; rfl⟩
  | x :: xs, k, i + 1, a, e => by
    unfold numbered at e
    obtain ⟨x', e1, e2⟩ := num_get (i := i) (a := a) (xs := xs) (k := k + 1) (by simpa using e)
    exact ⟨x', by simpa using e1, by rw [e2, Nat.add_right_comm, Nat.add_assoc]⟩
theorem num_len : ∀ (xs : List A) (k : Nat), (numbered k xs).length = xs.length
  | [], _ => rfl
  | x :: xs, k => by
    unfold numbered
    rw [List.length_cons, List.length_cons, num_len xs]
theorem wk_en {n : Nat} {p : Addr} {xs : List A} (ep : r1[n]? = some p) : Wk S r1 H1 (Ite S.K p) (numbered 0 xs) [(n, xs)] := by
  intro r h H st R sl i
  obtain ⟨vs, q1, t1⟩ := ref_at st R ep (List.mem_singleton.mpr rfl) sl
  refine ⟨fun z hz => ?_, fun hl => ⟨vs, q1, by rw [← t1.length, ← num_len xs 0]; exact hl⟩⟩
  obtain ⟨x, e1, rfl⟩ := num_get hz
  obtain ⟨v, f1, g1⟩ := t1.get e1
  refine ⟨⟨vs, v, q1, f1⟩, fun u H' ⟨T, v', e, hT, eH, k1⟩ => ?_⟩
  have k1 := k1 vs q1
  rw [f1] at k1
  cases k1
  subst e eH
  rw [Nat.zero_add]
  exact two_new R hT (.int _) g1
end
/-! ### the iterables -/
section
variable {X : Cx} {c : Ck} {sc : Scope} {own : Str → Bool} {k : Nat} {C : Nat → List A → Ho → R A} {W : WX} {tg : Expr}
theorem _root_.L2.PI.imp {x : Expr} {t t' : TI} (h : PI X tg x t) (q : ∀ σ H Q, t' σ H Q → t σ H Q) : PI X tg x t' := ⟨fun p s σ H Q I w => h.run p s σ H Q I (q _ _ _ w)⟩
def iSeq (K : PySem.W.Frag) (tl : TE) : TI := fun σ H R => tl σ H fun x H1 => ∃ a, x = .ref a ∧ (((∃ xs, SqL K H1 a xs) ∧ R (Itl K a) H1) ∨ ((∃ xs, SqT K H1 a xs) ∧ R (Itt K a) H1))
theorem pi_seq {l : Expr} {tl : TE} (hl : PE X l tl) : PI X tg l (iSeq X.K tl) := by
  refine ⟨fun pins s σ H R I h => ?_⟩
  refine thn (hl.run pins s σ H _ I h) fun v s1 ⟨x, H1, I1, rv, a, e, q⟩ => ?_
  subst e
  cases rv
  have fr : ∀ b, b ∈ [s1.heap.objs.size] → FpOk X pins H1 b := fun b hb => by
    have e := List.mem_singleton.mp hb
    subst e
    exact I1.fpOk (Nat.le_refl _) (I1.hok.fresh (Nat.le_refl _))
  rcases q with ⟨⟨xs, hq⟩, q⟩ | ⟨⟨xs, hq⟩, q⟩
  · obtain ⟨its, rv, p, hz⟩ := I1.list hq
    exact wpAny_pyIter_list p.isList ⟨s1.heap.objs.size, [s1.heap.objs.size], _, _, H1, rfl, I1.kept (t' := s1.toks) fun b o e => Heap.get?_push_of_some _ e, turn_list a _, ⟨_, Heap.get?_push_size _ rfl, rfl, rfl⟩, fr, q⟩
  · obtain ⟨its, rv, p, hz⟩ := I1.tuple hq
    exact wpAny_pyIter_tuple (show s1.heap.IsTuple a its.toArray from p) ⟨s1.heap.objs.size, [s1.heap.objs.size], _, _, H1, rfl, I1.kept (t' := s1.toks) fun b o e => Heap.get?_push_of_some _ e, turn_tuple a _, ⟨_, Heap.get?_push_size _ rfl, rfl, rfl⟩, fr, q⟩
theorem give_of {α β : Type} {G : Pg} {rel : List Addr → Hp → α → β → Prop} {r : List Addr} {H : Hp} {h : Ho} {o : Option α} {Q : β → Hp → Prop} {E : XK} (q : Po (sOf X G) rel r H (give o h) Q E) : ∃ b, o = some b ∧ Po (sOf X G) rel r H (.ok b h) Q E := by
  cases o with
  | none => exact False.elim q
  | some b => exact ⟨b, rfl, q⟩
theorem i_sq {x : Expr} {G : Pg} {f : Sl → Ho → R A} (ha : PE X x (rdE (sOf X G) W f)) : PI X tg x (rdI (sOf X G) W fun s h => (f s h).bind fun x h => give (walkSq x h) h) := by
  refine (pi_seq ha).imp fun σ H Q ⟨r, s, h, a, q⟩ => ⟨r, s, h, a, (Po.bind a q).mono fun v H1 ⟨r1, a1, h1, A1, st, t, q1⟩ => ?_⟩
  obtain ⟨w, e, q1⟩ := give_of q1
  cases t with
  | tup sq ts =>
    cases e
    exact ⟨_, rfl, .inr ⟨⟨_, sq⟩, q1 r1 H1 _ .refl A1.rel (wk_tup A1.rel sq ts)⟩⟩
  | lis sq ts =>
    cases e
    exact ⟨_, rfl, .inl ⟨⟨_, sq.sq⟩, q1 r1 H1 _ .refl A1.rel (wk_lis A1.rel sq ts)⟩⟩
  | @ref n p ep =>
    have e : (seqOf h1 n).map (fun xs => (xs, [(n, xs)])) = some w := e
    cases e1 : seqOf h1 n with
    | none =>
      rw [e1] at e
      cases e
    | some xs =>
      rw [e1] at e
      cases e
      obtain ⟨vs, e2, t2⟩ := seq_at A1.rel e1 ep
      exact ⟨p, rfl, .inl ⟨⟨vs, SqL.of e2⟩, q1 r1 H1 _ .refl A1.rel (wk_ref ep)⟩⟩
  | _ => cases e
theorem rngOk_of {i : Int} (h : rngOk i = true) : -(2 ^ 62) ≤ i ∧ i < 2 ^ 62 := by
  obtain ⟨a, b⟩ := Bool.and_eq_true_iff.mp h
  exact ⟨of_decide_eq_true a, of_decide_eq_true b⟩
theorem i_rg1 (t : Cxt X c sc own k C) (h1 : glB sc ("range" : Str) = true) {x : Expr} (nx : isStar x = false) {F : Sl → Ho → R (List A)} (hl : ∀ s h as h', F s h = .ok as h' → as.length = 1) (ha : PA X [x] (rdA (sOf X c.G) W F)) {p pos : Pos} :
    PI X tg (.Call (.Name ("range" : Str) p) [x] [] pos) (rdI (sOf X c.G) W fun s h => (F s h).bind fun xs h => give (walkRg xs) h) := by
  refine (pi_range1 (gl_of t h1) (gl_free t (by decide)) ha (se_cons nx)).imp fun σ H Q ⟨r, s, h, a, q⟩ => ⟨r, s, h, a, (rdA_len hl a (Po.bind a q)).mono fun vs H1 ⟨hv, r1, as, h1, A1, st, t, q1⟩ => ?_⟩
  obtain ⟨w, e, q1⟩ := give_of q1
  have la := t.length
  match as, t, la with
  | [b], .cons tb .nil, _ =>
    cases tb with
    | int j =>
      have e : (if rngOk j then some (rng 0 j, []) else none) = some w := e
      split at e
      · rename_i hj
        cases e
        obtain ⟨b1, b2⟩ := rngOk_of hj
        have W0 := wk_rng (S := sOf X c.G) (r1 := r1) (H1 := H1) (lo := 0) (hi := j)
        rw [Int.sub_zero] at W0
        exact ⟨j, rfl, b1, b2, q1 r1 H1 _ .refl A1.rel W0⟩
      · cases e
    | _ => cases e
  | [], _, la => exact absurd (la.trans hv) (by decide)
  | _ :: _ :: _, _, la =>
    have := la.trans hv
    simp at this
theorem i_rg2 (t : Cxt X c sc own k C) (h1 : glB sc ("range" : Str) = true) {x y : Expr} (nx : isStar x = false) (ny : isStar y = false) {F : Sl → Ho → R (List A)} (hl : ∀ s h as h', F s h = .ok as h' → as.length = 2) (ha : PA X [x, y] (rdA (sOf X c.G) W F)) {p pos : Pos} :
    PI X tg (.Call (.Name ("range" : Str) p) [x, y] [] pos) (rdI (sOf X c.G) W fun s h => (F s h).bind fun xs h => give (walkRg xs) h) := by
  refine (pi_range2 (gl_of t h1) (gl_free t (by decide)) ha (by rw [se_cons nx, se_cons ny]; rfl) (se_cons ny)).imp fun σ H Q ⟨r, s, h, a, q⟩ => ⟨r, s, h, a, (rdA_len hl a (Po.bind a q)).mono fun vs H1 ⟨hv, r1, as, h1, A1, st, t, q1⟩ => ?_⟩
  obtain ⟨w, e, q1⟩ := give_of q1
  have la := t.length
  match as, t, la with
  | [b, d], .cons tb (.cons td .nil), _ =>
    cases tb with
    | int i =>
      cases td with
      | int j =>
        have e : (if rngOk i && rngOk j then some (rng i j, []) else none) = some w := e
        split at e
        · rename_i hj
          cases e
          obtain ⟨g1, g2⟩ := Bool.and_eq_true_iff.mp hj
          obtain ⟨b1, b2⟩ := rngOk_of g1
          obtain ⟨b3, b4⟩ := rngOk_of g2
          exact ⟨i, j, rfl, ⟨b1, b2, b3, b4⟩, q1 r1 H1 _ .refl A1.rel wk_rng⟩
        · cases e
      | _ => cases e
    | _ => cases e
  | [], _, la => exact absurd (la.trans hv) (by decide)
  | [_], _, la =>
    have := la.trans hv
    simp at this
  | _ :: _ :: _ :: _, _, la =>
    have := la.trans hv
    simp at this
theorem i_zp (t : Cxt X c sc own k C) (h1 : glB sc ("zip" : Str) = true) {x y : Expr} (nx : isStar x = false) (ny : isStar y = false) {f g : Sl → Ho → R A} (ha : PE X x (rdE (sOf X c.G) W f)) (hb : PE X y (rdE (sOf X c.G) W g)) {es : List Expr} {kk : Nat} {p pos tp : Pos} :
    PI X (.Tuple es kk tp) (.Call (.Name ("zip" : Str) p) [x, y] [] pos) (rdI (sOf X c.G) W fun s h => (f s h).bind fun x h => (g s h).bind fun y h => give (walkZp x y h) h) := by
  have A := pa_cons ha (pa_cons hb pa_nil (se_cons ny)) (se_cons nx)
  refine (RZ.pi_zipA (gl_of t h1) (gl_free t (by decide)) A (se_cons nx) (by rw [se_cons ny]; rfl)).imp fun σ H Q ⟨r, s, h, a, q⟩ => ?_
  refine ⟨r, s, h, a, (Po.bind a q).mono fun v H1 ⟨r1, a1, h1, A1, st1, t1, q1⟩ => ⟨r1, s, h1, A1, (Po.bind A1 q1).mono fun u H2 ⟨r2, b2, h2, A2, st2, t2, q2⟩ => ?_⟩⟩
  obtain ⟨w, e, q2⟩ := give_of q2
  have t1 := t1.step A1.rel st2
  cases t1 with
  | tup sq ts =>
    cases t2 with
    | tup sq2 ts2 =>
      cases e
      exact ⟨_, _, _, _, rfl, .inr ⟨sq, sq2, q2 r2 H2 _ .refl A2.rel (wk_zpT A2.rel sq ts sq2 ts2)⟩⟩
    | _ => cases e
  | @ref m pa ea =>
    cases t2 with
    | @ref n pb eb =>
      have e : (match seqOf h2 m, seqOf h2 n with
        | some xs, some ys => some (pairs xs ys, [(m, xs), (n, ys)])
        | _, _ => none) = some w := e
      cases e1 : seqOf h2 m with
      | none =>
        rw [e1] at e
        cases e
      | some xs =>
        cases e2 : seqOf h2 n with
        | none =>
          rw [e1, e2] at e
          cases e
        | some ys =>
          rw [e1, e2] at e
          cases e
          obtain ⟨vs, f1, _⟩ := seq_at A2.rel e1 ea
          obtain ⟨ws, f2, _⟩ := seq_at A2.rel e2 eb
          exact ⟨pa, pb, vs, ws, rfl, .inl ⟨SqL.of f1, SqL.of f2, q2 r2 H2 _ .refl A2.rel (wk_zpL ea eb)⟩⟩
    | _ => cases e
  | _ => cases e
theorem i_en (t : Cxt X c sc own k C) (h1 : glB sc ("enumerate" : Str) = true) {x : Expr} (nx : isStar x = false) {f : Sl → Ho → R A} (ha : PE X x (rdE (sOf X c.G) W f)) {es : List Expr} {kk : Nat} {p pos tp : Pos} :
    PI X (.Tuple es kk tp) (.Call (.Name ("enumerate" : Str) p) [x] [] pos) (rdI (sOf X c.G) W fun s h => (f s h).bind fun x h => give (walkEn x h) h) := by
  have A := pa_cons ha pa_nil (se_cons nx)
  refine (pi_enum (gl_of t h1) (gl_free t (by decide)) A (se_cons nx)).imp fun σ H Q ⟨r, s, h, a, q⟩ => ⟨r, s, h, a, (Po.bind a q).mono fun v H1 ⟨r1, a1, h1, A1, st1, t1, q1⟩ => ?_⟩
  obtain ⟨w, e, q1⟩ := give_of q1
  cases t1 with
  | @ref n pa ea =>
    have e : (seqOf h1 n).map (fun xs => (numbered 0 xs, [(n, xs)])) = some w := e
    cases e1 : seqOf h1 n with
    | none =>
      rw [e1] at e
      cases e
    | some xs =>
      rw [e1] at e
      cases e
      obtain ⟨vs, f1, _⟩ := seq_at A1.rel e1 ea
      exact ⟨pa, vs, rfl, SqL.of f1, q1 r1 H1 _ .refl A1.rel (wk_en ea)⟩
  | _ => cases e
end
end Ev

/-! text Fw12 -/
set_option Elab.async false
set_option linter.all false
set_option maxRecDepth 100000
set_option maxHeartbeats 4000000
/-! Ev: comprehensions. -/
namespace Ev
open PySem PySem.Spec PyProof.Rows L2
/-! ### a list being made, not yet of ours -/
section
variable {S : Ws} {r : List Addr} {H : Hp} {h : Ho} {D : Addr} {l l' : List V}
theorem Rd.off (e : H D = some (.lst l)) {a : Addr} {u : HO} (d : L2.Rd H a u) (ne : ∀ vs, u ≠ .lst vs) : L2.Rd (upd H D (.lst l')) a u := by
  rcases d with q | ⟨o, q⟩
  · have n : a ≠ D := fun z => by
      subst z
      rw [e] at q
      exact ne _ (Option.some.inj q).symm
    exact .inl (by rw [upd_ne n]; exact q)
  · have n : a ≠ D := fun z => by
      subst z
      rw [e] at q
      cases q
    exact .inr ⟨o, by rw [upd_ne n]; exact q⟩
mutual
theorem Ra.off (e : H D = some (.lst l)) : ∀ {a : A} {v : V}, Ra S r H a v → Ra S r (upd H D (.lst l')) a v
  | _, _, .non => .non
  | _, _, .bl b => .bl b
  | _, _, .int i => .int i
  | _, _, .str x => .str x
  | _, _, .tup q t => .tup (q.elim (fun d => .inl (Rd.off e d fun vs z => by cases z)) .inr) (Ras.off e t)
  | _, _, .lis q t => .lis (q.elim (fun ⟨o, d⟩ => .inl ⟨o, by
      rw [upd_ne (fun z => by
        subst z
        rw [e] at d
        cases d)]
      exact d⟩) .inr) (Ras.off e t)
  | _, _, .ref q => .ref q
  | _, _, .fn e1 e2 => .fn e1 e2
theorem Ras.off (e : H D = some (.lst l)) : ∀ {as : List A} {vs : List V}, Ras S r H as vs → Ras S r (upd H D (.lst l')) as vs
  | _, _, .nil => .nil
  | _, _, .cons a t => .cons (Ra.off e a) (Ras.off e t)
end
theorem Rel.off (e : H D = some (.lst l)) (nD : D ∉ r) (R : Rel S r h H) : Rel S r h (upd H D (.lst l')) := by
  refine ⟨R.len, R.nd, fun n xs en => ?_⟩
  obtain ⟨p, vs, e1, e2, t⟩ := R.at_ n xs en
  refine ⟨p, vs, e1, ?_, t.off e⟩
  rw [upd_ne (fun z => by
    subst z
    exact nD (List.mem_of_getElem? e1))]
  exact e2
theorem Step.notIn {r' : List Addr} {H' : Hp} {o : HO} (st : Step r H r' H') (e : H D = some o) (n : D ∉ r) : D ∉ r' := fun m => by
  have := st.new D m n
  rw [e] at this
  cases this
theorem Step.outer {r1 : List Addr} {H1 : Hp} (st : Step r1 H1 r H) (n : H1 D = none) : Step r1 H1 r (upd H D (.lst l')) :=
  ⟨st.pre, st.new, fun b o e nb => by
    rw [upd_ne (fun z => by
      subst z
      rw [n] at e
      cases e)]
    exact st.keep b o e nb⟩
/-- at last it is one of ours -/
theorem Rel.take_in (R : Rel S r h H) {as : List A} {vs : List V} (e : H D = some (.lst vs)) (nD : D ∉ r) (t : Ras S r H as vs) {r1 : List Addr} {H1 : Hp} (st : Step r1 H1 r H) (n : H1 D = none) :
    Step r1 H1 (r ++ [D]) H ∧ Rel S (r ++ [D]) (h ++ [.lst as]) H ∧ Ra S (r ++ [D]) H (.ref h.length) (.ref D) := by
  have up : ∀ (a : A) (v : V), Ra S r H a v → Ra S (r ++ [D]) H a v := fun a v q => by
    refine Ra.rec (motive_1 := fun a v _ => Ra S (r ++ [D]) H a v) (motive_2 := fun as vs _ => Ras S (r ++ [D]) H as vs) .non .bl .int .str (fun q _ ih => .tup q ih) (fun q _ ih => .lis q ih) (fun e => .ref (pre_get (List.prefix_append _ _) e)) (fun e1 e2 => .fn e1 e2) .nil (fun _ _ i1 i2 => .cons i1 i2) q
  have ups : ∀ {as : List A} {vs : List V}, Ras S r H as vs → Ras S (r ++ [D]) H as vs := by
    intro as vs q
    induction as generalizing vs with
    | nil =>
      cases q
      exact .nil
    | cons a as ih =>
      cases q with
      | cons q1 q2 => exact .cons (up _ _ q1) (ih q2)
  refine ⟨⟨st.pre.trans (List.prefix_append _ _), fun b hb nb => ?_, fun b o q nb => st.keep b o q nb⟩, ⟨by rw [List.length_append, List.length_append, R.len]; rfl, ?_, fun m ys em => ?_⟩, .ref ?_⟩
  · rcases List.mem_append.mp hb with z | z
    · exact st.new b z nb
    · rw [List.mem_singleton.mp z]
      exact n
  · exact List.nodup_append.mpr ⟨R.nd, by simp, fun a ha b hb => by
      rw [List.mem_singleton.mp hb]
      exact fun z => nD (z ▸ ha)⟩
  · by_cases hm : m < h.length
    · rw [List.getElem?_append_left hm] at em
      obtain ⟨p, ws, e1, e2, t2⟩ := R.at_ m ys em
      exact ⟨p, ws, pre_get (List.prefix_append _ _) e1, e2, ups t2⟩
    · rw [List.getElem?_append_right (by omega)] at em
      have hm0 : m - h.length = 0 := by
        have := (List.getElem?_eq_some_iff.mp em).1
        simp at this
        omega
      rw [hm0] at em
      simp at em
      subst em
      refine ⟨D, vs, ?_, e, ups t⟩
      rw [List.getElem?_append_right (by rw [R.len]; omega), R.len, hm0]
      rfl
  · rw [List.getElem?_append_right (by rw [R.len]; exact Nat.le_refl _), R.len, Nat.sub_self]
    rfl
end
/-! ### the block's slots -/
theorem wipe_in {σ : L2.St} {i : Nat} : ∀ {vs : List Nat}, i ∈ vs → i < σ.length → (L2.wipe σ vs)[i]? = some none
  | v :: vs, m, hl => by
    unfold L2.wipe
    by_cases e : v = i
    · subst e
      exact List.getElem?_set_self (by rw [wipe_length]; exact hl)
    · rw [List.getElem?_set_ne e]
      rcases List.mem_cons.mp m with z | z
      · exact absurd z.symm e
      · exact wipe_in z hl
theorem wipe_same {σ σ2 : L2.St} {vs : List Nat} (k : Keeps vs (L2.wipe σ vs) σ2) (l : σ2.length = (L2.wipe σ vs).length) : L2.wipe σ2 vs = L2.wipe σ vs := by
  refine List.ext_getElem? fun i => ?_
  rw [wipe_length] at l
  by_cases m : i ∈ vs
  · by_cases hl : i < σ.length
    · rw [wipe_in m hl, wipe_in m (by rw [l]; exact hl)]
    · rw [List.getElem?_eq_none (by rw [wipe_length, l]; omega), List.getElem?_eq_none (by rw [wipe_length]; omega)]
  · rw [wipe_out m, k i m]
theorem compL_calm {src : List (Nat × List A)} {f : A → Ho → R (Option A)} (hf : ∀ x h e h', f x h ≠ .exc e h') : ∀ (xs : List A) (h : Ho) (e : Xv) (h' : Ho), compL src f xs h ≠ .exc e h'
  | [], h, e, h' => by
    unfold compL
    split <;> exact fun z => by cases z
  | x :: xs, h, e, h' => by
    unfold compL
    split
    · cases q : f x h with
      | err => exact fun z => by cases z
      | exc y h2 => exact absurd q (hf _ _ _ _)
      | ok o h2 =>
        show (compL src f xs h2).bind _ ≠ _
        cases q2 : compL src f xs h2 with
        | err => exact fun z => by cases z
        | exc y h3 => exact absurd q2 (compL_calm hf xs h2 _ _)
        | ok ys h3 => exact fun z => by cases z
    · exact fun z => by cases z
abbrev NoX : WX := fun _ _ _ _ => False
/-- a turn of the block -/
def turnC (g : Tg) (own : List Nat) (ft : Sl → Ho → R Bool) (fe : Sl → Ho → R A) (s : Sl) (x : A) (h : Ho) : R (Option A) := match Tg.put g x (wipe s own) with
  | some s' => (ft s' h).calm.bind fun k h => if k then (fe s' h).calm.bind fun y h => .ok (some y) h else .ok none h
  | none => .err
theorem turnC_calm {g : Tg} {own : List Nat} {ft : Sl → Ho → R Bool} {fe : Sl → Ho → R A} {s : Sl} (x : A) (h : Ho) (e : Xv) (h' : Ho) : turnC g own ft fe s x h ≠ .exc e h' := by
  unfold turnC
  split
  · rename_i s' _
    cases q : ft s' h with
    | err => exact fun z => by cases z
    | exc y h2 => exact fun z => by cases z
    | ok k h2 =>
      show (if k = true then (fe s' h2).calm.bind (fun y h => R.ok (some y) h) else R.ok none h2) ≠ _
      split
      · cases q2 : fe s' h2 with
        | err => exact fun z => by cases z
        | exc y h3 => exact fun z => by cases z
        | ok y h3 => exact fun z => by cases z
      · exact fun z => by cases z
  · exact fun z => by cases z
def finC (ys : List A) (h : Ho) : R A := if lineOk ys.length then newL ys h else .err
theorem own_back (c : Ck) (own : List Nat) : (ownOf c own).map (·.2) = own := by
  unfold ownOf
  rw [List.map_map]
  exact List.map_id own
section
variable {X : Cx} {c : Ck} {sc : Scope} {own : Str → Bool} {k : Nat} {C : Nat → List A → Ho → R A} {W : WX}
theorem comp_rd {ow : List Nat} {cc : Ck} {g : Tg} {gi : Sl → Ho → R (List A × List (Nat × List A))} {ft : Sl → Ho → R Bool} {fe : Sl → Ho → R A} (hw : Tg.within ow g = true) (σ : L2.St) (H : Hp) (Q : VK)
    (hh : rdE (sOf X c.G) W (fun s h => (gi s h).bind fun w h => (compL w.2 (turnC g ow ft fe s) w.1 h).bind fun ys h => finC ys h) σ H Q) :
    tLc (rdI (sOf X c.G) W gi) (rdG (sOf X c.G) g) (rdB (sOf X c.G) NoX ft) (rdE (sOf X c.G) NoX fe) ((ownOf cc ow).map (·.2)) σ H Q := by
  obtain ⟨r, s, h, a, q⟩ := hh
  refine ⟨r, s, h, a, (Po.bind a q).mono fun J H1 ⟨r1, w, h1, A1, _, wk, q1⟩ => ?_⟩
  rw [own_back]
  intro D hD
  generalize hF : turnC g ow ft fe s = F at q1
  have cF : ∀ x h e h', F x h ≠ .exc e h' := fun x h e h' => by
    rw [← hF]
    exact turnC_calm x h e h'
  refine ⟨fun i m H2 => ∃ (r2 : List Addr) (h2 : Ho) (accA : List A) (accV : List V), Step r1 H1 r2 H2 ∧ Rel (sOf X c.G) r2 h2 H2 ∧ D ∉ r2 ∧ H2 D = some (.lst accV) ∧ Ras (sOf X c.G) r2 H2 accA accV ∧ m = w.1.length - i ∧
    PoV (sOf X c.G) r1 H1 ((compL w.2 F (w.1.drop i) h2).bind fun ys h => finC (accA ++ ys) h) Q fun cls d H' => W cls d σ H', ⟨w.1.length, r1, h1, [], [], ?_⟩, fun i m H2 ⟨r2, h2, accA, accV, st2, R2, nD, eD, tA, em, q2⟩ => ?_⟩
  · obtain ⟨R', st'⟩ := Step.other (u := HO.lst []) A1.rel hD
    refine ⟨st', R', fun z => ?_, upd_same, .nil, rfl, q1⟩
    obtain ⟨vs, e⟩ := A1.rel.lstOf z
    rw [hD] at e
    cases e
  · cases ex : w.1[i]? with
    | none =>
      have hl : w.1.length ≤ i := by
        rcases Nat.lt_or_ge i w.1.length with z | z
        · rw [List.getElem?_eq_getElem z] at ex
          cases ex
        · exact z
      rw [List.drop_eq_nil_of_le hl] at q2
      unfold compL at q2
      split at q2
      · rename_i sl
        refine .inl ⟨(wk r2 h2 H2 st2 R2 sl i).2 hl, ?_⟩
        have q2 : PoV (sOf X c.G) r1 H1 (finC (accA ++ []) h2) Q fun cls d H' => W cls d σ H' := q2
        rw [List.append_nil] at q2
        unfold finC at q2
        split at q2
        · obtain ⟨s1, s2, s3⟩ := R2.take_in eD nD tA st2 hD
          exact q2 _ _ _ s1 s2 s3
        · exact False.elim q2
      · exact False.elim q2
    | some x =>
      have hl : i < w.1.length := (List.getElem?_eq_some_iff.mp ex).1
      have hd : w.1.drop i = x :: w.1.drop (i + 1) := by
        rw [List.drop_eq_getElem_cons hl]
        rw [List.getElem?_eq_getElem hl] at ex
        rw [Option.some.inj ex]
      rw [hd] at q2
      unfold compL at q2
      split at q2
      · rename_i sl
        obtain ⟨go, yl⟩ := (wk r2 h2 H2 st2 R2 sl i).1 x ex
        refine .inr ⟨go, fun H' => ∃ (r2 : List Addr) (h2 : Ho) (accA : List A) (accV : List V), Step r1 H1 r2 H' ∧ Rel (sOf X c.G) r2 h2 H' ∧ D ∉ r2 ∧ H' D = some (.lst accV) ∧ Ras (sOf X c.G) r2 H' accA accV ∧
          PoV (sOf X c.G) r1 H1 ((compL w.2 F (w.1.drop (i + 1)) h2).bind fun ys h => finC (accA ++ ys) h) Q fun cls d H' => W cls d σ H', fun H' ⟨r3, h3, aA, aV, p1, p2, p3, p4, p5, p6⟩ => ⟨w.1.length - (i + 1), by omega, r3, h3, aA, aV, p1, p2, p3, p4, p5, rfl, p6⟩, fun v H3 hy => ?_⟩
        obtain ⟨st3, R3, tv⟩ := yl v H3 hy
        have sA : At (sOf X c.G) r2 (wipe s ow) h2 (L2.wipe σ ow) H3 := ⟨R3, ((A1.sl.step A1.rel st2).step R2 st3).wipe ow⟩
        -- the turn
        cases eP : Tg.put g x (wipe s ow) with
        | none =>
          have : F x h2 = .err := by
            rw [← hF]
            unfold turnC
            rw [eP]
          rw [this] at q2
          exact False.elim q2
        | some s' =>
          have eF : F x h2 = (ft s' h2).calm.bind fun k h => if k then (fe s' h).calm.bind fun y h => .ok (some y) h else .ok none h := by
            rw [← hF]
            unfold turnC
            rw [eP]
          rw [eF] at q2
          refine ⟨r2, _, h2, x, s', sA, tv, eP, fun σ' A' l' kp => ⟨wipe_same (kp ow hw) l', ?_⟩⟩
          refine ⟨r2, s', h2, A', ?_⟩
          cases e1 : ft s' h2 with
          | err =>
            rw [e1] at q2
            exact False.elim q2
          | exc y h3 =>
            rw [e1] at q2
            exact False.elim q2
          | ok kk h3 =>
            rw [e1] at q2
            intro r4 H4 b st4 R4 eb
            subst eb
            have n4 : D ∉ r4 := st4.notIn (o := .lst accV) (st3.keep D _ eD nD) nD
            have eD4 : H4 D = some (.lst accV) := st4.keep D _ (st3.keep D _ eD nD) nD
            have s14 : Step r1 H1 r4 H4 := (st2.trans st3).trans st4
            have tA4 := (tA.step R2 st3).step R3 st4
            cases kk with
            | false =>
              rw [if_neg Bool.false_ne_true]
              refine ⟨r4, h3, accA, accV, s14, R4, n4, eD4, tA4, ?_⟩
              have q2 : PoV (sOf X c.G) r1 H1 (((compL w.2 F (w.1.drop (i + 1)) h3).bind fun ys h => .ok ys h).bind fun ys h => finC (accA ++ ys) h) Q fun cls d H' => W cls d σ H' := q2
              rw [R.assoc] at q2
              exact q2
            | true =>
              rw [if_pos rfl]
              refine ⟨r4, s', h3, A'.step st4 R4, ?_⟩
              have q2 : PoV (sOf X c.G) r1 H1 ((((fe s' h3).calm.bind fun y h => R.ok (some y) h).bind fun o h => (compL w.2 F (w.1.drop (i + 1)) h).bind fun ys h => .ok (match o with
                | some y => y :: ys
                | none => ys) h).bind fun ys h => finC (accA ++ ys) h) Q fun cls d H' => W cls d σ H' := q2
              cases e2 : fe s' h3 with
              | err =>
                rw [e2] at q2
                exact False.elim q2
              | exc y h4 =>
                rw [e2] at q2
                exact False.elim q2
              | ok y h4 =>
                rw [e2] at q2
                intro r5 H5 vy st5 R5 ty
                have q2 : PoV (sOf X c.G) r1 H1 (((compL w.2 F (w.1.drop (i + 1)) h4).bind fun ys h => .ok (y :: ys) h).bind fun ys h => finC (accA ++ ys) h) Q fun cls d H' => W cls d σ H' := q2
                rw [R.assoc] at q2
                have q3 : PoV (sOf X c.G) r1 H1 ((compL w.2 F (w.1.drop (i + 1)) h4).bind fun ys h => finC (accA ++ [y] ++ ys) h) Q fun cls d H' => W cls d σ H' := by
                  have e : (fun (ys : List A) (h : Ho) => finC (accA ++ [y] ++ ys) h) = fun ys h => finC (accA ++ (y :: ys)) h := by
                    funext ys h
                    rw [List.append_assoc]
                    rfl
                  rw [e]
                  exact q2
                have eD5 : H5 D = some (.lst accV) := st5.keep D _ eD4 n4
                have n5 : D ∉ r5 := st5.notIn eD4 n4
                have tA5 := tA4.step R4 st5
                refine ⟨accV, eD5, ?_, r5, h4, accA ++ [y], accV ++ [vy], (s14.trans st5).outer hD, R5.off eD5 n5, n5, upd_same, (tA5.snoc ty).off eD5, q3⟩
                -- the bound
                cases e5 : compL w.2 F (w.1.drop (i + 1)) h4 with
                | err =>
                  rw [e5] at q3
                  exact False.elim q3
                | exc z h5 => exact absurd e5 (compL_calm cF _ _ _ _)
                | ok ys h5 =>
                  rw [e5] at q3
                  have q3 : PoV (sOf X c.G) r1 H1 (finC (accA ++ [y] ++ ys) h5) Q fun cls d H' => W cls d σ H' := q3
                  unfold finC at q3
                  split at q3
                  · rename_i hz
                    have := line_le hz
                    rw [List.length_append, List.length_append] at this
                    rw [← tA.length]
                    have l1 : [y].length = 1 := rfl
                    omega
                  · exact False.elim q3
      · exact False.elim q2

theorem e_comp (t : Cxt X c sc own k C) {elt tg iter : Expr} {ifs : List Expr} {scope : Scope} {pos : Pos} {ow : List Nat} {g : Tg} {gi : Sl → Ho → R (List A × List (Nat × List A))} {ft : Sl → Ho → R Bool} {fe : Sl → Ho → R A}
    (hi : PI X tg iter (rdI (sOf X c.G) W gi)) (ok : BlkOk X.N X.env.scope scope (ownOf c ow))
    (hg : ∀ (s : Shared) (H : Hp) (C : Addr) (cl : List (Str × Addr)) (fp : List Addr), PG (X.blk s H scope (compEnvC scope cl C X.env) fp) tg (rdG (sOf X c.G) g))
    (ht : ∀ (s : Shared) (H : Hp) (C : Addr) (cl : List (Str × Addr)) (fp : List Addr), PTs (X.blk s H scope (compEnvC scope cl C X.env) fp) ifs (rdB (sOf X c.G) NoX ft))
    (he : ∀ (s : Shared) (H : Hp) (C : Addr) (cl : List (Str × Addr)) (fp : List Addr), PE (X.blk s H scope (compEnvC scope cl C X.env) fp) elt (rdE (sOf X c.G) NoX fe))
    (hw : Tg.within ow g = true) (hs : ∀ x, foldedSetIterable iter X.env x = pure x) :
    PE X (.ListComp elt [⟨tg, iter, ifs, 0⟩] scope pos) (rdE (sOf X c.G) W fun s h => (gi s h).bind fun w h => (compL w.2 (turnC g ow ft fe s) w.1 h).bind fun ys h => finC ys h) := by
  exact (pe_lc t.calm (by rw [t.N]; exact t.nd) hi ok hg ht he hs).imp fun σ H Q hh => comp_rd hw σ H Q hh
theorem s_setC (t : Cxt X c sc own k C) {elt tg iter : Expr} {ifs : List Expr} {scope : Scope} {pos py sp : Pos} {y : Str} {j : Nat} {ow : List Nat} {g : Tg} {gi : Sl → Ho → R (List A × List (Nat × List A))} {ft : Sl → Ho → R Bool} {fe : Sl → Ho → R A} (hy : X.N[j]? = some y)
    (hyl : X.env.scope.names.lookup y = some .local) (hsw : swapsWith (.ListComp elt [⟨tg, iter, ifs, 0⟩] scope pos) (some (.Name y py)) sp.line X.env = pure true)
    (hi : PI X tg iter (rdI (sOf X c.G) W gi)) (ok : BlkOk X.N X.env.scope scope (ownOf c ow))
    (hg : ∀ (s : Shared) (H : Hp) (C : Addr) (cl : List (Str × Addr)) (fp : List Addr), PG (X.blk s H scope (compEnvC scope cl C X.env) fp) tg (rdG (sOf X c.G) g))
    (ht : ∀ (s : Shared) (H : Hp) (C : Addr) (cl : List (Str × Addr)) (fp : List Addr), PTs (X.blk s H scope (compEnvC scope cl C X.env) fp) ifs (rdB (sOf X c.G) NoX ft))
    (he : ∀ (s : Shared) (H : Hp) (C : Addr) (cl : List (Str × Addr)) (fp : List Addr), PE (X.blk s H scope (compEnvC scope cl C X.env) fp) elt (rdE (sOf X c.G) NoX fe))
    (hw : Tg.within ow g = true) (hs : ∀ x, foldedSetIterable iter X.env x = pure x) :
    PS X (.Assign [.Name y py] (.ListComp elt [⟨tg, iter, ifs, 0⟩] scope pos) sp) (tAsg (rdE (sOf X c.G) W fun s h => (gi s h).bind fun w h => (compL w.2 (turnC g ow ft fe s) w.1 h).bind fun ys h => finC ys h) (gName j)) := by
  have z := ps_setLc t.calm (by rw [t.N]; exact t.nd) hy hyl hsw hi ok hg ht he hs
  exact ⟨fun pins s σ H D I w => z.run pins s σ H D I (comp_rd hw σ H _ w)⟩
end
end Ev

/-! text Fw13 -/
set_option Elab.async false
set_option linter.all false
set_option maxRecDepth 100000
set_option maxHeartbeats 4000000
/-! Ev: a piece of syntax that the check takes does what the term's computing says. -/
namespace Ev
open PySem PySem.Spec PyProof.Rows L2
theorem ckEs_ns {c : Ck} {sc : Scope} : ∀ {es : List E} {xs : List Expr}, ckEs c sc es xs = true → noStars xs = true ∧ es.length = xs.length
  | [], [], _ => ⟨rfl, rfl⟩
  | e :: es, x :: xs, h => by
    unfold ckEs at h
    obtain ⟨h1, h2⟩ := Bool.and_eq_true_iff.mp h
    obtain ⟨h1, _⟩ := Bool.and_eq_true_iff.mp h1
    obtain ⟨i1, i2⟩ := ckEs_ns h2
    exact ⟨Bool.and_eq_true_iff.mpr ⟨h1, i1⟩, by rw [List.length_cons, List.length_cons, i2]⟩
  | [], _ :: _, h => by
    unfold ckEs at h
    cases h
  | _ :: _, [], h => by
    unfold ckEs at h
    cases h
theorem plain_true {x : Expr} (h : plainT x = true) (env : Env) (whole : Sem Value) : isTrue x env whole = (do let v ← whole; standAt x.pos; holding [v] (truthy v)) := by
  cases x with
  | UnaryOp op a p =>
    cases op <;> first
      | rfl
      | (cases h)
  | _ => first
    | rfl
    | (cases h)
theorem cmpEq_is {a b : CmpOp} (h : cmpEq a b = true) : a = b := by
  cases a <;> cases b <;> first
    | rfl
    | (cases h)
theorem opEq_is {a b : Operator} (h : opEq a b = true) : a = b := by
  cases a <;> cases b <;> first
    | rfl
    | (cases h)
theorem isSet_folded {x : Expr} (h : isSet x = false) (env : Env) (v : Value) : foldedSetIterable x env v = pure v := by
  cases x <;> first
    | rfl
    | (cases h)
theorem ble_le {n m : Nat} (h : Nat.ble n m = true) : n ≤ m := Nat.le_of_ble_eq_true h
theorem and2 {a b : Bool} (h : (a && b) = true) : a = true ∧ b = true := Bool.and_eq_true_iff.mp h
theorem not1 {a : Bool} (h : (!a) = true) : a = false := by simpa using h
section
variable {c : Ck}
/-- the context of a block -/
theorem Cxt.blk {X : Cx} {sc : Scope} {own : Str → Bool} {k : Nat} {C : Nat → List A → Ho → R A} (t : Cxt X c sc own k C) (s : Shared) (H : Hp) (scope : Scope) (Ca : Addr) (cl : List (Str × Addr)) (fp : List Addr) :
    Cxt (X.blk s H scope (compEnvC scope cl Ca X.env) fp) c (relS scope sc) (fun x => scope.names.lookup x == some .cell) k C where
  wd := t.wd
  N := t.N
  nd := t.nd
  sc := by
    rw [← t.sc]
    rfl
  own := fun x h => h
  calm := t.calm
  gd := t.gd
  room := t.room
theorem takes_no {X : Cx} : Takes X NoX := fun _ _ ⟨_, _, _, _, _, _, _, _, _, _, _, _, _, _, _, _, w⟩ => False.elim w
end
theorem non_is {e : E} (h : isNonE e = true) : e = .lit .non := by
  unfold isNonE at h
  split at h
  · rfl
  · cases h
theorem yes_is {e : T} (h : isYes e = true) : e = .yes := by
  unfold isYes at h
  split at h
  · rfl
  · cases h
theorem def_is {c : Ck} {f : Nat} {x : Str} (h : defB c f x = true) : ∃ d, c.G.defs[f]? = some d ∧ d.name = x := by
  unfold defB at h
  split at h
  · rename_i d hd
    exact ⟨d, hd, beq_iff_eq.mp h⟩
  · cases h
theorem ckI_noset {c : Ck} {sc : Scope} {it : I} {x tg : Expr} (h : ckI c sc it x tg = true) : isSet x = false := by
  cases x with
  | Set a b p =>
    cases it with
    | sq e => exact nomatch (show false = true from h)
    | _ => exact nomatch (show false = true from h)
  | _ => rfl
abbrev OkE (c : Ck) (k : Nat) (C : Nat → List A → Ho → R A) (sc : Scope) (e : E) (x : Expr) : Prop := ∀ (X : Cx) (own : Str → Bool) (W : WX), Cxt X c sc own k C → Takes X W → PE X x (rdE (sOf X c.G) W (evE C e))
abbrev OkA (c : Ck) (k : Nat) (C : Nat → List A → Ho → R A) (sc : Scope) (es : List E) (xs : List Expr) : Prop := ∀ (X : Cx) (own : Str → Bool) (W : WX), Cxt X c sc own k C → Takes X W → PA X xs (rdA (sOf X c.G) W (evEs C es))
abbrev OkT (c : Ck) (k : Nat) (C : Nat → List A → Ho → R A) (sc : Scope) (e : T) (x : Expr) : Prop := ∀ (X : Cx) (own : Str → Bool) (W : WX), Cxt X c sc own k C → Takes X W → PT X x (rdB (sOf X c.G) W (evT C e))
abbrev OkW (c : Ck) (k : Nat) (C : Nat → List A → Ho → R A) (sc : Scope) (e : T) (x : Expr) : Prop := ∀ (X : Cx) (own : Str → Bool) (W : WX), Cxt X c sc own k C → Takes X W → PW X x (rdB (sOf X c.G) W (evT C e))
abbrev OkI (c : Ck) (k : Nat) (C : Nat → List A → Ho → R A) (sc : Scope) (e : I) (x tg : Expr) : Prop := ∀ (X : Cx) (own : Str → Bool) (W : WX), Cxt X c sc own k C → Takes X W → PI X tg x (rdI (sOf X c.G) W (evI C e))
section
variable {c : Ck} {k : Nat} {C : Nat → List A → Ho → R A}
theorem evEs0 {es : List E} {xs : List Expr} {sc : Scope} (h : ckEs c sc es xs = true) : xs = [] → ∀ s h, evEs C es s h = .ok [] h := fun e s h' => by
  subst e
  cases es with
  | nil => rfl
  | cons => exact nomatch (show false = true from h)
mutual
theorem okE : ∀ (e : E) (sc : Scope) (x : Expr), ckE c sc e x = true → OkE c k C sc e x
  | .var i, sc, x, h => by
    cases x with
    | Name y p =>
      obtain ⟨h1, h3⟩ := and2 (show (decide (c.N[i]? = some y) && visB sc y && dbgB y) = true from h)
      obtain ⟨h1, h2⟩ := and2 h1
      exact fun X own W t tk => e_var t (of_decide_eq_true h1) h2 h3
    | _ => exact nomatch (show false = true from h)
  | .lit a, sc, x, h => by
    cases x with
    | Constant y n p => exact fun X own W t tk => e_lit (show litEq a y = true from h)
    | _ => exact nomatch (show false = true from h)
  | .glo y a, sc, x, h => by
    cases x with
    | Name z p =>
      obtain ⟨h1, h4⟩ := and2 (show (y == z && glB sc z && dbgB z && gloB c z a) = true from h)
      obtain ⟨h1, h3⟩ := and2 h1
      obtain ⟨h1, h2⟩ := and2 h1
      exact fun X own W t tk => e_glo t h2 h3 h4
    | _ => exact nomatch (show false = true from h)
  | .neg a, sc, x, h => by
    cases x with
    | UnaryOp op y p =>
      cases op with
      | USub => exact fun X own W t tk => (e_neg (okE a sc y (show ckE c sc a y = true from h) X own W t tk)).sem fun _ _ => rfl
      | _ => exact nomatch (show false = true from h)
    | _ => exact nomatch (show false = true from h)
  | .not a, sc, x, h => by
    cases x with
    | UnaryOp op y p =>
      cases op with
      | Not => exact fun X own W t tk => (e_not (okE a sc y (show ckE c sc a y = true from h) X own W t tk)).sem fun _ _ => rfl
      | _ => exact nomatch (show false = true from h)
    | _ => exact nomatch (show false = true from h)
  | .bin op a b, sc, x, h => by
    cases x with
    | BinOp y op' z p =>
      obtain ⟨h1, h3⟩ := and2 (show (opEq op op' && ckE c sc a y && ckE c sc b z) = true from h)
      obtain ⟨h1, h2⟩ := and2 h1
      have e := opEq_is h1
      subst e
      exact fun X own W t tk => (e_bin op (okE a sc y h2 X own W t tk) (okE b sc z h3 X own W t tk)).sem fun _ _ => rfl
    | _ => exact nomatch (show false = true from h)
  | .and a b, sc, x, h => by
    cases x with
    | BoolOp op xs p =>
      cases op with
      | And =>
        match xs with
        | [] => exact nomatch (show false = true from h)
        | [_] => exact nomatch (show false = true from h)
        | [y, z] =>
          obtain ⟨h1, h2⟩ := and2 (show (ckE c sc a y && ckE c sc b z) = true from h)
          exact fun X own W t tk => (e_and (okE a sc y h1 X own W t tk) (pe_one (okE b sc z h2 X own W t tk))).sem fun _ _ => rfl
        | y :: z :: v :: r =>
          obtain ⟨h1, h2⟩ := and2 (show (ckE c sc a y && ckE c sc b (.BoolOp .And (z :: v :: r) p)) = true from h)
          exact fun X own W t tk => (e_and (okE a sc y h1 X own W t tk) (okE b sc _ h2 X own W t tk)).sem fun _ _ => rfl
      | _ => exact nomatch (show false = true from h)
    | _ => exact nomatch (show false = true from h)
  | .or a b, sc, x, h => by
    cases x with
    | BoolOp op xs p =>
      cases op with
      | Or =>
        match xs with
        | [] => exact nomatch (show false = true from h)
        | [_] => exact nomatch (show false = true from h)
        | [y, z] =>
          obtain ⟨h1, h2⟩ := and2 (show (ckE c sc a y && ckE c sc b z) = true from h)
          exact fun X own W t tk => (e_or (okE a sc y h1 X own W t tk) (pe_one (okE b sc z h2 X own W t tk))).sem fun _ _ => rfl
        | y :: z :: v :: r =>
          obtain ⟨h1, h2⟩ := and2 (show (ckE c sc a y && ckE c sc b (.BoolOp .Or (z :: v :: r) p)) = true from h)
          exact fun X own W t tk => (e_or (okE a sc y h1 X own W t tk) (okE b sc _ h2 X own W t tk)).sem fun _ _ => rfl
      | _ => exact nomatch (show false = true from h)
    | _ => exact nomatch (show false = true from h)
  | .ite tt a b, sc, x, h => by
    cases x with
    | IfExp z y v p =>
      obtain ⟨h1, h3⟩ := and2 (show (ckT c sc tt z && ckE c sc a y && ckE c sc b v) = true from h)
      obtain ⟨h1, h2⟩ := and2 h1
      exact fun X own W t tk => (e_ite ((okT tt sc z h1).1 X own W t tk) (okE a sc y h2 X own W t tk) (okE b sc v h3 X own W t tk)).sem fun _ _ => rfl
    | _ => exact nomatch (show false = true from h)
  | .cmp op a b, sc, x, h => by
    cases x with
    | Compare y ops zs p =>
      match ops, zs with
      | [op'], [z] =>
        obtain ⟨h1, h4⟩ := and2 (show (cmpEq op op' && ckE c sc a y && ckE c sc b z && !isSet z) = true from h)
        obtain ⟨h1, h3⟩ := and2 h1
        obtain ⟨h1, h2⟩ := and2 h1
        have e := cmpEq_is h1
        subst e
        exact fun X own W t tk => (e_cmp t op (not1 h4) (okE a sc y h2 X own W t tk) (okE b sc z h3 X own W t tk)).sem fun _ _ => rfl
      | [], _ => exact nomatch (show false = true from h)
      | [_], [] => exact nomatch (show false = true from h)
      | [_], _ :: _ :: _ => exact nomatch (show false = true from h)
      | _ :: _ :: _, _ => exact nomatch (show false = true from h)
    | _ => exact nomatch (show false = true from h)
  | .chn op op2 a b d, sc, x, h => by
    cases x with
    | Compare y ops zs p =>
      match ops, zs with
      | [op', op2'], [z, v] =>
        obtain ⟨h1, h6⟩ := and2 (show (cmpEq op op' && cmpEq op2 op2' && ckE c sc a y && ckE c sc b z && ckE c sc d v && !isSet v) = true from h)
        obtain ⟨h1, h5⟩ := and2 h1
        obtain ⟨h1, h4⟩ := and2 h1
        obtain ⟨h1, h3⟩ := and2 h1
        obtain ⟨h1, h2⟩ := and2 h1
        have e := cmpEq_is h1
        subst e
        have e := cmpEq_is h2
        subst e
        exact fun X own W t tk => (e_chn t op op2 (not1 h6) (okE a sc y h3 X own W t tk) (okE b sc z h4 X own W t tk) (okE d sc v h5 X own W t tk)).sem fun _ _ => rfl
      | [], _ => exact nomatch (show false = true from h)
      | [_], _ => exact nomatch (show false = true from h)
      | [_, _], [] => exact nomatch (show false = true from h)
      | [_, _], [_] => exact nomatch (show false = true from h)
      | [_, _], _ :: _ :: _ :: _ => exact nomatch (show false = true from h)
      | _ :: _ :: _ :: _, _ => exact nomatch (show false = true from h)
    | _ => exact nomatch (show false = true from h)
  | .tup es, sc, x, h => by
    cases x with
    | Tuple xs n p =>
      obtain ⟨h1, h2⟩ := and2 (show (ckEs c sc es xs && Nat.ble es.length 1000) = true from h)
      exact fun X own W t tk => (e_tup (ble_le h2) (fun s h as h' => evEs_len es s h as h') (okA es sc xs h1 X own W t tk)).sem fun _ _ => rfl
    | _ => exact nomatch (show false = true from h)
  | .lst es, sc, x, h => by
    cases x with
    | List xs p =>
      obtain ⟨h1, h2⟩ := and2 (show (ckEs c sc es xs && Nat.ble es.length 1000) = true from h)
      exact fun X own W t tk => (e_lst (ble_le h2) (fun s h as h' => evEs_len es s h as h') (okA es sc xs h1 X own W t tk)).sem fun _ _ => rfl
    | _ => exact nomatch (show false = true from h)
  | .sub a i, sc, x, h => by
    cases x with
    | Subscript y z p =>
      obtain ⟨h1, h3⟩ := and2 (show (!isSlice z && ckE c sc a y && ckE c sc i z) = true from h)
      obtain ⟨h1, h2⟩ := and2 h1
      exact fun X own W t tk => (e_sub (not1 h1) (okE a sc y h2 X own W t tk) (okE i sc z h3 X own W t tk)).sem fun _ _ => rfl
    | _ => exact nomatch (show false = true from h)
  | .slc a lo hi, sc, x, h => by
    cases x with
    | Subscript y z p =>
      cases z with
      | Slice l u st p2 =>
        cases st with
        | none =>
          have hh : ckE c sc a y = true ∧ (l = none → isNonE lo = true) ∧ (∀ l0, l = some l0 → ckE c sc lo l0 = true) ∧ (u = none → isNonE hi = true) ∧ (∀ u0, u = some u0 → ckE c sc hi u0 = true) := by
            cases l <;> cases u <;> (obtain ⟨h1, h3⟩ := and2 h; obtain ⟨h1, h2⟩ := and2 h1)
            · exact ⟨h1, (fun _ => h2), (fun _ e => nomatch e), (fun _ => h3), (fun _ e => nomatch e)⟩
            · exact ⟨h1, (fun _ => h2), (fun _ e => nomatch e), (fun e => nomatch e), (fun _ e => Option.some.inj e ▸ h3)⟩
            · exact ⟨h1, (fun e => nomatch e), (fun _ e => Option.some.inj e ▸ h2), (fun _ => h3), (fun _ e => nomatch e)⟩
            · exact ⟨h1, (fun e => nomatch e), (fun _ e => Option.some.inj e ▸ h2), (fun e => nomatch e), (fun _ e => Option.some.inj e ▸ h3)⟩
          obtain ⟨h1, h2, h3, h4, h5⟩ := hh
          have g1 : ∀ X own W, Cxt X c sc own k C → Takes X W → PO X l (rdO (rdE (sOf X c.G) W (evE C lo))) := fun X own W t tk => by
            cases l with
            | none =>
              rw [non_is (h2 rfl)]
              exact o_none
            | some l => exact o_some (okE lo sc l (h3 l rfl) X own W t tk)
          have g2 : ∀ X own W, Cxt X c sc own k C → Takes X W → PO X u (rdO (rdE (sOf X c.G) W (evE C hi))) := fun X own W t tk => by
            cases u with
            | none =>
              rw [non_is (h4 rfl)]
              exact o_none
            | some u => exact o_some (okE hi sc u (h5 u rfl) X own W t tk)
          exact fun X own W t tk => (e_slc (okE a sc y h1 X own W t tk) (g1 X own W t tk) (g2 X own W t tk)).sem fun _ _ => rfl
        | some _ => exact nomatch (show false = true from h)
      | _ => exact nomatch (show false = true from h)
    | _ => exact nomatch (show false = true from h)
  | .rev a, sc, x, h => by
    cases x with
    | Subscript y z p =>
      cases z with
      | Slice l u st p2 =>
        cases l with
        | some _ => exact nomatch (show false = true from h)
        | none =>
          cases u with
          | some _ => exact nomatch (show false = true from h)
          | none =>
            cases st with
            | none => exact nomatch (show false = true from h)
            | some z =>
              cases z with
              | UnaryOp op v p3 =>
                cases op with
                | USub =>
                  cases v with
                  | Constant ct j p4 =>
                    cases ct with
                    | int i =>
                      obtain ⟨h1, h2⟩ := and2 (show (i == 1 && ckE c sc a y) = true from h)
                      have e : i = 1 := beq_iff_eq.mp h1
                      subst e
                      exact fun X own W t tk => (e_rev (okE a sc y h2 X own W t tk)).sem fun _ _ => rfl
                    | _ => exact nomatch (show false = true from h)
                  | _ => exact nomatch (show false = true from h)
                | _ => exact nomatch (show false = true from h)
              | _ => exact nomatch (show false = true from h)
      | _ => exact nomatch (show false = true from h)
    | _ => exact nomatch (show false = true from h)
  | .call f es, sc, x, h => by
    cases x with
    | Call fe args kws p =>
      cases fe with
      | Name x p0 =>
        cases kws with
        | nil =>
          obtain ⟨h1, h4⟩ := and2 (show (defB c f x && glB sc x && dbgB x && ckEs c sc es args) = true from h)
          obtain ⟨h1, h3⟩ := and2 h1
          obtain ⟨h1, h2⟩ := and2 h1
          obtain ⟨d, e1, e2⟩ := def_is h1
          exact fun X own W t tk => (e_call t tk e1 e2 h2 h3 (evEs0 h4) (ckEs_ns h4).1 (okA es sc args h4 X own W t tk)).sem fun _ _ => rfl
        | cons => exact nomatch (show false = true from h)
      | _ => exact nomatch (show false = true from h)
    | _ => exact nomatch (show false = true from h)
  | .cval f es, sc, x, h => by
    cases x with
    | Call fe args kws p =>
      cases fe with
      | Subscript y z p0 =>
        cases kws with
        | nil =>
          obtain ⟨h1, h2⟩ := and2 (show (ckE c sc f (.Subscript y z p0) && ckEs c sc es args) = true from h)
          exact fun X own W t tk => (e_cval t tk (okE f sc _ h1 X own W t tk) (evEs0 h2) (ckEs_ns h2).1 (okA es sc args h2 X own W t tk)).sem fun _ _ => rfl
        | cons => exact nomatch (show false = true from h)
      | _ => exact nomatch (show false = true from h)
    | _ => exact nomatch (show false = true from h)
  | .isi T e, sc, x, h => by
    cases x with
    | Call fe args kws p =>
      cases fe with
      | Name x p0 =>
        match args with
        | [] => exact nomatch (show false = true from h)
        | [_] => exact nomatch (show false = true from h)
        | y :: w :: r =>
          cases w with
          | Name z p1 =>
            cases r with
            | cons => exact nomatch (show false = true from h)
            | nil =>
            cases kws with
            | nil =>
              obtain ⟨h1, h7⟩ := and2 (show (x == ("isinstance" : Str) && glB sc x && z == (T : Str) && glB sc z && isiT T && !isStar y && ckE c sc e y) = true from h)
              obtain ⟨h1, h6⟩ := and2 h1
              obtain ⟨h1, h5⟩ := and2 h1
              obtain ⟨h1, h4⟩ := and2 h1
              obtain ⟨h1, h3⟩ := and2 h1
              obtain ⟨h1, h2⟩ := and2 h1
              have e1 := beq_iff_eq.mp h1
              have e3 := beq_iff_eq.mp h3
              subst e1 e3
              exact fun X own W t tk => (e_isi t h5 h2 h4 (not1 h6) (okE e sc y h7 X own W t tk)).sem fun _ _ => rfl
            | cons => exact nomatch (show false = true from h)
          | _ => exact nomatch (show false = true from h)
      | _ => exact nomatch (show false = true from h)
    | _ => exact nomatch (show false = true from h)
  | .blt f es, sc, x, h => by
    cases x with
    | Call fe args kws p =>
      cases fe with
      | Name x p0 =>
        cases kws with
        | nil =>
          obtain ⟨h1, h5⟩ := and2 (show (!f.isIsi && x == (f.name : Str) && glB sc x && !args.isEmpty && ckEs c sc es args) = true from h)
          obtain ⟨h1, h4⟩ := and2 h1
          obtain ⟨h1, h3⟩ := and2 h1
          obtain ⟨h1, h2⟩ := and2 h1
          have e2 := beq_iff_eq.mp h2
          subst e2
          have hf : ∀ T, f ≠ .isi T := fun T e => by
            subst e
            cases h1
          have hne : args ≠ [] := fun e => by
            subst e
            cases h4
          exact fun X own W t tk => (e_blt t hf h3 hne (ckEs_ns h5).1 (okA es sc args h5 X own W t tk)).sem fun _ _ => rfl
        | cons => exact nomatch (show false = true from h)
      | _ => exact nomatch (show false = true from h)
    | _ => exact nomatch (show false = true from h)
  | .mth m o es, sc, x, h => by
    cases x with
    | Call fe args kws p =>
      cases fe with
      | Attribute y n ap =>
        cases kws with
        | nil =>
          obtain ⟨h1, h6⟩ := and2 (show (n == (m.name : Str) && ap.endLine == p.line && !isCall y && ckE c sc o y && ckEs c sc es args && Nat.ble args.length 20) = true from h)
          obtain ⟨h1, h5⟩ := and2 h1
          obtain ⟨h1, h4⟩ := and2 h1
          obtain ⟨h1, h3⟩ := and2 h1
          obtain ⟨h1, h2⟩ := and2 h1
          have e1 := beq_iff_eq.mp h1
          subst e1
          exact fun X own W t tk => (e_mth (not1 h3) (evEs0 h5) (ckEs_ns h5).1 (ble_le h6) (okE o sc y h4 X own W t tk) (okA es sc args h5 X own W t tk) h2).sem fun _ _ => rfl
        | cons => exact nomatch (show false = true from h)
      | _ => exact nomatch (show false = true from h)
    | _ => exact nomatch (show false = true from h)
  | .comp e g it tt ow, sc, x, h => by
    cases x with
    | ListComp x gens scope p =>
      match gens with
      | [⟨tg, iter, ifs, as⟩] =>
        have hh : as = 0 ∧ blkC c.N sc scope (ownOf c ow) = true ∧ ckI c sc it iter tg = true ∧ ckG c (relS scope sc) (fun x => scope.names.lookup x == some .cell) g tg = true ∧ Tg.within ow g = true ∧ ((ifs = [] ∧ tt = .yes) ∨ ∃ y, ifs = [y] ∧ ckT c (relS scope sc) tt y = true) ∧ ckE c (relS scope sc) e x = true := by
          match ifs with
          | [] =>
            obtain ⟨h1, h6⟩ := and2 h
            obtain ⟨h1, h5⟩ := and2 h1
            obtain ⟨h1, h4⟩ := and2 h1
            obtain ⟨h1, h3⟩ := and2 h1
            obtain ⟨h1, h2⟩ := and2 h1
            obtain ⟨h0, h1⟩ := and2 h1
            exact ⟨beq_iff_eq.mp h0, h1, h2, h3, h4, .inl ⟨rfl, yes_is h5⟩, h6⟩
          | [y] =>
            obtain ⟨h1, h6⟩ := and2 h
            obtain ⟨h1, h5⟩ := and2 h1
            obtain ⟨h1, h4⟩ := and2 h1
            obtain ⟨h1, h3⟩ := and2 h1
            obtain ⟨h1, h2⟩ := and2 h1
            obtain ⟨h0, h1⟩ := and2 h1
            exact ⟨beq_iff_eq.mp h0, h1, h2, h3, h4, .inr ⟨y, rfl, h5⟩, h6⟩
          | _ :: _ :: _ =>
            obtain ⟨h1, h6⟩ := and2 h
            obtain ⟨h1, h5⟩ := and2 h1
            exact nomatch (show false = true from h5)
        obtain ⟨h0, h1, h2, h3, h4, h5, h6⟩ := hh
        subst h0
        intro X own W t tk
        refine (e_comp t (okI it sc iter tg h2 X own W t tk) (by rw [t.N, t.sc]; exact blkOk_by h1) (fun s H Ca cl fp => okG (t.blk s H scope Ca cl fp) g tg h3) (ft := evT C tt) (fun s H Ca cl fp => ?_) (fun s H Ca cl fp => okE e (relS scope sc) x h6 _ _ NoX (t.blk s H scope Ca cl fp) takes_no) h4 (fun v => isSet_folded (ckI_noset h2) _ v)).sem fun _ _ => rfl
        rcases h5 with ⟨e1, e2⟩ | ⟨y, e1, h5⟩
        · subst e1 e2
          exact ⟨fun pins s σ H Q I ⟨r, s0, h, a, q⟩ => pts_nil.run pins s σ H Q I (q r H true .refl a.rel rfl)⟩
        · subst e1
          exact pts_one ((okT tt (relS scope sc) y h5).1 _ _ NoX (t.blk s H scope Ca cl fp) takes_no)
      | [] => exact nomatch (show false = true from h)
      | ⟨_, _, _, _⟩ :: _ :: _ => exact nomatch (show false = true from h)
    | _ => exact nomatch (show false = true from h)
theorem okA : ∀ (es : List E) (sc : Scope) (xs : List Expr), ckEs c sc es xs = true → OkA c k C sc es xs
  | [], sc, [], h => fun X own W t tk => as_nil
  | e :: es, sc, x :: xs, h => by
    obtain ⟨h1, h3⟩ := and2 (show (!isStar x && ckE c sc e x && ckEs c sc es xs) = true from h)
    obtain ⟨h1, h2⟩ := and2 h1
    exact fun X own W t tk => as_cons (not1 h1) (okE e sc x h2 X own W t tk) (okA es sc xs h3 X own W t tk)
  | [], _, _ :: _, h => nomatch (show false = true from h)
  | _ :: _, _, [], h => nomatch (show false = true from h)
theorem okT : ∀ (e : T) (sc : Scope) (x : Expr), ckT c sc e x = true → OkT c k C sc e x ∧ ((∃ op xs p, x = .BoolOp op xs p) → OkW c k C sc e x)
  | .yes, sc, x, h => nomatch (show false = true from h)
  | .and a b, sc, x, h => by
    cases x with
    | BoolOp op xs p =>
      cases op with
      | And =>
        have go : OkW c k C sc (.and a b) (.BoolOp .And xs p) := by
          match xs with
          | [] => exact nomatch (show false = true from h)
          | [_] => exact nomatch (show false = true from h)
          | [y, z] =>
            obtain ⟨h1, h2⟩ := and2 (show (ckT c sc a y && ckT c sc b z) = true from h)
            exact fun X own W t tk => t_and ((okT a sc y h1).1 X own W t tk) (pw_and1 ((okT b sc z h2).1 X own W t tk))
          | y :: z :: v :: r =>
            obtain ⟨h1, h2⟩ := and2 (show (ckT c sc a y && ckT c sc b (.BoolOp .And (z :: v :: r) p)) = true from h)
            exact fun X own W t tk => t_and ((okT a sc y h1).1 X own W t tk) ((okT b sc _ h2).2 ⟨_, _, _, rfl⟩ X own W t tk)
        exact ⟨fun X own W t tk => (go X own W t tk).pt, fun _ => go⟩
      | _ => exact nomatch (show false = true from h)
    | _ => exact nomatch (show false = true from h)
  | .or a b, sc, x, h => by
    cases x with
    | BoolOp op xs p =>
      cases op with
      | Or =>
        have go : OkW c k C sc (.or a b) (.BoolOp .Or xs p) := by
          match xs with
          | [] => exact nomatch (show false = true from h)
          | [_] => exact nomatch (show false = true from h)
          | [y, z] =>
            obtain ⟨h1, h2⟩ := and2 (show (ckT c sc a y && ckT c sc b z) = true from h)
            exact fun X own W t tk => t_or ((okT a sc y h1).1 X own W t tk) (pw_or1 ((okT b sc z h2).1 X own W t tk))
          | y :: z :: v :: r =>
            obtain ⟨h1, h2⟩ := and2 (show (ckT c sc a y && ckT c sc b (.BoolOp .Or (z :: v :: r) p)) = true from h)
            exact fun X own W t tk => t_or ((okT a sc y h1).1 X own W t tk) ((okT b sc _ h2).2 ⟨_, _, _, rfl⟩ X own W t tk)
        exact ⟨fun X own W t tk => (go X own W t tk).pt, fun _ => go⟩
      | _ => exact nomatch (show false = true from h)
    | _ => exact nomatch (show false = true from h)
  | .not a, sc, x, h => by
    cases x with
    | UnaryOp op y p =>
      cases op with
      | Not => exact ⟨fun X own W t tk => t_not ((okT a sc y (show ckT c sc a y = true from h)).1 X own W t tk), fun ⟨_, _, _, e⟩ => nomatch e⟩
      | _ => exact nomatch (show false = true from h)
    | _ => exact nomatch (show false = true from h)
  | .val e, sc, x, h => by
    obtain ⟨h1, h2⟩ := and2 (show ((isCmp x || plainT x) && ckE c sc e x) = true from h)
    refine ⟨?_, fun ⟨op, xs, p, e⟩ => by
      subst e
      cases h1⟩
    cases hx : plainT x with
    | true => exact fun X own W t tk => t_val (okE e sc x h2 X own W t tk) fun w => plain_true hx X.env w
    | false =>
      cases x with
      | Compare y ops zs p =>
        match e with
        | .cmp op a b =>
          match ops, zs with
          | [op'], [z] =>
            obtain ⟨h1, h4⟩ := and2 (show (cmpEq op op' && ckE c sc a y && ckE c sc b z && !isSet z) = true from h2)
            obtain ⟨h1, h3⟩ := and2 h1
            obtain ⟨h1, g2⟩ := and2 h1
            have e := cmpEq_is h1
            subst e
            exact fun X own W t tk => t_cmp t op (not1 h4) (okE a sc y g2 X own W t tk) (okE b sc z h3 X own W t tk)
          | [], _ => exact nomatch (show false = true from h2)
          | [_], [] => exact nomatch (show false = true from h2)
          | [_], _ :: _ :: _ => exact nomatch (show false = true from h2)
          | _ :: _ :: _, _ => exact nomatch (show false = true from h2)
        | .chn op op2 a b d =>
          match ops, zs with
          | [op', op2'], [z, v] =>
            obtain ⟨h1, h6⟩ := and2 (show (cmpEq op op' && cmpEq op2 op2' && ckE c sc a y && ckE c sc b z && ckE c sc d v && !isSet v) = true from h2)
            obtain ⟨h1, h5⟩ := and2 h1
            obtain ⟨h1, h4⟩ := and2 h1
            obtain ⟨h1, h3⟩ := and2 h1
            obtain ⟨h1, g2⟩ := and2 h1
            have e := cmpEq_is h1
            subst e
            have e := cmpEq_is g2
            subst e
            exact fun X own W t tk => t_chn t op op2 (not1 h6) (okE a sc y h3 X own W t tk) (okE b sc z h4 X own W t tk) (okE d sc v h5 X own W t tk)
          | [], _ => exact nomatch (show false = true from h2)
          | [_], _ => exact nomatch (show false = true from h2)
          | [_, _], [] => exact nomatch (show false = true from h2)
          | [_, _], [_] => exact nomatch (show false = true from h2)
          | [_, _], _ :: _ :: _ :: _ => exact nomatch (show false = true from h2)
          | _ :: _ :: _ :: _, _ => exact nomatch (show false = true from h2)
        | .var .. | .lit .. | .glo .. | .neg .. | .not .. | .bin .. | .and .. | .or .. | .ite .. | .tup .. | .lst .. | .sub .. | .slc .. | .rev .. | .call .. | .cval .. | .blt .. | .isi .. | .mth .. | .comp .. => exact nomatch (show false = true from h2)
      | _ =>
        rw [hx] at h1
        exact nomatch (show false = true from h1)
theorem okI : ∀ (e : I) (sc : Scope) (x tg : Expr), ckI c sc e x tg = true → OkI c k C sc e x tg
  | .sq e, sc, x, tg, h => by
    obtain ⟨_, h2⟩ := and2 (show (!isSet x && ckE c sc e x) = true from h)
    exact fun X own W t tk => i_sq (okE e sc x h2 X own W t tk)
  | .rg es, sc, x, tg, h => by
    cases x with
    | Call fe args kws p =>
      cases fe with
      | Name x p0 =>
        cases kws with
        | nil =>
          obtain ⟨h1, h4⟩ := and2 (show (x == ("range" : Str) && glB sc x && (Nat.beq args.length 1 || Nat.beq args.length 2) && ckEs c sc es args) = true from h)
          obtain ⟨h1, h3⟩ := and2 h1
          obtain ⟨h1, h2⟩ := and2 h1
          have e1 := beq_iff_eq.mp h1
          subst e1
          obtain ⟨n1, n2⟩ := ckEs_ns h4
          match args with
          | [y] =>
            obtain ⟨m1, _⟩ := and2 (show (!isStar y && noStars []) = true from n1)
            exact fun X own W t tk => i_rg1 t h2 (not1 m1) (fun s h as h' e => (evEs_len es s h as h' e).trans n2) (okA es sc [y] h4 X own W t tk)
          | [y, z] =>
            obtain ⟨m1, m2⟩ := and2 (show (!isStar y && noStars [z]) = true from n1)
            obtain ⟨m2, _⟩ := and2 (show (!isStar z && noStars []) = true from m2)
            exact fun X own W t tk => i_rg2 t h2 (not1 m1) (not1 m2) (fun s h as h' e => (evEs_len es s h as h' e).trans n2) (okA es sc [y, z] h4 X own W t tk)
          | [] => exact nomatch (show false = true from h3)
          | _ :: _ :: _ :: _ => exact nomatch (show false = true from h3)
        | cons => exact nomatch (show false = true from h)
      | _ => exact nomatch (show false = true from h)
    | _ => exact nomatch (show false = true from h)
  | .zp a b, sc, x, tg, h => by
    cases x with
    | Call fe args kws p =>
      cases fe with
      | Name x p0 =>
        match args, kws with
        | [y, z], [] =>
          obtain ⟨h1, h7⟩ := and2 (show (x == ("zip" : Str) && glB sc x && isTupE tg && !isStar y && !isStar z && ckE c sc a y && ckE c sc b z) = true from h)
          obtain ⟨h1, h6⟩ := and2 h1
          obtain ⟨h1, h5⟩ := and2 h1
          obtain ⟨h1, h4⟩ := and2 h1
          obtain ⟨h1, h3⟩ := and2 h1
          obtain ⟨h1, h2⟩ := and2 h1
          have e1 := beq_iff_eq.mp h1
          subst e1
          cases tg with
          | Tuple ts n p2 => exact fun X own W t tk => i_zp t h2 (not1 h4) (not1 h5) (okE a sc y h6 X own W t tk) (okE b sc z h7 X own W t tk)
          | _ => exact nomatch (show false = true from h3)
        | [], _ => exact nomatch (show false = true from h)
        | [_], _ => exact nomatch (show false = true from h)
        | [_, _], _ :: _ => exact nomatch (show false = true from h)
        | _ :: _ :: _ :: _, _ => exact nomatch (show false = true from h)
      | _ => exact nomatch (show false = true from h)
    | _ => exact nomatch (show false = true from h)
  | .en a, sc, x, tg, h => by
    cases x with
    | Call fe args kws p =>
      cases fe with
      | Name x p0 =>
        match args, kws with
        | [y], [] =>
          obtain ⟨h1, h5⟩ := and2 (show (x == ("enumerate" : Str) && glB sc x && isTupE tg && !isStar y && ckE c sc a y) = true from h)
          obtain ⟨h1, h4⟩ := and2 h1
          obtain ⟨h1, h3⟩ := and2 h1
          obtain ⟨h1, h2⟩ := and2 h1
          have e1 := beq_iff_eq.mp h1
          subst e1
          cases tg with
          | Tuple ts n p2 => exact fun X own W t tk => i_en t h2 (not1 h4) (okE a sc y h5 X own W t tk)
          | _ => exact nomatch (show false = true from h3)
        | [], _ => exact nomatch (show false = true from h)
        | [_], _ :: _ => exact nomatch (show false = true from h)
        | _ :: _ :: _, _ => exact nomatch (show false = true from h)
      | _ => exact nomatch (show false = true from h)
    | _ => exact nomatch (show false = true from h)
end
end
end Ev

/-! text Fw14 -/
set_option Elab.async false
set_option linter.all false
set_option maxRecDepth 100000
set_option maxHeartbeats 4000000
/-! Ev: an own error class whose __init__ says super().__init__(x) and keeps x. -/
namespace PySem
namespace EvX
open PySem.W PySem.Calls PyProof.Rows PySem.HandSPX
/-- the lines of such an __init__ -/
def initBody (sf rs f : Str) (p : Nat → Pos) : List Stmt :=
  [.Expr (.Call (.Attribute (.Call (.Name "super" (p 0)) [] [] (p 1)) "__init__" (p 2)) [.Name rs (p 3)] [] (p 4)) (p 5), .Assign [.Attribute (.Name sf (p 6)) f (p 7)] (.Name rs (p 8)) (p 9)]
structure XI (P : Program) (K : Frag) (C D fI cc cda : Addr) (fd : FuncData) (f sf rs : Str) : Prop where
  cls : ∃ nm q N bs bm sn sub ab col dd k0 k1 k2 k3 k5, K.lookup C = some (excClassObj nm q C N bs bm true sn sub ab col dd k0 k1 k2 k3 k5 "ValueError.__new__") ∧ refsVE bm = true
  init : findIn K (.ref C) "__init__" = some (some (.ref fI))
  fn : ∃ oc od osl, K.lookup fI = some ⟨oc, od, .func fd, osl⟩
  tyF : typeIn K (.ref fI) = some (.type "function")
  code : codeIn K fd.code fd.qualname = true
  cdaE : fd.code = .ref cda
  file : ∃ ccl cdd vs ccs file tf, K.lookup cda = some ⟨ccl, cdd, .fields vs, ccs⟩ ∧ vs[2]? = some (.str file tf) ∧ ((P.main.file : Str) == file) = true
  body : ∃ p, fd.body = .stmts (initBody sf rs f p) ∧ ((p 2).endLine == (p 4).line) = true
  bind : ∀ a b : Value, bindArgs fd ⟨[a, b], []⟩ = pure [(sf, a), (rs, b)]
  head : ∃ ar, (fd.params.posonlyargs ++ fd.params.args).head? = some ar ∧ ar.arg = sf
  kind : fd.scope.kind = .function
  co : fd.scope.isCoroutine = false
  gen : fd.scope.isGenerator = false
  nocell : ∀ x ∈ fd.scope.names, x.2 ≠ .cell
  sc1 : fd.scope.names.lookup ("super" : Str) = some .globalImplicit
  sc2 : fd.scope.names.lookup ("__class__" : Str) = some .free
  sc3 : fd.scope.names.lookup sf = some .local
  sc4 : fd.scope.names.lookup rs = some .local
  ne : (sf == rs) = false
  db1 : (sf == ("__debug__" : Str)) = false
  db2 : (rs == ("__debug__" : Str)) = false
  clo : fd.closure.lookup ("__class__" : Str) = some cc
  gl : fd.globals = mainGlobals
  bl : fd.builtins = builtinsNs
  cell : ∃ cl cld csl, K.lookup cc = some ⟨cl, cld, .cell (some (.ref D)), csl⟩
  isD : ∃ oc od cdD osl, K.lookup D = some ⟨oc, od, .cls cdD, osl⟩
  subD : mroIn K C (.ref D) = some true
  opq : nsIn K cStatics "thirdparty.any" = some none
  sup : ks_superIn K C D "__init__" = some (some (.builtin "ValueError.__init__"))
  ve : subIn K (.ref C) (.type "ValueError") = some true
  sa : findIn K (.ref C) "__setattr__" = some (some (.builtin "object.__setattr__"))
  nof : findIn K (.ref C) f = some none
  exC : subIn K (.ref C) (.type "BaseException") = some true
  tyC : typeIn K (.ref C) = some (.type "type")
  kC : keepIn K (.ref C) = true
  top : (P.main.scope.names.lookup ("super" : Str)).isSome = false
/-- the same of two fields -/
def initBody2 (sf f g : Str) (p : Nat → Pos) : List Stmt :=
  [.Expr (.Call (.Attribute (.Call (.Name "super" (p 0)) [] [] (p 1)) "__init__" (p 2)) [.Name f (p 3), .Name g (p 10)] [] (p 4)) (p 5), .Assign [.Attribute (.Name sf (p 6)) f (p 7)] (.Name f (p 8)) (p 9), .Assign [.Attribute (.Name sf (p 11)) g (p 12)] (.Name g (p 13)) (p 14)]
structure XI2 (P : Program) (K : Frag) (C D fI cc cda : Addr) (fd : FuncData) (sf f g : Str) : Prop where
  cls : ∃ nm q N bs bm sn sub ab col dd k0 k1 k2 k3 k5, K.lookup C = some (excClassObj nm q C N bs bm true sn sub ab col dd k0 k1 k2 k3 k5 "ValueError.__new__") ∧ refsVE bm = true
  init : findIn K (.ref C) "__init__" = some (some (.ref fI))
  fn : ∃ oc od osl, K.lookup fI = some ⟨oc, od, .func fd, osl⟩
  tyF : typeIn K (.ref fI) = some (.type "function")
  code : codeIn K fd.code fd.qualname = true
  cdaE : fd.code = .ref cda
  file : ∃ ccl cdd vs ccs file tf, K.lookup cda = some ⟨ccl, cdd, .fields vs, ccs⟩ ∧ vs[2]? = some (.str file tf) ∧ ((P.main.file : Str) == file) = true
  body : ∃ p, fd.body = .stmts (initBody2 sf f g p) ∧ ((p 2).endLine == (p 4).line) = true
  bind : ∀ a b e : Value, bindArgs fd ⟨[a, b, e], []⟩ = pure [(sf, a), (f, b), (g, e)]
  head : ∃ ar, (fd.params.posonlyargs ++ fd.params.args).head? = some ar ∧ ar.arg = sf
  kind : fd.scope.kind = .function
  co : fd.scope.isCoroutine = false
  gen : fd.scope.isGenerator = false
  nocell : ∀ x ∈ fd.scope.names, x.2 ≠ .cell
  sc1 : fd.scope.names.lookup ("super" : Str) = some .globalImplicit
  sc2 : fd.scope.names.lookup ("__class__" : Str) = some .free
  sc3 : fd.scope.names.lookup sf = some .local
  sc4 : fd.scope.names.lookup f = some .local
  sc5 : fd.scope.names.lookup g = some .local
  ne : (sf == f) = false
  ne2 : (sf == g) = false
  ne3 : (f == g) = false
  db1 : (sf == ("__debug__" : Str)) = false
  db2 : (f == ("__debug__" : Str)) = false
  db3 : (g == ("__debug__" : Str)) = false
  clo : fd.closure.lookup ("__class__" : Str) = some cc
  gl : fd.globals = mainGlobals
  bl : fd.builtins = builtinsNs
  cell : ∃ cl cld csl, K.lookup cc = some ⟨cl, cld, .cell (some (.ref D)), csl⟩
  isD : ∃ oc od cdD osl, K.lookup D = some ⟨oc, od, .cls cdD, osl⟩
  subD : mroIn K C (.ref D) = some true
  opq : nsIn K cStatics "thirdparty.any" = some none
  sup : ks_superIn K C D "__init__" = some (some (.builtin "ValueError.__init__"))
  ve : subIn K (.ref C) (.type "ValueError") = some true
  sa : findIn K (.ref C) "__setattr__" = some (some (.builtin "object.__setattr__"))
  nof : findIn K (.ref C) f = some none
  nog : findIn K (.ref C) g = some none
  exC : subIn K (.ref C) (.type "BaseException") = some true
  tyC : typeIn K (.ref C) = some (.type "type")
  kC : keepIn K (.ref C) = true
  top : (P.main.scope.names.lookup ("super" : Str)).isSome = false
section
variable {P : Program} {w : World} {A : Around} {E : Value → Shared → Prop} {K : Frag} {C D fI cc cda : Addr} {fd : FuncData} {f sf rs : Str} {h : Heap} {g : Array GenState} {d : Drawn} {t : Nat} {os : OsState} {R : Result → Shared → Prop}
/-- the bound __init__ of the built-in base, called -/
theorem call_mw (Xc : ∃ nm q N bs bm sn sub ab col dd k0 k1 k2 k3 k5, K.lookup C = some (excClassObj nm q C N bs bm true sn sub ab col dd k0 k1 k2 k3 k5 "ValueError.__new__") ∧ refsVE bm = true) (Xk : K.In h) {u e t0 : Addr} {vv : List Value} (hvv : vv.length ≤ sizeLine) {Q : Value → Shared → Prop} (he : h.get? e = some (HandSPX.excO C t0)) (hu : h.get? u = some (kxs_mw "ValueError.__init__" e))
    (hq : ∀ h' t1, (∀ b o, b ≠ e → h.get? b = some o → h'.get? b = some o) → h'.get? e = some (HandSPX.excO C t1) → Q .none ⟨h', g, d, t, os⟩) : wpAny (model P w) A (call (.ref u) vv) Q E ⟨h, g, d, t, os⟩ := by
  obtain ⟨nm, q, N, bs, bm, sn, sub, ab, col, dd, k0, k1, k2, k3, k5, hC, hbm⟩ := Xc
  have FB := PySem.F.excBase_ValueError
  refine wpAny_call (codeAny_of_tree ?_)
  show wpAny _ A.in1 (callAny (.ref u) ⟨vv, []⟩) _ _ _
  simp only [callAny]
  refine wpAny_bind (wpAny_load hu ?_)
  simp only [kxs_mw, show (Value.type "method-wrapper" == Value.type "method" || Value.type "method-wrapper" == Value.type "builtin_function_or_method" || Value.type "method-wrapper" == Value.type "method-wrapper") = true by decide, if_true]
  refine KFB.if_so (by decide) ?_
  refine wpAny_bind (check_bound_init FB.toExcCallFacts (Xk _ _ hC) he rfl ?_)
  refine wpAny_bind (wpAny_pure (wpAny_pure ?_))
  refine ⟨plainId_quiet FB.init.plain _, codeAny_builtin FB.initEntry ?_⟩
  exact exc_init_tree (cls := .ref C) (t0 := t0) (dv := none) (c2 := .none) (c3 := .none) (b4 := .bool false) he hvv fun h' k e' _ => hq h' _ k e'
theorem init_ev2 {o : Expr} {n rs rt : Str} {apos pos p3 p4 : Pos} {env : Env} (hl : (apos.endLine == pos.line) = true) : eval (.Call (.Attribute o n apos) [.Name rs p3, .Name rt p4] [] pos) env = (do
    let ov ← attributeBase o n env (eval o env)
    standAt apos.atName
    let (f, first) ← holding [ov] (getMethod ov n (do return (← importBound o env).getD true))
    callWith pos f first (backTo pos (starEach [.Name rs p3, .Name rt p4] env)) []) := by
  rw [arm_eval_Call]
  have hform : methodCallForm ([Expr.Name rs p3, Expr.Name rt p4].length + ([] : List Keyword).length) (backTo pos (starEach [.Name rs p3, .Name rt p4] env)) (backToKw pos (keywordEach [] env)) = true := rfl
  have hpos : methodCallPos true o env apos pos = pure pos := by
    unfold methodCallPos
    simp [hl]
  unfold methodCall
  simp only [hform, hpos, pure_bind]
  rfl
theorem init_ev {o : Expr} {n rs : Str} {apos pos p3 : Pos} {env : Env} (hl : (apos.endLine == pos.line) = true) : eval (.Call (.Attribute o n apos) [.Name rs p3] [] pos) env = (do
    let ov ← attributeBase o n env (eval o env)
    standAt apos.atName
    let (f, first) ← holding [ov] (getMethod ov n (do return (← importBound o env).getD true))
    callWith pos f first (backTo pos (starEach [.Name rs p3] env)) []) := by
  rw [arm_eval_Call]
  have hform : methodCallForm ([Expr.Name rs p3].length + ([] : List Keyword).length) (backTo pos (starEach [.Name rs p3] env)) (backToKw pos (keywordEach [] env)) = true := rfl
  have hpos : methodCallPos true o env apos pos = pure pos := by
    unfold methodCallPos
    simp [hl]
  unfold methodCall
  simp only [hform, hpos, pure_bind]
  rfl
theorem init_run {mg : Str → Option Value} {base : Heap} (X : XI P K C D fI cc cda fd f sf rs) (M0 : L2.Mod K mg base) (ms : mg "super" = none) (bk : ∀ b o, base.get? b = some o → h.get? b = some o) {e t0 : Addr} {u : Value} (nK : ∀ o, K.lookup e ≠ some o) (he : h.get? e = some (HandSPX.excO C t0)) (room : A.depth < recursionLimit)
    (hq : ∀ h' t' t1 dx, (∀ b o, b ≠ e → h.get? b = some o → h'.get? b = some o) → h.objs.size ≤ dx → dx ≠ e → h'.get? e = some { cls := .ref C, dict := some dx, data := .fields #[.ref t1, .none, .none, .none, .bool false, .none] } →
      h'.Ns1 dx (fun y => if y = f then some u else none) → R (.ok (.ret .none)) ⟨h', g, d, t', os⟩) :
    codeAny (model P w) A (.call (.ref fI) ⟨[.ref e, u], []⟩) R ⟨h, g, d, t, os⟩ := by
  have Xk : K.In h := M0.kin.keeps bk
  obtain ⟨oc, od, osl, lkf⟩ := X.fn
  obtain ⟨p, hbody, hline⟩ := X.body
  obtain ⟨ar, har, hara⟩ := X.head
  obtain ⟨ccl, cdd, vs, ccs, file, tf, lkc, hvs, hfile⟩ := X.file
  obtain ⟨cl, cld, csl, lkcell⟩ := X.cell
  obtain ⟨ocD, odD, cdD, oslD, lkD⟩ := X.isD
  obtain ⟨nm, q, N, bs, bm, sn, sub, ab, col, dd, k0, k1, k2, k3, k5, hC, hbm⟩ := X.cls
  have neS : sf ≠ rs := fun z => by
    have := X.ne
    rw [z] at this
    simp at this
  refine ks_codeAny_call_defAt room (Xk _ _ lkf) rfl (M0.nolimit.keeps bk) (codeRec_of Xk X.code) hbody (BindsTo.of_eq (X.bind _ _)) X.nocell (fun y hy => ?_) (fun h₁ hns k₁ => ?_) X.co X.gen X.kind
  · rcases List.mem_cons.mp hy with z | z
    · rw [z]
      exact X.sc3
    · rw [List.mem_singleton.mp z]
      exact X.sc4
  have hv1 : (fun x => (List.reverse [(sf, Value.ref e), (rs, u)]).lookup x) sf = some (.ref e) := by
    show List.lookup sf [(rs, u), (sf, Value.ref e)] = _
    simp [List.lookup, X.ne]
  have hv2 : (fun x => (List.reverse [(sf, Value.ref e), (rs, u)]).lookup x) rs = some u := by
    show List.lookup rs [(rs, u), (sf, Value.ref e)] = _
    simp [List.lookup]
  generalize hm : (fun x => (List.reverse [(sf, Value.ref e), (rs, u)]).lookup x) = m at hns hv1 hv2
  have X1 : K.In h₁ := Frag.In.keeps Xk k₁
  have bk1 : ∀ b o, base.get? b = some o → h₁.get? b = some o := fun b o z => k₁ b o (bk b o z)
  have he1 := k₁ _ _ he
  obtain ⟨mb, hmb, hmb2⟩ := M0.blt
  have hint : interactive (callEnv fd h.objs.size fI) = false := by
    show interactive (newEnv _ _ _ _ _ _ _ _ _) = false
    simp [interactive, newEnv, X.kind]
  have gns : ∀ {hh : Heap}, (∀ b o, base.get? b = some o → hh.get? b = some o) → hh.Ns (callEnv fd h.objs.size fI).globals mg := fun k => by
    show Heap.Ns _ fd.globals mg
    rw [X.gl]
    exact M0.glob.keeps k
  have bns : ∀ {hh : Heap}, (∀ b o, base.get? b = some o → hh.get? b = some o) → hh.Ns (callEnv fd h.objs.size fI).builtins mb := fun k => by
    show Heap.Ns _ fd.builtins mb
    rw [X.bl]
    exact hmb.keeps k
  have kk : (callEnv fd h.objs.size fI).scope.kind = .function := X.kind
  have kd3 : (callEnv fd h.objs.size fI).kindOf sf = some .local := X.sc3
  have kd4 : (callEnv fd h.objs.size fI).kindOf rs = some .local := X.sc4
  have hcode : (callEnv fd h.objs.size fI).code = .ref cda := X.cdaE
  have hcl : clsIn K C = some { name := nm, bases := bs, mro := .ref C :: bm, ns := N, qualname := q, hasDict := true, slotNames := sn, subclasses := sub, abstract := ab, collection := col, hasDel := false } := by
    unfold clsIn
    rw [hC] <;> rfl
  have hsup : alongIn K "__init__" ((List.dropWhile (· != Value.ref D) (.ref C :: bm)).drop 1) = some (some (.builtin "ValueError.__init__")) := by
    have z := X.sup
    unfold ks_superIn at z
    rw [hcl] at z
    exact z
  have hlt : ∀ {b : Addr} {o : Obj}, h.get? b = some o → b ≠ h.objs.size := fun z => Nat.ne_of_lt (Heap.lt_size z)
  refine ks_wpAt_execs_cons (ks_wpAt_Expr_any ?_ hint)
  refine ks_wpAt_MethodCall ?_ (init_ev hline)
  refine ks_wpAt_super_base (of := _) X.sc1 X.sc2 rfl rfl (X1 _ _ lkf) rfl har hcode (X1 _ _ lkc) rfl hvs hfile X.top ?_
  · refine ks_loadName_global X.kind X.sc1 (loadGlobal_builtin (gns bk1) ms (bns bk1) ((hmb2 "super" (by decide)).trans (by decide +kernel)) ⟨rfl, ?_⟩)
    refine wpAny_loadName_free X.kind X.sc2 X.clo ⟨_, X1 _ _ lkcell, rfl⟩ ?_
    rw [hara]
    refine wpAny_loadName_local X.kind X.sc3 hns hv1 ?_
    refine ks_wpAny_isType_cls (X1 _ _ lkD) rfl ⟨rfl, ?_⟩
    refine ks_wpAny_call_super (X1 _ _ lkD) rfl he1 rfl (fun c z => by cases z) (looks_mroIn X1 X.subD) (fun h₂ e2 k2 => ?_)
    have X2 : K.In h₂ := Frag.In.keeps X1 k2
    have he2 := k2 _ _ he1
    have I2 : InstAt h₂ e (HandSPX.excO C t0) C none := ⟨he2, rfl, rfl, trivial⟩
    refine kxs_getMethod kxs_ValueError e2 (looks_opaque X2 X.opq) (l₀ := .ref C :: bm) (fun A Q E s k q => wpAny_bind ((looks_clsIn X2 hcl) A _ E s k (wpAny_pure q))) rfl X2 hsup (I2.type.andThen (looks_subIn X2 X.ve)) (ks_ne X2 I2 hcl) (by decide) ?_
    have k3 : ∀ b o, h₂.get? b = some o → (h₂.push (kxs_mw "ValueError.__init__" e)).get? b = some o := fun b o z => Heap.get?_push_of_some _ z
    have hu3 : (h₂.push (kxs_mw "ValueError.__init__" e)).get? h₂.objs.size = some (kxs_mw "ValueError.__init__" e) := Heap.get?_push_size _ rfl
    generalize h₂.push (kxs_mw "ValueError.__init__" e) = h₃ at k3 hu3 ⊢
    have X3 : K.In h₃ := Frag.In.keeps X2 k3
    obtain ⟨oL, es, ep, hL, hr⟩ := hns
    have k13 : ∀ b o, h₁.get? b = some o → h₃.get? b = some o := fun b o z => k3 _ _ (k2 _ _ z)
    show wpAny _ _ (callWith _ _ _ [(false, eval (.Name rs (p 3)) (callEnv fd h.objs.size fI))] []) _ _ _
    refine kxs_callWith (i := "ValueError.__init__") (x := e) rfl (evalArgs_plain (spliced_cons ?_))
    refine wpAny_Name (wpAny_loadName_local kk kd4 ⟨oL, es, ep, k13 _ _ hL, hr⟩ hv2 (spliced_nil ⟨hu3, ?_⟩)) X.db2
    refine call_mw X.cls X3 (vv := [u]) (by show 1 ≤ sizeLine; decide) (k3 _ _ he2) hu3 (fun h₄ t1 k4 e4 => ?_)
    have X4 : K.In h₄ := fun b o z => k4 b o (fun y => by
      subst y
      exact nK o z) (X3 b o z)
    have nL : h.objs.size ≠ e := fun z => hlt he z.symm
    have hns4 : h₄.Ns h.objs.size m := ⟨oL, es, ep, k4 _ _ nL (k13 _ _ hL), hr⟩
    refine ks_wpAt_execs_cons (ks_wpAt_Assign_Attr ?_ rfl)
    refine wpAt_of_wpAny ?_
    show wpAny _ _ (eval (.Name rs (p 8)) (callEnv fd h.objs.size fI)) _ _ ⟨h₄, g, d, _, os⟩
    refine wpAny_Name (wpAny_loadName_local kk kd4 hns4 hv2 ?_) X.db2
    show wpAny _ _ (eval (.Name sf (p 6)) (callEnv fd h.objs.size fI)) _ _ ⟨h₄, g, d, _, os⟩
    refine wpAny_Name (wpAny_loadName_local kk kd3 hns4 hv1 ?_) X.db1
    refine set_plain X4 (ox := HandSPX.excO C t1) (od := none) ⟨e4, rfl, rfl, trivial⟩ X.sa ?_
    refine HandSPX.exc_osa X4 e4 hcl (show refsVE (.ref C :: bm) = true from hbm) rfl X.nof (fun h₅ tk dx k5 ndx dne he5 hns5 => ?_)
    refine wpAt_of_wpAny (wpAny_execs_nil (hq h₅ tk t1 dx (fun b o nb z => k5 b o nb (k4 b o nb (k13 b o (k₁ b o z)))) ?_ dne he5 hns5))
    exact Nat.le_trans (Nat.le_of_lt (Heap.lt_size (k4 _ _ nL (k13 _ _ hL)))) ndx
theorem init_run2 {mg : Str → Option Value} {base : Heap} {g' : Str} (X : XI2 P K C D fI cc cda fd sf f g') (M0 : L2.Mod K mg base) (ms : mg "super" = none) (bk : ∀ b o, base.get? b = some o → h.get? b = some o) {e t0 : Addr} {u u2 : Value} (nK : ∀ o, K.lookup e ≠ some o) (he : h.get? e = some (HandSPX.excO C t0)) (room : A.depth < recursionLimit)
    (hq : ∀ h' t' t1 dx, (∀ b o, b ≠ e → h.get? b = some o → h'.get? b = some o) → h.objs.size ≤ dx → dx ≠ e → h'.get? e = some { cls := .ref C, dict := some dx, data := .fields #[.ref t1, .none, .none, .none, .bool false, .none] } →
      h'.Ns1 dx (fun y => if y = g' then some u2 else if y = f then some u else none) → R (.ok (.ret .none)) ⟨h', g, d, t', os⟩) :
    codeAny (model P w) A (.call (.ref fI) ⟨[.ref e, u, u2], []⟩) R ⟨h, g, d, t, os⟩ := by
  have Xk : K.In h := M0.kin.keeps bk
  obtain ⟨oc, od, osl, lkf⟩ := X.fn
  obtain ⟨p, hbody, hline⟩ := X.body
  obtain ⟨ar, har, hara⟩ := X.head
  obtain ⟨ccl, cdd, vs, ccs, file, tf, lkc, hvs, hfile⟩ := X.file
  obtain ⟨cl, cld, csl, lkcell⟩ := X.cell
  obtain ⟨ocD, odD, cdD, oslD, lkD⟩ := X.isD
  obtain ⟨nm, q, N, bs, bm, sn, sub, ab, col, dd, k0, k1, k2, k3, k5, hC, hbm⟩ := X.cls
  refine ks_codeAny_call_defAt room (Xk _ _ lkf) rfl (M0.nolimit.keeps bk) (codeRec_of Xk X.code) hbody (BindsTo.of_eq (X.bind _ _ _)) X.nocell (fun y hy => ?_) (fun h₁ hns k₁ => ?_) X.co X.gen X.kind
  · rcases List.mem_cons.mp hy with z | z
    · rw [z]
      exact X.sc3
    · rcases List.mem_cons.mp z with z | z
      · rw [z]
        exact X.sc4
      · rw [List.mem_singleton.mp z]
        exact X.sc5
  have hv1 : (fun x => (List.reverse [(sf, Value.ref e), (f, u), (g', u2)]).lookup x) sf = some (.ref e) := by
    show List.lookup sf [(g', u2), (f, u), (sf, Value.ref e)] = _
    simp [List.lookup, X.ne, X.ne2]
  have hv2 : (fun x => (List.reverse [(sf, Value.ref e), (f, u), (g', u2)]).lookup x) f = some u := by
    show List.lookup f [(g', u2), (f, u), (sf, Value.ref e)] = _
    simp [List.lookup, X.ne3]
  have hv3 : (fun x => (List.reverse [(sf, Value.ref e), (f, u), (g', u2)]).lookup x) g' = some u2 := by
    show List.lookup g' [(g', u2), (f, u), (sf, Value.ref e)] = _
    simp [List.lookup]
  generalize hm : (fun x => (List.reverse [(sf, Value.ref e), (f, u), (g', u2)]).lookup x) = m at hns hv1 hv2 hv3
  have X1 : K.In h₁ := Frag.In.keeps Xk k₁
  have bk1 : ∀ b o, base.get? b = some o → h₁.get? b = some o := fun b o z => k₁ b o (bk b o z)
  have he1 := k₁ _ _ he
  obtain ⟨mb, hmb, hmb2⟩ := M0.blt
  have hint : interactive (callEnv fd h.objs.size fI) = false := by
    show interactive (newEnv _ _ _ _ _ _ _ _ _) = false
    simp [interactive, newEnv, X.kind]
  have gns : ∀ {hh : Heap}, (∀ b o, base.get? b = some o → hh.get? b = some o) → hh.Ns (callEnv fd h.objs.size fI).globals mg := fun k => by
    show Heap.Ns _ fd.globals mg
    rw [X.gl]
    exact M0.glob.keeps k
  have bns : ∀ {hh : Heap}, (∀ b o, base.get? b = some o → hh.get? b = some o) → hh.Ns (callEnv fd h.objs.size fI).builtins mb := fun k => by
    show Heap.Ns _ fd.builtins mb
    rw [X.bl]
    exact hmb.keeps k
  have kk : (callEnv fd h.objs.size fI).scope.kind = .function := X.kind
  have kd3 : (callEnv fd h.objs.size fI).kindOf sf = some .local := X.sc3
  have kd4 : (callEnv fd h.objs.size fI).kindOf f = some .local := X.sc4
  have kd5 : (callEnv fd h.objs.size fI).kindOf g' = some .local := X.sc5
  have hcode : (callEnv fd h.objs.size fI).code = .ref cda := X.cdaE
  have hcl : clsIn K C = some { name := nm, bases := bs, mro := .ref C :: bm, ns := N, qualname := q, hasDict := true, slotNames := sn, subclasses := sub, abstract := ab, collection := col, hasDel := false } := by
    unfold clsIn
    rw [hC] <;> rfl
  have hsup : alongIn K "__init__" ((List.dropWhile (· != Value.ref D) (.ref C :: bm)).drop 1) = some (some (.builtin "ValueError.__init__")) := by
    have z := X.sup
    unfold ks_superIn at z
    rw [hcl] at z
    exact z
  have hlt : ∀ {b : Addr} {o : Obj}, h.get? b = some o → b ≠ h.objs.size := fun z => Nat.ne_of_lt (Heap.lt_size z)
  refine ks_wpAt_execs_cons (ks_wpAt_Expr_any ?_ hint)
  refine ks_wpAt_MethodCall ?_ (init_ev2 hline)
  refine ks_wpAt_super_base (of := _) X.sc1 X.sc2 rfl rfl (X1 _ _ lkf) rfl har hcode (X1 _ _ lkc) rfl hvs hfile X.top ?_
  · refine ks_loadName_global X.kind X.sc1 (loadGlobal_builtin (gns bk1) ms (bns bk1) ((hmb2 "super" (by decide)).trans (by decide +kernel)) ⟨rfl, ?_⟩)
    refine wpAny_loadName_free X.kind X.sc2 X.clo ⟨_, X1 _ _ lkcell, rfl⟩ ?_
    rw [hara]
    refine wpAny_loadName_local X.kind X.sc3 hns hv1 ?_
    refine ks_wpAny_isType_cls (X1 _ _ lkD) rfl ⟨rfl, ?_⟩
    refine ks_wpAny_call_super (X1 _ _ lkD) rfl he1 rfl (fun c z => by cases z) (looks_mroIn X1 X.subD) (fun h₂ e2 k2 => ?_)
    have X2 : K.In h₂ := Frag.In.keeps X1 k2
    have he2 := k2 _ _ he1
    have I2 : InstAt h₂ e (HandSPX.excO C t0) C none := ⟨he2, rfl, rfl, trivial⟩
    refine kxs_getMethod kxs_ValueError e2 (looks_opaque X2 X.opq) (l₀ := .ref C :: bm) (fun A Q E s k q => wpAny_bind ((looks_clsIn X2 hcl) A _ E s k (wpAny_pure q))) rfl X2 hsup (I2.type.andThen (looks_subIn X2 X.ve)) (ks_ne X2 I2 hcl) (by decide) ?_
    have k3 : ∀ b o, h₂.get? b = some o → (h₂.push (kxs_mw "ValueError.__init__" e)).get? b = some o := fun b o z => Heap.get?_push_of_some _ z
    have hu3 : (h₂.push (kxs_mw "ValueError.__init__" e)).get? h₂.objs.size = some (kxs_mw "ValueError.__init__" e) := Heap.get?_push_size _ rfl
    generalize h₂.push (kxs_mw "ValueError.__init__" e) = h₃ at k3 hu3 ⊢
    have X3 : K.In h₃ := Frag.In.keeps X2 k3
    obtain ⟨oL, es, ep, hL, hr⟩ := hns
    have k13 : ∀ b o, h₁.get? b = some o → h₃.get? b = some o := fun b o z => k3 _ _ (k2 _ _ z)
    show wpAny _ _ (callWith _ _ _ [(false, eval (.Name f (p 3)) (callEnv fd h.objs.size fI)), (false, eval (.Name g' (p 10)) (callEnv fd h.objs.size fI))] []) _ _ _
    refine kxs_callWith (i := "ValueError.__init__") (x := e) rfl (evalArgs_plain (spliced_cons ?_))
    refine wpAny_Name (wpAny_loadName_local kk kd4 ⟨oL, es, ep, k13 _ _ hL, hr⟩ hv2 (spliced_cons ?_)) X.db2
    refine wpAny_Name (wpAny_loadName_local kk kd5 ⟨oL, es, ep, k13 _ _ hL, hr⟩ hv3 (spliced_nil ⟨hu3, ?_⟩)) X.db3
    refine call_mw X.cls X3 (vv := [u, u2]) (by show 2 ≤ sizeLine; decide) (k3 _ _ he2) hu3 (fun h₄ t1 k4 e4 => ?_)
    have X4 : K.In h₄ := fun b o z => k4 b o (fun y => by
      subst y
      exact nK o z) (X3 b o z)
    have nL : h.objs.size ≠ e := fun z => hlt he z.symm
    have hns4 : h₄.Ns h.objs.size m := ⟨oL, es, ep, k4 _ _ nL (k13 _ _ hL), hr⟩
    refine ks_wpAt_execs_cons (ks_wpAt_Assign_Attr ?_ rfl)
    refine wpAt_of_wpAny ?_
    show wpAny _ _ (eval (.Name f (p 8)) (callEnv fd h.objs.size fI)) _ _ ⟨h₄, g, d, _, os⟩
    refine wpAny_Name (wpAny_loadName_local kk kd4 hns4 hv2 ?_) X.db2
    show wpAny _ _ (eval (.Name sf (p 6)) (callEnv fd h.objs.size fI)) _ _ ⟨h₄, g, d, _, os⟩
    refine wpAny_Name (wpAny_loadName_local kk kd3 hns4 hv1 ?_) X.db1
    refine set_plain X4 (ox := HandSPX.excO C t1) (od := none) ⟨e4, rfl, rfl, trivial⟩ X.sa ?_
    refine HandSPX.exc_osa X4 e4 hcl (show refsVE (.ref C :: bm) = true from hbm) rfl X.nof (fun h₅ tk dx k5 ndx dne he5 hns5 => ?_)
    have e5 : ∀ b o, b ≠ e → h₄.get? b = some o → h₅.get? b = some o := k5
    have X5 : K.In h₅ := fun b o z => e5 b o (fun y => by
      subst y
      exact nK o z) (X4 b o z)
    have hns5' : h₅.Ns h.objs.size m := ⟨oL, es, ep, e5 _ _ nL (k4 _ _ nL (k13 _ _ hL)), hr⟩
    have ndL : dx ≠ h.objs.size := fun z => by
      have h1 := Heap.lt_size (k4 _ _ nL (k13 _ _ hL))
      have h2 : h₄.objs.size ≤ dx := ndx
      rw [z] at h2
      exact absurd h1 (Nat.not_lt.mpr h2)
    refine ks_wpAt_execs_cons (ks_wpAt_Assign_Attr ?_ rfl)
    refine wpAt_of_wpAny ?_
    show wpAny _ _ (eval (.Name g' (p 13)) (callEnv fd h.objs.size fI)) _ _ ⟨h₅, g, d, _, os⟩
    refine wpAny_Name (wpAny_loadName_local kk kd5 hns5' hv3 ?_) X.db3
    show wpAny _ _ (eval (.Name sf (p 11)) (callEnv fd h.objs.size fI)) _ _ ⟨h₅, g, d, _, os⟩
    refine wpAny_Name (wpAny_loadName_local kk kd3 hns5' hv1 ?_) X.db1
    obtain ⟨oD, esD, epD, hoD, hdD⟩ := id hns5
    refine set_plain X5 (ox := { cls := .ref C, dict := some dx, data := .fields #[.ref t1, .none, .none, .none, .bool false, .none] }) (od := some oD) ⟨he5, rfl, rfl, hoD⟩ X.sa ?_
    refine OEX.osa_old X5 he5 hns5 (nl := [f]) (fun y hy => by
      by_cases q : y = f
      · rw [q]
        exact List.mem_cons_self
      · exact absurd (if_neg q) hy) (by show 1 ≤ 1000; decide) hcl (show refsVE (.ref C :: bm) = true from hbm) rfl X.nog (fun h₆ tk6 k6 hns6 => ?_)
    refine wpAt_of_wpAny (wpAny_execs_nil (hq h₆ tk6 t1 dx (fun b o nb z => ?_) ?_ dne (k6 _ _ (Ne.symm dne) he5) hns6))
    · have z5 := e5 b o nb (k4 b o nb (k13 b o (k₁ b o z)))
      refine k6 b o (fun y => ?_) z5
      have h1 := Heap.lt_size z
      have h2 : h₄.objs.size ≤ dx := ndx
      have h3 := Heap.lt_size (k4 _ _ nL (k13 _ _ hL))
      rw [y] at h1
      exact absurd (Nat.lt_of_lt_of_le h1 (Nat.le_of_lt h3)) (Nat.not_lt.mpr h2)
    · exact Nat.le_trans (Nat.le_of_lt (Heap.lt_size (k4 _ _ nL (k13 _ _ hL)))) ndx
end
end EvX
end PySem

namespace Ev
open PySem PySem.Spec PyProof.Rows L2
section
variable {X : Cx} {c : Ck} {sc : Scope} {own : Str → Bool} {k : Nat} {C : Nat → List A → Ho → R A} {W : WX}
theorem pmk_xc (t : Cxt X c sc own k C) {Ca D fI cc cda : Addr} {fd : FuncData} {f sf rs x : Str} (xi : PySem.EvX.XI X.prog X.K Ca D fI cc cda fd f sf rs) (hm : X.mg x = some (.ref Ca)) (ms : X.mg "super" = none) (h1 : glB sc x = true) (h2 : dbgB x = true)
    {e : Expr} (ns : isStar e = false) {ta : TA} (ha : PA X [e] ta) {p pos : Pos} :
    PMk X (.Call (.Name x p) [e] [] pos) (fun σ H Q => ta σ H fun vs H1 => ∃ v, vs = [v] ∧ ∀ dx, H1 dx = none → Q (.ref Ca) (some dx) (upd H1 dx (.xd [(f, v)]))) := by
  intro pins s σ H Q I h
  obtain ⟨d1, _, _⟩ := dbg_of h2
  obtain ⟨nm, q, N, bs, bm, sn, sub, ab, col, dd, k0, k1, k2, k3, k5, hC, hbm⟩ := xi.cls
  refine wpAny_Call_Name_kw (ld_glob I (gl_of t h1) hm ?_ d1)
  refine PySem.W.callWith_K (h₀ := X.base) I.ok.mod.kin xi.kC (thn (ha.run pos pins s σ H _ I h) fun us s1 ⟨vs, H1, I1, r1, v, ev, q1⟩ => ⟨I1.kIn, ?_⟩) (se_cons ns) rfl
  subst ev
  cases r1 with
  | @cons _ u _ _ rv rr =>
  cases rr
  show wpAny _ _ (call (.ref Ca) [u]) _ _ _
  obtain ⟨hp, g, dr, tk, os⟩ := s1
  have kk : ∀ b o, hp.get? b = some o → ((hp.push (PySem.W.kdv_tup [u])).push (PySem.HandSPX.excO Ca hp.objs.size)).get? b = some o := fun b o e => Heap.get?_push_of_some _ (Heap.get?_push_of_some _ e)
  have hget : ((hp.push (PySem.W.kdv_tup [u])).push (PySem.HandSPX.excO Ca hp.objs.size)).get? (hp.objs.size + 1) = some (PySem.HandSPX.excO Ca hp.objs.size) := by heap_get
  have nK : ∀ o, X.K.lookup (hp.objs.size + 1) ≠ some o := fun o z => by
    have := Heap.lt_size (I1.kIn _ _ z)
    have this : hp.objs.size + 1 < hp.objs.size := this
    omega
  refine wpAny_call (PySem.HandSPX.call_own F.excBase_ValueError (fun Y => PySem.HandSPX.refsVE_contains Y bm hbm) (I1.kIn _ _ hC) (PySem.W.looks_findIn I1.kIn xi.init) (fun self => PySem.W.bind_fn I1.kIn self xi.tyF) (by show 1 ≤ sizeLine; decide)
    (PySem.EvX.init_run xi I1.mod ms (fun b o z => kk b o (I1.bk b o z)) nK hget ?_ fun h' t' t1 dx kp le ne he' hns => ?_))
  · rw [make_depth]
    have := t.room.dp
    omega
  · have hsz : hp.objs.size ≤ dx := by
      have : ((hp.push (PySem.W.kdv_tup [u])).push (PySem.HandSPX.excO Ca hp.objs.size)).objs.size ≤ dx := le
      rw [Heap.size_push, Heap.size_push] at this
      omega
    have hdn : H1 dx = none := I1.hok.fresh hsz
    have hen : H1 (hp.objs.size + 1) = none := I1.hok.fresh (Nat.le_succ _)
    have kG : ∀ b o, hp.get? b = some o → (PySem.W.hideAll h' [hp.objs.size + 1]).get? b = some o := fun b o z => by
      have nb : b ≠ hp.objs.size + 1 := fun y => by
        subst y
        exact absurd (Heap.lt_size z) (Nat.not_lt.mpr (Nat.le_succ _))
      exact PySem.W.hideAll_get _ (kp b o nb (kk b o z)) (by simpa using nb)
    have hd : (PySem.W.hideAll h' [hp.objs.size + 1]).Ns1 dx (fun y => if y = f then some u else none) := hns.at fun o z => PySem.W.hideAll_get _ z (by simpa using ne)
    have J := I1.laid (t' := t') (a := dx) (o := .xd [(f, v)]) (h' := PySem.W.hideAll h' [hp.objs.size + 1]) kG hsz ⟨_, hd, relO_put (fs := []) (mA := fun _ => none) rv fun g => True.intro⟩
    refine ⟨rfl, hp.objs.size + 1, _, _, ⟨PySem.W.hideAll h' [hp.objs.size + 1], g, dr, t', os⟩, _, .ref Ca, some dx, rfl, J, fun b o z => PySem.W.of_hideAll _ z, PySem.W.hideAll_none _ (by simp), he', ⟨rfl, rfl⟩, rfl, rfl, ?_, rfl, I1.bare, raises_own xi.exC xi.tyC, q1 dx hdn⟩
    rw [upd_ne (Ne.symm ne)]
    exact hen
theorem lookup_two {f g y : Str} {v v2 : V} (n : (f == g) = false) : ([(f, v), (g, v2)] : List (Str × V)).lookup y = [(g, v2), (f, v)].lookup y := by
  unfold List.lookup
  by_cases q : y = f
  · subst q
    simp [List.lookup, n]
  · have q' : (y == f) = false := by simpa using q
    simp [List.lookup, q']
theorem pmk_xc2 (t : Cxt X c sc own k C) {Ca D fI cc cda : Addr} {fd : FuncData} {f sf g' x : Str} (xi : PySem.EvX.XI2 X.prog X.K Ca D fI cc cda fd sf f g') (hm : X.mg x = some (.ref Ca)) (ms : X.mg "super" = none) (h1 : glB sc x = true) (h2 : dbgB x = true)
    {e e2 : Expr} (ns : isStar e = false) (ns2 : isStar e2 = false) {ta : TA} (ha : PA X [e, e2] ta) {p pos : Pos} :
    PMk X (.Call (.Name x p) [e, e2] [] pos) (fun σ H Q => ta σ H fun vs H1 => ∃ v v2, vs = [v, v2] ∧ ∀ dx, H1 dx = none → Q (.ref Ca) (some dx) (upd H1 dx (.xd [(f, v), (g', v2)]))) := by
  intro pins s σ H Q I h
  obtain ⟨d1, _, _⟩ := dbg_of h2
  obtain ⟨nm, q, N, bs, bm, sn, sub, ab, col, dd, k0, k1, k2, k3, k5, hC, hbm⟩ := xi.cls
  refine wpAny_Call_Name_kw (ld_glob I (gl_of t h1) hm ?_ d1)
  refine PySem.W.callWith_K (h₀ := X.base) I.ok.mod.kin xi.kC (thn (ha.run pos pins s σ H _ I h) fun us s1 ⟨vs, H1, I1, r1, v, v2, ev, q1⟩ => ⟨I1.kIn, ?_⟩) (se_cons ns) (by rw [se_cons ns2]; rfl)
  subst ev
  cases r1 with
  | @cons _ u _ _ rv rr =>
  cases rr with
  | @cons _ u2 _ _ rv2 rr2 =>
  cases rr2
  show wpAny _ _ (call (.ref Ca) [u, u2]) _ _ _
  obtain ⟨hp, g, dr, tk, os⟩ := s1
  have kk : ∀ b o, hp.get? b = some o → ((hp.push (PySem.W.kdv_tup [u, u2])).push (PySem.HandSPX.excO Ca hp.objs.size)).get? b = some o := fun b o e => Heap.get?_push_of_some _ (Heap.get?_push_of_some _ e)
  have hget : ((hp.push (PySem.W.kdv_tup [u, u2])).push (PySem.HandSPX.excO Ca hp.objs.size)).get? (hp.objs.size + 1) = some (PySem.HandSPX.excO Ca hp.objs.size) := by heap_get
  have nK : ∀ o, X.K.lookup (hp.objs.size + 1) ≠ some o := fun o z => by
    have := Heap.lt_size (I1.kIn _ _ z)
    have this : hp.objs.size + 1 < hp.objs.size := this
    omega
  refine wpAny_call (PySem.HandSPX.call_own F.excBase_ValueError (fun Y => PySem.HandSPX.refsVE_contains Y bm hbm) (I1.kIn _ _ hC) (PySem.W.looks_findIn I1.kIn xi.init) (fun self => PySem.W.bind_fn I1.kIn self xi.tyF) (by show 2 ≤ sizeLine; decide)
    (PySem.EvX.init_run2 xi I1.mod ms (fun b o z => kk b o (I1.bk b o z)) nK hget ?_ fun h' t' t1 dx kp le ne he' hns => ?_))
  · rw [make_depth]
    have := t.room.dp
    omega
  · have hsz : hp.objs.size ≤ dx := by
      have : ((hp.push (PySem.W.kdv_tup [u, u2])).push (PySem.HandSPX.excO Ca hp.objs.size)).objs.size ≤ dx := le
      rw [Heap.size_push, Heap.size_push] at this
      omega
    have hdn : H1 dx = none := I1.hok.fresh hsz
    have hen : H1 (hp.objs.size + 1) = none := I1.hok.fresh (Nat.le_succ _)
    have kG : ∀ b o, hp.get? b = some o → (PySem.W.hideAll h' [hp.objs.size + 1]).get? b = some o := fun b o z => by
      have nb : b ≠ hp.objs.size + 1 := fun y => by
        subst y
        exact absurd (Heap.lt_size z) (Nat.not_lt.mpr (Nat.le_succ _))
      exact PySem.W.hideAll_get _ (kp b o nb (kk b o z)) (by simpa using nb)
    have hd : (PySem.W.hideAll h' [hp.objs.size + 1]).Ns1 dx (fun y => if y = g' then some u2 else if y = f then some u else none) := hns.at fun o z => PySem.W.hideAll_get _ z (by simpa using ne)
    have J := I1.laid (t' := t') (a := dx) (o := .xd [(f, v), (g', v2)]) (h' := PySem.W.hideAll h' [hp.objs.size + 1]) kG hsz ⟨_, hd, fun y => by
      rw [lookup_two xi.ne3]
      exact relO_put (f := g') rv2 (relO_put (f := f) (fs := []) (mA := fun _ => none) rv fun g => True.intro) y⟩
    refine ⟨rfl, hp.objs.size + 1, _, _, ⟨PySem.W.hideAll h' [hp.objs.size + 1], g, dr, t', os⟩, _, .ref Ca, some dx, rfl, J, fun b o z => PySem.W.of_hideAll _ z, PySem.W.hideAll_none _ (by simp), he', ⟨rfl, rfl⟩, rfl, rfl, ?_, rfl, I1.bare, raises_own xi.exC xi.tyC, q1 dx hdn⟩
    rw [upd_ne (Ne.symm ne)]
    exact hen
end
end Ev

/-! text Fw15 -/
set_option Elab.async false
set_option linter.all false
set_option maxRecDepth 100000
set_option maxHeartbeats 4000000
/-! Ev: several except clauses, with names. -/
namespace Ev
open PySem PySem.Spec PyProof.Rows L2
abbrev SuT := Addr → Value → Option Addr → TS
/-- behind a suite its name's slot is empty -/
def gone (D : Ends) (j : Nat) : Ends := ⟨fun σ H => D.nx (σ.set j none) H, D.rt, fun σ H => D.bk (σ.set j none) H, fun σ H => D.ct (σ.set j none) H⟩
def onHd (D : Ends) (i : Option Nat) (ts : SuT) (a : Addr) (cls : Value) (d : Option Addr) (σ : L2.St) (H : Hp) : Prop := match i with
  | none => ts a cls d D σ H
  | some j => ts a cls d (gone D j) (σ.set j (some (.ref a))) H
def wHds (K : PySem.W.Frag) (Wout : WX) (D : Ends) : List (Value × Option Nat × SuT) → WX
  | [] => Wout
  | (c, i, ts) :: r => fun cls d σ H => ∃ b, PySem.W.exmOne K cls c = some b ∧ (b = true → ∀ a, H a = none → onHd D i ts a cls d σ H) ∧ (b = false → wHds K Wout D r cls d σ H)
inductive Clauses (X : Cx) : List ExceptHandler → List (Value × Option Nat × SuT) → Prop
  | nil : Clauses X [] []
  | plain {x : Str} {c : Value} {ts : SuT} {b0 : Stmt} {bs : List Stmt} {p1 p2 : Pos} {hs : List ExceptHandler} {l : List (Value × Option Nat × SuT)} (hc : Names X x c)
      (su : ∀ (a : Addr) (oe : Obj) (cls : Value) (d : Option Addr) (pn : List (Addr × Obj)), Zc cls d oe → (∃ vs, oe.data = .fields vs) → PSs (X.suite a ((a, oe) :: pn)) (b0 :: bs) (ts a cls d)) (r : Clauses X hs l) :
      Clauses X (.ExceptHandler (some (.Name x p1)) none (b0 :: bs) p2 :: hs) ((c, none, ts) :: l)
  | named {x n : Str} {j : Nat} {c : Value} {ts : SuT} {b0 : Stmt} {bs : List Stmt} {p1 p2 : Pos} {hs : List ExceptHandler} {l : List (Value × Option Nat × SuT)} (hc : Names X x c) (hn : X.N[j]? = some n) (hk : X.env.kindOf n = some .local)
      (su : ∀ (a : Addr) (oe : Obj) (cls : Value) (d : Option Addr) (pn : List (Addr × Obj)), Zc cls d oe → (∃ vs, oe.data = .fields vs) → PSs (X.suite a ((a, oe) :: pn)) (b0 :: bs) (ts a cls d)) (r : Clauses X hs l) :
      Clauses X (.ExceptHandler (some (.Name x p1)) (some n) (b0 :: bs) p2 :: hs) ((c, some j, ts) :: l)
section
variable {X : Cx} {h0 : ExceptHandler} {hs : List ExceptHandler} {l : List (Value × Option Nat × SuT)} {tb : WX → TS} {Wo : WX} {body : List Stmt} {pos : Pos}
theorem sp_back {pins : List (Addr × Obj)} {xe : Value → Shared → Prop} {D : Ends} (ok : X.Ok) {f : Flow} {s : Shared} (h : SP (X.tr (X.pn ++ pins) xe) [] D f s) : SP X pins D f s := by
  cases f with
  | ret u =>
    obtain ⟨v, σ, H, J, rv, q⟩ := h
    exact ⟨v, σ, H, J.ofTry ok, rv, q⟩
  | next =>
    obtain ⟨σ, H, J, q⟩ := h
    exact ⟨σ, H, J.ofTry ok, q⟩
  | brk =>
    obtain ⟨σ, H, J, q⟩ := h
    exact ⟨σ, H, J.ofTry ok, q⟩
  | cont =>
    obtain ⟨σ, H, J, q⟩ := h
    exact ⟨σ, H, J.ofTry ok, q⟩
theorem sp_suite {pins : List (Addr × Obj)} {a : Addr} {oe : Obj} {D : Ends} (ok : X.Ok) {f : Flow} {s : Shared} (h : SP (X.suite a ((a, oe) :: (X.pn ++ pins))) [] D f s) : SP X pins D f s := by
  cases f with
  | ret u =>
    obtain ⟨v, σ, H, J, rv, q⟩ := h
    exact ⟨v, σ, H, J.unsuite ok, rv, q⟩
  | next =>
    obtain ⟨σ, H, J, q⟩ := h
    exact ⟨σ, H, J.unsuite ok, q⟩
  | brk =>
    obtain ⟨σ, H, J, q⟩ := h
    exact ⟨σ, H, J.unsuite ok, q⟩
  | cont =>
    obtain ⟨σ, H, J, q⟩ := h
    exact ⟨σ, H, J.unsuite ok, q⟩
theorem sp_gone {M : Model} {A : Around} {pins : List (Addr × Obj)} {a : Addr} {oe : Obj} {D : Ends} {j : Nat} {n : Str} {p2 : Pos} {E : Value → Shared → Prop} (ok : X.Ok) (hN : X.N.Nodup) (hn : X.N[j]? = some n) (hk : X.env.kindOf n = some .local) {f : Flow} {s : Shared}
    (h : SP (X.suite a ((a, oe) :: (X.pn ++ pins))) [] (gone D j) f s) : wpAny M A (do bindName X.env n .none; unbindBehindTheSuite X.env n p2) (fun _ s' => SP X pins D f s') E s := by
  cases f with
  | ret u =>
    obtain ⟨v, σ, H, J, rv, q⟩ := h
    exact gone_ok (J.unsuite ok) hN hn hk fun s' J' => ⟨v, _, H, J', rv, q⟩
  | next =>
    obtain ⟨σ, H, J, q⟩ := h
    exact gone_ok (J.unsuite ok) hN hn hk fun s' J' => ⟨_, H, J', q⟩
  | brk =>
    obtain ⟨σ, H, J, q⟩ := h
    exact gone_ok (J.unsuite ok) hN hn hk fun s' J' => ⟨_, H, J', q⟩
  | cont =>
    obtain ⟨σ, H, J, q⟩ := h
    exact gone_ok (J.unsuite ok) hN hn hk fun s' J' => ⟨_, H, J', q⟩
theorem s_try (hst : X.stack = X.env :: X.outer) (hfl : X.env.frame = some X.env.locals) (hN : X.N.Nodup) (tk : Takes X Wo) (cl : Clauses X (h0 :: hs) l)
    (hb : ∀ (W : WX) (pn : List (Addr × Obj)) (xe : Value → Shared → Prop), Takes (X.tr pn xe) W → PassesOwn (model X.prog X.w) X.A X.env xe → PSs (X.tr pn xe) body (tb W)) :
    PS X (.Try body (h0 :: hs) [] [] pos) (fun D σ H => tb (wHds X.K Wo D l) D σ H) := by
  refine ⟨fun pins s σ H D I w => wpAny_Try_except ?_⟩
  have ok := I.ok
  have frm : X.A.frames = some (X.env :: X.outer) := ok.frames.trans (congrArg some hst)
  refine wpAny_mono ((hb _ _ (fun e s1 => wpAny (model X.prog X.w) X.A (noteFrame e X.env) (fun _ s2 => wpAny (model X.prog X.w) X.A (setFlight e none) (fun _ s3 => wpAny (model X.prog X.w) X.A (handleBy e X.env (h0 :: hs)) (SP X pins D) X.xe s3) X.xe s2) X.xe s1)
    (fun u s1 xx => ?_) PassesOwn.looking).run [] s σ H D (I.toTry _) w) (fun f s1 q => ?_) (fun _ _ z => z)
  · obtain ⟨a, B, sI, p', σ1, H1, cls, d, rfl, J1, nb, up, sky, na, os, ag, w1⟩ := xx
    have J : Inv X pins σ1 H1 sI := J1.ofTry ok
    rw [show (X.tr (X.pn ++ pins) _).stack = X.env :: X.outer from hst] at sky
    refine Sky.land Zc.steady frm hfl sky fun h3 fl3 up3 => ?_
    have J3 : Inv X pins σ1 H1 { s1 with heap := h3 } := J.landed nb fl3.1 (up.trans up3) os ag
    obtain ⟨o3, v3, g3, z3, d3⟩ := fl3.there
    have out : a ∉ frs (X.env :: X.outer) := fun m => by
      obtain ⟨_, o', g', nf⟩ := fl3.2.2.1.mem m
      rw [g3] at g'
      cases g'
      exact nf _ d3
    have nL : a ≠ X.env.locals := fun z => out (List.mem_filterMap.mpr ⟨_, List.mem_cons_self, hfl.trans (congrArg some z.symm)⟩)
    have nF : a ∉ X.fs := fun m => by
      obtain ⟨e, m1, m2⟩ := List.mem_filterMap.mp m
      exact out (List.mem_filterMap.mpr ⟨e, List.mem_cons_of_mem _ m1, m2⟩)
    have S3 := J3.suite g3 d3 na nL nF
    have ty : PySem.W.Looks (model X.prog X.w) h3 (typeOf (.ref a)) cls := fun _ _ _ _ k q => wpAny_typeOf_ref (k _ _ g3) (z3.1.symm ▸ q)
    have tst : ∀ {x : Str} {c : Value} {np : Pos}, Names X x c → ∀ {Q : Value → Shared → Prop} {E : Value → Shared → Prop}, Q c { s1 with heap := h3 } → wpAny (model X.prog X.w) (X.A.mark (some (.ref a))) (eval (.Name x np) X.env) Q E { s1 with heap := h3 } := fun {x c np} hc {Q E} q => by
      obtain ⟨m1, m2, m3 | ⟨m3, m4, m5⟩⟩ := hc
      · exact ld_glob S3 m1 m3 q m2
      · exact ld_blt S3 m1 m3 m4 q m5 m2
    -- a clause that takes it: the suite's state
    have into : ∀ h4, HandSPX.FlyingZ B (X.env :: X.outer) a (Zc cls d) h4 → h3.UpToSlots h4 → ∃ o4, Zc cls d o4 ∧ (∃ vs, o4.data = .fields vs) ∧ Inv (X.suite a ((a, o4) :: (X.pn ++ pins))) [] σ1 H1 { s1 with heap := h4 } := fun h4 fl4 up4 => by
      obtain ⟨o4, v4, g4, z4, d4⟩ := fl4.there
      exact ⟨o4, z4, ⟨v4, d4⟩, (J.landed (s' := { s1 with heap := h4 }) nb fl4.1 ((up.trans up3).trans up4) os ag).suite g4 d4 na nL nF⟩
    have each : ∀ {gs : List ExceptHandler} {m : List (Value × Option Nat × SuT)}, Clauses X gs m → wHds X.K Wo D m cls d σ1 H1 → wpAny (model X.prog X.w) X.A (handleBy (.ref a) X.env gs) (SP X pins D) X.xe { s1 with heap := h3 } := by
      intro gs m cs
      induction cs with
      | nil =>
        intro w2
        obtain ⟨_, _, _, oe, vs, T, _, _, ge, _, de, e1, _⟩ := id fl3
        refine wpAny_handleBy_nil ?_
        have on : wpAny (model X.prog X.w) X.A (setFlight (.ref a) X.env.frame) (fun _ s4 => wpAny (model X.prog X.w) X.A (throw (.ref a) : Sem Flow) (SP X pins D) X.xe s4) X.xe { s1 with heap := h3 } := by
          rw [hfl]
          exact HandSPX.setFlight_upZ fl3 fun h4 hh up4 => wpAny_throw (tk _ _ ⟨a, B, sI, pins, σ1, H1, cls, d, rfl, J, nb, (up.trans up3).trans up4, .inr (.inr (hst ▸ hh)), na, os, ag, w2⟩)
        unfold PySem.passOn
        refine wpAny_bind (wpAny_field ge de e1 ?_)
        rw [if_neg (by simp)]
        first
          | exact wpAny_bind on
          | exact wpAny_bind (wpAny_pure (wpAny_bind on))
      | plain hc su r ih =>
        intro ⟨b, b1, yes, no⟩
        refine wpAny_handleBy_cons (codeAny_handlers_test ?_) (fun q => by cases q)
        refine tst hc ((PySem.W.exm_one (M := model X.prog X.w) J3.kIn ty b1).here ?_)
        cases b with
        | false => exact ih (no rfl)
        | true =>
          refine codeAny_handlers_suite (HandSPX.lands_againZ fl3 fun h4 fl4 up4 => ?_)
          obtain ⟨o4, z4, d4, S4⟩ := into h4 fl4 up4
          exact wpAny_mono ((su a o4 cls d (X.pn ++ pins) z4 d4).run [] _ _ H1 D S4 (yes rfl a na)) (fun f s6 q => sp_suite ok q) fun _ _ z => False.elim z
      | named hc hn hk su r ih =>
        intro ⟨b, b1, yes, no⟩
        refine wpAny_handleBy_cons (codeAny_handlers_test ?_) (fun q => by cases q)
        refine tst hc ((PySem.W.exm_one (M := model X.prog X.w) J3.kIn ty b1).here ?_)
        cases b with
        | false => exact ih (no rfl)
        | true =>
          refine codeAny_handlers_suite_as (HandSPX.lands_againZ fl3 fun h4 fl4 up4 => ?_)
          obtain ⟨o4, z4, d4, S4⟩ := into h4 fl4 up4
          refine store_ok (X := X.suite a ((a, o4) :: (X.pn ++ pins))) (v := .ref a) S4 hN hn (.inl hk) rfl (fun s5 S5 => ?_) (.inr hk)
          exact wpAny_mono ((su a o4 cls d (X.pn ++ pins) z4 d4).run [] s5 _ H1 (gone D _) S5 (yes rfl a na)) (fun f s6 q => sp_gone ok hN hn hk q) fun _ _ z => False.elim z
    exact each cl w1
  · have q2 := sp_back ok q
    cases f with
    | next => exact wpAny_execs_nil q2
    | ret u => exact q2
    | brk => exact q2
    | cont => exact q2
end
end Ev

/-! text Fw16 -/
set_option Elab.async false
set_option linter.all false
set_option maxRecDepth 100000
set_option maxHeartbeats 4000000
/-! Ev: statements, one by one. -/
namespace Ev
open PySem PySem.Spec PyProof.Rows L2
section
variable {X : Cx} {G : Pg}
theorem op_aug (op : Operator) : PIp X op (r2 (sOf X G) (augA op)) := by
  intro pins s σ H x y v u Q I rx ry hh
  obtain ⟨r, h, a, b, E, R, ta, tb, p⟩ := hh
  cases op with
  | Add =>
    cases ta with
    | int i =>
      cases tb with
      | int j => exact iop_add pins s σ H _ _ v u Q I rx ry ⟨i, j, rfl, rfl, Po.here R (.int _) p⟩
      | _ => exact False.elim p
    | str i =>
      cases tb with
      | str j =>
        have p : PoV _ r H (if lineOk (i.length + j.length) = true then .ok (.str (i ++ j)) h else .err) Q E := p
        split at p
        · rename_i z
          exact iop_add_str pins s σ H _ _ v u Q I rx ry ⟨i, j, rfl, rfl, line_le z, Po.here R (.str _) p⟩
        · exact False.elim p
      | _ => exact False.elim p
    | @ref m pa ha =>
      cases tb with
      | @ref n pb hb =>
        have p : PoV _ r H (match h[m]?, h[n]? with
          | some (.lst a), some (.lst b) => if lineOk (a.length + b.length) = true then .ok (.ref m) (setL m (a ++ b) h) else .err
          | _, _ => .err) Q E := p
        cases q1 : h[m]? with
        | none =>
          rw [q1] at p
          exact False.elim p
        | some o1 =>
          cases q2 : h[n]? with
          | none =>
            rw [q1, q2] at p
            cases o1
            exact False.elim p
          | some o2 =>
            rw [q1, q2] at p
            cases o1 with
            | lst xs =>
              cases o2 with
              | lst ys =>
                have p : PoV _ r H (if lineOk (xs.length + ys.length) = true then .ok (.ref m) (setL m (xs ++ ys) h) else .err) Q E := p
                split at p
                · rename_i z
                  obtain ⟨p1, vs, e1, f1, g1, t1⟩ := ref_lst R q1 (.ref ha)
                  obtain ⟨p2, ws, e2, f2, g2, t2⟩ := ref_lst R q2 (.ref hb)
                  cases e1
                  cases e2
                  have hz := line_le z
                  rw [t1.length, t2.length] at hz
                  exact iop_ext pins s σ H _ _ v u Q I rx ry ⟨_, _, vs, ws, rfl, rfl, g1, g2, hz, Po.put R q1 f1 (t1.app t2) (.ref ha) p⟩
                · exact False.elim p
      | _ => exact False.elim p
    | _ => exact False.elim p
  | Sub =>
    cases ta with
    | int i =>
      cases tb with
      | int j => exact iop_sub pins s σ H _ _ v u Q I rx ry ⟨i, j, rfl, rfl, Po.here R (.int _) p⟩
      | _ => exact False.elim p
    | _ => exact False.elim p
  | Mult =>
    cases ta with
    | int i =>
      cases tb with
      | int j =>
        have p : PoV _ r H (if mulOk i j = true then .ok (.int (i * j)) h else .err) Q E := p
        split at p
        · rename_i z
          obtain ⟨t, rfl⟩ := rx
          obtain ⟨t', rfl⟩ := ry
          exact imul_int ⟨.int _, H, I.tok _, ⟨_, rfl⟩, Po.here R (.int _) p⟩ (CMulW.ok (Nat.le_of_ble_eq_true z))
        · exact False.elim p
      | _ => exact False.elim p
    | _ => exact False.elim p
  | FloorDiv =>
    cases ta with
    | int i =>
      cases tb with
      | int j =>
        have p : PoV _ r H (if divOk j = true then .ok (.int (i.fdiv j)) h else .err) Q E := p
        split at p
        · rename_i z
          obtain ⟨t, rfl⟩ := rx
          obtain ⟨t', rfl⟩ := ry
          have z' := Bool.and_eq_true_iff.mp z
          exact ifloordiv_int (bne_iff_ne.mp z'.1) ⟨.int _, H, I.tok _, ⟨_, rfl⟩, Po.here R (.int _) p⟩ (.inl (PyProof.noPylong_of_log2 (Nat.le_of_ble_eq_true z'.2)))
        · exact False.elim p
      | _ => exact False.elim p
    | _ => exact False.elim p
  | Mod =>
    cases ta with
    | int i =>
      cases tb with
      | int j =>
        have p : PoV _ r H (if (j != 0) = true then .ok (.int (i.fmod j)) h else .err) Q E := p
        split at p
        · rename_i z
          obtain ⟨t, rfl⟩ := rx
          obtain ⟨t', rfl⟩ := ry
          exact imod_int (bne_iff_ne.mp z) ⟨.int _, H, I.tok _, ⟨_, rfl⟩, Po.here R (.int _) p⟩
        · exact False.elim p
      | _ => exact False.elim p
    | _ => exact False.elim p
  | _ => exact False.elim p
end
/-! ### what is wanted of a statement -/
def PoS (S : Ws) (r : List Addr) (H : Hp) (o : Ot) (D : Ends) (W : WX) : Prop := match o with
  | .nx s h => ∀ r' σ H', Step r H r' H' → At S r' s h σ H' → D.nx σ H'
  | .bk s h => ∀ r' σ H', Step r H r' H' → At S r' s h σ H' → D.bk σ H'
  | .ct s h => ∀ r' σ H', Step r H r' H' → At S r' s h σ H' → D.ct σ H'
  | .rt a h => ∀ r' H' v, Step r H r' H' → Rel S r' h H' → Ra S r' H' a v → D.rt v H'
  | .ex x s h => ∀ r' σ H' cls d, Step r H r' H' → At S r' s h σ H' → Rx S r' H' x cls d → W cls d σ H'
  | .err => False
def rdS (S : Ws) (W : WX) (f : Sl → Ho → Ot) : TS := fun D σ H => ∃ r s h, At S r s h σ H ∧ PoS S r H (f s h) D W
section
variable {S : Ws} {r r' : List Addr} {H H' : Hp} {s : Sl} {h : Ho} {σ : L2.St} {D : Ends} {W : WX} {o : Ot}
theorem PoS.from (p : PoS S r H o D W) (st : Step r H r' H') : PoS S r' H' o D W := by
  cases o with
  | nx s h => exact fun r2 σ2 H2 s2 A2 => p r2 σ2 H2 (st.trans s2) A2
  | bk s h => exact fun r2 σ2 H2 s2 A2 => p r2 σ2 H2 (st.trans s2) A2
  | ct s h => exact fun r2 σ2 H2 s2 A2 => p r2 σ2 H2 (st.trans s2) A2
  | rt a h => exact fun r2 H2 v s2 R2 t => p r2 H2 v (st.trans s2) R2 t
  | ex x s h => exact fun r2 σ2 H2 c d s2 A2 t => p r2 σ2 H2 c d (st.trans s2) A2 t
  | err => exact p
/-- an expression, then the rest -/
theorem PoS.part {α β : Type} {rel : List Addr → Hp → α → β → Prop} {res : R α} {f : α → Ho → Ot} (a : At S r s h σ H) (p : PoS S r H (res.then s f) D W) :
    Po S rel r H res (fun v H1 => ∃ r1 a1 h1, At S r1 s h1 σ H1 ∧ Step r H r1 H1 ∧ rel r1 H1 a1 v ∧ PoS S r1 H1 (f a1 h1) D W) fun cls d H' => W cls d σ H' := by
  cases res with
  | ok a1 h1 => exact fun r1 H1 v st R1 t => ⟨r1, a1, h1, a.step st R1, st, t, PoS.from p st⟩
  | exc x h1 => exact fun r1 H1 c d st R1 t => p r1 σ H1 c d st (a.step st R1) t
  | err => exact p
/-- a statement, then the rest -/
theorem PoS.seq {f : Sl → Ho → Ot} (p : PoS S r H (o.then f) D W) : PoS S r H o { D with nx := fun σ H => rdS S W f D σ H } W := by
  cases o with
  | nx s1 h1 => exact fun r1 σ1 H1 st A1 => ⟨r1, s1, h1, A1, PoS.from p st⟩
  | bk s h => exact p
  | ct s h => exact p
  | rt a h => exact p
  | ex x s h => exact p
  | err => exact p
end
theorem _root_.L2.PS.imp {X : Cx} {x : Stmt} {t t' : TS} (h : PS X x t) (q : ∀ D σ H, t' D σ H → t D σ H) : PS X x t' := ⟨fun p s σ H D I w => h.run p s σ H D I (q _ _ _ w)⟩
theorem _root_.L2.PSs.imp {X : Cx} {x : List Stmt} {t t' : TS} (h : PSs X x t) (q : ∀ D σ H, t' D σ H → t D σ H) : PSs X x t' := ⟨fun p s σ H D I w => h.run p s σ H D I (q _ _ _ w)⟩
section
variable {X : Cx} {c : Ck} {sc : Scope} {own : Str → Bool} {k : Nat} {C : Nat → List A → Ho → R A} {W : WX}
theorem s_nil {G : Pg} : PSs X [] (rdS (sOf X G) W fun s h => .nx s h) := pss_nil.imp fun D σ H ⟨r, s, h, a, q⟩ => q r σ H .refl a
theorem s_cons {G : Pg} {x : Stmt} {xs : List Stmt} {f g : Sl → Ho → Ot} (h1 : PS X x (rdS (sOf X G) W f)) (h2 : PSs X xs (rdS (sOf X G) W g)) : PSs X (x :: xs) (rdS (sOf X G) W fun s h => (f s h).then g) :=
  (pss_cons h1 h2).imp fun D σ H ⟨r, s, h, a, q⟩ => ⟨r, s, h, a, PoS.seq q⟩
theorem s_pass {G : Pg} {p : Pos} : PS X (.Pass p) (rdS (sOf X G) W fun s h => .nx s h) := ps_pass.imp fun D σ H ⟨r, s, h, a, q⟩ => q r σ H .refl a
theorem s_doc {G : Pg} {z : Str} {j : Nat} {p p2 : Pos} : PS X (.Expr (.Constant (.str z) j p) p2) (rdS (sOf X G) W fun s h => .nx s h) := ps_doc.imp fun D σ H ⟨r, s, h, a, q⟩ => q r σ H .refl a
theorem s_brk {G : Pg} {p : Pos} : PS X (.Break p) (rdS (sOf X G) W fun s h => .bk s h) := ps_break.imp fun D σ H ⟨r, s, h, a, q⟩ => q r σ H .refl a
theorem s_cnt {G : Pg} {p : Pos} : PS X (.Continue p) (rdS (sOf X G) W fun s h => .ct s h) := ps_continue.imp fun D σ H ⟨r, s, h, a, q⟩ => q r σ H .refl a
theorem s_retN {G : Pg} {p : Pos} : PS X (.Return none p) (rdS (sOf X G) W fun _ h => .rt .non h) := ps_retN.imp fun D σ H ⟨r, s, h, a, q⟩ => q r H .non .refl a.rel .non
theorem s_ret {G : Pg} {x : Expr} {p : Pos} {f : Sl → Ho → R A} (hx : PE X x (rdE (sOf X G) W f)) : PS X (.Return (some x) p) (rdS (sOf X G) W fun s h => (f s h).then s fun a h => .rt a h) :=
  (ps_ret hx).imp fun D σ H ⟨r, s, h, a, q⟩ => ⟨r, s, h, a, (PoS.part a q).mono fun v H1 ⟨r1, a1, h1, A1, st, t, q1⟩ => q1 r1 H1 v .refl A1.rel t⟩
def isComp : Expr → Bool
  | .ListComp .. => true
  | .SetComp .. => true
  | .DictComp .. => true
  | _ => false
theorem sw_no {x : Expr} (h : isComp x = false) (t : Option Expr) (l : Nat) (env : Env) : swapsWith x t l env = pure false := by
  cases x <;> first
    | rfl
    | (cases h)
theorem sw_tup {x : Expr} {ts : List Expr} {n : Nat} {p : Pos} (l : Nat) (env : Env) : swapsWithSole [.Tuple ts n p] x l env = pure false := by
  cases x <;> rfl
theorem s_exp {G : Pg} {x : Expr} {p : Pos} {f : Sl → Ho → R A} (nc : isComp x = false) (hx : PE X x (rdE (sOf X G) W f)) : PS X (.Expr x p) (rdS (sOf X G) W fun s h => (f s h).then s fun _ h => .nx s h) :=
  (ps_expr hx (sw_no nc _ _ _)).imp fun D σ H ⟨r, s, h, a, q⟩ => ⟨r, s, h, a, (PoS.part a q).mono fun v H1 ⟨r1, a1, h1, A1, st, t, q1⟩ => q1 r1 σ H1 .refl A1⟩
theorem s_ife {G : Pg} {x : Expr} {ys zs : List Stmt} {p : Pos} {tt : Sl → Ho → R Bool} {f g : Sl → Ho → Ot} (hx : PT X x (rdB (sOf X G) W tt)) (hy : PSs X ys (rdS (sOf X G) W f)) (hz : PSs X zs (rdS (sOf X G) W g)) :
    PS X (.If x ys zs p) (rdS (sOf X G) W fun s h => (tt s h).then s fun k h => if k then f s h else g s h) :=
  (ps_if hx hy hz).imp fun D σ H ⟨r, s, h, a, q⟩ => ⟨r, s, h, a, (PoS.part a q).mono fun b H1 ⟨r1, a1, h1, A1, st, t, q1⟩ => by
    subst t
    cases a1 with
    | true => exact ⟨r1, s, h1, A1, q1⟩
    | false => exact ⟨r1, s, h1, A1, q1⟩⟩
/-- a target's store, by the term -/
theorem asg_rd {S : Ws} {g : Tg} {f : Sl → Ho → R A} {gt : TG} (hg : ∀ v σ H Q, rdG S g v σ H Q → gt v σ H Q) {D : Ends} {σ : L2.St} {H : Hp} (hh : rdS S W (fun s h => (f s h).then s fun x h => match Tg.put g x s with
    | some s => .nx s h
    | none => .err) D σ H) : tAsg (rdE S W f) gt D σ H := by
  obtain ⟨r, s, h, a, q⟩ := hh
  refine ⟨r, s, h, a, (PoS.part a q).mono fun v H1 ⟨r1, a1, h1, A1, st, t, q1⟩ => hg _ _ _ _ ?_⟩
  cases e : Tg.put g a1 s with
  | none =>
    rw [e] at q1
    exact False.elim q1
  | some s' =>
    rw [e] at q1
    exact ⟨r1, s, h1, a1, s', A1, t, e, fun σ' A' _ _ => q1 r1 σ' H1 .refl A'⟩
theorem name_rd {S : Ws} {i : Nat} (v : V) (σ : L2.St) (H : Hp) (Q : L2.St → Hp → Prop) (hh : rdG S (.nm i) v σ H Q) : gName i v σ H Q := by
  obtain ⟨r, s, h, a, s', A0, t, e, q⟩ := hh
  cases e
  exact q _ ⟨A0.rel, A0.sl.set t i⟩ (List.length_set ..) fun own hw j hj => by
    obtain ⟨y, hy, e⟩ := List.any_eq_true.mp (show own.any (· == i) = true from hw)
    have e : y = i := beq_iff_eq.mp e
    subst e
    exact List.getElem?_set_ne fun z => by
      subst z
      exact hj hy
end
end Ev

/-! text Fw17 -/
set_option Elab.async false
set_option linter.all false
set_option maxRecDepth 100000
set_option maxHeartbeats 4000000
/-! Ev: loops, stores in parallel, items stored, x op= y. -/
namespace Ev
open PySem PySem.Spec PyProof.Rows L2
section
variable {X : Cx} {c : Ck} {sc : Scope} {own : Str → Bool} {k : Nat} {C : Nat → List A → Ho → R A} {W : WX}
/-- a loop's body: what it leaves is what the loop goes on from -/
theorem loop_body {S : Ws} {r : List Addr} {H : Hp} {o : Ot} {on : Sl → Ho → Ot} {D : Ends} {N : L2.St → Hp → Prop} (hN : ∀ r' σ' H' s h, Step r H r' H' → At S r' s h σ' H' → PoS S r' H' (on s h) D W → N σ' H') (q : PoS S r H (match o with
    | .nx s h => on s h
    | .ct s h => on s h
    | .bk s h => .nx s h
    | o => o) D W) : PoS S r H o { D with nx := N, ct := N, bk := D.nx } W := by
  cases o with
  | nx s h => exact fun r' σ' H' st A' => hN r' σ' H' s h st A' (PoS.from q st)
  | ct s h => exact fun r' σ' H' st A' => hN r' σ' H' s h st A' (PoS.from q st)
  | bk s h => exact q
  | rt a h => exact q
  | ex x s h => exact q
  | err => exact q
theorem s_whl {G : Pg} {x : Expr} {ys : List Stmt} {p : Pos} {tt : Sl → Ho → R Bool} {f : Sl → Ho → Ot} {n : Nat} (hp : PassesOwn (model X.prog X.w) X.A X.env X.xe) (hx : PT X x (rdB (sOf X G) W tt)) (hy : PSs X ys (rdS (sOf X G) W f)) :
    PS X (.While x ys [] p) (rdS (sOf X G) W (whileL tt f n)) := by
  refine (ps_while hp hx hy).imp fun D σ H ⟨r, s, h, a, q⟩ => ⟨fun m σ H => ∃ r s h, At (sOf X G) r s h σ H ∧ PoS (sOf X G) r H (whileL tt f m s h) D W, ⟨n, r, s, h, a, q⟩, fun m σ H ⟨r, s, h, a, q⟩ => ?_⟩
  cases m with
  | zero => exact False.elim q
  | succ m =>
    unfold whileL at q
    refine ⟨r, s, h, a, (PoS.part a q).mono fun b H1 ⟨r1, a1, h1, A1, st, t, q1⟩ => ?_⟩
    subst t
    cases a1 with
    | false => exact q1 r1 σ H1 .refl A1
    | true =>
      refine ⟨fun σ' H' => ∃ r s h, At (sOf X G) r s h σ' H' ∧ PoS (sOf X G) r H' (whileL tt f m s h) D W, fun σ' H' z => ⟨m, Nat.lt_succ_self m, z⟩, r1, s, h1, A1, loop_body (fun r' σ' H' s' h' _ A' q' => ⟨r', s', h', A', q'⟩) q1⟩
theorem s_for {G : Pg} {tg x : Expr} {ys : List Stmt} {p : Pos} {gi : Sl → Ho → R (List A × List (Nat × List A))} {g : Tg} {f : Sl → Ho → Ot} (hp : PassesOwn (model X.prog X.w) X.A X.env X.xe) (hc : X.calm = true) (hs : isSet x = false) (hi : PI X tg x (rdI (sOf X G) W gi)) (hg : PG X tg (rdG (sOf X G) g))
    (hy : PSs X ys (rdS (sOf X G) W f)) : PS X (.For tg x ys [] p) (rdS (sOf X G) W fun s h => (gi s h).then s fun w h => forL w.2 g f w.1 s h) := by
  refine (ps_for hp hc hi hg hy (fun v => isSet_folded hs _ v)).imp fun D σ H ⟨r, s, h, a, q⟩ => ⟨r, s, h, a, (PoS.part a q).mono fun J H1 ⟨r1, w, h1, A1, _, wk, q1⟩ => ?_⟩
  refine ⟨fun i m σ H => ∃ r s h, Step r1 H1 r H ∧ At (sOf X G) r s h σ H ∧ m = w.1.length - i ∧ PoS (sOf X G) r H (forL w.2 g f (w.1.drop i) s h) D W, ⟨w.1.length, r1, s, h1, .refl, A1, rfl, q1⟩, fun i m σ2 H2 ⟨r2, s2, h2, st2, A2, em, q2⟩ => ?_⟩
  cases ex : w.1[i]? with
  | none =>
    have hl : w.1.length ≤ i := by
      rcases Nat.lt_or_ge i w.1.length with z | z
      · rw [List.getElem?_eq_getElem z] at ex
        cases ex
      · exact z
    rw [List.drop_eq_nil_of_le hl] at q2
    unfold forL at q2
    split at q2
    · rename_i sl
      exact .inl ⟨(wk r2 h2 H2 st2 A2.rel sl i).2 hl, q2 r2 σ2 H2 .refl A2⟩
    · exact False.elim q2
  | some x =>
    have hl : i < w.1.length := (List.getElem?_eq_some_iff.mp ex).1
    have hd : w.1.drop i = x :: w.1.drop (i + 1) := by
      rw [List.drop_eq_getElem_cons hl]
      rw [List.getElem?_eq_getElem hl] at ex
      rw [Option.some.inj ex]
    rw [hd] at q2
    unfold forL at q2
    split at q2
    · rename_i sl
      obtain ⟨go, yl⟩ := (wk r2 h2 H2 st2 A2.rel sl i).1 x ex
      refine .inr ⟨go, fun σ' H' => ∃ r s h, Step r1 H1 r H' ∧ At (sOf X G) r s h σ' H' ∧ PoS (sOf X G) r H' (forL w.2 g f (w.1.drop (i + 1)) s h) D W, fun σ' H' ⟨r', s', h', e1, e2, e3⟩ => ⟨w.1.length - (i + 1), by omega, r', s', h', e1, e2, rfl, e3⟩, fun v H3 hy => ?_⟩
      obtain ⟨st3, R3, tv⟩ := yl v H3 hy
      cases eP : Tg.put g x s2 with
      | none =>
        rw [eP] at q2
        exact False.elim q2
      | some s' =>
        rw [eP] at q2
        refine ⟨r2, s2, h2, x, s', A2.step st3 R3, tv, eP, fun σ' A' _ _ => ⟨r2, s', h2, A', loop_body (fun r' σ'' H' s'' h'' st' A'' q' => ⟨r', s'', h'', (st2.trans st3).trans st', A'', q'⟩) (PoS.from q2 st3)⟩⟩
    · exact False.elim q2
/-! ### stores in parallel -/
def nmsC (sc : Scope) (ts : List Expr) : List Str := ts.filterMap fun
  | .Name id pos => if sc.names.lookup id == some .local && pos.line == (ts.head?.map (·.pos.line)).getD 0 then some id else none
  | _ => none
def swapC (sc : Scope) (ts vs : List Expr) : Option (Option (List Str)) :=
  if !(ts.length == 2 || ts.length == 3) || vs.length != ts.length then some none else if vs.any isStar then some none else
  if (nmsC sc ts).length != ts.length || (nmsC sc ts).eraseDups.length != (nmsC sc ts).length then some none else if vs.all (foldedForSure 8) then some none else
  if vs.all (constantsAlone 8) then none else some (some (nmsC sc ts))
theorem swap_is {ts vs : List Expr} {n m : Nat} {p q : Pos} {env : Env} {o : Option (List Str)} (hk : env.scope.kind = .function) (h : swapC env.scope ts vs = some o) : swappedStores [.Tuple ts n p] (.Tuple vs m q) env = pure o := by
  have hb : (env.blockKind != ScopeKind.function) = false := by
    unfold Env.blockKind
    rw [hk]
    rfl
  have es : ∀ {f : Expr → Bool}, (∀ x, f x = isStar x) → vs.any f = vs.any isStar := fun {f} hf => by rw [funext hf]
  unfold swapC at h
  unfold swappedStores
  dsimp only
  rw [hb, Bool.or_false]
  split at h
  · rename_i c1
    cases h
    exact if_pos c1
  · rename_i c1
    rw [if_neg c1]
    split at h
    · rename_i c2
      cases h
      exact if_pos ((es fun x => by cases x <;> rfl).trans c2)
    · rename_i c2
      refine (if_neg fun z => c2 ((es fun x => by cases x <;> rfl).symm.trans z)).trans ?_
      split at h
      · rename_i c3
        cases h
        exact if_pos c3
      · rename_i c3
        refine (if_neg c3).trans ?_
        split at h
        · rename_i c4
          cases h
          exact if_pos c4
        · rename_i c4
          refine (if_neg c4).trans ?_
          split at h
          · cases h
          · rename_i c5
            cases h
            exact if_neg c5
theorem sw_none {ts : List Expr} {x : Expr} {n : Nat} {p : Pos} {env : Env} (h : isTupE x = false) : swappedStores [.Tuple ts n p] x env = pure none := by
  cases x <;> first
    | rfl
    | (cases h)
theorem s_asgT (t : Cxt X c sc own k C) (hk : sc.kind = .function) {ts : List Expr} {n : Nat} {q p : Pos} {x : Expr} {g : Tg} {f : Sl → Ho → R A} (hw : (match x with
    | .Tuple vs _ _ => decide (swapC sc ts vs = some none)
    | _ => true) = true) (hx : PE X x (rdE (sOf X c.G) W f)) (hg : PG X (.Tuple ts n q) (rdG (sOf X c.G) g)) : PS X (.Assign [.Tuple ts n q] x p) (rdS (sOf X c.G) W fun s h => (f s h).then s fun x h => match Tg.put g x s with
    | some s => .nx s h
    | none => .err) := by
  have hs : swappedStores [.Tuple ts n q] x X.env = pure none := by
    cases hh : isTupE x with
    | false => exact sw_none hh
    | true =>
      cases x with
      | Tuple vs m q2 =>
        exact swap_is (by rw [t.sc]; exact hk) (by rw [t.sc]; exact of_decide_eq_true hw)
      | _ => cases hh
  exact (ps_asg hx hg (sw_tup _ _) hs rfl).imp fun D σ H hh => asg_rd (fun _ _ _ _ z => z) hh
theorem s_asgN (t : Cxt X c sc own k C) {y : Str} {q p : Pos} {x : Expr} {i : Nat} {f : Sl → Ho → R A} (hsw : swapsWith x (some (.Name y q)) p.line X.env = pure false) (hc : ckG c sc own (.nm i) (.Name y q) = true) (hx : PE X x (rdE (sOf X c.G) W f)) :
    PS X (.Assign [.Name y q] x p) (rdS (sOf X c.G) W fun s h => (f s h).then s fun x h => match Tg.put (.nm i) x s with
    | some s => .nx s h
    | none => .err) :=
  (ps_asg hx (okG t (.nm i) (.Name y q) hc) hsw rfl rfl).imp fun D σ H hh => asg_rd (fun _ _ _ _ z => z) hh
/-- two, three locals at once -/
theorem s_par2 (t : Cxt X c sc own k C) (hk : sc.kind = .function) {x y : Str} {a b : Expr} {px py q q2 p : Pos} {n m i j : Nat} {F : Sl → Ho → R (List A)} (hi : c.N[i]? = some x) (hj : c.N[j]? = some y) (hij : i ≠ j) (lx : isLocB sc x = true) (ly : isLocB sc y = true)
    (hw : swapC sc [.Name x px, .Name y py] [a, b] = some (some [x, y])) (ha : PA X [a, b] (rdA (sOf X c.G) W F)) : PS X (.Assign [.Tuple [.Name x px, .Name y py] n q] (.Tuple [a, b] m q2) p) (rdS (sOf X c.G) W fun s h => (F s h).then s fun xs h => match setsP [i, j] xs s with
    | some s => .nx s h
    | none => .err) := by
  have loc : ∀ {z : Str}, isLocB sc z = true → X.env.scope.names.lookup z = some .local := fun {z} hz => by
    rw [t.sc]
    unfold isLocB at hz
    split at hz
    · assumption
    · cases hz
  refine (ps_par t.calm (by rw [t.N]; exact t.nd) (by rw [t.N]; exact hi) (by rw [t.N]; exact hj) hij (loc lx) (loc ly) ha (swap_is (by rw [t.sc]; exact hk) (by rw [t.sc]; exact hw)) (sw_tup _ _)).imp fun D σ H ⟨r, s, h, a, q⟩ => ⟨r, s, h, a, (PoS.part a q).mono fun vs H1 ⟨r1, as, h1, A1, st, ts, q1⟩ => ?_⟩
  match as, vs, ts with
  | [d, e], [v, w], .cons td (.cons te .nil) => exact ⟨v, w, rfl, q1 r1 _ H1 .refl ⟨A1.rel, (A1.sl.set td i).set te j⟩⟩
  | [], _, _ => exact False.elim q1
  | [_], _, _ => exact False.elim q1
  | _ :: _ :: _ :: _, _, _ => exact False.elim q1
theorem s_par3 (t : Cxt X c sc own k C) (hk : sc.kind = .function) {x y z : Str} {a b d : Expr} {px py pz q q2 p : Pos} {n m i j l : Nat} {F : Sl → Ho → R (List A)} (hi : c.N[i]? = some x) (hj : c.N[j]? = some y) (hl : c.N[l]? = some z) (hij : i ≠ j) (hil : i ≠ l) (hjl : j ≠ l)
    (lx : isLocB sc x = true) (ly : isLocB sc y = true) (lz : isLocB sc z = true) (hw : swapC sc [.Name x px, .Name y py, .Name z pz] [a, b, d] = some (some [x, y, z])) (ha : PA X [a, b, d] (rdA (sOf X c.G) W F)) :
    PS X (.Assign [.Tuple [.Name x px, .Name y py, .Name z pz] n q] (.Tuple [a, b, d] m q2) p) (rdS (sOf X c.G) W fun s h => (F s h).then s fun xs h => match setsP [i, j, l] xs s with
    | some s => .nx s h
    | none => .err) := by
  have loc : ∀ {z : Str}, isLocB sc z = true → X.env.scope.names.lookup z = some .local := fun {z} hz => by
    rw [t.sc]
    unfold isLocB at hz
    split at hz
    · assumption
    · cases hz
  refine (ps_par3 t.calm (by rw [t.N]; exact t.nd) (by rw [t.N]; exact hi) (by rw [t.N]; exact hj) (by rw [t.N]; exact hl) hij hil hjl (loc lx) (loc ly) (loc lz) ha (swap_is (by rw [t.sc]; exact hk) (by rw [t.sc]; exact hw)) (sw_tup _ _)).imp fun D σ H ⟨r, s, h, a, q⟩ => ⟨r, s, h, a, (PoS.part a q).mono fun vs H1 ⟨r1, as, h1, A1, st, ts, q1⟩ => ?_⟩
  match as, vs, ts with
  | [d, e, f], [v, w, u], .cons td (.cons te (.cons tf .nil)) => exact ⟨v, w, u, rfl, q1 r1 _ H1 .refl ⟨A1.rel, ((A1.sl.set td i).set te j).set tf l⟩⟩
  | [], _, _ => exact False.elim q1
  | [_], _, _ => exact False.elim q1
  | [_, _], _, _ => exact False.elim q1
  | _ :: _ :: _ :: _ :: _, _, _ => exact False.elim q1
theorem s_aug (t : Cxt X c sc own k C) {y : Str} {q p : Pos} {x : Expr} {i : Nat} {op : Operator} {f : Sl → Ho → R A} (hi : c.N[i]? = some y) (hl : locB sc y = true) (ho : (own y || isLocB sc y) = true) (hx : PE X x (rdE (sOf X c.G) W f)) :
    PS X (.AugAssign (.Name y q) op x p) (rdS (sOf X c.G) W fun s h => match s[i]? with
    | some (some x) => (f s h).then s fun y h => (augA op x y h).then s fun z h => .nx (s.set i (some z)) h
    | _ => .err) := by
  have hf : X.fn y = true ∨ X.env.scope.names.lookup y = some .local := by
    rcases Bool.or_eq_true_iff.mp ho with z | z
    · exact .inl (t.own y z)
    · rw [t.sc]
      unfold isLocB at z
      split at z
      · exact .inr ‹_›
      · cases z
  refine (ps_aug (by rw [t.N]; exact t.nd) (by rw [t.N]; exact hi) (loc_of t hl) hx (op_aug (G := c.G) op) hf).imp fun D σ H ⟨r, s, h, a, q⟩ => ?_
  cases e : s[i]? with
  | none =>
    simp only [e] at q
    exact False.elim q
  | some o =>
    cases o with
    | none =>
      simp only [e] at q
      exact False.elim q
    | some b =>
      simp only [e] at q
      obtain ⟨v, ev, tv⟩ := a.sl.at_ i b e
      refine ⟨v, ev, r, s, h, a, (PoS.part a q).mono fun u H1 ⟨r1, a1, h1, A1, st, t1, q1⟩ => ⟨r1, h1, b, a1, fun cls d H' => W cls d σ H', A1.rel, tv.step a.rel st, t1, (PoS.part A1 q1).mono fun z H2 ⟨r2, a2, h2, A2, st2, t2, q2⟩ => q2 r2 _ H2 .refl ⟨A2.rel, A2.sl.set t2 i⟩⟩⟩
theorem s_sto {G : Pg} {x y z : Expr} {q p : Pos} {f g d : Sl → Ho → R A} (nc : isComp z = false) (ni : isSlice y = false) (hz : PE X z (rdE (sOf X G) W d)) (hx : PE X x (rdE (sOf X G) W f)) (hy : PE X y (rdE (sOf X G) W g)) :
    PS X (.Assign [.Subscript x y q] z p) (rdS (sOf X G) W fun s h => (d s h).then s fun v h => (f s h).then s fun x h => (g s h).then s fun y h => match stoA x y v h with
    | some h => .nx s h
    | none => .err) := by
  refine (ps_asg hz (pg_sub hx hy (set_all (G := G)) ?_) ?_ ?_ rfl).imp fun D σ H ⟨r, s, h, a, q⟩ => ?_
  · intro v
    cases y <;> first
      | rfl
      | (cases ni)
  · exact sw_no nc (some (.Subscript x y q)) p.line X.env
  · cases z <;> rfl
  · refine ⟨r, s, h, a, (PoS.part a q).mono fun v H1 ⟨r1, b1, h1, A1, st1, t1, q1⟩ => ⟨r1, s, h1, A1, (PoS.part A1 q1).mono fun v2 H2 ⟨r2, b2, h2, A2, st2, t2, q2⟩ => ⟨r2, s, h2, A2, (PoS.part A2 q2).mono fun v3 H3 ⟨r3, b3, h3, A3, st3, t3, q3⟩ => ?_⟩⟩⟩
    cases e : stoA b2 b3 b1 h3 with
    | none =>
      simp only [e] at q3
      exact False.elim q3
    | some h4 =>
      simp only [e] at q3
      exact ⟨r3, h3, b2, b3, b1, h4, A3.rel, t2.step A2.rel st3, t3, (t1.step A1.rel st2).step A2.rel st3, e, fun r' H' st R' => q3 r' σ H' st ⟨R', A3.sl.step A3.rel st⟩⟩
end
end Ev

/-! text Fw18 -/
set_option Elab.async false
set_option linter.all false
set_option maxRecDepth 100000
set_option maxHeartbeats 4000000
/-! Ev: errors raised and caught; a def's lines. -/
namespace Ev
open PySem PySem.Spec PyProof.Rows L2
/-- an error class by its fields -/
def Mks (P : Program) (K : PySem.W.Frag) (Ca : Addr) (fs : List Str) : Prop := (∃ (D fI cc cda : Addr) (fd : FuncData) (f sf rs : Str), fs = [f] ∧ PySem.EvX.XI P K Ca D fI cc cda fd f sf rs) ∨ ∃ (D fI cc cda : Addr) (fd : FuncData) (sf f g : Str), fs = [f, g] ∧ PySem.EvX.XI2 P K Ca D fI cc cda fd sf f g
theorem Mks.nof {P : Program} {K : PySem.W.Frag} {Ca : Addr} {fs : List Str} (m : Mks P K Ca fs) {f : Str} (h : f ∈ fs) : PySem.W.findIn K (.ref Ca) f = some none := by
  rcases m with ⟨D, fI, cc, cda, fd, f1, sf, rs, rfl, x⟩ | ⟨D, fI, cc, cda, fd, sf, f1, g1, rfl, x⟩
  · rw [List.mem_singleton.mp h]
    exact x.nof
  · rcases List.mem_cons.mp h with z | z
    · rw [z]
      exact x.nof
    · rw [List.mem_singleton.mp z]
      exact x.nog
theorem look_mem1 : ∀ {l : List (Str × A)} {f : Str} {b : A}, look f l = some b → f ∈ l.map (·.1)
  | [], _, _, e => by
    unfold look at e
    cases e
  | (g, y) :: l, f, b, e => by
    unfold look at e
    split at e
    · rename_i z
      exact List.mem_cons.mpr (.inl (beq_iff_eq.mp z))
    · exact List.mem_cons.mpr (.inr (look_mem1 e))
/-- what the written part says of the error classes -/
structure We (P : Program) (K : PySem.W.Frag) (mg : Str → Option Value) (c : Ck) : Prop where
  sup : mg "super" = none
  nam : ∀ Y, c.exn.contains Y = true → ∃ CY, mg Y = some (.ref CY)
  exc : ∀ (i : Nat) (e : Ec), c.G.ecs[i]? = some e → ∃ Ca : Addr, mg e.name = some (.ref Ca) ∧ Mks P K Ca e.fs ∧ XfC K Ca ∧ ExcC K Ca ∧
    ∀ Y CY, c.exn.contains Y = true → mg Y = some (.ref CY) → PySem.W.exmOne K (.ref Ca) (.ref CY) = some (c.G.takes i Y) ∧ PySem.W.kitOne K (.ref Ca) (.ref CY) = some (c.G.takes i Y)
  ven : mg "ValueError" = none
  vek : ∀ (i : Nat) (e : Ec), c.G.ecs[i]? = some e → ∀ Ca : Addr, mg e.name = some (.ref Ca) → PySem.W.kitOne K (.ref Ca) (.type "ValueError") = some true
section
variable {S : Ws} {r r' : List Addr} {H H' : Hp} {h : Ho}
theorem Rx.step (R : Rel S r h H) (st : Step r H r' H') {x : Xv} {cls : Value} {d : Option Addr} (q : Rx S r H x cls d) : Rx S r' H' x cls d := by
  obtain ⟨e, C, dd, fs, e1, e2, e3, e4, e5, e6, e7, e8⟩ := q
  exact ⟨e, C, dd, fs, e1, e2, e3, e4, st.keep dd _ e5 (R.notIn e5 fun vs z => by cases z), e6, e7.step R st, e8⟩
theorem look_at : ∀ {xs : List (Str × A)} {fs : List (Str × V)} {f : Str} {b : A}, fs.map (·.1) = xs.map (·.1) → Ras S r H (xs.map (·.2)) (fs.map (·.2)) → look f xs = some b → ∃ v, fs.lookup f = some v ∧ Ra S r H b v
  | [], _, _, _, _, _, e => by
    unfold look at e
    cases e
  | (g, y) :: xs, [], _, _, e, _, _ => by cases e
  | (g, y) :: xs, (g', v) :: fs, f, b, e, t, e2 => by
    have eg : g' = g := (List.cons.inj e).1
    have er := (List.cons.inj e).2
    subst eg
    unfold look at e2
    cases t with
    | cons t1 t2 =>
      cases q : f == g' with
      | true =>
        rw [q] at e2
        cases e2
        exact ⟨v, by simp [List.lookup, q], t1⟩
      | false =>
        rw [q] at e2
        obtain ⟨w, w1, w2⟩ := look_at er t2 e2
        exact ⟨w, by simp [List.lookup, q, w1], w2⟩
end
/-! ### an except suite's answer -/
def rdU (S : Ws) (j : Option (Str × Nat)) (a : Addr) (cls : Value) (d : Option Addr) (u : Xv → Option A) : TE := fun σ H Q => ∃ r h x b, Rel S r h H ∧ Rx S r H x cls d ∧ (∀ y i, j = some (y, i) → i < σ.length → σ[i]? = some (some (.ref a))) ∧ u x = some b ∧
  ∀ r' H' v, Step r H r' H' → Rel S r' h H' → Ra S r' H' b v → Q v H'
def rdUs (S : Ws) (j : Option (Str × Nat)) (a : Addr) (cls : Value) (d : Option Addr) (u : Xv → Option (List A)) : TA := fun σ H Q => ∃ r h x bs, Rel S r h H ∧ Rx S r H x cls d ∧ (∀ y i, j = some (y, i) → i < σ.length → σ[i]? = some (some (.ref a))) ∧ u x = some bs ∧
  ∀ r' H' vs, Step r H r' H' → Rel S r' h H' → Ras S r' H' bs vs → Q vs H'
def caught (c : Ck) (n : Option (Str × Nat)) (y : Str) : Bool := match n with
  | some (z, i) => z == y && decide (c.N[i]? = some y)
  | none => false
mutual
def ckU (c : Ck) (sc : Scope) (n : Option (Str × Nat)) : Su → Expr → Bool
  | .lit a, .Constant k _ _ => litEq a k
  | .fld f, .Attribute (.Name y _) g _ => caught c n y && visB sc y && dbgB y && f == g
  | .tup ss, .Tuple xs _ _ => ckUs c sc n ss xs && Nat.ble ss.length 1000
  | .ite Y a b, .IfExp (.Call (.Name x _) [.Name y _, .Name z _] [] _) u v _ => caught c n y && visB sc y && dbgB y && x == ("isinstance" : Str) && glB sc x && z == Y && glB sc z && dbgB z && c.exn.contains z && ckU c sc n a u && ckU c sc n b v
  | _, _ => false
def ckUs (c : Ck) (sc : Scope) (n : Option (Str × Nat)) : List Su → List Expr → Bool
  | [], [] => true
  | s :: ss, x :: xs => !isStar x && ckU c sc n s x && ckUs c sc n ss xs
  | _, _ => false
end
section
variable {X : Cx} {c : Ck} {sc : Scope} {own : Str → Bool} {k : Nat} {C : Nat → List A → Ho → R A} {W : WX}
theorem call_isG {a : Addr} {oe : Obj} {cls : Value} {d : Option Addr} (hp : (a, oe) ∈ X.pn) (hz : Zc cls d oe) (hf : ∃ vs, oe.data = .fields vs) {cv : V} {cu : Value} (cr : ∀ u, RelV cv u → u = cu) :
    CallR X (.builtin "isinstance") (fun xs H Q => ∃ (Ca dd : Addr) (fs : List (Str × V)) (b : Bool), xs = [.ref a, cv] ∧ cls = .ref Ca ∧ d = some dd ∧ H dd = some (.xd fs) ∧ ExcC X.K Ca ∧ PySem.W.kitOne X.K (.ref Ca) cu = some b ∧ Q (.bl b) H) := by
  intro pins s σ H xs us Q I rr w
  obtain ⟨Ca, dd, fs, b, rfl, rfl, rfl, ed, EC, ek, q⟩ := w
  cases rr with
  | cons r1 rr =>
    cases rr with
    | cons r2 rr =>
      cases rr
      cases r1
      cases cr _ r2
      obtain ⟨ga, _⟩ := I.pin (a, oe) (List.mem_append.mpr (.inl hp))
      obtain ⟨vs, hv⟩ := hf
      obtain ⟨mA, hns, _⟩ := (show ObjOk X.prog X.w H s.heap dd (.xd fs) from I.hok dd _ ed)
      obtain ⟨od, ho, _⟩ := lookIn_ns hns
      have J : PySem.W.InstAt s.heap a oe Ca (some od) := ⟨ga, hz.1, by unfold PySem.W.notCls; rw [hv] <;> rfl, by rw [hz.2]; exact ho⟩
      obtain ⟨cd, hcl, _⟩ := PySem.W.any_some EC.hd
      exact PySem.W.kia_one (PySem.W.kitx_exc (by rw [hcl]; rfl) EC.hg EC.hk EC.hs EC.ha EC.hn EC.ht EC.hm) I.kIn J ek (fun z => nomatch z) fun tk => ⟨.bl b, H, I.kept (t' := tk) fun _ _ z => z, rfl, q⟩
theorem call_isO {a : Addr} {oe : Obj} {cls : Value} {d : Option Addr} {pn : List (Addr × Obj)} (hz : Zc cls d oe) (hf : ∃ vs, oe.data = .fields vs) :
    CallR (X.suite a ((a, oe) :: pn)) (.builtin "isinstance") (fun xs H Q => ∃ (Ca Cy dd : Addr) (fs : List (Str × V)) (b : Bool), xs = [.ref a, .ref Cy] ∧ cls = .ref Ca ∧ d = some dd ∧ H dd = some (.xd fs) ∧ ExcC X.K Ca ∧ PySem.W.kitOne X.K (.ref Ca) (.ref Cy) = some b ∧ Q (.bl b) H) := by
  intro pins s σ H xs us Q I rr w
  obtain ⟨Ca, Cy, dd, fs, b, e1, e2, e3, ed, EC, ek, q⟩ := w
  exact call_isG (X := X.suite a ((a, oe) :: pn)) List.mem_cons_self hz hf (cv := .ref Cy) (cu := .ref Cy) (fun u z => z) pins s σ H xs us Q I rr ⟨Ca, dd, fs, b, e1, e2, e3, ed, EC, ek, q⟩
theorem u_lit {a : Addr} {cls : Value} {d : Option Addr} {n : Option (Str × Nat)} {b : A} {ct : Const} {j : Nat} {p : Pos} {G : Pg} (h : litEq b ct = true) : PE X (.Constant ct j p) (rdU (sOf X G) n a cls d fun _ => some b) := by
  refine (e_lit (C := fun _ _ _ => .err) (W := NoX) (G := G) h).imp fun σ H Q ⟨r, h, x, b', R, rx, sl, e, q⟩ => ⟨r, σ.map fun _ => none, h, ⟨R, ⟨List.length_map .., fun i y e => ?_⟩⟩, ?_⟩
  · rw [List.getElem?_map] at e
    cases z : σ[i]? with
    | none =>
      rw [z] at e
      cases e
    | some o =>
      rw [z] at e
      cases e
  · cases e
    exact fun r' H' v st R' t => q r' H' v st R' t
theorem ec_of (ws : We X.prog X.K X.mg c) {r : List Addr} {H : Hp} {x : Xv} {cls : Value} {d : Option Addr} (q : Rx (sOf X c.G) r H x cls d) : ∃ (Ca dd : Addr) (fs : List (Str × V)), cls = .ref Ca ∧ d = some dd ∧ H dd = some (.xd fs) ∧ fs.map (·.1) = x.fs.map (·.1) ∧ Ras (sOf X c.G) r H (x.fs.map (·.2)) (fs.map (·.2)) ∧
    XfC X.K Ca ∧ ExcC X.K Ca ∧ (∀ f, f ∈ x.fs.map (·.1) → PySem.W.findIn X.K (.ref Ca) f = some none) ∧ ∀ Y CY, c.exn.contains Y = true → X.mg Y = some (.ref CY) → PySem.W.exmOne X.K (.ref Ca) (.ref CY) = some (c.G.takes x.cls Y) ∧ PySem.W.kitOne X.K (.ref Ca) (.ref CY) = some (c.G.takes x.cls Y) := by
  obtain ⟨e, Ca, dd, fs, e1, e2, e3, e4, e5, e6, e7, e8⟩ := q
  obtain ⟨Cb, g2, g3, g4, g5, g6⟩ := ws.exc x.cls e e1
  have z : some (Value.ref Ca) = some (.ref Cb) := e2.symm.trans g2
  cases z
  exact ⟨Ca, dd, fs, e3, e4, e5, e6, e7, g4, g5, fun f hf => g3.nof (e8 ▸ hf), g6⟩
theorem suite_vis (t : Cxt X c sc own k C) {a : Addr} {pn : List (Addr × Obj)} {y : Str} (h : visB sc y = true) : Vis (X.suite a pn).env.scope y := by
  have z := vis_of t h
  exact z
theorem suite_gl (t : Cxt X c sc own k C) {a : Addr} {pn : List (Addr × Obj)} {y : Str} (h : glB sc y = true) : Gl (X.suite a pn) y := by
  have z := gl_of t h
  exact z
/-- the caught error, by its name -/
theorem u_var (t : Cxt X c sc own k C) {a : Addr} {pn : List (Addr × Obj)} {n : Option (Str × Nat)} {y : Str} {p : Pos} (h1 : caught c n y = true) (h2 : visB sc y = true) (h3 : dbgB y = true) : ∃ i, n = some (y, i) ∧ PE (X.suite a pn) (.Name y p) (fun σ H Q => (i < σ.length → σ[i]? = some (some (.ref a))) ∧ Q (.ref a) H) := by
  cases n with
  | none => cases h1
  | some q =>
    obtain ⟨z, i⟩ := q
    obtain ⟨m1, m2⟩ := Bool.and_eq_true_iff.mp h1
    have e : z = y := beq_iff_eq.mp m1
    subst e
    obtain ⟨d1, d2, _⟩ := dbg_of h3
    have hN : X.N[i]? = some z := by
      rw [t.N]
      exact of_decide_eq_true m2
    refine ⟨i, rfl, ⟨fun pins s σ H Q I ⟨e, q⟩ => ?_⟩⟩
    have hl : i < σ.length := by
      rw [I.len]
      exact (List.getElem?_eq_some_iff.mp hN).1
    exact (pe_var (X := X.suite a pn) (i := i) hN (suite_vis t h2) d1 d2).run pins s σ H Q I ⟨_, e hl, q⟩
theorem PE.with {X : Cx} {x : Expr} {t : TE} (h : ∀ σ H Q, t σ H Q → ∃ t', PE X x t' ∧ t' σ H Q) : PE X x t := ⟨fun p s σ H Q I w => by
  obtain ⟨t', h1, h2⟩ := h σ H Q w
  exact h1.run p s σ H Q I h2⟩
theorem u_fld (t : Cxt X c sc own k C) (ws : We X.prog X.K X.mg c) {a : Addr} {oe : Obj} {cls : Value} {d : Option Addr} {pn : List (Addr × Obj)} (hz : Zc cls d oe) (hf : ∃ vs, oe.data = .fields vs) {n : Option (Str × Nat)} {y f : Str} {p q : Pos} (h1 : caught c n y = true) (h2 : visB sc y = true) (h3 : dbgB y = true) : PE (X.suite a ((a, oe) :: pn)) (.Attribute (.Name y p) f q) (rdU (sOf X c.G) n a cls d fun x => look f x.fs) := by
  obtain ⟨i, en, pv⟩ := u_var t (a := a) (pn := (a, oe) :: pn) (p := p) h1 h2 h3
  refine PE.with fun σ H Q ⟨r, h, x, b, R, rx, sl, e, q1⟩ => ?_
  obtain ⟨Ca, dd, fs, rfl, rfl, e5, e6, e7, xf, _, nof, _⟩ := ec_of ws rx
  obtain ⟨v, l1, t1⟩ := look_at e6 e7 e
  refine ⟨_, pe_xf xf (nof f (look_mem1 e)) hz hf pv, ?_⟩
  exact ⟨sl y i en, rfl, rfl, dd, fs, v, rfl, e5, l1, q1 r H v .refl R t1⟩
/-- isinstance(e, Y) as a test -/
theorem u_isi (t : Cxt X c sc own k C) (ws : We X.prog X.K X.mg c) {a : Addr} {oe : Obj} {cls : Value} {d : Option Addr} {pn : List (Addr × Obj)} (hz : Zc cls d oe) (hf : ∃ vs, oe.data = .fields vs) {n : Option (Str × Nat)} {y Y : Str} {p p1 p2 q : Pos} (h1 : caught c n y = true) (h2 : visB sc y = true) (h3 : dbgB y = true) (g0 : glB sc ("isinstance" : Str) = true) (g1 : glB sc Y = true) (g2 : dbgB Y = true) (g3 : c.exn.contains Y = true) :
    PT (X.suite a ((a, oe) :: pn)) (.Call (.Name ("isinstance" : Str) p) [.Name y p1, .Name Y p2] [] q) (fun σ H Q => ∃ r x, Rx (sOf X c.G) r H x cls d ∧ (∀ y i, n = some (y, i) → i < σ.length → σ[i]? = some (some (.ref a))) ∧ Q (c.G.takes x.cls Y) H) := by
  obtain ⟨i, en, pv⟩ := u_var t (a := a) (pn := (a, oe) :: pn) (p := p1) h1 h2 h3
  obtain ⟨CY, eY⟩ := ws.nam Y g3
  obtain ⟨d1, _, _⟩ := dbg_of g2
  have pY : PE (X.suite a ((a, oe) :: pn)) (.Name Y p2) (tC (.ref CY)) := pe_glob (X := X.suite a ((a, oe) :: pn)) (suite_gl t g1) eY rfl d1
  have pc := pe_callB (X := X.suite a ((a, oe) :: pn)) (p := p) (pos := q) (call_isO hz hf) (suite_gl t g0) (gl_free t (by decide)) (Bl.boot (.isi "int")) (pa_cons pv (pa_cons pY pa_nil)) (by decide) (by decide) rfl rfl
  refine (pt_truth pc fun w => rfl).imp fun σ H Q ⟨r, x, rx, sl, q1⟩ => ?_
  obtain ⟨Ca, dd, fs, rfl, rfl, e5, e6, e7, xf, EC, nof, tk⟩ := ec_of ws rx
  exact ⟨sl y i en, Ca, CY, dd, fs, _, rfl, rfl, rfl, e5, EC, (tk Y CY g3 eY).2, _, rfl, q1⟩
/-- isinstance(e, ValueError) as a test -/
theorem u_isV (t : Cxt X c sc own k C) (ws : We X.prog X.K X.mg c) {a : Addr} {oe : Obj} {cls : Value} {d : Option Addr} {pn : List (Addr × Obj)} (hz : Zc cls d oe) (hf : ∃ vs, oe.data = .fields vs) {n : Option (Str × Nat)} {y : Str} {p p1 p2 q : Pos} (h1 : caught c n y = true) (h2 : visB sc y = true) (h3 : dbgB y = true) (g0 : glB sc ("isinstance" : Str) = true) (g1 : glB sc ("ValueError" : Str) = true) :
    PT (X.suite a ((a, oe) :: pn)) (.Call (.Name ("isinstance" : Str) p) [.Name y p1, .Name ("ValueError" : Str) p2] [] q) (fun σ H Q => ∃ r x, Rx (sOf X c.G) r H x cls d ∧ (∀ y i, n = some (y, i) → i < σ.length → σ[i]? = some (some (.ref a))) ∧ Q true H) := by
  obtain ⟨i, en, pv⟩ := u_var t (a := a) (pn := (a, oe) :: pn) (p := p1) h1 h2 h3
  have pY : PE (X.suite a ((a, oe) :: pn)) (.Name ("ValueError" : Str) p2) (tC (.ty "ValueError")) := pe_bltn (X := X.suite a ((a, oe) :: pn)) (suite_gl t g1) ws.ven (by decide +kernel) rfl
  have pc := pe_callB (X := X.suite a ((a, oe) :: pn)) (p := p) (pos := q) (call_isG (X := X.suite a ((a, oe) :: pn)) List.mem_cons_self hz hf (cv := .ty "ValueError") (cu := .type "ValueError") (fun u z => z)) (suite_gl t g0) (gl_free t (by decide)) (Bl.boot (.isi "int")) (pa_cons pv (pa_cons pY pa_nil)) (by decide) (by decide) rfl rfl
  refine (pt_truth pc fun w => rfl).imp fun σ H Q ⟨r, x, rx, sl, q1⟩ => ?_
  have rx0 := rx
  obtain ⟨e, C0, _, _, z1, z2, z3, _, _, _, _, _⟩ := rx0
  obtain ⟨Ca, dd, fs, rfl, rfl, e5, e6, e7, xf, EC, nof, tk⟩ := ec_of ws rx
  have kk := ws.vek _ _ z1 C0 z2
  cases z3
  exact ⟨sl y i en, C0, dd, fs, _, rfl, rfl, rfl, e5, EC, kk, _, rfl, q1⟩
end
end Ev

/-! text Fw19 -/
set_option Elab.async false
set_option linter.all false
set_option maxRecDepth 100000
set_option maxHeartbeats 4000000
/-! Ev: a def's lines do what the term's computing says. -/
namespace Ev
open PySem PySem.Spec PyProof.Rows L2
theorem ckUs_ns {c : Ck} {sc : Scope} {n : Option (Str × Nat)} : ∀ {ss : List Su} {xs : List Expr}, ckUs c sc n ss xs = true → noStars xs = true ∧ ss.length = xs.length
  | [], [], _ => ⟨rfl, rfl⟩
  | s :: ss, x :: xs, h => by
    obtain ⟨h1, h2⟩ := and2 (show (!isStar x && ckU c sc n s x && ckUs c sc n ss xs) = true from h)
    obtain ⟨h1, _⟩ := and2 h1
    obtain ⟨i1, i2⟩ := ckUs_ns h2
    exact ⟨Bool.and_eq_true_iff.mpr ⟨h1, i1⟩, by rw [List.length_cons, List.length_cons, i2]⟩
  | [], _ :: _, h => nomatch (show false = true from h)
  | _ :: _, [], h => nomatch (show false = true from h)
theorem evUs_len {P : Pg} {x : Xv} : ∀ {ss : List Su} {bs : List A}, evUs P x ss = some bs → bs.length = ss.length
  | [], bs, e => by
    unfold evUs at e
    cases e
    rfl
  | s :: ss, bs, e => by
    unfold evUs at e
    split at e
    · cases z : evUs P x ss with
      | none =>
        rw [z] at e
        cases e
      | some cs =>
        rw [z] at e
        cases e
        rw [List.length_cons, List.length_cons, evUs_len z]
    · cases e
section
variable {X : Cx} {c : Ck} {sc : Scope} {own : Str → Bool} {k : Nat} {C : Nat → List A → Ho → R A}
mutual
theorem okU (t : Cxt X c sc own k C) (ws : We X.prog X.K X.mg c) {n : Option (Str × Nat)} {a : Addr} {oe : Obj} {cls : Value} {d : Option Addr} {pn : List (Addr × Obj)} (hz : Zc cls d oe) (hf : ∃ vs, oe.data = .fields vs) :
    ∀ (s : Su) (x : Expr), ckU c sc n s x = true → PE (X.suite a ((a, oe) :: pn)) x (rdU (sOf X c.G) n a cls d fun xv => evU c.G xv s)
  | .lit b, x, h => by
    cases x with
    | Constant y j p => exact u_lit (X := X.suite a ((a, oe) :: pn)) (show litEq b y = true from h)
    | _ => exact nomatch (show false = true from h)
  | .fld f, x, h => by
    cases x with
    | Attribute y g p =>
      cases y with
      | Name y p2 =>
        obtain ⟨h1, h4⟩ := and2 (show (caught c n y && visB sc y && dbgB y && f == g) = true from h)
        obtain ⟨h1, h3⟩ := and2 h1
        obtain ⟨h1, h2⟩ := and2 h1
        have e : f = g := beq_iff_eq.mp h4
        subst e
        exact u_fld t ws hz hf h1 h2 h3
      | _ => exact nomatch (show false = true from h)
    | _ => exact nomatch (show false = true from h)
  | .tup ss, x, h => by
    cases x with
    | Tuple xs j p =>
      obtain ⟨h1, h2⟩ := and2 (show (ckUs c sc n ss xs && Nat.ble ss.length 1000) = true from h)
      refine (pe_tup (okUs t ws hz hf ss xs h1)).imp fun σ H Q ⟨r, h, xv, b, R, rx, sl, e, q⟩ => ?_
      have e : (evUs c.G xv ss).map A.tup = some b := e
      cases z : evUs c.G xv ss with
      | none =>
        rw [z] at e
        cases e
      | some bs =>
        rw [z] at e
        cases e
        refine ⟨r, h, xv, bs, R, rx, sl, z, fun r' H' vs st R' ts => ⟨small_line ?_, fun p hp => ?_⟩⟩
        · rw [← ts.length, evUs_len z]
          exact ble_le h2
        · obtain ⟨R2, st2⟩ := Step.other (u := HO.tup vs) R' hp
          exact q _ _ _ (st.trans st2) R2 (.tup (SqT.of upd_same) (ts.step R' st2))
    | _ => exact nomatch (show false = true from h)
  | .ite Y u v, x, h => by
    cases x with
    | IfExp tx ux vx p =>
      cases tx with
      | Call fe args kws p2 =>
        cases fe with
        | Name x p3 =>
          match args with
          | [] => exact nomatch (show false = true from h)
          | [w] =>
            cases w <;> exact nomatch (show false = true from h)
          | w :: w2 :: rest =>
            cases w with
            | Name y p4 =>
              cases w2 with
              | Name z p5 =>
                cases rest with
                | cons => exact nomatch (show false = true from h)
                | nil =>
                cases kws with
                | cons => exact nomatch (show false = true from h)
                | nil =>
                  obtain ⟨i10, h11⟩ := and2 (show (caught c n y && visB sc y && dbgB y && x == ("isinstance" : Str) && glB sc x && z == Y && glB sc z && dbgB z && c.exn.contains z && ckU c sc n u ux && ckU c sc n v vx) = true from h)
                  obtain ⟨i9, h10⟩ := and2 i10
                  obtain ⟨i8, h9⟩ := and2 i9
                  obtain ⟨i7, h8⟩ := and2 i8
                  obtain ⟨i6, h7⟩ := and2 i7
                  obtain ⟨i5, h6⟩ := and2 i6
                  obtain ⟨i4, h5⟩ := and2 i5
                  obtain ⟨i3, h4⟩ := and2 i4
                  obtain ⟨i2, h3⟩ := and2 i3
                  obtain ⟨h1, h2⟩ := and2 i2
                  have e4 := beq_iff_eq.mp h4
                  have e6 := beq_iff_eq.mp h6
                  subst e4 e6
                  refine (pe_ifExp (u_isi t ws hz hf h1 h2 h3 h5 h7 h8 h9) (okU t ws hz hf u ux h10) (okU t ws hz hf v vx h11)).imp fun σ H Q ⟨r, h, xv, b, R, rx, sl, e, q⟩ => ⟨r, xv, rx, sl, ?_⟩
                  have e : (if c.G.takes xv.cls z then evU c.G xv u else evU c.G xv v) = some b := e
                  cases tk : c.G.takes xv.cls z with
                  | true =>
                    rw [tk] at e
                    show (if (true : Bool) = true then rdU (sOf X c.G) n a cls d (fun xv => evU c.G xv u) σ H Q else rdU (sOf X c.G) n a cls d (fun xv => evU c.G xv v) σ H Q)
                    rw [if_pos rfl]
                    exact ⟨r, h, xv, b, R, rx, sl, e, q⟩
                  | false =>
                    rw [tk] at e
                    show (if (false : Bool) = true then rdU (sOf X c.G) n a cls d (fun xv => evU c.G xv u) σ H Q else rdU (sOf X c.G) n a cls d (fun xv => evU c.G xv v) σ H Q)
                    rw [if_neg Bool.false_ne_true]
                    exact ⟨r, h, xv, b, R, rx, sl, e, q⟩
              | _ => exact nomatch (show false = true from h)
            | _ => exact nomatch (show false = true from h)
        | _ => exact nomatch (show false = true from h)
      | _ => exact nomatch (show false = true from h)
    | _ => exact nomatch (show false = true from h)
  | .isl _, x, h => nomatch (show false = true from h)
  | .nol, x, h => nomatch (show false = true from h)
  | .ive _ _, x, h => nomatch (show false = true from h)
theorem okUs (t : Cxt X c sc own k C) (ws : We X.prog X.K X.mg c) {n : Option (Str × Nat)} {a : Addr} {oe : Obj} {cls : Value} {d : Option Addr} {pn : List (Addr × Obj)} (hz : Zc cls d oe) (hf : ∃ vs, oe.data = .fields vs) :
    ∀ (ss : List Su) (xs : List Expr), ckUs c sc n ss xs = true → PA (X.suite a ((a, oe) :: pn)) xs (rdUs (sOf X c.G) n a cls d fun xv => evUs c.G xv ss)
  | [], [], h => pa_nil.imp fun σ H Q ⟨r, h, xv, bs, R, rx, sl, e, q⟩ => by
    cases e
    exact q r H [] .refl R .nil
  | s :: ss, x :: xs, h => by
    obtain ⟨h1, h3⟩ := and2 (show (!isStar x && ckU c sc n s x && ckUs c sc n ss xs) = true from h)
    obtain ⟨h1, h2⟩ := and2 h1
    refine (pa_cons (okU t ws hz hf s x h2) (okUs t ws hz hf ss xs h3) (se_cons (not1 h1))).imp fun σ H Q ⟨r, h, xv, bs, R, rx, sl, e, q⟩ => ?_
    have e : (match evU c.G xv s with
      | some a => (evUs c.G xv ss).map (a :: ·)
      | none => none) = some bs := e
    cases z1 : evU c.G xv s with
    | none =>
      rw [z1] at e
      cases e
    | some b =>
      rw [z1] at e
      cases z2 : evUs c.G xv ss with
      | none =>
        rw [z2] at e
        cases e
      | some cs =>
        rw [z2] at e
        cases e
        exact ⟨r, h, xv, b, R, rx, sl, z1, fun r1 H1 v st1 R1 t1 => ⟨r1, h, xv, cs, R1, rx.step R st1, sl, z2, fun r2 H2 vs st2 R2 t2 => q r2 H2 (v :: vs) (st1.trans st2) R2 (.cons (t1.step R1 st2) t2)⟩⟩
  | [], _ :: _, h => nomatch (show false = true from h)
  | _ :: _, [], h => nomatch (show false = true from h)
end
end
/-! ### raise -/
section
variable {X : Cx} {c : Ck} {sc : Scope} {own : Str → Bool} {k : Nat} {C : Nat → List A → Ho → R A} {W : WX}
theorem s_rais (t : Cxt X c sc own k C) (ws : We X.prog X.K X.mg c) (tk : Takes X W) {ci : Nat} {e : Ec} {x : Str} {ys : List Expr} {p q p2 : Pos} {F : Sl → Ho → R (List A)} (he : c.G.ecs[ci]? = some e) (hx : e.name = x) (h1 : glB sc x = true) (h2 : dbgB x = true) (hl0 : e.fs.length = ys.length) (ns : noStars ys = true)
    (ha : PA X ys (rdA (sOf X c.G) W F)) : PS X (.Raise (some (.Call (.Name x p) ys [] q)) none p2) (rdS (sOf X c.G) W fun s h => (F s h).then s fun xs h => match c.G.ecs[ci]? with
    | some e => if xs.length == e.fs.length then .ex ⟨ci, e.fs.zip xs⟩ s h else .err
    | none => .err) := by
  obtain ⟨Ca, g2, g3, g4, g5, g6⟩ := ws.exc ci e he
  subst hx
  rcases g3 with ⟨D, fI, cc, cda, fd, f, sf, rs, g1, g3⟩ | ⟨D, fI, cc, cda, fd, sf, f, g, g1, g3⟩
  · match ys, hl0, ns, ha with
    | [], hl0, _, _ =>
      rw [g1] at hl0
      cases hl0
    | _ :: _ :: _, hl0, _, _ =>
      rw [g1] at hl0
      simp at hl0
    | [y], _, ns, ha =>
      refine (ps_raise t.calm tk (pmk_xc t g3 g2 ws.sup h1 h2 (not1 (and2 (show (!isStar y && noStars []) = true from ns)).1) ha)).imp fun D' σ H ⟨r, s, h, a, q⟩ => ⟨r, s, h, a, (PoS.part a q).mono fun vs H1 ⟨r1, as, h1, A1, st, ts, q1⟩ => ?_⟩
      rw [he] at q1
      have q1 : PoS (sOf X c.G) r1 H1 (if (as.length == e.fs.length) = true then .ex ⟨ci, e.fs.zip as⟩ s h1 else .err) D' W := q1
      split at q1
      · rename_i hl
        rw [g1] at hl q1
        match as, vs, ts with
        | [b], [v], .cons tb .nil =>
          refine ⟨v, rfl, fun dx hdx => ?_⟩
          obtain ⟨R2, st2⟩ := Step.other (u := HO.xd [(f, v)]) A1.rel hdx
          exact q1 r1 σ _ (.ref Ca) (some dx) st2 (A1.step st2 R2) ⟨e, Ca, dx, [(f, v)], he, g2, rfl, rfl, upd_same, rfl, .cons (tb.step A1.rel st2) .nil, g1.symm⟩
        | [], _, _ => cases hl
        | _ :: _ :: _, _, _ => simp at hl
      · exact False.elim q1
  · match ys, hl0, ns, ha with
    | [], hl0, _, _ =>
      rw [g1] at hl0
      cases hl0
    | [_], hl0, _, _ =>
      rw [g1] at hl0
      simp at hl0
    | _ :: _ :: _ :: _, hl0, _, _ =>
      rw [g1] at hl0
      simp at hl0
    | [y, y2], _, ns, ha =>
      obtain ⟨n1, n2⟩ := and2 (show (!isStar y && noStars [y2]) = true from ns)
      refine (ps_raise t.calm tk (pmk_xc2 t g3 g2 ws.sup h1 h2 (not1 n1) (not1 (and2 (show (!isStar y2 && noStars []) = true from n2)).1) ha)).imp fun D' σ H ⟨r, s, h, a, q⟩ => ⟨r, s, h, a, (PoS.part a q).mono fun vs H1 ⟨r1, as, h1, A1, st, ts, q1⟩ => ?_⟩
      rw [he] at q1
      have q1 : PoS (sOf X c.G) r1 H1 (if (as.length == e.fs.length) = true then .ex ⟨ci, e.fs.zip as⟩ s h1 else .err) D' W := q1
      split at q1
      · rename_i hl
        rw [g1] at hl q1
        match as, vs, ts with
        | [b, b2], [v, v2], .cons tb (.cons tb2 .nil) =>
          refine ⟨v, v2, rfl, fun dx hdx => ?_⟩
          obtain ⟨R2, st2⟩ := Step.other (u := HO.xd [(f, v), (g, v2)]) A1.rel hdx
          exact q1 r1 σ _ (.ref Ca) (some dx) st2 (A1.step st2 R2) ⟨e, Ca, dx, [(f, v), (g, v2)], he, g2, rfl, rfl, upd_same, rfl, .cons (tb.step A1.rel st2) (.cons (tb2.step A1.rel st2) .nil), g1.symm⟩
        | [], _, _ => cases hl
        | [_], _, _ => simp at hl
        | _ :: _ :: _ :: _, _, _ => simp at hl
      · exact False.elim q1
/-! ### except -/
def ckN (c : Ck) (sc : Scope) (su : Su) (y : Expr) : Option Nat → Option Str → Bool
  | none, none => ckU c sc none su y
  | some i, some n => decide (c.N[i]? = some n) && isLocB sc n && ckU c sc (some (n, i)) su y
  | _, _ => false
def ckH (c : Ck) (sc : Scope) (d : Hd) : ExceptHandler → Bool
  | .ExceptHandler (some (.Name x _)) nm [.Return (some y) _] _ => d.cls == x && glB sc x && dbgB x && c.exn.contains x && ckN c sc d.su y d.as? nm
  | _ => false
theorem ckH_inv {c : Ck} {sc : Scope} {d : Hd} {x : ExceptHandler} (h : ckH c sc d x = true) : ∃ z p1 nm y p2 p3, x = .ExceptHandler (some (.Name z p1)) nm [.Return (some y) p2] p3 ∧ (d.cls == z && glB sc z && dbgB z && c.exn.contains z && ckN c sc d.su y d.as? nm) = true := by
  unfold ckH at h
  split at h
  · exact ⟨_, _, _, _, _, _, rfl, h⟩
  · cases h
def ckHs (c : Ck) (sc : Scope) : List Hd → List ExceptHandler → Bool
  | [], [] => true
  | d :: ds, x :: xs => ckH c sc d x && ckHs c sc ds xs
  | _, _ => false
end
end Ev

/-! text Fw20 -/
set_option Elab.async false
set_option linter.all false
set_option maxRecDepth 100000
set_option maxHeartbeats 4000000
/-! Ev: a def's lines do what the term's computing says. -/
namespace Ev
open PySem PySem.Spec PyProof.Rows L2
/-- a def's context -/
structure CxS (X : Cx) (c : Ck) (sc : Scope) (k : Nat) (C : Nat → List A → Ho → R A) : Prop where
  t : Cxt X c sc (fun _ => true) k C
  ws : We X.prog X.K X.mg c
  kd : sc.kind = .function
  st : X.stack = X.env :: X.outer
  fr : X.env.frame = some X.env.locals
section
variable {X : Cx} {c : Ck} {sc : Scope} {k : Nat} {C : Nat → List A → Ho → R A}
theorem CxS.tr (q : CxS X c sc k C) (pn : List (Addr × Obj)) (xe : Value → Shared → Prop) : CxS (X.tr pn xe) c sc k C :=
  ⟨⟨q.t.wd, q.t.N, q.t.nd, q.t.sc, q.t.own, q.t.calm, q.t.gd, q.t.room⟩, q.ws, q.kd, q.st, q.fr⟩
theorem isLoc_is (q : CxS X c sc k C) {n : Str} (h : isLocB sc n = true) : X.env.kindOf n = some .local := by
  have e : sc.names.lookup n = some .local := by
    unfold isLocB at h
    split at h
    · assumption
    · cases h
  rw [← q.t.sc] at e
  exact e
def HdOk (X : Cx) (c : Ck) (ds : List Hd) (l : List (Value × Option Nat × SuT)) : Prop := ∀ (D : Ends) (Wo : WX) (r : List Addr) (H : Hp) (σ : L2.St) (s : Sl) (h : Ho) (x : Xv) (cls : Value) (d : Option Addr),
  PoS (sOf X c.G) r H (handle c.G x s h ds) D Wo → At (sOf X c.G) r s h σ H → Rx (sOf X c.G) r H x cls d → wHds X.K Wo D l cls d σ H
/-- a suite's reading where a list may be made -/
def rdH (S : Ws) (j : Option (Str × Nat)) (a : Addr) (cls : Value) (d : Option Addr) (u : Xv → Ho → Option (A × Ho)) : TE := fun σ H Q => ∃ r h x b, Rel S r h H ∧ Rx S r H x cls d ∧ (∀ y i, j = some (y, i) → i < σ.length → σ[i]? = some (some (.ref a))) ∧ u x h = some b ∧
  ∀ r' H' v, Step r H r' H' → Rel S r' b.2 H' → Ra S r' H' b.1 v → Q v H'
theorem evH_plain {P : Pg} {x : Xv} {h : Ho} {c : Ck} {sc : Scope} {n : Option (Str × Nat)} {s : Su} {y : Expr} (hc : ckU c sc n s y = true) : evH P x h s = (evU P x s).map fun a => (a, h) := by
  cases s with
  | isl => exact nomatch (show false = true from hc)
  | nol => exact nomatch (show false = true from hc)
  | ive => exact nomatch (show false = true from hc)
  | _ => rfl
theorem rdH_U {S : Ws} {j : Option (Str × Nat)} {a : Addr} {cls : Value} {d : Option Addr} {P : Pg} {c : Ck} {sc : Scope} {n : Option (Str × Nat)} {s : Su} {y : Expr} (hc : ckU c sc n s y = true) (σ : L2.St) (H : Hp) (Q : VK) (w : rdH S j a cls d (fun x h => evH P x h s) σ H Q) : rdU S j a cls d (fun x => evU P x s) σ H Q := by
  obtain ⟨r, h, x, b, R, rx, sl, e, q⟩ := w
  have e : evH P x h s = some b := e
  rw [evH_plain hc] at e
  cases z : evU P x s with
  | none =>
    rw [z] at e
    cases e
  | some v =>
    rw [z] at e
    cases e
    exact ⟨r, h, x, v, R, rx, sl, z, q⟩
theorem hd_ok (q : CxS X c sc k C) {cl : Str} {CY : Addr} {su : Su} {i : Option Nat} {n : Option (Str × Nat)} {ds : List Hd} {l : List (Value × Option Nat × SuT)} (hY : c.exn.contains cl = true) (eY : X.mg cl = some (.ref CY)) (hn : ∀ z j, n = some (z, j) → i = some j)
    (hl : HdOk X c ds l) : HdOk X c (⟨cl, i, su⟩ :: ds) ((.ref CY, i, fun a cls d => tRet (rdH (sOf X c.G) n a cls d fun xv h => evH c.G xv h su)) :: l) := by
  intro D Wo r H σ s h x cls d p A0 rx
  obtain ⟨Ca, dd, fs, rfl, rfl, _, _, _, _, _, _, tk⟩ := ec_of q.ws rx
  unfold handle at p
  refine ⟨c.G.takes x.cls cl, (tk cl CY hY eY).1, fun e a na => ?_, fun e => ?_⟩
  · rw [e, if_pos rfl] at p
    dsimp only at p
    cases z : evH c.G x h su with
    | none =>
      rw [z] at p
      exact False.elim p
    | some b =>
      rw [z] at p
      have fin : ∀ σ2 : L2.St, (∀ y j, n = some (y, j) → j < σ2.length → σ2[j]? = some (some (.ref a))) → ∀ Q : VK, (∀ v H', D.rt v H' → Q v H') → rdH (sOf X c.G) n a (.ref Ca) (some dd) (fun xv h => evH c.G xv h su) σ2 H Q := fun σ2 hs Q hQ =>
        ⟨r, h, x, b, A0.rel, rx, hs, z, fun r' H' v st R' t => hQ v H' (p r' H' v st R' t)⟩
      cases i with
      | none =>
        refine fin σ (fun z j e => ?_) D.rt fun _ _ q => q
        cases hn z j e
      | some i0 =>
        refine fin (σ.set i0 (some (.ref a))) (fun z j e hj => ?_) D.rt fun _ _ q => q
        cases hn z j e
        exact List.getElem?_set_self (by rw [List.length_set] at hj; exact hj)
  · rw [e, if_neg Bool.false_ne_true] at p
    exact hl D Wo r H σ s h x _ _ p A0 rx
theorem clauses_of (q : CxS X c sc k C) : ∀ (ds : List Hd) (xs : List ExceptHandler), ckHs c sc ds xs = true → ∃ l, Clauses X xs l ∧ HdOk X c ds l
  | [], [], _ => ⟨[], .nil, fun D Wo r H σ s h x cls d p A0 rx => p r σ H cls d .refl A0 rx⟩
  | ⟨cl, as_, su⟩ :: ds, x :: xs, hh => by
    obtain ⟨h1, h2⟩ := and2 (show (ckH c sc ⟨cl, as_, su⟩ x && ckHs c sc ds xs) = true from hh)
    obtain ⟨l, L1, L2'⟩ := clauses_of q ds xs h2
    obtain ⟨z, p1, nm, y, p2, p3, rfl, h1⟩ := ckH_inv h1
    obtain ⟨h1, h6⟩ := and2 h1
    obtain ⟨h1, h5⟩ := and2 h1
    obtain ⟨h1, h4⟩ := and2 h1
    obtain ⟨h1, h3⟩ := and2 h1
    have e1 : cl = z := beq_iff_eq.mp h1
    subst e1
    obtain ⟨CY, eY⟩ := q.ws.nam cl h5
    obtain ⟨d1, _, _⟩ := dbg_of h4
    have nm0 : Names X cl (.ref CY) := ⟨gl_of q.t h3, d1, .inl eY⟩
    cases as_ with
    | none =>
      cases nm with
      | some _ => exact nomatch (show false = true from h6)
      | none =>
        have h6 : ckU c sc none su y = true := h6
        exact ⟨_, .plain nm0 (fun a oe cls d pn hz hf => pss_one (ps_ret ((okU q.t q.ws hz hf su y h6).imp (rdH_U h6)))) L1, hd_ok q (n := none) h5 eY (fun z j e => by cases e) L2'⟩
    | some i =>
      cases nm with
      | none => exact nomatch (show false = true from h6)
      | some n =>
        obtain ⟨h6, h9⟩ := and2 (show (decide (c.N[i]? = some n) && isLocB sc n && ckU c sc (some (n, i)) su y) = true from h6)
        obtain ⟨h7, h8⟩ := and2 h6
        exact ⟨_, .named nm0 (by rw [q.t.N]; exact of_decide_eq_true h7) (isLoc_is q h8) (fun a oe cls d pn hz hf => pss_one (ps_ret ((okU q.t q.ws hz hf su y h9).imp (rdH_U h9)))) L1, hd_ok q (n := some (n, i)) h5 eY (fun z j e => by cases e; rfl) L2'⟩
  | [], _ :: _, h => nomatch (show false = true from h)
  | _ :: _, [], h => nomatch (show false = true from h)
end
end Ev

/-! text Fw21 -/
set_option Elab.async false
set_option linter.all false
set_option maxRecDepth 100000
set_option maxHeartbeats 4000000
/-! Ev: the check of a def's lines, and that it is right. -/
namespace Ev
open PySem PySem.Spec PyProof.Rows L2
def ckSet (c : Ck) (sc : Scope) (x : Expr) (y : Str) (q : Pos) : Bool := match x with
  | .ListComp _ _ scope p => isLocB sc y && q.line == p.line && !(scope.names.any fun (n, k) => n == y && (k == .local || k == .cell))
  | x => !isComp x
def ckTup (sc : Scope) (x : Expr) (ts : List Expr) : Bool := match x with
  | .Tuple vs _ _ => decide (swapC sc ts vs = some none)
  | _ => true
def isDoc : Expr → Bool
  | .Constant (.str _) _ _ => true
  | _ => false
abbrev allB : Str → Bool := fun _ => true
def parB (c : Ck) (sc : Scope) : List Nat → List Expr → List Expr → Bool
  | [i, j], [.Name x px, .Name y py], [a, b] => decide (c.N[i]? = some x) && decide (c.N[j]? = some y) && i != j && isLocB sc x && isLocB sc y && decide (swapC sc [.Name x px, .Name y py] [a, b] = some (some [x, y]))
  | [i, j, l], [.Name x px, .Name y py, .Name z pz], [a, b, d] => decide (c.N[i]? = some x) && decide (c.N[j]? = some y) && decide (c.N[l]? = some z) && i != j && i != l && j != l && isLocB sc x && isLocB sc y && isLocB sc z
      && decide (swapC sc [.Name x px, .Name y py, .Name z pz] [a, b, d] = some (some [x, y, z]))
  | _, _, _ => false
def ecB (c : Ck) (ci : Nat) (x : Str) (m : Nat) : Bool := match c.G.ecs[ci]? with
  | some e => e.name == x && e.fs.length == m
  | none => false
theorem ec_is {c : Ck} {ci : Nat} {x : Str} {m : Nat} (h : ecB c ci x m = true) : ∃ e, c.G.ecs[ci]? = some e ∧ e.name = x ∧ e.fs.length = m := by
  unfold ecB at h
  split at h
  · rename_i e he
    obtain ⟨h1, h2⟩ := and2 h
    exact ⟨e, he, beq_iff_eq.mp h1, beq_iff_eq.mp h2⟩
  · cases h
mutual
def ckS (c : Ck) (sc : Scope) : S → Stmt → Bool
  | .exp e, .Expr x _ => !isComp x && ckE c sc e x
  | .asg (.nm i) e, .Assign [.Name y q] x _ => ckG c sc allB (.nm i) (.Name y q) && ckE c sc e x && ckSet c sc x y q
  | .asg (.tp gs) e, .Assign [.Tuple ts n q] x _ => ckG c sc allB (.tp gs) (.Tuple ts n q) && ckE c sc e x && ckTup sc x ts
  | .par is es, .Assign [.Tuple ts _ _] (.Tuple vs _ _) _ => parB c sc is ts vs && ckEs c sc es vs
  | .aug i op e, .AugAssign (.Name y _) op' x _ => decide (c.N[i]? = some y) && locB sc y && opEq op op' && ckE c sc e x
  | .sto o i e, .Assign [.Subscript x y _] z _ => !isComp z && !isSlice y && ckE c sc e z && ckE c sc o x && ckE c sc i y
  | .ret e, .Return (some x) _ => ckE c sc e x
  | .retN, .Return none _ => true
  | .pass, .Pass _ => true
  | .pass, .Expr x _ => isDoc x
  | .brk, .Break _ => true
  | .cnt, .Continue _ => true
  | .ife t a b, .If x y z _ => ckT c sc t x && ckSs c sc a y && ckSs c sc b z
  | .whl t b, .While x y [] _ => ckT c sc t x && ckSs c sc b y
  | .for_ g it b, .For tg x y [] _ => ckI c sc it x tg && ckG c sc allB g tg && ckSs c sc b y
  | .rais ci es, .Raise (some (.Call (.Name x _) ys [] _)) none _ => ecB c ci x ys.length && glB sc x && dbgB x && ckEs c sc es ys
  | .try_ b hs, .Try body (h :: r) [] [] _ => ckSs c sc b body && ckHs c sc hs (h :: r)
  | _, _ => false
def ckSs (c : Ck) (sc : Scope) : List S → List Stmt → Bool
  | [], [] => true
  | s :: ss, x :: xs => ckS c sc s x && ckSs c sc ss xs
  | _, _ => false
end
abbrev OkS (c : Ck) (k : Nat) (C : Nat → List A → Ho → R A) (F : Nat) (sc : Scope) (s : S) (x : Stmt) : Prop := ∀ (X : Cx) (W : WX), CxS X c sc k C → Takes X W → PassesOwn (model X.prog X.w) X.A X.env X.xe → PS X x (rdS (sOf X c.G) W (evS c.G F C s))
abbrev OkSs (c : Ck) (k : Nat) (C : Nat → List A → Ho → R A) (F : Nat) (sc : Scope) (s : List S) (x : List Stmt) : Prop := ∀ (X : Cx) (W : WX), CxS X c sc k C → Takes X W → PassesOwn (model X.prog X.w) X.A X.env X.xe → PSs X x (rdS (sOf X c.G) W (evSs c.G F C s))
section
variable {c : Ck} {k : Nat} {C : Nat → List A → Ho → R A} {F : Nat}
theorem comp_parts {sc : Scope} {e : E} {g : Tg} {it : I} {tt : T} {ow : List Nat} {x : Expr} {gens : List Comprehension} {scope : Scope} {p : Pos} (h : ckE c sc (.comp e g it tt ow) (.ListComp x gens scope p) = true) : ∃ tg iter ifs, gens = [⟨tg, iter, ifs, 0⟩] ∧ blkC c.N sc scope (ownOf c ow) = true ∧
    ckI c sc it iter tg = true ∧ ckG c (relS scope sc) (fun x => scope.names.lookup x == some .cell) g tg = true ∧ Tg.within ow g = true ∧ ((ifs = [] ∧ tt = .yes) ∨ ∃ y, ifs = [y] ∧ ckT c (relS scope sc) tt y = true) ∧ ckE c (relS scope sc) e x = true := by
  match gens with
  | [] => exact nomatch (show false = true from h)
  | ⟨_, _, _, _⟩ :: _ :: _ => exact nomatch (show false = true from h)
  | [⟨tg, iter, ifs, as⟩] =>
    match ifs with
    | [] =>
      obtain ⟨h1, h6⟩ := and2 h
      obtain ⟨h1, h5⟩ := and2 h1
      obtain ⟨h1, h4⟩ := and2 h1
      obtain ⟨h1, h3⟩ := and2 h1
      obtain ⟨h1, h2⟩ := and2 h1
      obtain ⟨h0, h1⟩ := and2 h1
      have e0 : as = 0 := beq_iff_eq.mp h0
      subst e0
      exact ⟨tg, iter, [], rfl, h1, h2, h3, h4, .inl ⟨rfl, yes_is h5⟩, h6⟩
    | [y] =>
      obtain ⟨h1, h6⟩ := and2 h
      obtain ⟨h1, h5⟩ := and2 h1
      obtain ⟨h1, h4⟩ := and2 h1
      obtain ⟨h1, h3⟩ := and2 h1
      obtain ⟨h1, h2⟩ := and2 h1
      obtain ⟨h0, h1⟩ := and2 h1
      have e0 : as = 0 := beq_iff_eq.mp h0
      subst e0
      exact ⟨tg, iter, [y], rfl, h1, h2, h3, h4, .inr ⟨y, rfl, h5⟩, h6⟩
    | _ :: _ :: _ =>
      obtain ⟨h1, h6⟩ := and2 h
      obtain ⟨h1, h5⟩ := and2 h1
      exact nomatch (show false = true from h5)
theorem set_ok {sc : Scope} {i : Nat} {e : E} {y : Str} {q p : Pos} {x : Expr} (h1 : ckG c sc allB (.nm i) (.Name y q) = true) (h2 : ckE c sc e x = true) (h3 : ckSet c sc x y q = true) : OkS c k C F sc (.asg (.nm i) e) (.Assign [.Name y q] x p) := by
  intro X W q0 tk ps
  have t := q0.t
  cases hc : isComp x with
  | false => exact s_asgN t (sw_no hc _ _ _) h1 (okE e sc x h2 X _ W t tk)
  | true =>
    cases x with
    | ListComp elt gens scope p2 =>
      match e, h2 with
      | .comp e g it tt ow, h2 =>
        obtain ⟨tg, iter, ifs, rfl, b1, b2, b3, b4, b5, b6⟩ := comp_parts h2
        obtain ⟨h3, h5⟩ := and2 (show (isLocB sc y && q.line == p2.line && !(scope.names.any fun (n, k) => n == y && (k == .local || k == .cell))) = true from h3)
        obtain ⟨h3, h4⟩ := and2 h3
        have ly := isLoc_is q0 h3
        obtain ⟨h1, _⟩ := and2 (show (decide (c.N[i]? = some y) && locB sc y && (allB y || isLocB sc y)) = true from h1)
        obtain ⟨h1, _⟩ := and2 h1
        have hs := sw_true (elt := elt) (gs := [⟨tg, iter, ifs, 0⟩]) (scope := scope) (l := p.line) (env := X.env) (by rw [t.sc]; exact q0.kd) ly h4 (not1 h5)
        refine (s_setC (W := W) t (sp := p) (by rw [t.N]; exact of_decide_eq_true h1) ly hs (okI it sc iter tg b2 X _ W t tk) (by rw [t.N, t.sc]; exact blkOk_by b1) (fun s H Ca cl fp => okG (t.blk s H scope Ca cl fp) g tg b3) (ft := evT C tt) (fun s H Ca cl fp => ?_)
          (fun s H Ca cl fp => okE e (relS scope sc) elt b6 _ _ NoX (t.blk s H scope Ca cl fp) takes_no) b4 (fun v => isSet_folded (ckI_noset b2) _ v)).imp fun D σ H hh => asg_rd name_rd hh
        rcases b5 with ⟨e1, e2⟩ | ⟨y, e1, b5⟩
        · subst e1 e2
          exact ⟨fun pins s σ H Q I ⟨r, s0, h, a, q⟩ => pts_nil.run pins s σ H Q I (q r H true .refl a.rel rfl)⟩
        · subst e1
          exact pts_one ((okT tt (relS scope sc) y b5).1 _ _ NoX (t.blk s H scope Ca cl fp) takes_no)
      | .var .., h2 | .lit .., h2 | .glo .., h2 | .neg .., h2 | .not .., h2 | .bin .., h2 | .and .., h2 | .or .., h2 | .ite .., h2 | .cmp .., h2 | .chn .., h2 | .tup .., h2 | .lst .., h2 | .sub .., h2 | .slc .., h2 | .rev .., h2 | .call .., h2 | .cval .., h2 | .blt .., h2 | .isi .., h2 | .mth .., h2 => exact nomatch (show false = true from h2)
    | SetComp => cases h3
    | DictComp => cases h3
    | _ => cases hc
theorem par_ok {X : Cx} {W : WX} {sc : Scope} (q : CxS X c sc k C) {is : List Nat} {us vs : List Expr} {n m : Nat} {p1 p2 p : Pos} {G : Sl → Ho → R (List A)} (h : parB c sc is us vs = true) (ha : PA X vs (rdA (sOf X c.G) W G)) :
    PS X (.Assign [.Tuple us n p1] (.Tuple vs m p2) p) (rdS (sOf X c.G) W fun s h => (G s h).then s fun xs h => match setsP is xs s with
    | some s => .nx s h
    | none => .err) := by
  unfold parB at h
  split at h
  · obtain ⟨h1, h6⟩ := and2 h
    obtain ⟨h1, h5⟩ := and2 h1
    obtain ⟨h1, h4⟩ := and2 h1
    obtain ⟨h1, h3⟩ := and2 h1
    obtain ⟨h1, h2⟩ := and2 h1
    exact s_par2 q.t q.kd (of_decide_eq_true h1) (of_decide_eq_true h2) (bne_iff_ne.mp h3) h4 h5 (of_decide_eq_true h6) ha
  · obtain ⟨h1, h10⟩ := and2 h
    obtain ⟨h1, h9⟩ := and2 h1
    obtain ⟨h1, h8⟩ := and2 h1
    obtain ⟨h1, h7⟩ := and2 h1
    obtain ⟨h1, h6⟩ := and2 h1
    obtain ⟨h1, h5⟩ := and2 h1
    obtain ⟨h1, h4⟩ := and2 h1
    obtain ⟨h1, h3⟩ := and2 h1
    obtain ⟨h1, h2⟩ := and2 h1
    exact s_par3 q.t q.kd (of_decide_eq_true h1) (of_decide_eq_true h2) (of_decide_eq_true h3) (bne_iff_ne.mp h4) (bne_iff_ne.mp h5) (bne_iff_ne.mp h6) h7 h8 h9 (of_decide_eq_true h10) ha
  · cases h
mutual
theorem okS : ∀ (s : S) (sc : Scope) (x : Stmt), ckS c sc s x = true → OkS c k C F sc s x
  | .exp e, sc, x, h => by
    cases x with
    | Expr y p =>
      obtain ⟨h1, h2⟩ := and2 (show (!isComp y && ckE c sc e y) = true from h)
      exact fun X W q tk ps => s_exp (not1 h1) (okE e sc y h2 X _ W q.t tk)
    | _ => exact nomatch (show false = true from h)
  | .asg (.nm i) e, sc, x, h => by
    cases x with
    | Assign ts v p =>
      match ts with
      | [] => exact nomatch (show false = true from h)
      | w :: rest =>
        cases w with
        | Name y q =>
          cases rest with
          | cons => exact nomatch (show false = true from h)
          | nil =>
            obtain ⟨h1, h3⟩ := and2 (show (ckG c sc allB (.nm i) (.Name y q) && ckE c sc e v && ckSet c sc v y q) = true from h)
            obtain ⟨h1, h2⟩ := and2 h1
            exact set_ok h1 h2 h3
        | _ => exact nomatch (show false = true from h)
    | _ => exact nomatch (show false = true from h)
  | .asg (.tp gs) e, sc, x, h => by
    cases x with
    | Assign ts v p =>
      match ts with
      | [] => exact nomatch (show false = true from h)
      | w :: rest =>
        cases w with
        | Tuple us n q =>
          cases rest with
          | cons => exact nomatch (show false = true from h)
          | nil =>
            obtain ⟨h1, h3⟩ := and2 (show (ckG c sc allB (.tp gs) (.Tuple us n q) && ckE c sc e v && ckTup sc v us) = true from h)
            obtain ⟨h1, h2⟩ := and2 h1
            exact fun X W q tk ps => s_asgT q.t q.kd h3 (okE e sc v h2 X _ W q.t tk) (okG q.t (.tp gs) _ h1)
        | _ => exact nomatch (show false = true from h)
    | _ => exact nomatch (show false = true from h)
  | .par is es, sc, x, h => by
    cases x with
    | Assign ts v p =>
      match ts with
      | [] => exact nomatch (show false = true from h)
      | w :: rest =>
        cases w with
        | Tuple us n q =>
          cases rest with
          | cons => exact nomatch (show false = true from h)
          | nil =>
            cases v with
            | Tuple vs m q2 =>
              obtain ⟨h1, h2⟩ := and2 (show (parB c sc is us vs && ckEs c sc es vs) = true from h)
              exact fun X W q tk ps => par_ok q h1 (okA es sc vs h2 X _ W q.t tk)
            | _ => exact nomatch (show false = true from h)
        | _ => exact nomatch (show false = true from h)
    | _ => exact nomatch (show false = true from h)
  | .aug i op e, sc, x, h => by
    cases x with
    | AugAssign w op' v p =>
      cases w with
      | Name y q =>
        obtain ⟨h1, h4⟩ := and2 (show (decide (c.N[i]? = some y) && locB sc y && opEq op op' && ckE c sc e v) = true from h)
        obtain ⟨h1, h3⟩ := and2 h1
        obtain ⟨i1, h2⟩ := and2 h1
        have e0 := opEq_is h3
        have i1 := of_decide_eq_true i1
        subst e0
        exact fun X W q tk ps => s_aug q.t i1 h2 rfl (okE e sc v h4 X _ W q.t tk)
      | _ => exact nomatch (show false = true from h)
    | _ => exact nomatch (show false = true from h)
  | .sto o i e, sc, x, h => by
    cases x with
    | Assign ts v p =>
      match ts with
      | [] => exact nomatch (show false = true from h)
      | w :: rest =>
        cases w with
        | Subscript y z q =>
          cases rest with
          | cons => exact nomatch (show false = true from h)
          | nil =>
            obtain ⟨h1, h5⟩ := and2 (show (!isComp v && !isSlice z && ckE c sc e v && ckE c sc o y && ckE c sc i z) = true from h)
            obtain ⟨h1, h4⟩ := and2 h1
            obtain ⟨h1, h3⟩ := and2 h1
            obtain ⟨h1, h2⟩ := and2 h1
            exact fun X W q tk ps => s_sto (not1 h1) (not1 h2) (okE e sc v h3 X _ W q.t tk) (okE o sc y h4 X _ W q.t tk) (okE i sc z h5 X _ W q.t tk)
        | _ => exact nomatch (show false = true from h)
    | _ => exact nomatch (show false = true from h)
  | .ret e, sc, x, h => by
    cases x with
    | Return v p =>
      cases v with
      | none => exact nomatch (show false = true from h)
      | some v => exact fun X W q tk ps => s_ret (okE e sc v (show ckE c sc e v = true from h) X _ W q.t tk)
    | _ => exact nomatch (show false = true from h)
  | .retN, sc, x, h => by
    cases x with
    | Return v p =>
      cases v with
      | none => exact fun X W q tk ps => s_retN
      | some v => exact nomatch (show false = true from h)
    | _ => exact nomatch (show false = true from h)
  | .pass, sc, x, h => by
    cases x with
    | Pass p => exact fun X W q tk ps => s_pass
    | Expr y p =>
      have h : isDoc y = true := h
      cases y with
      | Constant ct j p2 =>
        cases ct with
        | str z => exact fun X W q tk ps => s_doc
        | _ => cases h
      | _ => cases h
    | _ => exact nomatch (show false = true from h)
  | .brk, sc, x, h => by
    cases x with
    | Break p => exact fun X W q tk ps => s_brk
    | _ => exact nomatch (show false = true from h)
  | .cnt, sc, x, h => by
    cases x with
    | Continue p => exact fun X W q tk ps => s_cnt
    | _ => exact nomatch (show false = true from h)
  | .ife t a b, sc, x, h => by
    cases x with
    | If y u v p =>
      obtain ⟨h1, h3⟩ := and2 (show (ckT c sc t y && ckSs c sc a u && ckSs c sc b v) = true from h)
      obtain ⟨h1, h2⟩ := and2 h1
      exact fun X W q tk ps => s_ife ((okT t sc y h1).1 X _ W q.t tk) (okSs a sc u h2 X W q tk ps) (okSs b sc v h3 X W q tk ps)
    | _ => exact nomatch (show false = true from h)
  | .whl t b, sc, x, h => by
    cases x with
    | While y u v p =>
      cases v with
      | cons => exact nomatch (show false = true from h)
      | nil =>
        obtain ⟨h1, h2⟩ := and2 (show (ckT c sc t y && ckSs c sc b u) = true from h)
        exact fun X W q tk ps => s_whl ps ((okT t sc y h1).1 X _ W q.t tk) (okSs b sc u h2 X W q tk ps)
    | _ => exact nomatch (show false = true from h)
  | .for_ g it b, sc, x, h => by
    cases x with
    | For tg y u v p =>
      cases v with
      | cons => exact nomatch (show false = true from h)
      | nil =>
        obtain ⟨h1, h3⟩ := and2 (show (ckI c sc it y tg && ckG c sc allB g tg && ckSs c sc b u) = true from h)
        obtain ⟨h1, h2⟩ := and2 h1
        exact fun X W q tk ps => s_for ps q.t.calm (ckI_noset h1) (okI it sc y tg h1 X _ W q.t tk) (okG q.t g tg h2) (okSs b sc u h3 X W q tk ps)
    | _ => exact nomatch (show false = true from h)
  | .rais ci es, sc, x, h => by
    cases x with
    | Raise v cz p =>
      cases v with
      | none => exact nomatch (show false = true from h)
      | some v =>
        cases v with
        | Call fe args kws q2 =>
          cases fe with
          | Name x p0 =>
              cases kws with
              | cons => exact nomatch (show false = true from h)
              | nil =>
                cases cz with
                | some _ => exact nomatch (show false = true from h)
                | none =>
                  obtain ⟨h1, h4⟩ := and2 (show (ecB c ci x args.length && glB sc x && dbgB x && ckEs c sc es args) = true from h)
                  obtain ⟨h1, h3⟩ := and2 h1
                  obtain ⟨h1, h2⟩ := and2 h1
                  obtain ⟨e, e1, e2, e3⟩ := ec_is h1
                  exact fun X W q tk ps => s_rais q.t q.ws tk e1 e2 h2 h3 e3 (ckEs_ns h4).1 (okA es sc args h4 X _ W q.t tk)
          | _ => exact nomatch (show false = true from h)
        | _ => exact nomatch (show false = true from h)
    | _ => exact nomatch (show false = true from h)
  | .try_ b hs, sc, x, h => by
    cases x with
    | Try body hds orelse fin p =>
      cases hds with
      | nil => exact nomatch (show false = true from h)
      | cons h0 hr =>
        cases orelse with
        | cons => exact nomatch (show false = true from h)
        | nil =>
          cases fin with
          | cons => exact nomatch (show false = true from h)
          | nil =>
            obtain ⟨h1, h2⟩ := and2 (show (ckSs c sc b body && ckHs c sc hs (h0 :: hr)) = true from h)
            intro X W q tk ps
            obtain ⟨l, L1, L2'⟩ := clauses_of q hs (h0 :: hr) h2
            refine (s_try q.st q.fr (by rw [q.t.N]; exact q.t.nd) tk L1 (tb := fun W' => rdS (sOf X c.G) W' (evSs c.G F C b)) fun W' pn xe tk' ps' => okSs b sc body h1 (X.tr pn xe) W' (q.tr pn xe) tk' ps').imp fun D σ H ⟨r, s, h, a, z⟩ => ⟨r, s, h, a, ?_⟩
            have z : PoS (sOf X c.G) r H (match evSs c.G F C b s h with
              | .ex x σ h => handle c.G x σ h hs
              | o => o) D W := z
            cases e : evSs c.G F C b s h with
            | ex x s1 h1 =>
              rw [e] at z
              exact fun r' σ' H' cls d st A' rx => L2' D W r' H' σ' s1 h1 x cls d (PoS.from z st) A' rx
            | nx s1 h1 =>
              rw [e] at z
              exact z
            | bk s1 h1 =>
              rw [e] at z
              exact z
            | ct s1 h1 =>
              rw [e] at z
              exact z
            | rt v h1 =>
              rw [e] at z
              exact z
            | err =>
              rw [e] at z
              exact z
    | _ => exact nomatch (show false = true from h)
theorem okSs : ∀ (s : List S) (sc : Scope) (x : List Stmt), ckSs c sc s x = true → OkSs c k C F sc s x
  | [], sc, [], h => fun X W q tk ps => s_nil
  | s :: ss, sc, x :: xs, h => by
    obtain ⟨h1, h2⟩ := and2 (show (ckS c sc s x && ckSs c sc ss xs) = true from h)
    exact fun X W q tk ps => s_cons (okS s sc x h1 X W q tk ps) (okSs ss sc xs h2 X W q tk ps)
  | [], _, _ :: _, h => nomatch (show false = true from h)
  | _ :: _, _, [], h => nomatch (show false = true from h)
end
end
end Ev

/-! text Fw22 -/
set_option Elab.async false
set_option linter.all false
set_option maxRecDepth 100000
set_option maxHeartbeats 4000000
/-! Ev: defs, calls, the law. -/
namespace Ev
open PySem PySem.Spec PyProof.Rows L2
section
variable {S : Ws} {r r' : List Addr} {H H' : Hp} {h h' : Ho} {n : Nat}
/-! ### what stays of the objects behind a call -/
mutual
theorem Ra.cut (p : r <+: r') (hn : r.length = n) : ∀ {a : A} {v : V}, A.inb n a = true → Ra S r' H a v → Ra S r H a v
  | _, _, _, .non => .non
  | _, _, _, .bl b => .bl b
  | _, _, _, .int i => .int i
  | _, _, _, .str x => .str x
  | _, _, e, .tup q t => .tup q (Ras.cut p hn e t)
  | _, _, e, .lis q t => .lis q (Ras.cut p hn e t)
  | _, _, e, .ref q => .ref (by
    obtain ⟨t, rfl⟩ := p
    have e := of_decide_eq_true e
    rwa [List.getElem?_append_left (by rw [hn]; exact e)] at q)
  | _, _, _, .fn e1 e2 => .fn e1 e2
theorem Ras.cut (p : r <+: r') (hn : r.length = n) : ∀ {as : List A} {vs : List V}, A.inbs n as = true → Ras S r' H as vs → Ras S r H as vs
  | _, _, _, .nil => .nil
  | _, _, e, .cons a t => by
    obtain ⟨e1, e2⟩ := Bool.and_eq_true_iff.mp e
    exact .cons (Ra.cut p hn e1 a) (Ras.cut p hn e2 t)
end
theorem Rel.cut (R' : Rel S r' h' H') (p : r <+: r') (hn : r.length = n) (hl : n ≤ h'.length) (e : (h'.take n).all (fun o => A.inbs n o.items) = true) : Rel S r (h'.take n) H' := by
  refine ⟨by rw [List.length_take, hn]; omega, ?_, fun m xs em => ?_⟩
  · obtain ⟨t, rfl⟩ := p
    exact (List.nodup_append.mp R'.nd).1
  · have hm : m < n := by
      have := (List.getElem?_eq_some_iff.mp em).1
      rw [List.length_take] at this
      omega
    rw [List.getElem?_take_of_lt hm] at em
    obtain ⟨q, vs, e1, e2, t⟩ := R'.at_ m xs em
    have ein : A.inbs n xs = true := List.all_eq_true.mp e (.lst xs) (List.mem_of_getElem? (i := m) (by rw [List.getElem?_take_of_lt hm]; exact em))
    refine ⟨q, vs, ?_, e2, t.cut p hn ein⟩
    obtain ⟨t', rfl⟩ := p
    rwa [List.getElem?_append_left (by rw [hn]; exact hm)] at e1
theorem Step.cut (st : Step r H r' H') : Step r H r H' := ⟨List.prefix_refl _, fun b hb nb => absurd hb nb, st.keep⟩
/-- trimmed or not -/
theorem trim_ok {D : Ends} {E : XK} {a : A} (R : Rel S r h H) (p : PoV S r H (trim h.length (A.inb h.length a) h' fun h' => .ok a h') D.rt E) : ∀ r' H' v, Step r H r' H' → Rel S r' h' H' → Ra S r' H' a v → D.rt v H' := by
  intro r' H' v st R' t
  unfold trim at p
  split at p
  · exact p r' H' v st R' t
  · rename_i hl
    split at p
    · rename_i ok
      obtain ⟨o1, o2⟩ := Bool.and_eq_true_iff.mp ok
      exact p r H' v st.cut (R'.cut st.pre R.len (by omega) o2) (t.cut st.pre R.len o1)
    · exact p r' H' v st R' t
theorem trim_nx {D : Ends} {E : XK} (R : Rel S r h H) (p : PoV S r H (trim h.length true h' fun h' => .ok .non h') D.rt E) : ∀ r' H', Step r H r' H' → Rel S r' h' H' → D.rt .non H' := by
  intro r' H' st R'
  unfold trim at p
  split at p
  · exact p r' H' .non st R' .non
  · rename_i hl
    split at p
    · rename_i ok
      obtain ⟨_, o2⟩ := Bool.and_eq_true_iff.mp ok
      exact p r H' .non st.cut (R'.cut st.pre R.len (by omega) o2) .non
    · exact p r' H' .non st R' .non
theorem Rx.cut (p : r <+: r') (hn : r.length = n) {x : Xv} {cls : Value} {d : Option Addr} (e : A.inbs n (x.fs.map (·.2)) = true) (q : Rx S r' H x cls d) : Rx S r H x cls d := by
  obtain ⟨c, C, dd, fs, e1, e2, e3, e4, e5, e6, e7, e8⟩ := q
  exact ⟨c, C, dd, fs, e1, e2, e3, e4, e5, e6, e7.cut p hn e, e8⟩
theorem trim_ex {Q : VK} {E : XK} {x : Xv} (R : Rel S r h H) (p : PoV S r H (trim h.length (A.inbs h.length (x.fs.map (·.2))) h' fun h' => (.exc x h' : Ev.R A)) Q E) : ∀ r' H' cls d, Step r H r' H' → Rel S r' h' H' → Rx S r' H' x cls d → E cls d H' := by
  intro r' H' cls d st R' t
  unfold trim at p
  split at p
  · exact p r' H' cls d st R' t
  · rename_i hl
    split at p
    · rename_i ok
      obtain ⟨o1, o2⟩ := Bool.and_eq_true_iff.mp ok
      exact p r H' cls d st.cut (R'.cut st.pre R.len (by omega) o2) (t.cut st.pre R.len o1)
    · exact p r' H' cls d st R' t
end
/-! ### a call that no object is handed to -/
section
variable {S : Ws} {r r' : List Addr} {H H' : Hp} {h h' : Ho}
mutual
theorem Ra.up : ∀ {a : A} {v : V}, Ra S r' H' a v → Ra S (r ++ r') H' (A.up r.length a) v
  | _, _, .non => .non
  | _, _, .bl b => .bl b
  | _, _, .int i => .int i
  | _, _, .str x => .str x
  | _, _, .tup q t => .tup q (Ras.up t)
  | _, _, .lis q t => .lis q (Ras.up t)
  | _, _, .ref q => .ref (by
    rw [List.getElem?_append_right (Nat.le_add_right _ _), Nat.add_sub_cancel_left]
    exact q)
  | _, _, .fn e1 e2 => .fn e1 e2
theorem Ras.up : ∀ {as : List A} {vs : List V}, Ras S r' H' as vs → Ras S (r ++ r') H' (A.ups r.length as) vs
  | _, _, .nil => .nil
  | _, _, .cons a t => .cons (Ra.up a) (Ras.up t)
end
theorem Rel.graft (R : Rel S r h H) (st : Step [] H r' H') (R' : Rel S r' h' H') : Rel S (r ++ r') (h ++ h'.map (O.up h.length)) H' ∧ Step r H (r ++ r') H' := by
  have nw : ∀ b, b ∈ r' → H b = none := fun b hb => st.new b hb (by simp)
  have st2 : Step r H (r ++ r') H' := ⟨List.prefix_append _ _, fun b hb nb => by
    rcases List.mem_append.mp hb with z | z
    · exact absurd z nb
    · exact nw b z, fun b o e _ => st.keep b o e (by simp)⟩
  refine ⟨⟨by rw [List.length_append, List.length_append, List.length_map, R.len, R'.len], ?_, fun n xs e => ?_⟩, st2⟩
  · exact List.nodup_append.mpr ⟨R.nd, R'.nd, fun a ha b hb z => by
      subst z
      obtain ⟨vs, e⟩ := R.lstOf ha
      rw [nw a hb] at e
      cases e⟩
  · by_cases hn : n < h.length
    · rw [List.getElem?_append_left hn] at e
      obtain ⟨p, vs, e1, e2, t⟩ := R.at_ n xs e
      exact ⟨p, vs, pre_get (List.prefix_append _ _) e1, st.keep p _ e2 (by simp), t.step R st2⟩
    · rw [List.getElem?_append_right (by omega), List.getElem?_map] at e
      cases z : h'[n - h.length]? with
      | none =>
        rw [z] at e
        cases e
      | some o =>
        cases o with
        | lst ys =>
          rw [z] at e
          have e : O.lst (A.ups h.length ys) = O.lst xs := Option.some.inj e
          cases e
          obtain ⟨p, vs, e1, e2, t⟩ := R'.at_ _ ys z
          refine ⟨p, vs, ?_, e2, by rw [← R.len]; exact t.up⟩
          rw [List.getElem?_append_right (by rw [R.len]; omega), R.len]
          exact e1
theorem upF_is : ∀ (n : Nat) (l : List (Str × A)), (upF n l).map (·.1) = l.map (·.1) ∧ (upF n l).map (·.2) = A.ups n (l.map (·.2))
  | _, [] => ⟨rfl, rfl⟩
  | n, p :: l => by
    obtain ⟨a, b⟩ := upF_is n l
    exact ⟨congrArg (p.1 :: ·) a, congrArg (A.up n p.2 :: ·) b⟩
theorem Rx.up {x : Xv} {cls : Value} {d : Option Addr} (q : Rx S r' H' x cls d) : Rx S (r ++ r') H' ⟨x.cls, upF r.length x.fs⟩ cls d := by
  obtain ⟨c, C, dd, fs, e1, e2, e3, e4, e5, e6, e7, e8⟩ := q
  obtain ⟨u1, u2⟩ := upF_is r.length x.fs
  exact ⟨c, C, dd, fs, e1, e2, e3, e4, e5, e6.trans u1.symm, by rw [u2]; exact e7.up, u1.trans e8⟩
theorem spP {C : Nat → List A → Ho → Ev.R A} {f n : Nat} {vs : List V} {Q : VK} {E : XK} (q : spF S (callP C) f n vs H Q E) : spF S C f n vs H Q E := by
  obtain ⟨r, h, as, R, t, hl, p⟩ := q
  unfold callP at p
  split at p
  · rename_i pure_
    refine ⟨[], [], as, ⟨rfl, .nil, (fun n xs z => nomatch z)⟩, t.cut (List.nil_prefix) rfl pure_, hl, ?_⟩
    cases z : C f as [] with
    | ok a h' =>
      rw [z] at p
      intro r' H' v st R' ta
      obtain ⟨R2, st2⟩ := R.graft st R'
      exact p _ H' v st2 R2 (by rw [← R.len]; exact ta.up)
    | exc x h' =>
      rw [z] at p
      intro r' H' cls d st R' rx
      obtain ⟨R2, st2⟩ := R.graft st R'
      exact p _ H' cls d st2 R2 (by rw [← R.len]; exact rx.up)
    | err =>
      rw [z] at p
      exact p
  · exact ⟨r, h, as, R, t, hl, p⟩
end
theorem FnG.pure {P : Program} {w : World} {K : PySem.W.Frag} {mg : Str → Option Value} {base : Heap} {k : Nat} {f : Addr} {fd : FuncData} {ps : List Str} {S : Ws} {C : Nat → List A → Ho → Ev.R A} {i n : Nat} (F : FnG P w K mg base k f fd ps (spF S C i n)) : FnG P w K mg base k f fd ps (spF S (callP C) i n) :=
  ⟨fun vs H Q E h => F.len vs H Q E (spP h), fun A outer s H args us vs Q E hg hr e0 hb rv h => F.run A outer s H args us vs Q E hg hr e0 hb rv (spP h)⟩
theorem callP_err {C : Nat → List A → Ho → Ev.R A} {f : Nat} {as : List A} {h : Ho} (e : ∀ h, C f as h = .err) : callP C f as h = .err := by
  unfold callP
  split
  · rw [e]
    rfl
  · exact e h
/-! ### a def -/
theorem Ras.start {S : Ws} {r : List Addr} {H : Hp} {as : List A} {vs : List V} (t : Ras S r H as vs) (N : List Str) : Rs S r H (as.map some ++ List.replicate (N.length - as.length) none) (L2.start N vs) := by
  refine ⟨by unfold L2.start; rw [List.length_append, List.length_append, List.length_map, List.length_map, List.length_replicate, List.length_replicate, t.length], fun i a e => ?_⟩
  by_cases hi : i < as.length
  · rw [List.getElem?_append_left (by rw [List.length_map]; exact hi), List.getElem?_map] at e
    cases z : as[i]? with
    | none =>
      rw [z] at e
      cases e
    | some b =>
      rw [z] at e
      cases e
      obtain ⟨v, e1, t1⟩ := t.get z
      refine ⟨v, ?_, t1⟩
      unfold L2.start
      rw [List.getElem?_append_left (by rw [List.length_map, ← t.length]; exact hi), List.getElem?_map, e1]
      rfl
  · rw [List.getElem?_append_right (by rw [List.length_map]; omega), List.getElem?_replicate] at e
    split at e <;> cases e
/-- a def's facts and its lines' check -/
structure Dk (P : Program) (K : PySem.W.Frag) (mg : Str → Option Value) (c : Ck) (d : Df) : Prop where
  ex : ∃ (fa : Addr) (qual : Str) (params : Arguments) (body : List Stmt) (scope : Scope) (oc : Value) (od : Option Addr) (dV kV doc pm : Value) (an : Option Addr) (cdv ct : Value) (osl : Array (Option Value)),
    mg d.name = some (.ref fa) ∧ PySem.W.keepIn K (.ref fa) = true ∧ K.lookup fa = some ⟨oc, od, .func (PySem.W.fnOf d.name qual params body scope dV kV doc pm an cdv ct), osl⟩ ∧ PySem.W.codeIn K cdv qual = true ∧
    Binds K (PySem.W.fnOf d.name qual params body scope dV kV doc pm an cdv ct) (d.N.take d.ps) [] ∧ FnScope d.N (d.N.take d.ps) scope ∧ (d.N.take d.ps).length = d.ps ∧ ∀ (F k : Nat) (X : Cx) (W : WX), X.prog = P → X.K = K → X.mg = mg → CxS X { c with N := d.N } scope k (callP (callK c.G F k)) → Takes X W → PassesOwn (model X.prog X.w) X.A X.env X.xe → PSs X body (rdS (sOf X c.G) W (evSs c.G F (callP (callK c.G F k)) d.body))
section
variable {P : Program} {w : World} {K : PySem.W.Frag} {mg : Str → Option Value} {base : Heap} {c : Ck}
/-- what is said of the world besides the defs -/
structure Wk0 (P : Program) (K : PySem.W.Frag) (mg : Str → Option Value) (c : Ck) : Prop where
  df : ∀ (f : Nat) (d : Df), c.G.defs[f]? = some d → Dk P K mg c d
  free : ∀ x : String, (["len", "abs", "int", "bool", "max", "min", "sum", "any", "all", "tuple", "list", "isinstance", "repr", "range", "zip", "enumerate", "str"] : List String).contains x = true → mg (x : Str) = none
  cts : ∀ x a, look x c.cts = some a → ∃ u v, mg x = some u ∧ RelV v u ∧ ∀ (b : A), A.beq b a = true → ∀ r H, Ra ⟨K, mg, c.G⟩ r H b v
  we : We P K mg c
theorem fn_step {F k : Nat} (W0 : Wk0 P K mg c) (ih : Wd P w K mg base c k (callP (callK c.G F k))) {f : Nat} {d : Df} (hd : c.G.defs[f]? = some d) : ∃ fa fd, mg d.name = some (.ref fa) ∧ PySem.W.keepIn K (.ref fa) = true ∧ Binds K fd (d.N.take d.ps) [] ∧ (d.N.take d.ps).length = d.ps ∧
    FnG P w K mg base (k + 1) fa fd (d.N.take d.ps) (spF ⟨K, mg, c.G⟩ (callK c.G F (k + 1)) f d.ps) := by
  obtain ⟨fa, qual, params, body, scope, oc, od, dV, kV, doc, pm, an, cdv, ct, osl, m1, m2, m3, m4, m5, m6, m7, m8⟩ := (W0.df f d hd).ex
  refine ⟨fa, _, m1, m2, m5, m7, ⟨fun vs H Q E ⟨r, h, as, _, t, hl, _⟩ => by rw [← t.length, hl, m7], fun A outer s H args us vs Q E hg hr e0 hb rv hsp => ?_⟩⟩
  obtain ⟨r, h, as, R, t, hl, p⟩ := hsp
  have hlv : vs.length = (d.N.take d.ps).length := by rw [← t.length, hl, m7]
  have KX : K.In s.heap := e0.mod.kin.keeps fun b o e => (e0.bs b o e).1
  have lim : s.heap.NoLimit := e0.mod.nolimit.keeps fun b o e => (e0.bs b o e).1
  have kinds : ∀ y ∈ (d.N.take d.ps).zip us, scope.names.lookup y.1 = some .local ∨ (scope.names.lookup y.1 = some .cell ∧ ((cellsFrom (s.heap.objs.size + 1) scope.names []).lookup y.1).isSome = true) := fun ⟨n, v⟩ hy =>
    (m6.par n (List.of_mem_zip hy).1).imp (fun q => q) fun q => ⟨q, PySem.W.cellsFrom_some _ _ _ (.inl q)⟩
  refine codeAny_call_function hr.depth (KX _ _ m3) rfl m6.co m6.gen rfl (PySem.W.codeRec_of KX m4) (hb _ _ _ _ ?_)
  refine wpAny_newFunctionEnv_cells m6.kind kinds fun env he s1 x => ?_
  subst he
  refine ⟨lim.keeps x.toInCall.keep, codeAny_func ?_⟩
  -- the def's context
  generalize hX : cxOf (L2.CX P w) P w K mg base d.N qual scope fa cdv A outer s H E = X
  have cs : CxS X { c with N := d.N } scope k (callP (callK c.G F k)) := by
    subst hX
    exact ⟨⟨⟨ih.fns, ih.args, ih.free, ih.cts⟩, rfl, m6.nd, rfl, fun _ _ => rfl, rfl, hg, hr.deeper _⟩, ⟨W0.we.sup, W0.we.nam, W0.we.exc, W0.we.ven, W0.we.vek⟩, m6.kind, rfl, rfl⟩
  have tk : Takes X (fun cls dd _ H => E cls dd H) := by
    subst hX
    exact takes_of rfl rfl rfl rfl
  have ps : PassesOwn (model X.prog X.w) X.A X.env X.xe := by
    subst hX
    exact passes_of (K := fun e s'' => L2.CX P w outer H s E e s'') rfl
  have run := m8 F k X _ (by subst hX; rfl) (by subst hX; rfl) (by subst hX; rfl) cs tk ps
  subst hX
  have I : Inv (cxOf (L2.CX P w) P w K mg base d.N qual scope fa cdv A outer s H E) [] (L2.start d.N vs) H s1 := inv_start m6 hr.hd e0 hlv rv x
  have body_ok : PoS ⟨K, mg, c.G⟩ r H (evSs c.G F (callP (callK c.G F k)) d.body (as.map some ++ List.replicate (d.N.length - as.length) none) h) { nx := fun _ H' => Q .non H', rt := Q } fun cls dd _ H => E cls dd H := by
    unfold callK at p
    rw [hd] at p
    dsimp only at p
    rw [if_pos (by rw [hl]; exact beq_self_eq_true _)] at p
    cases e : evSs c.G F (callP (callK c.G F k)) d.body (as.map some ++ List.replicate (d.N.length - as.length) none) h with
    | nx s2 h2 =>
      simp only [e] at p
      exact fun r' σ' H' st A' => trim_nx (D := { nx := fun _ H' => Q .non H', rt := Q }) R p r' H' st A'.rel
    | rt a h2 =>
      simp only [e] at p
      exact trim_ok (D := { nx := fun _ H' => Q .non H', rt := Q }) R p
    | ex xv s2 h2 =>
      simp only [e] at p
      exact fun r' σ' H' cls dd st A' rx => trim_ex R p r' H' cls dd st A'.rel rx
    | bk s2 h2 =>
      simp only [e] at p
      exact False.elim p
    | ct s2 h2 =>
      simp only [e] at p
      exact False.elim p
    | err =>
      simp only [e] at p
      exact False.elim p
  refine wpAny_mono (run.run [] s1 (L2.start d.N vs) H { nx := fun _ H' => Q .non H', rt := Q } I ⟨r, _, h, ⟨R, t.start d.N⟩, body_ok⟩) (fun fl s' hs => ?_) fun e s' hs => hs
  cases fl with
  | ret u =>
    obtain ⟨v, σ', H', J, rr, q⟩ := hs
    exact ⟨v, H', J.os, J.bare, J.base, J.hok, rr, q⟩
  | next =>
    obtain ⟨σ', H', J, q⟩ := hs
    exact ⟨.non, H', J.os, J.bare, J.base, J.hok, rfl, q⟩
  | brk =>
    obtain ⟨_, _, _, q⟩ := hs
    exact q.elim
  | cont =>
    obtain ⟨_, _, _, q⟩ := hs
    exact q.elim
theorem wd_all {F : Nat} (W0 : Wk0 P K mg c) : ∀ k, Wd P w K mg base c k (callP (callK c.G F k))
  | 0 => by
    refine ⟨fun f d hd => ?_, fun f d as h hd hl => callP_err fun h => rfl, W0.free, W0.cts⟩
    obtain ⟨fa, qual, params, body, scope, oc, od, dV, kV, doc, pm, an, cdv, ct, osl, m1, m2, m3, m4, m5, m6, m7, m8⟩ := (W0.df f d hd).ex
    refine ⟨fa, _, m1, m2, m5, m7, FnG.pure ⟨fun vs H Q E ⟨r, h, as, _, t, hl, _⟩ => by rw [← t.length, hl, m7], fun A outer s H args us vs Q E hg hr e0 hb rv ⟨_, _, _, _, _, _, p⟩ => False.elim p⟩⟩
  | k + 1 => by
    refine ⟨fun f d hd => ?_, fun f d as h hd hl => callP_err fun h => ?_, W0.free, W0.cts⟩
    · obtain ⟨fa, fd, m1, m2, m3, m4, FG⟩ := fn_step W0 (wd_all W0 k) hd
      exact ⟨fa, fd, m1, m2, m3, m4, FG.pure⟩
    · unfold callK
      rw [hd]
      dsimp only
      rw [if_neg fun z => hl (beq_iff_eq.mp z)]
end
end Ev

/-! text Fw23 -/
set_option Elab.async false
set_option linter.all false
set_option maxRecDepth 100000
set_option maxHeartbeats 4000000
/-! Ev: the law's call. -/
namespace Ev
open PySem PySem.Spec PyProof.Rows L2
section
variable {P : Program} {w : World} {K : PySem.W.Frag} {mg mb : Str → Option Value} {c : Ck} {k F i : Nat} {d : Df} {fa a : Addr} {s1 : Shared} {vs : List Value} {ns : List Int}
theorem ras_ints {S : Ws} {r : List Addr} {H : Hp} : ∀ ns : List Int, Ras S r H (ns.map A.int) (ns.map V.int)
  | [] => .nil
  | n :: ns => .cons (.int n) (ras_ints ns)
/-- what the heap tells apart from the script -/
structure Told (P : Program) (w : World) (K : PySem.W.Frag) (s1 : Shared) (a : Addr) (ns : List Int) (H : Hp) : Prop where
  ro : Ro K H a (ns.map V.int)
  ok : HOk P w H s1.heap
  sole : ∀ b u, H b = some u → b = a ∧ ∃ o xs, u = .frz o (.lst xs)
  off : ∀ u, H a = some u → K.lookup a = none
theorem told_any (KX : K.In s1.heap) (ha : s1.heap.get? a = some { cls := .type "list", data := .seq vs.toArray }) (hi : IntsAre vs ns) (hl : ns.length ≤ sizeLine) : ∃ H, Told P w K s1 a ns H := by
  have rv := vals_ints hi
  cases q : K.lookup a with
  | some o =>
    have e := KX a o q
    rw [ha] at e
    obtain rfl := Option.some.inj e
    exact ⟨fun _ => none, .inr ⟨_, vs.toArray, _, q, rfl, rfl, rfl, by rw [List.size_toArray, hi.length]; exact hl, rv⟩, (fun b u z => nomatch (show (none : Option HO) = some u from z)), (fun b u z => nomatch (show (none : Option HO) = some u from z)), (fun u z => nomatch (show (none : Option HO) = some u from z))⟩
  | none =>
    have at_ : ∀ b u, (fun b => if b = a then some (HO.frz { cls := .type "list", data := .seq vs.toArray } (.lst (ns.map V.int))) else none : Hp) b = some u → b = a ∧ u = HO.frz { cls := .type "list", data := .seq vs.toArray } (.lst (ns.map V.int)) := fun b u z => by
      by_cases e : b = a
      · exact ⟨e, (Option.some.inj ((if_pos e).symm.trans z)).symm⟩
      · exact nomatch ((if_neg e).symm.trans z)
    refine ⟨fun b => if b = a then some (.frz { cls := .type "list", data := .seq vs.toArray } (.lst (ns.map V.int))) else none, .inl ⟨_, if_pos rfl⟩, fun b u z => ?_, fun b u z => ?_, fun _ _ => q⟩
    · obtain ⟨rfl, rfl⟩ := at_ b u z
      exact ⟨ha, by rw [List.length_map]; exact hl, vs, _, rv, ha⟩
    · obtain ⟨e, rfl⟩ := at_ b u z
      exact ⟨e, _, _, rfl⟩
theorem law_ev (KX : K.In s1.heap) (hns : s1.heap.Ns mainGlobals mg) (hb : s1.heap.Ns builtinsNs mb) (hbb : ∀ x : Str, x ≠ "__name__" → mb x = bootBuiltins x) (hlim : s1.heap.NoLimit) (hg : s1.gens = #[]) (ha : s1.heap.get? a = some { cls := .type "list", data := .seq vs.toArray }) (hi : IntsAre vs ns)
    (hl : ns.length ≤ sizeLine) (hr : Room (k + 1) callerA) (W0 : Wk0 P K mg c) (hd : c.G.defs[i]? = some d) (hp : d.ps = 1) (hfa : mg d.name = some (.ref fa)) (hok : ∃ h', callK c.G F (k + 1) i [.lis (ns.map A.int)] [] = .ok (.bl true) h') :
    codeAny (model P w) callerA (.call (.ref fa) ⟨[.ref a], []⟩) (fun r s' => r = .ok (.ret (.bool true)) ∧ OldK s1.heap s'.heap ∧ s'.os = s1.os ∧ AllBare s'.gens) s1 := by
  obtain ⟨H, T⟩ := told_any (P := P) (w := w) KX ha hi hl
  have free : ∀ {b : Addr} {o : Obj}, s1.heap.get? b = some o → (∀ es ep, o.data = .dict es ep → H b = none) := fun {b o} g es ep dt => by
    cases z : H b with
    | none => rfl
    | some u =>
      obtain ⟨rfl, _⟩ := T.sole b u z
      rw [ha] at g
      obtain rfl := Option.some.inj g
      cases dt
  have under : ∀ {b : Addr} {m : Str → Option Value}, s1.heap.Ns b m → (hidT s1.heap H).Ns b m := fun {b m} ⟨o, es, ep, g, dt, q⟩ => ⟨o, es, ep, hidT_get g (free g es ep dt), dt, q⟩
  have KB : K.In (hidT s1.heap H) := fun b o z => hidT_get (KX b o z) (by
    cases q : H b with
    | none => rfl
    | some u =>
      obtain ⟨rfl, _⟩ := T.sole b u q
      rw [T.off u q] at z
      cases z)
  obtain ⟨mc, c1, c2⟩ := hlim
  have M0 : Mod K mg (hidT s1.heap H) := ⟨KB, under hns, ⟨mb, under hb, hbb⟩, mc, under c1, c2⟩
  have E0 : Env0 P w K mg (hidT s1.heap H) callerA [] s1 H := ⟨rfl, M0, fun b o z => of_hidT z, Nat.le_of_eq (hidT_size _ _), trivial, (fun b z => nomatch z), T.ok, .of_eq hg⟩
  obtain ⟨fb, fd, m1, m2, m3, m4, FG⟩ := fn_step W0 (wd_all (w := w) (base := hidT s1.heap H) (F := F) W0 k) hd
  obtain rfl : fb = fa := by
    rw [hfa] at m1
    cases m1
    rfl
  obtain ⟨h', hrun⟩ := hok
  have bd := m3 s1 [.ref a] KX (by rw [m4, hp]; rfl)
  refine codeAny_mono (FG.run callerA [] s1 H ⟨[.ref a], []⟩ [.ref a] [.ref a] (fun v _ => v = .bl true) (fun _ _ _ => False) rfl hr E0 bd (.cons rfl .nil) ⟨[], [], [.lis (ns.map A.int)], ⟨rfl, .nil, (fun n xs z => nomatch z)⟩, .cons (.lis T.ro (ras_ints ns)) .nil, hp.symm, ?_⟩) fun r s' q => ?_
  · rw [hrun]
    intro r' H' v st R' t
    cases t
    rfl
  · cases r with
    | error e =>
      obtain ⟨_, _, _, _, _, _, _, _, _, _, _, _, z⟩ := q
      exact z.elim
    | ok fl =>
      cases fl with
      | next => exact False.elim q
      | brk => exact False.elim q
      | cont => exact False.elim q
      | ret u =>
        obtain ⟨v, H2, os, bare, un, ok2, rv, e⟩ := q
        have e : v = .bl true := e
        subst e
        obtain rfl : u = .bool true := rv
        refine ⟨rfl, OldK.of_keep fun b o g => ?_, os, bare⟩
        cases z : H b with
        | none => exact un.keep b o g z (fun m => nomatch (show b ∈ ([] : List Addr) from m)) (fun m => nomatch m)
        | some u =>
          obtain ⟨_, ob, xs, rfl⟩ := T.sole b u z
          obtain ⟨g1, _⟩ := T.ok b _ z
          obtain ⟨g2, _⟩ := ok2 b _ (un.frzs b ob _ z)
          rw [g] at g1
          obtain rfl := Option.some.inj g1
          exact g2
end
/-- a law, by the computing of its def -/
theorem walk_ev {l : PySem.W.OpenLaw} {n k F : Nat} {q : Program} {loose : List Str} {XP : (Str → Option Value) → Heap → Prop} {YP : World → Heap → Prop} {d : DefRec} (hn : l.most = some n) (hn2 : n ≤ sizeLine) (hdf : d.params.defaults = []) (hr : Room (k + 1) callerA)
    (hF : ∀ (w : World) (mg : Str → Option Value) (h : Heap), YP w h → h.Ns mainGlobals mg → ∃ (K : PySem.W.Frag) (c : Ck) (i : Nat) (dd : Df), K.In h ∧ Wk0 l.prog K mg c ∧ c.G.defs[i]? = some dd ∧ dd.name = d.name ∧ dd.ps = 1 ∧
      ∀ ns : List Int, ns.length ≤ n → ∃ h', callK c.G F (k + 1) i [.lis (ns.map A.int)] [] = .ok (.bl true) h') : PySem.W.WalkO q loose XP YP l.row.toRowW d [] (fun f vs => PySem.call f vs) := by
  refine Att.attach_call hn hdf fun w s0 s1 mg mb fa o pm cd doc a vs ns G Y ho hd hcd hmg hobj hi hlen hg => ?_
  obtain ⟨K, c, i, dd, KX, W0, g1, g2, g3, g4⟩ := hF w mg _ Y G.T.g
  exact law_ev KX G.T.g G.T.b G.T.builtins G.T.nolimit hg hobj hi (Nat.le_trans hlen hn2) hr W0 g1 g3 (by rw [g2]; exact hmg) (g4 ns hlen)
end Ev

/-! text Fw24 -/
set_option Elab.async false
set_option linter.all false
set_option maxRecDepth 100000
set_option maxHeartbeats 4000000
/-! Ev: what the head tells, as one check on the written part. -/
namespace Ev
open PySem PySem.Spec PyProof.Rows L2
/-! ### the error classes -/
def clsB (K : PySem.W.Frag) (C : Addr) : Bool := match K.lookup C with
  | some ⟨.type "type", _, .cls cd, sl⟩ => (match cd.mro, sl.toList with
    | .ref C' :: bm, [_, _, _, _, some (.builtin n), _] => C' == C && n == "ValueError.__new__" && !cd.hasDel && cd.hasDict && PySem.HandSPX.refsVE bm
    | _, _ => false)
  | _ => false
theorem cls_of {K : PySem.W.Frag} {C : Addr} (q : clsB K C = true) : ∃ nm q N bs bm sn sub ab col dd k0 k1 k2 k3 k5, K.lookup C = some (excClassObj nm q C N bs bm true sn sub ab col dd k0 k1 k2 k3 k5 "ValueError.__new__") ∧ PySem.HandSPX.refsVE bm = true := by
  unfold clsB at q
  split at q
  · rename_i dd cd sl ho
    split at q
    · rename_i C' bm k0 k1 k2 k3 n k5 hm hs
      obtain ⟨q, q5⟩ := and2 q
      obtain ⟨q, q4⟩ := and2 q
      obtain ⟨q, q3⟩ := and2 q
      obtain ⟨q1, q2⟩ := and2 q
      have e1 := beq_iff_eq.mp q1
      have e2 := beq_iff_eq.mp q2
      obtain ⟨nm, bs, mro, ns, qn, hd, sn, sub, ab, col, del⟩ := cd
      have hm : mro = .ref C' :: bm := hm
      have r4 : hd = true := q4
      have r3 : (!del) = true := q3
      have r3 : del = false := by simpa using r3
      subst e1 e2 hm r3 r4
      have es : sl = #[k0, k1, k2, k3, some (.builtin "ValueError.__new__"), k5] := by
        obtain ⟨l⟩ := sl
        have hs : l = _ := hs
        rw [hs]
      subst es
      exact ⟨nm, qn, ns, bs, bm, sn, sub, ab, col, dd, k0, k1, k2, k3, k5, ho, q5⟩
    · cases q
  · cases q
def initB (f : Str) (fd : FuncData) : Bool := match fd.body with
  | .stmts [.Expr (.Call (.Attribute (.Call (.Name s _) [] [] _) i p2) [.Name r _] [] p4) _, .Assign [.Attribute (.Name z _) g _] (.Name r2 _) _] => s == ("super" : Str) && i == ("__init__" : Str) && r == f && z == ("self" : Str) && g == f && r2 == f && p2.endLine == p4.line
  | _ => false
theorem init_is {f : Str} {fd : FuncData} (h : initB f fd = true) : ∃ p, fd.body = .stmts (PySem.EvX.initBody "self" f f p) ∧ ((p 2).endLine == (p 4).line) = true := by
  unfold initB at h
  split at h
  · rename_i s p0 p1 i p2 r p3 p4 p5 z p6 g p7 r2 p8 p9 e
    obtain ⟨h, h7⟩ := and2 h
    obtain ⟨h, h6⟩ := and2 h
    obtain ⟨h, h5⟩ := and2 h
    obtain ⟨h, h4⟩ := and2 h
    obtain ⟨h, h3⟩ := and2 h
    obtain ⟨h1, h2⟩ := and2 h
    have e1 := beq_iff_eq.mp h1
    have e2 := beq_iff_eq.mp h2
    have e3 := beq_iff_eq.mp h3
    have e4 := beq_iff_eq.mp h4
    have e5 := beq_iff_eq.mp h5
    have e6 := beq_iff_eq.mp h6
    subst e1 e2 e3 e4 e5 e6
    exact ⟨fun n => match n with
      | 0 => p0
      | 1 => p1
      | 2 => p2
      | 3 => p3
      | 4 => p4
      | 5 => p5
      | 6 => p6
      | 7 => p7
      | 8 => p8
      | _ => p9, e, h7⟩
  · cases h
def parsB (f : Str) (fd : FuncData) : Bool := (match fd.params with
  | ⟨[], [a, b], none, [], [], none, []⟩ => a.arg == ("self" : Str) && b.arg == f && (f == ("reason" : Str) || f == ("at" : Str) || f == ("line" : Str))
  | _ => false) && (match fd.defaults with
  | .none => true
  | _ => false)
theorem pars_is {f : Str} {fd : FuncData} (h : parsB f fd = true) : (∀ a b : Value, bindArgs fd ⟨[a, b], []⟩ = pure [(("self" : Str), a), (f, b)]) ∧ ∃ ar, (fd.params.posonlyargs ++ fd.params.args).head? = some ar ∧ ar.arg = "self" := by
  obtain ⟨h1, h2⟩ := and2 h
  obtain ⟨f1, f2, f3, f4, f5, f6, f7, f8, f9, f10, f11, f12, f13, f14, f15⟩ := fd
  split at h1
  · rename_i a b e
    obtain ⟨h1, i5⟩ := and2 h1
    obtain ⟨i1, i3⟩ := and2 h1
    have e : f3 = ⟨[], [a, b], none, [], [], none, []⟩ := e
    obtain ⟨a1, a2, a3⟩ := a
    obtain ⟨b1, b2, b3⟩ := b
    have e1 : a1 = "self" := beq_iff_eq.mp i1
    have e2 : b1 = f := beq_iff_eq.mp i3
    subst e1 e2 e
    split at h2
    · rename_i e
      have e : f8 = .none := e
      subst e
      rcases Bool.or_eq_true_iff.mp i5 with z | z
      · rcases Bool.or_eq_true_iff.mp z with z | z
        · have y := beq_iff_eq.mp z
          subst y
          exact ⟨fun a b => rfl, _, rfl, rfl⟩
        · have y := beq_iff_eq.mp z
          subst y
          exact ⟨fun a b => rfl, _, rfl, rfl⟩
      · have y := beq_iff_eq.mp z
        subst y
        exact ⟨fun a b => rfl, _, rfl, rfl⟩
    · cases h2
  · cases h1

def scB (f : Str) (fd : FuncData) : Bool := (match fd.scope.kind with
  | .function => true
  | _ => false) && !fd.scope.isCoroutine && !fd.scope.isGenerator && (fd.scope.names.all fun y => y.2 != .cell) && fd.scope.names.lookup ("super" : Str) == some .globalImplicit && fd.scope.names.lookup ("__class__" : Str) == some .free && fd.scope.names.lookup ("self" : Str) == some .local &&
    fd.scope.names.lookup f == some .local
/-- the module's class x, its __init__ as ReasonError has it -/
def xiB (P : Program) (K : PySem.W.Frag) (f x : Str) : Bool := !(("self" : Str) == f) && !(f == ("__debug__" : Str)) && clsB K (He.ga K x) && decide (PySem.W.findIn K (.ref (He.ga K x)) "__init__" = some (some (.ref (He.ma K (He.ga K x) "__init__")))) && (match K.lookup (He.ma K (He.ga K x) "__init__") with
  | some ⟨oc, od, .func fd, osl⟩ => decide (PySem.W.typeIn K (.ref (He.ma K (He.ga K x) "__init__")) = some (.type "function")) && PySem.W.codeIn K fd.code fd.qualname && initB f fd && parsB f fd && scB f fd && (match fd.code with
    | .ref cda => (match K.lookup cda with
      | some ⟨_, _, .fields vs, _⟩ => (match (vs[2]? : Option Value) with
        | some (Value.str file _) => (P.main.file : Str) == file
        | _ => false)
      | _ => false)
    | _ => false) && fd.globals == mainGlobals && fd.builtins == builtinsNs && (match fd.closure.lookup ("__class__" : Str) with
    | some cc => (match K.lookup cc with
      | some ⟨_, _, .cell (some (.ref D)), _⟩ => (PySem.W.clsIn K D).isSome && decide (PySem.W.mroIn K (He.ga K x) (.ref D) = some true) && decide (PySem.W.ks_superIn K (He.ga K x) D "__init__" = some (some (.builtin "ValueError.__init__")))
      | _ => false)
    | none => false)
  | _ => false) && decide (PySem.W.nsIn K cStatics "thirdparty.any" = some none) && decide (PySem.W.subIn K (.ref (He.ga K x)) (.type "ValueError") = some true) && decide (PySem.W.findIn K (.ref (He.ga K x)) "__setattr__" = some (some (.builtin "object.__setattr__"))) &&
  decide (PySem.W.findIn K (.ref (He.ga K x)) f = some none) && decide (PySem.W.subIn K (.ref (He.ga K x)) (.type "BaseException") = some true) && decide (PySem.W.typeIn K (.ref (He.ga K x)) = some (.type "type")) && PySem.W.keepIn K (.ref (He.ga K x)) && !(P.main.scope.names.lookup ("super" : Str)).isSome
theorem xi_of {P : Program} {K : PySem.W.Frag} {f x : Str} (h : xiB P K f x = true) : ∃ D fI cc cda fd, PySem.EvX.XI P K (He.ga K x) D fI cc cda fd f "self" f := by
  unfold xiB at h
  obtain ⟨h, h11⟩ := and2 h
  obtain ⟨h, h10⟩ := and2 h
  obtain ⟨h, h9⟩ := and2 h
  obtain ⟨h, h8⟩ := and2 h
  obtain ⟨h, h7⟩ := and2 h
  obtain ⟨h, h6⟩ := and2 h
  obtain ⟨h, h5⟩ := and2 h
  obtain ⟨h, h4⟩ := and2 h
  obtain ⟨h, h3⟩ := and2 h
  obtain ⟨h, h2⟩ := and2 h
  obtain ⟨h, h1⟩ := and2 h
  obtain ⟨n1, n2⟩ := and2 h
  split at h3
  · rename_i oc od fd osl lk
    obtain ⟨h3, g9⟩ := and2 h3
    obtain ⟨h3, g8⟩ := and2 h3
    obtain ⟨h3, g7⟩ := and2 h3
    obtain ⟨h3, g6⟩ := and2 h3
    obtain ⟨h3, g5⟩ := and2 h3
    obtain ⟨h3, g4⟩ := and2 h3
    obtain ⟨h3, g3⟩ := and2 h3
    obtain ⟨g1, g2⟩ := and2 h3
    split at g6
    · rename_i cda ecd
      split at g6
      · rename_i ccl cdd vs ccs lkc
        split at g6
        · rename_i file tf evs
          split at g9
          · rename_i cc ecl
            split at g9
            · rename_i cl cld D csl lkcell
              obtain ⟨g9, k3⟩ := and2 g9
              obtain ⟨k1, k2⟩ := and2 g9
              obtain ⟨b1, b2⟩ := pars_is g4
              obtain ⟨g5, s8⟩ := and2 g5
              obtain ⟨g5, s7⟩ := and2 g5
              obtain ⟨g5, s6⟩ := and2 g5
              obtain ⟨g5, s5⟩ := and2 g5
              obtain ⟨g5, s4⟩ := and2 g5
              obtain ⟨g5, s3⟩ := and2 g5
              obtain ⟨s1, s2⟩ := and2 g5
              refine ⟨D, _, cc, cda, fd, ⟨cls_of h1, of_decide_eq_true h2, ⟨oc, od, osl, lk⟩, of_decide_eq_true g1, g2, ecd, ⟨ccl, cdd, vs, ccs, file, tf, lkc, evs, g6⟩, init_is g3, b1, b2, ?_, not1 s2, not1 s3, fun y hy => ?_, beq_iff_eq.mp s5, beq_iff_eq.mp s6, beq_iff_eq.mp s7, beq_iff_eq.mp s8, not1 n1, by decide, not1 n2,
                ecl, beq_iff_eq.mp g7, beq_iff_eq.mp g8, ⟨cl, cld, csl, lkcell⟩, ?_, of_decide_eq_true k2, of_decide_eq_true h4, of_decide_eq_true k3, of_decide_eq_true h5, of_decide_eq_true h6, of_decide_eq_true h7, of_decide_eq_true h8, of_decide_eq_true h9, h10, not1 h11⟩⟩
              · split at s1
                · assumption
                · cases s1
              · exact bne_iff_ne.mp (List.all_eq_true.mp s4 y hy)
              · obtain ⟨cdD, e⟩ := Option.isSome_iff_exists.mp k1
                unfold PySem.W.clsIn at e
                split at e
                · rename_i c' d' cd' sl' ho
                  exact ⟨c', d', cd', sl', ho⟩
                · cases e
            · cases g9
          · cases g9
        · cases g6
      · cases g6
    · cases g6
  · cases h3
def initB2 (f g : Str) (fd : FuncData) : Bool := match fd.body with
  | .stmts [.Expr (.Call (.Attribute (.Call (.Name s _) [] [] _) i p2) [.Name r _, .Name t _] [] p4) _, .Assign [.Attribute (.Name z _) g1 _] (.Name r2 _) _, .Assign [.Attribute (.Name z2 _) g2 _] (.Name r3 _) _] => s == ("super" : Str) && i == ("__init__" : Str) && r == f && t == g && z == ("self" : Str) && g1 == f && r2 == f &&
    z2 == ("self" : Str) && g2 == g && r3 == g && p2.endLine == p4.line
  | _ => false
theorem init_is2 {f g : Str} {fd : FuncData} (h : initB2 f g fd = true) : ∃ p, fd.body = .stmts (PySem.EvX.initBody2 "self" f g p) ∧ ((p 2).endLine == (p 4).line) = true := by
  unfold initB2 at h
  split at h
  · rename_i s p0 p1 i p2 r p3 t p10 p4 p5 z p6 g1 p7 r2 p8 p9 z2 p11 g2 p12 r3 p13 p14 e
    obtain ⟨h, h11⟩ := and2 h
    obtain ⟨h, h10⟩ := and2 h
    obtain ⟨h, h9⟩ := and2 h
    obtain ⟨h, h8⟩ := and2 h
    obtain ⟨h, h7⟩ := and2 h
    obtain ⟨h, h6⟩ := and2 h
    obtain ⟨h, h5⟩ := and2 h
    obtain ⟨h, h4⟩ := and2 h
    obtain ⟨h, h3⟩ := and2 h
    obtain ⟨h1, h2⟩ := and2 h
    have e1 := beq_iff_eq.mp h1
    have e2 := beq_iff_eq.mp h2
    have e3 := beq_iff_eq.mp h3
    have e4 := beq_iff_eq.mp h4
    have e5 := beq_iff_eq.mp h5
    have e6 := beq_iff_eq.mp h6
    have e7 := beq_iff_eq.mp h7
    have e8 := beq_iff_eq.mp h8
    have e9 := beq_iff_eq.mp h9
    have e10 := beq_iff_eq.mp h10
    subst e1 e2 e3 e4 e5 e6 e7 e8 e9 e10
    exact ⟨fun n => match n with
      | 0 => p0
      | 1 => p1
      | 2 => p2
      | 3 => p3
      | 4 => p4
      | 5 => p5
      | 6 => p6
      | 7 => p7
      | 8 => p8
      | 9 => p9
      | 10 => p10
      | 11 => p11
      | 12 => p12
      | 13 => p13
      | _ => p14, e, h11⟩
  · cases h
def parsB2 (f g : Str) (fd : FuncData) : Bool := (match fd.params with
  | ⟨[], [a, b, d], none, [], [], none, []⟩ => a.arg == ("self" : Str) && b.arg == f && d.arg == g && (f == ("number" : Str) && g == ("reason" : Str))
  | _ => false) && (match fd.defaults with
  | .none => true
  | _ => false)
theorem pars_is2 {f g : Str} {fd : FuncData} (h : parsB2 f g fd = true) : (∀ a b e : Value, bindArgs fd ⟨[a, b, e], []⟩ = pure [(("self" : Str), a), (f, b), (g, e)]) ∧ ∃ ar, (fd.params.posonlyargs ++ fd.params.args).head? = some ar ∧ ar.arg = "self" := by
  obtain ⟨h1, h2⟩ := and2 h
  obtain ⟨f1, f2, f3, f4, f5, f6, f7, f8, f9, f10, f11, f12, f13, f14, f15⟩ := fd
  split at h1
  · rename_i a b d e
    obtain ⟨h1, i5⟩ := and2 h1
    obtain ⟨h1, i4⟩ := and2 h1
    obtain ⟨i1, i3⟩ := and2 h1
    have e : f3 = ⟨[], [a, b, d], none, [], [], none, []⟩ := e
    obtain ⟨a1, a2, a3⟩ := a
    obtain ⟨b1, b2, b3⟩ := b
    obtain ⟨d1, d2, d3⟩ := d
    have e1 : a1 = "self" := beq_iff_eq.mp i1
    have e2 : b1 = f := beq_iff_eq.mp i3
    have e3 : d1 = g := beq_iff_eq.mp i4
    subst e1 e2 e3 e
    split at h2
    · rename_i e
      have e : f8 = .none := e
      subst e
      obtain ⟨z1, z2⟩ := and2 i5
      have y1 := beq_iff_eq.mp z1
      have y2 := beq_iff_eq.mp z2
      subst y1 y2
      exact ⟨fun a b e => rfl, _, rfl, rfl⟩
    · cases h2
  · cases h1

def scB2 (f g : Str) (fd : FuncData) : Bool := (match fd.scope.kind with
  | .function => true
  | _ => false) && !fd.scope.isCoroutine && !fd.scope.isGenerator && (fd.scope.names.all fun y => y.2 != .cell) && fd.scope.names.lookup ("super" : Str) == some .globalImplicit && fd.scope.names.lookup ("__class__" : Str) == some .free && fd.scope.names.lookup ("self" : Str) == some .local &&
    fd.scope.names.lookup f == some .local && fd.scope.names.lookup g == some .local
def xiB2 (P : Program) (K : PySem.W.Frag) (f g x : Str) : Bool := !(("self" : Str) == f) && !(("self" : Str) == g) && !(f == g) && !(f == ("__debug__" : Str)) && !(g == ("__debug__" : Str)) && decide (PySem.W.findIn K (.ref (He.ga K x)) g = some none) && clsB K (He.ga K x) && decide (PySem.W.findIn K (.ref (He.ga K x)) "__init__" = some (some (.ref (He.ma K (He.ga K x) "__init__")))) && (match K.lookup (He.ma K (He.ga K x) "__init__") with
  | some ⟨oc, od, .func fd, osl⟩ => decide (PySem.W.typeIn K (.ref (He.ma K (He.ga K x) "__init__")) = some (.type "function")) && PySem.W.codeIn K fd.code fd.qualname && initB2 f g fd && parsB2 f g fd && scB2 f g fd && (match fd.code with
    | .ref cda => (match K.lookup cda with
      | some ⟨_, _, .fields vs, _⟩ => (match (vs[2]? : Option Value) with
        | some (Value.str file _) => (P.main.file : Str) == file
        | _ => false)
      | _ => false)
    | _ => false) && fd.globals == mainGlobals && fd.builtins == builtinsNs && (match fd.closure.lookup ("__class__" : Str) with
    | some cc => (match K.lookup cc with
      | some ⟨_, _, .cell (some (.ref D)), _⟩ => (PySem.W.clsIn K D).isSome && decide (PySem.W.mroIn K (He.ga K x) (.ref D) = some true) && decide (PySem.W.ks_superIn K (He.ga K x) D "__init__" = some (some (.builtin "ValueError.__init__")))
      | _ => false)
    | none => false)
  | _ => false) && decide (PySem.W.nsIn K cStatics "thirdparty.any" = some none) && decide (PySem.W.subIn K (.ref (He.ga K x)) (.type "ValueError") = some true) && decide (PySem.W.findIn K (.ref (He.ga K x)) "__setattr__" = some (some (.builtin "object.__setattr__"))) &&
  decide (PySem.W.findIn K (.ref (He.ga K x)) f = some none) && decide (PySem.W.subIn K (.ref (He.ga K x)) (.type "BaseException") = some true) && decide (PySem.W.typeIn K (.ref (He.ga K x)) = some (.type "type")) && PySem.W.keepIn K (.ref (He.ga K x)) && !(P.main.scope.names.lookup ("super" : Str)).isSome
theorem xi_of2 {P : Program} {K : PySem.W.Frag} {f g x : Str} (h : xiB2 P K f g x = true) : ∃ D fI cc cda fd, PySem.EvX.XI2 P K (He.ga K x) D fI cc cda fd "self" f g := by
  unfold xiB2 at h
  obtain ⟨h, h11⟩ := and2 h
  obtain ⟨h, h10⟩ := and2 h
  obtain ⟨h, h9⟩ := and2 h
  obtain ⟨h, h8⟩ := and2 h
  obtain ⟨h, h7⟩ := and2 h
  obtain ⟨h, h6⟩ := and2 h
  obtain ⟨h, h5⟩ := and2 h
  obtain ⟨h, h4⟩ := and2 h
  obtain ⟨h, h3⟩ := and2 h
  obtain ⟨h, h2⟩ := and2 h
  obtain ⟨h, h1⟩ := and2 h
  obtain ⟨h, n6⟩ := and2 h
  obtain ⟨h, n5⟩ := and2 h
  obtain ⟨h, n4⟩ := and2 h
  obtain ⟨h, n3⟩ := and2 h
  obtain ⟨n1, n2⟩ := and2 h
  split at h3
  · rename_i oc od fd osl lk
    obtain ⟨h3, g9⟩ := and2 h3
    obtain ⟨h3, g8⟩ := and2 h3
    obtain ⟨h3, g7⟩ := and2 h3
    obtain ⟨h3, g6⟩ := and2 h3
    obtain ⟨h3, g5⟩ := and2 h3
    obtain ⟨h3, g4⟩ := and2 h3
    obtain ⟨h3, g3⟩ := and2 h3
    obtain ⟨g1, g2⟩ := and2 h3
    split at g6
    · rename_i cda ecd
      split at g6
      · rename_i ccl cdd vs ccs lkc
        split at g6
        · rename_i file tf evs
          split at g9
          · rename_i cc ecl
            split at g9
            · rename_i cl cld D csl lkcell
              obtain ⟨g9, k3⟩ := and2 g9
              obtain ⟨k1, k2⟩ := and2 g9
              obtain ⟨b1, b2⟩ := pars_is2 g4
              obtain ⟨g5, s9⟩ := and2 g5
              obtain ⟨g5, s8⟩ := and2 g5
              obtain ⟨g5, s7⟩ := and2 g5
              obtain ⟨g5, s6⟩ := and2 g5
              obtain ⟨g5, s5⟩ := and2 g5
              obtain ⟨g5, s4⟩ := and2 g5
              obtain ⟨g5, s3⟩ := and2 g5
              obtain ⟨s1, s2⟩ := and2 g5
              refine ⟨D, _, cc, cda, fd, ⟨cls_of h1, of_decide_eq_true h2, ⟨oc, od, osl, lk⟩, of_decide_eq_true g1, g2, ecd, ⟨ccl, cdd, vs, ccs, file, tf, lkc, evs, g6⟩, init_is2 g3, b1, b2, ?_, not1 s2, not1 s3, fun y hy => ?_, beq_iff_eq.mp s5, beq_iff_eq.mp s6, beq_iff_eq.mp s7, beq_iff_eq.mp s8, beq_iff_eq.mp s9, not1 n1, not1 n2, not1 n3, by decide, not1 n4, not1 n5,
                ecl, beq_iff_eq.mp g7, beq_iff_eq.mp g8, ⟨cl, cld, csl, lkcell⟩, ?_, of_decide_eq_true k2, of_decide_eq_true h4, of_decide_eq_true k3, of_decide_eq_true h5, of_decide_eq_true h6, of_decide_eq_true h7, of_decide_eq_true n6, of_decide_eq_true h8, of_decide_eq_true h9, h10, not1 h11⟩⟩
              · split at s1
                · assumption
                · cases s1
              · exact bne_iff_ne.mp (List.all_eq_true.mp s4 y hy)
              · obtain ⟨cdD, e⟩ := Option.isSome_iff_exists.mp k1
                unfold PySem.W.clsIn at e
                split at e
                · rename_i c' d' cd' sl' ho
                  exact ⟨c', d', cd', sl', ho⟩
                · cases e
            · cases g9
          · cases g9
        · cases g6
      · cases g6
    · cases g6
  · cases h3
def excCB (K : PySem.W.Frag) (D : Addr) : Bool := decide (PySem.W.findIn K (.ref D) "__class__" = some (some (.builtin "object.__class__"))) && decide (PySem.W.specialIn K (.builtin "object.__class__") "__get__" = some (some (.builtin "getset_descriptor.__get__"))) &&
  decide (PySem.W.takesIn K (.builtin "object.__class__") = some true) && decide (PySem.W.mroIn K D (.type "object") = some true)
/-- all that is asked of the error classes -/
def weB (P : Program) (K : PySem.W.Frag) (c : Ck) : Bool := decide (PySem.W.nsIn K mainGlobals "super" = some none) && decide (PySem.W.nsIn K mainGlobals "ValueError" = some none) && (c.G.ecs.all fun e => decide (PySem.W.kitOne K (.ref (He.ga K e.name)) (.type "ValueError") = some true)) && (c.exn.all fun Y => decide (PySem.W.nsIn K mainGlobals Y = some (some (.ref (He.ga K Y))))) &&
  ((List.range c.G.ecs.length).all fun i => match c.G.ecs[i]? with
    | some e => (match e.fs with
      | [f] => xiB P K f e.name
      | [f, g] => xiB2 P K f g e.name
      | _ => false) && decide (PySem.W.nsIn K mainGlobals e.name = some (some (.ref (He.ga K e.name)))) && xfB K (He.ga K e.name) && excCB K (He.ga K e.name) && (c.exn.all fun Y =>
      decide (PySem.W.exmOne K (.ref (He.ga K e.name)) (.ref (He.ga K Y)) = some (c.G.takes i Y)) && decide (PySem.W.kitOne K (.ref (He.ga K e.name)) (.ref (He.ga K Y)) = some (c.G.takes i Y)))
    | none => false)
theorem we_of {P : Program} {K : PySem.W.Frag} {mg : Str → Option Value} {h : Heap} {c : Ck} (X : K.In h) (Gn : h.Ns mainGlobals mg) (q : weB P K c = true) : We P K mg c := by
  obtain ⟨q, q3⟩ := and2 q
  obtain ⟨q, q2⟩ := and2 q
  obtain ⟨q, q4⟩ := and2 q
  obtain ⟨q1, q5⟩ := and2 q
  have nm : ∀ Y, c.exn.contains Y = true → mg Y = some (.ref (He.ga K Y)) := fun Y hY => PySem.W.mg_of X Gn (of_decide_eq_true (List.all_eq_true.mp q2 Y (List.contains_iff_mem.mp hY)))
  refine ⟨PySem.W.mg_none_of X Gn (of_decide_eq_true q1), fun Y hY => ⟨_, nm Y hY⟩, fun i e he => ?_, PySem.W.mg_none_of X Gn (of_decide_eq_true q5), fun i e he Ca hC => ?_⟩
  rotate_left
  · have z := List.all_eq_true.mp q3 i (List.mem_range.mpr (List.getElem?_eq_some_iff.mp he).1)
    rw [he] at z
    have z7 : mg e.name = some (.ref (He.ga K e.name)) := by
      obtain ⟨z, _⟩ := and2 z
      obtain ⟨z, _⟩ := and2 z
      obtain ⟨z, _⟩ := and2 z
      exact PySem.W.mg_of X Gn (of_decide_eq_true (and2 z).2)
    have z8 : some (Value.ref Ca) = some (.ref (He.ga K e.name)) := hC.symm.trans z7
    cases z8
    exact of_decide_eq_true (List.all_eq_true.mp q4 e (List.mem_of_getElem? he))
  have z := List.all_eq_true.mp q3 i (List.mem_range.mpr (List.getElem?_eq_some_iff.mp he).1)
  rw [he] at z
  obtain ⟨z, z6⟩ := and2 z
  obtain ⟨z, z5⟩ := and2 z
  obtain ⟨z, z4⟩ := and2 z
  obtain ⟨z1, z2⟩ := and2 z
  have mk : Mks P K (He.ga K e.name) e.fs := by
    split at z1
    · rename_i f ef
      obtain ⟨D, fI, cc, cda, fd, xi⟩ := xi_of z1
      exact .inl ⟨D, fI, cc, cda, fd, f, _, _, ef, xi⟩
    · rename_i f g ef
      obtain ⟨D, fI, cc, cda, fd, xi⟩ := xi_of2 z1
      exact .inr ⟨D, fI, cc, cda, fd, _, f, g, ef, xi⟩
    · cases z1
  have xf := xfB_ok z4
  obtain ⟨z5, y4⟩ := and2 z5
  obtain ⟨z5, y3⟩ := and2 z5
  obtain ⟨y1, y2⟩ := and2 z5
  refine ⟨_, PySem.W.mg_of X Gn (of_decide_eq_true z2), mk, xf, ⟨xf.ga, xf.gg, xf.exC, xf.hdC, of_decide_eq_true y1, of_decide_eq_true y2, of_decide_eq_true y3, of_decide_eq_true y4⟩, fun Y CY hY eY => ?_⟩
  rw [nm Y hY] at eY
  cases eY
  obtain ⟨w1, w2⟩ := and2 (List.all_eq_true.mp z6 Y (List.contains_iff_mem.mp hY))
  exact ⟨of_decide_eq_true w1, of_decide_eq_true w2⟩
/-! ### constants -/
def ctB (K : PySem.W.Frag) (p : Str × A) : Bool := match PySem.W.nsIn K mainGlobals p.1, p.2 with
  | some (some (.int j _)), .int i => i == j
  | some (some (.str z _)), .str y => z == y
  | _, _ => false
theorem ct_of {K : PySem.W.Frag} {mg : Str → Option Value} {h : Heap} {G : Pg} (X : K.In h) (Gn : h.Ns mainGlobals mg) {p : Str × A} (q : ctB K p = true) : ∃ u v, mg p.1 = some u ∧ RelV v u ∧ ∀ (b : A), A.beq b p.2 = true → ∀ r H, Ra ⟨K, mg, G⟩ r H b v := by
  obtain ⟨x, a⟩ := p
  unfold ctB at q
  split at q
  · rename_i j t i e1 e2
    have e2 : a = .int i := e2
    have e3 : i = j := beq_iff_eq.mp q
    subst e2 e3
    exact ⟨_, .int i, PySem.W.mg_of X Gn e1, ⟨t, rfl⟩, fun b hb r H => by rw [A.beq_is _ _ hb]; exact .int i⟩
  · rename_i z t y e1 e2
    have e2 : a = .str y := e2
    have e3 : z = y := beq_iff_eq.mp q
    subst e2 e3
    exact ⟨_, .str z, PySem.W.mg_of X Gn e1, ⟨t, rfl⟩, fun b hb r H => by rw [A.beq_is _ _ hb]; exact .str z⟩
  · cases q
theorem look_mem {x : Str} {a : A} : ∀ {l : List (Str × A)}, look x l = some a → (x, a) ∈ l
  | [], e => by
    unfold look at e
    cases e
  | (g, y) :: l, e => by
    unfold look at e
    split at e
    · rename_i z
      have z := beq_iff_eq.mp z
      cases e
      rw [z]
      exact List.mem_cons_self
    · exact List.mem_cons_of_mem _ (look_mem e)
/-! ### defs -/
def fnsB (N P : List Str) (sc : Scope) : Bool := (match sc.kind with
  | .function => true
  | _ => false) && !sc.isCoroutine && !sc.isGenerator && decide N.Nodup && decide (N.take P.length = P) && (P.all fun x => decide (sc.names.lookup x = some .local) || decide (sc.names.lookup x = some .cell)) && (sc.names.all fun y => y.2 != .free)
theorem fns_of {N P : List Str} {sc : Scope} (q : fnsB N P sc = true) : FnScope N P sc := by
  obtain ⟨q, q7⟩ := and2 q
  obtain ⟨q, q6⟩ := and2 q
  obtain ⟨q, q5⟩ := and2 q
  obtain ⟨q, q4⟩ := and2 q
  obtain ⟨q, q3⟩ := and2 q
  obtain ⟨q1, q2⟩ := and2 q
  refine ⟨?_, not1 q2, not1 q3, of_decide_eq_true q4, of_decide_eq_true q5, fun x hx => ?_, fun y hy => bne_iff_ne.mp (List.all_eq_true.mp q7 y hy)⟩
  · split at q1
    · assumption
    · cases q1
  · exact (Bool.or_eq_true_iff.mp (List.all_eq_true.mp q6 x hx)).imp of_decide_eq_true of_decide_eq_true
/-- a def of the text's top: how it binds, and that its lines are the term's -/
structure Dd (c : Ck) (d : Df) (st : Stmt) : Prop where
  bind : ∀ (kV doc pm : Value) (an : Option Addr) (cdv ct : Value) (us : List Value), us.length = (d.N.take d.ps).length → bindArgs (PySem.W.fnOf d.name d.name (defArgs st) (defBody st) (defScope st) .none kV doc pm an cdv ct) ⟨us, []⟩ = pure ((d.N.take d.ps).zip us)
  chk : (fnsB d.N (d.N.take d.ps) (defScope st) && decide ((d.N.take d.ps).length = d.ps) && ckSs { c with N := d.N } (defScope st) d.body (defBody st)) = true
theorem dk_of {P : Program} {K : PySem.W.Frag} {mg : Str → Option Value} {h : Heap} {c : Ck} {d : Df} {st : Stmt} {f : Addr} {fd : FuncData} (X : K.In h) (Gn : h.Ns mainGlobals mg) (q : Dd c d st) (hf : mg d.name = some (.ref f)) (F : FunD K d.name d.name (defArgs st) (defBody st) (defScope st) [] [] f fd) : Dk P K mg c d := by
  obtain ⟨c1, c3⟩ := and2 q.chk
  obtain ⟨c1, c2⟩ := and2 c1
  have b := F.bindsN (ps := d.N.take d.ps) q.bind
  obtain ⟨oc, od, dV, kV, doc, pm, an, cdv, ct, osl, rfl, lk, hcd, hD, hK⟩ := F.ex
  have sc := fns_of c1
  exact ⟨f, d.name, defArgs st, defBody st, defScope st, oc, od, dV, kV, doc, pm, an, cdv, ct, osl, hf, F.kp, lk, hcd, b, sc, of_decide_eq_true c2, fun F k X W _ _ _ => okSs (F := F) d.body _ _ c3 X W⟩
end Ev

/-! text Fw25 -/
set_option Elab.async false
set_option linter.all false
set_option maxRecDepth 100000
set_option maxHeartbeats 4000000
/-! Ev: the head's look, and what the walk takes of it. -/
namespace Ev
open PySem PySem.Spec PyProof.Rows L2
/-- the objects that are looked at: those that the names reach, the run's statics, the functions' cells -/
def reach (g : Addr → Option Obj) (n : Nat) : List Addr := (He.asD g n ++ cStatics :: (He.asD g n).flatMap fun a => match g a with
  | some ⟨_, _, .func fd, _⟩ => fd.closure.map (·.2)
  | _ => []).eraseDups
abbrev Al : Type := He.AlD × Bool
def look1 (n : Nat) (fn : List He.DefD) (B : PySem.W.Frag → Bool) (g : Addr → Option Obj) : Al := (He.obsD [] fn (He.frG g (reach g n)), B (He.frG g (reach g n)))
def hookE (n : Nat) (fn : List He.DefD) (B : PySem.W.Frag → Bool) : PySem.W.Hook where
  α := Al
  obs := fun s => look1 n fn B s.heap.get?
  val := fun _ => (He.valD fn, true)
  says := fun _ h => ∃ K : PySem.W.Frag, K.In h ∧ He.SaysD [] fn K ∧ B K = true
  of := fun _ _ e => ⟨_, He.frG_in, congrArg (fun z : Al => z.1) e, congrArg (fun z : Al => z.2) e⟩
  keeps := fun _ _ _ ⟨K, a, b, d⟩ k => ⟨K, PySem.W.Frag.In.keeps a k, b, d⟩
theorem look1_eq {n : Nat} {fn : List He.DefD} {B : PySem.W.Frag → Bool} {g : Addr → Option Obj} {s : Shared} (h : ∀ a, g a = s.heap.get? a) : look1 n fn B g = (hookE n fn B).obs s := by
  obtain rfl : g = s.heap.get? := funext h
  rfl
def builtNames : List String := ["len", "abs", "int", "bool", "max", "min", "sum", "any", "all", "tuple", "list", "isinstance", "repr", "range", "zip", "enumerate", "str"]
/-- what is asked of the written part besides the defs' objects -/
def partB (P : Program) (c : Ck) (K : PySem.W.Frag) : Bool := weB P K c && (c.cts.all fun p => ctB K p) && (builtNames.all fun x => decide (PySem.W.nsIn K mainGlobals (x : Str) = some none)) && (c.G.defs.all fun d => decide (PySem.W.nsIn K mainGlobals d.name = some (some (.ref (He.ga K d.name)))))
def dfn (d : Df) (st : Stmt) : He.DefD := ⟨(d.name, none), d.name, d.name, defArgs st, defBody st, defScope st, [], []⟩
def AllD (c : Ck) : List Df → List Stmt → Prop
  | [], [] => True
  | d :: ds, s :: ss => Dd c d s ∧ AllD c ds ss
  | _, _ => False
theorem AllD.get {c : Ck} : ∀ {ds : List Df} {ss : List Stmt} {i : Nat} {d : Df}, AllD c ds ss → ds[i]? = some d → ∃ s, ss[i]? = some s ∧ Dd c d s
  | [], _, _, _, _, e => by simp at e
  | _ :: _, [], _, _, h, _ => False.elim h
  | d :: ds, s :: ss, 0, _, h, e => by
    simp at e
    subst e
    exact ⟨s, rfl, h.1⟩
  | d :: ds, s :: ss, i + 1, d', h, e => by
    obtain ⟨s', e1, q⟩ := AllD.get (i := i) (d := d') h.2 (by simpa using e)
    exact ⟨s', by simpa using e1, q⟩
theorem wk_of {P : Program} {K : PySem.W.Frag} {mg : Str → Option Value} {h : Heap} {c : Ck} {ss : List Stmt} (X : K.In h) (Gn : h.Ns mainGlobals mg) (D : AllD c c.G.defs ss) (sd : He.SaysD [] (List.zipWith dfn c.G.defs ss) K) (q : partB P c K = true) : Wk0 P K mg c := by
  obtain ⟨q, q4⟩ := and2 q
  obtain ⟨q, q3⟩ := and2 q
  obtain ⟨q1, q2⟩ := and2 q
  refine ⟨fun f d hd => ?_, fun x hx => ?_, fun x a e => ?_, we_of X Gn q1⟩
  · obtain ⟨s, e1, dd⟩ := D.get hd
    obtain ⟨fd, F⟩ := sd.def_ f (d := dfn d s) (by rw [List.getElem?_zipWith, hd, e1])
    exact dk_of X Gn dd (PySem.W.mg_of X Gn (of_decide_eq_true (List.all_eq_true.mp q4 d (List.mem_of_getElem? hd)))) F
  · exact PySem.W.mg_none_of X Gn (of_decide_eq_true (List.all_eq_true.mp q3 x (List.contains_iff_mem.mp hx)))
  · exact ct_of X Gn (List.all_eq_true.mp q2 (x, a) (look_mem e))
end Ev

/-! text Fw26 -/
set_option Elab.async false
set_option linter.all false
set_option maxRecDepth 100000
set_option maxHeartbeats 4000000
/-! Ev: a def that raises nothing, called in a suite with the caught error. -/
namespace Ev
open PySem PySem.Spec PyProof.Rows L2 L2N
/-- what such a def promises, the caught error being p -/
structure HotD (P : Program) (w : World) (K : PySem.W.Frag) (mg : Str → Option Value) (g0 : Heap) (k : Nat) (fa : Addr) (fd : FuncData) (ps : List Str) (p : Addr × Obj) (sp : Sp) : Prop where
  many : ∀ vs G Q E, sp vs G Q E → vs.length = ps.length
  does : ∀ (B : Around) (ou : List Env) (z : Shared) (G : Hp) (ar : Args) (us : List Value) (vs : List V) (Q : VK) (E : XK), L2H.RoomH k B → L2H.PinOk ou G z p → Env0 P w K mg g0 B ou z G → BindsTo z fd ar (ps.zip us) → Vals vs us → sp vs G Q E →
    codeAny (model P w) B (.call (.ref fa) ar) (CR (L2.CX P w) ou P w G z Q E) z
theorem hot_of {P : Program} {w : World} {K : PySem.W.Frag} {mg : Str → Option Value} {g0 : Heap} {k : Nat} {fa : Addr} {nm ql : Str} {params : Arguments} {body : List Stmt} {scope : Scope} {dV kV doc pm cdv ct oc : Value} {an od : Option Addr} {osl : Array (Option Value)} {N ps : List Str} {sp : Sp} {p : Addr × Obj}
    (lk : K.lookup fa = some ⟨oc, od, .func (PySem.W.fnOf nm ql params body scope dV kV doc pm an cdv ct), osl⟩) (hcd : PySem.W.codeIn K cdv ql = true) (S : FnScope N ps scope) (many : ∀ vs G Q E, sp vs G Q E → vs.length = ps.length)
    (hbody : ∀ (B : Around) (ou : List Env) (z : Shared) (G : Hp) (vs : List V) (Q : VK) (E : XK), sp vs G Q E →
      ∃ t, PSs (L2H.cxH (L2.CX P w) P w K mg g0 N ql scope fa cdv B ou z G E p) body t ∧ t { nx := fun _ G' => Q .non G', rt := Q } (L2.start N vs) G) :
    HotD P w K mg g0 k fa (PySem.W.fnOf nm ql params body scope dV kV doc pm an cdv ct) ps p sp := by
  refine ⟨many, fun B ou z G ar us vs Q E room pin e0 bd rv q => ?_⟩
  have len := many _ _ _ _ q
  have kin : K.In z.heap := e0.mod.kin.keeps fun b o e => (e0.bs b o e).1
  have kinds : ∀ y ∈ ps.zip us, scope.names.lookup y.1 = some .local ∨ (scope.names.lookup y.1 = some .cell ∧ ((cellsFrom (z.heap.objs.size + 1) scope.names []).lookup y.1).isSome = true) := fun ⟨n, v⟩ hy =>
    (S.par n (List.of_mem_zip hy).1).imp (fun q => q) fun q => ⟨q, PySem.W.cellsFrom_some _ _ _ (.inl q)⟩
  refine codeAny_call_function room.depth (kin _ _ lk) rfl S.co S.gen rfl (PySem.W.codeRec_of kin hcd) (bd _ _ _ _ ?_)
  refine wpAny_newFunctionEnv_cells S.kind kinds fun env he z1 x => ?_
  subst he
  refine ⟨Heap.NoLimit.keeps (e0.mod.nolimit.keeps fun b o e => (e0.bs b o e).1) x.toInCall.keep, codeAny_func ?_⟩
  obtain ⟨t, ht, hq⟩ := hbody B ou z G vs Q E q
  refine wpAny_mono (ht.run [] z1 (L2.start N vs) G _ (L2H.inv_startH S pin e0 len rv x) hq) (fun fl z2 hs => ?_) fun e z2 hs => hs
  cases fl with
  | ret u =>
    obtain ⟨v, _, G', J, ru, q⟩ := hs
    exact ⟨v, G', J.os, J.bare, J.base, J.hok, ru, q⟩
  | next =>
    obtain ⟨_, G', J, q⟩ := hs
    exact ⟨.non, G', J.os, J.bare, J.base, J.hok, rfl, q⟩
  | brk =>
    obtain ⟨_, _, _, q⟩ := hs
    exact q.elim
  | cont =>
    obtain ⟨_, _, _, q⟩ := hs
    exact q.elim
section
variable {X : Cx} {k : Nat} {fa : Addr} {fd : FuncData} {ps : List Str} {sp : Sp} {E : L2.St → XK} {x : Str} {q pos : Pos} {e : Expr} {es : List Expr} {t : TA} {p : Addr × Obj}
theorem run_hot {pins : List (Addr × Obj)} {σ : L2.St} {G : Hp} {z : Shared} {Q : VK} {us : List Value} {vs : List V} (F : HotD X.prog X.w X.K X.mg X.base k fa fd ps p sp) (room : L2H.RoomH k X.A) (hp : p ∈ X.pn) (hb : Binds X.K fd ps []) (hx : PassesAt (L2.CX X.prog X.w) X σ (E σ))
    (I : Inv X pins σ G z) (r : Vals vs us) (h : sp vs G Q (E σ)) : wpAny (model X.prog X.w) X.A (call (.ref fa) us) (EP X pins σ Q) X.xe z := by
  have len : us.length = ps.length := r.length.symm.trans (F.many _ _ _ _ h)
  have b := hb z us I.kIn (by rw [List.append_nil]; exact len)
  rw [List.append_nil] at b
  obtain ⟨i1, i2, i3, i4, i5⟩ := I.pin p (List.mem_append.mpr (.inl hp))
  refine wpAny_call (codeAny_mono (F.does X.A X.stack z G ⟨us, []⟩ us vs Q (E σ) room ⟨i1, i2, fun m => (List.mem_cons.mp (I.stkSub p.1 m)).elim i3 i4, i5⟩ I.env0 b r h) fun y z1 hq => ?_)
  cases y with
  | error _ => exact hx pins G z _ z1 I hq
  | ok fl =>
    cases fl with
    | ret u => exact I.after hq
    | _ => exact False.elim hq
theorem pe_hot (F : HotD X.prog X.w X.K X.mg X.base k fa fd ps p sp) (room : L2H.RoomH k X.A) (hp : p ∈ X.pn) (hg : Gl X x) (hm : X.mg x = some (.ref fa)) (hk : PySem.W.keepIn X.K (.ref fa) = true) (hb : Binds X.K fd ps []) (hx : ∀ σ, PassesAt (L2.CX X.prog X.w) X σ (E σ))
    (ha : PA X (e :: es) t) (hdb : (x == ("__debug__" : Str)) = false) (he : starEach (e :: es) X.env = (false, eval e X.env) :: starEach es X.env) (hpl : (backTo pos (starEach es X.env)).any (·.1) = false) : PE X (.Call (.Name x q) (e :: es) [] pos) (tCallS sp E t) :=
  ⟨fun pins z σ G Q I h => wpAny_Call_Name_kw (ld_glob I hg hm (PySem.W.callWith_K (h₀ := X.base) I.ok.mod.kin hk (thn (ha.run pos pins z σ G _ I h) fun us z1 ⟨vs, G1, I1, r, q⟩ => ⟨I1.kIn, run_hot F room hp hb (hx σ) I1 r q⟩) he hpl) hdb)⟩
end
end Ev

/-! text Fw27 -/
set_option Elab.async false
set_option linter.all false
set_option maxRecDepth 100000
set_option maxHeartbeats 4000000
/-! Ev: the classes of the caught error, told in a list. -/
namespace Ev
open PySem PySem.Spec PyProof.Rows L2
def ckIs (y : Str) : List Str → List Expr → Bool
  | [], [] => true
  | Y :: Ys, .Call (.Name x _) [.Name z _, .Name Y2 _] [] _ :: es => x == ("isinstance" : Str) && z == y && Y2 == Y && ckIs y Ys es
  | _, _ => false
section
variable {X : Cx} {a : Addr} {oe : Obj} {cls : Value} {d : Option Addr} {Ca dd : Addr} {i : Nat} {y : Str}
theorem pe_isY (hp : (a, oe) ∈ X.pn) (hz : Zc cls d oe) (hf : ∃ vs, oe.data = .fields vs) (ec : cls = .ref Ca) (ed : d = some dd) (EC : ExcC X.K Ca) (hN : X.N[i]? = some y) (hv : Vis X.env.scope y) (d1 : (y == ("__debug__" : Str)) = false) (d2 : (y == ("__classdict__" : Str)) = false) (g0 : Gl X "isinstance") (m0 : X.mg "isinstance" = none)
    {Y : Str} {CY : Addr} {b : Bool} (gY : Gl X Y) (mY : X.mg Y = some (.ref CY)) (d3 : (Y == ("__debug__" : Str)) = false) (kb : PySem.W.kitOne X.K (.ref Ca) (.ref CY) = some b) {p p1 p2 q : Pos} :
    PE X (.Call (.Name ("isinstance" : Str) p) [.Name y p1, .Name Y p2] [] q) (fun σ H Q => σ[i]? = some (some (.ref a)) ∧ (∃ fs, H dd = some (.xd fs)) ∧ Q (.bl b) H) := by
  have pv : PE X (.Name y p1) _ := pe_var (i := i) hN hv d1 d2
  have pY : PE X (.Name Y p2) (tC (.ref CY)) := pe_glob gY mY rfl d3
  exact (pe_callB (call_isG hp hz hf (cv := .ref CY) (cu := .ref CY) fun u z => z) g0 m0 (Bl.boot (.isi "int")) (pa_cons pv (pa_cons pY pa_nil)) (by decide) (by decide) rfl rfl).imp fun σ H Q ⟨e, ⟨fs, ef⟩, q⟩ => ⟨_, e, Ca, dd, fs, b, rfl, ec, ed, ef, EC, kb, q⟩
theorem pa_is (hp : (a, oe) ∈ X.pn) (hz : Zc cls d oe) (hf : ∃ vs, oe.data = .fields vs) (ec : cls = .ref Ca) (ed : d = some dd) (EC : ExcC X.K Ca) (hN : X.N[i]? = some y) (hv : Vis X.env.scope y) (d1 : (y == ("__debug__" : Str)) = false) (d2 : (y == ("__classdict__" : Str)) = false) (g0 : Gl X "isinstance") (m0 : X.mg "isinstance" = none) :
    ∀ (Ys : List (Str × Bool)) (es : List Expr), ckIs y (Ys.map (·.1)) es = true → (∀ z ∈ Ys, Gl X z.1 ∧ (z.1 == ("__debug__" : Str)) = false ∧ ∃ CY, X.mg z.1 = some (.ref CY) ∧ PySem.W.kitOne X.K (.ref Ca) (.ref CY) = some z.2) →
      PA X es (fun σ H Q => σ[i]? = some (some (.ref a)) ∧ (∃ fs, H dd = some (.xd fs)) ∧ Q (Ys.map fun z => V.bl z.2) H)
  | [], [], _, _ => pa_nil.imp fun σ H Q ⟨_, _, q⟩ => q
  | [], _ :: _, h, _ => nomatch (show false = true from h)
  | _ :: _, [], h, _ => nomatch (show false = true from h)
  | (Y, b) :: Ys, x :: es, h, hy => by
    unfold List.map ckIs at h
    split at h
    · rename_i e1 e2
      cases e1
    · rename_i Y0 Ys0 x0 p0 z0 p1 Y2 p2 p3 es0 e1 e2
      cases e1
      cases e2
      obtain ⟨h, h4⟩ := and2 h
      obtain ⟨h, h3⟩ := and2 h
      obtain ⟨h1, h2⟩ := and2 h
      have q1 := beq_iff_eq.mp h1
      have q2 := (beq_iff_eq.mp h2).symm
      have q3 := (beq_iff_eq.mp h3).symm
      subst q1 q2 q3
      obtain ⟨gY, d3, CY, mY, kb⟩ := hy _ List.mem_cons_self
      exact (pa_cons (pe_isY hp hz hf ec ed EC hN hv d1 d2 g0 m0 gY mY d3 kb) (pa_is hp hz hf ec ed EC hN hv d1 d2 g0 m0 Ys es h4 fun z hz => hy z (List.mem_cons_of_mem _ hz)) (se_cons rfl)).imp fun σ H Q ⟨e, f, q⟩ => ⟨e, f, e, f, q⟩
    · cases h
/-- two lines: a list of the first, returned with a list of the others behind it -/
theorem pss_kinds (hp : (a, oe) ∈ X.pn) (hz : Zc cls d oe) (hf : ∃ vs, oe.data = .fields vs) (ec : cls = .ref Ca) (ed : d = some dd) (EC : ExcC X.K Ca) (hN : X.N[i]? = some y) (hv : Vis X.env.scope y) (d1 : (y == ("__debug__" : Str)) = false) (d2 : (y == ("__classdict__" : Str)) = false) (g0 : Gl X "isinstance") (m0 : X.mg "isinstance" = none)
    {A B : List (Str × Bool)} {xs ys : List Expr} (hA : ckIs y (A.map (·.1)) xs = true) (hB : ckIs y (B.map (·.1)) ys = true) (few : A.length + B.length ≤ sizeLine) (all : ∀ z ∈ A ++ B, Gl X z.1 ∧ (z.1 == ("__debug__" : Str)) = false ∧ ∃ CY, X.mg z.1 = some (.ref CY) ∧ PySem.W.kitOne X.K (.ref Ca) (.ref CY) = some z.2)
    {j : Nat} {pl : Str} (ij : j ≠ i) (nd : X.N.Nodup) (hj : X.N[j]? = some pl) (lj : Loc X.env.scope pl) (kj : X.env.scope.names.lookup pl = some .local) (vj : Vis X.env.scope pl) (e1 : (pl == ("__debug__" : Str)) = false) (e2 : (pl == ("__classdict__" : Str)) = false) {q1 q2 q3 q4 q5 q6 q7 : Pos} :
    PSs X [.Assign [.Name pl q1] (.List xs q2) q3, .Return (some (.BinOp (.Name pl q4) .Add (.List ys q5) q6)) q7] (fun D σ H => j < σ.length ∧ σ[i]? = some (some (.ref a)) ∧ (∃ fs, H dd = some (.xd fs)) ∧ ∀ p1 p2 p3, H p1 = none → upd H p1 (.lst (A.map fun z => .bl z.2)) p2 = none → upd (upd H p1 (.lst (A.map fun z => .bl z.2))) p2 (.lst (B.map fun z => .bl z.2)) p3 = none →
      D.rt (.ref p3) (upd (upd (upd H p1 (.lst (A.map fun z => .bl z.2))) p2 (.lst (B.map fun z => .bl z.2))) p3 (.lst ((A ++ B).map fun z => .bl z.2)))) := by
  have LA := pe_lst (pos := q2) (pa_is hp hz hf ec ed EC hN hv d1 d2 g0 m0 A xs hA fun z h => all z (List.mem_append_left _ h))
  have LB := pe_lst (pos := q5) (pa_is hp hz hf ec ed EC hN hv d1 d2 g0 m0 B ys hB fun z h => all z (List.mem_append_right _ h))
  have s1 := ps_set (pos := q3) (pos' := q1) nd hj lj LA rfl (.inr kj)
  have s2 := ps_ret (pos := q7) (pe_op (pos := q6) op_cat (pe_var (pos := q4) hj vj e1 e2) LB)
  refine (pss_cons s1 (pss_one s2)).imp fun D σ H ⟨lt, es, ⟨fs, ef⟩, w⟩ => ⟨es, ⟨fs, ef⟩, ?_, fun p1 n1 => ⟨_, List.getElem?_set_self lt, ?_⟩⟩
  · rw [List.length_map]
    omega
  · have nd1 : dd ≠ p1 := fun z => by
      rw [z, n1] at ef
      cases ef
    refine ⟨by rw [List.getElem?_set_ne ij]; exact es, ⟨fs, by rw [upd_ne nd1]; exact ef⟩, by rw [List.length_map]; omega, fun p2 n2 => ?_⟩
    have ne : p1 ≠ p2 := fun z => by
      rw [← z, upd_same] at n2
      cases n2
    refine ⟨p1, p2, _, _, rfl, rfl, by rw [upd_ne ne]; exact upd_same, upd_same, by rw [List.length_map, List.length_map]; exact few, fun p3 n3 => ?_⟩
    have := w p1 p2 p3 n1 n2 n3
    rw [List.map_append] at this
    exact this
end
end Ev

/-! text Fw28 -/
set_option Elab.async false
set_option linter.all false
set_option maxRecDepth 100000
set_option maxHeartbeats 4000000
/-! Ev: a def that tells the caught error's classes. -/
namespace Ev
open PySem PySem.Spec PyProof.Rows L2
def bits (f : Str → Bool) (A : List Str) : List (Str × Bool) := A.map fun Y => (Y, f Y)
theorem bits_fst {f : Str → Bool} : ∀ A : List Str, (bits f A).map (·.1) = A
  | [] => rfl
  | Y :: A => congrArg (Y :: ·) (bits_fst A)
/-- what such a def does: it tells of the caught error p -/
def spK (K : PySem.W.Frag) (mg : Str → Option Value) (p : Addr × Obj) (A B : List Str) : Sp := fun vs G Q _ => vs = [.ref p.1] ∧ ∃ (Ca dd : Addr) (f : Str → Bool), Zc (.ref Ca) (some dd) p.2 ∧ (∃ us, p.2.data = .fields us) ∧ (∃ fs, G dd = some (.xd fs)) ∧ ExcC K Ca ∧
  (∀ Y ∈ A ++ B, ∃ CY, mg Y = some (.ref CY) ∧ PySem.W.kitOne K (.ref Ca) (.ref CY) = some (f Y)) ∧
  ∀ p1 p2 p3, G p1 = none → upd G p1 (.lst ((bits f A).map fun z => .bl z.2)) p2 = none → upd (upd G p1 (.lst ((bits f A).map fun z => .bl z.2))) p2 (.lst ((bits f B).map fun z => .bl z.2)) p3 = none →
    Q (.ref p3) (upd (upd (upd G p1 (.lst ((bits f A).map fun z => .bl z.2))) p2 (.lst ((bits f B).map fun z => .bl z.2))) p3 (.lst ((bits f A ++ bits f B).map fun z => .bl z.2)))
def kindsB (sc : Scope) (y pl : Str) (A B : List Str) (xs ys : List Expr) : Bool := glB sc ("isinstance" : Str) && visB sc y && dbgB y && visB sc pl && dbgB pl && isLocB sc pl && ckIs y A xs && ckIs y B ys && ((A ++ B).all fun Y => glB sc Y && dbgB Y) && Nat.ble (A.length + B.length) 1000
theorem kinds_hot {P : Program} {w : World} {K : PySem.W.Frag} {mg : Str → Option Value} {g0 : Heap} {k : Nat} {fa : Addr} {nm ql : Str} {params : Arguments} {scope : Scope} {dV kV doc pm cdv ct oc : Value} {an od : Option Addr} {osl : Array (Option Value)} {p : Addr × Obj} {y pl : Str} {A B : List Str} {xs ys : List Expr} {q1 q2 q3 q4 q5 q6 q7 : Pos}
    (lk : K.lookup fa = some ⟨oc, od, .func (PySem.W.fnOf nm ql params [.Assign [.Name pl q1] (.List xs q2) q3, .Return (some (.BinOp (.Name pl q4) .Add (.List ys q5) q6)) q7] scope dV kV doc pm an cdv ct), osl⟩) (hcd : PySem.W.codeIn K cdv ql = true) (S : FnScope [y, pl] [y] scope)
    (m0 : mg "isinstance" = none) (chk : kindsB scope y pl A B xs ys = true) :
    HotD P w K mg g0 k fa (PySem.W.fnOf nm ql params [.Assign [.Name pl q1] (.List xs q2) q3, .Return (some (.BinOp (.Name pl q4) .Add (.List ys q5) q6)) q7] scope dV kV doc pm an cdv ct) [y] p (spK K mg p A B) := by
  obtain ⟨c, c10⟩ := and2 chk
  obtain ⟨c, c9⟩ := and2 c
  obtain ⟨c, c8⟩ := and2 c
  obtain ⟨c, c7⟩ := and2 c
  obtain ⟨c, c6⟩ := and2 c
  obtain ⟨c, c5⟩ := and2 c
  obtain ⟨c, c4⟩ := and2 c
  obtain ⟨c, c3⟩ := and2 c
  obtain ⟨c1, c2⟩ := and2 c
  have gl : ∀ {x : Str}, glB scope x = true → scope.names.lookup x = some .globalImplicit := fun {x} h => by
    unfold glB at h
    split at h
    · assumption
    · cases h
  have vis : ∀ {x : Str}, visB scope x = true → Vis scope x := fun {x} h => by
    unfold visB at h
    unfold Vis
    split at h
    · exact .inl ‹_›
    · exact .inr (.inl ‹_›)
    · exact .inr (.inr ‹_›)
    · cases h
  have loc : scope.names.lookup pl = some .local := by
    unfold isLocB at c6
    split at c6
    · assumption
    · cases c6
  obtain ⟨y1, y2, _⟩ := dbg_of c3
  obtain ⟨l1, l2, _⟩ := dbg_of c5
  refine hot_of lk hcd S (fun vs G Q E z => by rw [z.1]; rfl) fun B' ou z G vs Q E q => ?_
  obtain ⟨ev, Ca, dd, f, hz, hf, hfs, EC, all, q⟩ := q
  subst ev
  refine ⟨_, pss_kinds (X := L2H.cxH (L2.CX P w) P w K mg g0 [y, pl] ql scope fa cdv B' ou z G E p) (a := p.1) (oe := p.2) (i := 0) (j := 1) (A := bits f A) (B := bits f B) List.mem_cons_self hz hf rfl rfl EC rfl (vis c2) y1 y2 (gl c1) m0 (by rw [bits_fst]; exact c7) (by rw [bits_fst]; exact c8) ?_ ?_ (by decide) S.nd rfl (.inl loc) loc (vis c4) l1 l2, ?_⟩
  · unfold bits
    rw [List.length_map, List.length_map]
    exact small_line (ble_le c10)
  · intro v hv
    have hm : ∃ Y ∈ A ++ B, v = (Y, f Y) := by
      rcases List.mem_append.mp hv with h | h
      · obtain ⟨Y, h1, h2⟩ := List.mem_map.mp h
        exact ⟨Y, List.mem_append_left _ h1, h2.symm⟩
      · obtain ⟨Y, h1, h2⟩ := List.mem_map.mp h
        exact ⟨Y, List.mem_append_right _ h1, h2.symm⟩
    obtain ⟨Y, h1, rfl⟩ := hm
    obtain ⟨g1, g2⟩ := and2 (List.all_eq_true.mp c9 Y h1)
    exact ⟨gl g1, (dbg_of g2).1, all Y h1⟩
  · exact ⟨by show 1 < 2; decide, rfl, hfs, q⟩
end Ev

/-! text Fw29 -/
set_option Elab.async false
set_option linter.all false
set_option maxRecDepth 100000
set_option maxHeartbeats 4000000
/-! Ev: that def's call in a suite. -/
namespace Ev
open PySem PySem.Spec PyProof.Rows L2
theorem bits_map {f : Str → Bool} : ∀ A : List Str, (bits f A).map (fun z => V.bl z.2) = A.map fun Y => V.bl (f Y)
  | [] => rfl
  | Y :: A => congrArg (V.bl (f Y) :: ·) (bits_map A)
theorem ras_bls {S : Ws} {r : List Addr} {H : Hp} {f : Str → Bool} : ∀ A : List Str, Ras S r H (A.map fun Y => .bl (f Y)) (A.map fun Y => V.bl (f Y))
  | [] => .nil
  | Y :: A => .cons (.bl (f Y)) (ras_bls A)
section
variable {X : Cx} {c : Ck} {sc : Scope} {own : Str → Bool} {k : Nat} {C : Nat → List A → Ho → R A}
theorem u_kinds (t : Cxt X c sc own k C) (ws : We X.prog X.K X.mg c) {a : Addr} {oe : Obj} {cls : Value} {d : Option Addr} {pn : List (Addr × Obj)} (hz : Zc cls d oe) (hf : ∃ vs, oe.data = .fields vs) {n : Option (Str × Nat)} {y nm : Str} (h1 : caught c n y = true) (h2 : visB sc y = true) (h3 : dbgB y = true) (g1 : glB sc nm = true) (g2 : dbgB nm = true)
    {fa : Addr} {fd : FuncData} {y0 : Str} {As Bs : List Str} (m : X.mg nm = some (.ref fa)) (kp : PySem.W.keepIn X.K (.ref fa) = true) (hb : Binds X.K fd [y0] []) (F : ∀ p, HotD X.prog X.w X.K X.mg X.base k fa fd [y0] p (spK X.K X.mg p As Bs)) (hY : ∀ Y ∈ As ++ Bs, c.exn.contains Y = true) {p p1 q : Pos} :
    PE (X.suite a ((a, oe) :: pn)) (.Call (.Name nm p) [.Name y p1] [] q) (rdH (sOf X c.G) n a cls d fun x h => evH c.G x h (.isl (As ++ Bs))) := by
  obtain ⟨i, en, pv⟩ := u_var t (a := a) (pn := (a, oe) :: pn) (p := p1) h1 h2 h3
  obtain ⟨d1, _, _⟩ := dbg_of g2
  have room := L2H.roomH_of t.room
  have pass : ∀ σ, PassesAt (L2.CX (X.suite a ((a, oe) :: pn)).prog (X.suite a ((a, oe) :: pn)).w) (X.suite a ((a, oe) :: pn)) σ ((fun _ _ _ _ => False : L2.St → XK) σ) := fun σ pins H s e s' I z => by
    obtain ⟨_, _, _, _, _, _, _, _, _, _, _, _, f⟩ := z
    exact f.elim
  refine (pe_hot (X := X.suite a ((a, oe) :: pn)) (E := fun _ _ _ _ => False) (p := (a, oe)) (q := p) (pos := q) (F (a, oe)) ⟨room.dp, room.un⟩ List.mem_cons_self (suite_gl t g1) m kp hb pass (pa_cons pv pa_nil) d1 rfl rfl).imp fun σ H Q ⟨r, h, x, b, R, rx, sl, e, q⟩ => ?_
  have e : some ((A.ref h.length), h ++ [O.lst ((As ++ Bs).map fun Y => A.bl (c.G.takes x.cls Y))]) = some b := e
  cases e
  obtain ⟨Ca, dd, fs, rfl, rfl, e5, e6, e7, xf, EC, nof, tk⟩ := ec_of ws rx
  refine ⟨sl y i en, rfl, Ca, dd, fun Y => c.G.takes x.cls Y, hz, hf, ⟨fs, e5⟩, EC, fun Y hm => ?_, fun p1 p2 p3 n1 n2 n3 => ?_⟩
  · obtain ⟨CY, eY⟩ := ws.nam Y (hY Y hm)
    exact ⟨CY, eY, (tk Y CY (hY Y hm) eY).2⟩
  · obtain ⟨R1, s1⟩ := Step.other (u := HO.lst ((bits (fun Y => c.G.takes x.cls Y) As).map fun z => V.bl z.2)) R n1
    obtain ⟨R2, s2⟩ := Step.other (u := HO.lst ((bits (fun Y => c.G.takes x.cls Y) Bs).map fun z => V.bl z.2)) R1 n2
    have T : ∀ H0 : Hp, Ras (sOf X c.G) r H0 ((As ++ Bs).map fun Y => A.bl (c.G.takes x.cls Y)) ((bits (fun Y => c.G.takes x.cls Y) As ++ bits (fun Y => c.G.takes x.cls Y) Bs).map fun z => V.bl z.2) := by
      intro H0
      rw [List.map_append (l₁ := bits _ As), bits_map, bits_map, ← List.map_append]
      exact ras_bls (f := fun Y => c.G.takes x.cls Y) (As ++ Bs)
    exact Po.list (E := fun _ _ _ => False) R2 (T _) (fun r' H' v st R' t' => q r' H' v ((s1.trans s2).trans st) R' t') p3 n3
end
end Ev

/-! text Fw30 -/
set_option Elab.async false
set_option linter.all false
set_option maxRecDepth 100000
set_option maxHeartbeats 4000000
/-! Ev: a try line whose suite calls that def. -/
namespace Ev
open PySem PySem.Spec PyProof.Rows L2
section
variable {X : Cx} {c : Ck} {sc : Scope} {k : Nat} {C : Nat → List A → Ho → R A} {F : Nat}
theorem s_tryH {W : WX} (q : CxS X c sc k C) (tk : Takes X W) {b : List S} {hs : List Hd} {body : List Stmt} {h0 : ExceptHandler} {hr : List ExceptHandler} {l : List (Value × Option Nat × SuT)} {p : Pos} (hb : OkSs c k C F sc b body) (L1 : Clauses X (h0 :: hr) l) (L2' : HdOk X c hs l) :
    PS X (.Try body (h0 :: hr) [] [] p) (rdS (sOf X c.G) W (evS c.G F C (.try_ b hs))) := by
  refine (s_try q.st q.fr (by rw [q.t.N]; exact q.t.nd) tk L1 (tb := fun W' => rdS (sOf X c.G) W' (evSs c.G F C b)) fun W' pn xe tk' ps' => hb (X.tr pn xe) W' (q.tr pn xe) tk' ps').imp fun D σ H ⟨r, s, h, a, z⟩ => ⟨r, s, h, a, ?_⟩
  have z : PoS (sOf X c.G) r H (match evSs c.G F C b s h with
    | .ex x σ h => handle c.G x σ h hs
    | o => o) D W := z
  cases e : evSs c.G F C b s h with
  | ex x s1 h1 =>
    rw [e] at z
    exact fun r' σ' H' cls d st A' rx => L2' D W r' H' σ' s1 h1 x cls d (PoS.from z st) A' rx
  | _ =>
    rw [e] at z
    exact z
theorem u_caught (q : CxS X c sc k C) {a : Addr} {oe : Obj} {cls : Value} {d : Option Addr} {pn : List (Addr × Obj)} (hz : Zc cls d oe) (hf : ∃ vs, oe.data = .fields vs) {n : Option (Str × Nat)} {y nm : Str} (h1 : caught c n y = true) (h2 : visB sc y = true) (h3 : dbgB y = true) (g0 : glB sc ("isinstance" : Str) = true) (gv : glB sc ("ValueError" : Str) = true)
    (g1 : glB sc nm = true) (g2 : dbgB nm = true) {fa : Addr} {fd : FuncData} {y0 : Str} {As Bs : List Str} (m : X.mg nm = some (.ref fa)) (kp : PySem.W.keepIn X.K (.ref fa) = true) (hb : Binds X.K fd [y0] []) (Fh : ∀ p, HotD X.prog X.w X.K X.mg X.base k fa fd [y0] p (spK X.K X.mg p As Bs)) (hY : ∀ Y ∈ As ++ Bs, c.exn.contains Y = true) {p p1 p2 p3 p4 p5 p6 p7 p8 : Pos} {su : Su} :
    PE (X.suite a ((a, oe) :: pn)) (.IfExp (.Call (.Name ("isinstance" : Str) p) [.Name y p1, .Name ("ValueError" : Str) p2] [] p3) (.Call (.Name nm p4) [.Name y p5] [] p6) (.List [] p7) p8) (rdH (sOf X c.G) n a cls d fun x h => evH c.G x h (.ive (.isl (As ++ Bs)) su)) := by
  refine (pe_ifExp (u_isV q.t q.ws hz hf h1 h2 h3 g0 gv) (u_kinds q.t q.ws hz hf h1 h2 h3 g1 g2 m kp hb Fh hY) (pe_lst pa_nil)).imp fun σ H Q ⟨r, h, xv, b, R, rx, sl, e, z⟩ => ⟨r, xv, rx, sl, ?_⟩
  show (if (true : Bool) = true then _ else _)
  rw [if_pos rfl]
  exact ⟨r, h, xv, b, R, rx, sl, e, z⟩
end
end Ev

/-! text Fw31 -/
set_option Elab.async false
set_option linter.all false
set_option maxRecDepth 100000
set_option maxHeartbeats 4000000
/-! Ev: the lines of a def that tells the classes of what it catches. -/
namespace Ev
open PySem PySem.Spec PyProof.Rows L2
def caughtB (c : Ck) (sc : Scope) (cl nn nm : Str) (i : Nat) (As Bs : List Str) (b : List S) (body : List Stmt) (s2 : List S) (x2 : List Stmt) : Bool := glB sc cl && dbgB cl && c.exn.contains cl && decide (c.N[i]? = some nn) && isLocB sc nn && visB sc nn && dbgB nn && glB sc ("isinstance" : Str) && glB sc ("ValueError" : Str) && glB sc nm && dbgB nm && ((As ++ Bs).all fun Y => c.exn.contains Y) && ckSs c sc b body && ckSs c sc s2 x2
section
variable {X : Cx} {c : Ck} {sc : Scope} {k : Nat} {C : Nat → List A → Ho → R A} {F : Nat}
theorem caught_ok {W : WX} (q : CxS X c sc k C) (tk : Takes X W) (ps : PassesOwn (model X.prog X.w) X.A X.env X.xe) {cl nn nm : Str} {i : Nat} {As Bs : List Str} {b : List S} {body : List Stmt} {s2 : List S} {x2 : List Stmt} (h : caughtB c sc cl nn nm i As Bs b body s2 x2 = true)
    {fa : Addr} {fd : FuncData} {y0 : Str} (m : X.mg nm = some (.ref fa)) (kp : PySem.W.keepIn X.K (.ref fa) = true) (hb : Binds X.K fd [y0] []) (Fh : ∀ p, HotD X.prog X.w X.K X.mg X.base k fa fd [y0] p (spK X.K X.mg p As Bs)) {su : Su} {p p1 p2 p3 p4 p5 p6 p7 p8 q1 q2 q3 q4 : Pos} :
    PSs X (.Try body [.ExceptHandler (some (.Name cl q1)) (some nn) [.Return (some (.IfExp (.Call (.Name ("isinstance" : Str) p) [.Name nn p1, .Name ("ValueError" : Str) p2] [] p3) (.Call (.Name nm p4) [.Name nn p5] [] p6) (.List [] p7) p8)) q2] q3] [] [] q4 :: x2)
      (rdS (sOf X c.G) W (evSs c.G F C (.try_ b [⟨cl, some i, .ive (.isl (As ++ Bs)) su⟩] :: s2))) := by
  unfold caughtB at h
  obtain ⟨h, h14⟩ := and2 h
  obtain ⟨h, h13⟩ := and2 h
  obtain ⟨h, h12⟩ := and2 h
  obtain ⟨h, h11⟩ := and2 h
  obtain ⟨h, h10⟩ := and2 h
  obtain ⟨h, h9⟩ := and2 h
  obtain ⟨h, h8⟩ := and2 h
  obtain ⟨h, h7⟩ := and2 h
  obtain ⟨h, h6⟩ := and2 h
  obtain ⟨h, h5⟩ := and2 h
  obtain ⟨h, h4⟩ := and2 h
  obtain ⟨h, h3⟩ := and2 h
  obtain ⟨h1, h2⟩ := and2 h
  obtain ⟨CY, eY⟩ := q.ws.nam cl h3
  obtain ⟨d1, _, _⟩ := dbg_of h2
  have ct : caught c (some (nn, i)) nn = true := Bool.and_eq_true_iff.mpr ⟨beq_self_eq_true nn, h4⟩
  have L1 : Clauses X [.ExceptHandler (some (.Name cl q1)) (some nn) [.Return (some (.IfExp (.Call (.Name ("isinstance" : Str) p) [.Name nn p1, .Name ("ValueError" : Str) p2] [] p3) (.Call (.Name nm p4) [.Name nn p5] [] p6) (.List [] p7) p8)) q2] q3]
      [(.ref CY, some i, fun a cls d => tRet (rdH (sOf X c.G) (some (nn, i)) a cls d fun xv h => evH c.G xv h (.ive (.isl (As ++ Bs)) su)))] :=
    .named ⟨gl_of q.t h1, d1, .inl eY⟩ (by rw [q.t.N]; exact of_decide_eq_true h4) (isLoc_is q h5) (fun a oe cls d pn hz hf => pss_one (ps_ret (u_caught q hz hf ct h6 h7 h8 h9 h10 h11 m kp hb Fh fun Y hY => List.all_eq_true.mp h12 Y hY))) .nil
  have L2' : HdOk X c [⟨cl, some i, .ive (.isl (As ++ Bs)) su⟩] _ := hd_ok q (n := some (nn, i)) h3 eY (fun z j e => by cases e; rfl) (l := []) fun D Wo r H σ s h x cls d p A0 rx => p r σ H cls d .refl A0 rx
  exact s_cons (s_tryH q tk (okSs b sc body h13) L1 L2') (okSs s2 sc x2 h14 X W q tk ps)
end
end Ev

/-! text Fw32 -/
set_option Elab.async false
set_option linter.all false
set_option maxRecDepth 100000
set_option maxHeartbeats 4000000
/-! Ev: the world's facts, some defs' lines by hand. -/
namespace Ev
open PySem PySem.Spec PyProof.Rows L2
/-- what a hand proof may use -/
structure Facts (P : Program) (K : PySem.W.Frag) (mg : Str → Option Value) (c : Ck) (ss : List Stmt) : Prop where
  we : We P K mg c
  free : ∀ x : String, builtNames.contains x = true → mg (x : Str) = none
  fn : ∀ (f : Nat) (d : Df) (st : Stmt), c.G.defs[f]? = some d → ss[f]? = some st → ∃ fa fd, mg d.name = some (.ref fa) ∧ FunD K d.name d.name (defArgs st) (defBody st) (defScope st) [] [] fa fd
def AllH (P : Program) (c : Ck) (ss0 : List Stmt) : List Df → List Stmt → Prop
  | [], [] => True
  | d :: ds, s :: ss => (Dd c d s ∨ ∀ (K : PySem.W.Frag) (mg : Str → Option Value), Facts P K mg c ss0 → Dk P K mg c d) ∧ AllH P c ss0 ds ss
  | _, _ => False
theorem AllH.get {P : Program} {c : Ck} {ss0 : List Stmt} : ∀ {ds : List Df} {ss : List Stmt} {i : Nat} {d : Df}, AllH P c ss0 ds ss → ds[i]? = some d → ∃ s, ss[i]? = some s ∧ (Dd c d s ∨ ∀ (K : PySem.W.Frag) (mg : Str → Option Value), Facts P K mg c ss0 → Dk P K mg c d)
  | [], _, _, _, _, e => by simp at e
  | _ :: _, [], _, _, h, _ => False.elim h
  | d :: ds, s :: ss, 0, _, h, e => by
    simp at e
    subst e
    exact ⟨s, rfl, h.1⟩
  | d :: ds, s :: ss, i + 1, d', h, e => by
    obtain ⟨s', e1, q⟩ := AllH.get (i := i) (d := d') h.2 (by simpa using e)
    exact ⟨s', by simpa using e1, q⟩
theorem wk_ofH {P : Program} {K : PySem.W.Frag} {mg : Str → Option Value} {h : Heap} {c : Ck} {ss : List Stmt} (X : K.In h) (Gn : h.Ns mainGlobals mg) (D : AllH P c ss c.G.defs ss) (sd : He.SaysD [] (List.zipWith dfn c.G.defs ss) K) (q : partB P c K = true) : Wk0 P K mg c := by
  obtain ⟨q, q4⟩ := and2 q
  obtain ⟨q, q3⟩ := and2 q
  obtain ⟨q1, q2⟩ := and2 q
  have fr : ∀ x : String, builtNames.contains x = true → mg (x : Str) = none := fun x hx => PySem.W.mg_none_of X Gn (of_decide_eq_true (List.all_eq_true.mp q3 x (List.contains_iff_mem.mp hx)))
  have fs : Facts P K mg c ss := ⟨we_of X Gn q1, fr, fun f d st hd hs => by
    obtain ⟨fd, F⟩ := sd.def_ f (d := dfn d st) (by rw [List.getElem?_zipWith, hd, hs])
    exact ⟨_, fd, PySem.W.mg_of X Gn (of_decide_eq_true (List.all_eq_true.mp q4 d (List.mem_of_getElem? hd))), F⟩⟩
  refine ⟨fun f d hd => ?_, fr, fun x a e => ct_of X Gn (List.all_eq_true.mp q2 (x, a) (look_mem e)), fs.we⟩
  obtain ⟨s, e1, dd⟩ := D.get hd
  rcases dd with dd | dd
  · obtain ⟨fa, fd, hm, F⟩ := fs.fn f d s hd e1
    exact dk_of X Gn dd hm F
  · exact dd K mg fs
end Ev

/-! text Fw33 -/
set_option Elab.async false
set_option linter.all false
set_option maxRecDepth 100000
set_option maxHeartbeats 4000000
/-! Ev: a def whose lines are shown by hand. -/
namespace Ev
open PySem PySem.Spec PyProof.Rows L2
structure Dh (d : Df) (st : Stmt) : Prop where
  bind : ∀ (kV doc pm : Value) (an : Option Addr) (cdv ct : Value) (us : List Value), us.length = (d.N.take d.ps).length → bindArgs (PySem.W.fnOf d.name d.name (defArgs st) (defBody st) (defScope st) .none kV doc pm an cdv ct) ⟨us, []⟩ = pure ((d.N.take d.ps).zip us)
  chk : (fnsB d.N (d.N.take d.ps) (defScope st) && decide ((d.N.take d.ps).length = d.ps)) = true
theorem dk_hand {P : Program} {K : PySem.W.Frag} {mg : Str → Option Value} {c : Ck} {d : Df} {st : Stmt} {fa : Addr} {fd : FuncData} (q : Dh d st) (hf : mg d.name = some (.ref fa)) (Fd : FunD K d.name d.name (defArgs st) (defBody st) (defScope st) [] [] fa fd)
    (lines : ∀ (F k : Nat) (X : Cx) (W : WX), X.prog = P → X.K = K → X.mg = mg → CxS X { c with N := d.N } (defScope st) k (callP (callK c.G F k)) → Takes X W → PassesOwn (model X.prog X.w) X.A X.env X.xe → PSs X (defBody st) (rdS (sOf X c.G) W (evSs c.G F (callP (callK c.G F k)) d.body))) : Dk P K mg c d := by
  obtain ⟨c1, c2⟩ := and2 q.chk
  have b := Fd.bindsN (ps := d.N.take d.ps) q.bind
  obtain ⟨oc, od, dV, kV, doc, pm, an, cdv, ct, osl, rfl, lk, hcd, hD, hK⟩ := Fd.ex
  exact ⟨fa, d.name, defArgs st, defBody st, defScope st, oc, od, dV, kV, doc, pm, an, cdv, ct, osl, hf, Fd.kp, lk, hcd, b, fns_of c1, of_decide_eq_true c2, lines⟩
/-- lines that the language does not tell -/
theorem lines_err {X : Cx} {c : Ck} {W : WX} {xs : List Stmt} {f : Sl → Ho → Ot} (h : ∀ s z, f s z = .err) : PSs X xs (rdS (sOf X c.G) W f) := ⟨fun pins s σ H D I w => by
  obtain ⟨r, s1, z, a, p⟩ := w
  have p : PoS (sOf X c.G) r H (f s1 z) D W := p
  rw [h] at p
  exact p.elim⟩
/-- the hot promise of a def from what the world says of it -/
theorem hot_fn {P : Program} {K : PySem.W.Frag} {mg : Str → Option Value} {st : Stmt} {nm y pl : Str} {fa : Addr} {fd : FuncData} (Fd : FunD K nm nm (defArgs st) (defBody st) (defScope st) [] [] fa fd) (m0 : mg "isinstance" = none) {As Bs : List Str} {xs ys : List Expr} {q1 q2 q3 q4 q5 q6 q7 : Pos}
    (hb : defBody st = [.Assign [.Name pl q1] (.List xs q2) q3, .Return (some (.BinOp (.Name pl q4) .Add (.List ys q5) q6)) q7]) (S : fnsB [y, pl] [y] (defScope st) = true) (chk : kindsB (defScope st) y pl As Bs xs ys = true) :
    ∀ (w : World) (g0 : Heap) (k : Nat) (p : Addr × Obj), HotD P w K mg g0 k fa fd [y] p (spK K mg p As Bs) := by
  intro w g0 k p
  obtain ⟨oc, od, dV, kV, doc, pm, an, cdv, ct, osl, rfl, lk, hcd, hD, hK⟩ := Fd.ex
  rw [hb] at lk ⊢
  exact kinds_hot lk hcd (fns_of S) m0 chk
end Ev

/-! text Fw34 -/
set_option Elab.async false
set_option linter.all false
set_option maxRecDepth 100000
set_option maxHeartbeats 4000000
/-! Ev: the two defs' shapes, by a check. -/
namespace Ev
open PySem PySem.Spec PyProof.Rows L2
def kindsS (sc : Scope) (y pl : Str) (As Bs : List Str) : List Stmt → Bool
  | [.Assign [.Name a _] (.List xs _) _, .Return (some (.BinOp (.Name b _) .Add (.List ys _) _)) _] => a == pl && b == pl && kindsB sc y pl As Bs xs ys
  | _ => false
theorem hot_fnS {P : Program} {K : PySem.W.Frag} {mg : Str → Option Value} {st : Stmt} {nm y pl : Str} {fa : Addr} {fd : FuncData} (Fd : FunD K nm nm (defArgs st) (defBody st) (defScope st) [] [] fa fd) (m0 : mg "isinstance" = none) {As Bs : List Str}
    (chk : (fnsB [y, pl] [y] (defScope st) && kindsS (defScope st) y pl As Bs (defBody st)) = true) : ∀ (w : World) (g0 : Heap) (k : Nat) (p : Addr × Obj), HotD P w K mg g0 k fa fd [y] p (spK K mg p As Bs) := by
  obtain ⟨h1, h2⟩ := and2 chk
  generalize e : defBody st = body at h2
  unfold kindsS at h2
  split at h2
  · rename_i a p1 xs p2 p3 b p4 ys p5 p6 p7
    obtain ⟨h2, h5⟩ := and2 h2
    obtain ⟨h3, h4⟩ := and2 h2
    have e3 := beq_iff_eq.mp h3
    have e4 := beq_iff_eq.mp h4
    rw [e3, e4] at e
    exact hot_fn Fd m0 e h1 h5
  · cases h2
end Ev

/-! text Fw35 -/
set_option Elab.async false
set_option linter.all false
set_option maxRecDepth 100000
set_option maxHeartbeats 4000000
/-! Ev: the catching def's shape. -/
namespace Ev
open PySem PySem.Spec PyProof.Rows L2
def caughtS (c : Ck) (sc : Scope) (cl nn nm : Str) (i : Nat) (As Bs : List Str) (b s2 : List S) : List Stmt → Bool
  | .Try body [.ExceptHandler (some (.Name cl2 _)) (some nn2) [.Return (some (.IfExp (.Call (.Name x _) [.Name n1 _, .Name v _] [] _) (.Call (.Name nm2 _) [.Name n2 _] [] _) (.List [] _) _)) _] _] [] [] _ :: x2 =>
    x == ("isinstance" : Str) && v == ("ValueError" : Str) && n1 == nn && n2 == nn && nm2 == nm && cl2 == cl && nn2 == nn && caughtB c sc cl nn nm i As Bs b body s2 x2
  | _ => false
section
variable {X : Cx} {c : Ck} {sc : Scope} {k : Nat} {C : Nat → List A → Ho → R A} {F : Nat}
theorem caught_okS {W : WX} (q : CxS X c sc k C) (tk : Takes X W) (ps : PassesOwn (model X.prog X.w) X.A X.env X.xe) {cl nn nm : Str} {i : Nat} {As Bs : List Str} {b s2 : List S} {lines : List Stmt} (h : caughtS c sc cl nn nm i As Bs b s2 lines = true)
    {fa : Addr} {fd : FuncData} {y0 : Str} (m : X.mg nm = some (.ref fa)) (kp : PySem.W.keepIn X.K (.ref fa) = true) (hb : Binds X.K fd [y0] []) (Fh : ∀ p, HotD X.prog X.w X.K X.mg X.base k fa fd [y0] p (spK X.K X.mg p As Bs)) {su : Su} :
    PSs X lines (rdS (sOf X c.G) W (evSs c.G F C (.try_ b [⟨cl, some i, .ive (.isl (As ++ Bs)) su⟩] :: s2))) := by
  unfold caughtS at h
  split at h
  · obtain ⟨h, h8⟩ := and2 h
    obtain ⟨h, h7⟩ := and2 h
    obtain ⟨h, h6⟩ := and2 h
    obtain ⟨h, h5⟩ := and2 h
    obtain ⟨h, h4⟩ := and2 h
    obtain ⟨h, h3⟩ := and2 h
    obtain ⟨h1, h2⟩ := and2 h
    rw [beq_iff_eq.mp h1, beq_iff_eq.mp h2, beq_iff_eq.mp h3, beq_iff_eq.mp h4, beq_iff_eq.mp h5, beq_iff_eq.mp h6, beq_iff_eq.mp h7]
    exact caught_ok q tk ps h8 m kp hb Fh
  · cases h
end
end Ev

/-! text Pl1 -/
set_option Elab.async false
set_option linter.all false
set_option maxRecDepth 100000
set_option maxHeartbeats 4000000
/-! the draws of a law: every one is a whole number below what is asked -/
namespace Pl
open PySem Ev
/-! ### computing by rewriting -/
theorem bind_ok {α β : Type} (a : α) (h : Ho) (f : α → Ho → R β) : (R.ok a h).bind f = f a h := rfl
theorem then_ok {α : Type} (a : α) (h : Ho) (s : Sl) (f : α → Ho → Ot) : (R.ok a h).then s f = f a h := rfl
theorem nx_then (s : Sl) (h : Ho) (f : Sl → Ho → Ot) : (Ot.nx s h).then f = f s h := rfl
theorem rt_then (a : A) (h : Ho) (f : Sl → Ho → Ot) : (Ot.rt a h).then f = .rt a h := rfl
theorem give_some {α : Type} (a : α) (h : Ho) : give (some a) h = .ok a h := rfl
theorem b_add (i j : Int) (h : Ho) : binA .Add (.int i) (.int j) h = .ok (.int (i + j)) h := rfl
theorem b_sub (i j : Int) (h : Ho) : binA .Sub (.int i) (.int j) h = .ok (.int (i - j)) h := rfl
theorem b_mul {i j : Int} (e : mulOk i j = true) (h : Ho) : binA .Mult (.int i) (.int j) h = .ok (.int (i * j)) h := by
  show (if mulOk i j = true then _ else _) = _
  rw [if_pos e]
theorem b_mod {i j : Int} (e : (j != 0) = true) (h : Ho) : binA .Mod (.int i) (.int j) h = .ok (.int (i.fmod j)) h := by
  show (if (j != 0) = true then _ else _) = _
  rw [if_pos e]
theorem b_div {i j : Int} (e : divOk j = true) (h : Ho) : binA .FloorDiv (.int i) (.int j) h = .ok (.int (i.fdiv j)) h := by
  show (if divOk j = true then _ else _) = _
  rw [if_pos e]
theorem t_int (i : Int) (h : Ho) : bltA .int [.int i] h = .ok (.int i) h := rfl
def iabs (i : Int) : Int := if i < 0 then -i else i
theorem t_abs (i : Int) (h : Ho) : bltA .abs [.int i] h = .ok (.int (iabs i)) h := rfl
theorem t_len {n : Nat} {xs : List A} {h : Ho} (e : seqOf h n = some xs) : bltA .len [.ref n] h = .ok (.int xs.length) h := by
  show (match seqOf h n with
    | some ys => R.ok (A.int ys.length) h
    | none => R.err) = _
  rw [e]
theorem tr_ref {n : Nat} {xs : List A} {h : Ho} (e : seqOf h n = some xs) : truth (.ref n) h = some (!xs.isEmpty) := by
  show (seqOf h n).map _ = _
  rw [e]
  rfl
theorem sub_ref {n : Nat} {xs : List A} {h : Ho} {k : Int} {j : Nat} {a : A} (e : seqOf h n = some xs) (ej : idx xs.length k = some j) (ea : xs[j]? = some a) : subA (.ref n) (.int k) h = some a := by
  show (seqOf h n).bind _ = _
  rw [e, Option.bind_some, ej, Option.bind_some, ea]
theorem idx_nat {n j : Nat} (h : j < n) : idx n (j : Int) = some j := by
  unfold idx
  rw [if_pos (by omega)]
  simp [h]
def nums (ds : List Int) : List A := ds.map A.int
/-- a drawn number -/
def Dn (d : Int) : Prop := 0 ≤ d ∧ d < 2 ^ 32
theorem mul_ok {i j : Int} (hi : i.natAbs < 2 ^ 60) (hj : j.natAbs < 2 ^ 60) : mulOk i j = true := by
  have h : ∀ {n : Nat}, n < 2 ^ 60 → n.log2 < 60 := fun {n} h => by
    cases Nat.decEq n 0 with
    | isTrue e =>
      subst e
      decide
    | isFalse e => exact (Nat.log2_lt e).mpr h
  have a := h hi
  have b := h hj
  unfold mulOk
  exact Nat.ble_eq_true_of_le (by omega)
theorem line_small {n : Nat} (h : n ≤ 16777216) : lineOk n = true := Nat.ble_eq_true_of_le h

/-! ### _law_more, _law_take, _law_one -/
def eTurn : E := .bin .Mod (.blt .int [.bin .Add (.bin .Add (.bin .Mult (.var 2) (.lit (.int 16807))) (.bin .Mult (.lit (.int 69621)) (.var 3))) (.lit (.int 5))]) (.lit (.int 2147483629))
def bTurn : List S := [.ife (.val (.var 0)) [.asg (.nm 2) (.bin .Add (.var 2) (.sub (.var 0) (.bin .Mod (.blt .int [.bin .Add (.bin .Mult (.var 1) (.bin .Add (.var 3) (.lit (.int 5)))) (.var 3)]) (.blt .len [.var 0]))))] [], .asg (.nm 2) eTurn]
def bMore : List S := [.asg (.nm 2) (.bin .Mod (.blt .int [.bin .Add (.bin .Add (.bin .Mult (.var 1) (.lit (.int 48271))) (.blt .len [.var 0])) (.lit (.int 11))]) (.lit (.int 2147483629))), .for_ (.nm 3) (.rg [.lit (.int 3)]) bTurn, .ret (.bin .FloorDiv (.var 2) (.lit (.int 1009)))]
def bTake (iM : Nat) : List S := [.asg (.nm 3) (.sub (.var 1) (.lit (.int 0))), .sto (.var 1) (.lit (.int 0)) (.bin .Add (.var 3) (.lit (.int 1))), .ret (.bin .Mod (.blt .int [.ite (.val (.cmp .Lt (.var 3) (.blt .len [.var 0]))) (.sub (.var 0) (.var 3)) (.call iM [.var 0, .var 3])]) (.var 2))]
def bOne (iT : Nat) : List S := [.ret (.sub (.var 0) (.call iT [.var 1, .var 2, .blt .len [.var 0]]))]
theorem nums_len (ds : List Int) : (nums ds).length = ds.length := List.length_map ..
theorem nums_get {ds : List Int} {j : Nat} (h : j < ds.length) : ∃ d, d ∈ ds ∧ (nums ds)[j]? = some (.int d) := by
  refine ⟨ds[j], List.getElem_mem h, ?_⟩
  unfold nums
  rw [List.getElem?_map, List.getElem?_eq_getElem h]
  rfl
theorem fmod_lt {i j : Int} (h : 0 < j) : 0 ≤ i.fmod j ∧ i.fmod j < j := ⟨Int.fmod_nonneg_of_pos _ h, Int.fmod_lt_of_pos _ h⟩
section
variable {P : Pg} {F : Nat} {C : Nat → List A → Ho → R A} {h : Ho} {i : Nat} {ds : List Int} {k : Nat}
theorem turn_ok (hs : seqOf h i = some (nums ds)) (hd : ∀ d ∈ ds, Dn d) (hl : ds.length ≤ 100000) (hk : k < 2 ^ 20) {m j : Int} (hm : 0 ≤ m ∧ m < 2 ^ 32) (hj : 0 ≤ j ∧ j < 100) :
    ∃ m', (0 ≤ m' ∧ m' < 2 ^ 32) ∧ evSs P F C bTurn [some (.ref i), some (.int k), some (.int m), some (.int j)] h = .nx [some (.ref i), some (.int k), some (.int m'), some (.int j)] h := by
  have hk' : (2 : Nat) ^ 20 = 1048576 := by decide
  have e32 : (2 : Int) ^ 32 = 4294967296 := by decide
  have n60 : (2 : Nat) ^ 60 = 1152921504606846976 := by decide
  -- the second line, from any m
  have two : ∀ m : Int, 0 ≤ m → m < 2 ^ 34 → evS P F C (.asg (.nm 2) eTurn) [some (.ref i), some (.int k), some (.int m), some (.int j)] h = .nx [some (.ref i), some (.int k), some (.int ((m * 16807 + 69621 * j + 5).fmod 2147483629)), some (.int j)] h := fun m m1 m2 => by
    have e34 : (2 : Int) ^ 34 = 17179869184 := by decide
    have a1 : mulOk m 16807 = true := mul_ok (by omega) (by decide)
    have a2 : mulOk 69621 j = true := mul_ok (by decide) (by omega)
    unfold eTurn
    simp only [evS, evE, evEs, List.getElem?_cons_succ, List.getElem?_cons_zero, bind_ok, then_ok, b_mul a1, b_mul a2, b_add, t_int, b_mod (show ((2147483629 : Int) != 0) = true by decide), Tg.put, List.set_cons_succ, List.set_cons_zero]
  have fin : ∀ m : Int, 0 ≤ m → m < 2 ^ 34 → ∃ m', (0 ≤ m' ∧ m' < 2 ^ 32) ∧ evS P F C (.asg (.nm 2) eTurn) [some (.ref i), some (.int k), some (.int m), some (.int j)] h = .nx [some (.ref i), some (.int k), some (.int m'), some (.int j)] h := fun m m1 m2 =>
    ⟨_, by
      have := fmod_lt (i := m * 16807 + 69621 * j + 5) (j := 2147483629) (by decide)
      omega, two m m1 m2⟩
  unfold bTurn
  cases hz : ds with
  | nil =>
    subst hz
    have t0 : truth (.ref i) h = some false := tr_ref hs
    obtain ⟨m', b, e⟩ := fin m hm.1 (by omega)
    refine ⟨m', b, ?_⟩
    simp only [evSs, evS, evT, evE, List.getElem?_cons_zero, bind_ok, t0, give_some, then_ok, Bool.false_eq_true, if_false, nx_then] at e ⊢
    rw [e]
    rfl
  | cons d0 dr =>
    have hne : 0 < ds.length := by rw [hz]; exact Nat.succ_pos _
    have t0 : truth (.ref i) h = some true := by
      rw [tr_ref hs, hz]
      rfl
    have hlen : ((nums ds).length : Int) = (ds.length : Int) := by rw [nums_len]
    have a1 : mulOk (k : Int) (j + 5) = true := mul_ok (by omega) (by omega)
    have l0 : (((nums ds).length : Int) != 0) = true := by
      rw [hlen]
      exact bne_iff_ne.mpr (by omega)
    obtain ⟨x1, x2⟩ := fmod_lt (i := (k : Int) * (j + 5) + j) (j := ((nums ds).length : Int)) (by omega)
    have hj2 : (((k : Int) * (j + 5) + j).fmod ((nums ds).length : Int)).toNat < ds.length := by omega
    obtain ⟨d, dm, de⟩ := nums_get hj2
    have sb : subA (.ref i) (.int (((k : Int) * (j + 5) + j).fmod ((nums ds).length : Int))) h = some (.int d) := by
      refine sub_ref hs ?_ de
      unfold idx
      rw [if_pos x1, if_pos x2]
    obtain ⟨d1, d2⟩ := hd d dm
    obtain ⟨m', b, e⟩ := fin (m + d) (by omega) (by
      have e34 : (2 : Int) ^ 34 = 17179869184 := by decide
      omega)
    refine ⟨m', b, ?_⟩
    have one : evSs P F C [.asg (.nm 2) (.bin .Add (.var 2) (.sub (.var 0) (.bin .Mod (.blt .int [.bin .Add (.bin .Mult (.var 1) (.bin .Add (.var 3) (.lit (.int 5)))) (.var 3)]) (.blt .len [.var 0]))))] [some (.ref i), some (.int k), some (.int m), some (.int j)] h = .nx [some (.ref i), some (.int k), some (.int (m + d)), some (.int j)] h := by
      simp only [evSs, evS, evE, evEs, List.getElem?_cons_succ, List.getElem?_cons_zero, bind_ok, then_ok, b_mul a1, b_add, t_int, t_len hs, b_mod l0, sb, give_some, Tg.put, List.set_cons_succ, List.set_cons_zero, nx_then]
    have ife : evS P F C (.ife (.val (.var 0)) [.asg (.nm 2) (.bin .Add (.var 2) (.sub (.var 0) (.bin .Mod (.blt .int [.bin .Add (.bin .Mult (.var 1) (.bin .Add (.var 3) (.lit (.int 5)))) (.var 3)]) (.blt .len [.var 0]))))] []) [some (.ref i), some (.int k), some (.int m), some (.int j)] h = .nx [some (.ref i), some (.int k), some (.int (m + d)), some (.int j)] h := by
      rw [← one]
      simp only [evS, evT, evE, List.getElem?_cons_zero, bind_ok, t0, give_some, then_ok, if_true]
    show (evS P F C _ _ h).then _ = _
    rw [ife, nx_then]
    show (evS P F C _ _ h).then _ = _
    rw [e, nx_then]
    rfl
theorem more_ok (hs : seqOf h i = some (nums ds)) (hd : ∀ d ∈ ds, Dn d) (hl : ds.length ≤ 100000) (hk : k < 2 ^ 20) : ∃ v, evSs P F C bMore [some (.ref i), some (.int k), none, none] h = .rt (.int v) h := by
  have hk' : (2 : Nat) ^ 20 = 1048576 := by decide
  have e32 : (2 : Int) ^ 32 = 4294967296 := by decide
  have n60 : (2 : Nat) ^ 60 = 1152921504606846976 := by decide
  have a1 : mulOk (k : Int) 48271 = true := mul_ok (by omega) (by decide)
  have b0 := fmod_lt (i := (k : Int) * 48271 + ((nums ds).length : Int) + 11) (j := 2147483629) (by decide)
  obtain ⟨m1, c1, e1⟩ := turn_ok (P := P) (F := F) (C := C) hs hd hl hk (m := ((k : Int) * 48271 + ((nums ds).length : Int) + 11).fmod 2147483629) (j := 0) (by omega) (by decide)
  obtain ⟨m2, c2, e2⟩ := turn_ok (P := P) (F := F) (C := C) hs hd hl hk (m := m1) (j := 1) c1 (by decide)
  obtain ⟨m3, c3, e3⟩ := turn_ok (P := P) (F := F) (C := C) hs hd hl hk (m := m2) (j := 2) c2 (by decide)
  refine ⟨m3.fdiv 1009, ?_⟩
  have r3 : rng 0 3 = [.int 0, .int 1, .int 2] := rfl
  have st : still [] h = true := rfl
  unfold bMore
  have loop : evS P F C (.for_ (.nm 3) (.rg [.lit (.int 3)]) bTurn) [some (.ref i), some (.int k), some (.int (((k : Int) * 48271 + ((nums ds).length : Int) + 11).fmod 2147483629)), none] h = .nx [some (.ref i), some (.int k), some (.int m3), some (.int 2)] h := by
    simp only [evS, evI, evE, evEs, bind_ok, then_ok, walkRg, show rngOk 3 = true by decide, if_true, give_some, r3, forL, st, Tg.put, List.set_cons_succ, List.set_cons_zero, e1, e2, e3]
  have first : evS P F C (.asg (.nm 2) (.bin .Mod (.blt .int [.bin .Add (.bin .Add (.bin .Mult (.var 1) (.lit (.int 48271))) (.blt .len [.var 0])) (.lit (.int 11))]) (.lit (.int 2147483629)))) [some (.ref i), some (.int k), none, none] h = .nx [some (.ref i), some (.int k), some (.int (((k : Int) * 48271 + ((nums ds).length : Int) + 11).fmod 2147483629)), none] h := by
    simp only [evS, evE, evEs, List.getElem?_cons_succ, List.getElem?_cons_zero, bind_ok, then_ok, b_mul a1, b_add, t_int, t_len hs, b_mod (show ((2147483629 : Int) != 0) = true by decide), Tg.put, List.set_cons_succ, List.set_cons_zero]
  simp only [evSs, first, nx_then, loop]
  simp only [evS, evE, List.getElem?_cons_succ, List.getElem?_cons_zero, bind_ok, then_ok, b_div (show divOk 1009 = true by decide), rt_then]
theorem trim_same {α : Type} (ok : Bool) (k : Ho → α) : trim h.length ok h k = k h := by
  unfold trim
  rw [if_pos (Nat.le_refl _)]
/-- a call that changes no number of objects -/
theorem call_rt {n f : Nat} {d : Df} {xs : List A} {a : A} {h' : Ho} (hd : P.defs[f]? = some d) (hl : xs.length = d.ps) (hr : evSs P F (callP (callK P F n)) d.body (xs.map some ++ List.replicate (d.N.length - xs.length) none) h = .rt a h') (hh : h'.length ≤ h.length) : callK P F (n + 1) f xs h = .ok a h' := by
  unfold callK
  rw [hd]
  dsimp only
  rw [if_pos (beq_iff_eq.mpr hl), hr]
  dsimp only
  unfold trim
  rw [if_pos hh]
theorem callP_ref {f : Nat} {xs : List A} (e : A.inbs 0 xs = false) : callP C f xs h = C f xs h := by
  unfold callP
  rw [e]
  rfl
/-- the draws' defs -/
structure Dr (P : Pg) (iM iT iO : Nat) : Prop where
  more : ∃ x N, P.defs[iM]? = some ⟨x, N, 2, bMore⟩ ∧ N.length = 4
  take : ∃ x N, P.defs[iT]? = some ⟨x, N, 3, bTake iM⟩ ∧ N.length = 4
  one : ∃ x N, P.defs[iO]? = some ⟨x, N, 3, bOne iT⟩ ∧ N.length = 3
/-- the draws stand at i, the place at j -/
structure At2 (h : Ho) (i j : Nat) (ds : List Int) (k : Nat) : Prop where
  di : h[i]? = some (.lst (nums ds))
  dj : h[j]? = some (.lst [.int k])
  ne : i ≠ j
  dn : ∀ d ∈ ds, Dn d
  dl : ds.length ≤ 100000
  dk : k < 2 ^ 20
theorem At2.seq {j : Nat} (a : At2 h i j ds k) : seqOf h i = some (nums ds) := by
  unfold seqOf
  rw [a.di]
  rfl
theorem ret_mod {X : E} {σ : Sl} {w m : Int} (hX : evE C X σ h = .ok (.int w) h) (hs : σ[2]? = some (some (.int m))) (hm : (m != 0) = true) : evS P F C (.ret (.bin .Mod (.blt .int [X]) (.var 2))) σ h = .rt (.int (w.fmod m)) h := by
  simp only [evS, evE, evEs, hX, bind_ok, t_int, hs, b_mod hm, then_ok]
theorem take_ok {iM iT iO n j : Nat} {m : Int} (D : Dr P iM iT iO) (a : At2 h i j ds k) (hm : 0 < m) : ∃ v, 0 ≤ v ∧ v < m ∧ callK P F (n + 2) iT [.ref i, .ref j, .int m] h = .ok (.int v) (h.set j (.lst [.int (k + 1 : Nat)])) := by
  obtain ⟨x, N, hd, hN⟩ := D.take
  obtain ⟨x2, N2, hd2, hN2⟩ := D.more
  have hj : seqOf h j = some [.int k] := by
    unfold seqOf
    rw [a.dj]
    rfl
  -- the state behind the store
  generalize hh : h.set j (.lst [.int (k + 1 : Nat)]) = h1
  have s1 : seqOf h1 i = some (nums ds) := by
    unfold seqOf
    rw [← hh, List.getElem?_set_ne (Ne.symm a.ne), a.di]
    rfl
  have l1 : h1.length = h.length := by
    rw [← hh, List.length_set]
  obtain ⟨mv, hmv⟩ := more_ok (P := P) (F := F) (C := callP (callK P F n)) (h := h1) s1 a.dn a.dl a.dk
  have e1 : evS P F (callP (callK P F (n + 1))) (.asg (.nm 3) (.sub (.var 1) (.lit (.int 0)))) [some (.ref i), some (.ref j), some (.int m), none] h = .nx [some (.ref i), some (.ref j), some (.int m), some (.int k)] h := by
    simp only [evS, evE, List.getElem?_cons_succ, List.getElem?_cons_zero, bind_ok, then_ok, sub_ref hj (show idx [A.int k].length 0 = some 0 from rfl) (show [A.int k][0]? = some (.int k) from rfl), give_some, Tg.put, List.set_cons_succ, List.set_cons_zero]
  have st : stoA (.ref j) (.int 0) (.int ((k : Int) + 1)) h = some h1 := by
    unfold stoA
    simp only [a.dj]
    rw [← hh]
    rfl
  have e2 : evS P F (callP (callK P F (n + 1))) (.sto (.var 1) (.lit (.int 0)) (.bin .Add (.var 3) (.lit (.int 1)))) [some (.ref i), some (.ref j), some (.int m), some (.int k)] h = .nx [some (.ref i), some (.ref j), some (.int m), some (.int k)] h1 := by
    simp only [evS, evE, List.getElem?_cons_succ, List.getElem?_cons_zero, bind_ok, then_ok, b_add, st]
  have val : ∃ w, evE (callP (callK P F (n + 1))) (.ite (.val (.cmp .Lt (.var 3) (.blt .len [.var 0]))) (.sub (.var 0) (.var 3)) (.call iM [.var 0, .var 3])) [some (.ref i), some (.ref j), some (.int m), some (.int k)] h1 = .ok (.int w) h1 := by
    have c0 : cmpA .Lt (.int k) (.int ((nums ds).length : Int)) h1 = some (decide ((k : Int) < ((nums ds).length : Int))) := rfl
    by_cases hk : k < ds.length
    · obtain ⟨d, dm, de⟩ := nums_get hk
      refine ⟨d, ?_⟩
      have c1 : decide ((k : Int) < ((nums ds).length : Int)) = true := decide_eq_true (by rw [nums_len]; omega)
      rw [c1] at c0
      simp only [evE, evT, evEs, List.getElem?_cons_succ, List.getElem?_cons_zero, bind_ok, t_len s1, c0, Option.map_some, give_some, truth, if_true, sub_ref s1 (idx_nat (by rw [nums_len]; exact hk)) de]
    · refine ⟨mv, ?_⟩
      have c1 : decide ((k : Int) < ((nums ds).length : Int)) = false := decide_eq_false (by rw [nums_len]; omega)
      rw [c1] at c0
      have cl : callP (callK P F (n + 1)) iM [.ref i, .int k] h1 = .ok (.int mv) h1 := by
        rw [callP_ref (by rfl)]
        exact call_rt hd2 rfl (by
          show evSs P F _ bMore ([some (.ref i), some (.int k)] ++ List.replicate (N2.length - 2) none) h1 = _
          rw [hN2]
          exact hmv) (Nat.le_refl _)
      simp only [evE, evT, evEs, List.getElem?_cons_succ, List.getElem?_cons_zero, bind_ok, t_len s1, c0, Option.map_some, give_some, truth, Bool.false_eq_true, if_false, cl]
  obtain ⟨w, hw⟩ := val
  have hm0 : (m != 0) = true := bne_iff_ne.mpr (by omega)
  obtain ⟨f1, f2⟩ := fmod_lt (i := w) hm
  refine ⟨w.fmod m, f1, f2, ?_⟩
  refine call_rt (d := ⟨x, N, 3, bTake iM⟩) hd rfl ?_ (by omega)
  show evSs P F _ (bTake iM) ([some (.ref i), some (.ref j), some (.int m)] ++ List.replicate (N.length - 3) none) h = _
  rw [hN]
  show evSs P F _ (bTake iM) [some (.ref i), some (.ref j), some (.int m), none] h = _
  unfold bTake
  simp only [evSs, e1, nx_then, e2, ret_mod hw rfl hm0, rt_then]
end
end Pl

/-! text Pl2 -/
set_option Elab.async false
set_option linter.all false
set_option maxRecDepth 100000
set_option maxHeartbeats 4000000
/-! the draws of a law, from any script -/
namespace Pl
open PySem Ev
section
variable {P : Pg} {F : Nat} {C : Nat → List A → Ho → R A} {h : Ho} {i j : Nat} {ds : List Int} {k : Nat}
theorem one_ok {iM iT iO n q : Nat} {xs : List A} (D : Dr P iM iT iO) (a : At2 h i j ds k) (hq : seqOf h q = some xs) (hqj : q ≠ j) (hne : 0 < xs.length) : ∃ (t : Nat) (ht : t < xs.length), callK P F (n + 3) iO [.ref q, .ref i, .ref j] h = .ok (xs[t]) (h.set j (.lst [.int (k + 1 : Nat)])) := by
  obtain ⟨x, N, hd, hN⟩ := D.one
  obtain ⟨v, v1, v2, e⟩ := take_ok (P := P) (F := F) (n := n) (m := (xs.length : Int)) D a (by omega)
  generalize hh : h.set j (.lst [.int (k + 1 : Nat)]) = h1 at e
  have sq : seqOf h1 q = some xs := by
    unfold seqOf at hq ⊢
    rw [← hh, List.getElem?_set_ne (Ne.symm hqj)]
    exact hq
  have l1 : h1.length = h.length := by
    rw [← hh, List.length_set]
  have hv : v.toNat < xs.length := by omega
  refine ⟨v.toNat, hv, ?_⟩
  have cl : callP (callK P F (n + 2)) iT [.ref i, .ref j, .int (xs.length : Int)] h = .ok (.int v) h1 := by
    rw [callP_ref (by rfl)]
    exact e
  have sb : subA (.ref q) (.int v) h1 = some (xs[v.toNat]) := by
    refine sub_ref sq ?_ (List.getElem?_eq_getElem hv)
    unfold idx
    rw [if_pos v1, if_pos v2]
  refine call_rt (d := ⟨x, N, 3, bOne iT⟩) hd rfl ?_ (by omega)
  show evSs P F _ (bOne iT) ([some (.ref q), some (.ref i), some (.ref j)] ++ List.replicate (N.length - 3) none) h = _
  rw [hN]
  show evSs P F _ (bOne iT) [some (.ref q), some (.ref i), some (.ref j)] h = _
  unfold bOne
  simp only [evSs, evS, evE, evEs, List.getElem?_cons_succ, List.getElem?_cons_zero, bind_ok, t_len hq, cl, sb, give_some, then_ok, rt_then]
/-! ### _law_draws -/
def b1 : List S := [.ife (.val (.cmp .Gt (.var 3) (.lit (.int 0)))) [.exp (.mth .append (.var 1) [.bin .Mod (.blt .int [.var 3]) (.lit (.int 1009))]), .asg (.nm 3) (.bin .FloorDiv (.var 3) (.lit (.int 1009)))] []]
def b2 : List S := [.asg (.nm 5) (.bin .Mod (.blt .int [.bin .Add (.bin .Add (.bin .Mult (.var 5) (.lit (.int 16807))) (.bin .Mult (.lit (.int 69621)) (.var 4))) (.lit (.int 5))]) (.lit (.int 2147483629))), .exp (.mth .append (.var 1) [.bin .FloorDiv (.var 5) (.lit (.int 1009))])]
def bCell : List S := [.asg (.nm 3) (.blt .abs [.var 2]), .ife (.val (.cmp .GtE (.var 3) (.bin .Pow (.lit (.int 10)) (.lit (.int 18))))) [.for_ (.nm 4) (.rg [.lit (.int 60)]) b1] [.asg (.nm 5) (.bin .Mod (.blt .int [.bin .Add (.bin .Mult (.var 3) (.lit (.int 48271))) (.lit (.int 11))]) (.lit (.int 2147483647))), .for_ (.nm 4) (.rg [.lit (.int 12)]) b2]]
def bDraws : List S := [.asg (.nm 1) (.lst []), .for_ (.nm 2) (.sq (.slc (.var 0) (.lit .non) (.lit (.int 63)))) bCell, .ret (.var 1)]
theorem nums_app (ds : List Int) (d : Int) : nums (ds ++ [d]) = nums ds ++ [.int d] := by
  unfold nums
  rw [List.map_append]
  rfl
theorem app_ok {acc : List Int} {d : Int} {X : O} (hl : acc.length < 100000) : mthA .append (.ref 0) [.int d] [.lst (nums acc), X] = .ok .non [.lst (nums (acc ++ [d])), X] := by
  show (if lineOk ((nums acc).length + 1) then R.ok A.non (setL 0 (nums acc ++ [.int d]) [.lst (nums acc), X]) else R.err) = _
  rw [if_pos (line_small (by rw [nums_len]; omega)), nums_app]
  rfl
theorem dn_app {acc : List Int} {d : Int} (h : ∀ d ∈ acc, Dn d) (hd : Dn d) : ∀ x ∈ acc ++ [d], Dn x := fun x hx => by
  rcases List.mem_append.mp hx with z | z
  · exact h x z
  · rw [List.mem_singleton.mp z]
    exact hd
theorem still0 : still [] h = true := rfl
theorem lo1 {s0 a2 a5 : Option A} {X : O} : ∀ (ks : List A) (acc : List Int) (rest : Int) (a4 : Option A), 0 ≤ rest → (∀ d ∈ acc, Dn d) → acc.length + ks.length ≤ 90000 → ∃ a4' rest' acc', 0 ≤ rest' ∧ (∀ d ∈ acc', Dn d) ∧ acc'.length ≤ acc.length + ks.length ∧
    forL [] (.nm 4) (fun σ h => evSs P F C b1 σ h) ks [s0, some (.ref 0), a2, some (.int rest), a4, a5] [.lst (nums acc), X] = .nx [s0, some (.ref 0), a2, some (.int rest'), a4', a5] [.lst (nums acc'), X]
  | [], acc, rest, a4, h1, h2, h3 => ⟨a4, rest, acc, h1, h2, Nat.le_refl _, rfl⟩
  | x :: ks, acc, rest, a4, h1, h2, h3 => by
    have hl : (x :: ks).length = ks.length + 1 := rfl
    rw [hl] at h3 ⊢
    by_cases hp : 0 < rest
    · obtain ⟨f1, f2⟩ := fmod_lt (i := rest) (j := 1009) (by decide)
      have hr : 0 ≤ rest.fdiv 1009 := Int.fdiv_nonneg h1 (by decide)
      obtain ⟨a4', rest', acc', g1, g2, g3, g4⟩ := lo1 ks (acc ++ [rest.fmod 1009]) (rest.fdiv 1009) (some x) hr (dn_app h2 ⟨f1, by omega⟩) (by rw [List.length_append]; simp; omega)
      refine ⟨a4', rest', acc', g1, g2, by rw [List.length_append] at g3; simp at g3; omega, ?_⟩
      have one : evSs P F C b1 [s0, some (.ref 0), a2, some (.int rest), some x, a5] [.lst (nums acc), X] = .nx [s0, some (.ref 0), a2, some (.int (rest.fdiv 1009)), some x, a5] [.lst (nums (acc ++ [rest.fmod 1009])), X] := by
        have c0 : cmpA .Gt (.int rest) (.int 0) [.lst (nums acc), X] = some true := by
          show some (decide (0 < rest)) = _
          rw [decide_eq_true hp]
        unfold b1
        simp only [evSs, evS, evT, evE, evEs, List.getElem?_cons_succ, List.getElem?_cons_zero, bind_ok, c0, Option.map_some, give_some, truth, then_ok, if_true, t_int, b_mod (show ((1009 : Int) != 0) = true by decide), app_ok (acc := acc) (d := rest.fmod 1009) (X := X) (by omega), nx_then, b_div (show divOk 1009 = true by decide), Tg.put, List.set_cons_succ, List.set_cons_zero]
      unfold forL
      rw [if_pos still0]
      simp only [Tg.put, List.set_cons_succ, List.set_cons_zero, one]
      exact g4
    · have e0 : rest = 0 := by omega
      obtain ⟨a4', rest', acc', g1, g2, g3, g4⟩ := lo1 ks acc rest (some x) h1 h2 (by omega)
      refine ⟨a4', rest', acc', g1, g2, by omega, ?_⟩
      have one : evSs P F C b1 [s0, some (.ref 0), a2, some (.int rest), some x, a5] [.lst (nums acc), X] = .nx [s0, some (.ref 0), a2, some (.int rest), some x, a5] [.lst (nums acc), X] := by
        have c0 : cmpA .Gt (.int rest) (.int 0) [.lst (nums acc), X] = some false := by
          show some (decide (0 < rest)) = _
          rw [decide_eq_false hp]
        unfold b1
        simp only [evSs, evS, evT, evE, evEs, List.getElem?_cons_succ, List.getElem?_cons_zero, bind_ok, c0, Option.map_some, give_some, truth, then_ok, Bool.false_eq_true, if_false, nx_then]
      unfold forL
      rw [if_pos still0]
      simp only [Tg.put, List.set_cons_succ, List.set_cons_zero, one]
      exact g4
theorem lo2 {s0 a2 a3 : Option A} {X : O} : ∀ (ks : List Int) (acc : List Int) (m : Int) (a4 : Option A), (∀ k ∈ ks, 0 ≤ k ∧ k < 1000) → (0 ≤ m ∧ m < 2 ^ 32) → (∀ d ∈ acc, Dn d) → acc.length + ks.length ≤ 90000 → ∃ a4' m' acc', (∀ d ∈ acc', Dn d) ∧ acc'.length ≤ acc.length + ks.length ∧
    forL [] (.nm 4) (fun σ h => evSs P F C b2 σ h) (nums ks) [s0, some (.ref 0), a2, a3, a4, some (.int m)] [.lst (nums acc), X] = .nx [s0, some (.ref 0), a2, a3, a4', some (.int m')] [.lst (nums acc'), X]
  | [], acc, m, a4, h0, h1, h2, h3 => ⟨a4, m, acc, h2, Nat.le_refl _, rfl⟩
  | x :: ks, acc, m, a4, h0, h1, h2, h3 => by
    have hl : (x :: ks).length = ks.length + 1 := rfl
    rw [hl] at h3 ⊢
    have e32 : (2 : Int) ^ 32 = 4294967296 := by decide
    have n60 : (2 : Nat) ^ 60 = 1152921504606846976 := by decide
    obtain ⟨x1, x2⟩ := h0 x List.mem_cons_self
    have q1 : mulOk m 16807 = true := mul_ok (by omega) (by decide)
    have q2 : mulOk 69621 x = true := mul_ok (by decide) (by omega)
    obtain ⟨f1, f2⟩ := fmod_lt (i := m * 16807 + 69621 * x + 5) (j := 2147483629) (by decide)
    generalize hm : (m * 16807 + 69621 * x + 5).fmod 2147483629 = m1 at f1 f2
    have hd : Dn (m1.fdiv 1009) := by
      have e : m1.fdiv 1009 = m1 / 1009 := Int.fdiv_eq_ediv_of_nonneg _ (by decide)
      unfold Dn
      rw [e]
      omega
    obtain ⟨a4', m', acc', g2, g3, g4⟩ := lo2 ks (acc ++ [m1.fdiv 1009]) m1 (some (.int x)) (fun k hk => h0 k (List.mem_cons_of_mem _ hk)) (by omega) (dn_app h2 hd) (by rw [List.length_append]; simp; omega)
    refine ⟨a4', m', acc', g2, by rw [List.length_append] at g3; simp at g3; omega, ?_⟩
    have one : evSs P F C b2 [s0, some (.ref 0), a2, a3, some (.int x), some (.int m)] [.lst (nums acc), X] = .nx [s0, some (.ref 0), a2, a3, some (.int x), some (.int m1)] [.lst (nums (acc ++ [m1.fdiv 1009])), X] := by
      unfold b2
      simp only [evSs, evS, evE, evEs, List.getElem?_cons_succ, List.getElem?_cons_zero, bind_ok, b_mul q1, b_mul q2, b_add, t_int, b_mod (show ((2147483629 : Int) != 0) = true by decide), hm, then_ok, Tg.put, List.set_cons_succ, List.set_cons_zero, nx_then, b_div (show divOk 1009 = true by decide), app_ok (acc := acc) (d := m1.fdiv 1009) (X := X) (by omega)]
    show forL [] (.nm 4) (fun σ h => evSs P F C b2 σ h) (.int x :: nums ks) _ _ = _
    unfold forL
    rw [if_pos still0]
    simp only [Tg.put, List.set_cons_succ, List.set_cons_zero, one]
    exact g4
theorem r12 : rng 0 12 = nums [0, 1, 2, 3, 4, 5, 6, 7, 8, 9, 10, 11] := rfl
theorem r60 : (rng 0 60).length = 60 := rfl
/-- one cell of the script -/
theorem cell_ok {s0 a3 a4 a5 : Option A} {X : O} {z : Int} {acc : List Int} (hd : ∀ d ∈ acc, Dn d) (hl : acc.length ≤ 80000) : ∃ a3' a4' a5' acc', (∀ d ∈ acc', Dn d) ∧ acc'.length ≤ acc.length + 60 ∧
    evSs P F C bCell [s0, some (.ref 0), some (.int z), a3, a4, a5] [.lst (nums acc), X] = .nx [s0, some (.ref 0), some (.int z), a3', a4', a5'] [.lst (nums acc'), X] := by
  have ha : 0 ≤ iabs z := by
    unfold iabs
    split <;> omega
  have e1 : evS P F C (.asg (.nm 3) (.blt .abs [.var 2])) [s0, some (.ref 0), some (.int z), a3, a4, a5] [.lst (nums acc), X] = .nx [s0, some (.ref 0), some (.int z), some (.int (iabs z)), a4, a5] [.lst (nums acc), X] := by
    simp only [evS, evE, evEs, List.getElem?_cons_succ, List.getElem?_cons_zero, bind_ok, t_abs, then_ok, Tg.put, List.set_cons_succ, List.set_cons_zero]
  have p18 : binA .Pow (.int 10) (.int 18) [.lst (nums acc), X] = .ok (.int 1000000000000000000) [.lst (nums acc), X] := rfl
  by_cases hb : 1000000000000000000 ≤ iabs z
  · have c0 : cmpA .GtE (.int (iabs z)) (.int 1000000000000000000) [.lst (nums acc), X] = some true := by
      show some (decide (1000000000000000000 ≤ iabs z)) = _
      rw [decide_eq_true hb]
    obtain ⟨a4', rest', acc', _, g2, g3, g4⟩ := lo1 (P := P) (F := F) (C := C) (s0 := s0) (a2 := some (.int z)) (a5 := a5) (X := X) (rng 0 60) acc (iabs z) a4 ha hd (by rw [r60]; omega)
    refine ⟨some (.int rest'), a4', a5, acc', g2, by rw [r60] at g3; exact g3, ?_⟩
    unfold bCell
    simp only [evSs, e1, nx_then]
    simp only [evS, evT, evI, evE, evEs, List.getElem?_cons_succ, List.getElem?_cons_zero, bind_ok, p18, c0, Option.map_some, give_some, truth, then_ok, if_true, evSs, walkRg, show rngOk 60 = true by decide, g4, nx_then]
  · have c0 : cmpA .GtE (.int (iabs z)) (.int 1000000000000000000) [.lst (nums acc), X] = some false := by
      show some (decide (1000000000000000000 ≤ iabs z)) = _
      rw [decide_eq_false hb]
    have n60 : (2 : Nat) ^ 60 = 1152921504606846976 := by decide
    have e32 : (2 : Int) ^ 32 = 4294967296 := by decide
    have q1 : mulOk (iabs z) 48271 = true := mul_ok (by omega) (by decide)
    obtain ⟨f1, f2⟩ := fmod_lt (i := iabs z * 48271 + 11) (j := 2147483647) (by decide)
    obtain ⟨a4', m', acc', g2, g3, g4⟩ := lo2 (P := P) (F := F) (C := C) (s0 := s0) (a2 := some (.int z)) (a3 := some (.int (iabs z))) (X := X) [0, 1, 2, 3, 4, 5, 6, 7, 8, 9, 10, 11] acc ((iabs z * 48271 + 11).fmod 2147483647) a4 (by decide) (by omega) hd (by
      show acc.length + 12 ≤ 90000
      omega)
    have l12 : ([0, 1, 2, 3, 4, 5, 6, 7, 8, 9, 10, 11] : List Int).length = 12 := rfl
    refine ⟨some (.int (iabs z)), a4', some (.int m'), acc', g2, by rw [l12] at g3; omega, ?_⟩
    unfold bCell
    simp only [evSs, e1, nx_then]
    simp only [evS, evT, evI, evE, evEs, List.getElem?_cons_succ, List.getElem?_cons_zero, bind_ok, p18, c0, Option.map_some, give_some, truth, then_ok, Bool.false_eq_true, if_false, evSs, b_mul q1, b_add, t_int, b_mod (show ((2147483647 : Int) != 0) = true by decide), Tg.put, List.set_cons_succ, List.set_cons_zero, nx_then, walkRg, show rngOk 12 = true by decide, if_true, r12, g4]
theorem beqs_self : ∀ ns : List Int, A.beqs (nums ns) (nums ns) = true
  | [] => rfl
  | n :: ns => by
    show (n == n && A.beqs (nums ns) (nums ns)) = true
    rw [beqs_self ns, beq_self_eq_true]
    rfl
theorem still1 (Z : O) (ns : List Int) : still [(1, nums ns)] [Z, .lst (nums ns)] = true := by
  show (A.beqs (nums ns) (nums ns) && true) = true
  rw [beqs_self]
  rfl
theorem cells_ok {s0 : Option A} {ns : List Int} : ∀ (zs acc : List Int) (a2 a3 a4 a5 : Option A), (∀ d ∈ acc, Dn d) → acc.length + 60 * zs.length ≤ 80000 → ∃ a2' a3' a4' a5' acc', (∀ d ∈ acc', Dn d) ∧ acc'.length ≤ acc.length + 60 * zs.length ∧
    forL [(1, nums ns)] (.nm 2) (fun σ h => evSs P F C bCell σ h) (nums zs) [s0, some (.ref 0), a2, a3, a4, a5] [.lst (nums acc), .lst (nums ns)] = .nx [s0, some (.ref 0), a2', a3', a4', a5'] [.lst (nums acc'), .lst (nums ns)]
  | [], acc, a2, a3, a4, a5, hd, hl => ⟨a2, a3, a4, a5, acc, hd, by omega, by
    show forL [(1, nums ns)] (.nm 2) _ [] _ _ = _
    unfold forL
    rw [if_pos (still1 _ _)]⟩
  | z :: zs, acc, a2, a3, a4, a5, hd, hl => by
    have e : (z :: zs).length = zs.length + 1 := rfl
    rw [e] at hl ⊢
    obtain ⟨b3, b4, b5, acc1, g1, g2, g3⟩ := cell_ok (P := P) (F := F) (C := C) (s0 := s0) (a3 := a3) (a4 := a4) (a5 := a5) (X := .lst (nums ns)) (z := z) (acc := acc) hd (by omega)
    obtain ⟨c2, c3, c4, c5, acc2, k1, k2, k3⟩ := cells_ok zs acc1 (some (.int z)) b3 b4 b5 g1 (by omega)
    refine ⟨c2, c3, c4, c5, acc2, k1, by omega, ?_⟩
    show forL [(1, nums ns)] (.nm 2) _ (.int z :: nums zs) _ _ = _
    unfold forL
    rw [if_pos (still1 _ _)]
    simp only [Tg.put, List.set_cons_succ, List.set_cons_zero, g3]
    exact k3
theorem nums_take (ns : List Int) (n : Nat) : (nums ns).take n = nums (ns.take n) := by
  unfold nums
  rw [List.map_take]
/-- _law_draws, from any script of at most 63 numbers -/
theorem draws_ok {iD n : Nat} {x : Str} {N : List Str} {ns : List Int} (hd : P.defs[iD]? = some ⟨x, N, 1, bDraws⟩) (hN : N.length = 6) (hl : ns.length ≤ 63) : ∃ ds, (∀ d ∈ ds, Dn d) ∧ ds.length ≤ 4000 ∧ callK P F (n + 1) iD [.lis (nums ns)] [] = .ok (.ref 0) [.lst (nums ds), .lst (nums ns)] := by
  obtain ⟨c2, c3, c4, c5, ds, k1, k2, k3⟩ := cells_ok (P := P) (F := F) (C := callP (callK P F n)) (s0 := some (.lis (nums ns))) (ns := ns) ns [] none none none none (fun d hd => absurd hd (by simp)) (by simp; omega)
  refine ⟨ds, k1, by simp at k2; omega, ?_⟩
  have cutE : cut (nums ns) none (some 63) = nums ns := by
    show ((nums ns).drop 0).take ((if (63 : Int) < 0 then ((63 : Int) + ((nums ns).length : Int)).toNat else min (63 : Int).toNat (nums ns).length) - 0) = _
    rw [if_neg (by decide), List.drop_zero, Nat.sub_zero]
    refine List.take_of_length_le ?_
    rw [nums_len]
    show ns.length ≤ min 63 ns.length
    omega
  have run : evSs P F (callP (callK P F n)) bDraws [some (.lis (nums ns)), none, none, none, none, none] [] = .rt (.ref 0) [.lst (nums ds), .lst (nums ns)] := by
    have q1 : evS P F (callP (callK P F n)) (.asg (.nm 1) (.lst [])) [some (.lis (nums ns)), none, none, none, none, none] [] = .nx [some (.lis (nums ns)), some (.ref 0), none, none, none, none] [.lst (nums [])] := rfl
    have q2 : evI (callP (callK P F n)) (.sq (.slc (.var 0) (.lit .non) (.lit (.int 63)))) [some (.lis (nums ns)), some (.ref 0), none, none, none, none] [.lst (nums [])] = .ok (nums ns, [(1, nums ns)]) [.lst (nums []), .lst (nums ns)] := by
      simp only [evI, evE, List.getElem?_cons_zero, bind_ok, part, give_some, slcA, cutE]
      rfl
    unfold bDraws
    simp only [evSs, q1, nx_then]
    simp only [evS, q2, then_ok, k3, nx_then]
    simp only [evE, List.getElem?_cons_succ, List.getElem?_cons_zero, then_ok, rt_then]
  unfold callK
  rw [hd]
  dsimp only
  rw [if_pos (by rfl)]
  have hs : ([A.lis (nums ns)].map some ++ List.replicate (N.length - [A.lis (nums ns)].length) none : Sl) = [some (.lis (nums ns)), none, none, none, none, none] := by
    rw [hN]
    rfl
  rw [hs, run]
  rfl
end
end Pl

/-! text H00 -/

set_option Elab.async false
set_option linter.all false
set_option maxRecDepth 100000
set_option maxHeartbeats 0
namespace My
open PySem PySem.Spec PyProof.Rows L2 Ev
abbrev prog : Program := PySem.Challenge.pw_drawnwrought_k00_errors_and_limits
def top (i : Nat) : Stmt := PySem.Challenge.pw_drawnwrought_k00_errors_and_limits.main.body.getD i (.Pass ⟨0, 0, 0, 0⟩)
def f__law_draws : Df := ⟨"_law_draws", ["script", "draws", "cell", "rest", "k", "mixed"], 1, [.asg (.nm 1) (.lst []), .for_ (.nm 2) (.sq (.slc (.var 0) (.lit .non) (.lit (.int 63)))) [.asg (.nm 3) (.blt .abs [.var 2]), .ife (.val (.cmp .GtE (.var 3) (.bin .Pow (.lit (.int 10)) (.lit (.int 18))))) [.for_ (.nm 4) (.rg [.lit (.int 60)]) [.ife (.val (.cmp .Gt (.var 3) (.lit (.int 0)))) [.exp (.mth .append (.var 1) [.bin .Mod (.blt .int [.var 3]) (.lit (.int 1009))]), .asg (.nm 3) (.bin .FloorDiv (.var 3) (.lit (.int 1009)))] []]] [.asg (.nm 5) (.bin .Mod (.blt .int [.bin .Add (.bin .Mult (.var 3) (.lit (.int 48271))) (.lit (.int 11))]) (.lit (.int 2147483647))), .for_ (.nm 4) (.rg [.lit (.int 12)]) [.asg (.nm 5) (.bin .Mod (.blt .int [.bin .Add (.bin .Add (.bin .Mult (.var 5) (.lit (.int 16807))) (.bin .Mult (.lit (.int 69621)) (.var 4))) (.lit (.int 5))]) (.lit (.int 2147483629))), .exp (.mth .append (.var 1) [.bin .FloorDiv (.var 5) (.lit (.int 1009))])]]], .ret (.var 1)]⟩
def f__law_more : Df := ⟨"_law_more", ["draws", "place", "mixed", "k"], 2, [.asg (.nm 2) (.bin .Mod (.blt .int [.bin .Add (.bin .Add (.bin .Mult (.var 1) (.lit (.int 48271))) (.blt .len [.var 0])) (.lit (.int 11))]) (.lit (.int 2147483629))), .for_ (.nm 3) (.rg [.lit (.int 3)]) [.ife (.val (.var 0)) [.asg (.nm 2) (.bin .Add (.var 2) (.sub (.var 0) (.bin .Mod (.blt .int [.bin .Add (.bin .Mult (.var 1) (.bin .Add (.var 3) (.lit (.int 5)))) (.var 3)]) (.blt .len [.var 0]))))] [], .asg (.nm 2) (.bin .Mod (.blt .int [.bin .Add (.bin .Add (.bin .Mult (.var 2) (.lit (.int 16807))) (.bin .Mult (.lit (.int 69621)) (.var 3))) (.lit (.int 5))]) (.lit (.int 2147483629)))], .ret (.bin .FloorDiv (.var 2) (.lit (.int 1009)))]⟩
def f__law_take : Df := ⟨"_law_take", ["draws", "at", "many", "place"], 3, [.asg (.nm 3) (.sub (.var 1) (.lit (.int 0))), .sto (.var 1) (.lit (.int 0)) (.bin .Add (.var 3) (.lit (.int 1))), .ret (.bin .Mod (.blt .int [.ite (.val (.cmp .Lt (.var 3) (.blt .len [.var 0]))) (.sub (.var 0) (.var 3)) (.call 1 [.var 0, .var 3])]) (.var 2))]⟩
def f__law_one : Df := ⟨"_law_one", ["rows", "draws", "at"], 3, [.ret (.sub (.var 0) (.call 2 [.var 1, .var 2, .blt .len [.var 0]]))]⟩
def f__law_limits_right : Df := ⟨"_law_limits_right", ["told", "due"], 0, [.asg (.nm 0) (.lst [.glo "MAX_NUMBER" (.int 1000000), .glo "MAX_LEVELS" (.int 5), .glo "MAX_PART" (.int 1000000000000000000000000000000), .glo "MAX_DIGITS" (.int 60), .glo "MAX_STEPS" (.int 40), .glo "MAX_TEXT" (.int 6000), .glo "MAX_LINES" (.int 200), .glo "MAX_REACHED" (.int 3000), .glo "MAX_DEGREE" (.int 8)]), .asg (.nm 0) (.bin .Add (.var 0) (.lst [.glo "MAX_HALVES" (.int 60), .glo "MAX_RELATED" (.int 9), .glo "MAX_NAMED" (.int 16), .glo "MAX_LINKS" (.int 40), .glo "MAX_CELLS" (.int 900), .glo "MAX_TURNS" (.int 1000), .glo "MAX_CORNERS" (.int 60), .glo "MAX_ROOTED" (.int 5), .glo "MAX_SPANNED" (.int 8)])), .asg (.nm 0) (.bin .Add (.var 0) (.lst [.glo "MAX_BEND" (.int 100000), .glo "MAX_PACKED" (.int 20000), .glo "MAX_GIVEN" (.int 6), .glo "MAX_RULED" (.int 200), .glo "MAX_TRIED" (.int 20000), .glo "MAX_TERMS" (.int 3000), .glo "MAX_FREE" (.int 6), .glo "MAX_PLACED" (.int 16), .glo "MAX_TESTED" (.int 20000)])), .asg (.nm 0) (.bin .Add (.var 0) (.lst [.glo "MAX_OUTLINE" (.int 12), .glo "MAX_CORNERED" (.int 12), .glo "MAX_GRID" (.int 1000), .glo "MAX_WIDE" (.int 2500), .glo "MAX_FAREY" (.int 100), .glo "MAX_CHAINED" (.int 60), .glo "MAX_HEIGHT" (.int 1000), .glo "MAX_GROUP" (.int 120), .glo "MAX_KEPT" (.int 8)])), .asg (.nm 0) (.bin .Add (.var 0) (.lst [.glo "MAX_BODIES" (.int 8), .glo "MAX_PIECED" (.int 60), .glo "MAX_SIDED" (.int 12), .glo "MAX_ENTRY" (.int 1000000), .glo "MAX_TIMES" (.int 60), .glo "MAX_SITES" (.int 9), .glo "MAX_STOPS" (.int 7), .glo "MAX_STOP" (.int 1000), .glo "MAX_PRIME" (.int 10000)])), .asg (.nm 0) (.bin .Add (.var 0) (.lst [.glo "MAX_MEMBERS" (.int 6), .glo "MAX_REPEATED" (.int 20), .glo "MAX_SOUGHT" (.int 5000)])), .asg (.nm 1) (.lst [.lit (.int 1000000), .lit (.int 5), .lit (.int 1000000000000000000000000000000), .lit (.int 60), .lit (.int 40), .lit (.int 6000), .lit (.int 200), .lit (.int 3000), .lit (.int 8), .lit (.int 60), .lit (.int 9), .lit (.int 16), .lit (.int 40), .lit (.int 900), .lit (.int 1000), .lit (.int 60), .lit (.int 5), .lit (.int 8), .lit (.int 100000), .lit (.int 20000), .lit (.int 6), .lit (.int 200)]), .asg (.nm 1) (.bin .Add (.var 1) (.lst [.lit (.int 20000), .lit (.int 3000), .lit (.int 6), .lit (.int 16), .lit (.int 20000), .lit (.int 12), .lit (.int 12), .lit (.int 1000), .lit (.int 2500), .lit (.int 100), .lit (.int 60), .lit (.int 1000), .lit (.int 120), .lit (.int 8), .lit (.int 8), .lit (.int 60), .lit (.int 12), .lit (.int 1000000), .lit (.int 60), .lit (.int 9), .lit (.int 7), .lit (.int 1000)])), .asg (.nm 1) (.bin .Add (.var 1) (.lst [.lit (.int 10000), .lit (.int 6), .lit (.int 20), .lit (.int 5000)])), .ret (.cmp .Eq (.blt .repr [.var 0]) (.blt .repr [.var 1]))]⟩
def f__law_raise : Df := ⟨"_law_raise", ["k", "one", "other"], 3, [.ife (.val (.cmp .Eq (.var 0) (.lit (.int 0)))) [.rais 1 [.var 1]] [], .ife (.val (.cmp .Eq (.var 0) (.lit (.int 1)))) [.rais 2 [.var 1]] [], .ife (.val (.cmp .Eq (.var 0) (.lit (.int 2)))) [.rais 3 [.var 1]] [], .ife (.val (.cmp .Eq (.var 0) (.lit (.int 3)))) [.rais 4 [.var 1]] [], .ife (.val (.cmp .Eq (.var 0) (.lit (.int 4)))) [.rais 5 [.var 1]] [], .ife (.val (.cmp .Eq (.var 0) (.lit (.int 5)))) [.rais 6 [.var 1, .var 2]] [], .rais 0 [.var 1]]⟩
def f__law_kinds : Df := ⟨"_law_kinds", ["e", "plain"], 1, [.rais 1000000 []]⟩
def f__law_caught : Df := ⟨"_law_caught", ["k", "one", "other", "e"], 3, [.try_ [.exp (.call 5 [.var 0, .var 1, .var 2])] [⟨"DrawnError", some 3, .ive (.isl ["ArgumentError", "PaperError", "TooMany", "CheckError", "TextError", "LogError", "CommandError"]) .nol⟩], .ret (.lst [])]⟩
def f__law_fields : Df := ⟨"_law_fields", ["k", "one", "other", "e"], 3, [.try_ [.exp (.call 5 [.var 0, .var 1, .var 2])] [⟨"ArgumentError", some 3, .tup [.fld "reason"]⟩, ⟨"PaperError", some 3, .tup [.fld "reason"]⟩, ⟨"TooMany", some 3, .tup [.fld "reason"]⟩, ⟨"CheckError", some 3, .tup [.fld "reason"]⟩, ⟨"TextError", some 3, .tup [.fld "at"]⟩, ⟨"LogError", some 3, .tup [.fld "number", .fld "reason"]⟩, ⟨"CommandError", some 3, .tup [.fld "line"]⟩], .ret (.lit .non)]⟩
def f_law : Df := ⟨"law", ["script", "draws", "at", "values", "k", "one", "other", "j"], 1, [.asg (.nm 1) (.call 0 [.var 0]), .asg (.nm 2) (.lst [.lit (.int 0)]), .ife (.not (.val (.call 4 []))) [.ret (.lit (.bl false))] [], .asg (.nm 3) (.lst [.lit (.str "word"), .lit (.str ""), .lit (.str "form"), .lit (.int 0), .lit (.int 17), .neg (.lit (.int 3)), .lit .non, .tup [.lit (.str "a"), .lit (.int 5)], .lit (.str "a line"), .lit (.bl true)]), .for_ (.nm 4) (.rg [.lit (.int 7)]) [.par [5, 6] [.call 3 [.var 3, .var 1, .var 2], .call 3 [.var 3, .var 1, .var 2]], .ife (.val (.cmp .NotEq (.call 7 [.var 4, .var 5, .var 6]) (.comp (.cmp .Eq (.var 7) (.var 4)) (.nm 7) (.rg [.lit (.int 7)]) (.yes) [7]))) [.ret (.lit (.bl false))] [], .ife (.val (.cmp .NotEq (.blt .repr [.call 8 [.var 4, .var 5, .var 6]]) (.blt .repr [.ite (.val (.cmp .Eq (.var 4) (.lit (.int 5)))) (.tup [.var 5, .var 6]) (.tup [.var 5])]))) [.ret (.lit (.bl false))] []], .ret (.lit (.bl true))]⟩
def defs0 : List Df := [f__law_draws, f__law_more, f__law_take, f__law_one, f__law_limits_right, f__law_raise, f__law_kinds, f__law_caught, f__law_fields, f_law]
def defs : List Df := defs0
def ecs : List Ec := [⟨"CommandError", ["line"], ["CommandError", "DrawnError"]⟩, ⟨"ArgumentError", ["reason"], ["ArgumentError", "ReasonError", "DrawnError"]⟩, ⟨"PaperError", ["reason"], ["PaperError", "ReasonError", "DrawnError"]⟩, ⟨"TooMany", ["reason"], ["TooMany", "ReasonError", "DrawnError"]⟩, ⟨"CheckError", ["reason"], ["CheckError", "ReasonError", "DrawnError"]⟩, ⟨"TextError", ["at"], ["TextError", "DrawnError"]⟩, ⟨"LogError", ["number", "reason"], ["LogError", "DrawnError"]⟩]
def pg : Pg := ⟨defs, ecs⟩
def cts0 : List (Str × A) := [("MAX_NUMBER", .int 1000000), ("MAX_LEVELS", .int 5), ("MAX_PART", .int 1000000000000000000000000000000), ("MAX_DIGITS", .int 60), ("MAX_STEPS", .int 40), ("MAX_TEXT", .int 6000), ("MAX_LINES", .int 200), ("MAX_REACHED", .int 3000), ("MAX_DEGREE", .int 8), ("MAX_HALVES", .int 60), ("MAX_RELATED", .int 9), ("MAX_NAMED", .int 16), ("MAX_LINKS", .int 40), ("MAX_CELLS", .int 900), ("MAX_TURNS", .int 1000), ("MAX_CORNERS", .int 60), ("MAX_ROOTED", .int 5), ("MAX_SPANNED", .int 8), ("MAX_BEND", .int 100000), ("MAX_PACKED", .int 20000)]
def cts1 : List (Str × A) := [("MAX_GIVEN", .int 6), ("MAX_RULED", .int 200), ("MAX_TRIED", .int 20000), ("MAX_TERMS", .int 3000), ("MAX_FREE", .int 6), ("MAX_PLACED", .int 16), ("MAX_TESTED", .int 20000), ("MAX_OUTLINE", .int 12), ("MAX_CORNERED", .int 12), ("MAX_GRID", .int 1000), ("MAX_WIDE", .int 2500), ("MAX_FAREY", .int 100), ("MAX_CHAINED", .int 60), ("MAX_HEIGHT", .int 1000), ("MAX_GROUP", .int 120), ("MAX_KEPT", .int 8), ("MAX_BODIES", .int 8), ("MAX_PIECED", .int 60), ("MAX_SIDED", .int 12), ("MAX_ENTRY", .int 1000000)]
def cts2 : List (Str × A) := [("MAX_TIMES", .int 60), ("MAX_SITES", .int 9), ("MAX_STOPS", .int 7), ("MAX_STOP", .int 1000), ("MAX_PRIME", .int 10000), ("MAX_MEMBERS", .int 6), ("MAX_REPEATED", .int 20), ("MAX_SOUGHT", .int 5000)]
def ck : Ck := ⟨[], pg, cts0 ++ cts1 ++ cts2, ["DrawnError", "ArgumentError", "PaperError", "TooMany", "CheckError", "TextError", "LogError", "CommandError"]⟩
def sts0 : List Stmt := [top 59, top 60, top 61, top 62, top 63, top 64, top 65, top 66, top 67, top 68]
def sts : List Stmt := sts0
theorem dd__law_draws : Dd ck f__law_draws (top 59) := ⟨fun _ _ _ _ _ _ us hl => match us, hl with | [_], _ => rfl, by decide +kernel⟩
theorem dd__law_more : Dd ck f__law_more (top 60) := ⟨fun _ _ _ _ _ _ us hl => match us, hl with | [_, _], _ => rfl, by decide +kernel⟩
theorem dd__law_take : Dd ck f__law_take (top 61) := ⟨fun _ _ _ _ _ _ us hl => match us, hl with | [_, _, _], _ => rfl, by decide +kernel⟩
theorem dd__law_one : Dd ck f__law_one (top 62) := ⟨fun _ _ _ _ _ _ us hl => match us, hl with | [_, _, _], _ => rfl, by decide +kernel⟩
theorem dd__law_limits_right : Dd ck f__law_limits_right (top 63) := ⟨fun _ _ _ _ _ _ us hl => match us, hl with | [], _ => rfl, by decide +kernel⟩
theorem dd__law_raise : Dd ck f__law_raise (top 64) := ⟨fun _ _ _ _ _ _ us hl => match us, hl with | [_, _, _], _ => rfl, by decide +kernel⟩
theorem dd__law_fields : Dd ck f__law_fields (top 67) := ⟨fun _ _ _ _ _ _ us hl => match us, hl with | [_, _, _], _ => rfl, by decide +kernel⟩
theorem dd_law : Dd ck f_law (top 68) := ⟨fun _ _ _ _ _ _ us hl => match us, hl with | [_], _ => rfl, by decide +kernel⟩
theorem dh_kinds : Dh f__law_kinds (top 65) := ⟨fun _ _ _ _ _ _ us hl => match us, hl with | [_], _ => rfl, by decide +kernel⟩
theorem dh_caught : Dh f__law_caught (top 66) := ⟨fun _ _ _ _ _ _ us hl => match us, hl with | [_, _, _], _ => rfl, by decide +kernel⟩
abbrev cA : List Str := ["ArgumentError", "PaperError", "TooMany", "CheckError"]
abbrev cB : List Str := ["TextError", "LogError", "CommandError"]
theorem shK : (fnsB ["e", "plain"] ["e"] (defScope (top 65)) && kindsS (defScope (top 65)) "e" "plain" cA cB (defBody (top 65))) = true := by decide +kernel
theorem shC : caughtS { ck with N := f__law_caught.N } (defScope (top 66)) "DrawnError" "e" "_law_kinds" 3 cA cB [.exp (.call 5 [.var 0, .var 1, .var 2])] [.ret (.lst [])] (defBody (top 66)) = true := by decide +kernel
theorem hk_kinds (K : PySem.W.Frag) (mg : Str → Option Value) (fs : Facts prog K mg ck sts) : Dk prog K mg ck f__law_kinds := by
  obtain ⟨fa, fd, hm, F⟩ := fs.fn 6 f__law_kinds (top 65) rfl rfl
  exact dk_hand dh_kinds hm F fun F k X W _ _ _ q tk ps => lines_err fun s z => by rfl
theorem hk_caught (K : PySem.W.Frag) (mg : Str → Option Value) (fs : Facts prog K mg ck sts) : Dk prog K mg ck f__law_caught := by
  obtain ⟨fa, fd, hm, F⟩ := fs.fn 7 f__law_caught (top 66) rfl rfl
  obtain ⟨fk, fdk, hmk, Fk⟩ := fs.fn 6 f__law_kinds (top 65) rfl rfl
  refine dk_hand dh_caught hm F fun F k X W eP eK em q tk ps => ?_
  have hot := hot_fnS (P := prog) Fk (fs.free "isinstance" (by decide +kernel)) shK
  have bnd := Fk.bindsN (ps := f__law_kinds.N.take f__law_kinds.ps) dh_kinds.bind
  subst eK em
  exact caught_okS (su := .nol) q tk ps shC hmk Fk.kp bnd fun p => eP ▸ hot X.w X.base k p
theorem allH : AllH prog ck sts defs sts := ⟨.inl dd__law_draws, .inl dd__law_more, .inl dd__law_take, .inl dd__law_one, .inl dd__law_limits_right, .inl dd__law_raise, .inr hk_kinds, .inr hk_caught, .inl dd__law_fields, .inl dd_law, trivial⟩
def loose0 : List Str := ["DrawnError", "ReasonError", "ArgumentError", "CheckError", "PaperError", "TooMany", "TextError", "LogError", "CommandError", "MAX_NUMBER", "MAX_LEVELS", "MAX_PART", "MAX_DIGITS", "MAX_STEPS", "MAX_TEXT", "MAX_LINES", "MAX_REACHED", "MAX_DEGREE", "MAX_HALVES", "MAX_RELATED", "MAX_NAMED", "MAX_LINKS", "MAX_CELLS", "MAX_TURNS", "MAX_CORNERS", "MAX_ROOTED", "MAX_SPANNED", "MAX_BEND", "MAX_PACKED", "MAX_GIVEN"]
def loose1 : List Str := ["MAX_RULED", "MAX_TRIED", "MAX_TERMS", "MAX_FREE", "MAX_PLACED", "MAX_TESTED", "MAX_OUTLINE", "MAX_CORNERED", "MAX_GRID", "MAX_WIDE", "MAX_FAREY", "MAX_CHAINED", "MAX_HEIGHT", "MAX_GROUP", "MAX_KEPT", "MAX_BODIES", "MAX_PIECED", "MAX_SIDED", "MAX_ENTRY", "MAX_TIMES", "MAX_SITES", "MAX_STOPS", "MAX_STOP", "MAX_PRIME", "MAX_MEMBERS", "MAX_REPEATED", "MAX_SOUGHT", "_law_draws", "_law_more", "_law_take"]
def loose2 : List Str := ["_law_one", "_law_limits_right", "_law_raise", "_law_kinds", "_law_caught", "_law_fields"]
def loose : List Str := loose0 ++ loose1 ++ loose2
abbrev RR : PySem.W.OpenRow := PySem.W.OpenLaw.row PySem.Challenge.rw_drawnwrought_k00_errors_and_limits
def fn : List He.DefD := List.zipWith dfn defs sts
abbrev hk : PySem.W.Hook := hookE 4 fn (partB prog ck)
def ob (s : PySem.W.SharedT) : Al := look1 4 fn (partB prog ck) (HandSHeadRun.getT s)
theorem ob_eq (s : PySem.W.SharedT) : ob s = hk.obs s.abs := look1_eq (HandSHeadRun.getT_eq s)
theorem run (w : World) : HandSHeadRun.RunEq RR (PySem.W.view RR.prog [68]) hk ob 4000 loose w := by
  intro os
  kernel_rfl
end My

/-! text M00 -/
set_option Elab.async false
set_option linter.all false
set_option maxRecDepth 100000
set_option maxHeartbeats 4000000
/-! k00: what is computed answers True at every script -/
namespace My
open PySem Ev Pl
def vals : List A := [.str "word", .str "", .str "form", .int 0, .int 17, .int (-3), .non, .tup [.str "a", .int 5], .str "a line", .bl true]
def bls (k : Nat) : List A := (List.range 7).map fun j => .bl (j == k)
def told (k : Nat) (a b : A) : A := if k == 5 then .tup [a, b] else .tup [a]
def cOk (k : Nat) (a b : A) : Bool := match callK pg 4000 9 7 [.int k, a, b] [] with
  | .ok (.ref 0) [.lst xs] => A.beqs xs (bls k)
  | _ => false
def fOk (k : Nat) (a b : A) : Bool := match callK pg 4000 9 8 [.int k, a, b] [] with
  | .ok x [] => A.beq x (told k a b)
  | _ => false
def rOk (x : A) : Bool := match dataOf [] x with
  | some d => (d.showable && !d.hasDict && Nat.ble d.depth 64 && lineOk d.shown.length) && SeqAt.shaped (.str d.shown)
  | none => false
def vk (k : Nat) : Bool := vals.all fun a => vals.all fun b => cOk k a b && fOk k a b
theorem vk0 : vk 0 = true := by decide +kernel
theorem vk1 : vk 1 = true := by decide +kernel
theorem vk2 : vk 2 = true := by decide +kernel
theorem vk3 : vk 3 = true := by decide +kernel
theorem vk4 : vk 4 = true := by decide +kernel
theorem vk5 : vk 5 = true := by decide +kernel
theorem vk6 : vk 6 = true := by decide +kernel
theorem vks : ∀ k, k < 7 → vk k = true
  | 0, _ => vk0
  | 1, _ => vk1
  | 2, _ => vk2
  | 3, _ => vk3
  | 4, _ => vk4
  | 5, _ => vk5
  | 6, _ => vk6
  | k + 7, h => absurd h (by omega)
theorem r5 : (vals.all fun a => vals.all fun b => rOk (.tup [a, b])) = true := by decide +kernel
theorem r1 : (vals.all fun a => rOk (.tup [a])) = true := by decide +kernel
theorem r_ok {k : Nat} {a b : A} (ha : a ∈ vals) (hb : b ∈ vals) : rOk (told k a b) = true := by
  unfold told
  split
  · exact List.all_eq_true.mp (List.all_eq_true.mp r5 a ha) b hb
  · exact List.all_eq_true.mp r1 a ha
theorem c_is {k : Nat} {a b : A} (e : cOk k a b = true) : callK pg 4000 9 7 [.int k, a, b] [] = .ok (.ref 0) [O.lst (bls k)] := by
  unfold cOk at e
  split at e
  · next xs q =>
    rw [A.beqs_is _ _ e] at q
    exact q
  · cases e
theorem f_is {k : Nat} {a b : A} (e : fOk k a b = true) : callK pg 4000 9 8 [.int k, a, b] [] = .ok (told k a b) [] := by
  unfold fOk at e
  split at e
  · next x q =>
    rw [A.beq_is _ _ e] at q
    exact q
  · cases e
theorem inb_v {a : A} (ha : a ∈ vals) : A.inb 0 a = true := (by decide +kernel : ∀ a ∈ vals, A.inb 0 a = true) a ha
theorem up_v {a : A} (ha : a ∈ vals) (n : Nat) : A.up n a = a := by
  simp only [vals, List.mem_cons, List.not_mem_nil, or_false] at ha
  rcases ha with rfl | rfl | rfl | rfl | rfl | rfl | rfl | rfl | rfl | rfl <;> rfl
theorem tds (x : Str) (h : Ho) : toD h 11 (.str x) = some (.str x) := rfl
theorem tdi (x : Int) (h : Ho) : toD h 11 (.int x) = some (.int x) := rfl
theorem tdb (x : Bool) (h : Ho) : toD h 11 (.bl x) = some (.bool x) := rfl
theorem tdn (h : Ho) : toD h 11 .non = some .none := rfl
theorem tdt (x : Str) (i : Int) (h : Ho) : toD h 11 (.tup [.str x, .int i]) = some (.tuple [.str x, .int i]) := rfl
theorem toD_v {a : A} (ha : a ∈ vals) (h : Ho) : toD h 11 a = toD [] 11 a := by
  simp only [vals, List.mem_cons, List.not_mem_nil, or_false] at ha
  rcases ha with rfl | rfl | rfl | rfl | rfl | rfl | rfl | rfl | rfl | rfl <;> simp only [tds, tdi, tdb, tdn, tdt]
theorem up_told {k : Nat} {a b : A} (ha : a ∈ vals) (hb : b ∈ vals) (n : Nat) : A.up n (told k a b) = told k a b := by
  unfold told
  split
  · show A.tup [A.up n a, A.up n b] = _
    rw [up_v ha, up_v hb]
  · show A.tup [A.up n a] = _
    rw [up_v ha]
theorem data_told {k : Nat} {a b : A} (ha : a ∈ vals) (hb : b ∈ vals) (h : Ho) : dataOf h (told k a b) = dataOf [] (told k a b) := by
  unfold told
  split
  · show (optMap (toD h 11) [a, b]).map _ = (optMap (toD [] 11) [a, b]).map _
    simp only [optMap, toD_v ha h, toD_v hb h]
  · show (optMap (toD h 11) [a]).map _ = (optMap (toD [] 11) [a]).map _
    simp only [optMap, toD_v ha h]
theorem repr_told {k : Nat} {a b : A} (ha : a ∈ vals) (hb : b ∈ vals) (e : rOk (told k a b) = true) (h : Ho) : ∃ s, SeqAt.shaped (.str s) = true ∧ bltA .repr [told k a b] h = .ok (.str s) h := by
  unfold rOk at e
  split at e
  · next d q =>
    obtain ⟨e, e2⟩ := Bool.and_eq_true_iff.mp e
    refine ⟨d.shown, e2, ?_⟩
    show (match dataOf h (told k a b) with
      | some d => if d.showable && !d.hasDict && Nat.ble d.depth 64 && lineOk d.shown.length then R.ok (A.str d.shown) h else .err
      | none => .err) = _
    rw [data_told ha hb h, q]
    dsimp only
    rw [if_pos e]
  · cases e
theorem limits : callK pg 4000 9 4 [] [] = .ok (.bl true) [] := by
  have : (match callK pg 4000 9 4 [] [] with
    | .ok (.bl true) [] => true
    | _ => false) = true := by decide +kernel
  revert this
  split
  · next e => exact fun _ => e
  · exact fun h => by cases h
theorem dr : Dr pg 1 2 3 := ⟨⟨_, _, rfl, rfl⟩, ⟨_, _, rfl, rfl⟩, ⟨_, _, rfl, rfl⟩⟩
/-! ### one turn of the law's loop -/
def cL : List S := [.par [5, 6] [.call 3 [.var 3, .var 1, .var 2], .call 3 [.var 3, .var 1, .var 2]], .ife (.val (.cmp .NotEq (.call 7 [.var 4, .var 5, .var 6]) (.comp (.cmp .Eq (.var 7) (.var 4)) (.nm 7) (.rg [.lit (.int 7)]) (.yes) [7]))) [.ret (.lit (.bl false))] [], .ife (.val (.cmp .NotEq (.blt .repr [.call 8 [.var 4, .var 5, .var 6]]) (.blt .repr [.ite (.val (.cmp .Eq (.var 4) (.lit (.int 5)))) (.tup [.var 5, .var 6]) (.tup [.var 5])]))) [.ret (.lit (.bl false))] []]
abbrev cC : Nat → List A → Ho → R A := callP (callK pg 4000 9)
def ho (ds ns : List Int) (p : Nat) (g : Ho) : Ho := .lst (nums ds) :: .lst (nums ns) :: .lst [.int p] :: .lst vals :: g
theorem at2 {ds ns : List Int} {p : Nat} {g : Ho} (hd : ∀ d ∈ ds, Dn d) (hl : ds.length ≤ 4000) (hp : p < 2 ^ 20) : At2 (ho ds ns p g) 0 2 ds p := ⟨rfl, rfl, by decide, hd, by omega, hp⟩
theorem drawn {s0 a4 a5 a6 a7 : Option A} {ds ns : List Int} {p : Nat} {g : Ho} (hd : ∀ d ∈ ds, Dn d) (hl : ds.length ≤ 4000) (hp : p < 2 ^ 20) : ∃ a ∈ vals, evE cC (.call 3 [.var 3, .var 1, .var 2]) [s0, some (.ref 0), some (.ref 2), some (.ref 3), a4, a5, a6, a7] (ho ds ns p g) = .ok a (ho ds ns (p + 1) g) := by
  obtain ⟨t, ht, e⟩ := one_ok (P := pg) (F := 4000) (n := 6) (q := 3) (xs := vals) dr (at2 (ns := ns) (g := g) hd hl hp) rfl (by decide) (by decide)
  refine ⟨vals[t], List.getElem_mem ht, ?_⟩
  have cl : cC 3 [.ref 3, .ref 0, .ref 2] (ho ds ns p g) = .ok (vals[t]) (ho ds ns (p + 1) g) := by
    show callP _ _ _ _ = _
    rw [callP_ref (by rfl)]
    exact e
  simp only [evE, evEs, List.getElem?_cons_succ, List.getElem?_cons_zero, bind_ok, cl]
theorem ups_bls (k n : Nat) : A.ups n (bls k) = bls k := rfl
theorem data_bls {k n : Nat} {h : Ho} (e : seqOf h n = some (bls k)) : dataOf h (.ref n) = some (PyData.list ((List.range 7).map fun j => PyData.bool (j == k))) := by
  show (match seqOf h n with
      | some xs => (optMap (toD h 11) xs).map PyData.list
      | none => none) = _
  rw [e]
  rfl
theorem eqv_bls : ∀ k, k < 7 → (SeqAt.shaped (PyData.list ((List.range 7).map fun j => PyData.bool (j == k))) && SeqAt.shaped (PyData.list ((List.range 7).map fun j => PyData.bool (j == k)))) = true ∧ PyData.eqv (PyData.list ((List.range 7).map fun j => PyData.bool (j == k))) (PyData.list ((List.range 7).map fun j => PyData.bool (j == k))) = true := by decide +kernel
theorem seq_at (h g : Ho) (xs : List A) : seqOf (h ++ .lst xs :: g) h.length = some xs := by
  unfold seqOf
  rw [List.getElem?_append_right (Nat.le_refl _), Nat.sub_self]
  rfl
theorem ne_str (s : Str) (h : Ho) (q : SeqAt.shaped (.str s) = true) (e : PyData.eqv (.str s) (.str s) = true) : cmpA .NotEq (.str s) (.str s) h = some false := by
  show (if (SeqAt.shaped (.str s) && SeqAt.shaped (.str s)) = true then some (PyData.eqv (.str s) (.str s)) else none).map _ = _
  rw [q, e]
  rfl
theorem comp_ok {s0 s1 s2 s3 a b a7 : Option A} (h : Ho) : ∀ k : Nat, k < 7 → evE cC (.comp (.cmp .Eq (.var 7) (.var 4)) (.nm 7) (.rg [.lit (.int 7)]) (.yes) [7]) [s0, s1, s2, s3, some (.int k), a, b, a7] h = .ok (.ref h.length) (h ++ [O.lst (bls k)])
  | 0, _ => rfl
  | 1, _ => rfl
  | 2, _ => rfl
  | 3, _ => rfl
  | 4, _ => rfl
  | 5, _ => rfl
  | 6, _ => rfl
  | k + 7, h => absurd h (by omega)
theorem ite_ok {s0 s1 s2 s3 a7 : Option A} {a b : A} (h : Ho) : ∀ k : Nat, k < 7 → evE cC (.ite (.val (.cmp .Eq (.var 4) (.lit (.int 5)))) (.tup [.var 5, .var 6]) (.tup [.var 5])) [s0, s1, s2, s3, some (.int k), some a, some b, a7] h = .ok (told k a b) h
  | 0, _ => rfl
  | 1, _ => rfl
  | 2, _ => rfl
  | 3, _ => rfl
  | 4, _ => rfl
  | 5, _ => rfl
  | 6, _ => rfl
  | k + 7, h => absurd h (by omega)
theorem turn {s0 a5 a6 a7 : Option A} {ds ns : List Int} {p k : Nat} {g : Ho} (hk : k < 7) (hd : ∀ d ∈ ds, Dn d) (hl : ds.length ≤ 4000) (hp : p < 100) : ∃ a5' a6' g', evSs pg 4000 cC cL [s0, some (.ref 0), some (.ref 2), some (.ref 3), some (.int k), a5, a6, a7] (ho ds ns p g) = .nx [s0, some (.ref 0), some (.ref 2), some (.ref 3), some (.int k), a5', a6', a7] (ho ds ns (p + 2) g') := by
  have n20 : (2 : Nat) ^ 20 = 1048576 := by decide
  obtain ⟨a, ha, ea⟩ := drawn (s0 := s0) (a4 := some (.int k)) (a5 := a5) (a6 := a6) (a7 := a7) (ns := ns) (p := p) (g := g) hd hl (by omega)
  obtain ⟨b, hb, eb⟩ := drawn (s0 := s0) (a4 := some (.int k)) (a5 := a5) (a6 := a6) (a7 := a7) (ns := ns) (p := p + 1) (g := g) hd hl (by omega)
  have al1 := List.all_eq_true.mp (List.all_eq_true.mp (vks k hk) a ha) b hb
  simp only [Bool.and_eq_true] at al1
  obtain ⟨c1, f1⟩ := al1
  have r1 := r_ok (k := k) ha hb
  generalize hh : ho ds ns (p + 2) g = h2 at *
  refine ⟨some a, some b, (g ++ [O.lst (bls k)]) ++ [O.lst (bls k)], ?_⟩
  have h4e : ho ds ns (p + 2) ((g ++ [O.lst (bls k)]) ++ [O.lst (bls k)]) = (h2 ++ [O.lst (bls k)]) ++ [O.lst (bls k)] := by
    rw [← hh]
    rfl
  rw [h4e]
  have inb : A.inbs 0 [.int k, a, b] = true := by
    show (true && (A.inb 0 a && (A.inb 0 b && true))) = true
    rw [inb_v ha, inb_v hb]
    rfl
  have e1 : evS pg 4000 cC (.par [5, 6] [.call 3 [.var 3, .var 1, .var 2], .call 3 [.var 3, .var 1, .var 2]]) [s0, some (.ref 0), some (.ref 2), some (.ref 3), some (.int k), a5, a6, a7] (ho ds ns p g) = .nx [s0, some (.ref 0), some (.ref 2), some (.ref 3), some (.int k), some a, some b, a7] h2 := by
    simp only [evS, evEs, ea, bind_ok, eb, then_ok, setsP, List.set_cons_succ, List.set_cons_zero]
  have cc : cC 7 [.int k, a, b] h2 = .ok (.ref h2.length) (h2 ++ [O.lst (bls k)]) := by
    show callP _ _ _ _ = _
    unfold callP
    rw [if_pos inb, c_is c1]
    rfl
  have cf : cC 8 [.int k, a, b] ((h2 ++ [O.lst (bls k)]) ++ [O.lst (bls k)]) = .ok (told k a b) ((h2 ++ [O.lst (bls k)]) ++ [O.lst (bls k)]) := by
    show callP _ _ _ _ = _
    unfold callP
    rw [if_pos inb, f_is f1]
    show R.ok (A.up _ (told k a b)) (_ ++ []) = _
    rw [up_told ha hb, List.append_nil]
  obtain ⟨s, sh, es⟩ := repr_told ha hb r1 ((h2 ++ [O.lst (bls k)]) ++ [O.lst (bls k)])
  have d1 : dataOf ((h2 ++ [O.lst (bls k)]) ++ [O.lst (bls k)]) (.ref h2.length) = _ := data_bls (k := k) (by
    rw [List.append_assoc]
    exact seq_at h2 [O.lst (bls k)] (bls k))
  have d2 : dataOf ((h2 ++ [O.lst (bls k)]) ++ [O.lst (bls k)]) (.ref (h2 ++ [O.lst (bls k)]).length) = _ := data_bls (k := k) (seq_at (h2 ++ [O.lst (bls k)]) [] (bls k))
  obtain ⟨v1, v2⟩ := eqv_bls k hk
  have ne : cmpA .NotEq (.ref h2.length) (.ref (h2 ++ [O.lst (bls k)]).length) ((h2 ++ [O.lst (bls k)]) ++ [O.lst (bls k)]) = some false := by
    show (eqA _ _ _).map _ = _
    unfold eqA
    rw [d1, d2]
    dsimp only
    rw [if_pos v1, v2]
    rfl
  have e2 : evS pg 4000 cC (.ife (.val (.cmp .NotEq (.call 7 [.var 4, .var 5, .var 6]) (.comp (.cmp .Eq (.var 7) (.var 4)) (.nm 7) (.rg [.lit (.int 7)]) (.yes) [7]))) [.ret (.lit (.bl false))] []) [s0, some (.ref 0), some (.ref 2), some (.ref 3), some (.int k), some a, some b, a7] h2 = .nx [s0, some (.ref 0), some (.ref 2), some (.ref 3), some (.int k), some a, some b, a7] ((h2 ++ [O.lst (bls k)]) ++ [O.lst (bls k)]) := by
    have co := comp_ok (s0 := s0) (s1 := some (.ref 0)) (s2 := some (.ref 2)) (s3 := some (.ref 3)) (a := some a) (b := some b) (a7 := a7) (h2 ++ [O.lst (bls k)]) k hk
    have ca : evE cC (.call 7 [.var 4, .var 5, .var 6]) [s0, some (.ref 0), some (.ref 2), some (.ref 3), some (.int k), some a, some b, a7] h2 = .ok (.ref h2.length) (h2 ++ [O.lst (bls k)]) := by
      simp only [evE, evEs, List.getElem?_cons_succ, List.getElem?_cons_zero, bind_ok, cc]
    have cm : evE cC (.cmp .NotEq (.call 7 [.var 4, .var 5, .var 6]) (.comp (.cmp .Eq (.var 7) (.var 4)) (.nm 7) (.rg [.lit (.int 7)]) (.yes) [7])) [s0, some (.ref 0), some (.ref 2), some (.ref 3), some (.int k), some a, some b, a7] h2 = .ok (.bl false) ((h2 ++ [O.lst (bls k)]) ++ [O.lst (bls k)]) := by
      show (evE cC _ _ _).bind _ = _
      rw [ca, bind_ok]
      show (evE cC _ _ _).bind _ = _
      rw [co, bind_ok, ne]
      rfl
    show (R.bind (evE cC _ _ _) _).then _ _ = _
    rw [cm]
    rfl
  have e3 : evS pg 4000 cC (.ife (.val (.cmp .NotEq (.blt .repr [.call 8 [.var 4, .var 5, .var 6]]) (.blt .repr [.ite (.val (.cmp .Eq (.var 4) (.lit (.int 5)))) (.tup [.var 5, .var 6]) (.tup [.var 5])]))) [.ret (.lit (.bl false))] []) [s0, some (.ref 0), some (.ref 2), some (.ref 3), some (.int k), some a, some b, a7] ((h2 ++ [O.lst (bls k)]) ++ [O.lst (bls k)]) = .nx [s0, some (.ref 0), some (.ref 2), some (.ref 3), some (.int k), some a, some b, a7] ((h2 ++ [O.lst (bls k)]) ++ [O.lst (bls k)]) := by
    have it := ite_ok (s0 := s0) (s1 := some (.ref 0)) (s2 := some (.ref 2)) (s3 := some (.ref 3)) (a := a) (b := b) (a7 := a7) ((h2 ++ [O.lst (bls k)]) ++ [O.lst (bls k)]) k hk
    have r1 : evE cC (.blt .repr [.call 8 [.var 4, .var 5, .var 6]]) [s0, some (.ref 0), some (.ref 2), some (.ref 3), some (.int k), some a, some b, a7] ((h2 ++ [O.lst (bls k)]) ++ [O.lst (bls k)]) = .ok (.str s) ((h2 ++ [O.lst (bls k)]) ++ [O.lst (bls k)]) := by
      simp only [evE, evEs, List.getElem?_cons_succ, List.getElem?_cons_zero, bind_ok, cf, es]
    have r2 : evE cC (.blt .repr [.ite (.val (.cmp .Eq (.var 4) (.lit (.int 5)))) (.tup [.var 5, .var 6]) (.tup [.var 5])]) [s0, some (.ref 0), some (.ref 2), some (.ref 3), some (.int k), some a, some b, a7] ((h2 ++ [O.lst (bls k)]) ++ [O.lst (bls k)]) = .ok (.str s) ((h2 ++ [O.lst (bls k)]) ++ [O.lst (bls k)]) := by
      show (R.bind (R.bind (evE cC _ _ _) _) _) = _
      rw [it]
      exact es
    have cm : evE cC (.cmp .NotEq (.blt .repr [.call 8 [.var 4, .var 5, .var 6]]) (.blt .repr [.ite (.val (.cmp .Eq (.var 4) (.lit (.int 5)))) (.tup [.var 5, .var 6]) (.tup [.var 5])])) [s0, some (.ref 0), some (.ref 2), some (.ref 3), some (.int k), some a, some b, a7] ((h2 ++ [O.lst (bls k)]) ++ [O.lst (bls k)]) = .ok (.bl false) ((h2 ++ [O.lst (bls k)]) ++ [O.lst (bls k)]) := by
      show (evE cC _ _ _).bind _ = _
      rw [r1, bind_ok]
      show (evE cC _ _ _).bind _ = _
      rw [r2, bind_ok, ne_str s _ sh (by simp [PyData.eqv])]
      rfl
    show (R.bind (evE cC _ _ _) _).then _ _ = _
    rw [cm]
    rfl
  unfold cL
  simp only [evSs, e1, nx_then, e2, e3]
/-- all turns from k on -/
theorem turns {s0 a7 : Option A} {ds ns : List Int} (hd : ∀ d ∈ ds, Dn d) (hl : ds.length ≤ 4000) : ∀ (ks : List Nat) (a4 a5 a6 : Option A) (p : Nat) (g : Ho), (∀ k ∈ ks, k < 7) → p + 2 * ks.length ≤ 90 → ∃ a4' a5' a6' p' g', forL [] (.nm 4) (fun σ h => evSs pg 4000 cC cL σ h) (ks.map fun (k : Nat) => A.int k) [s0, some (.ref 0), some (.ref 2), some (.ref 3), a4, a5, a6, a7] (ho ds ns p g) = .nx [s0, some (.ref 0), some (.ref 2), some (.ref 3), a4', a5', a6', a7] (ho ds ns p' g')
  | [], a4, a5, a6, p, g, _, _ => ⟨a4, a5, a6, p, g, rfl⟩
  | k :: ks, a4, a5, a6, p, g, hk, hp => by
    have hlk : (k :: ks).length = ks.length + 1 := rfl
    obtain ⟨b5, b6, g1, e1⟩ := turn (s0 := s0) (a5 := a5) (a6 := a6) (a7 := a7) (ns := ns) (p := p) (g := g) (hk k List.mem_cons_self) hd hl (by omega)
    obtain ⟨c4, c5, c6, p2, g2, e2⟩ := turns hd hl ks (some (.int k)) b5 b6 (p + 2) g1 (fun x hx => hk x (List.mem_cons_of_mem _ hx)) (by omega)
    refine ⟨c4, c5, c6, p2, g2, ?_⟩
    show forL [] (.nm 4) _ (.int k :: (ks.map fun (k : Nat) => A.int k)) _ _ = _
    unfold forL
    rw [if_pos still0]
    simp only [Tg.put, List.set_cons_succ, List.set_cons_zero, e1]
    exact e2
theorem main (ns : List Int) (hn : ns.length ≤ 63) : ∃ h', callK pg 4000 10 9 [.lis (ns.map A.int)] [] = .ok (.bl true) h' := by
  obtain ⟨ds, hd, hl, ed⟩ := draws_ok (P := pg) (F := 4000) (iD := 0) (n := 8) (ns := ns) rfl rfl hn
  obtain ⟨a4, a5, a6, p, g, el⟩ := turns (s0 := some (.lis (nums ns))) (a7 := none) (ns := ns) hd hl [0, 1, 2, 3, 4, 5, 6] none none none 0 [] (by decide) (by decide)
  refine ⟨(ho ds ns p g).take 0, ?_⟩
  have d0 : cC 0 [.lis (nums ns)] [] = .ok (.ref 0) [.lst (nums ds), .lst (nums ns)] := by
    show callP _ _ _ _ = _
    unfold callP
    split
    · rw [ed]
      show R.ok _ ([] ++ [.lst (A.ups 0 (nums ds)), .lst (A.ups 0 (nums ns))]) = _
      have u : ∀ xs : List Int, A.ups 0 (nums xs) = nums xs := fun xs => by
        induction xs with
        | nil => rfl
        | cons x xs ih =>
          show A.int x :: A.ups 0 (nums xs) = _
          rw [ih]
          rfl
      rw [u, u]
      rfl
    · exact ed
  have l0 : cC 4 [] (ho ds ns 0 []).dropLast = .ok (.bl true) (ho ds ns 0 []).dropLast := by
    show callP _ _ _ _ = _
    unfold callP
    rw [if_pos (by rfl), limits]
    show R.ok _ (_ ++ []) = _
    rw [List.append_nil]
    rfl
  have run : evSs pg 4000 cC f_law.body [some (.lis (nums ns)), none, none, none, none, none, none, none] [] = .rt (.bl true) (ho ds ns p g) := by
    have q1 : evS pg 4000 cC (.asg (.nm 1) (.call 0 [.var 0])) [some (.lis (nums ns)), none, none, none, none, none, none, none] [] = .nx [some (.lis (nums ns)), some (.ref 0), none, none, none, none, none, none] [.lst (nums ds), .lst (nums ns)] := by
      simp only [evS, evE, evEs, List.getElem?_cons_zero, bind_ok, d0, then_ok, Tg.put, List.set_cons_succ, List.set_cons_zero]
    have q2 : evS pg 4000 cC (.asg (.nm 2) (.lst [.lit (.int 0)])) [some (.lis (nums ns)), some (.ref 0), none, none, none, none, none, none] [.lst (nums ds), .lst (nums ns)] = .nx [some (.lis (nums ns)), some (.ref 0), some (.ref 2), none, none, none, none, none] (ho ds ns 0 []).dropLast := rfl
    have q3 : evS pg 4000 cC (.ife (.not (.val (.call 4 []))) [.ret (.lit (.bl false))] []) [some (.lis (nums ns)), some (.ref 0), some (.ref 2), none, none, none, none, none] (ho ds ns 0 []).dropLast = .nx [some (.lis (nums ns)), some (.ref 0), some (.ref 2), none, none, none, none, none] (ho ds ns 0 []).dropLast := by
      simp only [evS, evT, evE, evEs, bind_ok, l0, truth, give_some, then_ok]
      rfl
    have q4 : evS pg 4000 cC (.asg (.nm 3) (.lst [.lit (.str "word"), .lit (.str ""), .lit (.str "form"), .lit (.int 0), .lit (.int 17), .neg (.lit (.int 3)), .lit .non, .tup [.lit (.str "a"), .lit (.int 5)], .lit (.str "a line"), .lit (.bl true)])) [some (.lis (nums ns)), some (.ref 0), some (.ref 2), none, none, none, none, none] (ho ds ns 0 []).dropLast = .nx [some (.lis (nums ns)), some (.ref 0), some (.ref 2), some (.ref 3), none, none, none, none] (ho ds ns 0 []) := rfl
    have q5 : evS pg 4000 cC (.for_ (.nm 4) (.rg [.lit (.int 7)]) cL) [some (.lis (nums ns)), some (.ref 0), some (.ref 2), some (.ref 3), none, none, none, none] (ho ds ns 0 []) = .nx [some (.lis (nums ns)), some (.ref 0), some (.ref 2), some (.ref 3), a4, a5, a6, none] (ho ds ns p g) := by
      have r7 : rng 0 7 = [0, 1, 2, 3, 4, 5, 6].map fun (k : Nat) => A.int k := rfl
      simp only [evS, evI, evE, evEs, bind_ok, walkRg, show rngOk 7 = true by decide, if_true, give_some, then_ok, r7, el]
    show evSs pg 4000 cC [.asg (.nm 1) (.call 0 [.var 0]), .asg (.nm 2) (.lst [.lit (.int 0)]), .ife (.not (.val (.call 4 []))) [.ret (.lit (.bl false))] [], .asg (.nm 3) (.lst [.lit (.str "word"), .lit (.str ""), .lit (.str "form"), .lit (.int 0), .lit (.int 17), .neg (.lit (.int 3)), .lit .non, .tup [.lit (.str "a"), .lit (.int 5)], .lit (.str "a line"), .lit (.bl true)]), .for_ (.nm 4) (.rg [.lit (.int 7)]) cL, .ret (.lit (.bl true))] _ _ = _
    simp only [evSs, q1, nx_then, q2, q3, q4, q5]
    simp only [evS, evE, then_ok, rt_then]
  have fin : trim ([] : Ho).length (A.inb ([] : Ho).length (.bl true)) (ho ds ns p g) (fun h' => R.ok (A.bl true) h') = R.ok (A.bl true) ((ho ds ns p g).take 0) := rfl
  rw [← fin]
  unfold callK
  show (if ([A.lis (nums ns)].length == 1) = true then (match evSs pg 4000 cC f_law.body [some (.lis (nums ns)), none, none, none, none, none, none, none] [] with
        | .rt a h' => trim ([] : Ho).length (A.inb ([] : Ho).length a) h' fun h' => R.ok a h'
        | .nx _ h' => trim ([] : Ho).length true h' fun h' => .ok .non h'
        | .ex x _ h' => trim ([] : Ho).length (A.inbs ([] : Ho).length (x.fs.map fun p => p.2)) h' fun h' => .exc x h'
        | _ => .err) else R.err) = _
  rw [if_pos (by rfl), run]
end My

/-! text E00 -/
set_option Elab.async false
set_option linter.all false
set_option maxRecDepth 100000
set_option maxHeartbeats 0
namespace My
open PySem PySem.Spec PyProof.Rows L2 Ev
theorem law_at : pg.defs[9]? = some f_law := rfl
end My
open PySem PySem.Spec PyProof.Rows L2 PySem.W
theorem PySem.Challenge.cw_drawnwrought_k00_errors_and_limits_holds : PySem.Challenge.rw_drawnwrought_k00_errors_and_limits.Holds := by
  w_on; o_law
  refine HandSHeadRun.head_any (r := OpenLaw.row PySem.Challenge.rw_drawnwrought_k00_errors_and_limits) (q := view (OpenLaw.row PySem.Challenge.rw_drawnwrought_k00_errors_and_limits).prog [68]) (H := My.hk) (ob := My.ob) (M := 4000) (loose := My.loose) (d := HandSHeadRun.topDef PySem.Challenge.pw_drawnwrought_k00_errors_and_limits 68) (kwd := []) My.ob_eq (by kernel_rfl) (fun s => by kernel_rfl) My.run (by kernel_rfl) (by kernel_rfl) (by kernel_rfl) (by rfl) (by first | assumption | decide +kernel) (by decide +kernel) ⟨rfl, rfl, rfl, rfl, rfl, by decide +kernel⟩ ?hw ?hc
  case hw => w_witness2
  case hc =>
    refine Ev.walk_ev (l := PySem.Challenge.rw_drawnwrought_k00_errors_and_limits) (n := 63) (k := 9) (F := 4000) rfl (by decide) (by kernel_rfl) ⟨rfl, by decide, by decide⟩ ?_
    intro w mg h Y G
    obtain ⟨K, KX, sd, b⟩ := Y
    exact ⟨K, My.ck, 9, My.f_law, KX, Ev.wk_ofH KX G My.allH sd b, My.law_at, rfl, rfl, My.main⟩

