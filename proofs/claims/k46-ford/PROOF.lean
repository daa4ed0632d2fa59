import PyProof.Rows.All
import Wide.All
import OpenK.AllK
import Wide.FinOn
import HandS.Base
import HandS.Call
import HandS.List
import HandS.Wide
import HandS.Exc
import HandS.Comp
import HandS.Deep
import HandS.Zip
import HandS.TupAny
import HandS.Flow
import HandS.TupMul
import HandS.IsInst
import HandS.More
import HandS.Style
import HandS.ExcInit
import HandS.ExcSuper
import KE.KExcSuper
import KE.KSuper
import HandS.TryMany
import HandS.ExcField
import HandS.ExcIs
import KE.KExcIs
import HandS.Ends
import HandS.Defaults
import HandS.HeadEnd
import HandS.HeadHook1
import HandS.HeadHook2
import HandS.Words
import KE.KStateDown
import HandS.Head0
import HandS.Head1
import HandS.Head2
import PySem.Challenge.RW_drawnwrought_k46_whole_ford_circles
/-! text Fw1 -/
set_option Elab.async false
set_option linter.all false
set_option maxRecDepth 100000
set_option maxHeartbeats 4000000
/-! Ev: a small language for what the laws' texts use, and what it computes, over values and a list of objects. -/
namespace Ev
open PySem

/-- a value: tuples are values, lists stand in the row of objects; lis: a list that is only read (the script); fn i: the i-th def of the text -/
inductive A where
  | non | bl (b : Bool) | int (i : Int) | str (x : Str) | tup (xs : List A) | lis (xs : List A) | ref (n : Nat) | fn (i : Nat)

/-- an object: a list -/
inductive O where
  | lst (xs : List A)

abbrev Ho := List O
abbrev Sl := List (Option A)
/-- an exception: its class's number, its attributes -/
structure Xv where
  cls : Nat
  fs : List (Str × A)
inductive R (α : Type) where
  | ok (a : α) (h : Ho) | exc (x : Xv) (h : Ho) | err

def R.bind {α β : Type} (r : R α) (f : α → Ho → R β) : R β := match r with
  | .ok a h => f a h
  | .exc x h => .exc x h
  | .err => .err
def give {α : Type} (o : Option α) (h : Ho) : R α := match o with
  | some a => .ok a h
  | none => .err

/-! ### values -/
mutual
def A.beq : A → A → Bool
  | .non, .non => true
  | .bl a, .bl b => a == b
  | .int a, .int b => a == b
  | .str a, .str b => a == b
  | .tup a, .tup b => A.beqs a b
  | .lis a, .lis b => A.beqs a b
  | .ref a, .ref b => a == b
  | .fn a, .fn b => a == b
  | _, _ => false
def A.beqs : List A → List A → Bool
  | [], [] => true
  | a :: r, b :: s => A.beq a b && A.beqs r s
  | _, _ => false
end
mutual
/-- every object that it names stands below n -/
def A.inb (n : Nat) : A → Bool
  | .tup xs => A.inbs n xs
  | .lis xs => A.inbs n xs
  | .ref m => decide (m < n)
  | _ => true
def A.inbs (n : Nat) : List A → Bool
  | [] => true
  | x :: r => A.inb n x && A.inbs n r
end
def O.items : O → List A
  | .lst xs => xs
/-- the items of a list -/
def seqOf (h : Ho) (n : Nat) : Option (List A) := (h[n]?).map O.items
/-- behind a call: what was made there goes, if nothing that stays names it -/
def trim {α : Type} (n : Nat) (ok : Bool) (h : Ho) (k : Ho → α) : α :=
  if h.length ≤ n then k h else if ok && (h.take n).all (fun o => A.inbs n o.items) then k (h.take n) else k h

def optMap {α β : Type} (f : α → Option β) : List α → Option (List β)
  | [] => some []
  | x :: r => match f x with
    | some y => match optMap f r with
      | some ys => some (y :: ys)
      | none => none
    | none => none
/-- a value as data; n bounds the depth -/
def toD (h : Ho) : Nat → A → Option PyData
  | 0, _ => none
  | n + 1, a => match a with
    | .non => some .none
    | .bl b => some (.bool b)
    | .int i => some (.int i)
    | .str x => some (.str x)
    | .tup xs => (optMap (toD h n) xs).map .tuple
    | .lis xs => (optMap (toD h n) xs).map .list
    | .ref m => match seqOf h m with
      | some xs => (optMap (toD h n) xs).map .list
      | none => none
    | .fn _ => none
def dataOf (h : Ho) (a : A) : Option PyData := toD h 12 a

def lineOk (n : Nat) : Bool := Nat.ble n 16777216
def mulOk (i j : Int) : Bool := Nat.blt (i.natAbs.log2 + j.natAbs.log2) 1000000
def divOk (j : Int) : Bool := j != 0 && Nat.blt j.natAbs.log2 9000
/-- so often may a row of n items be repeated -/
def repOk (n : Nat) (j : Int) : Bool := n != 0 && Nat.ble n 1000 && decide (2 ≤ j) && decide (j ≤ 1000)
def powOk (i j : Int) : Bool := decide (0 ≤ j) && decide (j ≤ 1000000) && Nat.blt i.natAbs (2 ^ 64)

def newL (xs : List A) (h : Ho) : R A := .ok (.ref h.length) (h ++ [.lst xs])

def binA (op : Operator) (x y : A) (h : Ho) : R A := match op with
  | .Add => match x, y with
    | .int i, .int j => .ok (.int (i + j)) h
    | .tup a, .tup b => if lineOk (a.length + b.length) then .ok (.tup (a ++ b)) h else .err
    | .ref m, .ref n => match h[m]?, h[n]? with
      | some (.lst a), some (.lst b) => if lineOk (a.length + b.length) then newL (a ++ b) h else .err
      | _, _ => .err
    | .str a, .str b => if lineOk (a.length + b.length) then .ok (.str (a ++ b)) h else .err
    | _, _ => .err
  | .Sub => match x, y with
    | .int i, .int j => .ok (.int (i - j)) h
    | _, _ => .err
  | .Mult => match x, y with
    | .int i, .int j => if mulOk i j then .ok (.int (i * j)) h else .err
    | .tup a, .int j => if repOk a.length j then .ok (.tup (List.replicate j.toNat a).flatten) h else .err
    | .ref n, .int j => match h[n]? with
      | some (.lst a) => if repOk a.length j then newL (List.replicate j.toNat a).flatten h else .err
      | none => .err
    | _, _ => .err
  | .FloorDiv => match x, y with
    | .int i, .int j => if divOk j then .ok (.int (i.fdiv j)) h else .err
    | _, _ => .err
  | .Mod => match x, y with
    | .int i, .int j => if j != 0 then .ok (.int (i.fmod j)) h else .err
    | _, _ => .err
  | .Pow => match x, y with
    | .int i, .int j => if powOk i j then .ok (.int (i ^ j.toNat)) h else .err
    | _, _ => .err
  | _ => .err

def negA : A → Option A
  | .int i => some (.int (-i))
  | _ => none

/-- a value's truth -/
def truth (x : A) (h : Ho) : Option Bool := match x with
  | .non => some false
  | .bl b => some b
  | .int i => some (i != 0)
  | .str s => if lineOk s.length then some ((s.length : Int) != 0) else none
  | .tup xs => some (!xs.isEmpty)
  | .lis xs => some (!xs.isEmpty)
  | .ref n => (seqOf h n).map fun xs => !xs.isEmpty
  | .fn _ => none

def eqD (x y : A) (h : Ho) : Option Bool := match dataOf h x, dataOf h y with
  | some d, some e => if SeqAt.shaped d && SeqAt.shaped e then some (PyData.eqv d e) else none
  | _, _ => none
/-- two ints, two texts -/
def eqS : A → A → Option Bool
  | .int i, .int j => some (i == j)
  | .str a, .str b => some (a == b)
  | _, _ => none
def eqA (x y : A) (h : Ho) : Option Bool := match eqS x y with
  | some k => some k
  | none => eqD x y h
/-- x in a list, a tuple -/
def inA (x y : A) (h : Ho) : Option Bool := match dataOf h x, dataOf h y with
  | some d, some (.tuple ds) => if SeqAt.shaped d && SeqAt.shaped (.tuple ds) then some (ds.any fun z => PyData.eqv z d) else none
  | some d, some (.list ds) => if SeqAt.shaped d && SeqAt.shaped (.list ds) then some (ds.any fun z => PyData.eqv z d) else none
  | _, _ => none
def isNon : A → Bool
  | .non => true
  | _ => false
def cmpA (op : CmpOp) (x y : A) (h : Ho) : Option Bool := match op with
  | .Lt => match x, y with
    | .int i, .int j => some (decide (i < j))
    | _, _ => none
  | .LtE => match x, y with
    | .int i, .int j => some (decide (i ≤ j))
    | _, _ => none
  | .Gt => match x, y with
    | .int i, .int j => some (decide (j < i))
    | _, _ => none
  | .GtE => match x, y with
    | .int i, .int j => some (decide (j ≤ i))
    | _, _ => none
  | .Eq => eqA x y h
  | .NotEq => (eqA x y h).map (!·)
  | .Is => match y with
    | .non => some (isNon x)
    | _ => none
  | .IsNot => match y with
    | .non => some (!isNon x)
    | _ => none
  | .In => inA x y h
  | .NotIn => (inA x y h).map (!·)

/-- the place of an index -/
def idx (n : Nat) (i : Int) : Option Nat := if 0 ≤ i then (if i < n then some i.toNat else none) else if -(n : Int) ≤ i then some (i + n).toNat else none
def subA (x i : A) (h : Ho) : Option A := match i with
  | .int k => match x with
    | .tup xs => (idx xs.length k).bind fun j => xs[j]?
    | .lis xs => (idx xs.length k).bind fun j => xs[j]?
    | .ref n => (seqOf h n).bind fun xs => (idx xs.length k).bind fun j => xs[j]?
    | .str s => if lineOk s.length then (idx s.cps.toList.length k).bind fun j => (s.cps.toList[j]?).map fun c => .str ⟨#[c]⟩ else none
    | _ => none
  | _ => none
def part : A → Option (Option Int)
  | .non => some none
  | .int i => some (some i)
  | _ => none
def clipI (n d : Nat) : Option Int → Nat
  | none => d
  | some i => if i < 0 then (i + (n : Int)).toNat else min i.toNat n
def cut {α : Type} (xs : List α) (lo hi : Option Int) : List α := (xs.drop (clipI xs.length 0 lo)).take (clipI xs.length xs.length hi - clipI xs.length 0 lo)
def slcA (x : A) (l u : Option Int) (h : Ho) : R A := match x with
  | .tup xs => .ok (.tup (cut xs l u)) h
  | .lis xs => newL (cut xs l u) h
  | .ref n => match seqOf h n with
    | some xs => newL (cut xs l u) h
    | none => .err
  | _ => .err

/-- the built-ins that the texts call -/
inductive Bl where
  | len | abs | int | bool | max | min | sum | any | all | tuple | list | isi (T : String) | repr
def isiA (T : String) : A → Option Bool
  | .non => some false
  | .bl _ => some (T == "bool" || T == "int")
  | .int _ => some (T == "int")
  | .str _ => some (T == "str")
  | .tup _ => some (T == "tuple")
  | .lis _ => some (T == "list")
  | .ref _ => some (T == "list")
  | .fn _ => none
def intsOf : List A → Option (List Int)
  | [] => some []
  | .int i :: r => (intsOf r).map (i :: ·)
  | _ :: _ => none
def blsOf : List A → Option (List Bool)
  | [] => some []
  | .bl i :: r => (blsOf r).map (i :: ·)
  | _ :: _ => none
def least : Int → List Int → Int
  | m, [] => m
  | m, x :: r => least (if x < m then x else m) r
def most : Int → List Int → Int
  | m, [] => m
  | m, x :: r => most (if m < x then x else m) r
def bltA (f : Bl) (xs : List A) (h : Ho) : R A := match f with
  | .len => match xs with
    | [.tup ys] => .ok (.int ys.length) h
    | [.lis ys] => .ok (.int ys.length) h
    | [.ref n] => match seqOf h n with
      | some ys => .ok (.int ys.length) h
      | none => .err
    | [.str s] => if lineOk s.length then .ok (.int s.length) h else .err
    | _ => .err
  | .abs => match xs with
    | [.int i] => .ok (.int (if i < 0 then -i else i)) h
    | _ => .err
  | .int => match xs with
    | [.int i] => .ok (.int i) h
    | [.bl b] => .ok (.int (if b then 1 else 0)) h
    | _ => .err
  | .bool => match xs with
    | [.int i] => .ok (.bl (i != 0)) h
    | [.bl b] => .ok (.bl b) h
    | _ => .err
  | .max => match xs with
    | [.int i, .int j] => .ok (.int (if j > i then j else i)) h
    | [.ref n] => match (seqOf h n).bind intsOf with
      | some (i :: r) => .ok (.int (most i r)) h
      | _ => .err
    | _ => .err
  | .min => match xs with
    | [.int i, .int j] => .ok (.int (if j < i then j else i)) h
    | [.ref n] => match (seqOf h n).bind intsOf with
      | some (i :: r) => .ok (.int (least i r)) h
      | _ => .err
    | _ => .err
  | .sum => match xs with
    | [.ref n] => match (seqOf h n).bind intsOf with
      | some is => .ok (.int is.sum) h
      | none => .err
    | _ => .err
  | .any => match xs with
    | [.ref n] => match (seqOf h n).bind blsOf with
      | some bs => .ok (.bl (bs.any id)) h
      | none => .err
    | _ => .err
  | .all => match xs with
    | [.ref n] => match (seqOf h n).bind blsOf with
      | some bs => .ok (.bl (bs.all id)) h
      | none => .err
    | _ => .err
  | .tuple => match xs with
    | [.tup ys] => .ok (.tup ys) h
    | [.ref n] => match seqOf h n with
      | some ys => .ok (.tup ys) h
      | none => .err
    | _ => .err
  | .list => match xs with
    | [.tup ys] => newL ys h
    | [.ref n] => match seqOf h n with
      | some ys => newL ys h
      | none => .err
    | _ => .err
  | .isi T => match xs with
    | [x] => match isiA T x with
      | some b => .ok (.bl b) h
      | none => .err
    | _ => .err
  | .repr => match xs with
    | [x] => match dataOf h x with
      | some d => if d.showable && !d.hasDict && Nat.ble d.depth 64 && lineOk d.shown.length then .ok (.str d.shown) h else .err
      | none => .err
    | _ => .err

/-- the methods that the texts call -/
inductive Mt where
  | append | insert | pop | extend
def setL (n : Nat) (xs : List A) (h : Ho) : Ho := h.set n (.lst xs)
def mthA (m : Mt) (o : A) (xs : List A) (h : Ho) : R A := match o with
  | .ref n => match h[n]? with
    | some (.lst ys) => match m with
      | .append => match xs with
        | [y] => if lineOk (ys.length + 1) then .ok .non (setL n (ys ++ [y]) h) else .err
        | _ => .err
      | .insert => match xs with
        | [.int i, y] => if lineOk (ys.length + 1) && decide (0 ≤ i) && decide (i < 2 ^ 63) then .ok .non (setL n (ys.take i.toNat ++ [y] ++ ys.drop i.toNat) h) else .err
        | _ => .err
      | .pop => match xs with
        | [] => match ys[ys.length - 1]? with
          | some y => .ok y (setL n ys.dropLast h)
          | none => .err
        | _ => .err
      | .extend => match xs with
        | [.ref k] => match h[k]? with
          | some (.lst zs) => if n != k && lineOk (ys.length + zs.length) then .ok .non (setL n (ys ++ zs) h) else .err
          | _ => .err
        | _ => .err
    | _ => .err
  | _ => .err

/-! ### the language -/
/-- a target of an assignment or a loop -/
inductive Tg where
  | nm (i : Nat) | tp (gs : List Tg)
mutual
inductive E where
  | var (i : Nat) | lit (a : A) | glo (x : Str) (a : A)
  | neg (a : E) | not (a : E) | bin (op : Operator) (a b : E)
  | and (a b : E) | or (a b : E) | ite (c : T) (a b : E)
  | cmp (op : CmpOp) (a b : E) | chn (op op' : CmpOp) (a b c : E)
  | tup (es : List E) | lst (es : List E)
  | sub (a i : E) | slc (a lo hi : E) | rev (a : E)
  | call (f : Nat) (es : List E) | cval (f : E) (es : List E) | blt (f : Bl) (es : List E) | isi (T : String) (e : E) | mth (m : Mt) (o : E) (es : List E)
  | comp (elt : E) (g : Tg) (it : I) (c : T) (own : List Nat)
/-- a test -/
inductive T where
  | yes | val (e : E) | and (a b : T) | or (a b : T) | not (a : T)
/-- what is walked -/
inductive I where
  | sq (e : E) | rg (es : List E) | zp (a b : E) | en (a : E)
end

mutual
def Tg.put : Tg → A → Sl → Option Sl
  | .nm i, a, σ => some (σ.set i (some a))
  | .tp gs, a, σ => match a with
    | .tup xs => Tg.puts gs xs σ
    | _ => none
def Tg.puts : List Tg → List A → Sl → Option Sl
  | [], [], σ => some σ
  | g :: r, x :: s, σ => match Tg.put g x σ with
    | some σ' => Tg.puts r s σ'
    | none => none
  | _, _, _ => none
end

/-- lists that are walked stand as they were -/
def still (src : List (Nat × List A)) (h : Ho) : Bool := src.all fun p => match seqOf h p.1 with
  | some xs => A.beqs xs p.2
  | none => false

/-- no exception comes out -/
def R.calm {α : Type} : R α → R α
  | .ok a h => .ok a h
  | _ => .err
def compL (src : List (Nat × List A)) (f : A → Ho → R (Option A)) : List A → Ho → R (List A)
  | [], h => if still src h then .ok [] h else .err
  | x :: r, h => if still src h then (f x h).bind fun o h => (compL src f r h).bind fun ys h => .ok (match o with
      | some y => y :: ys
      | none => ys) h else .err

def rng (lo hi : Int) : List A := (List.range (hi - lo).toNat).map fun i => .int (lo + (i : Nat))
def rngOk (i : Int) : Bool := decide (-(2 ^ 62) ≤ i) && decide (i < 2 ^ 62)
def pairs : List A → List A → List A
  | x :: r, y :: s => .tup [x, y] :: pairs r s
  | _, _ => []
def numbered : Nat → List A → List A
  | _, [] => []
  | i, x :: r => .tup [.int i, x] :: numbered (i + 1) r
/-- what a walk goes over: the items, and the lists that must stand still -/
def walkSq (x : A) (h : Ho) : Option (List A × List (Nat × List A)) := match x with
  | .tup xs => some (xs, [])
  | .lis xs => some (xs, [])
  | .ref n => (seqOf h n).map fun xs => (xs, [(n, xs)])
  | _ => none
def walkRg (xs : List A) : Option (List A × List (Nat × List A)) := match xs with
  | [.int j] => if rngOk j then some (rng 0 j, []) else none
  | [.int i, .int j] => if rngOk i && rngOk j then some (rng i j, []) else none
  | _ => none
def walkZp (x y : A) (h : Ho) : Option (List A × List (Nat × List A)) := match x, y with
  | .tup xs, .tup ys => some (pairs xs ys, [])
  | .ref m, .ref n => match seqOf h m, seqOf h n with
    | some xs, some ys => some (pairs xs ys, [(m, xs), (n, ys)])
    | _, _ => none
  | _, _ => none
def walkEn (x : A) (h : Ho) : Option (List A × List (Nat × List A)) := match x with
  | .ref n => (seqOf h n).map fun xs => (numbered 0 xs, [(n, xs)])
  | _ => none

def wipe (σ : Sl) : List Nat → Sl
  | [] => σ
  | v :: vs => (wipe σ vs).set v none

section
variable (C : Nat → List A → Ho → R A)
mutual
def evE : E → Sl → Ho → R A
  | .var i, σ, h => match σ[i]? with
    | some (some a) => .ok a h
    | _ => .err
  | .lit a, _, h => .ok a h
  | .glo _ a, _, h => .ok a h
  | .neg a, σ, h => (evE a σ h).bind fun x h => give (negA x) h
  | .not a, σ, h => (evE a σ h).bind fun x h => give ((truth x h).map fun b => .bl (!b)) h
  | .bin op a b, σ, h => (evE a σ h).bind fun x h => (evE b σ h).bind fun y h => binA op x y h
  | .and a b, σ, h => (evE a σ h).bind fun x h => match truth x h with
    | some true => evE b σ h
    | some false => .ok x h
    | none => .err
  | .or a b, σ, h => (evE a σ h).bind fun x h => match truth x h with
    | some true => .ok x h
    | some false => evE b σ h
    | none => .err
  | .ite c a b, σ, h => (evT c σ h).bind fun k h => if k then evE a σ h else evE b σ h
  | .cmp op a b, σ, h => (evE a σ h).bind fun x h => (evE b σ h).bind fun y h => give ((cmpA op x y h).map .bl) h
  | .chn op op' a b c, σ, h => (evE a σ h).bind fun x h => (evE b σ h).bind fun y h => match cmpA op x y h with
    | some true => (evE c σ h).bind fun z h => give ((cmpA op' y z h).map .bl) h
    | some false => .ok (.bl false) h
    | none => .err
  | .tup es, σ, h => (evEs es σ h).bind fun xs h => .ok (.tup xs) h
  | .lst es, σ, h => (evEs es σ h).bind fun xs h => newL xs h
  | .sub a i, σ, h => (evE a σ h).bind fun x h => (evE i σ h).bind fun y h => give (subA x y h) h
  | .slc a lo hi, σ, h => (evE a σ h).bind fun x h => (evE lo σ h).bind fun l h => (give (part l) h).bind fun l h => (evE hi σ h).bind fun u h => (give (part u) h).bind fun u h => slcA x l u h
  | .rev a, σ, h => (evE a σ h).bind fun x h => match x with
    | .ref n => match seqOf h n with
      | some xs => newL xs.reverse h
      | none => .err
    | _ => .err
  | .call f es, σ, h => (evEs es σ h).bind fun xs h => C f xs h
  | .cval f es, σ, h => (evE f σ h).bind fun x h => match x with
    | .fn i => (evEs es σ h).bind fun xs h => C i xs h
    | _ => .err
  | .blt f es, σ, h => (evEs es σ h).bind fun xs h => bltA f xs h
  | .isi T e, σ, h => (evE e σ h).bind fun x h => bltA (.isi T) [x] h
  | .mth m o es, σ, h => (evE o σ h).bind fun x h => match x with
    | .ref n => (evEs es σ h).bind fun xs h => mthA m (.ref n) xs h
    | _ => .err
  | .comp elt g it c own, σ, h => (evI it σ h).bind fun w h =>
      (compL w.2 (fun x h => match Tg.put g x (wipe σ own) with
        | some σ' => (evT c σ' h).calm.bind fun k h => if k then (evE elt σ' h).calm.bind fun y h => .ok (some y) h else .ok none h
        | none => .err) w.1 h).bind fun ys h => if lineOk ys.length then newL ys h else .err
def evEs : List E → Sl → Ho → R (List A)
  | [], _, h => .ok [] h
  | e :: r, σ, h => (evE e σ h).bind fun x h => (evEs r σ h).bind fun xs h => .ok (x :: xs) h
def evT : T → Sl → Ho → R Bool
  | .yes, _, h => .ok true h
  | .val e, σ, h => (evE e σ h).bind fun x h => give (truth x h) h
  | .and a b, σ, h => (evT a σ h).bind fun k h => if k then evT b σ h else .ok false h
  | .or a b, σ, h => (evT a σ h).bind fun k h => if k then .ok true h else evT b σ h
  | .not a, σ, h => (evT a σ h).bind fun k h => .ok (!k) h
def evI : I → Sl → Ho → R (List A × List (Nat × List A))
  | .sq e, σ, h => (evE e σ h).bind fun x h => give (walkSq x h) h
  | .rg es, σ, h => (evEs es σ h).bind fun xs h => give (walkRg xs) h
  | .zp a b, σ, h => (evE a σ h).bind fun x h => (evE b σ h).bind fun y h => give (walkZp x y h) h
  | .en a, σ, h => (evE a σ h).bind fun x h => give (walkEn x h) h
end
end

/-- x op= y -/
def augA (op : Operator) (x y : A) (h : Ho) : R A := match op with
  | .Add => match x, y with
    | .int i, .int j => .ok (.int (i + j)) h
    | .str a, .str b => if lineOk (a.length + b.length) then .ok (.str (a ++ b)) h else .err
    | .ref m, .ref n => match h[m]?, h[n]? with
      | some (.lst a), some (.lst b) => if lineOk (a.length + b.length) then .ok (.ref m) (setL m (a ++ b) h) else .err
      | _, _ => .err
    | _, _ => .err
  | .Sub => match x, y with
    | .int i, .int j => .ok (.int (i - j)) h
    | _, _ => .err
  | .Mult => match x, y with
    | .int i, .int j => if mulOk i j then .ok (.int (i * j)) h else .err
    | _, _ => .err
  | .FloorDiv => match x, y with
    | .int i, .int j => if divOk j then .ok (.int (i.fdiv j)) h else .err
    | _, _ => .err
  | .Mod => match x, y with
    | .int i, .int j => if j != 0 then .ok (.int (i.fmod j)) h else .err
    | _, _ => .err
  | _ => .err
/-! ### statements -/
/-- an except suite's answer: e is the caught exception -/
inductive Su where
  | lit (a : A) | fld (f : Str) | tup (ss : List Su) | ite (c : Str) (a b : Su) | isl (cs : List Str) | nol | ive (a b : Su)
structure Hd where
  cls : Str
  as? : Option Nat
  su : Su
inductive S where
  | exp (e : E) | asg (g : Tg) (e : E) | par (is : List Nat) (es : List E) | aug (i : Nat) (op : Operator) (e : E)
  | sto (o i e : E) | ret (e : E) | retN | pass | brk | cnt
  | ife (c : T) (a b : List S) | whl (c : T) (b : List S) | for_ (g : Tg) (it : I) (b : List S)
  | rais (c : Nat) (es : List E) | try_ (b : List S) (hs : List Hd)
inductive Ot where
  | nx (σ : Sl) (h : Ho) | rt (a : A) (h : Ho) | bk (σ : Sl) (h : Ho) | ct (σ : Sl) (h : Ho) | ex (x : Xv) (σ : Sl) (h : Ho) | err
def R.then {α : Type} (r : R α) (σ : Sl) (f : α → Ho → Ot) : Ot := match r with
  | .ok a h => f a h
  | .exc x h => .ex x σ h
  | .err => .err
def Ot.then (o : Ot) (f : Sl → Ho → Ot) : Ot := match o with
  | .nx σ h => f σ h
  | o => o

/-- a loop of at most n turns -/
def whileL (c : Sl → Ho → R Bool) (b : Sl → Ho → Ot) : Nat → Sl → Ho → Ot
  | 0, _, _ => .err
  | n + 1, σ, h => (c σ h).then σ fun k h => if k then match b σ h with
      | .nx σ h => whileL c b n σ h
      | .ct σ h => whileL c b n σ h
      | .bk σ h => .nx σ h
      | o => o
    else .nx σ h
def forL (src : List (Nat × List A)) (g : Tg) (b : Sl → Ho → Ot) : List A → Sl → Ho → Ot
  | [], σ, h => if still src h then .nx σ h else .err
  | x :: r, σ, h => if still src h then match Tg.put g x σ with
      | none => .err
      | some σ => match b σ h with
        | .nx σ h => forL src g b r σ h
        | .ct σ h => forL src g b r σ h
        | .bk σ h => .nx σ h
        | o => o
    else .err
def setsP : List Nat → List A → Sl → Option Sl
  | [], [], σ => some σ
  | i :: r, x :: s, σ => setsP r s (σ.set i (some x))
  | _, _, _ => none
def stoA (o i v : A) (h : Ho) : Option Ho := match o, i with
  | .ref n, .int k => match h[n]? with
    | some (.lst xs) => (idx xs.length k).map fun j => setL n (xs.set j v) h
    | _ => none
  | _, _ => none

/-- a class of errors: its name, its attributes in the order of its arguments, the names that an except clause or isinstance takes it by -/
structure Ec where
  name : Str
  fs : List Str
  up : List Str
structure Df where
  name : Str
  N : List Str
  ps : Nat
  body : List S
structure Pg where
  defs : List Df
  ecs : List Ec
def Pg.takes (P : Pg) (c : Nat) (x : Str) : Bool := match P.ecs[c]? with
  | some e => e.up.any (· == x)
  | none => false
def look (f : Str) : List (Str × A) → Option A
  | [] => none
  | (g, x) :: r => if f == g then some x else look f r
mutual
def evU (P : Pg) (x : Xv) : Su → Option A
  | .lit a => some a
  | .fld f => look f x.fs
  | .tup ss => (evUs P x ss).map .tup
  | .ite c a b => if P.takes x.cls c then evU P x a else evU P x b
  | .isl _ => none
  | .nol => none
  | .ive _ _ => none
def evUs (P : Pg) (x : Xv) : List Su → Option (List A)
  | [] => some []
  | s :: r => match evU P x s with
    | some a => (evUs P x r).map (a :: ·)
    | none => none
end
/-- a suite's answer where a list may be made -/
def evH (P : Pg) (x : Xv) (h : Ho) : Su → Option (A × Ho)
  | .isl cs => some (.ref h.length, h ++ [.lst (cs.map fun c => .bl (P.takes x.cls c))])
  | .nol => some (.ref h.length, h ++ [.lst []])
  | .ive a _ => evH P x h a
  | s => (evU P x s).map fun a => (a, h)
def handle (P : Pg) (x : Xv) (σ : Sl) (h : Ho) : List Hd → Ot
  | [] => .ex x σ h
  | d :: r => if P.takes x.cls d.cls then match evH P x h d.su with
      | some p => .rt p.1 p.2
      | none => .err
    else handle P x σ h r

section
variable (P : Pg) (W : Nat) (C : Nat → List A → Ho → R A)
mutual
def evS : S → Sl → Ho → Ot
  | .exp e, σ, h => (evE C e σ h).then σ fun _ h => .nx σ h
  | .asg g e, σ, h => (evE C e σ h).then σ fun x h => match Tg.put g x σ with
    | some σ => .nx σ h
    | none => .err
  | .par is es, σ, h => (evEs C es σ h).then σ fun xs h => match setsP is xs σ with
    | some σ => .nx σ h
    | none => .err
  | .aug i op e, σ, h => match σ[i]? with
    | some (some x) => (evE C e σ h).then σ fun y h => (augA op x y h).then σ fun z h => .nx (σ.set i (some z)) h
    | _ => .err
  | .sto o i e, σ, h => (evE C e σ h).then σ fun v h => (evE C o σ h).then σ fun x h => (evE C i σ h).then σ fun y h => match stoA x y v h with
    | some h => .nx σ h
    | none => .err
  | .ret e, σ, h => (evE C e σ h).then σ fun x h => .rt x h
  | .retN, _, h => .rt .non h
  | .pass, σ, h => .nx σ h
  | .brk, σ, h => .bk σ h
  | .cnt, σ, h => .ct σ h
  | .ife c a b, σ, h => (evT C c σ h).then σ fun k h => if k then evSs a σ h else evSs b σ h
  | .whl c b, σ, h => whileL (evT C c) (fun σ h => evSs b σ h) W σ h
  | .for_ g it b, σ, h => (evI C it σ h).then σ fun w h => forL w.2 g (fun σ h => evSs b σ h) w.1 σ h
  | .rais c es, σ, h => (evEs C es σ h).then σ fun xs h => match P.ecs[c]? with
    | some e => if xs.length == e.fs.length then .ex ⟨c, e.fs.zip xs⟩ σ h else .err
    | none => .err
  | .try_ b hs, σ, h => match evSs b σ h with
    | .ex x σ h => handle P x σ h hs
    | o => o
def evSs : List S → Sl → Ho → Ot
  | [], σ, h => .nx σ h
  | s :: r, σ, h => (evS s σ h).then fun σ h => evSs r σ h
end
end

mutual
/-- the same, told of objects n further on -/
def A.up (n : Nat) : A → A
  | .tup xs => .tup (A.ups n xs)
  | .lis xs => .lis (A.ups n xs)
  | .ref m => .ref (n + m)
  | .non => .non
  | .bl b => .bl b
  | .int i => .int i
  | .str z => .str z
  | .fn f => .fn f
def A.ups (n : Nat) : List A → List A
  | [] => []
  | x :: r => A.up n x :: A.ups n r
end
def O.up (n : Nat) : O → O
  | .lst xs => .lst (A.ups n xs)
def upF (n : Nat) : List (Str × A) → List (Str × A)
  | [] => []
  | p :: r => (p.1, A.up n p.2) :: upF n r
/-- what was computed with no object around, with h around -/
def graft (h : Ho) : R A → R A
  | .ok a h' => .ok (A.up h.length a) (h ++ h'.map (O.up h.length))
  | .exc x h' => .exc ⟨x.cls, upF h.length x.fs⟩ (h ++ h'.map (O.up h.length))
  | .err => .err
/-- a call that no object is handed to: it is computed with no object around -/
def callP (C : Nat → List A → Ho → R A) (f : Nat) (xs : List A) (h : Ho) : R A := if A.inbs 0 xs then graft h (C f xs []) else C f xs h
/-- a def's call, k calls deep at most -/
def callK (P : Pg) (W : Nat) : Nat → Nat → List A → Ho → R A
  | 0, _, _, _ => .err
  | k + 1, f, xs, h => match P.defs[f]? with
    | none => .err
    | some d => if xs.length == d.ps then match evSs P W (callP (callK P W k)) d.body (xs.map some ++ List.replicate (d.N.length - xs.length) none) h with
        | .rt a h' => trim h.length (A.inb h.length a) h' fun h' => .ok a h'
        | .nx _ h' => trim h.length true h' fun h' => .ok .non h'
        | .ex x _ h' => trim h.length (A.inbs h.length (x.fs.map (·.2))) h' fun h' => .exc x h'
        | _ => .err
      else .err
end Ev

/-! text Fw2 -/
set_option Elab.async false
set_option linter.all false
set_option maxRecDepth 100000
set_option maxHeartbeats 4000000
/-! Ev: how values and objects are told of the layer's heap, and what a reading of a computed part says. -/
namespace Ev
open PySem PySem.Spec PyProof.Rows L2

/-- what the text's top has written: the written part, the names, the program -/
structure Ws where
  K : PySem.W.Frag
  mg : Str → Option Value
  G : Pg

/-- a list that nothing changes -/
def Ro (K : PySem.W.Frag) (H : Hp) (a : Addr) (vs : List V) : Prop :=
  (∃ o, H a = some (.frz o (.lst vs))) ∨
    ∃ (o : Obj) (its : Array Value) (n : Nat), K.lookup a = some o ∧ o.cls = .type "list" ∧ o.dict = none ∧ o.data = .seq its n ∧ its.size ≤ sizeLine ∧ Vals vs its.toList
theorem Ro.sq {K : PySem.W.Frag} {H : Hp} {a : Addr} {vs : List V} (h : Ro K H a vs) : SqL K H a vs := h.elim (fun ⟨o, e⟩ => .inl (.inr ⟨o, e⟩)) .inr

mutual
inductive Ra (S : Ws) (r : List Addr) (H : Hp) : A → V → Prop
  | non : Ra S r H .non .non
  | bl (b : Bool) : Ra S r H (.bl b) (.bl b)
  | int (i : Int) : Ra S r H (.int i) (.int i)
  | str (x : Str) : Ra S r H (.str x) (.str x)
  | tup {xs : List A} {a : Addr} {vs : List V} (q : SqT S.K H a vs) (h : Ras S r H xs vs) : Ra S r H (.tup xs) (.ref a)
  | lis {xs : List A} {a : Addr} {vs : List V} (q : Ro S.K H a vs) (h : Ras S r H xs vs) : Ra S r H (.lis xs) (.ref a)
  | ref {n : Nat} {p : Addr} (h : r[n]? = some p) : Ra S r H (.ref n) (.ref p)
  | fn {i : Nat} {d : Df} {f : Addr} (h : S.G.defs[i]? = some d) (e : S.mg d.name = some (.ref f)) : Ra S r H (.fn i) (.ref f)
inductive Ras (S : Ws) (r : List Addr) (H : Hp) : List A → List V → Prop
  | nil : Ras S r H [] []
  | cons {a : A} {v : V} {as : List A} {vs : List V} (h : Ra S r H a v) (t : Ras S r H as vs) : Ras S r H (a :: as) (v :: vs)
end
/-- the objects stand at r -/
structure Rel (S : Ws) (r : List Addr) (h : Ho) (H : Hp) : Prop where
  len : r.length = h.length
  nd : r.Nodup
  at_ : ∀ (n : Nat) (xs : List A), h[n]? = some (O.lst xs) → ∃ p vs, r[n]? = some p ∧ H p = some (.lst vs) ∧ Ras S r H xs vs
/-- the slots -/
structure Rs (S : Ws) (r : List Addr) (H : Hp) (s : Sl) (σ : L2.St) : Prop where
  len : s.length = σ.length
  at_ : ∀ (i : Nat) (a : A), s[i]? = some (some a) → ∃ v, σ[i]? = some (some v) ∧ Ra S r H a v
/-- a later state -/
structure Step (r : List Addr) (H : Hp) (r' : List Addr) (H' : Hp) : Prop where
  pre : r <+: r'
  new : ∀ b, b ∈ r' → b ∉ r → H b = none
  keep : ∀ b o, H b = some o → b ∉ r → H' b = some o
theorem Step.refl {r : List Addr} {H : Hp} : Step r H r H := ⟨List.prefix_refl _, fun _ h n => absurd h n, fun _ _ e _ => e⟩
theorem Step.trans {r r1 r2 : List Addr} {H H1 H2 : Hp} (a : Step r H r1 H1) (b : Step r1 H1 r2 H2) : Step r H r2 H2 := by
  refine ⟨a.pre.trans b.pre, fun c h n => ?_, fun c o e n => ?_⟩
  · by_cases m : c ∈ r1
    · exact a.new c m n
    · cases q : H c with
      | none => rfl
      | some o =>
        have e1 := a.keep c o q n
        rw [b.new c h m] at e1
        cases e1
  · refine b.keep c o (a.keep c o e n) fun m => ?_
    rw [a.new c m n] at e
    cases e
section
variable {S : Ws} {r r' : List Addr} {H H' : Hp} {h h' : Ho}
theorem Rel.lstOf (R : Rel S r h H) {b : Addr} (hb : b ∈ r) : ∃ vs, H b = some (.lst vs) := by
  obtain ⟨n, hn⟩ := List.getElem?_of_mem hb
  have hl : n < h.length := by rw [← R.len]; exact (List.getElem?_eq_some_iff.mp hn).1
  cases q : h[n] with
  | lst xs =>
    obtain ⟨p, vs, e1, e2, _⟩ := R.at_ n xs (by rw [List.getElem?_eq_getElem hl, q])
    rw [hn] at e1
    cases e1
    exact ⟨vs, e2⟩
theorem Rel.notIn (R : Rel S r h H) {b : Addr} {o : HO} (e : H b = some o) (ne : ∀ vs, o ≠ .lst vs) : b ∉ r := fun hb => by
  obtain ⟨vs, q⟩ := R.lstOf hb
  rw [e] at q
  exact ne vs (Option.some.inj q)
theorem Rd.step (R : Rel S r h H) (st : Step r H r' H') {a : Addr} {u : HO} (d : L2.Rd H a u) (ne : ∀ vs, u ≠ .lst vs) : L2.Rd H' a u := by
  rcases d with e | ⟨o, e⟩
  · exact .inl (st.keep a _ e (R.notIn e ne))
  · exact .inr ⟨o, st.keep a _ e (R.notIn e fun vs q => by cases q)⟩
theorem SqT.step (R : Rel S r h H) (st : Step r H r' H') {a : Addr} {vs : List V} (d : SqT S.K H a vs) : SqT S.K H' a vs := by
  rcases d with d | d
  · exact .inl (Rd.step R st d fun vs q => by cases q)
  · exact .inr d
theorem Ro.step (R : Rel S r h H) (st : Step r H r' H') {a : Addr} {vs : List V} (d : Ro S.K H a vs) : Ro S.K H' a vs := by
  rcases d with ⟨o, e⟩ | d
  · exact .inl ⟨o, st.keep a _ e (R.notIn e fun vs q => by cases q)⟩
  · exact .inr d
theorem pre_get {r r' : List Addr} (p : r <+: r') {n : Nat} {a : Addr} (e : r[n]? = some a) : r'[n]? = some a := by
  obtain ⟨t, rfl⟩ := p
  rw [List.getElem?_append_left (List.getElem?_eq_some_iff.mp e).1, e]
mutual
theorem Ra.step (R : Rel S r h H) (st : Step r H r' H') : ∀ {a : A} {v : V}, Ra S r H a v → Ra S r' H' a v
  | _, _, .non => .non
  | _, _, .bl b => .bl b
  | _, _, .int i => .int i
  | _, _, .str x => .str x
  | _, _, .tup q t => .tup (SqT.step R st q) (Ras.step R st t)
  | _, _, .lis q t => .lis (Ro.step R st q) (Ras.step R st t)
  | _, _, .ref e => .ref (pre_get st.pre e)
  | _, _, .fn e1 e2 => .fn e1 e2
theorem Ras.step (R : Rel S r h H) (st : Step r H r' H') : ∀ {as : List A} {vs : List V}, Ras S r H as vs → Ras S r' H' as vs
  | _, _, .nil => .nil
  | _, _, .cons a t => .cons (Ra.step R st a) (Ras.step R st t)
end
theorem Ras.length : ∀ {as : List A} {vs : List V}, Ras S r H as vs → as.length = vs.length
  | _, _, .nil => rfl
  | _, _, .cons _ t => congrArg Nat.succ (Ras.length t)
theorem Ras.get : ∀ {as : List A} {vs : List V} {i : Nat} {a : A}, Ras S r H as vs → as[i]? = some a → ∃ v, vs[i]? = some v ∧ Ra S r H a v
  | _, _, _, _, .nil, e => by simp at e
  | _, _, 0, _, .cons q _, e => by
    simp at e
    subst e
    exact ⟨_, rfl, q⟩
  | _, _, i + 1, a, .cons _ t, e => by
    obtain ⟨v, e1, q⟩ := Ras.get (i := i) (a := a) t (by simpa using e)
    exact ⟨v, by simpa using e1, q⟩
theorem Ras.get' : ∀ {as : List A} {vs : List V} {i : Nat} {v : V}, Ras S r H as vs → vs[i]? = some v → ∃ a, as[i]? = some a ∧ Ra S r H a v
  | _, _, _, _, .nil, e => by simp at e
  | _, _, 0, _, .cons q _, e => by
    simp at e
    subst e
    exact ⟨_, rfl, q⟩
  | _, _, i + 1, v, .cons _ t, e => by
    obtain ⟨a, e1, q⟩ := Ras.get' (i := i) (v := v) t (by simpa using e)
    exact ⟨a, by simpa using e1, q⟩
theorem Ras.app : ∀ {as bs : List A} {vs ws : List V}, Ras S r H as vs → Ras S r H bs ws → Ras S r H (as ++ bs) (vs ++ ws)
  | _, _, _, _, .nil, q => q
  | _, _, _, _, .cons a t, q => .cons a (Ras.app t q)
theorem Ras.take : ∀ {as : List A} {vs : List V} (n : Nat), Ras S r H as vs → Ras S r H (as.take n) (vs.take n)
  | _, _, 0, _ => .nil
  | _, _, _ + 1, .nil => .nil
  | _, _, n + 1, .cons a t => .cons a (Ras.take n t)
theorem Ras.drop : ∀ {as : List A} {vs : List V} (n : Nat), Ras S r H as vs → Ras S r H (as.drop n) (vs.drop n)
  | _, _, 0, q => q
  | _, _, _ + 1, .nil => .nil
  | _, _, n + 1, .cons _ t => Ras.drop n t
theorem Ras.set {a : A} {v : V} (q : Ra S r H a v) : ∀ {as : List A} {vs : List V} (i : Nat), Ras S r H as vs → Ras S r H (as.set i a) (vs.set i v)
  | _, _, _, .nil => .nil
  | _, _, 0, .cons _ t => .cons q t
  | _, _, i + 1, .cons p t => .cons p (Ras.set q i t)
theorem Ras.one {a : A} {v : V} (q : Ra S r H a v) : Ras S r H [a] [v] := .cons q .nil
theorem Ras.snoc {as : List A} {vs : List V} {a : A} {v : V} (t : Ras S r H as vs) (q : Ra S r H a v) : Ras S r H (as ++ [a]) (vs ++ [v]) := t.app (.one q)
theorem Ras.rev : ∀ {as : List A} {vs : List V}, Ras S r H as vs → Ras S r H as.reverse vs.reverse
  | _, _, .nil => .nil
  | _, _, .cons a t => by
    rw [List.reverse_cons, List.reverse_cons]
    exact (Ras.rev t).snoc a
theorem Ras.dropLast {as : List A} {vs : List V} (t : Ras S r H as vs) : Ras S r H as.dropLast vs.dropLast := by
  rw [List.dropLast_eq_take, List.dropLast_eq_take, t.length]
  exact t.take _
theorem Rs.step (R : Rel S r h H) (st : Step r H r' H') {s : Sl} {σ : L2.St} (q : Rs S r H s σ) : Rs S r' H' s σ :=
  ⟨q.len, fun i a e => let ⟨v, e1, t⟩ := q.at_ i a e; ⟨v, e1, t.step R st⟩⟩
theorem Rs.set {s : Sl} {σ : L2.St} {a : A} {v : V} (q : Rs S r H s σ) (t : Ra S r H a v) (i : Nat) : Rs S r H (s.set i (some a)) (σ.set i (some v)) := by
  refine ⟨by rw [List.length_set, List.length_set, q.len], fun j b e => ?_⟩
  by_cases hj : i = j
  · subst hj
    have hl : i < s.length := by
      have := (List.getElem?_eq_some_iff.mp e).1
      rwa [List.length_set] at this
    rw [List.getElem?_set_self hl] at e
    cases e
    exact ⟨v, List.getElem?_set_self (by rw [← q.len]; exact hl), t⟩
  · rw [List.getElem?_set_ne hj] at e
    rw [List.getElem?_set_ne hj]
    exact q.at_ j b e
theorem Rs.wipe {s : Sl} {σ : L2.St} (q : Rs S r H s σ) : ∀ own : List Nat, Rs S r H (Ev.wipe s own) (L2.wipe σ own)
  | [] => q
  | v :: vs => by
    have ih := Rs.wipe q vs
    refine ⟨by show ((Ev.wipe s vs).set v none).length = ((L2.wipe σ vs).set v none).length; rw [List.length_set, List.length_set, ih.len], fun i a e => ?_⟩
    have e : ((Ev.wipe s vs).set v none)[i]? = some (some a) := e
    show ∃ w, ((L2.wipe σ vs).set v none)[i]? = some (some w) ∧ _
    by_cases hi : v = i
    · subst hi
      have hl : v < (Ev.wipe s vs).length := by
        have := (List.getElem?_eq_some_iff.mp e).1
        rwa [List.length_set] at this
      rw [List.getElem?_set_self hl] at e
      cases e
    · rw [List.getElem?_set_ne hi] at e
      rw [List.getElem?_set_ne hi]
      exact ih.at_ i a e

/-- a new list -/
theorem Rel.push (R : Rel S r h H) {p : Addr} {xs : List A} {vs : List V} (hp : H p = none) (t : Ras S r H xs vs) :
    Rel S (r ++ [p]) (h ++ [.lst xs]) (upd H p (.lst vs)) ∧ Step r H (r ++ [p]) (upd H p (.lst vs)) ∧ Ra S (r ++ [p]) (upd H p (.lst vs)) (.ref h.length) (.ref p) := by
  have np : p ∉ r := fun hb => by
    obtain ⟨ws, e⟩ := R.lstOf hb
    rw [hp] at e
    cases e
  have st : Step r H (r ++ [p]) (upd H p (.lst vs)) := by
    refine ⟨List.prefix_append _ _, fun b hb nb => ?_, fun b o e nb => ?_⟩
    · rcases List.mem_append.mp hb with z | z
      · exact absurd z nb
      · rw [List.mem_singleton.mp z]
        exact hp
    · rw [upd_ne (ne_of_none e hp)]
      exact e
  refine ⟨⟨by rw [List.length_append, List.length_append, R.len]; rfl, ?_, fun n ys e => ?_⟩, st, .ref ?_⟩
  · exact List.nodup_append.mpr ⟨R.nd, by simp, fun a ha b hb => by
      rw [List.mem_singleton.mp hb]
      exact fun z => np (z ▸ ha)⟩
  · by_cases hn : n < h.length
    · rw [List.getElem?_append_left hn] at e
      obtain ⟨q, ws, e1, e2, t2⟩ := R.at_ n ys e
      refine ⟨q, ws, pre_get (List.prefix_append _ _) e1, ?_, t2.step R st⟩
      rw [upd_ne (ne_of_none e2 hp)]
      exact e2
    · rw [List.getElem?_append_right (by omega)] at e
      have hn0 : n - h.length = 0 := by
        have := (List.getElem?_eq_some_iff.mp e).1
        simp at this
        omega
      rw [hn0] at e
      simp at e
      subst e
      refine ⟨p, vs, ?_, upd_same, t.step R st⟩
      rw [List.getElem?_append_right (by rw [R.len]; omega), R.len, hn0]
      rfl
  · rw [List.getElem?_append_right (by rw [R.len]; exact Nat.le_refl _), R.len, Nat.sub_self]
    rfl
/-- a new object that is no list of ours (a tuple, an error's dict) -/
theorem Step.other {p : Addr} {u : HO} (R : Rel S r h H) (hp : H p = none) : Rel S r h (upd H p u) ∧ Step r H r (upd H p u) := by
  have st : Step r H r (upd H p u) := ⟨List.prefix_refl _, fun b hb nb => absurd hb nb, fun b o e nb => by rw [upd_ne (ne_of_none e hp)]; exact e⟩
  refine ⟨⟨R.len, R.nd, fun n xs e => ?_⟩, st⟩
  obtain ⟨q, ws, e1, e2, t⟩ := R.at_ n xs e
  exact ⟨q, ws, e1, by rw [upd_ne (ne_of_none e2 hp)]; exact e2, t.step R st⟩
/-- a list of ours changed -/
theorem Rel.put (R : Rel S r h H) {n : Nat} {p : Addr} {xs ys : List A} {ws : List V} (e : h[n]? = some (.lst ys)) (ep : r[n]? = some p) (t : Ras S r H xs ws) :
    Rel S r (h.set n (.lst xs)) (upd H p (.lst ws)) ∧ Step r H r (upd H p (.lst ws)) := by
  have hp : p ∈ r := List.mem_of_getElem? ep
  have st : Step r H r (upd H p (.lst ws)) := ⟨List.prefix_refl _, fun b hb nb => absurd hb nb, fun b o e nb => by
    have bp : b ≠ p := fun z => nb (by rw [z]; exact hp)
    rw [upd_ne bp]
    exact e⟩
  have hl : n < h.length := (List.getElem?_eq_some_iff.mp e).1
  refine ⟨⟨by rw [List.length_set]; exact R.len, R.nd, fun m zs em => ?_⟩, st⟩
  by_cases hm : n = m
  · subst hm
    rw [List.getElem?_set_self hl] at em
    cases em
    exact ⟨p, ws, ep, upd_same, t.step R st⟩
  · rw [List.getElem?_set_ne hm] at em
    obtain ⟨q, us, e1, e2, t2⟩ := R.at_ m zs em
    have nq : q ≠ p := fun z => by
      subst z
      obtain ⟨h1, f1⟩ := List.getElem?_eq_some_iff.mp e1
      obtain ⟨h2, f2⟩ := List.getElem?_eq_some_iff.mp ep
      exact hm ((List.getElem_inj R.nd).mp (f2.trans f1.symm))
    exact ⟨q, us, e1, by rw [upd_ne nq]; exact e2, t2.step R st⟩
end

/-! ### what is wanted of a computed part -/
/-- an exception: its class, its own dict with the attributes -/
def Rx (S : Ws) (r : List Addr) (H : Hp) (x : Xv) (cls : Value) (d : Option Addr) : Prop :=
  ∃ (e : Ec) (C dd : Addr) (fs : List (Str × V)), S.G.ecs[x.cls]? = some e ∧ S.mg e.name = some (.ref C) ∧ cls = .ref C ∧ d = some dd ∧ H dd = some (.xd fs) ∧ fs.map (·.1) = x.fs.map (·.1) ∧ Ras S r H (x.fs.map (·.2)) (fs.map (·.2)) ∧ x.fs.map (·.1) = e.fs
/-- what is wanted of a result: rel tells how it shows -/
def Po {α β : Type} (S : Ws) (rel : List Addr → Hp → α → β → Prop) (r : List Addr) (H : Hp) (res : R α) (Q : β → Hp → Prop) (E : XK) : Prop := match res with
  | .ok a h' => ∀ r' H' v, Step r H r' H' → Rel S r' h' H' → rel r' H' a v → Q v H'
  | .exc x h' => ∀ r' H' cls d, Step r H r' H' → Rel S r' h' H' → Rx S r' H' x cls d → E cls d H'
  | .err => False
abbrev PoV (S : Ws) (r : List Addr) (H : Hp) (res : R A) (Q : VK) (E : XK) : Prop := Po S (fun r H a v => Ra S r H a v) r H res Q E
abbrev PoB (S : Ws) (r : List Addr) (H : Hp) (res : R Bool) (Q : Bool → Hp → Prop) (E : XK) : Prop := Po S (fun _ _ (a : Bool) b => a = b) r H res Q E
abbrev PoL (S : Ws) (r : List Addr) (H : Hp) (res : R (List A)) (Q : List V → Hp → Prop) (E : XK) : Prop := Po S (fun r H as vs => Ras S r H as vs) r H res Q E
/-- a state that the computing's state tells of -/
structure At (S : Ws) (r : List Addr) (s : Sl) (h : Ho) (σ : L2.St) (H : Hp) : Prop where
  rel : Rel S r h H
  sl : Rs S r H s σ
theorem At.step {S : Ws} {r r' : List Addr} {s : Sl} {h h' : Ho} {σ : L2.St} {H H' : Hp} (a : At S r s h σ H) (st : Step r H r' H') (R' : Rel S r' h' H') : At S r' s h' σ H' := ⟨R', a.sl.step a.rel st⟩
def rdE (S : Ws) (W : WX) (f : Sl → Ho → R A) : TE := fun σ H Q => ∃ r s h, At S r s h σ H ∧ PoV S r H (f s h) Q fun cls d H' => W cls d σ H'
def rdB (S : Ws) (W : WX) (f : Sl → Ho → R Bool) : TT := fun σ H Q => ∃ r s h, At S r s h σ H ∧ PoB S r H (f s h) Q fun cls d H' => W cls d σ H'
def rdA (S : Ws) (W : WX) (f : Sl → Ho → R (List A)) : TA := fun σ H Q => ∃ r s h, At S r s h σ H ∧ PoL S r H (f s h) Q fun cls d H' => W cls d σ H'

section
variable {α β γ δ : Type} {S : Ws} {rel : List Addr → Hp → α → β → Prop} {rel2 : List Addr → Hp → γ → δ → Prop} {r r' : List Addr} {H H' : Hp} {h : Ho} {s : Sl} {σ : L2.St} {res : R α} {Q Q' : β → Hp → Prop} {E : XK}
/-- from a state on to a later one -/
theorem Po.from (p : Po S rel r H res Q E) (st : Step r H r' H') : Po S rel r' H' res Q E := by
  cases res with
  | ok a h' => exact fun r2 H2 v s2 R2 t => p r2 H2 v (st.trans s2) R2 t
  | exc x h' => exact fun r2 H2 c d s2 R2 t => p r2 H2 c d (st.trans s2) R2 t
  | err => exact p
theorem Po.mono (p : Po S rel r H res Q E) (k : ∀ v H, Q v H → Q' v H) : Po S rel r H res Q' E := by
  cases res with
  | ok a h' => exact fun r2 H2 v s2 R2 t => k v H2 (p r2 H2 v s2 R2 t)
  | exc x h' => exact p
  | err => exact p
/-- first one part, then what is done with it -/
theorem Po.bind {g : α → Ho → R γ} {Q : δ → Hp → Prop} (a : At S r s h σ H) (p : Po S rel2 r H (res.bind g) Q E) :
    Po S rel r H res (fun v H1 => ∃ r1 a1 h1, At S r1 s h1 σ H1 ∧ Step r H r1 H1 ∧ rel r1 H1 a1 v ∧ Po S rel2 r1 H1 (g a1 h1) Q E) E := by
  cases res with
  | ok a1 h1 => exact fun r1 H1 v st R1 t => ⟨r1, a1, h1, a.step st R1, st, t, Po.from p st⟩
  | exc x h' => exact p
  | err => exact p
end
end Ev

/-! text Fw3 -/
set_option Elab.async false
set_option linter.all false
set_option maxRecDepth 100000
set_option maxHeartbeats 4000000
/-! Ev: the operators: what the layer's rules ask follows from what is computed. -/
namespace Ev
open PySem PySem.Spec PyProof.Rows L2

abbrev sOf (X : Cx) (G : Pg) : Ws := ⟨X.K, X.mg, G⟩

theorem line_le {n : Nat} (h : lineOk n = true) : n ≤ sizeLine := by
  rw [sizeLine_eq]
  exact Nat.le_of_ble_eq_true h
section
variable {S : Ws} {r : List Addr} {H : Hp} {h : Ho}
theorem seq_at (R : Rel S r h H) {n : Nat} {p : Addr} {xs : List A} (e : seqOf h n = some xs) (ep : r[n]? = some p) : ∃ vs, H p = some (.lst vs) ∧ Ras S r H xs vs := by
  unfold seqOf at e
  cases q : h[n]? with
  | none =>
    rw [q] at e
    cases e
  | some o =>
    cases o with
    | lst ys =>
      rw [q] at e
      cases e
      obtain ⟨p', vs, e1, e2, t⟩ := R.at_ n _ q
      rw [ep] at e1
      cases e1
      exact ⟨vs, e2, t⟩
/-- a list that a value names, to be read -/
theorem ref_seq (R : Rel S r h H) {n : Nat} {v : V} {xs : List A} (e : seqOf h n = some xs) (t : Ra S r H (.ref n) v) : ∃ p vs, v = .ref p ∧ SqL S.K H p vs ∧ Ras S r H xs vs := by
  cases t with
  | ref ep =>
    obtain ⟨vs, e2, t2⟩ := seq_at R e ep
    exact ⟨_, vs, rfl, SqL.of e2, t2⟩

/-! ### data -/
mutual
theorem dp_of (R : Rel S r h H) : ∀ (n : Nat) {a : A} {v : V} {d : PyData}, toD h n a = some d → Ra S r H a v → Dp S.K H v d
  | 0, _, _, _, e, _ => by cases e
  | n + 1, .non, _, _, e, t => by
    cases t
    cases e
    exact .non
  | n + 1, .bl b, _, _, e, t => by
    cases t
    cases e
    exact .bl b
  | n + 1, .int i, _, _, e, t => by
    cases t
    cases e
    exact .int i
  | n + 1, .str x, _, _, e, t => by
    cases t
    cases e
    exact .str x
  | n + 1, .tup xs, _, d, e, t => by
    have e : (optMap (toD h n) xs).map PyData.tuple = some d := e
    cases q : optMap (toD h n) xs with
    | none =>
      rw [q] at e
      cases e
    | some ds =>
      rw [q] at e
      cases e
      cases t with
      | tup hq ht => exact .tup hq (dps_of R n q ht)
  | n + 1, .lis xs, _, d, e, t => by
    have e : (optMap (toD h n) xs).map PyData.list = some d := e
    cases q : optMap (toD h n) xs with
    | none =>
      rw [q] at e
      cases e
    | some ds =>
      rw [q] at e
      cases e
      cases t with
      | lis hq ht => exact .lst hq.sq (dps_of R n q ht)
  | n + 1, .ref m, v, d, e, t => by
    have e : (match seqOf h m with
      | some xs => (optMap (toD h n) xs).map PyData.list
      | none => none) = some d := e
    cases q : seqOf h m with
    | none =>
      rw [q] at e
      cases e
    | some xs =>
      rw [q] at e
      have e : (optMap (toD h n) xs).map PyData.list = some d := e
      cases q2 : optMap (toD h n) xs with
      | none =>
        rw [q2] at e
        cases e
      | some ds =>
        rw [q2] at e
        cases e
        obtain ⟨p, vs, rfl, hs, ht⟩ := ref_seq R q t
        exact .lst hs (dps_of R n q2 ht)
  | n + 1, .fn _, _, _, e, _ => by cases e
theorem dps_of (R : Rel S r h H) : ∀ (n : Nat) {as : List A} {vs : List V} {ds : List PyData}, optMap (toD h n) as = some ds → Ras S r H as vs → DpAll S.K H vs ds
  | n, [], _, _, e, t => by
    cases t
    cases e
    exact .nil
  | n, a :: as, _, ds, e, t => by
    unfold optMap at e
    cases q : toD h n a with
    | none =>
      rw [q] at e
      cases e
    | some d =>
      rw [q] at e
      cases q2 : optMap (toD h n) as with
      | none =>
        rw [q2] at e
        cases e
      | some es =>
        rw [q2] at e
        cases e
        cases t with
        | cons ta tr => exact .cons (dp_of R n q ta) (dps_of R n q2 tr)
end

/-! ### operators -/
variable {X : Cx} {G : Pg}
/-- what is computed of two values -/
def r2 (S : Ws) (g : A → A → Ho → R A) : R2 := fun v u H Q => ∃ r h a b E, Rel S r h H ∧ Ra S r H a v ∧ Ra S r H b u ∧ PoV S r H (g a b h) Q E
theorem Po.here {α β : Type} {rel : List Addr → Hp → α → β → Prop} {a : α} {v : β} {Q : β → Hp → Prop} {E : XK} (R : Rel S r h H) (t : rel r H a v) (p : Po S rel r H (.ok a h) Q E) : Q v H := p r H v .refl R t
theorem Po.list {xs : List A} {vs : List V} {Q : VK} {E : XK} (R : Rel S r h H) (t : Ras S r H xs vs) (p : PoV S r H (newL xs h) Q E) : ∀ q, H q = none → Q (.ref q) (upd H q (.lst vs)) := fun q hq => by
  obtain ⟨R', st, ra⟩ := R.push hq t
  exact p _ _ _ st R' ra
theorem repOk_is {n : Nat} {j : Int} (c : repOk n j = true) : n ≠ 0 ∧ n ≤ 1000 ∧ 2 ≤ j ∧ j ≤ 1000 := by
  unfold repOk at c
  simp only [Bool.and_eq_true, bne_iff_ne, ne_eq, decide_eq_true_eq] at c
  exact ⟨c.1.1.1, Nat.le_of_ble_eq_true c.1.1.2, c.1.2, c.2⟩
theorem Ras.rep {as : List A} {vs : List V} (t : Ras S r H as vs) : ∀ n : Nat, Ras S r H (List.replicate n as).flatten (List.replicate n vs).flatten
  | 0 => .nil
  | n + 1 => t.app (Ras.rep t n)
theorem op_bin (op : Operator) : OpR X (binaryOp op) (r2 (sOf X G) (binA op)) := by
  intro pins s σ H x y v u Q I rx ry hh
  obtain ⟨r, h, a, b, E, R, ta, tb, p⟩ := hh
  cases op with
  | Add =>
    cases ta with
    | int i =>
      cases tb with
      | int j => exact op_add pins s σ H _ _ v u Q I rx ry ⟨i, j, rfl, rfl, Po.here R (.int _) p⟩
      | _ => exact False.elim p
    | str i =>
      cases tb with
      | str j =>
        have p : PoV _ r H (if lineOk (i.length + j.length) = true then .ok (.str (i ++ j)) h else .err) Q E := p
        by_cases c : lineOk (i.length + j.length) = true
        · rw [if_pos c] at p
          exact op_add_str pins s σ H _ _ v u Q I rx ry ⟨i, j, rfl, rfl, line_le c, Po.here R (.str _) p⟩
        · rw [if_neg c] at p
          exact False.elim p
      | _ => exact False.elim p
    | @tup xs a vs qa ha =>
      cases tb with
      | @tup ys b ws qb hb =>
        have p : PoV _ r H (if lineOk (xs.length + ys.length) = true then .ok (.tup (xs ++ ys)) h else .err) Q E := p
        by_cases c : lineOk (xs.length + ys.length) = true
        · rw [if_pos c] at p
          have lx := ha.length
          have ly := hb.length
          refine op_catA pins s σ H _ _ v u Q I rx ry ⟨a, b, vs, ws, rfl, rfl, qa, qb, ?_, fun e => ?_, fun _ e => ?_, fun _ _ q hq => ?_⟩
          · have := line_le c
            omega
          · subst e
            have e : xs = [] := List.length_eq_zero_iff.mp lx
            subst e
            exact Po.here R (.tup qb hb) p
          · subst e
            have e : ys = [] := List.length_eq_zero_iff.mp ly
            subst e
            rw [List.append_nil] at p
            exact Po.here R (.tup qa ha) p
          · obtain ⟨R', st⟩ := Step.other (u := HO.tup (vs ++ ws)) R hq
            exact p _ _ _ st R' (.tup (SqT.of upd_same) ((ha.app hb).step R st))
        · rw [if_neg c] at p
          exact False.elim p
      | _ => exact False.elim p
    | @ref m pa ha =>
      cases tb with
      | @ref n pb hb =>
        have p : PoV _ r H (match h[m]?, h[n]? with
          | some (.lst a), some (.lst b) => if lineOk (a.length + b.length) = true then newL (a ++ b) h else .err
          | _, _ => .err) Q E := p
        cases q1 : h[m]? with
        | none =>
          rw [q1] at p
          exact False.elim p
        | some o1 =>
          cases q2 : h[n]? with
          | none =>
            rw [q1, q2] at p
            cases o1
            exact False.elim p
          | some o2 =>
            rw [q1, q2] at p
            cases o1 with
            | lst xs =>
              cases o2 with
              | lst ys =>
                have p : PoV _ r H (if lineOk (xs.length + ys.length) = true then newL (xs ++ ys) h else .err) Q E := p
                by_cases c : lineOk (xs.length + ys.length) = true
                · rw [if_pos c] at p
                  obtain ⟨vs, e1, t1⟩ := seq_at R (show seqOf h m = some xs by unfold seqOf; rw [q1]; rfl) ha
                  obtain ⟨ws, e2, t2⟩ := seq_at R (show seqOf h n = some ys by unfold seqOf; rw [q2]; rfl) hb
                  refine op_cat pins s σ H _ _ v u Q I rx ry ⟨pa, pb, vs, ws, rfl, rfl, e1, e2, ?_, Po.list R (t1.app t2) p⟩
                  have := line_le c
                  rw [t1.length, t2.length] at this
                  exact this
                · rw [if_neg c] at p
                  exact False.elim p
      | _ => exact False.elim p
    | _ => exact False.elim p
  | Sub =>
    cases ta with
    | int i =>
      cases tb with
      | int j => exact op_sub pins s σ H _ _ v u Q I rx ry ⟨i, j, rfl, rfl, Po.here R (.int _) p⟩
      | _ => exact False.elim p
    | _ => exact False.elim p
  | Mult =>
    cases ta with
    | int i =>
      cases tb with
      | int j =>
        have p : PoV _ r H (if mulOk i j = true then .ok (.int (i * j)) h else .err) Q E := p
        by_cases c : mulOk i j = true
        · rw [if_pos c] at p
          exact op_mulW pins s σ H _ _ v u Q I rx ry ⟨i, j, rfl, rfl, Nat.le_of_ble_eq_true c, Po.here R (.int _) p⟩
        · rw [if_neg c] at p
          exact False.elim p
      | _ => exact False.elim p
    | @tup xs a vs qa ha =>
      cases tb with
      | int j =>
        have p : PoV _ r H (if repOk xs.length j = true then .ok (.tup (List.replicate j.toNat xs).flatten) h else .err) Q E := p
        by_cases c : repOk xs.length j = true
        · rw [if_pos c] at p
          obtain ⟨c0, c1, c2, c3⟩ := repOk_is c
          have lx := ha.length
          refine op_repT pins s σ H _ _ v u Q I rx ry ⟨a, j, vs, rfl, rfl, qa, fun e => ?_, c2, c3, by omega, fun q hq => ?_⟩
          · subst e
            exact c0 lx
          · obtain ⟨R', st⟩ := Step.other (u := HO.tup (List.replicate j.toNat vs).flatten) R hq
            exact p _ _ _ st R' (.tup (SqT.of upd_same) ((ha.rep j.toNat).step R st))
        · rw [if_neg c] at p
          exact False.elim p
      | _ => exact False.elim p
    | @ref m pa ha =>
      cases tb with
      | int j =>
        have p : PoV _ r H (match h[m]? with
          | some (.lst a) => if repOk a.length j = true then newL (List.replicate j.toNat a).flatten h else .err
          | none => .err) Q E := p
        cases q1 : h[m]? with
        | none =>
          rw [q1] at p
          exact False.elim p
        | some o1 =>
          rw [q1] at p
          cases o1 with
          | lst xs =>
            have p : PoV _ r H (if repOk xs.length j = true then newL (List.replicate j.toNat xs).flatten h else .err) Q E := p
            by_cases c : repOk xs.length j = true
            · rw [if_pos c] at p
              obtain ⟨c0, c1, c2, c3⟩ := repOk_is c
              obtain ⟨vs, e1, t1⟩ := seq_at R (show seqOf h m = some xs by unfold seqOf; rw [q1]; rfl) ha
              have lx := t1.length
              refine op_rep pins s σ H _ _ v u Q I rx ry ⟨pa, j, vs, rfl, rfl, e1, by omega, by omega, ?_, Po.list R (t1.rep j.toNat) p⟩
              rw [sizeLine_eq]
              have a1 : vs.length * j.toNat ≤ 1000 * 1000 := Nat.mul_le_mul (by omega) (by omega)
              omega
            · rw [if_neg c] at p
              exact False.elim p
      | _ => exact False.elim p
    | _ => exact False.elim p
  | FloorDiv =>
    cases ta with
    | int i =>
      cases tb with
      | int j =>
        have p : PoV _ r H (if divOk j = true then .ok (.int (i.fdiv j)) h else .err) Q E := p
        by_cases c : divOk j = true
        · rw [if_pos c] at p
          obtain ⟨t, rfl⟩ := rx
          obtain ⟨t', rfl⟩ := ry
          have c' := Bool.and_eq_true_iff.mp c
          have hj : j ≠ 0 := bne_iff_ne.mp c'.1
          have hl : j.natAbs.log2 < 9000 := Nat.le_of_ble_eq_true c'.2
          exact floordiv_int hj ⟨.int _, H, I.tok _, ⟨_, rfl⟩, Po.here R (.int _) p⟩ (.inl (PyProof.noPylong_of_log2 hl))
        · rw [if_neg c] at p
          exact False.elim p
      | _ => exact False.elim p
    | _ => exact False.elim p
  | Mod =>
    cases ta with
    | int i =>
      cases tb with
      | int j =>
        have p : PoV _ r H (if (j != 0) = true then .ok (.int (i.fmod j)) h else .err) Q E := p
        by_cases c : (j != 0) = true
        · rw [if_pos c] at p
          exact op_modN pins s σ H _ _ v u Q I rx ry ⟨i, j, rfl, rfl, bne_iff_ne.mp c, Po.here R (.int _) p⟩
        · rw [if_neg c] at p
          exact False.elim p
      | _ => exact False.elim p
    | _ => exact False.elim p
  | Pow =>
    cases ta with
    | int i =>
      cases tb with
      | int j =>
        have p : PoV _ r H (if powOk i j = true then .ok (.int (i ^ j.toNat)) h else .err) Q E := p
        by_cases c : powOk i j = true
        · rw [if_pos c] at p
          have c1 := Bool.and_eq_true_iff.mp c
          have c2 := Bool.and_eq_true_iff.mp c1.1
          exact op_pow pins s σ H _ _ v u Q I rx ry ⟨i, j, rfl, rfl, ⟨of_decide_eq_true c2.1, of_decide_eq_true c2.2, Nat.le_of_ble_eq_true c1.2⟩, Po.here R (.int _) p⟩
        · rw [if_neg c] at p
          exact False.elim p
      | _ => exact False.elim p
    | _ => exact False.elim p
  | _ => exact False.elim p
end
end Ev

/-! text Fw4 -/
set_option Elab.async false
set_option linter.all false
set_option maxRecDepth 100000
set_option maxHeartbeats 4000000
/-! Ev: comparisons, truth, items, slices, built-ins, methods. -/
namespace Ev
open PySem PySem.Spec PyProof.Rows L2
section
variable {S : Ws} {r : List Addr} {H : Hp} {h : Ho} {X : Cx} {G : Pg}
def rC (S : Ws) (op : CmpOp) : R2 := fun v u H Q => ∃ r h a b k, Rel S r h H ∧ Ra S r H a v ∧ Ra S r H b u ∧ cmpA op a b h = some k ∧ Q (.bl k) H
theorem eqD_dp (R : Rel S r h H) {a b : A} {v u : V} {k : Bool} (ta : Ra S r H a v) (tb : Ra S r H b u) (e : eqD a b h = some k) :
    ∃ d f, Dp S.K H v d ∧ Dp S.K H u f ∧ SeqAt.shaped d = true ∧ SeqAt.shaped f = true ∧ PyData.eqv d f = k := by
  unfold eqD at e
  cases q1 : dataOf h a with
  | none =>
    rw [q1] at e
    cases e
  | some d =>
    cases q2 : dataOf h b with
    | none =>
      rw [q1, q2] at e
      cases e
    | some f =>
      rw [q1, q2] at e
      have e : (if (SeqAt.shaped d && SeqAt.shaped f) = true then some (PyData.eqv d f) else none) = some k := e
      by_cases c : (SeqAt.shaped d && SeqAt.shaped f) = true
      · rw [if_pos c] at e
        obtain ⟨c1, c2⟩ := Bool.and_eq_true_iff.mp c
        exact ⟨d, f, dp_of R 12 q1 ta, dp_of R 12 q2 tb, c1, c2, Option.some.inj e⟩
      · rw [if_neg c] at e
        cases e
theorem inA_dp (R : Rel S r h H) {a b : A} {v u : V} {k : Bool} (ta : Ra S r H a v) (tb : Ra S r H b u) (e : inA a b h = some k) :
    ∃ d ds, Dp S.K H v d ∧ SeqAt.shaped d = true ∧ (ds.any fun z => PyData.eqv z d) = k ∧ ((Dp S.K H u (.tuple ds) ∧ SeqAt.shaped (.tuple ds) = true) ∨ (Dp S.K H u (.list ds) ∧ SeqAt.shaped (.list ds) = true)) := by
  unfold inA at e
  cases q1 : dataOf h a with
  | none =>
    rw [q1] at e
    cases e
  | some d =>
    cases q2 : dataOf h b with
    | none =>
      rw [q1, q2] at e
      cases e
    | some f =>
      rw [q1, q2] at e
      cases f with
      | tuple ds =>
        have e : (if (SeqAt.shaped d && SeqAt.shaped (.tuple ds)) = true then some (ds.any fun z => PyData.eqv z d) else none) = some k := e
        by_cases c : (SeqAt.shaped d && SeqAt.shaped (.tuple ds)) = true
        · rw [if_pos c] at e
          obtain ⟨c1, c2⟩ := Bool.and_eq_true_iff.mp c
          exact ⟨d, ds, dp_of R 12 q1 ta, c1, Option.some.inj e, .inl ⟨dp_of R 12 q2 tb, c2⟩⟩
        · rw [if_neg c] at e
          cases e
      | list ds =>
        have e : (if (SeqAt.shaped d && SeqAt.shaped (.list ds)) = true then some (ds.any fun z => PyData.eqv z d) else none) = some k := e
        by_cases c : (SeqAt.shaped d && SeqAt.shaped (.list ds)) = true
        · rw [if_pos c] at e
          obtain ⟨c1, c2⟩ := Bool.and_eq_true_iff.mp c
          exact ⟨d, ds, dp_of R 12 q1 ta, c1, Option.some.inj e, .inr ⟨dp_of R 12 q2 tb, c2⟩⟩
        · rw [if_neg c] at e
          cases e
      | _ => cases e
theorem non_of {a : A} {v : V} (t : Ra S r H a v) : decide (v = .non) = isNon a := by
  cases t <;> rfl
theorem eqS_is {a b : A} {k : Bool} {v u : V} (e : eqS a b = some k) (ta : Ra S r H a v) (tb : Ra S r H b u) : scal v u = true ∧ decide (v = u) = k := by
  cases ta with
  | int i =>
    cases tb with
    | int j =>
      cases e
      refine ⟨rfl, ?_⟩
      by_cases c : i = j
      · subst c
        rw [beq_self_eq_true]
        exact decide_eq_true rfl
      · rw [beq_eq_false_iff_ne.mpr c]
        exact decide_eq_false fun q => c (by cases q; rfl)
    | _ => cases e
  | str i =>
    cases tb with
    | str j =>
      cases e
      refine ⟨rfl, ?_⟩
      by_cases c : i = j
      · subst c
        rw [beq_self_eq_true]
        exact decide_eq_true rfl
      · rw [beq_eq_false_iff_ne.mpr c]
        exact decide_eq_false fun q => c (by cases q; rfl)
    | _ => cases e
  | _ => cases e
theorem op_cmp (hu : X.A.units + 65 < cLine) (op : CmpOp) : OpR X (compareOp op) (rC (sOf X G) op) := by
  intro pins s σ H x y v u Q I rx ry hh
  obtain ⟨r, h, a, b, k, R, ta, tb, e, q⟩ := hh
  have hu64 : X.A.units + 64 < cLine := by omega
  cases op with
  | Eq =>
    have e : eqA a b h = some k := e
    cases qs : eqS a b with
    | some k1 =>
      have e2 : eqA a b h = some k1 := by
        unfold eqA
        rw [qs]
      rw [e2] at e
      cases e
      obtain ⟨z1, z2⟩ := eqS_is qs ta tb
      exact op_eq pins s σ H x y v u Q I rx ry ⟨z1, by rw [z2]; exact q⟩
    | none =>
      have e2 : eqA a b h = eqD a b h := by
        unfold eqA
        rw [qs]
      rw [e2] at e
      obtain ⟨d, f, h1, h2, h3, h4, h5⟩ := eqD_dp R ta tb e
      exact op_eqD hu64 pins s σ H x y v u Q I rx ry ⟨d, f, h1, h2, h3, h4, by rw [h5]; exact q⟩
  | NotEq =>
    have e : (eqA a b h).map (!·) = some k := e
    cases q1 : eqA a b h with
    | none =>
      rw [q1] at e
      cases e
    | some k' =>
      rw [q1] at e
      cases e
      cases qs : eqS a b with
      | some k1 =>
        have e2 : eqA a b h = some k1 := by
          unfold eqA
          rw [qs]
        rw [e2] at q1
        cases q1
        obtain ⟨z1, z2⟩ := eqS_is qs ta tb
        exact op_ne pins s σ H x y v u Q I rx ry ⟨z1, by rw [z2]; exact q⟩
      | none =>
        have e2 : eqA a b h = eqD a b h := by
          unfold eqA
          rw [qs]
        rw [e2] at q1
        obtain ⟨d, f, h1, h2, h3, h4, h5⟩ := eqD_dp R ta tb q1
        exact op_neD hu64 pins s σ H x y v u Q I rx ry ⟨d, f, h1, h2, h3, h4, by rw [h5]; exact q⟩
  | Lt =>
    cases ta with
    | int i =>
      cases tb with
      | int j =>
        cases e
        exact op_lt pins s σ H _ _ v u Q I rx ry ⟨i, j, rfl, rfl, q⟩
      | _ => cases e
    | _ => cases e
  | LtE =>
    cases ta with
    | int i =>
      cases tb with
      | int j =>
        cases e
        exact op_le pins s σ H _ _ v u Q I rx ry ⟨i, j, rfl, rfl, q⟩
      | _ => cases e
    | _ => cases e
  | Gt =>
    cases ta with
    | int i =>
      cases tb with
      | int j =>
        cases e
        exact op_gt pins s σ H _ _ v u Q I rx ry ⟨i, j, rfl, rfl, q⟩
      | _ => cases e
    | _ => cases e
  | GtE =>
    cases ta with
    | int i =>
      cases tb with
      | int j =>
        cases e
        exact op_ge pins s σ H _ _ v u Q I rx ry ⟨i, j, rfl, rfl, q⟩
      | _ => cases e
    | _ => cases e
  | Is =>
    cases tb with
    | non =>
      cases e
      exact op_isN pins s σ H x _ v u Q I rx ry ⟨rfl, by rw [non_of ta]; exact q⟩
    | _ => cases e
  | IsNot =>
    cases tb with
    | non =>
      cases e
      exact op_notN pins s σ H x _ v u Q I rx ry ⟨rfl, by rw [non_of ta]; exact q⟩
    | _ => cases e
  | In =>
    obtain ⟨d, ds, h1, h2, h3, h4⟩ := inA_dp R ta tb e
    obtain ⟨as, g1⟩ := Dp.reads I d x v h1 rx
    have room : X.A.units + 1 + min (PyData.depthAll ds) d.depth < cLine := room_in_shaped h2 hu
    rcases h4 with ⟨h4, h5⟩ | ⟨h4, h5⟩
    · obtain ⟨bs, g2⟩ := Dp.reads I _ y u h4 ry
      exact SeqAt.in_tuple_reads g2 g1 (SeqAt.canLay_of_shaped h5) (SeqAt.canLay_of_shaped h2) room ⟨.bl _, H, I, rfl, by rw [h3]; exact q⟩
    · obtain ⟨bs, g2⟩ := Dp.reads I _ y u h4 ry
      exact SeqAt.in_list_reads g2 g1 (SeqAt.canLay_of_shaped h5) (SeqAt.canLay_of_shaped h2) room ⟨.bl _, H, I, rfl, by rw [h3]; exact q⟩
  | NotIn =>
    have e : (inA a b h).map (!·) = some k := e
    cases q1 : inA a b h with
    | none =>
      rw [q1] at e
      cases e
    | some k' =>
      rw [q1] at e
      cases e
      obtain ⟨d, ds, h1, h2, h3, h4⟩ := inA_dp R ta tb q1
      obtain ⟨as, g1⟩ := Dp.reads I d x v h1 rx
      have room : X.A.units + 1 + min (PyData.depthAll ds) d.depth < cLine := room_in_shaped h2 hu
      rcases h4 with ⟨h4, h5⟩ | ⟨h4, h5⟩
      · obtain ⟨bs, g2⟩ := Dp.reads I _ y u h4 ry
        exact SeqAt.notIn_tuple_reads g2 g1 (SeqAt.canLay_of_shaped h5) (SeqAt.canLay_of_shaped h2) room ⟨.bl _, H, I, rfl, by rw [h3]; exact q⟩
      · obtain ⟨bs, g2⟩ := Dp.reads I _ y u h4 ry
        exact SeqAt.notIn_list_reads g2 g1 (SeqAt.canLay_of_shaped h5) (SeqAt.canLay_of_shaped h2) room ⟨.bl _, H, I, rfl, by rw [h3]; exact q⟩

/-! ### truth, minus -/
theorem isEmpty_ra {as : List A} {vs : List V} (t : Ras S r H as vs) : vs.isEmpty = as.isEmpty := by
  cases t <;> rfl
theorem tru_of (R : Rel S r h H) {a : A} {v : V} {k : Bool} (t : Ra S r H a v) (e : truth a h = some k) : TruV S.K v H k := by
  cases t with
  | non => exact (Option.some.inj e).symm
  | bl b => exact (Option.some.inj e).symm
  | int i => exact (Option.some.inj e).symm
  | str x =>
    have e : (if lineOk x.length = true then some ((x.length : Int) != 0) else none) = some k := e
    by_cases c : lineOk x.length = true
    · rw [if_pos c] at e
      exact ⟨line_le c, (Option.some.inj e).symm⟩
    · rw [if_neg c] at e
      cases e
  | tup q t =>
    refine .inr (.inl ⟨_, q, ?_⟩)
    rw [isEmpty_ra t]
    exact (Option.some.inj e).symm
  | lis q t =>
    refine .inl ⟨_, q.sq, ?_⟩
    rw [isEmpty_ra t]
    exact (Option.some.inj e).symm
  | @ref n p ep =>
    have e : (seqOf h n).map (fun xs => !xs.isEmpty) = some k := e
    cases q : seqOf h n with
    | none =>
      rw [q] at e
      cases e
    | some xs =>
      rw [q] at e
      obtain ⟨vs, e2, t2⟩ := seq_at R q ep
      refine .inl ⟨vs, SqL.of e2, ?_⟩
      rw [isEmpty_ra t2]
      exact (Option.some.inj e).symm
  | fn _ _ => cases e
theorem un_minus : UnR X (unaryOp .USub) (fun v H Q => ∃ r h a b, Rel (sOf X G) r h H ∧ Ra (sOf X G) r H a v ∧ negA a = some b ∧ ∀ u, Ra (sOf X G) r H b u → Q u H) := by
  intro pins s σ H x v Q I rx hh
  obtain ⟨r, h, a, b, R, t, e, q⟩ := hh
  cases t with
  | int i =>
    cases e
    exact un_neg pins s σ H _ v Q I rx ⟨i, rfl, q _ (.int _)⟩
  | _ => cases e

/-! ### items -/
theorem idx_eq (n : Nat) (i : Int) : idx n i = ixN n i := rfl
theorem ix_all : IxR X (fun v u H Q => ∃ r h a b c, Rel (sOf X G) r h H ∧ Ra (sOf X G) r H a v ∧ Ra (sOf X G) r H b u ∧ subA a b h = some c ∧ ∀ w, Ra (sOf X G) r H c w → Q w H) := by
  intro value slice pins s σ H x y v u Q I rx ry hh hsub
  obtain ⟨r, h, a, b, c, R, ta, tb, e, q⟩ := hh
  have look : ∀ {xs : List A} {vs : List V} {k : Int}, Ras (sOf X G) r H xs vs → ((idx xs.length k).bind fun j => xs[j]?) = some c → ∃ w, atI vs k = some w ∧ Q w H := fun {xs vs k} t e => by
    rw [idx_eq, t.length] at e
    unfold atI
    cases q1 : ixN vs.length k with
    | none =>
      rw [q1] at e
      cases e
    | some j =>
      rw [q1] at e
      obtain ⟨w, e1, t1⟩ := t.get (show xs[j]? = some c from e)
      exact ⟨w, e1, q w t1⟩
  cases tb with
  | int k =>
    cases ta with
    | tup hq t =>
      obtain ⟨w, e1, q1⟩ := look t e
      exact ix_tup value slice pins s σ H _ _ v u Q I rx ry ⟨_, _, k, w, rfl, rfl, hq, e1, q1⟩ hsub
    | lis hq t =>
      obtain ⟨w, e1, q1⟩ := look t e
      exact ix_list value slice pins s σ H _ _ v u Q I rx ry ⟨_, _, k, w, rfl, rfl, hq.sq, e1, q1⟩ hsub
    | @ref n p ep =>
      have e : ((seqOf h n).bind fun xs => (idx xs.length k).bind fun j => xs[j]?) = some c := e
      cases q0 : seqOf h n with
      | none =>
        rw [q0] at e
        cases e
      | some xs =>
        rw [q0] at e
        obtain ⟨vs, e2, t2⟩ := seq_at R q0 ep
        obtain ⟨w, e1, q1⟩ := look t2 e
        exact ix_list value slice pins s σ H _ _ v u Q I rx ry ⟨_, _, k, w, rfl, rfl, SqL.of e2, e1, q1⟩ hsub
    | str z =>
      have e : (if lineOk z.length = true then (idx z.cps.toList.length k).bind fun j => (z.cps.toList[j]?).map fun c => A.str ⟨#[c]⟩ else none) = some c := e
      by_cases cz : lineOk z.length = true
      · rw [if_pos cz] at e
        rw [idx_eq] at e
        cases q1 : ixN z.cps.toList.length k with
        | none =>
          rw [q1] at e
          cases e
        | some j =>
          rw [q1] at e
          have e : (z.cps.toList[j]?).map (fun c => A.str ⟨#[c]⟩) = some c := e
          cases q2 : z.cps.toList[j]? with
          | none =>
            rw [q2] at e
            cases e
          | some cp =>
            rw [q2] at e
            cases e
            refine ix_str value slice pins s σ H _ _ v u Q I rx ry ⟨z, k, cp, rfl, rfl, line_le cz, ?_, q _ (.str _)⟩ hsub
            unfold atI
            rw [q1]
            exact q2
      · rw [if_neg cz] at e
        cases e
    | _ => cases e
  | _ => cases e

/-! ### slices -/
theorem clip_sIx (n d : Nat) (o : Option Int) : clipI n d o = HT.sIx n d o := by
  cases o <;> rfl
theorem cut_ra {xs : List A} {vs : List V} (t : Ras S r H xs vs) (lo hi : Option Int) : Ras S r H (cut xs lo hi) (cutV vs lo hi) := by
  unfold cut cutV
  rw [t.length, clip_sIx, clip_sIx]
  exact (t.drop _).take _
theorem cutV_whole {vs : List V} {lo hi : Option Int} (e1 : HT.sIx vs.length 0 lo = 0) (e2 : HT.sIx vs.length vs.length hi = vs.length) : cutV vs lo hi = vs := by
  unfold cutV
  rw [e1, e2, List.drop_zero, Nat.sub_zero, List.take_length]
theorem Ras.uniq {as bs : List A} {vs : List V} (e : as = bs) (t : Ras S r H as vs) : Ras S r H bs vs := e ▸ t
/-- the reading of a slice by values -/
def rSl (S : Ws) : V → Option Int → Option Int → Hp → VK → Prop := fun v lo hi H Q => ∃ r h a E, Rel S r h H ∧ Ra S r H a v ∧ PoV S r H (match a with
  | .tup xs => .ok (.tup (cut xs lo hi)) h
  | .lis xs => newL (cut xs lo hi) h
  | .ref n => match seqOf h n with
    | some xs => newL (cut xs lo hi) h
    | none => .err
  | _ => .err) Q E
theorem sl_all : SlR X (rSl (sOf X G)) := by
  intro pins s σ H x v vl vu lo hi sl Q I rx hs pl pu hh
  obtain ⟨r, h, a, E, R, t, p⟩ := hh
  cases t with
  | @tup xs p0 vs hq t =>
    refine sl_tupA pins s σ H _ v vl vu lo hi sl Q I rx hs pl pu ⟨p0, vs, rfl, hq, fun ⟨e1, e2⟩ => ?_, fun _ q hq0 => ?_⟩
    · have t2 := cut_ra t lo hi
      rw [cutV_whole e1 e2] at t2
      exact Po.here R (.tup hq t2) p
    · obtain ⟨R', st⟩ := Step.other (u := HO.tup (cutV vs lo hi)) R hq0
      exact p _ _ _ st R' (.tup (SqT.of upd_same) ((cut_ra t lo hi).step R st))
  | lis hq t => exact sl_list pins s σ H _ v vl vu lo hi sl Q I rx hs pl pu ⟨_, _, rfl, hq.sq, Po.list R (cut_ra t lo hi) p⟩
  | @ref n p0 ep =>
    have p : PoV (sOf X G) r H (match seqOf h n with
      | some xs => newL (cut xs lo hi) h
      | none => .err) Q E := p
    cases q0 : seqOf h n with
    | none =>
      rw [q0] at p
      exact False.elim p
    | some xs =>
      rw [q0] at p
      obtain ⟨vs, e2, t2⟩ := seq_at R q0 ep
      exact sl_list pins s σ H _ v vl vu lo hi sl Q I rx hs pl pu ⟨_, _, rfl, SqL.of e2, Po.list R (cut_ra t2 lo hi) p⟩
  | _ => exact False.elim p
end
end Ev

/-! text Fw5 -/
set_option Elab.async false
set_option linter.all false
set_option maxRecDepth 100000
set_option maxHeartbeats 4000000
/-! Ev: built-ins and methods. -/
namespace Ev
open PySem PySem.Spec PyProof.Rows L2
section
variable {S : Ws} {r : List Addr} {H : Hp} {h : Ho} {X : Cx} {G : Pg}
def Bl.val : Bl → Value
  | .len => .builtin "len" | .abs => .builtin "abs" | .int => .type "int" | .bool => .type "bool" | .max => .builtin "max" | .min => .builtin "min"
  | .sum => .builtin "sum" | .any => .builtin "any" | .all => .builtin "all" | .tuple => .type "tuple" | .list => .type "list" | .isi _ => .builtin "isinstance" | .repr => .builtin "repr"
def Bl.name : Bl → String
  | .len => "len" | .abs => "abs" | .int => "int" | .bool => "bool" | .max => "max" | .min => "min" | .sum => "sum" | .any => "any" | .all => "all"
  | .tuple => "tuple" | .list => "list" | .isi _ => "isinstance" | .repr => "repr"
theorem Bl.boot (f : Bl) : bootBuiltins (f.name : Str) = some f.val := by
  cases f with
  | isi T =>
    show bootBuiltins "isinstance" = some (.builtin "isinstance")
    decide +kernel
  | _ => decide +kernel
def rBl (S : Ws) (f : Bl) : List V → Hp → VK → Prop := fun vs H Q => ∃ r h as E, Rel S r h H ∧ Ras S r H as vs ∧ PoV S r H (bltA f as h) Q E

theorem ints_of : ∀ {as : List A} {vs : List V} {ns : List Int}, Ras S r H as vs → intsOf as = some ns → vs = ns.map V.int
  | [], _, _, .nil, e => by
    cases e
    rfl
  | .int i :: as, _, ns, .cons t ts, e => by
    cases t
    have e : (intsOf as).map (i :: ·) = some ns := e
    cases q : intsOf as with
    | none =>
      rw [q] at e
      cases e
    | some ms =>
      rw [q] at e
      cases e
      rw [ints_of ts q]
      rfl
theorem bls_of : ∀ {as : List A} {vs : List V} {ns : List Bool}, Ras S r H as vs → blsOf as = some ns → vs = ns.map V.bl
  | [], _, _, .nil, e => by
    cases e
    rfl
  | .bl i :: as, _, ns, .cons t ts, e => by
    cases t
    have e : (blsOf as).map (i :: ·) = some ns := e
    cases q : blsOf as with
    | none =>
      rw [q] at e
      cases e
    | some ms =>
      rw [q] at e
      cases e
      rw [bls_of ts q]
      rfl
theorem least_is : ∀ (xs : List Int) (m : Int), least m xs ∈ m :: xs ∧ ∀ y, y ∈ m :: xs → least m xs ≤ y
  | [], m => ⟨List.mem_cons_self, fun y hy => by
    rcases List.mem_cons.mp hy with e | e
    · rw [e]
      exact Int.le_refl _
    · cases e⟩
  | x :: r, m => by
    obtain ⟨h1, h2⟩ := least_is r (if x < m then x else m)
    show least (if x < m then x else m) r ∈ _ ∧ ∀ y, _ → least (if x < m then x else m) r ≤ y
    refine ⟨?_, fun y hy => ?_⟩
    · rcases List.mem_cons.mp h1 with e | e
      · rw [e]
        split
        · exact List.mem_cons_of_mem _ List.mem_cons_self
        · exact List.mem_cons_self
      · exact List.mem_cons_of_mem _ (List.mem_cons_of_mem _ e)
    · have hb := h2 _ List.mem_cons_self
      rcases List.mem_cons.mp hy with e | e
      · subst e
        split at hb <;> split <;> omega
      · rcases List.mem_cons.mp e with e | e
        · subst e
          split at hb <;> split <;> omega
        · exact h2 y (List.mem_cons_of_mem _ e)
theorem most_is : ∀ (xs : List Int) (m : Int), most m xs ∈ m :: xs ∧ ∀ y, y ∈ m :: xs → y ≤ most m xs
  | [], m => ⟨List.mem_cons_self, fun y hy => by
    rcases List.mem_cons.mp hy with e | e
    · rw [e]
      exact Int.le_refl _
    · cases e⟩
  | x :: r, m => by
    obtain ⟨h1, h2⟩ := most_is r (if m < x then x else m)
    show most (if m < x then x else m) r ∈ _ ∧ ∀ y, _ → y ≤ most (if m < x then x else m) r
    refine ⟨?_, fun y hy => ?_⟩
    · rcases List.mem_cons.mp h1 with e | e
      · rw [e]
        split
        · exact List.mem_cons_of_mem _ List.mem_cons_self
        · exact List.mem_cons_self
      · exact List.mem_cons_of_mem _ (List.mem_cons_of_mem _ e)
    · have hb := h2 _ List.mem_cons_self
      rcases List.mem_cons.mp hy with e | e
      · subst e
        split at hb <;> split <;> omega
      · rcases List.mem_cons.mp e with e | e
        · subst e
          split at hb <;> split <;> omega
        · exact h2 y (List.mem_cons_of_mem _ e)
def isiT (T : String) : Bool := T == "int" || T == "bool" || T == "str" || T == "tuple" || T == "list"
theorem isi_of {T : String} (hT : isiT T = true) {a : A} {v : V} {b : Bool} (R : Rel S r h H) (t : Ra S r H a v) (e : isiA T a = some b) : ∃ ty, TyX S.K H v (.type ty) ∧ kitB ty T = some b := by
  have five : T = "int" ∨ T = "bool" ∨ T = "str" ∨ T = "tuple" ∨ T = "list" := by
    unfold isiT at hT
    simp only [Bool.or_eq_true, beq_iff_eq] at hT
    rcases hT with (((h | h) | h) | h) | h
    · exact .inl h
    · exact .inr (.inl h)
    · exact .inr (.inr (.inl h))
    · exact .inr (.inr (.inr (.inl h)))
    · exact .inr (.inr (.inr (.inr h)))
  cases t with
  | non =>
    cases e
    refine ⟨"NoneType", .base .non, ?_⟩
    rcases five with h | h | h | h | h <;> subst h <;> decide +kernel
  | bl k =>
    cases e
    refine ⟨"bool", .base (.bl k), ?_⟩
    rcases five with h | h | h | h | h <;> subst h <;> decide +kernel
  | int k =>
    cases e
    refine ⟨"int", .base (.int k), ?_⟩
    rcases five with h | h | h | h | h <;> subst h <;> decide +kernel
  | str k =>
    cases e
    refine ⟨"str", .base (.str k), ?_⟩
    rcases five with h | h | h | h | h <;> subst h <;> decide +kernel
  | @tup xs a vs hq t =>
    cases e
    refine ⟨"tuple", ?_, ?_⟩
    · rcases hq with (q | ⟨o, q⟩) | ⟨o, its, n, q1, q2, _⟩
      · exact .base (.tup q)
      · exact .fTuple q
      · exact .kTuple q1 q2
    · rcases five with h | h | h | h | h <;> subst h <;> decide +kernel
  | @lis xs a vs hq t =>
    cases e
    refine ⟨"list", ?_, ?_⟩
    · rcases hq with ⟨o, q⟩ | ⟨o, its, n, q1, q2, _⟩
      · exact .base (.frz q)
      · exact .kList q1 q2
    · rcases five with h | h | h | h | h <;> subst h <;> decide +kernel
  | @ref n p ep =>
    cases e
    obtain ⟨vs, q⟩ := R.lstOf (List.mem_of_getElem? ep)
    refine ⟨"list", .base (.lst q), ?_⟩
    rcases five with h | h | h | h | h <;> subst h <;> decide +kernel
  | fn _ _ => cases e
/-- isinstance(x, T), T a built-in class -/
theorem call_isT {T : String} (hT : isiT T = true) : CallR X (.builtin "isinstance") (fun xs H Q => ∃ r h a v E, xs = [v, .ty T] ∧ Rel (sOf X G) r h H ∧ Ra (sOf X G) r H a v ∧ PoV (sOf X G) r H (bltA (.isi T) [a] h) Q E) := by
  intro pins s σ H xs us Q I rx hh
  obtain ⟨r, h, a, v, E, rfl, R, t, p⟩ := hh
  have p : PoV (sOf X G) r H (match isiA T a with
    | some b => .ok (.bl b) h
    | none => .err) Q E := p
  cases e : isiA T a with
  | none =>
    rw [e] at p
    exact False.elim p
  | some b =>
    rw [e] at p
    obtain ⟨ty, h1, h2⟩ := isi_of hT R t e
    exact call_isi pins s σ H _ us Q I rx ⟨v, .ty T, _, .type T, b, rfl, .ty T, h1, kit_ty h2, Po.here R (.bl b) p⟩

theorem seq_or {n : Nat} {v : V} {Q : VK} {E : XK} {f : List A → R A} (R : Rel S r h H) (t : Ra S r H (.ref n) v) (p : PoV S r H (match seqOf h n with
    | some ys => f ys
    | none => .err) Q E) : ∃ p0 xs vs, v = .ref p0 ∧ SqL S.K H p0 vs ∧ Ras S r H xs vs ∧ PoV S r H (f xs) Q E := by
  cases q : seqOf h n with
  | none =>
    rw [q] at p
    exact False.elim p
  | some xs =>
    rw [q] at p
    obtain ⟨p0, vs, e1, e2, t2⟩ := ref_seq R q t
    exact ⟨p0, xs, vs, e1, e2, t2, p⟩
theorem ra_lis {xs : List A} {v : V} (t : Ra S r H (.lis xs) v) : ∃ a vs, v = .ref a ∧ SqL S.K H a vs ∧ Ras S r H xs vs := by
  cases t with
  | lis q t => exact ⟨_, _, rfl, q.sq, t⟩
theorem ra_tup {xs : List A} {v : V} (t : Ra S r H (.tup xs) v) : ∃ a vs, v = .ref a ∧ SqT S.K H a vs ∧ Ras S r H xs vs := by
  cases t with
  | tup q t => exact ⟨_, _, rfl, q, t⟩
theorem bl_len : CallR X (.builtin "len") (rBl (sOf X G) .len) := by
  intro pins s σ H xs us Q I rx hh
  obtain ⟨r, h, as, E, R, t, p⟩ := hh
  cases t with
  | nil => exact False.elim p
  | @cons a v as vs t ts =>
    cases ts with
    | cons _ _ => cases a <;> exact False.elim p
    | nil =>
      cases a with
      | tup ys =>
        obtain ⟨b, ws, rfl, hq, tt⟩ := ra_tup t
        refine call_len_seq pins s σ H _ us Q I rx ⟨b, ws, rfl, .inr hq, ?_⟩
        rw [← tt.length]
        exact Po.here R (.int _) p
      | lis ys =>
        obtain ⟨b, ws, rfl, hq, tt⟩ := ra_lis t
        refine call_len_seq pins s σ H _ us Q I rx ⟨b, ws, rfl, .inl hq, ?_⟩
        rw [← tt.length]
        exact Po.here R (.int _) p
      | ref n =>
        obtain ⟨b, ys, ws, rfl, hq, tt, p⟩ := seq_or R t p
        refine call_len_seq pins s σ H _ us Q I rx ⟨b, ws, rfl, .inl hq, ?_⟩
        rw [← tt.length]
        exact Po.here R (.int _) p
      | str z =>
        cases t
        have p : PoV (sOf X G) r H (if lineOk z.length = true then .ok (.int z.length) h else .err) Q E := p
        by_cases c : lineOk z.length = true
        · rw [if_pos c] at p
          exact call_len_str pins s σ H _ us Q I rx ⟨z, rfl, line_le c, Po.here R (.int _) p⟩
        · rw [if_neg c] at p
          exact False.elim p
      | _ => exact False.elim p
theorem bl_abs : CallR X (.builtin "abs") (rBl (sOf X G) .abs) := by
  intro pins s σ H xs us Q I rx hh
  obtain ⟨r, h, as, E, R, t, p⟩ := hh
  cases t with
  | nil => exact False.elim p
  | @cons a v as vs t ts =>
    cases ts with
    | cons _ _ => cases a <;> exact False.elim p
    | nil =>
      cases t with
      | int i => exact call_abs pins s σ H _ us Q I rx ⟨i, rfl, Po.here R (.int _) p⟩
      | _ => exact False.elim p
theorem bl_int : CallR X (.type "int") (rBl (sOf X G) .int) := by
  intro pins s σ H xs us Q I rx hh
  obtain ⟨r, h, as, E, R, t, p⟩ := hh
  cases t with
  | nil => exact False.elim p
  | @cons a v as vs t ts =>
    cases ts with
    | cons _ _ => cases a <;> exact False.elim p
    | nil =>
      cases t with
      | int i => exact call_int1 pins s σ H _ us Q I rx (.inl ⟨i, rfl, Po.here R (.int _) p⟩)
      | bl i => exact call_int1 pins s σ H _ us Q I rx (.inr ⟨i, rfl, Po.here R (.int _) p⟩)
      | _ => exact False.elim p
theorem bl_bool : CallR X (.type "bool") (rBl (sOf X G) .bool) := by
  intro pins s σ H xs us Q I rx hh
  obtain ⟨r, h, as, E, R, t, p⟩ := hh
  cases t with
  | nil => exact False.elim p
  | @cons a v as vs t ts =>
    cases ts with
    | cons _ _ => cases a <;> exact False.elim p
    | nil =>
      cases t with
      | int i => exact call_bool1 pins s σ H _ us Q I rx (.inl ⟨i, rfl, Po.here R (.bl _) p⟩)
      | bl i => exact call_bool1 pins s σ H _ us Q I rx (.inr ⟨i, rfl, Po.here R (.bl _) p⟩)
      | _ => exact False.elim p
theorem bl_tuple : CallR X (.type "tuple") (rBl (sOf X G) .tuple) := by
  intro pins s σ H xs us Q I rx hh
  obtain ⟨r, h, as, E, R, t, p⟩ := hh
  cases t with
  | nil => exact False.elim p
  | @cons a v as vs t ts =>
    cases ts with
    | cons _ _ => cases a <;> exact False.elim p
    | nil =>
      cases a with
      | tup ys =>
        obtain ⟨b, ws, rfl, hq, tt⟩ := ra_tup t
        exact call_tuple_of pins s σ H _ us Q I rx ⟨b, ws, rfl, .inr ⟨hq, Po.here R t p⟩⟩
      | ref n =>
        obtain ⟨b, ys, ws, rfl, hq, tt, p⟩ := seq_or R t p
        refine call_tuple_of pins s σ H _ us Q I rx ⟨b, ws, rfl, .inl ⟨hq, fun q hq0 => ?_⟩⟩
        obtain ⟨R', st⟩ := Step.other (u := HO.tup ws) R hq0
        exact p _ _ _ st R' (.tup (SqT.of upd_same) (tt.step R st))
      | _ => exact False.elim p
theorem bl_list : CallR X (.type "list") (rBl (sOf X G) .list) := by
  intro pins s σ H xs us Q I rx hh
  obtain ⟨r, h, as, E, R, t, p⟩ := hh
  cases t with
  | nil => exact False.elim p
  | @cons a v as vs t ts =>
    cases ts with
    | cons _ _ => cases a <;> exact False.elim p
    | nil =>
      cases a with
      | tup ys =>
        obtain ⟨b, ws, rfl, hq, tt⟩ := ra_tup t
        exact call_list_of pins s σ H _ us Q I rx ⟨b, ws, rfl, .inr hq, Po.list R tt p⟩
      | ref n =>
        obtain ⟨b, ys, ws, rfl, hq, tt, p⟩ := seq_or R t p
        exact call_list_of pins s σ H _ us Q I rx ⟨b, ws, rfl, .inl hq, Po.list R tt p⟩
      | _ => exact False.elim p
theorem ints_or {n : Nat} {v : V} {Q : VK} {E : XK} {f : List Int → R A} (R : Rel S r h H) (t : Ra S r H (.ref n) v) (p : PoV S r H (match (seqOf h n).bind intsOf with
    | some ys => f ys
    | none => .err) Q E) : ∃ p0 ns, v = .ref p0 ∧ SqL S.K H p0 (ns.map V.int) ∧ PoV S r H (f ns) Q E := by
  cases q : seqOf h n with
  | none =>
    rw [q] at p
    exact False.elim p
  | some xs =>
    rw [q] at p
    cases q2 : intsOf xs with
    | none =>
      rw [show (some xs).bind intsOf = none from q2] at p
      exact False.elim p
    | some ns =>
      rw [show (some xs).bind intsOf = some ns from q2] at p
      obtain ⟨p0, vs, e1, e2, t2⟩ := ref_seq R q t
      rw [ints_of t2 q2] at e2
      exact ⟨p0, ns, e1, e2, p⟩
theorem bls_or {n : Nat} {v : V} {Q : VK} {E : XK} {f : List Bool → R A} (R : Rel S r h H) (t : Ra S r H (.ref n) v) (p : PoV S r H (match (seqOf h n).bind blsOf with
    | some ys => f ys
    | none => .err) Q E) : ∃ p0 ns, v = .ref p0 ∧ SqL S.K H p0 (ns.map V.bl) ∧ PoV S r H (f ns) Q E := by
  cases q : seqOf h n with
  | none =>
    rw [q] at p
    exact False.elim p
  | some xs =>
    rw [q] at p
    cases q2 : blsOf xs with
    | none =>
      rw [show (some xs).bind blsOf = none from q2] at p
      exact False.elim p
    | some ns =>
      rw [show (some xs).bind blsOf = some ns from q2] at p
      obtain ⟨p0, vs, e1, e2, t2⟩ := ref_seq R q t
      rw [bls_of t2 q2] at e2
      exact ⟨p0, ns, e1, e2, p⟩
theorem bl_sum (hc : X.calm = true) : CallR X (.builtin "sum") (rBl (sOf X G) .sum) := by
  intro pins s σ H xs us Q I rx hh
  obtain ⟨r, h, as, E, R, t, p⟩ := hh
  cases t with
  | nil => exact False.elim p
  | @cons a v as vs t ts =>
    cases ts with
    | cons _ _ => cases a <;> exact False.elim p
    | nil =>
      cases a with
      | ref n =>
        obtain ⟨b, ns, rfl, hq, p⟩ := ints_or (f := fun ns => .ok (.int ns.sum) h) R t p
        exact cr_sum hc pins s σ H _ us Q I rx ⟨b, ns, rfl, hq, Po.here R (.int _) p⟩
      | _ => exact False.elim p
theorem bl_any (hc : X.calm = true) : CallR X (.builtin "any") (rBl (sOf X G) .any) := by
  intro pins s σ H xs us Q I rx hh
  obtain ⟨r, h, as, E, R, t, p⟩ := hh
  cases t with
  | nil => exact False.elim p
  | @cons a v as vs t ts =>
    cases ts with
    | cons _ _ => cases a <;> exact False.elim p
    | nil =>
      cases a with
      | ref n =>
        obtain ⟨b, ns, rfl, hq, p⟩ := bls_or (f := fun ns => .ok (.bl (ns.any id)) h) R t p
        exact cr_any hc pins s σ H _ us Q I rx ⟨b, ns, rfl, hq, Po.here R (.bl _) p⟩
      | _ => exact False.elim p
theorem bl_all' (hc : X.calm = true) : CallR X (.builtin "all") (rBl (sOf X G) .all) := by
  intro pins s σ H xs us Q I rx hh
  obtain ⟨r, h, as, E, R, t, p⟩ := hh
  cases t with
  | nil => exact False.elim p
  | @cons a v as vs t ts =>
    cases ts with
    | cons _ _ => cases a <;> exact False.elim p
    | nil =>
      cases a with
      | ref n =>
        obtain ⟨b, ns, rfl, hq, p⟩ := bls_or (f := fun ns => .ok (.bl (ns.all id)) h) R t p
        exact cr_all hc pins s σ H _ us Q I rx ⟨b, ns, rfl, hq, Po.here R (.bl _) p⟩
      | _ => exact False.elim p
theorem bl_max (hc : X.calm = true) : CallR X (.builtin "max") (rBl (sOf X G) .max) := by
  intro pins s σ H xs us Q I rx hh
  obtain ⟨r, h, as, E, R, t, p⟩ := hh
  cases t with
  | nil => exact False.elim p
  | @cons a v as vs t ts =>
    cases ts with
    | nil =>
      cases a with
      | ref n =>
        obtain ⟨b, ns, rfl, hq, p⟩ := ints_or (f := fun ns => match ns with
          | i :: r => .ok (.int (most i r)) h
          | [] => .err) R t (by
            have p : PoV (sOf X G) r H (match (seqOf h n).bind intsOf with
              | some (i :: r) => .ok (.int (most i r)) h
              | _ => .err) Q E := p
            cases q : (seqOf h n).bind intsOf with
            | none =>
              rw [q] at p
              exact p
            | some l =>
              rw [q] at p
              cases l <;> exact p)
        cases ns with
        | nil => exact False.elim p
        | cons i l =>
          obtain ⟨m1, m2⟩ := most_is l i
          refine cr_max hc pins s σ H _ us Q I rx ⟨b, i :: l, rfl, hq, Nat.succ_pos _, fun m h1 h2 => ?_⟩
          have e : m = most i l := Int.le_antisymm (m2 m h1) (h2 _ m1)
          rw [e]
          exact Po.here R (.int _) p
      | _ => exact False.elim p
    | @cons a2 v2 as2 vs2 t2 ts2 =>
      cases ts2 with
      | cons _ _ => cases a <;> cases a2 <;> exact False.elim p
      | nil =>
        cases t with
        | int i =>
          cases t2 with
          | int j => exact call_max2 hc pins s σ H _ us Q I rx ⟨i, j, rfl, Po.here R (.int _) p⟩
          | _ => exact False.elim p
        | _ => exact False.elim p
theorem bl_min (hc : X.calm = true) : CallR X (.builtin "min") (rBl (sOf X G) .min) := by
  intro pins s σ H xs us Q I rx hh
  obtain ⟨r, h, as, E, R, t, p⟩ := hh
  cases t with
  | nil => exact False.elim p
  | @cons a v as vs t ts =>
    cases ts with
    | nil =>
      cases a with
      | ref n =>
        obtain ⟨b, ns, rfl, hq, p⟩ := ints_or (f := fun ns => match ns with
          | i :: r => .ok (.int (least i r)) h
          | [] => .err) R t (by
            have p : PoV (sOf X G) r H (match (seqOf h n).bind intsOf with
              | some (i :: r) => .ok (.int (least i r)) h
              | _ => .err) Q E := p
            cases q : (seqOf h n).bind intsOf with
            | none =>
              rw [q] at p
              exact p
            | some l =>
              rw [q] at p
              cases l <;> exact p)
        cases ns with
        | nil => exact False.elim p
        | cons i l =>
          obtain ⟨m1, m2⟩ := least_is l i
          refine cr_min hc pins s σ H _ us Q I rx ⟨b, i :: l, rfl, hq, Nat.succ_pos _, fun m h1 h2 => ?_⟩
          have e : m = least i l := Int.le_antisymm (h2 _ m1) (m2 m h1)
          rw [e]
          exact Po.here R (.int _) p
      | _ => exact False.elim p
    | @cons a2 v2 as2 vs2 t2 ts2 =>
      cases ts2 with
      | cons _ _ => cases a <;> cases a2 <;> exact False.elim p
      | nil =>
        cases t with
        | int i =>
          cases t2 with
          | int j => exact call_min2 hc pins s σ H _ us Q I rx ⟨i, j, rfl, Po.here R (.int _) p⟩
          | _ => exact False.elim p
        | _ => exact False.elim p
theorem bl_repr (hg : X.A.guards = some []) (hu : X.A.units + 65 < cLine) : CallR X (.builtin "repr") (rBl (sOf X G) .repr) := by
  intro pins s σ H xs us Q I rx hh
  obtain ⟨r, h, as, E, R, t, p⟩ := hh
  cases t with
  | nil => exact False.elim p
  | @cons a v as vs t ts =>
    cases ts with
    | cons _ _ => cases a <;> exact False.elim p
    | nil =>
      have p : PoV (sOf X G) r H (match dataOf h a with
        | some d => if (d.showable && !d.hasDict && Nat.ble d.depth 64 && lineOk d.shown.length) = true then .ok (.str d.shown) h else .err
        | none => .err) Q E := p
      cases e : dataOf h a with
      | none =>
        rw [e] at p
        exact False.elim p
      | some d =>
        rw [e] at p
        have p : PoV (sOf X G) r H (if (d.showable && !d.hasDict && Nat.ble d.depth 64 && lineOk d.shown.length) = true then .ok (.str d.shown) h else .err) Q E := p
        by_cases c : (d.showable && !d.hasDict && Nat.ble d.depth 64 && lineOk d.shown.length) = true
        · rw [if_pos c] at p
          obtain ⟨c1, c4⟩ := Bool.and_eq_true_iff.mp c
          obtain ⟨c2, c3⟩ := Bool.and_eq_true_iff.mp c1
          obtain ⟨cs, cd⟩ := Bool.and_eq_true_iff.mp c2
          have hsz : d.shown.length ≤ sizeLine := line_le c4
          have hdp : d.depth ≤ 64 := Nat.le_of_ble_eq_true c3
          have hnd : d.hasDict = false := by
            cases z : d.hasDict with
            | false => rfl
            | true =>
              rw [z] at cd
              cases cd
          have q : Q (.str d.shown) H := Po.here R (.str _) p
          obtain ⟨u, rfl, ru⟩ := vals1 rx
          have dp := dp_of R 12 e t
          obtain ⟨as, rd⟩ := Dp.reads I d v u dp ru
          cases dp with
          | non =>
            cases ru
            exact PySem.P.repr_of_none ⟨.str _, H, I.tok _, ⟨_, rfl⟩, q⟩
          | bl b =>
            cases ru
            refine PySem.P.repr_of_bool ⟨.str _, H, I.tok _, ⟨_, rfl⟩, ?_⟩
            exact q
          | int i =>
            obtain ⟨tk, rfl⟩ := ru
            exact PySem.P.repr_of_int (of_decide_eq_true cs) ⟨.str _, H, I.tok _, ⟨_, rfl⟩, q⟩
          | str x =>
            obtain ⟨tk, rfl⟩ := ru
            exact PySem.P.repr_of_str ⟨.str _, H, I.tok _, ⟨_, rfl⟩, q⟩ hsz
          | lst _ _ =>
            cases ru
            exact repr_of_reads' rd cs (fun z => by rw [hnd] at z; cases z) hg (by omega) (fun _ _ z => z) (fun h' u tk hk => ⟨.str _, H, I.kept hk, ⟨_, rfl⟩, q⟩) hsz
          | tup _ _ =>
            cases ru
            exact repr_of_reads' rd cs (fun z => by rw [hnd] at z; cases z) hg (by omega) (fun _ _ z => z) (fun h' u tk hk => ⟨.str _, H, I.kept hk, ⟨_, rfl⟩, q⟩) hsz
        · rw [if_neg c] at p
          exact False.elim p
/-- every built-in but isinstance -/
theorem bl_call (hc : X.calm = true) (hg : X.A.guards = some []) (hu : X.A.units + 65 < cLine) : ∀ f : Bl, (∀ T, f ≠ .isi T) → CallR X f.val (rBl (sOf X G) f)
  | .len, _ => bl_len
  | .abs, _ => bl_abs
  | .int, _ => bl_int
  | .bool, _ => bl_bool
  | .max, _ => bl_max hc
  | .min, _ => bl_min hc
  | .sum, _ => bl_sum hc
  | .any, _ => bl_any hc
  | .all, _ => bl_all' hc
  | .tuple, _ => bl_tuple
  | .list, _ => bl_list
  | .isi T, n => absurd rfl (n T)
  | .repr, _ => bl_repr hg hu
end
end Ev

/-! text Fw6 -/
set_option Elab.async false
set_option linter.all false
set_option maxRecDepth 100000
set_option maxHeartbeats 4000000
/-! Ev: methods of lists; stores. -/
namespace Ev
open PySem PySem.Spec PyProof.Rows L2
section
variable {S : Ws} {r : List Addr} {H : Hp} {h : Ho} {X : Cx} {G : Pg}
def Mt.name : Mt → String
  | .append => "append" | .insert => "insert" | .pop => "pop" | .extend => "extend"
def Mt.id : Mt → String
  | .append => "list.append" | .insert => "list.insert" | .pop => "list.pop" | .extend => "list.extend"
def rMt (S : Ws) (m : Mt) : V → List V → Hp → VK → Prop := fun v vs H Q => ∃ r h n as E, Rel S r h H ∧ Ra S r H (.ref n) v ∧ Ras S r H as vs ∧ PoV S r H (mthA m (.ref n) as h) Q E
theorem ref_lst (R : Rel S r h H) {n : Nat} {v : V} {xs : List A} (e : h[n]? = some (.lst xs)) (t : Ra S r H (.ref n) v) : ∃ p vs, v = .ref p ∧ r[n]? = some p ∧ H p = some (.lst vs) ∧ Ras S r H xs vs := by
  cases t with
  | ref ep =>
    obtain ⟨p, vs, e1, e2, t2⟩ := R.at_ n xs e
    rw [ep] at e1
    cases e1
    exact ⟨_, vs, rfl, ep, e2, t2⟩
theorem Po.put {xs ys : List A} {ws : List V} {n : Nat} {p : Addr} {Q : VK} {E : XK} {a : A} {v : V} (R : Rel S r h H) (e : h[n]? = some (.lst ys)) (ep : r[n]? = some p) (t : Ras S r H xs ws) (ta : Ra S r H a v)
    (q : PoV S r H (.ok a (setL n xs h)) Q E) : Q v (upd H p (.lst ws)) := by
  obtain ⟨R', st⟩ := R.put e ep t
  exact q _ _ _ st R' (ta.step R st)
theorem lst_or {n : Nat} {Q : VK} {E : XK} {f : List A → R A} (p : PoV S r H (match h[n]? with
    | some (.lst ys) => f ys
    | none => .err) Q E) : ∃ ys, h[n]? = some (.lst ys) ∧ PoV S r H (f ys) Q E := by
  cases q : h[n]? with
  | none =>
    rw [q] at p
    exact False.elim p
  | some o =>
    cases o with
    | lst ys =>
      rw [q] at p
      exact ⟨ys, rfl, p⟩
theorem mt_app : MtR X "list.append" (rMt (sOf X G) .append) := by
  intro pins s σ H x xs v us Q I rx rs hh
  obtain ⟨r, h, n, as, E, R, t, ts, p⟩ := hh
  have p : PoV (sOf X G) r H (match h[n]? with
    | some (.lst ys) => mthA .append (.ref n) as h
    | none => .err) Q E := by
    cases q : h[n]? with
    | none =>
      have : mthA .append (.ref n) as h = .err := by
        unfold mthA
        simp only [q]
      rw [this] at p
      exact p
    | some o =>
      cases o with
      | lst ys => exact p
  obtain ⟨ys, e, p⟩ := lst_or (f := fun _ => mthA .append (.ref n) as h) p
  obtain ⟨p0, vs, rfl, ep, e2, t2⟩ := ref_lst R e t
  unfold mthA at p
  simp only [e] at p
  cases ts with
  | nil => exact False.elim p
  | @cons a v0 as vs0 ta ts =>
    cases ts with
    | cons _ _ => exact False.elim p
    | nil =>
      have p : PoV (sOf X G) r H (if lineOk (ys.length + 1) = true then .ok .non (setL n (ys ++ [a]) h) else .err) Q E := p
      by_cases c : lineOk (ys.length + 1) = true
      · rw [if_pos c] at p
        have hz := line_le c
        rw [t2.length] at hz
        exact mt_append pins s σ H _ _ v us Q I rx rs ⟨p0, vs, v0, rfl, rfl, e2, hz, Po.put R e ep (t2.snoc ta) .non p⟩
      · rw [if_neg c] at p
        exact False.elim p
theorem mt_ins : MtR X "list.insert" (rMt (sOf X G) .insert) := by
  intro pins s σ H x xs v us Q I rx rs hh
  obtain ⟨r, h, n, as, E, R, t, ts, p⟩ := hh
  unfold mthA at p
  cases e : h[n]? with
  | none =>
    simp only [e] at p
    exact False.elim p
  | some o =>
    cases o with
    | lst ys =>
      simp only [e] at p
      obtain ⟨p0, vs, rfl, ep, e2, t2⟩ := ref_lst R e t
      cases ts with
      | nil => exact False.elim p
      | @cons a v0 as vs0 ta ts =>
        cases ts with
        | nil => cases a <;> exact False.elim p
        | @cons a1 v1 as1 vs1 ta1 ts1 =>
          cases ts1 with
          | cons _ _ => cases a <;> exact False.elim p
          | nil =>
            cases ta with
            | int i =>
              have p : PoV (sOf X G) r H (if (lineOk (ys.length + 1) && decide (0 ≤ i) && decide (i < 2 ^ 63)) = true then .ok .non (setL n (ys.take i.toNat ++ [a1] ++ ys.drop i.toNat) h) else .err) Q E := p
              by_cases c : (lineOk (ys.length + 1) && decide (0 ≤ i) && decide (i < 2 ^ 63)) = true
              · rw [if_pos c] at p
                obtain ⟨c1, c3⟩ := Bool.and_eq_true_iff.mp c
                obtain ⟨c1, c2⟩ := Bool.and_eq_true_iff.mp c1
                have hz := line_le c1
                rw [t2.length] at hz
                exact mt_insert pins s σ H _ _ v us Q I rx rs ⟨p0, vs, i, v1, rfl, rfl, e2, hz, of_decide_eq_true c2, of_decide_eq_true c3, Po.put R e ep (((t2.take _).snoc ta1).app (t2.drop _)) .non p⟩
              · rw [if_neg c] at p
                exact False.elim p
            | _ => exact False.elim p
theorem mt_popE : MtR X "list.pop" (rMt (sOf X G) .pop) := by
  intro pins s σ H x xs v us Q I rx rs hh
  obtain ⟨r, h, n, as, E, R, t, ts, p⟩ := hh
  unfold mthA at p
  cases e : h[n]? with
  | none =>
    simp only [e] at p
    exact False.elim p
  | some o =>
    cases o with
    | lst ys =>
      simp only [e] at p
      obtain ⟨p0, vs, rfl, ep, e2, t2⟩ := ref_lst R e t
      cases ts with
      | cons _ _ => exact False.elim p
      | nil =>
        have p : PoV (sOf X G) r H (match ys[ys.length - 1]? with
          | some y => .ok y (setL n ys.dropLast h)
          | none => .err) Q E := p
        cases q : ys[ys.length - 1]? with
        | none =>
          rw [q] at p
          exact False.elim p
        | some y =>
          rw [q] at p
          obtain ⟨w, e3, t3⟩ := t2.get q
          rw [t2.length] at e3
          exact mt_pop pins s σ H _ _ v us Q I rx rs ⟨p0, vs, w, rfl, rfl, e2, e3, Po.put R e ep t2.dropLast t3 p⟩
theorem mt_ext : MtR X "list.extend" (rMt (sOf X G) .extend) := by
  intro pins s σ H x xs v us Q I rx rs hh
  obtain ⟨r, h, n, as, E, R, t, ts, p⟩ := hh
  unfold mthA at p
  cases e : h[n]? with
  | none =>
    simp only [e] at p
    exact False.elim p
  | some o =>
    cases o with
    | lst ys =>
      simp only [e] at p
      obtain ⟨p0, vs, rfl, ep, e2, t2⟩ := ref_lst R e t
      cases ts with
      | nil => exact False.elim p
      | @cons a v0 as vs0 ta ts =>
        cases ts with
        | cons _ _ => cases a <;> exact False.elim p
        | nil =>
          cases a with
          | ref k =>
            simp only at p
            cases e4 : h[k]? with
            | none =>
              simp only [e4] at p
              exact False.elim p
            | some o =>
              cases o with
              | lst zs =>
                simp only [e4] at p
                obtain ⟨p1, ws, rfl, ep1, e5, t5⟩ := ref_lst R e4 ta
                by_cases c : (n != k && lineOk (ys.length + zs.length)) = true
                · rw [if_pos c] at p
                  have hz := line_le (Bool.and_eq_true_iff.mp c).2
                  rw [t2.length, t5.length] at hz
                  exact mt_extend pins s σ H _ _ v us Q I rx rs ⟨p0, p1, vs, ws, rfl, rfl, e2, e5, hz, Po.put R e ep (t2.app t5) .non p⟩
                · rw [if_neg c] at p
                  exact False.elim p
          | _ => exact False.elim p
theorem mt_call : ∀ m : Mt, MtR X m.id (rMt (sOf X G) m)
  | .append => mt_app
  | .insert => mt_ins
  | .pop => mt_popE
  | .extend => mt_ext
theorem mt_slot : ∀ m : Mt, Slot "list" (m.name : Str) m.id
  | .append => PySem.F.slot_list_append
  | .insert => PySem.F.slot_list_insert
  | .pop => PySem.F.slot_list_pop
  | .extend => PySem.F.slot_list_extend
theorem mt_type : ∀ m : Mt, typeOf (.builtin m.id) = pure (.type "method_descriptor")
  | .append => PySem.F.type_list_append
  | .insert => PySem.F.type_list_insert
  | .pop => PySem.F.type_list_pop
  | .extend => PySem.F.type_list_extend
/-- o[i] = v -/
def rSt (S : Ws) : V → V → V → Hp → (Hp → Prop) → Prop := fun o i v H Q => ∃ r h a b c h', Rel S r h H ∧ Ra S r H a o ∧ Ra S r H b i ∧ Ra S r H c v ∧ stoA a b c h = some h' ∧ ∀ r' H', Step r H r' H' → Rel S r' h' H' → Q H'
theorem set_all : PSet X (rSt (sOf X G)) := by
  intro pins s σ H o i v ov iv u Q I ro ri rv hh
  obtain ⟨r, h, a, b, c, h', R, ta, tb, tc, e, q⟩ := hh
  unfold stoA at e
  cases a with
  | ref n =>
    cases tb with
    | int k =>
      simp only at e
      cases e1 : h[n]? with
      | none =>
        simp only [e1] at e
        cases e
      | some ob =>
        cases ob with
        | lst xs =>
          simp only [e1] at e
          obtain ⟨p0, vs, rfl, ep, e2, t2⟩ := ref_lst R e1 ta
          rw [idx_eq] at e
          cases e3 : ixN xs.length k with
          | none =>
            rw [e3] at e
            cases e
          | some j =>
            rw [e3] at e
            cases e
            obtain ⟨R', st⟩ := R.put e1 ep (t2.set tc j)
            rw [t2.length] at e3
            exact set_list pins s σ H _ _ v ov iv u Q I ro ri rv ⟨p0, vs, k, j, rfl, rfl, e2, e3, q _ _ st R'⟩
    | _ => cases e
  | _ => cases e
end
end Ev

/-! text Fw7 -/
set_option Elab.async false
set_option linter.all false
set_option maxRecDepth 100000
set_option maxHeartbeats 4000000
/-! Ev: the check that a piece of syntax is what a term of the language says; the calls' contracts. -/
namespace Ev
open PySem PySem.Spec PyProof.Rows L2

/-- the names by their slots, the program, the module's constants -/
structure Ck where
  N : List Str
  G : Pg
  cts : List (Str × A)
  exn : List Str
def visB (sc : Scope) (x : Str) : Bool := match sc.names.lookup x with
  | some .local => true
  | some .cell => true
  | some .free => true
  | _ => false
def locB (sc : Scope) (x : Str) : Bool := match sc.names.lookup x with
  | some .local => true
  | some .cell => true
  | _ => false
def isLocB (sc : Scope) (x : Str) : Bool := match sc.names.lookup x with
  | some .local => true
  | _ => false
def glB (sc : Scope) (x : Str) : Bool := match sc.names.lookup x with
  | some .globalImplicit => true
  | _ => false
def dbgB (x : Str) : Bool := !(x == ("__debug__" : Str)) && !(x == ("__classdict__" : Str)) && !(x == ("__name__" : Str))
def isStar : Expr → Bool
  | .Starred _ _ => true
  | _ => false
def isSlice : Expr → Bool
  | .Slice _ _ _ _ => true
  | _ => false
def isAttr : Expr → Bool
  | .Attribute _ _ _ => true
  | _ => false
def isCall : Expr → Bool
  | .Call _ _ _ _ => true
  | _ => false
def isSet : Expr → Bool
  | .Set _ _ _ => true
  | _ => false
def opEq : Operator → Operator → Bool
  | .Add, .Add => true | .Sub, .Sub => true | .Mult, .Mult => true | .FloorDiv, .FloorDiv => true | .Mod, .Mod => true | .Pow, .Pow => true
  | _, _ => false
def cmpEq : CmpOp → CmpOp → Bool
  | .Eq, .Eq => true | .NotEq, .NotEq => true | .Lt, .Lt => true | .LtE, .LtE => true | .Gt, .Gt => true | .GtE, .GtE => true
  | .Is, .Is => true | .IsNot, .IsNot => true | .In, .In => true | .NotIn, .NotIn => true
  | _, _ => false
def litEq : A → Const → Bool
  | .non, .none => true
  | .bl a, .bool b => a == b
  | .int a, .int b => a == b
  | .str a, .str b => a == b
  | _, _ => false
/-- a module's name as a value: a def, a constant -/
def gloB (c : Ck) (x : Str) (a : A) : Bool := match a with
  | .fn i => match c.G.defs[i]? with
    | some d => d.name == x
    | none => false
  | a => match look x c.cts with
    | some b => A.beq a b
    | none => false
mutual
/-- a target; own: the block's own names (a def's: all) -/
def ckG (c : Ck) (sc : Scope) (own : Str → Bool) : Tg → Expr → Bool
  | .nm i, .Name x _ => decide (c.N[i]? = some x) && locB sc x && (own x || isLocB sc x)
  | .tp gs, .Tuple ts _ _ => ckGs c sc own gs ts
  | _, _ => false
def ckGs (c : Ck) (sc : Scope) (own : Str → Bool) : List Tg → List Expr → Bool
  | [], [] => true
  | g :: gs, t :: ts => !isStar t && ckG c sc own g t && ckGs c sc own gs ts
  | _, _ => false
end
mutual
/-- the target stores in these slots alone -/
def Tg.within (own : List Nat) : Tg → Bool
  | .nm i => own.any (· == i)
  | .tp gs => Tg.withins own gs
def Tg.withins (own : List Nat) : List Tg → Bool
  | [] => true
  | g :: gs => Tg.within own g && Tg.withins own gs
end
def isTupE : Expr → Bool
  | .Tuple _ _ _ => true
  | _ => false
def isNonE : E → Bool
  | .lit .non => true
  | _ => false
def isYes : T → Bool
  | .yes => true
  | _ => false
def Bl.isIsi : Bl → Bool
  | .isi _ => true
  | _ => false
def defB (c : Ck) (f : Nat) (x : Str) : Bool := match c.G.defs[f]? with
  | some d => d.name == x
  | none => false
def isCmp : Expr → Bool
  | .Compare _ _ _ _ => true
  | _ => false
def plainT : Expr → Bool
  | .UnaryOp .Not _ _ => false
  | .BoolOp _ _ _ => false
  | .IfExp _ _ _ _ => false
  | .Compare _ _ _ _ => false
  | _ => true
def ownOf (c : Ck) (own : List Nat) : List (Str × Nat) := own.map fun i => (c.N.getD i Str.empty, i)
mutual
def ckE (c : Ck) (sc : Scope) : E → Expr → Bool
  | .var i, .Name x _ => decide (c.N[i]? = some x) && visB sc x && dbgB x
  | .lit a, .Constant k _ _ => litEq a k
  | .glo x a, .Name y _ => x == y && glB sc y && dbgB y && gloB c y a
  | .neg a, .UnaryOp .USub x _ => ckE c sc a x
  | .not a, .UnaryOp .Not x _ => ckE c sc a x
  | .bin op a b, .BinOp x op' y _ => opEq op op' && ckE c sc a x && ckE c sc b y
  | .and a b, .BoolOp .And (x :: y :: r) p => ckE c sc a x && (match r with
    | [] => ckE c sc b y
    | z :: r => ckE c sc b (.BoolOp .And (y :: z :: r) p))
  | .or a b, .BoolOp .Or (x :: y :: r) p => ckE c sc a x && (match r with
    | [] => ckE c sc b y
    | z :: r => ckE c sc b (.BoolOp .Or (y :: z :: r) p))
  | .ite t a b, .IfExp z x y _ => ckT c sc t z && ckE c sc a x && ckE c sc b y
  | .cmp op a b, .Compare x [op'] [y] _ => cmpEq op op' && ckE c sc a x && ckE c sc b y && !isSet y
  | .chn op op2 a b d, .Compare x [op', op2'] [y, z] _ => cmpEq op op' && cmpEq op2 op2' && ckE c sc a x && ckE c sc b y && ckE c sc d z && !isSet z
  | .tup es, .Tuple xs _ _ => ckEs c sc es xs && Nat.ble es.length 1000
  | .lst es, .List xs _ => ckEs c sc es xs && Nat.ble es.length 1000
  | .sub a i, .Subscript x y _ => !isSlice y && ckE c sc a x && ckE c sc i y
  | .slc a lo hi, .Subscript x (.Slice l u none _) _ => ckE c sc a x && (match l with
    | none => isNonE lo
    | some l => ckE c sc lo l) && (match u with
    | none => isNonE hi
    | some u => ckE c sc hi u)
  | .rev a, .Subscript x (.Slice none none (some (.UnaryOp .USub (.Constant (.int k) _ _) _)) _) _ => k == 1 && ckE c sc a x
  | .call f es, .Call (.Name x _) args [] _ => defB c f x && glB sc x && dbgB x && ckEs c sc es args
  | .cval f es, .Call (.Subscript x y p) args [] _ => ckE c sc f (.Subscript x y p) && ckEs c sc es args
  | .isi T e, .Call (.Name x _) [y, .Name z _] [] _ => x == ("isinstance" : Str) && glB sc x && z == (T : Str) && glB sc z && isiT T && !isStar y && ckE c sc e y
  | .blt f es, .Call (.Name x _) args [] _ => !f.isIsi && x == (f.name : Str) && glB sc x && !args.isEmpty && ckEs c sc es args
  | .mth m o es, .Call (.Attribute x n ap) args [] p => n == (m.name : Str) && ap.endLine == p.line && !isCall x && ckE c sc o x && ckEs c sc es args && Nat.ble args.length 20
  | .comp e g it t own, .ListComp x [⟨tg, iter, ifs, as⟩] scope _ => as == 0 && blkC c.N sc scope (ownOf c own) && ckI c sc it iter tg && ckG c (relS scope sc) (fun x => scope.names.lookup x == some .cell) g tg && Tg.within own g
      && (match ifs with
        | [] => isYes t
        | [y] => ckT c (relS scope sc) t y
        | _ => false) && ckE c (relS scope sc) e x
  | _, _ => false
def ckEs (c : Ck) (sc : Scope) : List E → List Expr → Bool
  | [], [] => true
  | e :: es, x :: xs => !isStar x && ckE c sc e x && ckEs c sc es xs
  | _, _ => false
def ckT (c : Ck) (sc : Scope) : T → Expr → Bool
  | .and a b, .BoolOp .And (x :: y :: r) p => ckT c sc a x && (match r with
    | [] => ckT c sc b y
    | z :: r => ckT c sc b (.BoolOp .And (y :: z :: r) p))
  | .or a b, .BoolOp .Or (x :: y :: r) p => ckT c sc a x && (match r with
    | [] => ckT c sc b y
    | z :: r => ckT c sc b (.BoolOp .Or (y :: z :: r) p))
  | .not a, .UnaryOp .Not x _ => ckT c sc a x
  | .val e, x => (isCmp x || plainT x) && ckE c sc e x
  | _, _ => false
def ckI (c : Ck) (sc : Scope) : I → Expr → Expr → Bool
  | .sq e, x, _ => !isSet x && ckE c sc e x
  | .rg es, .Call (.Name x _) args [] _, _ => x == ("range" : Str) && glB sc x && (Nat.beq args.length 1 || Nat.beq args.length 2) && ckEs c sc es args
  | .zp a b, .Call (.Name x _) [y, z] [] _, tg => x == ("zip" : Str) && glB sc x && isTupE tg && !isStar y && !isStar z && ckE c sc a y && ckE c sc b z
  | .en a, .Call (.Name x _) [y] [] _, tg => x == ("enumerate" : Str) && glB sc x && isTupE tg && !isStar y && ckE c sc a y
  | _, _, _ => false
end

/-! ### a def's contract -/
structure FnG (P : Program) (w : World) (K : PySem.W.Frag) (mg : Str → Option Value) (base : Heap) (k : Nat) (f : Addr) (fd : FuncData) (ps : List Str) (sp : Sp) : Prop where
  len : ∀ vs H Q E, sp vs H Q E → vs.length = ps.length
  run : ∀ (A : Around) (outer : List Env) (s : Shared) (H : Hp) (args : Args) (us : List Value) (vs : List V) (Q : VK) (E : XK), A.guards = some [] → Room k A → Env0 P w K mg base A outer s H → BindsTo s fd args (ps.zip us) → Vals vs us →
    sp vs H Q E → codeAny (model P w) A (.call (.ref f) args) (CR (L2.CX P w) outer P w H s Q E) s
/-- what the computing says of a call -/
def spF (S : Ws) (C : Nat → List A → Ho → R A) (f : Nat) (n : Nat) : Sp := fun vs H Q E => ∃ r h as, Rel S r h H ∧ Ras S r H as vs ∧ as.length = n ∧ PoV S r H (C f as h) Q E
structure Wd (P : Program) (w : World) (K : PySem.W.Frag) (mg : Str → Option Value) (base : Heap) (c : Ck) (k : Nat) (C : Nat → List A → Ho → R A) : Prop where
  fns : ∀ (f : Nat) (d : Df), c.G.defs[f]? = some d → ∃ fa fd, mg d.name = some (.ref fa) ∧ PySem.W.keepIn K (.ref fa) = true ∧ Binds K fd (d.N.take d.ps) [] ∧ (d.N.take d.ps).length = d.ps ∧
    FnG P w K mg base k fa fd (d.N.take d.ps) (spF ⟨K, mg, c.G⟩ C f d.ps)
  args : ∀ (f : Nat) (d : Df) (as : List A) (h : Ho), c.G.defs[f]? = some d → as.length ≠ d.ps → C f as h = .err
  free : ∀ x : String, (["len", "abs", "int", "bool", "max", "min", "sum", "any", "all", "tuple", "list", "isinstance", "repr", "range", "zip", "enumerate", "str"] : List String).contains x = true → mg (x : Str) = none
  cts : ∀ x a, look x c.cts = some a → ∃ u v, mg x = some u ∧ RelV v u ∧ ∀ (b : A), A.beq b a = true → ∀ r H, Ra ⟨K, mg, c.G⟩ r H b v
/-- a context in which the language's terms are told -/
structure Cxt (X : Cx) (c : Ck) (sc : Scope) (own : Str → Bool) (k : Nat) (C : Nat → List A → Ho → R A) : Prop where
  wd : Wd X.prog X.w X.K X.mg X.base c k C
  N : X.N = c.N
  nd : c.N.Nodup
  sc : X.env.scope = sc
  own : ∀ x, own x = true → X.fn x = true
  calm : X.calm = true
  gd : X.A.guards = some []
  room : Room k X.A
theorem Cxt.un {X : Cx} {c : Ck} {sc : Scope} {own : Str → Bool} {k : Nat} {C : Nat → List A → Ho → R A} (t : Cxt X c sc own k C) : X.A.units + 65 < cLine := by
  have := t.room.un
  omega
/-- the callee runs -/
theorem run_call {X : Cx} {c : Ck} {sc : Scope} {own : Str → Bool} {k : Nat} {C : Nat → List A → Ho → R A} {W : WX} (t : Cxt X c sc own k C) (tk : Takes X W) {f : Nat} {d : Df} (hd : c.G.defs[f]? = some d) {pins : List (Addr × Obj)} {σ : L2.St} {H : Hp} {s : Shared} {Q : VK}
    {us : List Value} {vs : List V} (I : Inv X pins σ H s) (rv : Vals vs us) {r : List Addr} {h : Ho} {as : List A} (R : Rel (sOf X c.G) r h H) (ra : Ras (sOf X c.G) r H as vs) (p : PoV (sOf X c.G) r H (C f as h) Q fun cls d H' => W cls d σ H') {fa : Addr} (hf : X.mg d.name = some (.ref fa)) :
    wpAny (model X.prog X.w) X.A (call (.ref fa) us) (EP X pins σ Q) X.xe s := by
  obtain ⟨fa', fd, e1, kp, bd, hl, F⟩ := t.wd.fns f d hd
  rw [hf] at e1
  cases e1
  have ha : as.length = d.ps := by
    cases Nat.decEq as.length d.ps with
    | isTrue e => exact e
    | isFalse n =>
      rw [t.wd.args f d as h hd n] at p
      exact False.elim p
  have lu : us.length = (d.N.take d.ps).length := by rw [hl, ← ha, ra.length, rv.length]
  have b := bd s us I.kIn (by rw [List.append_nil]; exact lu)
  rw [List.append_nil] at b
  refine wpAny_call (codeAny_mono (F.run X.A X.stack s H ⟨us, []⟩ us vs Q (fun cls d H' => W cls d σ H') t.gd t.room I.env0 b rv ⟨r, h, as, R, ra, ha, p⟩) fun rr s' hq => ?_)
  cases rr with
  | error e => exact tk e s' (XE.of_call I (fun _ _ _ z => z) hq)
  | ok fl =>
    cases fl with
    | ret u => exact I.after hq
    | next => exact False.elim hq
    | brk => exact False.elim hq
    | cont => exact False.elim hq
end Ev

/-! text Fw8 -/
set_option Elab.async false
set_option linter.all false
set_option maxRecDepth 100000
set_option maxHeartbeats 4000000
/-! Ev: each construct of an expression: the layer's reading follows from what is computed. -/
namespace Ev
open PySem PySem.Spec PyProof.Rows L2
section
variable {X : Cx} {c : Ck} {sc : Scope} {own : Str → Bool} {k : Nat} {C : Nat → List A → Ho → R A} {W : WX}
theorem _root_.L2.PE.imp {x : Expr} {t t' : TE} (h : PE X x t) (q : ∀ σ H Q, t' σ H Q → t σ H Q) : PE X x t' := ⟨fun p s σ H Q I w => h.run p s σ H Q I (q _ _ _ w)⟩
theorem _root_.L2.PT.imp {x : Expr} {t t' : TT} (h : PT X x t) (q : ∀ σ H Q, t' σ H Q → t σ H Q) : PT X x t' := ⟨fun p s σ H Q I w => h.run p s σ H Q I (q _ _ _ w)⟩
theorem _root_.L2.PW.imp {x : Expr} {t t' : TT} (h : PW X x t) (q : ∀ σ H Q, t' σ H Q → t σ H Q) : PW X x t' := ⟨fun wh p s σ H Q I w => h.run wh p s σ H Q I (q _ _ _ w)⟩
theorem _root_.L2.PA.imp {x : List Expr} {t t' : TA} (h : PA X x t) (q : ∀ σ H Q, t' σ H Q → t σ H Q) : PA X x t' := ⟨fun pos p s σ H Q I w => h.run pos p s σ H Q I (q _ _ _ w)⟩
theorem _root_.L2.PE.sem {x : Expr} {f g : Sl → Ho → R A} {S : Ws} (h : PE X x (rdE S W f)) (e : ∀ s o, g s o = f s o) : PE X x (rdE S W g) := h.imp fun σ H Q ⟨r, s, o, a, p⟩ => ⟨r, s, o, a, by rw [e s o] at p; exact p⟩

theorem vis_of {x : Str} (t : Cxt X c sc own k C) (h : visB sc x = true) : Vis X.env.scope x := by
  rw [t.sc]
  unfold visB at h
  unfold Vis
  split at h
  · exact .inl ‹_›
  · exact .inr (.inl ‹_›)
  · exact .inr (.inr ‹_›)
  · cases h
theorem gl_of {x : Str} (t : Cxt X c sc own k C) (h : glB sc x = true) : Gl X x := by
  show X.env.scope.names.lookup x = _
  rw [t.sc]
  unfold glB at h
  split at h
  · assumption
  · cases h
theorem dbg_of {x : Str} (h : dbgB x = true) : (x == ("__debug__" : Str)) = false ∧ (x == ("__classdict__" : Str)) = false ∧ x ≠ "__name__" := by
  unfold dbgB at h
  obtain ⟨h1, h3⟩ := Bool.and_eq_true_iff.mp h
  obtain ⟨h1, h2⟩ := Bool.and_eq_true_iff.mp h1
  refine ⟨by simpa using h1, by simpa using h2, ?_⟩
  intro e
  subst e
  simp at h3
/-! ### names, constants -/
theorem e_var (t : Cxt X c sc own k C) {i : Nat} {x : Str} {p : Pos} (h1 : c.N[i]? = some x) (h2 : visB sc x = true) (h3 : dbgB x = true) : PE X (.Name x p) (rdE (sOf X c.G) W (evE C (.var i))) := by
  obtain ⟨d1, d2, _⟩ := dbg_of h3
  refine (pe_var (i := i) (by rw [t.N]; exact h1) (vis_of t h2) d1 d2).imp fun σ H Q ⟨r, s, h, a, q⟩ => ?_
  unfold evE at q
  cases e : s[i]? with
  | none =>
    rw [e] at q
    exact False.elim q
  | some o =>
    cases o with
    | none =>
      rw [e] at q
      exact False.elim q
    | some b =>
      rw [e] at q
      obtain ⟨v, e1, ra⟩ := a.sl.at_ i b e
      exact ⟨v, e1, Po.here a.rel ra q⟩
theorem e_lit {a : A} {ct : Const} {j : Nat} {p : Pos} {G : Pg} (h : litEq a ct = true) : PE X (.Constant ct j p) (rdE (sOf X G) W (evE C (.lit a))) := by
  unfold litEq at h
  split at h
  · exact pe_non.imp fun σ H Q ⟨r, s, h, a, q⟩ => Po.here a.rel .non q
  · rename_i b b'
    have e : b = b' := beq_iff_eq.mp h
    subst e
    exact pe_bl.imp fun σ H Q ⟨r, s, h, a, q⟩ => Po.here a.rel (.bl b) q
  · rename_i b b'
    have e : b = b' := beq_iff_eq.mp h
    subst e
    exact pe_int.imp fun σ H Q ⟨r, s, h, a, q⟩ => Po.here a.rel (.int b) q
  · rename_i b b'
    have e : b = b' := beq_iff_eq.mp h
    subst e
    exact pe_str.imp fun σ H Q ⟨r, s, h, a, q⟩ => Po.here a.rel (.str b) q
  · cases h
theorem glo_of (t : Cxt X c sc own k C) {x : Str} {a : A} (h : gloB c x a = true) : ∃ u v, X.mg x = some u ∧ RelV v u ∧ ∀ r H, Ra (sOf X c.G) r H a v := by
  have other : ∀ b, look x c.cts = some b → A.beq a b = true → (∃ u v, X.mg x = some u ∧ RelV v u ∧ ∀ r H, Ra (sOf X c.G) r H a v) := fun b e1 e2 => by
    obtain ⟨u, v, m1, m2, m3⟩ := t.wd.cts x b e1
    exact ⟨u, v, m1, m2, fun r H => m3 a e2 r H⟩
  unfold gloB at h
  split at h
  · rename_i i
    split at h
    · rename_i d hd
      have e : d.name = x := beq_iff_eq.mp h
      subst e
      obtain ⟨fa, fd, m1, _⟩ := t.wd.fns i d hd
      exact ⟨.ref fa, .ref fa, m1, rfl, fun r H => .fn hd m1⟩
    · cases h
  · split at h
    · rename_i b hb
      exact other b hb h
    · cases h
theorem e_glo (t : Cxt X c sc own k C) {x y : Str} {a : A} {p : Pos} (h1 : glB sc x = true) (h2 : dbgB x = true) (h3 : gloB c x a = true) : PE X (.Name x p) (rdE (sOf X c.G) W (evE C (.glo y a))) := by
  obtain ⟨d1, _, _⟩ := dbg_of h2
  obtain ⟨u, v, m1, m2, m3⟩ := glo_of t h3
  exact (pe_glob (gl_of t h1) m1 m2 d1).imp fun σ H Q ⟨r, s, h, a, q⟩ => Po.here a.rel (m3 r H) q

/-! ### operators -/
theorem e_neg {x : Expr} {p : Pos} {G : Pg} {f : Sl → Ho → R A} (ha : PE X x (rdE (sOf X G) W f)) : PE X (.UnaryOp .USub x p) (rdE (sOf X G) W fun s h => (f s h).bind fun a h => give (negA a) h) := by
  refine (pe_un (un_minus (G := G)) ha).imp fun σ H Q ⟨r, s, h, a, q⟩ => ⟨r, s, h, a, (Po.bind a q).mono fun v H1 ⟨r1, a1, h1, A1, st, t, q1⟩ => ?_⟩
  cases e : negA a1 with
  | none =>
    rw [e] at q1
    exact False.elim q1
  | some b =>
    rw [e] at q1
    exact ⟨r1, h1, a1, b, A1.rel, t, e, fun u tu => Po.here A1.rel tu q1⟩
theorem e_not {x : Expr} {p : Pos} {G : Pg} {f : Sl → Ho → R A} (ha : PE X x (rdE (sOf X G) W f)) : PE X (.UnaryOp .Not x p) (rdE (sOf X G) W fun s h => (f s h).bind fun a h => give ((truth a h).map fun b => .bl (!b)) h) := by
  refine (pe_notT ha).imp fun σ H Q ⟨r, s, h, a, q⟩ => ⟨r, s, h, a, (Po.bind a q).mono fun v H1 ⟨r1, a1, h1, A1, st, t, q1⟩ => ?_⟩
  cases e : truth a1 h1 with
  | none =>
    rw [e] at q1
    exact False.elim q1
  | some b =>
    rw [e] at q1
    exact ⟨b, tru_of A1.rel t e, Po.here A1.rel (.bl _) q1⟩
theorem R.assoc {α β γ : Type} (a : R α) (f : α → Ho → R β) (g : β → Ho → R γ) : (a.bind f).bind g = a.bind fun x h => (f x h).bind g := by
  cases a <;> rfl
/-- two parts in a row -/
theorem twoG {γ δ : Type} {rel : List Addr → Hp → γ → δ → Prop} {G : Pg} {f g : Sl → Ho → R A} {m : A → A → Ho → R γ} {σ : L2.St} {H : Hp} {Q : δ → Hp → Prop} {r : List Addr} {s : Sl} {h : Ho} (a : At (sOf X G) r s h σ H)
    (q : Po (sOf X G) rel r H ((f s h).bind fun a h => (g s h).bind fun b h => m a b h) Q fun cls d H' => W cls d σ H') :
    rdE (sOf X G) W f σ H fun v H1 => rdE (sOf X G) W g σ H1 fun u H2 => ∃ r h a b, At (sOf X G) r s h σ H2 ∧ Ra (sOf X G) r H2 a v ∧ Ra (sOf X G) r H2 b u ∧ Po (sOf X G) rel r H2 (m a b h) Q fun cls d H' => W cls d σ H' := by
  refine ⟨r, s, h, a, (Po.bind a q).mono fun v H1 ⟨r1, a1, h1, A1, st1, t1, q1⟩ => ⟨r1, s, h1, A1, (Po.bind A1 q1).mono fun u H2 ⟨r2, b2, h2, A2, st2, t2, q2⟩ => ?_⟩⟩
  exact ⟨r2, h2, a1, b2, A2, t1.step A1.rel st2, t2, q2⟩
/-- on with what is wanted -/
theorem rd_mono {G : Pg} {f : Sl → Ho → R A} {σ : L2.St} {H : Hp} {Q Q' : VK} (h : rdE (sOf X G) W f σ H Q) (k : ∀ v H, Q v H → Q' v H) : rdE (sOf X G) W f σ H Q' := by
  obtain ⟨r, s, h, a, q⟩ := h
  exact ⟨r, s, h, a, q.mono k⟩
theorem e_bin {x y : Expr} {p : Pos} {G : Pg} {f g : Sl → Ho → R A} (op : Operator) (ha : PE X x (rdE (sOf X G) W f)) (hb : PE X y (rdE (sOf X G) W g)) :
    PE X (.BinOp x op y p) (rdE (sOf X G) W fun s h => (f s h).bind fun a h => (g s h).bind fun b h => binA op a b h) := by
  refine (pe_op (op_bin (G := G) op) ha hb).imp fun σ H Q ⟨r, s, h, a, q⟩ => ?_
  exact rd_mono (twoG a q) fun v H1 q1 => rd_mono q1 fun u H2 ⟨r2, h2, b1, b2, A2, t1, t2, q2⟩ => ⟨r2, h2, b1, b2, _, A2.rel, t1, t2, q2⟩
theorem give_bl {G : Pg} {r : List Addr} {H : Hp} {h : Ho} {o : Option Bool} {Q : VK} {E : XK} (R : Rel (sOf X G) r h H) (q : PoV (sOf X G) r H (give (o.map A.bl) h) Q E) : ∃ k, o = some k ∧ Q (.bl k) H := by
  cases o with
  | none => exact False.elim q
  | some k => exact ⟨k, rfl, Po.here R (.bl k) q⟩
theorem mark_of {op : CmpOp} {y : Expr} (h : isSet y = false) : behindInMarks op y = false := by
  cases y <;> first
    | rfl
    | (exact absurd h (by simp [isSet]))
theorem e_cmp (t : Cxt X c sc own k C) {x y : Expr} {p : Pos} {f g : Sl → Ho → R A} (op : CmpOp) (hy : isSet y = false) (ha : PE X x (rdE (sOf X c.G) W f)) (hb : PE X y (rdE (sOf X c.G) W g)) :
    PE X (.Compare x [op] [y] p) (rdE (sOf X c.G) W fun s h => (f s h).bind fun a h => (g s h).bind fun b h => give ((cmpA op a b h).map .bl) h) := by
  refine (pe_cmpR (op_cmp (G := c.G) t.un op) ha hb (mark_of hy)).imp fun σ H Q ⟨r, s, h, a, q⟩ => ?_
  refine rd_mono (twoG a q) fun v H1 q1 => rd_mono q1 fun u H2 ⟨r2, h2, b1, b2, A2, t1, t2, q2⟩ => ?_
  obtain ⟨kk, e, q3⟩ := give_bl A2.rel q2
  exact ⟨r2, h2, b1, b2, kk, A2.rel, t1, t2, e, q3⟩
theorem give_tr {G : Pg} {r : List Addr} {H : Hp} {h : Ho} {o : Option Bool} {Q : Bool → Hp → Prop} {E : XK} (R : Rel (sOf X G) r h H) (q : PoB (sOf X G) r H ((give (o.map A.bl) h).bind fun z h => give (truth z h) h) Q E) : ∃ k, o = some k ∧ Q k H := by
  cases o with
  | none => exact False.elim q
  | some k => exact ⟨k, rfl, q r H k .refl R rfl⟩
theorem t_cmp (t : Cxt X c sc own k C) {x y : Expr} {p : Pos} {f g : Sl → Ho → R A} (op : CmpOp) (hy : isSet y = false) (ha : PE X x (rdE (sOf X c.G) W f)) (hb : PE X y (rdE (sOf X c.G) W g)) :
    PT X (.Compare x [op] [y] p) (rdB (sOf X c.G) W fun s h => ((f s h).bind fun a h => (g s h).bind fun b h => give ((cmpA op a b h).map .bl) h).bind fun z h => give (truth z h) h) := by
  refine (pt_cmpR (op_cmp (G := c.G) t.un op) ha hb (mark_of hy)).imp fun σ H Q ⟨r, s, h, a, q⟩ => ?_
  simp only [R.assoc] at q
  refine rd_mono (twoG a q) fun v H1 q1 => rd_mono q1 fun u H2 ⟨r2, h2, b1, b2, A2, t1, t2, q2⟩ => ?_
  obtain ⟨kk, e, q3⟩ := give_tr A2.rel q2
  exact ⟨r2, h2, b1, b2, kk, A2.rel, t1, t2, e, kk, rfl, q3⟩
/-- a op b op c -/
def chnR (f g d : Sl → Ho → R A) (op op2 : CmpOp) (s : Sl) (h : Ho) : R A := (f s h).bind fun x h => (g s h).bind fun y h => match cmpA op x y h with
  | some true => (d s h).bind fun z h => give ((cmpA op2 y z h).map .bl) h
  | some false => .ok (.bl false) h
  | none => .err
theorem lmark_of {o1 o2 : CmpOp} {y z : Expr} (h : isSet z = false) : lastMarks [o1, o2] [y, z] = false := mark_of h
theorem chn_rd (t : Cxt X c sc own k C) {f g d : Sl → Ho → R A} {op op2 : CmpOp} {σ : L2.St} {H : Hp} {Q : VK} (hh : rdE (sOf X c.G) W (chnR f g d op op2) σ H Q) :
    tChain (rC (sOf X c.G) op) (rC (sOf X c.G) op2) (rdE (sOf X c.G) W f) (rdE (sOf X c.G) W g) (rdE (sOf X c.G) W d) σ H Q := by
  obtain ⟨r, s, h, a, q⟩ := hh
  refine rd_mono (twoG a q) fun v H1 q1 => rd_mono q1 fun u H2 ⟨r2, h2, b1, b2, A2, t1, t2, q2⟩ => ?_
  cases e : cmpA op b1 b2 h2 with
  | none =>
    rw [e] at q2
    exact False.elim q2
  | some kk =>
    rw [e] at q2
    refine ⟨r2, h2, b1, b2, kk, A2.rel, t1, t2, e, kk, rfl, ?_⟩
    cases kk with
    | false =>
      rw [if_neg Bool.false_ne_true]
      exact Po.here A2.rel (.bl false) q2
    | true =>
      rw [if_pos rfl]
      refine ⟨r2, s, h2, A2, (Po.bind A2 q2).mono fun w H3 ⟨r3, b3, h3, A3, st3, t3, q3⟩ => ?_⟩
      obtain ⟨k3, e3, q4⟩ := give_bl A3.rel q3
      exact ⟨r3, h3, b2, b3, k3, A3.rel, t2.step A2.rel st3, t3, e3, q4⟩
theorem e_chn (t : Cxt X c sc own k C) {x y z : Expr} {p : Pos} {f g d : Sl → Ho → R A} (op op2 : CmpOp) (hz : isSet z = false) (ha : PE X x (rdE (sOf X c.G) W f)) (hb : PE X y (rdE (sOf X c.G) W g)) (hd : PE X z (rdE (sOf X c.G) W d)) :
    PE X (.Compare x [op, op2] [y, z] p) (rdE (sOf X c.G) W (chnR f g d op op2)) :=
  (pe_chain (op_cmp (G := c.G) t.un op) (op_cmp (G := c.G) t.un op2) ha hb hd (lmark_of hz)).imp fun σ H Q hh => chn_rd t hh
theorem rdB_bl {G : Pg} {f : Sl → Ho → R A} {σ : L2.St} {H : Hp} {Q : Bool → Hp → Prop} (hf : ∀ s h a h', f s h = .ok a h' → ∃ b, a = .bl b) (hh : rdB (sOf X G) W (fun s h => (f s h).bind fun z h => give (truth z h) h) σ H Q) :
    rdE (sOf X G) W f σ H fun v H' => ∃ kk, v = .bl kk ∧ Q kk H' := by
  obtain ⟨r, s, h, a, q⟩ := hh
  dsimp only at q
  refine ⟨r, s, h, a, ?_⟩
  cases e : f s h with
  | err =>
    rw [e] at q
    exact q
  | exc x h' =>
    rw [e] at q
    exact q
  | ok b h' =>
    rw [e] at q
    obtain ⟨bb, rfl⟩ := hf s h b h' e
    intro r' H' v st R' t
    cases t with
    | bl _ => exact ⟨bb, rfl, q r' H' bb st R' rfl⟩
theorem chn_bl {f g d : Sl → Ho → R A} {op op2 : CmpOp} (s : Sl) (h : Ho) (a : A) (h' : Ho) (e : chnR f g d op op2 s h = .ok a h') : ∃ b, a = .bl b := by
  unfold chnR at e
  cases q1 : f s h with
  | err =>
    rw [q1] at e
    cases e
  | exc x h2 =>
    rw [q1] at e
    cases e
  | ok x h2 =>
    rw [q1] at e
    simp only [R.bind] at e
    cases q2 : g s h2 with
    | err =>
      rw [q2] at e
      cases e
    | exc x h3 =>
      rw [q2] at e
      cases e
    | ok y h3 =>
      rw [q2] at e
      simp only [R.bind] at e
      cases q3 : cmpA op x y h3 with
      | none =>
        rw [q3] at e
        cases e
      | some kk =>
        rw [q3] at e
        cases kk with
        | false =>
          cases e
          exact ⟨_, rfl⟩
        | true =>
          simp only at e
          cases q4 : d s h3 with
          | err =>
            rw [q4] at e
            cases e
          | exc x h4 =>
            rw [q4] at e
            cases e
          | ok z h4 =>
            rw [q4] at e
            simp only [R.bind] at e
            cases q5 : cmpA op2 y z h4 with
            | none =>
              rw [q5] at e
              cases e
            | some k5 =>
              rw [q5] at e
              cases e
              exact ⟨_, rfl⟩
theorem t_chn (t : Cxt X c sc own k C) {x y z : Expr} {p : Pos} {f g d : Sl → Ho → R A} (op op2 : CmpOp) (hz : isSet z = false) (ha : PE X x (rdE (sOf X c.G) W f)) (hb : PE X y (rdE (sOf X c.G) W g)) (hd : PE X z (rdE (sOf X c.G) W d)) :
    PT X (.Compare x [op, op2] [y, z] p) (rdB (sOf X c.G) W fun s h => (chnR f g d op op2 s h).bind fun z h => give (truth z h) h) :=
  (pt_chain (op_cmp (G := c.G) t.un op) (op_cmp (G := c.G) t.un op2) ha hb hd (lmark_of hz)).imp fun σ H Q hh => chn_rd t (rdB_bl chn_bl hh)

/-! ### and, or, if -/
theorem e_and {x y : Expr} {xs : List Expr} {p : Pos} {G : Pg} {f g : Sl → Ho → R A} (ha : PE X x (rdE (sOf X G) W f)) (hb : PE X (.BoolOp .And (y :: xs) p) (rdE (sOf X G) W g)) :
    PE X (.BoolOp .And (x :: y :: xs) p) (rdE (sOf X G) W fun s h => (f s h).bind fun x h => match truth x h with
      | some true => g s h
      | some false => .ok x h
      | none => .err) := by
  refine (pe_andT ha hb).imp fun σ H Q ⟨r, s, h, a, q⟩ => ⟨r, s, h, a, (Po.bind a q).mono fun v H1 ⟨r1, a1, h1, A1, st, t, q1⟩ => ?_⟩
  cases e : truth a1 h1 with
  | none =>
    rw [e] at q1
    exact False.elim q1
  | some b =>
    rw [e] at q1
    refine ⟨b, tru_of A1.rel t e, ?_⟩
    cases b with
    | true =>
      rw [if_pos rfl]
      exact ⟨r1, s, h1, A1, q1⟩
    | false =>
      rw [if_neg Bool.false_ne_true]
      exact Po.here A1.rel t q1
theorem e_or {x y : Expr} {xs : List Expr} {p : Pos} {G : Pg} {f g : Sl → Ho → R A} (ha : PE X x (rdE (sOf X G) W f)) (hb : PE X (.BoolOp .Or (y :: xs) p) (rdE (sOf X G) W g)) :
    PE X (.BoolOp .Or (x :: y :: xs) p) (rdE (sOf X G) W fun s h => (f s h).bind fun x h => match truth x h with
      | some true => .ok x h
      | some false => g s h
      | none => .err) := by
  refine (pe_orT ha hb).imp fun σ H Q ⟨r, s, h, a, q⟩ => ⟨r, s, h, a, (Po.bind a q).mono fun v H1 ⟨r1, a1, h1, A1, st, t, q1⟩ => ?_⟩
  cases e : truth a1 h1 with
  | none =>
    rw [e] at q1
    exact False.elim q1
  | some b =>
    rw [e] at q1
    refine ⟨b, tru_of A1.rel t e, ?_⟩
    cases b with
    | true =>
      rw [if_pos rfl]
      exact Po.here A1.rel t q1
    | false =>
      rw [if_neg Bool.false_ne_true]
      exact ⟨r1, s, h1, A1, q1⟩
/-- a test, then one of two ways -/
theorem tB_then {γ δ : Type} {rel : List Addr → Hp → γ → δ → Prop} {G : Pg} {f : Sl → Ho → R Bool} {m : Bool → Ho → R γ} {σ : L2.St} {H : Hp} {Q : δ → Hp → Prop} {r : List Addr} {s : Sl} {h : Ho} (a : At (sOf X G) r s h σ H)
    (q : Po (sOf X G) rel r H ((f s h).bind m) Q fun cls d H' => W cls d σ H') : rdB (sOf X G) W f σ H fun b H1 => ∃ r h, At (sOf X G) r s h σ H1 ∧ Po (sOf X G) rel r H1 (m b h) Q fun cls d H' => W cls d σ H' :=
  ⟨r, s, h, a, (Po.bind a q).mono fun v H1 ⟨r1, a1, h1, A1, st, t, q1⟩ => ⟨r1, h1, A1, by
    subst t
    exact q1⟩⟩
theorem e_ite {x y z : Expr} {p : Pos} {G : Pg} {tt : Sl → Ho → R Bool} {f g : Sl → Ho → R A} (hc : PT X z (rdB (sOf X G) W tt)) (ha : PE X x (rdE (sOf X G) W f)) (hb : PE X y (rdE (sOf X G) W g)) :
    PE X (.IfExp z x y p) (rdE (sOf X G) W fun s h => (tt s h).bind fun k h => if k then f s h else g s h) := by
  refine (pe_ifExp hc ha hb).imp fun σ H Q ⟨r, s, h, a, q⟩ => ?_
  obtain ⟨r0, s0, h0, a0, q0⟩ := tB_then a q
  refine ⟨r0, s0, h0, a0, q0.mono fun b H1 ⟨r1, h1, A1, q1⟩ => ?_⟩
  cases b with
  | true => exact ⟨r1, _, h1, A1, q1⟩
  | false => exact ⟨r1, _, h1, A1, q1⟩
theorem t_and {x y : Expr} {xs : List Expr} {p : Pos} {G : Pg} {f g : Sl → Ho → R Bool} (ha : PT X x (rdB (sOf X G) W f)) (hb : PW X (.BoolOp .And (y :: xs) p) (rdB (sOf X G) W g)) :
    PW X (.BoolOp .And (x :: y :: xs) p) (rdB (sOf X G) W fun s h => (f s h).bind fun k h => if k then g s h else .ok false h) := by
  refine (pw_and ha hb).imp fun σ H Q ⟨r, s, h, a, q⟩ => ?_
  obtain ⟨r0, s0, h0, a0, q0⟩ := tB_then a q
  refine ⟨r0, s0, h0, a0, q0.mono fun b H1 ⟨r1, h1, A1, q1⟩ => ?_⟩
  cases b with
  | true => exact ⟨r1, _, h1, A1, q1⟩
  | false => exact q1 r1 H1 false .refl A1.rel rfl
theorem t_or {x y : Expr} {xs : List Expr} {p : Pos} {G : Pg} {f g : Sl → Ho → R Bool} (ha : PT X x (rdB (sOf X G) W f)) (hb : PW X (.BoolOp .Or (y :: xs) p) (rdB (sOf X G) W g)) :
    PW X (.BoolOp .Or (x :: y :: xs) p) (rdB (sOf X G) W fun s h => (f s h).bind fun k h => if k then .ok true h else g s h) := by
  refine (pw_or ha hb).imp fun σ H Q ⟨r, s, h, a, q⟩ => ?_
  obtain ⟨r0, s0, h0, a0, q0⟩ := tB_then a q
  refine ⟨r0, s0, h0, a0, q0.mono fun b H1 ⟨r1, h1, A1, q1⟩ => ?_⟩
  cases b with
  | true => exact q1 r1 H1 true .refl A1.rel rfl
  | false => exact ⟨r1, _, h1, A1, q1⟩
theorem t_not {x : Expr} {p : Pos} {G : Pg} {f : Sl → Ho → R Bool} (ha : PT X x (rdB (sOf X G) W f)) : PT X (.UnaryOp .Not x p) (rdB (sOf X G) W fun s h => (f s h).bind fun k h => .ok (!k) h) := by
  refine (pt_not ha).imp fun σ H Q ⟨r, s, h, a, q⟩ => ?_
  obtain ⟨r0, s0, h0, a0, q0⟩ := tB_then a q
  exact ⟨r0, s0, h0, a0, q0.mono fun b H1 ⟨r1, h1, A1, q1⟩ => q1 r1 H1 _ .refl A1.rel rfl⟩
/-- any other expression as a test -/
theorem t_val {x : Expr} {G : Pg} {f : Sl → Ho → R A} (ha : PE X x (rdE (sOf X G) W f)) (he : ∀ whole, isTrue x X.env whole = (do let v ← whole; standAt x.pos; holding [v] (truthy v))) :
    PT X x (rdB (sOf X G) W fun s h => (f s h).bind fun z h => give (truth z h) h) := by
  refine (pt_truth ha he).imp fun σ H Q ⟨r, s, h, a, q⟩ => ⟨r, s, h, a, (Po.bind a q).mono fun v H1 ⟨r1, a1, h1, A1, st, t, q1⟩ => ?_⟩
  cases e : truth a1 h1 with
  | none =>
    rw [e] at q1
    exact False.elim q1
  | some b =>
    rw [e] at q1
    exact ⟨b, tru_of A1.rel t e, q1 r1 H1 b .refl A1.rel rfl⟩
end
end Ev

/-! text Fw9 -/
set_option Elab.async false
set_option linter.all false
set_option maxRecDepth 100000
set_option maxHeartbeats 4000000
/-! Ev: arguments, displays, items, slices, calls. -/
namespace Ev
open PySem PySem.Spec PyProof.Rows L2
section
variable {X : Cx} {c : Ck} {sc : Scope} {own : Str → Bool} {k : Nat} {C : Nat → List A → Ho → R A} {W : WX}
def noStars (xs : List Expr) : Bool := xs.all fun x => !isStar x
theorem se_cons {e : Expr} {es : List Expr} {env : Env} (h : isStar e = false) : starEach (e :: es) env = (false, eval e env) :: starEach es env := by
  cases e <;> first
    | rfl
    | (cases h)
theorem se_any {pos : Pos} {env : Env} : ∀ {es : List Expr}, noStars es = true → (backTo pos (starEach es env)).any (·.1) = false
  | [], _ => rfl
  | e :: es, h => by
    obtain ⟨h1, h2⟩ := Bool.and_eq_true_iff.mp (show (!isStar e && noStars es) = true from h)
    rw [se_cons (by simpa using h1)]
    show (false || (backTo pos (starEach es env)).any (·.1)) = false
    rw [se_any h2]
    rfl
theorem se_all {pos : Pos} {env : Env} : ∀ {es : List Expr}, noStars es = true → (backTo pos (starEach es env)).all (fun x => !x.1) = true
  | [], _ => rfl
  | e :: es, h => by
    obtain ⟨h1, h2⟩ := Bool.and_eq_true_iff.mp (show (!isStar e && noStars es) = true from h)
    rw [se_cons (by simpa using h1)]
    show (true && (backTo pos (starEach es env)).all (fun x => !x.1)) = true
    rw [se_all h2]
    rfl
theorem as_nil {G : Pg} : PA X [] (rdA (sOf X G) W fun _ h => .ok [] h) := pa_nil.imp fun σ H Q ⟨r, s, h, a, q⟩ => Po.here a.rel .nil q
theorem as_cons {x : Expr} {xs : List Expr} {G : Pg} {f : Sl → Ho → R A} {g : Sl → Ho → R (List A)} (ns : isStar x = false) (ha : PE X x (rdE (sOf X G) W f)) (hb : PA X xs (rdA (sOf X G) W g)) :
    PA X (x :: xs) (rdA (sOf X G) W fun s h => (f s h).bind fun a h => (g s h).bind fun as h => .ok (a :: as) h) := by
  refine (pa_cons ha hb (se_cons ns)).imp fun σ H Q ⟨r, s, h, a, q⟩ => ⟨r, s, h, a, (Po.bind a q).mono fun v H1 ⟨r1, a1, h1, A1, st1, t1, q1⟩ => ⟨r1, s, h1, A1, (Po.bind A1 q1).mono fun vs H2 ⟨r2, b2, h2, A2, st2, t2, q2⟩ => ?_⟩⟩
  exact Po.here A2.rel (Ras.cons (t1.step A1.rel st2) t2) q2
theorem small_line {n : Nat} (h : n ≤ 1000) : n ≤ sizeLine := Nat.le_trans h (by decide)
/-- the items' count -/
theorem rdA_len {G : Pg} {g : Sl → Ho → R (List A)} {n : Nat} {σ : L2.St} {H : Hp} {Q : List V → Hp → Prop} (hl : ∀ s h as h', g s h = .ok as h' → as.length = n) {r : List Addr} {s : Sl} {h : Ho} (a : At (sOf X G) r s h σ H)
    (q : PoL (sOf X G) r H (g s h) Q fun cls d H' => W cls d σ H') : PoL (sOf X G) r H (g s h) (fun vs H' => vs.length = n ∧ Q vs H') fun cls d H' => W cls d σ H' := by
  cases e : g s h with
  | err =>
    rw [e] at q
    exact q
  | exc x h' =>
    rw [e] at q
    exact q
  | ok as h' =>
    rw [e] at q
    exact fun r' H' v st R' t => ⟨by rw [← t.length]; exact hl s h as h' e, q r' H' v st R' t⟩
theorem e_tup {xs : List Expr} {y : Nat} {p : Pos} {G : Pg} {g : Sl → Ho → R (List A)} {n : Nat} (hn : n ≤ 1000) (hl : ∀ s h as h', g s h = .ok as h' → as.length = n) (ha : PA X xs (rdA (sOf X G) W g)) :
    PE X (.Tuple xs y p) (rdE (sOf X G) W fun s h => (g s h).bind fun as h => .ok (.tup as) h) := by
  refine (pe_tup ha).imp fun σ H Q ⟨r, s, h, a, q⟩ => ⟨r, s, h, a, (rdA_len hl a (Po.bind a q)).mono fun vs H1 ⟨hv, r1, as, h1, A1, st, t, q1⟩ => ⟨small_line (by omega), fun p hp => ?_⟩⟩
  obtain ⟨R', st'⟩ := Step.other (u := HO.tup vs) A1.rel hp
  exact q1 _ _ _ st' R' (.tup (SqT.of upd_same) (t.step A1.rel st'))
theorem e_lst {xs : List Expr} {p : Pos} {G : Pg} {g : Sl → Ho → R (List A)} {n : Nat} (hn : n ≤ 1000) (hl : ∀ s h as h', g s h = .ok as h' → as.length = n) (ha : PA X xs (rdA (sOf X G) W g)) :
    PE X (.List xs p) (rdE (sOf X G) W fun s h => (g s h).bind fun as h => newL as h) := by
  refine (pe_lst ha).imp fun σ H Q ⟨r, s, h, a, q⟩ => ⟨r, s, h, a, (rdA_len hl a (Po.bind a q)).mono fun vs H1 ⟨hv, r1, as, h1, A1, st, t, q1⟩ => ⟨small_line (by omega), ?_⟩⟩
  exact Po.list A1.rel t q1
theorem evEs_len : ∀ (es : List E) (s : Sl) (h : Ho) (as : List A) (h' : Ho), evEs C es s h = .ok as h' → as.length = es.length
  | [], s, h, as, h', e => by
    unfold evEs at e
    cases e
    rfl
  | x :: es, s, h, as, h', e => by
    unfold evEs at e
    cases q1 : evE C x s h with
    | err =>
      rw [q1] at e
      cases e
    | exc y h2 =>
      rw [q1] at e
      cases e
    | ok y h2 =>
      rw [q1] at e
      simp only [R.bind] at e
      cases q2 : evEs C es s h2 with
      | err =>
        rw [q2] at e
        cases e
      | exc z h3 =>
        rw [q2] at e
        cases e
      | ok ys h3 =>
        rw [q2] at e
        simp only [R.bind] at e
        cases e
        rw [List.length_cons, List.length_cons, evEs_len es s h2 ys _ q2]
/-! ### items, slices -/
theorem e_sub {x y : Expr} {p : Pos} {G : Pg} {f g : Sl → Ho → R A} (hy : isSlice y = false) (ha : PE X x (rdE (sOf X G) W f)) (hb : PE X y (rdE (sOf X G) W g)) :
    PE X (.Subscript x y p) (rdE (sOf X G) W fun s h => (f s h).bind fun a h => (g s h).bind fun b h => give (subA a b h) h) := by
  refine (pe_ix (ix_all (G := G)) ha hb ?_).imp fun σ H Q ⟨r, s, h, a, q⟩ => ?_
  · intro o i
    cases y <;> first
      | rfl
      | (cases hy)
  · refine rd_mono (twoG a q) fun v H1 q1 => rd_mono q1 fun u H2 ⟨r2, h2, b1, b2, A2, t1, t2, q2⟩ => ?_
    cases e : subA b1 b2 h2 with
    | none =>
      rw [e] at q2
      exact False.elim q2
    | some d =>
      rw [e] at q2
      exact ⟨r2, h2, b1, b2, d, A2.rel, t1, t2, e, fun w tw => Po.here A2.rel tw q2⟩
/-- a part of a slice as it is read -/
def asPart (v : V) (o : Option Int) : Prop := (v = .non ∧ o = none) ∨ ∃ i, v = .int i ∧ o = some i
def rdO (t : TE) : TO := fun σ H Q => t σ H fun v H1 => ∃ o, asPart v o ∧ Q o H1
theorem _root_.L2.PO.imp {x : Option Expr} {t t' : TO} (h : PO X x t) (q : ∀ σ H Q, t' σ H Q → t σ H Q) : PO X x t' := ⟨fun p s σ H Q I w => h.run p s σ H Q I (q _ _ _ w)⟩
theorem o_none {G : Pg} : PO X none (rdO (rdE (sOf X G) W fun s h => .ok .non h)) := po_none.imp fun σ H Q ⟨r, s, h, a, q⟩ => by
  obtain ⟨o, ⟨_, e⟩ | ⟨i, e, _⟩, q1⟩ := Po.here a.rel Ra.non q
  · subst e
    exact q1
  · cases e
theorem o_some {x : Expr} {t : TE} (hx : PE X x t) : PO X (some x) (rdO t) := by
  refine ⟨fun pins s0 σ H Q I w => ?_⟩
  rw [evalPart_some]
  refine thn (hx.run pins s0 σ H _ I w) fun u s1 ⟨v, H1, I1, r1, o, ho, q1⟩ => ?_
  rcases ho with ⟨rfl, rfl⟩ | ⟨i, rfl, rfl⟩
  · cases r1
    exact ⟨none, H1, I1, .none, q1⟩
  · obtain ⟨t, rfl⟩ := r1
    exact ⟨some i, H1, I1, .int i t, q1⟩
theorem part_of {S : Ws} {r : List Addr} {H : Hp} {a : A} {v : V} {o : Option Int} (t : Ra S r H a v) (e : part a = some o) : asPart v o := by
  cases t <;> first
    | (cases e
       exact .inl ⟨rfl, rfl⟩)
    | (cases e
       exact .inr ⟨_, rfl, rfl⟩)
    | (cases e)
theorem e_slc {x : Expr} {lo hi : Option Expr} {p p2 : Pos} {G : Pg} {f g d : Sl → Ho → R A} (ha : PE X x (rdE (sOf X G) W f)) (hl : PO X lo (rdO (rdE (sOf X G) W g))) (hu : PO X hi (rdO (rdE (sOf X G) W d))) :
    PE X (.Subscript x (.Slice lo hi none p2) p) (rdE (sOf X G) W fun s h => (f s h).bind fun x h => (g s h).bind fun l h => (give (part l) h).bind fun l h => (d s h).bind fun u h => (give (part u) h).bind fun u h => slcA x l u h) := by
  refine (pe_slice (sl_all (G := G)) ha hl hu).imp fun σ H Q ⟨r, s, h, a, q⟩ => ⟨r, s, h, a, (Po.bind a q).mono fun v H1 ⟨r1, a1, h1, A1, st1, t1, q1⟩ => ⟨r1, s, h1, A1, (Po.bind A1 q1).mono fun v2 H2 ⟨r2, a2, h2, A2, st2, t2, q2⟩ => ?_⟩⟩
  cases e : part a2 with
  | none =>
    rw [e] at q2
    exact False.elim q2
  | some o2 =>
    rw [e] at q2
    have q2 : PoV (sOf X G) r2 H2 ((d s h2).bind fun u h => (give (part u) h).bind fun u h => slcA a1 o2 u h) Q fun cls d H' => W cls d σ H' := q2
    refine ⟨o2, part_of t2 e, r2, s, h2, A2, (Po.bind A2 q2).mono fun v3 H3 ⟨r3, a3, h3, A3, st3, t3, q3⟩ => ?_⟩
    cases e3 : part a3 with
    | none =>
      rw [e3] at q3
      exact False.elim q3
    | some o3 =>
      rw [e3] at q3
      exact ⟨o3, part_of t3 e3, r3, h3, a1, _, A3.rel, (t1.step A1.rel st2).step A2.rel st3, q3⟩
theorem e_rev {x : Expr} {j : Nat} {p1 p2 p3 p : Pos} {G : Pg} {f : Sl → Ho → R A} (ha : PE X x (rdE (sOf X G) W f)) :
    PE X (.Subscript x (.Slice none none (some (.UnaryOp .USub (.Constant (.int 1) j p1) p2)) p3) p) (rdE (sOf X G) W fun s h => (f s h).bind fun x h => match x with
    | .ref n => match seqOf h n with
      | some xs => newL xs.reverse h
      | none => .err
    | _ => .err) := by
  refine (pe_revL ha).imp fun σ H Q ⟨r, s, h, a, q⟩ => ⟨r, s, h, a, (Po.bind a q).mono fun v H1 ⟨r1, a1, h1, A1, st1, t1, q1⟩ => ?_⟩
  cases a1 with
  | ref n =>
    obtain ⟨xs, e, q2⟩ : ∃ xs, seqOf h1 n = some xs ∧ PoV (sOf X G) r1 H1 (newL xs.reverse h1) Q fun cls d H' => W cls d σ H' := by
      cases e : seqOf h1 n with
      | none =>
        simp only [e] at q1
        exact False.elim q1
      | some xs =>
        simp only [e] at q1
        exact ⟨xs, rfl, q1⟩
    obtain ⟨p, vs, rfl, sq, t2⟩ := ref_seq A1.rel e t1
    exact ⟨p, vs, rfl, sq, Po.list A1.rel t2.rev q2⟩
  | _ => exact False.elim q1

/-! ### calls -/
theorem key_of (t : Cxt X c sc own k C) {f : Nat} {d : Df} (hd : c.G.defs[f]? = some d) : ∃ fa, X.mg d.name = some (.ref fa) ∧ PySem.W.keepIn X.K (.ref fa) = true := by
  obtain ⟨fa, fd, e, kp, _⟩ := t.wd.fns f d hd
  exact ⟨fa, e, kp⟩
/-- the arguments, then the callee -/
theorem args_then (t : Cxt X c sc own k C) (tk : Takes X W) {f : Nat} {d : Df} (hd : c.G.defs[f]? = some d) {args : List Expr} {F : Sl → Ho → R (List A)} (h0 : args = [] → ∀ s h, F s h = .ok [] h) (ns : noStars args = true) (ha : PA X args (rdA (sOf X c.G) W F))
    {fa : Addr} (hf : X.mg d.name = some (.ref fa)) {pos : Pos} {pins : List (Addr × Obj)} {s : Shared} {σ : L2.St} {H : Hp} {Q : VK} (I : Inv X pins σ H s) {r : List Addr} {s0 : Sl} {h : Ho} (a : At (sOf X c.G) r s0 h σ H)
    (q : PoV (sOf X c.G) r H ((F s0 h).bind fun xs h => C f xs h) Q fun cls d H' => W cls d σ H') : wpAny (model X.prog X.w) X.A (callWith pos (.ref fa) [] (backTo pos (starEach args X.env)) []) (EP X pins σ Q) X.xe s := by
  obtain ⟨fa', e1, kp⟩ := key_of t hd
  rw [hf] at e1
  cases e1
  cases args with
  | nil =>
    rw [h0 rfl] at q
    exact PySem.W.callWith_K0 I.kIn kp (run_call t tk hd (us := []) I .nil a.rel .nil q hf)
  | cons e es =>
    obtain ⟨h1, h2⟩ := Bool.and_eq_true_iff.mp (show (!isStar e && noStars es) = true from ns)
    refine PySem.W.callWith_K (h₀ := X.base) I.ok.mod.kin kp (thn (ha.run pos pins s σ H _ I ⟨r, s0, h, a, Po.bind a q⟩) fun us s1 ⟨vs, H1, I1, rv, r1, as, h1, A1, st, t1, q1⟩ => ⟨I1.kIn, ?_⟩) (se_cons (by simpa using h1)) (se_any h2)
    exact run_call t tk hd I1 rv A1.rel t1 q1 hf
theorem e_call (t : Cxt X c sc own k C) (tk : Takes X W) {f : Nat} {d : Df} (hd : c.G.defs[f]? = some d) {x : Str} (hx : d.name = x) (h1 : glB sc x = true) (h2 : dbgB x = true) {args : List Expr} {F : Sl → Ho → R (List A)} (h0 : args = [] → ∀ s h, F s h = .ok [] h)
    (ns : noStars args = true) (ha : PA X args (rdA (sOf X c.G) W F)) {p pos : Pos} : PE X (.Call (.Name x p) args [] pos) (rdE (sOf X c.G) W fun s h => (F s h).bind fun xs h => C f xs h) := by
  refine ⟨fun pins s σ H Q I ⟨r, s0, h, a, q⟩ => ?_⟩
  obtain ⟨d1, _, _⟩ := dbg_of h2
  obtain ⟨fa, e1, kp⟩ := key_of t hd
  subst hx
  exact wpAny_Call_Name_kw (ld_glob I (gl_of t h1) e1 (args_then t tk hd h0 ns ha e1 I a q) d1)
theorem e_cval (t : Cxt X c sc own k C) (tk : Takes X W) {x y : Expr} {p : Pos} {f : Sl → Ho → R A} (hf : PE X (.Subscript x y p) (rdE (sOf X c.G) W f)) {args : List Expr} {F : Sl → Ho → R (List A)} (h0 : args = [] → ∀ s h, F s h = .ok [] h)
    (ns : noStars args = true) (ha : PA X args (rdA (sOf X c.G) W F)) {pos : Pos} : PE X (.Call (.Subscript x y p) args [] pos) (rdE (sOf X c.G) W fun s h => (f s h).bind fun x h => match x with
    | .fn i => (F s h).bind fun xs h => C i xs h
    | _ => .err) := by
  refine ⟨fun pins s σ H Q I ⟨r, s0, h, a, q⟩ => ?_⟩
  refine PyProof.Rows.Call_ (thn (hf.run pins s σ H _ I ⟨r, s0, h, a, Po.bind a q⟩) fun v s1 ⟨u, H1, I1, rv, r1, a1, h1, A1, st, t1, q1⟩ => ?_)
  cases t1 with
  | fn e1 e2 =>
    cases rv
    exact args_then t tk e1 h0 ns ha e2 I1 A1 q1
  | _ => exact False.elim q1
/-! ### built-ins -/
theorem gl_free (t : Cxt X c sc own k C) {x : String} (h : (["len", "abs", "int", "bool", "max", "min", "sum", "any", "all", "tuple", "list", "isinstance", "repr", "range", "zip", "enumerate", "str"] : List String).contains x = true) : X.mg (x : Str) = none := t.wd.free x h
theorem e_blt (t : Cxt X c sc own k C) {f : Bl} (hf : ∀ T, f ≠ .isi T) (h1 : glB sc (f.name : Str) = true) {args : List Expr} {F : Sl → Ho → R (List A)} (hne : args ≠ []) (ns : noStars args = true) (ha : PA X args (rdA (sOf X c.G) W F)) {p pos : Pos} :
    PE X (.Call (.Name (f.name : Str) p) args [] pos) (rdE (sOf X c.G) W fun s h => (F s h).bind fun xs h => bltA f xs h) := by
  cases args with
  | nil => exact absurd rfl hne
  | cons e es =>
    obtain ⟨n1, n2⟩ := Bool.and_eq_true_iff.mp (show (!isStar e && noStars es) = true from ns)
    have n1 : isStar e = false := by simpa using n1
    have B := bl_call (X := X) (G := c.G) t.calm t.gd t.un f hf
    have fin : PE X (.Call (.Name (f.name : Str) p) (e :: es) [] pos) (tCB (rBl (sOf X c.G) f) (rdA (sOf X c.G) W F)) := by
      have v := Bl.boot f
      cases f with
      | isi T => exact absurd rfl (hf T)
      | int => exact pe_callTy B (gl_of t h1) (gl_free t (by decide)) v ha (by decide) (by decide) (se_cons n1) (se_any n2)
      | bool => exact pe_callTy B (gl_of t h1) (gl_free t (by decide)) v ha (by decide) (by decide) (se_cons n1) (se_any n2)
      | tuple => exact pe_callTy B (gl_of t h1) (gl_free t (by decide)) v ha (by decide) (by decide) (se_cons n1) (se_any n2)
      | list => exact pe_callTy B (gl_of t h1) (gl_free t (by decide)) v ha (by decide) (by decide) (se_cons n1) (se_any n2)
      | _ => exact pe_callB B (gl_of t h1) (gl_free t (by decide)) v ha (by decide) (by decide) (se_cons n1) (se_any n2)
    exact fin.imp fun σ H Q ⟨r, s, h, a, q⟩ => ⟨r, s, h, a, (Po.bind a q).mono fun vs H1 ⟨r1, as, h1, A1, st, t1, q1⟩ => ⟨r1, h1, as, _, A1.rel, t1, q1⟩⟩
theorem five_of {T : String} (h : isiT T = true) : T = "int" ∨ T = "bool" ∨ T = "str" ∨ T = "tuple" ∨ T = "list" := by
  unfold isiT at h
  simp only [Bool.or_eq_true, beq_iff_eq] at h
  rcases h with (((h | h) | h) | h) | h
  · exact .inl h
  · exact .inr (.inl h)
  · exact .inr (.inr (.inl h))
  · exact .inr (.inr (.inr (.inl h)))
  · exact .inr (.inr (.inr (.inr h)))
theorem pe_tyN (t : Cxt X c sc own k C) {T : String} (hT : isiT T = true) (h1 : glB sc (T : Str) = true) {p : Pos} : PE X (.Name (T : Str) p) (tC (.ty T)) := by
  have go : bootBuiltins (T : Str) = some (.type T) → (T : Str) ≠ "__name__" → (((T : Str) == ("__debug__" : Str)) = false) → X.mg (T : Str) = none → PE X (.Name (T : Str) p) (tC (.ty T)) := fun hv hn hd hm =>
    ⟨fun _ _ _ H _ I h => ld_blt I (gl_of t h1) hm hv ⟨.ty T, H, I, rfl, h⟩ hn hd⟩
  rcases five_of hT with rfl | rfl | rfl | rfl | rfl <;> exact go (by decide +kernel) (by decide) (by decide) (gl_free t (by decide))
theorem e_isi (t : Cxt X c sc own k C) {T : String} (hT : isiT T = true) (h0 : glB sc ("isinstance" : Str) = true) (h1 : glB sc (T : Str) = true) {y : Expr} (ny : isStar y = false) {f : Sl → Ho → R A} (ha : PE X y (rdE (sOf X c.G) W f)) {p p2 pos : Pos} :
    PE X (.Call (.Name ("isinstance" : Str) p) [y, .Name (T : Str) p2] [] pos) (rdE (sOf X c.G) W fun s h => (f s h).bind fun a h => bltA (.isi T) [a] h) := by
  have A := pa_cons ha (pa_cons (pe_tyN t hT h1 (p := p2)) pa_nil) (se_cons ny)
  refine (pe_callB (call_isT (X := X) (G := c.G) hT) (gl_of t h0) (gl_free t (by decide)) (Bl.boot (.isi T)) A (by decide) (by decide) (se_cons ny) rfl).imp fun σ H Q ⟨r, s, h, a, q⟩ => ?_
  exact ⟨r, s, h, a, (Po.bind a q).mono fun v H1 ⟨r1, a1, h1, A1, st, t1, q1⟩ => ⟨r1, h1, a1, v, _, rfl, A1.rel, t1, q1⟩⟩
/-! ### a list's methods -/
theorem e_mth {m : Mt} {x : Expr} {args : List Expr} {G : Pg} {f : Sl → Ho → R A} {F : Sl → Ho → R (List A)} (nc : isCall x = false) (h0 : args = [] → ∀ s h, F s h = .ok [] h) (ns : noStars args = true) (few : args.length ≤ 20) (ho : PE X x (rdE (sOf X G) W f)) (ha : PA X args (rdA (sOf X G) W F))
    {ap cp : Pos} (hl : (ap.endLine == cp.line) = true) : PE X (.Call (.Attribute x (m.name : Str) ap) args [] cp) (rdE (sOf X G) W fun s h => (f s h).bind fun x h => match x with
    | .ref n => (F s h).bind fun xs h => mthA m (.ref n) xs h
    | _ => .err) := by
  have hb : attributeBase x (m.name : Str) X.env (eval x X.env) = eval x X.env := by
    cases x <;> first
      | rfl
      | (cases nc)
  cases args with
  | nil =>
    refine (pe_bm0 PySem.F.plainAttrs_list (mt_slot m) (mt_type m) (mt_call (X := X) (G := G) m) ho hb hl).imp fun σ H Q ⟨r, s, h, a, q⟩ => ⟨r, s, h, a, (Po.bind a q).mono fun v H1 ⟨r1, a1, h1, A1, st, t1, q1⟩ => ?_⟩
    cases t1 with
    | ref e =>
      obtain ⟨vs, e2⟩ := A1.rel.lstOf (List.mem_of_getElem? e)
      simp only [h0 rfl] at q1
      exact ⟨.inl ⟨rfl, vs, SqL.of e2⟩, r1, h1, _, [], _, A1.rel, .ref e, .nil, q1⟩
    | _ => exact False.elim q1
  | cons e es =>
    obtain ⟨n1, n2⟩ := Bool.and_eq_true_iff.mp (show (!isStar e && noStars es) = true from ns)
    have n1 : isStar e = false := by simpa using n1
    have hfew : ((backTo cp (starEach (e :: es) X.env)).all (fun x => !x.1) && (backToKw cp (keywordEach [] X.env)).all (fun x => x.1.isSome) && decide ((e :: es).length + ([] : List Keyword).length + (if ([] : List Keyword).isEmpty then 0 else 1) < 30)) = true := by
      rw [se_all ns]
      have : (e :: es).length + ([] : List Keyword).length + (if ([] : List Keyword).isEmpty then 0 else 1) < 30 := by
        show (e :: es).length + 0 + 0 < 30
        omega
      rw [decide_eq_true this]
      rfl
    refine (pe_bm PySem.F.plainAttrs_list (mt_slot m) (mt_type m) (mt_call (X := X) (G := G) m) ho ha hb hfew hl (se_cons n1) (se_any n2)).imp fun σ H Q ⟨r, s, h, a, q⟩ => ⟨r, s, h, a, (Po.bind a q).mono fun v H1 ⟨r1, a1, h1, A1, st, t1, q1⟩ => ?_⟩
    cases t1 with
    | ref e =>
      obtain ⟨vs, e2⟩ := A1.rel.lstOf (List.mem_of_getElem? e)
      exact ⟨.inl ⟨rfl, vs, SqL.of e2⟩, r1, s, h1, A1, (Po.bind A1 q1).mono fun us H2 ⟨r2, as, h2, A2, st2, t2, q2⟩ => ⟨r2, h2, _, as, _, A2.rel, (Ra.ref e).step A1.rel st2, t2, q2⟩⟩
    | _ => exact False.elim q1
end
end Ev

/-! text Fw10 -/
set_option Elab.async false
set_option linter.all false
set_option maxRecDepth 100000
set_option maxHeartbeats 4000000
/-! Ev: targets, what is walked, comprehensions. -/
namespace Ev
open PySem PySem.Spec PyProof.Rows L2
mutual
theorem A.beq_is : ∀ (a b : A), A.beq a b = true → a = b
  | .non, .non, _ => rfl
  | .bl a, .bl b, h => congrArg A.bl (beq_iff_eq.mp h)
  | .int a, .int b, h => congrArg A.int (beq_iff_eq.mp h)
  | .str a, .str b, h => congrArg A.str (beq_iff_eq.mp h)
  | .tup a, .tup b, h => congrArg A.tup (A.beqs_is a b h)
  | .lis a, .lis b, h => congrArg A.lis (A.beqs_is a b h)
  | .ref a, .ref b, h => congrArg A.ref (beq_iff_eq.mp h)
  | .fn a, .fn b, h => congrArg A.fn (beq_iff_eq.mp h)
theorem A.beqs_is : ∀ (a b : List A), A.beqs a b = true → a = b
  | [], [], _ => rfl
  | x :: a, y :: b, h => by
    obtain ⟨h1, h2⟩ := Bool.and_eq_true_iff.mp (show (A.beq x y && A.beqs a b) = true from h)
    rw [A.beq_is x y h1, A.beqs_is a b h2]
end
theorem still_at {src : List (Nat × List A)} {h : Ho} {n : Nat} {xs : List A} (m : (n, xs) ∈ src) (e : still src h = true) : seqOf h n = some xs := by
  have q := List.all_eq_true.mp e _ m
  simp only at q
  split at q
  · rename_i ys e1
    rw [e1, A.beqs_is _ _ q]
  · cases q

/-! ### targets -/
section
variable {X : Cx} {c : Ck} {sc : Scope} {own : Str → Bool} {k : Nat} {C : Nat → List A → Ho → R A} {W : WX}
/-- the slots that a store may touch -/
def Keeps (own : List Nat) (σ σ' : L2.St) : Prop := ∀ i, i ∉ own → σ'[i]? = σ[i]?
def rdG (S : Ws) (g : Tg) : TG := fun v σ H Q => ∃ r s h a s', At S r s h σ H ∧ Ra S r H a v ∧ Tg.put g a s = some s' ∧ ∀ σ', At S r s' h σ' H → σ'.length = σ.length → (∀ own, Tg.within own g = true → Keeps own σ σ') → Q σ' H
def rdGs (S : Ws) (gs : List Tg) : TGs := fun vs σ H Q => ∃ r s h as s', At S r s h σ H ∧ Ras S r H as vs ∧ Tg.puts gs as s = some s' ∧ ∀ σ', At S r s' h σ' H → σ'.length = σ.length → (∀ own, Tg.withins own gs = true → Keeps own σ σ') → Q σ' H
theorem _root_.L2.PG.imp {x : Expr} {t t' : TG} (h : PG X x t) (q : ∀ v σ H Q, t' v σ H Q → t v σ H Q) : PG X x t' := ⟨fun p s σ H v u Q I r w => h.run p s σ H v u Q I r (q _ _ _ _ w)⟩
theorem _root_.L2.PGs.imp {x : List Expr} {t t' : TGs} (h : PGs X x t) (q : ∀ v σ H Q, t' v σ H Q → t v σ H Q) : PGs X x t' := ⟨fun p s σ H v u Q I r w => h.run p s σ H v u Q I r (q _ _ _ _ w)⟩
theorem loc_of (t : Cxt X c sc own k C) {x : Str} (h : locB sc x = true) : L2.Loc X.env.scope x := by
  rw [t.sc]
  unfold locB at h
  unfold L2.Loc
  split at h
  · exact .inl ‹_›
  · exact .inr ‹_›
  · cases h
theorem ae_cons {e : Expr} {es : List Expr} {env : Env} (h : isStar e = false) : assignEach (e :: es) env = (false, assign e env) :: assignEach es env := by
  cases e <;> first
    | rfl
    | (cases h)
theorem ae_len {env : Env} : ∀ {es : List Expr}, noStars es = true → (assignEach es env).length = es.length
  | [], _ => rfl
  | e :: es, h => by
    obtain ⟨h1, h2⟩ := Bool.and_eq_true_iff.mp (show (!isStar e && noStars es) = true from h)
    rw [ae_cons (by simpa using h1), List.length_cons, List.length_cons, ae_len h2]
theorem ae_find {env : Env} : ∀ {es : List Expr}, noStars es = true → (assignEach es env).findIdx? (·.1) = none
  | [], _ => rfl
  | e :: es, h => by
    obtain ⟨h1, h2⟩ := Bool.and_eq_true_iff.mp (show (!isStar e && noStars es) = true from h)
    rw [ae_cons (by simpa using h1), List.findIdx?_cons, ae_find h2]
    rfl
theorem ckGs_ns {c : Ck} {sc : Scope} {own : Str → Bool} : ∀ {gs : List Tg} {ts : List Expr}, ckGs c sc own gs ts = true → noStars ts = true ∧ gs.length = ts.length
  | [], [], _ => ⟨rfl, rfl⟩
  | g :: gs, t :: ts, h => by
    obtain ⟨h1, h2⟩ := Bool.and_eq_true_iff.mp (show (!isStar t && ckG c sc own g t && ckGs c sc own gs ts) = true from h)
    obtain ⟨h1, _⟩ := Bool.and_eq_true_iff.mp h1
    obtain ⟨i1, i2⟩ := ckGs_ns h2
    exact ⟨Bool.and_eq_true_iff.mpr ⟨h1, i1⟩, by rw [List.length_cons, List.length_cons, i2]⟩
theorem puts_len : ∀ {gs : List Tg} {as : List A} {s s' : Sl}, Tg.puts gs as s = some s' → gs.length = as.length
  | [], [], _, _, _ => rfl
  | [], _ :: _, _, _, e => by
    unfold Tg.puts at e
    cases e
  | _ :: _, [], _, _, e => by
    unfold Tg.puts at e
    cases e
  | g :: gs, a :: as, s, s', e => by
    unfold Tg.puts at e
    split at e
    · rw [List.length_cons, List.length_cons, puts_len e]
    · cases e
mutual
theorem okG (t : Cxt X c sc own k C) : ∀ (g : Tg) (x : Expr), ckG c sc own g x = true → PG X x (rdG (sOf X c.G) g)
  | .nm i, e, h => by
    cases e with
    | Name x p =>
      obtain ⟨h1, h3⟩ := Bool.and_eq_true_iff.mp (show (decide (c.N[i]? = some x) && locB sc x && (own x || isLocB sc x)) = true from h)
      obtain ⟨h1, h2⟩ := Bool.and_eq_true_iff.mp h1
      have hf : X.fn x = true ∨ X.env.scope.names.lookup x = some .local := by
        rcases Bool.or_eq_true_iff.mp h3 with q | q
        · exact .inl (t.own x q)
        · rw [t.sc]
          unfold isLocB at q
          split at q
          · exact .inr ‹_›
          · cases q
      refine (pg_name (by rw [t.N]; exact t.nd) (by rw [t.N]; exact of_decide_eq_true h1) (loc_of t h2) hf).imp fun v σ H Q ⟨r, s, h, a, s', A0, ta, e, q⟩ => ?_
      have e : s.set i (some a) = s' := Option.some.inj e
      subst e
      exact q _ ⟨A0.rel, A0.sl.set ta i⟩ (List.length_set ..) fun own hw j hj => by
        have hm : i ∈ own := by
          obtain ⟨y, hy, e⟩ := List.any_eq_true.mp (show own.any (· == i) = true from hw)
          have e : y = i := beq_iff_eq.mp e
          subst e
          exact hy
        refine List.getElem?_set_ne fun z => ?_
        subst z
        exact hj hm
    | _ => exact nomatch (show false = true from h)
  | .tp gs, e, h => by
    cases e with
    | Tuple ts _ _ =>
      have h : ckGs c sc own gs ts = true := h
      obtain ⟨n1, n2⟩ := ckGs_ns h
      refine (pg_tup t.calm (okGs t gs ts h) (ae_len n1) (ae_find n1)).imp fun v σ H Q ⟨r, s, h, a, s', A0, ta, e, q⟩ => ?_
      cases ta with
      | @tup xs p vs sq ts' =>
        have e : Tg.puts gs xs s = some s' := e
        exact ⟨p, vs, rfl, sq, by rw [← ts'.length, ← puts_len e, n2], r, s, h, xs, s', A0, ts', e, fun σ' A' l' kp => q σ' A' l' kp⟩
      | _ => cases e
    | _ => exact nomatch (show false = true from h)
theorem okGs (t : Cxt X c sc own k C) : ∀ (gs : List Tg) (xs : List Expr), ckGs c sc own gs xs = true → PGs X xs (rdGs (sOf X c.G) gs)
  | [], [], _ => pgs_nil.imp fun v σ H Q ⟨r, s, h, as, s', A0, ta, e, q⟩ => by
    cases as with
    | nil =>
      cases ta
      cases e
      exact ⟨rfl, q σ A0 rfl fun own _ i _ => rfl⟩
    | cons => cases e
  | g :: gs, x :: xs, h => by
    obtain ⟨h1, h2⟩ := Bool.and_eq_true_iff.mp (show (!isStar x && ckG c sc own g x && ckGs c sc own gs xs) = true from h)
    obtain ⟨h0, h1⟩ := Bool.and_eq_true_iff.mp h1
    refine (pgs_cons (okG t g x h1) (okGs t gs xs h2) (by rw [ae_cons (by simpa using h0)]; rfl)).imp fun v σ H Q ⟨r, s, h, as, s', A0, ta, e, q⟩ => ?_
    cases as with
    | nil => cases e
    | cons a as =>
      cases ta with
      | cons t1 t2 =>
        unfold Tg.puts at e
        cases e1 : Tg.put g a s with
        | none =>
          rw [e1] at e
          cases e
        | some s1 =>
          rw [e1] at e
          refine ⟨_, _, rfl, r, s, h, a, s1, A0, t1, e1, fun σ1 A1 l1 k1 => ⟨r, s1, h, as, s', A1, t2, e, fun σ2 A2 l2 k2 => q σ2 A2 (l2.trans l1) fun own hw i hi => ?_⟩⟩
          obtain ⟨w1, w2⟩ := Bool.and_eq_true_iff.mp (show (Tg.within own g && Tg.withins own gs) = true from hw)
          rw [k2 own w2 i hi, k1 own w1 i hi]
  | [], _ :: _, h => by cases h
  | _ :: _, [], h => by cases h
end
end
end Ev

/-! text Fw11 -/
set_option Elab.async false
set_option linter.all false
set_option maxRecDepth 100000
set_option maxHeartbeats 4000000
/-! Ev: what is walked. -/
namespace Ev
open PySem PySem.Spec PyProof.Rows L2
/-- from r1, H1 on the iterator gives xs, while the lists of src stand still -/
def Wk (S : Ws) (r1 : List Addr) (H1 : Hp) (J : It) (xs : List A) (src : List (Nat × List A)) : Prop :=
  ∀ r h H, Step r1 H1 r H → Rel S r h H → still src h = true → ∀ i : Nat, (∀ a, xs[i]? = some a → J.go i H ∧ ∀ v H', J.yld i H v H' → Step r H r H' ∧ Rel S r h H' ∧ Ra S r H' a v) ∧ (xs.length ≤ i → J.stop i H)
def rdI (S : Ws) (W : WX) (g : Sl → Ho → R (List A × List (Nat × List A))) : TI := fun σ H Q => ∃ r s h, At S r s h σ H ∧ Po S (fun r H (w : List A × List (Nat × List A)) (J : It) => Wk S r H J w.1 w.2) r H (g s h) Q fun cls d H' => W cls d σ H'
section
variable {S : Ws} {r1 : List Addr} {H1 : Hp} {h1 : Ho}
theorem wk_tup (R1 : Rel S r1 h1 H1) {a : Addr} {vs : List V} {xs : List A} (sq : SqT S.K H1 a vs) (ts : Ras S r1 H1 xs vs) : Wk S r1 H1 (Itt S.K a) xs [] := by
  intro r h H st R _ i
  have sq' := SqT.step R1 st sq
  have ts' := ts.step R1 st
  refine ⟨fun x hx => ?_, fun hl => ⟨vs, sq', by rw [← ts.length]; exact hl⟩⟩
  obtain ⟨v, e, tv⟩ := ts'.get hx
  refine ⟨⟨vs, v, sq', e⟩, fun u H' ⟨e1, e2⟩ => ?_⟩
  subst e1
  have e3 := e2 vs sq'
  rw [e] at e3
  cases e3
  exact ⟨.refl, R, tv⟩
theorem wk_lis (R1 : Rel S r1 h1 H1) {a : Addr} {vs : List V} {xs : List A} (sq : Ro S.K H1 a vs) (ts : Ras S r1 H1 xs vs) : Wk S r1 H1 (Itl S.K a) xs [] := by
  intro r h H st R _ i
  have sq' := (Ro.step R1 st sq).sq
  have ts' := ts.step R1 st
  refine ⟨fun x hx => ?_, fun hl => ⟨vs, sq', by rw [← ts.length]; exact hl⟩⟩
  obtain ⟨v, e, tv⟩ := ts'.get hx
  refine ⟨⟨vs, v, sq', e⟩, fun u H' ⟨e1, e2⟩ => ?_⟩
  subst e1
  have e3 := e2 vs sq'
  rw [e] at e3
  cases e3
  exact ⟨.refl, R, tv⟩
theorem ref_at {r : List Addr} {h : Ho} {H : Hp} (st : Step r1 H1 r H) (R : Rel S r h H) {n : Nat} {p : Addr} {xs : List A} {src : List (Nat × List A)} (ep : r1[n]? = some p) (m : (n, xs) ∈ src) (e : still src h = true) : ∃ vs, SqL S.K H p vs ∧ Ras S r H xs vs := by
  obtain ⟨vs, e1, t⟩ := seq_at R (still_at m e) (pre_get st.pre ep)
  exact ⟨vs, SqL.of e1, t⟩
theorem wk_ref {n : Nat} {p : Addr} {xs : List A} (ep : r1[n]? = some p) : Wk S r1 H1 (Itl S.K p) xs [(n, xs)] := by
  intro r h H st R sl i
  obtain ⟨vs, sq', ts'⟩ := ref_at st R ep (List.mem_singleton.mpr rfl) sl
  refine ⟨fun x hx => ?_, fun hl => ⟨vs, sq', by rw [← ts'.length]; exact hl⟩⟩
  obtain ⟨v, e, tv⟩ := ts'.get hx
  refine ⟨⟨vs, v, sq', e⟩, fun u H' ⟨e1, e2⟩ => ?_⟩
  subst e1
  have e3 := e2 vs sq'
  rw [e] at e3
  cases e3
  exact ⟨.refl, R, tv⟩
theorem wk_rng {lo hi : Int} : Wk S r1 H1 (Itr lo (hi - lo).toNat) (rng lo hi) [] := by
  intro r h H st R _ i
  unfold rng
  refine ⟨fun x hx => ?_, fun hl => ?_⟩
  · rw [List.getElem?_map] at hx
    cases e : (List.range (hi - lo).toNat)[i]? with
    | none =>
      rw [e] at hx
      cases hx
    | some j =>
      rw [e] at hx
      cases hx
      obtain ⟨l, e⟩ := List.getElem?_eq_some_iff.mp e
      rw [List.length_range] at l
      rw [List.getElem_range] at e
      subst e
      refine ⟨l, fun u H' ⟨e1, e2⟩ => ?_⟩
      subst e1 e2
      exact ⟨.refl, R, .int _⟩
  · rw [List.length_map, List.length_range] at hl
    exact hl
theorem pairs_get : ∀ {xs ys : List A} {i : Nat} {a : A}, (pairs xs ys)[i]? = some a → ∃ x y, xs[i]? = some x ∧ ys[i]? = some y ∧ a = .tup [x, y]
  | [], _, _, _, e => by
    unfold pairs at e
    simp at e
  | _ :: _, [], _, _, e => by
    unfold pairs at e
    simp at e
  | x :: xs, y :: ys, 0, _, e => by
    unfold pairs at e
    simp at e
    exact ⟨x, y, rfl, rfl, e.symm⟩
  | x :: xs, y :: ys, i + 1, a, e => by
    unfold pairs at e
    obtain ⟨x', y', e1, e2, e3⟩ := pairs_get (i := i) (a := a) (xs := xs) (ys := ys) (by simpa using e)
    exact ⟨x', y', by simpa using e1, by simpa using e2, e3⟩
theorem pairs_len : ∀ {xs ys : List A} {i : Nat}, (pairs xs ys).length ≤ i → xs.length ≤ i ∨ ys.length ≤ i
  | [], _, _, _ => .inl (Nat.zero_le _)
  | _ :: _, [], _, _ => .inr (Nat.zero_le _)
  | x :: xs, y :: ys, 0, e => by
    unfold pairs at e
    simp at e
  | x :: xs, y :: ys, i + 1, e => by
    unfold pairs at e
    have e : (pairs xs ys).length ≤ i := by simpa using e
    rcases pairs_len e with q | q
    · exact .inl (by simpa using q)
    · exact .inr (by simpa using q)
theorem two_new {r : List Addr} {h : Ho} {H : Hp} (R : Rel S r h H) {T : Addr} (hT : H T = none) {x y : A} {v u : V} (tx : Ra S r H x v) (ty : Ra S r H y u) :
    Step r H r (upd H T (.tup [v, u])) ∧ Rel S r h (upd H T (.tup [v, u])) ∧ Ra S r (upd H T (.tup [v, u])) (.tup [x, y]) (.ref T) := by
  obtain ⟨R', st⟩ := Step.other (u := HO.tup [v, u]) R hT
  exact ⟨st, R', .tup (SqT.of upd_same) (.cons (tx.step R st) (.cons (ty.step R st) .nil))⟩
theorem wk_zpT (R1 : Rel S r1 h1 H1) {a b : Addr} {vs ws : List V} {xs ys : List A} (sq : SqT S.K H1 a vs) (ts : Ras S r1 H1 xs vs) (sq2 : SqT S.K H1 b ws) (ts2 : Ras S r1 H1 ys ws) : Wk S r1 H1 (RZ.ItzT S.K a b) (pairs xs ys) [] := by
  intro r h H st R _ i
  have q1 := SqT.step R1 st sq
  have q2 := SqT.step R1 st sq2
  have t1 := ts.step R1 st
  have t2 := ts2.step R1 st
  refine ⟨fun z hz => ?_, fun hl => ⟨vs, ws, q1, q2, by rw [← t1.length, ← t2.length]; exact pairs_len hl⟩⟩
  obtain ⟨x, y, e1, e2, rfl⟩ := pairs_get hz
  obtain ⟨v, f1, g1⟩ := t1.get e1
  obtain ⟨w, f2, g2⟩ := t2.get e2
  refine ⟨⟨vs, ws, v, w, q1, q2, f1, f2⟩, fun u H' ⟨T, v', w', e, hT, eH, k1, k2⟩ => ?_⟩
  have k1 := k1 vs q1
  have k2 := k2 ws q2
  rw [f1] at k1
  rw [f2] at k2
  cases k1
  cases k2
  subst e eH
  exact two_new R hT g1 g2
theorem wk_zpL {m n : Nat} {a b : Addr} {xs ys : List A} (ea : r1[m]? = some a) (eb : r1[n]? = some b) : Wk S r1 H1 (Itz S.K a b) (pairs xs ys) [(m, xs), (n, ys)] := by
  intro r h H st R sl i
  obtain ⟨vs, q1, t1⟩ := ref_at st R ea (List.mem_cons_self) sl
  obtain ⟨ws, q2, t2⟩ := ref_at st R eb (List.mem_cons_of_mem _ List.mem_cons_self) sl
  refine ⟨fun z hz => ?_, fun hl => ⟨vs, ws, q1, q2, by rw [← t1.length, ← t2.length]; exact pairs_len hl⟩⟩
  obtain ⟨x, y, e1, e2, rfl⟩ := pairs_get hz
  obtain ⟨v, f1, g1⟩ := t1.get e1
  obtain ⟨w, f2, g2⟩ := t2.get e2
  refine ⟨⟨vs, ws, v, w, q1, q2, f1, f2⟩, fun u H' ⟨T, v', w', e, hT, eH, k1, k2⟩ => ?_⟩
  have k1 := k1 vs q1
  have k2 := k2 ws q2
  rw [f1] at k1
  rw [f2] at k2
  cases k1
  cases k2
  subst e eH
  exact two_new R hT g1 g2
theorem num_get : ∀ {xs : List A} {k i : Nat} {a : A}, (numbered k xs)[i]? = some a → ∃ x, xs[i]? = some x ∧ a = .tup [.int ((k + i : Nat) : Int), x]
  | [], _, _, _, e => by
    unfold numbered at e
    simp at e
  | x :: xs, k, 0, _, e => by
    unfold numbered at e
    simp at e
    exact ⟨x, rfl, by rw [← e]; rfl⟩
  | x :: xs, k, i + 1, a, e => by
    unfold numbered at e
    obtain ⟨x', e1, e2⟩ := num_get (i := i) (a := a) (xs := xs) (k := k + 1) (by simpa using e)
    exact ⟨x', by simpa using e1, by rw [e2, Nat.add_right_comm, Nat.add_assoc]⟩
theorem num_len : ∀ (xs : List A) (k : Nat), (numbered k xs).length = xs.length
  | [], _ => rfl
  | x :: xs, k => by
    unfold numbered
    rw [List.length_cons, List.length_cons, num_len xs]
theorem wk_en {n : Nat} {p : Addr} {xs : List A} (ep : r1[n]? = some p) : Wk S r1 H1 (Ite S.K p) (numbered 0 xs) [(n, xs)] := by
  intro r h H st R sl i
  obtain ⟨vs, q1, t1⟩ := ref_at st R ep (List.mem_singleton.mpr rfl) sl
  refine ⟨fun z hz => ?_, fun hl => ⟨vs, q1, by rw [← t1.length, ← num_len xs 0]; exact hl⟩⟩
  obtain ⟨x, e1, rfl⟩ := num_get hz
  obtain ⟨v, f1, g1⟩ := t1.get e1
  refine ⟨⟨vs, v, q1, f1⟩, fun u H' ⟨T, v', e, hT, eH, k1⟩ => ?_⟩
  have k1 := k1 vs q1
  rw [f1] at k1
  cases k1
  subst e eH
  rw [Nat.zero_add]
  exact two_new R hT (.int _) g1
end
/-! ### the iterables -/
section
variable {X : Cx} {c : Ck} {sc : Scope} {own : Str → Bool} {k : Nat} {C : Nat → List A → Ho → R A} {W : WX} {tg : Expr}
theorem _root_.L2.PI.imp {x : Expr} {t t' : TI} (h : PI X tg x t) (q : ∀ σ H Q, t' σ H Q → t σ H Q) : PI X tg x t' := ⟨fun p s σ H Q I w => h.run p s σ H Q I (q _ _ _ w)⟩
def iSeq (K : PySem.W.Frag) (tl : TE) : TI := fun σ H R => tl σ H fun x H1 => ∃ a, x = .ref a ∧ (((∃ xs, SqL K H1 a xs) ∧ R (Itl K a) H1) ∨ ((∃ xs, SqT K H1 a xs) ∧ R (Itt K a) H1))
theorem pi_seq {l : Expr} {tl : TE} (hl : PE X l tl) : PI X tg l (iSeq X.K tl) := by
  refine ⟨fun pins s σ H R I h => ?_⟩
  refine thn (hl.run pins s σ H _ I h) fun v s1 ⟨x, H1, I1, rv, a, e, q⟩ => ?_
  subst e
  cases rv
  have fr : ∀ b, b ∈ [s1.heap.objs.size] → FpOk X pins H1 b := fun b hb => by
    have e := List.mem_singleton.mp hb
    subst e
    exact I1.fpOk (Nat.le_refl _) (I1.hok.fresh (Nat.le_refl _))
  rcases q with ⟨⟨xs, hq⟩, q⟩ | ⟨⟨xs, hq⟩, q⟩
  · obtain ⟨its, rv, p, hz⟩ := I1.list hq
    exact wpAny_pyIter_list p.isList ⟨s1.heap.objs.size, [s1.heap.objs.size], _, _, H1, rfl, I1.kept (t' := s1.toks) fun b o e => Heap.get?_push_of_some _ e, turn_list a _, ⟨_, Heap.get?_push_size _ rfl, rfl, rfl⟩, fr, q⟩
  · obtain ⟨its, rv, p, hz⟩ := I1.tuple hq
    exact wpAny_pyIter_tuple (show s1.heap.IsTuple a its.toArray from p) ⟨s1.heap.objs.size, [s1.heap.objs.size], _, _, H1, rfl, I1.kept (t' := s1.toks) fun b o e => Heap.get?_push_of_some _ e, turn_tuple a _, ⟨_, Heap.get?_push_size _ rfl, rfl, rfl⟩, fr, q⟩
theorem give_of {α β : Type} {G : Pg} {rel : List Addr → Hp → α → β → Prop} {r : List Addr} {H : Hp} {h : Ho} {o : Option α} {Q : β → Hp → Prop} {E : XK} (q : Po (sOf X G) rel r H (give o h) Q E) : ∃ b, o = some b ∧ Po (sOf X G) rel r H (.ok b h) Q E := by
  cases o with
  | none => exact False.elim q
  | some b => exact ⟨b, rfl, q⟩
theorem i_sq {x : Expr} {G : Pg} {f : Sl → Ho → R A} (ha : PE X x (rdE (sOf X G) W f)) : PI X tg x (rdI (sOf X G) W fun s h => (f s h).bind fun x h => give (walkSq x h) h) := by
  refine (pi_seq ha).imp fun σ H Q ⟨r, s, h, a, q⟩ => ⟨r, s, h, a, (Po.bind a q).mono fun v H1 ⟨r1, a1, h1, A1, st, t, q1⟩ => ?_⟩
  obtain ⟨w, e, q1⟩ := give_of q1
  cases t with
  | tup sq ts =>
    cases e
    exact ⟨_, rfl, .inr ⟨⟨_, sq⟩, q1 r1 H1 _ .refl A1.rel (wk_tup A1.rel sq ts)⟩⟩
  | lis sq ts =>
    cases e
    exact ⟨_, rfl, .inl ⟨⟨_, sq.sq⟩, q1 r1 H1 _ .refl A1.rel (wk_lis A1.rel sq ts)⟩⟩
  | @ref n p ep =>
    have e : (seqOf h1 n).map (fun xs => (xs, [(n, xs)])) = some w := e
    cases e1 : seqOf h1 n with
    | none =>
      rw [e1] at e
      cases e
    | some xs =>
      rw [e1] at e
      cases e
      obtain ⟨vs, e2, t2⟩ := seq_at A1.rel e1 ep
      exact ⟨p, rfl, .inl ⟨⟨vs, SqL.of e2⟩, q1 r1 H1 _ .refl A1.rel (wk_ref ep)⟩⟩
  | _ => cases e
theorem rngOk_of {i : Int} (h : rngOk i = true) : -(2 ^ 62) ≤ i ∧ i < 2 ^ 62 := by
  obtain ⟨a, b⟩ := Bool.and_eq_true_iff.mp h
  exact ⟨of_decide_eq_true a, of_decide_eq_true b⟩
theorem i_rg1 (t : Cxt X c sc own k C) (h1 : glB sc ("range" : Str) = true) {x : Expr} (nx : isStar x = false) {F : Sl → Ho → R (List A)} (hl : ∀ s h as h', F s h = .ok as h' → as.length = 1) (ha : PA X [x] (rdA (sOf X c.G) W F)) {p pos : Pos} :
    PI X tg (.Call (.Name ("range" : Str) p) [x] [] pos) (rdI (sOf X c.G) W fun s h => (F s h).bind fun xs h => give (walkRg xs) h) := by
  refine (pi_range1 (gl_of t h1) (gl_free t (by decide)) ha (se_cons nx)).imp fun σ H Q ⟨r, s, h, a, q⟩ => ⟨r, s, h, a, (rdA_len hl a (Po.bind a q)).mono fun vs H1 ⟨hv, r1, as, h1, A1, st, t, q1⟩ => ?_⟩
  obtain ⟨w, e, q1⟩ := give_of q1
  have la := t.length
  match as, t, la with
  | [b], .cons tb .nil, _ =>
    cases tb with
    | int j =>
      have e : (if rngOk j then some (rng 0 j, []) else none) = some w := e
      split at e
      · rename_i hj
        cases e
        obtain ⟨b1, b2⟩ := rngOk_of hj
        have W0 := wk_rng (S := sOf X c.G) (r1 := r1) (H1 := H1) (lo := 0) (hi := j)
        rw [Int.sub_zero] at W0
        exact ⟨j, rfl, b1, b2, q1 r1 H1 _ .refl A1.rel W0⟩
      · cases e
    | _ => cases e
  | [], _, la => exact absurd (la.trans hv) (by decide)
  | _ :: _ :: _, _, la =>
    have := la.trans hv
    simp at this
theorem i_rg2 (t : Cxt X c sc own k C) (h1 : glB sc ("range" : Str) = true) {x y : Expr} (nx : isStar x = false) (ny : isStar y = false) {F : Sl → Ho → R (List A)} (hl : ∀ s h as h', F s h = .ok as h' → as.length = 2) (ha : PA X [x, y] (rdA (sOf X c.G) W F)) {p pos : Pos} :
    PI X tg (.Call (.Name ("range" : Str) p) [x, y] [] pos) (rdI (sOf X c.G) W fun s h => (F s h).bind fun xs h => give (walkRg xs) h) := by
  refine (pi_range2 (gl_of t h1) (gl_free t (by decide)) ha (by rw [se_cons nx, se_cons ny]; rfl) (se_cons ny)).imp fun σ H Q ⟨r, s, h, a, q⟩ => ⟨r, s, h, a, (rdA_len hl a (Po.bind a q)).mono fun vs H1 ⟨hv, r1, as, h1, A1, st, t, q1⟩ => ?_⟩
  obtain ⟨w, e, q1⟩ := give_of q1
  have la := t.length
  match as, t, la with
  | [b, d], .cons tb (.cons td .nil), _ =>
    cases tb with
    | int i =>
      cases td with
      | int j =>
        have e : (if rngOk i && rngOk j then some (rng i j, []) else none) = some w := e
        split at e
        · rename_i hj
          cases e
          obtain ⟨g1, g2⟩ := Bool.and_eq_true_iff.mp hj
          obtain ⟨b1, b2⟩ := rngOk_of g1
          obtain ⟨b3, b4⟩ := rngOk_of g2
          exact ⟨i, j, rfl, ⟨b1, b2, b3, b4⟩, q1 r1 H1 _ .refl A1.rel wk_rng⟩
        · cases e
      | _ => cases e
    | _ => cases e
  | [], _, la => exact absurd (la.trans hv) (by decide)
  | [_], _, la =>
    have := la.trans hv
    simp at this
  | _ :: _ :: _ :: _, _, la =>
    have := la.trans hv
    simp at this
theorem i_zp (t : Cxt X c sc own k C) (h1 : glB sc ("zip" : Str) = true) {x y : Expr} (nx : isStar x = false) (ny : isStar y = false) {f g : Sl → Ho → R A} (ha : PE X x (rdE (sOf X c.G) W f)) (hb : PE X y (rdE (sOf X c.G) W g)) {es : List Expr} {kk : Nat} {p pos tp : Pos} :
    PI X (.Tuple es kk tp) (.Call (.Name ("zip" : Str) p) [x, y] [] pos) (rdI (sOf X c.G) W fun s h => (f s h).bind fun x h => (g s h).bind fun y h => give (walkZp x y h) h) := by
  have A := pa_cons ha (pa_cons hb pa_nil (se_cons ny)) (se_cons nx)
  refine (RZ.pi_zipA (gl_of t h1) (gl_free t (by decide)) A (se_cons nx) (by rw [se_cons ny]; rfl)).imp fun σ H Q ⟨r, s, h, a, q⟩ => ?_
  refine ⟨r, s, h, a, (Po.bind a q).mono fun v H1 ⟨r1, a1, h1, A1, st1, t1, q1⟩ => ⟨r1, s, h1, A1, (Po.bind A1 q1).mono fun u H2 ⟨r2, b2, h2, A2, st2, t2, q2⟩ => ?_⟩⟩
  obtain ⟨w, e, q2⟩ := give_of q2
  have t1 := t1.step A1.rel st2
  cases t1 with
  | tup sq ts =>
    cases t2 with
    | tup sq2 ts2 =>
      cases e
      exact ⟨_, _, _, _, rfl, .inr ⟨sq, sq2, q2 r2 H2 _ .refl A2.rel (wk_zpT A2.rel sq ts sq2 ts2)⟩⟩
    | _ => cases e
  | @ref m pa ea =>
    cases t2 with
    | @ref n pb eb =>
      have e : (match seqOf h2 m, seqOf h2 n with
        | some xs, some ys => some (pairs xs ys, [(m, xs), (n, ys)])
        | _, _ => none) = some w := e
      cases e1 : seqOf h2 m with
      | none =>
        rw [e1] at e
        cases e
      | some xs =>
        cases e2 : seqOf h2 n with
        | none =>
          rw [e1, e2] at e
          cases e
        | some ys =>
          rw [e1, e2] at e
          cases e
          obtain ⟨vs, f1, _⟩ := seq_at A2.rel e1 ea
          obtain ⟨ws, f2, _⟩ := seq_at A2.rel e2 eb
          exact ⟨pa, pb, vs, ws, rfl, .inl ⟨SqL.of f1, SqL.of f2, q2 r2 H2 _ .refl A2.rel (wk_zpL ea eb)⟩⟩
    | _ => cases e
  | _ => cases e
theorem i_en (t : Cxt X c sc own k C) (h1 : glB sc ("enumerate" : Str) = true) {x : Expr} (nx : isStar x = false) {f : Sl → Ho → R A} (ha : PE X x (rdE (sOf X c.G) W f)) {es : List Expr} {kk : Nat} {p pos tp : Pos} :
    PI X (.Tuple es kk tp) (.Call (.Name ("enumerate" : Str) p) [x] [] pos) (rdI (sOf X c.G) W fun s h => (f s h).bind fun x h => give (walkEn x h) h) := by
  have A := pa_cons ha pa_nil (se_cons nx)
  refine (pi_enum (gl_of t h1) (gl_free t (by decide)) A (se_cons nx)).imp fun σ H Q ⟨r, s, h, a, q⟩ => ⟨r, s, h, a, (Po.bind a q).mono fun v H1 ⟨r1, a1, h1, A1, st1, t1, q1⟩ => ?_⟩
  obtain ⟨w, e, q1⟩ := give_of q1
  cases t1 with
  | @ref n pa ea =>
    have e : (seqOf h1 n).map (fun xs => (numbered 0 xs, [(n, xs)])) = some w := e
    cases e1 : seqOf h1 n with
    | none =>
      rw [e1] at e
      cases e
    | some xs =>
      rw [e1] at e
      cases e
      obtain ⟨vs, f1, _⟩ := seq_at A1.rel e1 ea
      exact ⟨pa, vs, rfl, SqL.of f1, q1 r1 H1 _ .refl A1.rel (wk_en ea)⟩
  | _ => cases e
end
end Ev

/-! text Fw12 -/
set_option Elab.async false
set_option linter.all false
set_option maxRecDepth 100000
set_option maxHeartbeats 4000000
/-! Ev: comprehensions. -/
namespace Ev
open PySem PySem.Spec PyProof.Rows L2
/-! ### a list being made, not yet of ours -/
section
variable {S : Ws} {r : List Addr} {H : Hp} {h : Ho} {D : Addr} {l l' : List V}
theorem Rd.off (e : H D = some (.lst l)) {a : Addr} {u : HO} (d : L2.Rd H a u) (ne : ∀ vs, u ≠ .lst vs) : L2.Rd (upd H D (.lst l')) a u := by
  rcases d with q | ⟨o, q⟩
  · have n : a ≠ D := fun z => by
      subst z
      rw [e] at q
      exact ne _ (Option.some.inj q).symm
    exact .inl (by rw [upd_ne n]; exact q)
  · have n : a ≠ D := fun z => by
      subst z
      rw [e] at q
      cases q
    exact .inr ⟨o, by rw [upd_ne n]; exact q⟩
mutual
theorem Ra.off (e : H D = some (.lst l)) : ∀ {a : A} {v : V}, Ra S r H a v → Ra S r (upd H D (.lst l')) a v
  | _, _, .non => .non
  | _, _, .bl b => .bl b
  | _, _, .int i => .int i
  | _, _, .str x => .str x
  | _, _, .tup q t => .tup (q.elim (fun d => .inl (Rd.off e d fun vs z => by cases z)) .inr) (Ras.off e t)
  | _, _, .lis q t => .lis (q.elim (fun ⟨o, d⟩ => .inl ⟨o, by
      rw [upd_ne (fun z => by
        subst z
        rw [e] at d
        cases d)]
      exact d⟩) .inr) (Ras.off e t)
  | _, _, .ref q => .ref q
  | _, _, .fn e1 e2 => .fn e1 e2
theorem Ras.off (e : H D = some (.lst l)) : ∀ {as : List A} {vs : List V}, Ras S r H as vs → Ras S r (upd H D (.lst l')) as vs
  | _, _, .nil => .nil
  | _, _, .cons a t => .cons (Ra.off e a) (Ras.off e t)
end
theorem Rel.off (e : H D = some (.lst l)) (nD : D ∉ r) (R : Rel S r h H) : Rel S r h (upd H D (.lst l')) := by
  refine ⟨R.len, R.nd, fun n xs en => ?_⟩
  obtain ⟨p, vs, e1, e2, t⟩ := R.at_ n xs en
  refine ⟨p, vs, e1, ?_, t.off e⟩
  rw [upd_ne (fun z => by
    subst z
    exact nD (List.mem_of_getElem? e1))]
  exact e2
theorem Step.notIn {r' : List Addr} {H' : Hp} {o : HO} (st : Step r H r' H') (e : H D = some o) (n : D ∉ r) : D ∉ r' := fun m => by
  have := st.new D m n
  rw [e] at this
  cases this
theorem Step.outer {r1 : List Addr} {H1 : Hp} (st : Step r1 H1 r H) (n : H1 D = none) : Step r1 H1 r (upd H D (.lst l')) :=
  ⟨st.pre, st.new, fun b o e nb => by
    rw [upd_ne (fun z => by
      subst z
      rw [n] at e
      cases e)]
    exact st.keep b o e nb⟩
/-- at last it is one of ours -/
theorem Rel.take_in (R : Rel S r h H) {as : List A} {vs : List V} (e : H D = some (.lst vs)) (nD : D ∉ r) (t : Ras S r H as vs) {r1 : List Addr} {H1 : Hp} (st : Step r1 H1 r H) (n : H1 D = none) :
    Step r1 H1 (r ++ [D]) H ∧ Rel S (r ++ [D]) (h ++ [.lst as]) H ∧ Ra S (r ++ [D]) H (.ref h.length) (.ref D) := by
  have up : ∀ (a : A) (v : V), Ra S r H a v → Ra S (r ++ [D]) H a v := fun a v q => by
    refine Ra.rec (motive_1 := fun a v _ => Ra S (r ++ [D]) H a v) (motive_2 := fun as vs _ => Ras S (r ++ [D]) H as vs) .non .bl .int .str (fun q _ ih => .tup q ih) (fun q _ ih => .lis q ih) (fun e => .ref (pre_get (List.prefix_append _ _) e)) (fun e1 e2 => .fn e1 e2) .nil (fun _ _ i1 i2 => .cons i1 i2) q
  have ups : ∀ {as : List A} {vs : List V}, Ras S r H as vs → Ras S (r ++ [D]) H as vs := by
    intro as vs q
    induction as generalizing vs with
    | nil =>
      cases q
      exact .nil
    | cons a as ih =>
      cases q with
      | cons q1 q2 => exact .cons (up _ _ q1) (ih q2)
  refine ⟨⟨st.pre.trans (List.prefix_append _ _), fun b hb nb => ?_, fun b o q nb => st.keep b o q nb⟩, ⟨by rw [List.length_append, List.length_append, R.len]; rfl, ?_, fun m ys em => ?_⟩, .ref ?_⟩
  · rcases List.mem_append.mp hb with z | z
    · exact st.new b z nb
    · rw [List.mem_singleton.mp z]
      exact n
  · exact List.nodup_append.mpr ⟨R.nd, by simp, fun a ha b hb => by
      rw [List.mem_singleton.mp hb]
      exact fun z => nD (z ▸ ha)⟩
  · by_cases hm : m < h.length
    · rw [List.getElem?_append_left hm] at em
      obtain ⟨p, ws, e1, e2, t2⟩ := R.at_ m ys em
      exact ⟨p, ws, pre_get (List.prefix_append _ _) e1, e2, ups t2⟩
    · rw [List.getElem?_append_right (by omega)] at em
      have hm0 : m - h.length = 0 := by
        have := (List.getElem?_eq_some_iff.mp em).1
        simp at this
        omega
      rw [hm0] at em
      simp at em
      subst em
      refine ⟨D, vs, ?_, e, ups t⟩
      rw [List.getElem?_append_right (by rw [R.len]; omega), R.len, hm0]
      rfl
  · rw [List.getElem?_append_right (by rw [R.len]; exact Nat.le_refl _), R.len, Nat.sub_self]
    rfl
end
/-! ### the block's slots -/
theorem wipe_in {σ : L2.St} {i : Nat} : ∀ {vs : List Nat}, i ∈ vs → i < σ.length → (L2.wipe σ vs)[i]? = some none
  | v :: vs, m, hl => by
    unfold L2.wipe
    by_cases e : v = i
    · subst e
      exact List.getElem?_set_self (by rw [wipe_length]; exact hl)
    · rw [List.getElem?_set_ne e]
      rcases List.mem_cons.mp m with z | z
      · exact absurd z.symm e
      · exact wipe_in z hl
theorem wipe_same {σ σ2 : L2.St} {vs : List Nat} (k : Keeps vs (L2.wipe σ vs) σ2) (l : σ2.length = (L2.wipe σ vs).length) : L2.wipe σ2 vs = L2.wipe σ vs := by
  refine List.ext_getElem? fun i => ?_
  rw [wipe_length] at l
  by_cases m : i ∈ vs
  · by_cases hl : i < σ.length
    · rw [wipe_in m hl, wipe_in m (by rw [l]; exact hl)]
    · rw [List.getElem?_eq_none (by rw [wipe_length, l]; omega), List.getElem?_eq_none (by rw [wipe_length]; omega)]
  · rw [wipe_out m, k i m]
theorem compL_calm {src : List (Nat × List A)} {f : A → Ho → R (Option A)} (hf : ∀ x h e h', f x h ≠ .exc e h') : ∀ (xs : List A) (h : Ho) (e : Xv) (h' : Ho), compL src f xs h ≠ .exc e h'
  | [], h, e, h' => by
    unfold compL
    split <;> exact fun z => by cases z
  | x :: xs, h, e, h' => by
    unfold compL
    split
    · cases q : f x h with
      | err => exact fun z => by cases z
      | exc y h2 => exact absurd q (hf _ _ _ _)
      | ok o h2 =>
        show (compL src f xs h2).bind _ ≠ _
        cases q2 : compL src f xs h2 with
        | err => exact fun z => by cases z
        | exc y h3 => exact absurd q2 (compL_calm hf xs h2 _ _)
        | ok ys h3 => exact fun z => by cases z
    · exact fun z => by cases z
abbrev NoX : WX := fun _ _ _ _ => False
/-- a turn of the block -/
def turnC (g : Tg) (own : List Nat) (ft : Sl → Ho → R Bool) (fe : Sl → Ho → R A) (s : Sl) (x : A) (h : Ho) : R (Option A) := match Tg.put g x (wipe s own) with
  | some s' => (ft s' h).calm.bind fun k h => if k then (fe s' h).calm.bind fun y h => .ok (some y) h else .ok none h
  | none => .err
theorem turnC_calm {g : Tg} {own : List Nat} {ft : Sl → Ho → R Bool} {fe : Sl → Ho → R A} {s : Sl} (x : A) (h : Ho) (e : Xv) (h' : Ho) : turnC g own ft fe s x h ≠ .exc e h' := by
  unfold turnC
  split
  · rename_i s' _
    cases q : ft s' h with
    | err => exact fun z => by cases z
    | exc y h2 => exact fun z => by cases z
    | ok k h2 =>
      show (if k = true then (fe s' h2).calm.bind (fun y h => R.ok (some y) h) else R.ok none h2) ≠ _
      split
      · cases q2 : fe s' h2 with
        | err => exact fun z => by cases z
        | exc y h3 => exact fun z => by cases z
        | ok y h3 => exact fun z => by cases z
      · exact fun z => by cases z
  · exact fun z => by cases z
def finC (ys : List A) (h : Ho) : R A := if lineOk ys.length then newL ys h else .err
theorem own_back (c : Ck) (own : List Nat) : (ownOf c own).map (·.2) = own := by
  unfold ownOf
  rw [List.map_map]
  exact List.map_id own
section
variable {X : Cx} {c : Ck} {sc : Scope} {own : Str → Bool} {k : Nat} {C : Nat → List A → Ho → R A} {W : WX}
theorem comp_rd {ow : List Nat} {cc : Ck} {g : Tg} {gi : Sl → Ho → R (List A × List (Nat × List A))} {ft : Sl → Ho → R Bool} {fe : Sl → Ho → R A} (hw : Tg.within ow g = true) (σ : L2.St) (H : Hp) (Q : VK)
    (hh : rdE (sOf X c.G) W (fun s h => (gi s h).bind fun w h => (compL w.2 (turnC g ow ft fe s) w.1 h).bind fun ys h => finC ys h) σ H Q) :
    tLc (rdI (sOf X c.G) W gi) (rdG (sOf X c.G) g) (rdB (sOf X c.G) NoX ft) (rdE (sOf X c.G) NoX fe) ((ownOf cc ow).map (·.2)) σ H Q := by
  obtain ⟨r, s, h, a, q⟩ := hh
  refine ⟨r, s, h, a, (Po.bind a q).mono fun J H1 ⟨r1, w, h1, A1, _, wk, q1⟩ => ?_⟩
  rw [own_back]
  intro D hD
  generalize hF : turnC g ow ft fe s = F at q1
  have cF : ∀ x h e h', F x h ≠ .exc e h' := fun x h e h' => by
    rw [← hF]
    exact turnC_calm x h e h'
  refine ⟨fun i m H2 => ∃ (r2 : List Addr) (h2 : Ho) (accA : List A) (accV : List V), Step r1 H1 r2 H2 ∧ Rel (sOf X c.G) r2 h2 H2 ∧ D ∉ r2 ∧ H2 D = some (.lst accV) ∧ Ras (sOf X c.G) r2 H2 accA accV ∧ m = w.1.length - i ∧
    PoV (sOf X c.G) r1 H1 ((compL w.2 F (w.1.drop i) h2).bind fun ys h => finC (accA ++ ys) h) Q fun cls d H' => W cls d σ H', ⟨w.1.length, r1, h1, [], [], ?_⟩, fun i m H2 ⟨r2, h2, accA, accV, st2, R2, nD, eD, tA, em, q2⟩ => ?_⟩
  · obtain ⟨R', st'⟩ := Step.other (u := HO.lst []) A1.rel hD
    refine ⟨st', R', fun z => ?_, upd_same, .nil, rfl, q1⟩
    obtain ⟨vs, e⟩ := A1.rel.lstOf z
    rw [hD] at e
    cases e
  · cases ex : w.1[i]? with
    | none =>
      have hl : w.1.length ≤ i := by
        rcases Nat.lt_or_ge i w.1.length with z | z
        · rw [List.getElem?_eq_getElem z] at ex
          cases ex
        · exact z
      rw [List.drop_eq_nil_of_le hl] at q2
      unfold compL at q2
      split at q2
      · rename_i sl
        refine .inl ⟨(wk r2 h2 H2 st2 R2 sl i).2 hl, ?_⟩
        have q2 : PoV (sOf X c.G) r1 H1 (finC (accA ++ []) h2) Q fun cls d H' => W cls d σ H' := q2
        rw [List.append_nil] at q2
        unfold finC at q2
        split at q2
        · obtain ⟨s1, s2, s3⟩ := R2.take_in eD nD tA st2 hD
          exact q2 _ _ _ s1 s2 s3
        · exact False.elim q2
      · exact False.elim q2
    | some x =>
      have hl : i < w.1.length := (List.getElem?_eq_some_iff.mp ex).1
      have hd : w.1.drop i = x :: w.1.drop (i + 1) := by
        rw [List.drop_eq_getElem_cons hl]
        rw [List.getElem?_eq_getElem hl] at ex
        rw [Option.some.inj ex]
      rw [hd] at q2
      unfold compL at q2
      split at q2
      · rename_i sl
        obtain ⟨go, yl⟩ := (wk r2 h2 H2 st2 R2 sl i).1 x ex
        refine .inr ⟨go, fun H' => ∃ (r2 : List Addr) (h2 : Ho) (accA : List A) (accV : List V), Step r1 H1 r2 H' ∧ Rel (sOf X c.G) r2 h2 H' ∧ D ∉ r2 ∧ H' D = some (.lst accV) ∧ Ras (sOf X c.G) r2 H' accA accV ∧
          PoV (sOf X c.G) r1 H1 ((compL w.2 F (w.1.drop (i + 1)) h2).bind fun ys h => finC (accA ++ ys) h) Q fun cls d H' => W cls d σ H', fun H' ⟨r3, h3, aA, aV, p1, p2, p3, p4, p5, p6⟩ => ⟨w.1.length - (i + 1), by omega, r3, h3, aA, aV, p1, p2, p3, p4, p5, rfl, p6⟩, fun v H3 hy => ?_⟩
        obtain ⟨st3, R3, tv⟩ := yl v H3 hy
        have sA : At (sOf X c.G) r2 (wipe s ow) h2 (L2.wipe σ ow) H3 := ⟨R3, ((A1.sl.step A1.rel st2).step R2 st3).wipe ow⟩
        -- the turn
        cases eP : Tg.put g x (wipe s ow) with
        | none =>
          have : F x h2 = .err := by
            rw [← hF]
            unfold turnC
            rw [eP]
          rw [this] at q2
          exact False.elim q2
        | some s' =>
          have eF : F x h2 = (ft s' h2).calm.bind fun k h => if k then (fe s' h).calm.bind fun y h => .ok (some y) h else .ok none h := by
            rw [← hF]
            unfold turnC
            rw [eP]
          rw [eF] at q2
          refine ⟨r2, _, h2, x, s', sA, tv, eP, fun σ' A' l' kp => ⟨wipe_same (kp ow hw) l', ?_⟩⟩
          refine ⟨r2, s', h2, A', ?_⟩
          cases e1 : ft s' h2 with
          | err =>
            rw [e1] at q2
            exact False.elim q2
          | exc y h3 =>
            rw [e1] at q2
            exact False.elim q2
          | ok kk h3 =>
            rw [e1] at q2
            intro r4 H4 b st4 R4 eb
            subst eb
            have n4 : D ∉ r4 := st4.notIn (o := .lst accV) (st3.keep D _ eD nD) nD
            have eD4 : H4 D = some (.lst accV) := st4.keep D _ (st3.keep D _ eD nD) nD
            have s14 : Step r1 H1 r4 H4 := (st2.trans st3).trans st4
            have tA4 := (tA.step R2 st3).step R3 st4
            cases kk with
            | false =>
              rw [if_neg Bool.false_ne_true]
              refine ⟨r4, h3, accA, accV, s14, R4, n4, eD4, tA4, ?_⟩
              have q2 : PoV (sOf X c.G) r1 H1 (((compL w.2 F (w.1.drop (i + 1)) h3).bind fun ys h => .ok ys h).bind fun ys h => finC (accA ++ ys) h) Q fun cls d H' => W cls d σ H' := q2
              rw [R.assoc] at q2
              exact q2
            | true =>
              rw [if_pos rfl]
              refine ⟨r4, s', h3, A'.step st4 R4, ?_⟩
              have q2 : PoV (sOf X c.G) r1 H1 ((((fe s' h3).calm.bind fun y h => R.ok (some y) h).bind fun o h => (compL w.2 F (w.1.drop (i + 1)) h).bind fun ys h => .ok (match o with
                | some y => y :: ys
                | none => ys) h).bind fun ys h => finC (accA ++ ys) h) Q fun cls d H' => W cls d σ H' := q2
              cases e2 : fe s' h3 with
              | err =>
                rw [e2] at q2
                exact False.elim q2
              | exc y h4 =>
                rw [e2] at q2
                exact False.elim q2
              | ok y h4 =>
                rw [e2] at q2
                intro r5 H5 vy st5 R5 ty
                have q2 : PoV (sOf X c.G) r1 H1 (((compL w.2 F (w.1.drop (i + 1)) h4).bind fun ys h => .ok (y :: ys) h).bind fun ys h => finC (accA ++ ys) h) Q fun cls d H' => W cls d σ H' := q2
                rw [R.assoc] at q2
                have q3 : PoV (sOf X c.G) r1 H1 ((compL w.2 F (w.1.drop (i + 1)) h4).bind fun ys h => finC (accA ++ [y] ++ ys) h) Q fun cls d H' => W cls d σ H' := by
                  have e : (fun (ys : List A) (h : Ho) => finC (accA ++ [y] ++ ys) h) = fun ys h => finC (accA ++ (y :: ys)) h := by
                    funext ys h
                    rw [List.append_assoc]
                    rfl
                  rw [e]
                  exact q2
                have eD5 : H5 D = some (.lst accV) := st5.keep D _ eD4 n4
                have n5 : D ∉ r5 := st5.notIn eD4 n4
                have tA5 := tA4.step R4 st5
                refine ⟨accV, eD5, ?_, r5, h4, accA ++ [y], accV ++ [vy], (s14.trans st5).outer hD, R5.off eD5 n5, n5, upd_same, (tA5.snoc ty).off eD5, q3⟩
                -- the bound
                cases e5 : compL w.2 F (w.1.drop (i + 1)) h4 with
                | err =>
                  rw [e5] at q3
                  exact False.elim q3
                | exc z h5 => exact absurd e5 (compL_calm cF _ _ _ _)
                | ok ys h5 =>
                  rw [e5] at q3
                  have q3 : PoV (sOf X c.G) r1 H1 (finC (accA ++ [y] ++ ys) h5) Q fun cls d H' => W cls d σ H' := q3
                  unfold finC at q3
                  split at q3
                  · rename_i hz
                    have := line_le hz
                    rw [List.length_append, List.length_append] at this
                    rw [← tA.length]
                    have l1 : [y].length = 1 := rfl
                    omega
                  · exact False.elim q3
      · exact False.elim q2

theorem e_comp (t : Cxt X c sc own k C) {elt tg iter : Expr} {ifs : List Expr} {scope : Scope} {pos : Pos} {ow : List Nat} {g : Tg} {gi : Sl → Ho → R (List A × List (Nat × List A))} {ft : Sl → Ho → R Bool} {fe : Sl → Ho → R A}
    (hi : PI X tg iter (rdI (sOf X c.G) W gi)) (ok : BlkOk X.N X.env.scope scope (ownOf c ow))
    (hg : ∀ (s : Shared) (H : Hp) (C : Addr) (cl : List (Str × Addr)) (fp : List Addr), PG (X.blk s H scope (compEnvC scope cl C X.env) fp) tg (rdG (sOf X c.G) g))
    (ht : ∀ (s : Shared) (H : Hp) (C : Addr) (cl : List (Str × Addr)) (fp : List Addr), PTs (X.blk s H scope (compEnvC scope cl C X.env) fp) ifs (rdB (sOf X c.G) NoX ft))
    (he : ∀ (s : Shared) (H : Hp) (C : Addr) (cl : List (Str × Addr)) (fp : List Addr), PE (X.blk s H scope (compEnvC scope cl C X.env) fp) elt (rdE (sOf X c.G) NoX fe))
    (hw : Tg.within ow g = true) (hs : ∀ x, foldedSetIterable iter X.env x = pure x) :
    PE X (.ListComp elt [⟨tg, iter, ifs, 0⟩] scope pos) (rdE (sOf X c.G) W fun s h => (gi s h).bind fun w h => (compL w.2 (turnC g ow ft fe s) w.1 h).bind fun ys h => finC ys h) := by
  exact (pe_lc t.calm (by rw [t.N]; exact t.nd) hi ok hg ht he hs).imp fun σ H Q hh => comp_rd hw σ H Q hh
theorem s_setC (t : Cxt X c sc own k C) {elt tg iter : Expr} {ifs : List Expr} {scope : Scope} {pos py sp : Pos} {y : Str} {j : Nat} {ow : List Nat} {g : Tg} {gi : Sl → Ho → R (List A × List (Nat × List A))} {ft : Sl → Ho → R Bool} {fe : Sl → Ho → R A} (hy : X.N[j]? = some y)
    (hyl : X.env.scope.names.lookup y = some .local) (hsw : swapsWith (.ListComp elt [⟨tg, iter, ifs, 0⟩] scope pos) (some (.Name y py)) sp.line X.env = pure true)
    (hi : PI X tg iter (rdI (sOf X c.G) W gi)) (ok : BlkOk X.N X.env.scope scope (ownOf c ow))
    (hg : ∀ (s : Shared) (H : Hp) (C : Addr) (cl : List (Str × Addr)) (fp : List Addr), PG (X.blk s H scope (compEnvC scope cl C X.env) fp) tg (rdG (sOf X c.G) g))
    (ht : ∀ (s : Shared) (H : Hp) (C : Addr) (cl : List (Str × Addr)) (fp : List Addr), PTs (X.blk s H scope (compEnvC scope cl C X.env) fp) ifs (rdB (sOf X c.G) NoX ft))
    (he : ∀ (s : Shared) (H : Hp) (C : Addr) (cl : List (Str × Addr)) (fp : List Addr), PE (X.blk s H scope (compEnvC scope cl C X.env) fp) elt (rdE (sOf X c.G) NoX fe))
    (hw : Tg.within ow g = true) (hs : ∀ x, foldedSetIterable iter X.env x = pure x) :
    PS X (.Assign [.Name y py] (.ListComp elt [⟨tg, iter, ifs, 0⟩] scope pos) sp) (tAsg (rdE (sOf X c.G) W fun s h => (gi s h).bind fun w h => (compL w.2 (turnC g ow ft fe s) w.1 h).bind fun ys h => finC ys h) (gName j)) := by
  have z := ps_setLc t.calm (by rw [t.N]; exact t.nd) hy hyl hsw hi ok hg ht he hs
  exact ⟨fun pins s σ H D I w => z.run pins s σ H D I (comp_rd hw σ H _ w)⟩
end
end Ev

/-! text Fw13 -/
set_option Elab.async false
set_option linter.all false
set_option maxRecDepth 100000
set_option maxHeartbeats 4000000
/-! Ev: a piece of syntax that the check takes does what the term's computing says. -/
namespace Ev
open PySem PySem.Spec PyProof.Rows L2
theorem ckEs_ns {c : Ck} {sc : Scope} : ∀ {es : List E} {xs : List Expr}, ckEs c sc es xs = true → noStars xs = true ∧ es.length = xs.length
  | [], [], _ => ⟨rfl, rfl⟩
  | e :: es, x :: xs, h => by
    unfold ckEs at h
    obtain ⟨h1, h2⟩ := Bool.and_eq_true_iff.mp h
    obtain ⟨h1, _⟩ := Bool.and_eq_true_iff.mp h1
    obtain ⟨i1, i2⟩ := ckEs_ns h2
    exact ⟨Bool.and_eq_true_iff.mpr ⟨h1, i1⟩, by rw [List.length_cons, List.length_cons, i2]⟩
  | [], _ :: _, h => by
    unfold ckEs at h
    cases h
  | _ :: _, [], h => by
    unfold ckEs at h
    cases h
theorem plain_true {x : Expr} (h : plainT x = true) (env : Env) (whole : Sem Value) : isTrue x env whole = (do let v ← whole; standAt x.pos; holding [v] (truthy v)) := by
  cases x with
  | UnaryOp op a p =>
    cases op <;> first
      | rfl
      | (cases h)
  | _ => first
    | rfl
    | (cases h)
theorem cmpEq_is {a b : CmpOp} (h : cmpEq a b = true) : a = b := by
  cases a <;> cases b <;> first
    | rfl
    | (cases h)
theorem opEq_is {a b : Operator} (h : opEq a b = true) : a = b := by
  cases a <;> cases b <;> first
    | rfl
    | (cases h)
theorem isSet_folded {x : Expr} (h : isSet x = false) (env : Env) (v : Value) : foldedSetIterable x env v = pure v := by
  cases x <;> first
    | rfl
    | (cases h)
theorem ble_le {n m : Nat} (h : Nat.ble n m = true) : n ≤ m := Nat.le_of_ble_eq_true h
theorem and2 {a b : Bool} (h : (a && b) = true) : a = true ∧ b = true := Bool.and_eq_true_iff.mp h
theorem not1 {a : Bool} (h : (!a) = true) : a = false := by simpa using h
section
variable {c : Ck}
/-- the context of a block -/
theorem Cxt.blk {X : Cx} {sc : Scope} {own : Str → Bool} {k : Nat} {C : Nat → List A → Ho → R A} (t : Cxt X c sc own k C) (s : Shared) (H : Hp) (scope : Scope) (Ca : Addr) (cl : List (Str × Addr)) (fp : List Addr) :
    Cxt (X.blk s H scope (compEnvC scope cl Ca X.env) fp) c (relS scope sc) (fun x => scope.names.lookup x == some .cell) k C where
  wd := t.wd
  N := t.N
  nd := t.nd
  sc := by
    rw [← t.sc]
    rfl
  own := fun x h => h
  calm := t.calm
  gd := t.gd
  room := t.room
theorem takes_no {X : Cx} : Takes X NoX := fun _ _ ⟨_, _, _, _, _, _, _, _, _, _, _, _, _, _, _, _, w⟩ => False.elim w
end
theorem non_is {e : E} (h : isNonE e = true) : e = .lit .non := by
  unfold isNonE at h
  split at h
  · rfl
  · cases h
theorem yes_is {e : T} (h : isYes e = true) : e = .yes := by
  unfold isYes at h
  split at h
  · rfl
  · cases h
theorem def_is {c : Ck} {f : Nat} {x : Str} (h : defB c f x = true) : ∃ d, c.G.defs[f]? = some d ∧ d.name = x := by
  unfold defB at h
  split at h
  · rename_i d hd
    exact ⟨d, hd, beq_iff_eq.mp h⟩
  · cases h
theorem ckI_noset {c : Ck} {sc : Scope} {it : I} {x tg : Expr} (h : ckI c sc it x tg = true) : isSet x = false := by
  cases x with
  | Set a b p =>
    cases it with
    | sq e => exact nomatch (show false = true from h)
    | _ => exact nomatch (show false = true from h)
  | _ => rfl
abbrev OkE (c : Ck) (k : Nat) (C : Nat → List A → Ho → R A) (sc : Scope) (e : E) (x : Expr) : Prop := ∀ (X : Cx) (own : Str → Bool) (W : WX), Cxt X c sc own k C → Takes X W → PE X x (rdE (sOf X c.G) W (evE C e))
abbrev OkA (c : Ck) (k : Nat) (C : Nat → List A → Ho → R A) (sc : Scope) (es : List E) (xs : List Expr) : Prop := ∀ (X : Cx) (own : Str → Bool) (W : WX), Cxt X c sc own k C → Takes X W → PA X xs (rdA (sOf X c.G) W (evEs C es))
abbrev OkT (c : Ck) (k : Nat) (C : Nat → List A → Ho → R A) (sc : Scope) (e : T) (x : Expr) : Prop := ∀ (X : Cx) (own : Str → Bool) (W : WX), Cxt X c sc own k C → Takes X W → PT X x (rdB (sOf X c.G) W (evT C e))
abbrev OkW (c : Ck) (k : Nat) (C : Nat → List A → Ho → R A) (sc : Scope) (e : T) (x : Expr) : Prop := ∀ (X : Cx) (own : Str → Bool) (W : WX), Cxt X c sc own k C → Takes X W → PW X x (rdB (sOf X c.G) W (evT C e))
abbrev OkI (c : Ck) (k : Nat) (C : Nat → List A → Ho → R A) (sc : Scope) (e : I) (x tg : Expr) : Prop := ∀ (X : Cx) (own : Str → Bool) (W : WX), Cxt X c sc own k C → Takes X W → PI X tg x (rdI (sOf X c.G) W (evI C e))
section
variable {c : Ck} {k : Nat} {C : Nat → List A → Ho → R A}
theorem evEs0 {es : List E} {xs : List Expr} {sc : Scope} (h : ckEs c sc es xs = true) : xs = [] → ∀ s h, evEs C es s h = .ok [] h := fun e s h' => by
  subst e
  cases es with
  | nil => rfl
  | cons => exact nomatch (show false = true from h)
mutual
theorem okE : ∀ (e : E) (sc : Scope) (x : Expr), ckE c sc e x = true → OkE c k C sc e x
  | .var i, sc, x, h => by
    cases x with
    | Name y p =>
      obtain ⟨h1, h3⟩ := and2 (show (decide (c.N[i]? = some y) && visB sc y && dbgB y) = true from h)
      obtain ⟨h1, h2⟩ := and2 h1
      exact fun X own W t tk => e_var t (of_decide_eq_true h1) h2 h3
    | _ => exact nomatch (show false = true from h)
  | .lit a, sc, x, h => by
    cases x with
    | Constant y n p => exact fun X own W t tk => e_lit (show litEq a y = true from h)
    | _ => exact nomatch (show false = true from h)
  | .glo y a, sc, x, h => by
    cases x with
    | Name z p =>
      obtain ⟨h1, h4⟩ := and2 (show (y == z && glB sc z && dbgB z && gloB c z a) = true from h)
      obtain ⟨h1, h3⟩ := and2 h1
      obtain ⟨h1, h2⟩ := and2 h1
      exact fun X own W t tk => e_glo t h2 h3 h4
    | _ => exact nomatch (show false = true from h)
  | .neg a, sc, x, h => by
    cases x with
    | UnaryOp op y p =>
      cases op with
      | USub => exact fun X own W t tk => (e_neg (okE a sc y (show ckE c sc a y = true from h) X own W t tk)).sem fun _ _ => rfl
      | _ => exact nomatch (show false = true from h)
    | _ => exact nomatch (show false = true from h)
  | .not a, sc, x, h => by
    cases x with
    | UnaryOp op y p =>
      cases op with
      | Not => exact fun X own W t tk => (e_not (okE a sc y (show ckE c sc a y = true from h) X own W t tk)).sem fun _ _ => rfl
      | _ => exact nomatch (show false = true from h)
    | _ => exact nomatch (show false = true from h)
  | .bin op a b, sc, x, h => by
    cases x with
    | BinOp y op' z p =>
      obtain ⟨h1, h3⟩ := and2 (show (opEq op op' && ckE c sc a y && ckE c sc b z) = true from h)
      obtain ⟨h1, h2⟩ := and2 h1
      have e := opEq_is h1
      subst e
      exact fun X own W t tk => (e_bin op (okE a sc y h2 X own W t tk) (okE b sc z h3 X own W t tk)).sem fun _ _ => rfl
    | _ => exact nomatch (show false = true from h)
  | .and a b, sc, x, h => by
    cases x with
    | BoolOp op xs p =>
      cases op with
      | And =>
        match xs with
        | [] => exact nomatch (show false = true from h)
        | [_] => exact nomatch (show false = true from h)
        | [y, z] =>
          obtain ⟨h1, h2⟩ := and2 (show (ckE c sc a y && ckE c sc b z) = true from h)
          exact fun X own W t tk => (e_and (okE a sc y h1 X own W t tk) (pe_one (okE b sc z h2 X own W t tk))).sem fun _ _ => rfl
        | y :: z :: v :: r =>
          obtain ⟨h1, h2⟩ := and2 (show (ckE c sc a y && ckE c sc b (.BoolOp .And (z :: v :: r) p)) = true from h)
          exact fun X own W t tk => (e_and (okE a sc y h1 X own W t tk) (okE b sc _ h2 X own W t tk)).sem fun _ _ => rfl
      | _ => exact nomatch (show false = true from h)
    | _ => exact nomatch (show false = true from h)
  | .or a b, sc, x, h => by
    cases x with
    | BoolOp op xs p =>
      cases op with
      | Or =>
        match xs with
        | [] => exact nomatch (show false = true from h)
        | [_] => exact nomatch (show false = true from h)
        | [y, z] =>
          obtain ⟨h1, h2⟩ := and2 (show (ckE c sc a y && ckE c sc b z) = true from h)
          exact fun X own W t tk => (e_or (okE a sc y h1 X own W t tk) (pe_one (okE b sc z h2 X own W t tk))).sem fun _ _ => rfl
        | y :: z :: v :: r =>
          obtain ⟨h1, h2⟩ := and2 (show (ckE c sc a y && ckE c sc b (.BoolOp .Or (z :: v :: r) p)) = true from h)
          exact fun X own W t tk => (e_or (okE a sc y h1 X own W t tk) (okE b sc _ h2 X own W t tk)).sem fun _ _ => rfl
      | _ => exact nomatch (show false = true from h)
    | _ => exact nomatch (show false = true from h)
  | .ite tt a b, sc, x, h => by
    cases x with
    | IfExp z y v p =>
      obtain ⟨h1, h3⟩ := and2 (show (ckT c sc tt z && ckE c sc a y && ckE c sc b v) = true from h)
      obtain ⟨h1, h2⟩ := and2 h1
      exact fun X own W t tk => (e_ite ((okT tt sc z h1).1 X own W t tk) (okE a sc y h2 X own W t tk) (okE b sc v h3 X own W t tk)).sem fun _ _ => rfl
    | _ => exact nomatch (show false = true from h)
  | .cmp op a b, sc, x, h => by
    cases x with
    | Compare y ops zs p =>
      match ops, zs with
      | [op'], [z] =>
        obtain ⟨h1, h4⟩ := and2 (show (cmpEq op op' && ckE c sc a y && ckE c sc b z && !isSet z) = true from h)
        obtain ⟨h1, h3⟩ := and2 h1
        obtain ⟨h1, h2⟩ := and2 h1
        have e := cmpEq_is h1
        subst e
        exact fun X own W t tk => (e_cmp t op (not1 h4) (okE a sc y h2 X own W t tk) (okE b sc z h3 X own W t tk)).sem fun _ _ => rfl
      | [], _ => exact nomatch (show false = true from h)
      | [_], [] => exact nomatch (show false = true from h)
      | [_], _ :: _ :: _ => exact nomatch (show false = true from h)
      | _ :: _ :: _, _ => exact nomatch (show false = true from h)
    | _ => exact nomatch (show false = true from h)
  | .chn op op2 a b d, sc, x, h => by
    cases x with
    | Compare y ops zs p =>
      match ops, zs with
      | [op', op2'], [z, v] =>
        obtain ⟨h1, h6⟩ := and2 (show (cmpEq op op' && cmpEq op2 op2' && ckE c sc a y && ckE c sc b z && ckE c sc d v && !isSet v) = true from h)
        obtain ⟨h1, h5⟩ := and2 h1
        obtain ⟨h1, h4⟩ := and2 h1
        obtain ⟨h1, h3⟩ := and2 h1
        obtain ⟨h1, h2⟩ := and2 h1
        have e := cmpEq_is h1
        subst e
        have e := cmpEq_is h2
        subst e
        exact fun X own W t tk => (e_chn t op op2 (not1 h6) (okE a sc y h3 X own W t tk) (okE b sc z h4 X own W t tk) (okE d sc v h5 X own W t tk)).sem fun _ _ => rfl
      | [], _ => exact nomatch (show false = true from h)
      | [_], _ => exact nomatch (show false = true from h)
      | [_, _], [] => exact nomatch (show false = true from h)
      | [_, _], [_] => exact nomatch (show false = true from h)
      | [_, _], _ :: _ :: _ :: _ => exact nomatch (show false = true from h)
      | _ :: _ :: _ :: _, _ => exact nomatch (show false = true from h)
    | _ => exact nomatch (show false = true from h)
  | .tup es, sc, x, h => by
    cases x with
    | Tuple xs n p =>
      obtain ⟨h1, h2⟩ := and2 (show (ckEs c sc es xs && Nat.ble es.length 1000) = true from h)
      exact fun X own W t tk => (e_tup (ble_le h2) (fun s h as h' => evEs_len es s h as h') (okA es sc xs h1 X own W t tk)).sem fun _ _ => rfl
    | _ => exact nomatch (show false = true from h)
  | .lst es, sc, x, h => by
    cases x with
    | List xs p =>
      obtain ⟨h1, h2⟩ := and2 (show (ckEs c sc es xs && Nat.ble es.length 1000) = true from h)
      exact fun X own W t tk => (e_lst (ble_le h2) (fun s h as h' => evEs_len es s h as h') (okA es sc xs h1 X own W t tk)).sem fun _ _ => rfl
    | _ => exact nomatch (show false = true from h)
  | .sub a i, sc, x, h => by
    cases x with
    | Subscript y z p =>
      obtain ⟨h1, h3⟩ := and2 (show (!isSlice z && ckE c sc a y && ckE c sc i z) = true from h)
      obtain ⟨h1, h2⟩ := and2 h1
      exact fun X own W t tk => (e_sub (not1 h1) (okE a sc y h2 X own W t tk) (okE i sc z h3 X own W t tk)).sem fun _ _ => rfl
    | _ => exact nomatch (show false = true from h)
  | .slc a lo hi, sc, x, h => by
    cases x with
    | Subscript y z p =>
      cases z with
      | Slice l u st p2 =>
        cases st with
        | none =>
          have hh : ckE c sc a y = true ∧ (l = none → isNonE lo = true) ∧ (∀ l0, l = some l0 → ckE c sc lo l0 = true) ∧ (u = none → isNonE hi = true) ∧ (∀ u0, u = some u0 → ckE c sc hi u0 = true) := by
            cases l <;> cases u <;> (obtain ⟨h1, h3⟩ := and2 h; obtain ⟨h1, h2⟩ := and2 h1)
            · exact ⟨h1, (fun _ => h2), (fun _ e => nomatch e), (fun _ => h3), (fun _ e => nomatch e)⟩
            · exact ⟨h1, (fun _ => h2), (fun _ e => nomatch e), (fun e => nomatch e), (fun _ e => Option.some.inj e ▸ h3)⟩
            · exact ⟨h1, (fun e => nomatch e), (fun _ e => Option.some.inj e ▸ h2), (fun _ => h3), (fun _ e => nomatch e)⟩
            · exact ⟨h1, (fun e => nomatch e), (fun _ e => Option.some.inj e ▸ h2), (fun e => nomatch e), (fun _ e => Option.some.inj e ▸ h3)⟩
          obtain ⟨h1, h2, h3, h4, h5⟩ := hh
          have g1 : ∀ X own W, Cxt X c sc own k C → Takes X W → PO X l (rdO (rdE (sOf X c.G) W (evE C lo))) := fun X own W t tk => by
            cases l with
            | none =>
              rw [non_is (h2 rfl)]
              exact o_none
            | some l => exact o_some (okE lo sc l (h3 l rfl) X own W t tk)
          have g2 : ∀ X own W, Cxt X c sc own k C → Takes X W → PO X u (rdO (rdE (sOf X c.G) W (evE C hi))) := fun X own W t tk => by
            cases u with
            | none =>
              rw [non_is (h4 rfl)]
              exact o_none
            | some u => exact o_some (okE hi sc u (h5 u rfl) X own W t tk)
          exact fun X own W t tk => (e_slc (okE a sc y h1 X own W t tk) (g1 X own W t tk) (g2 X own W t tk)).sem fun _ _ => rfl
        | some _ => exact nomatch (show false = true from h)
      | _ => exact nomatch (show false = true from h)
    | _ => exact nomatch (show false = true from h)
  | .rev a, sc, x, h => by
    cases x with
    | Subscript y z p =>
      cases z with
      | Slice l u st p2 =>
        cases l with
        | some _ => exact nomatch (show false = true from h)
        | none =>
          cases u with
          | some _ => exact nomatch (show false = true from h)
          | none =>
            cases st with
            | none => exact nomatch (show false = true from h)
            | some z =>
              cases z with
              | UnaryOp op v p3 =>
                cases op with
                | USub =>
                  cases v with
                  | Constant ct j p4 =>
                    cases ct with
                    | int i =>
                      obtain ⟨h1, h2⟩ := and2 (show (i == 1 && ckE c sc a y) = true from h)
                      have e : i = 1 := beq_iff_eq.mp h1
                      subst e
                      exact fun X own W t tk => (e_rev (okE a sc y h2 X own W t tk)).sem fun _ _ => rfl
                    | _ => exact nomatch (show false = true from h)
                  | _ => exact nomatch (show false = true from h)
                | _ => exact nomatch (show false = true from h)
              | _ => exact nomatch (show false = true from h)
      | _ => exact nomatch (show false = true from h)
    | _ => exact nomatch (show false = true from h)
  | .call f es, sc, x, h => by
    cases x with
    | Call fe args kws p =>
      cases fe with
      | Name x p0 =>
        cases kws with
        | nil =>
          obtain ⟨h1, h4⟩ := and2 (show (defB c f x && glB sc x && dbgB x && ckEs c sc es args) = true from h)
          obtain ⟨h1, h3⟩ := and2 h1
          obtain ⟨h1, h2⟩ := and2 h1
          obtain ⟨d, e1, e2⟩ := def_is h1
          exact fun X own W t tk => (e_call t tk e1 e2 h2 h3 (evEs0 h4) (ckEs_ns h4).1 (okA es sc args h4 X own W t tk)).sem fun _ _ => rfl
        | cons => exact nomatch (show false = true from h)
      | _ => exact nomatch (show false = true from h)
    | _ => exact nomatch (show false = true from h)
  | .cval f es, sc, x, h => by
    cases x with
    | Call fe args kws p =>
      cases fe with
      | Subscript y z p0 =>
        cases kws with
        | nil =>
          obtain ⟨h1, h2⟩ := and2 (show (ckE c sc f (.Subscript y z p0) && ckEs c sc es args) = true from h)
          exact fun X own W t tk => (e_cval t tk (okE f sc _ h1 X own W t tk) (evEs0 h2) (ckEs_ns h2).1 (okA es sc args h2 X own W t tk)).sem fun _ _ => rfl
        | cons => exact nomatch (show false = true from h)
      | _ => exact nomatch (show false = true from h)
    | _ => exact nomatch (show false = true from h)
  | .isi T e, sc, x, h => by
    cases x with
    | Call fe args kws p =>
      cases fe with
      | Name x p0 =>
        match args with
        | [] => exact nomatch (show false = true from h)
        | [_] => exact nomatch (show false = true from h)
        | y :: w :: r =>
          cases w with
          | Name z p1 =>
            cases r with
            | cons => exact nomatch (show false = true from h)
            | nil =>
            cases kws with
            | nil =>
              obtain ⟨h1, h7⟩ := and2 (show (x == ("isinstance" : Str) && glB sc x && z == (T : Str) && glB sc z && isiT T && !isStar y && ckE c sc e y) = true from h)
              obtain ⟨h1, h6⟩ := and2 h1
              obtain ⟨h1, h5⟩ := and2 h1
              obtain ⟨h1, h4⟩ := and2 h1
              obtain ⟨h1, h3⟩ := and2 h1
              obtain ⟨h1, h2⟩ := and2 h1
              have e1 := beq_iff_eq.mp h1
              have e3 := beq_iff_eq.mp h3
              subst e1 e3
              exact fun X own W t tk => (e_isi t h5 h2 h4 (not1 h6) (okE e sc y h7 X own W t tk)).sem fun _ _ => rfl
            | cons => exact nomatch (show false = true from h)
          | _ => exact nomatch (show false = true from h)
      | _ => exact nomatch (show false = true from h)
    | _ => exact nomatch (show false = true from h)
  | .blt f es, sc, x, h => by
    cases x with
    | Call fe args kws p =>
      cases fe with
      | Name x p0 =>
        cases kws with
        | nil =>
          obtain ⟨h1, h5⟩ := and2 (show (!f.isIsi && x == (f.name : Str) && glB sc x && !args.isEmpty && ckEs c sc es args) = true from h)
          obtain ⟨h1, h4⟩ := and2 h1
          obtain ⟨h1, h3⟩ := and2 h1
          obtain ⟨h1, h2⟩ := and2 h1
          have e2 := beq_iff_eq.mp h2
          subst e2
          have hf : ∀ T, f ≠ .isi T := fun T e => by
            subst e
            cases h1
          have hne : args ≠ [] := fun e => by
            subst e
            cases h4
          exact fun X own W t tk => (e_blt t hf h3 hne (ckEs_ns h5).1 (okA es sc args h5 X own W t tk)).sem fun _ _ => rfl
        | cons => exact nomatch (show false = true from h)
      | _ => exact nomatch (show false = true from h)
    | _ => exact nomatch (show false = true from h)
  | .mth m o es, sc, x, h => by
    cases x with
    | Call fe args kws p =>
      cases fe with
      | Attribute y n ap =>
        cases kws with
        | nil =>
          obtain ⟨h1, h6⟩ := and2 (show (n == (m.name : Str) && ap.endLine == p.line && !isCall y && ckE c sc o y && ckEs c sc es args && Nat.ble args.length 20) = true from h)
          obtain ⟨h1, h5⟩ := and2 h1
          obtain ⟨h1, h4⟩ := and2 h1
          obtain ⟨h1, h3⟩ := and2 h1
          obtain ⟨h1, h2⟩ := and2 h1
          have e1 := beq_iff_eq.mp h1
          subst e1
          exact fun X own W t tk => (e_mth (not1 h3) (evEs0 h5) (ckEs_ns h5).1 (ble_le h6) (okE o sc y h4 X own W t tk) (okA es sc args h5 X own W t tk) h2).sem fun _ _ => rfl
        | cons => exact nomatch (show false = true from h)
      | _ => exact nomatch (show false = true from h)
    | _ => exact nomatch (show false = true from h)
  | .comp e g it tt ow, sc, x, h => by
    cases x with
    | ListComp x gens scope p =>
      match gens with
      | [⟨tg, iter, ifs, as⟩] =>
        have hh : as = 0 ∧ blkC c.N sc scope (ownOf c ow) = true ∧ ckI c sc it iter tg = true ∧ ckG c (relS scope sc) (fun x => scope.names.lookup x == some .cell) g tg = true ∧ Tg.within ow g = true ∧ ((ifs = [] ∧ tt = .yes) ∨ ∃ y, ifs = [y] ∧ ckT c (relS scope sc) tt y = true) ∧ ckE c (relS scope sc) e x = true := by
          match ifs with
          | [] =>
            obtain ⟨h1, h6⟩ := and2 h
            obtain ⟨h1, h5⟩ := and2 h1
            obtain ⟨h1, h4⟩ := and2 h1
            obtain ⟨h1, h3⟩ := and2 h1
            obtain ⟨h1, h2⟩ := and2 h1
            obtain ⟨h0, h1⟩ := and2 h1
            exact ⟨beq_iff_eq.mp h0, h1, h2, h3, h4, .inl ⟨rfl, yes_is h5⟩, h6⟩
          | [y] =>
            obtain ⟨h1, h6⟩ := and2 h
            obtain ⟨h1, h5⟩ := and2 h1
            obtain ⟨h1, h4⟩ := and2 h1
            obtain ⟨h1, h3⟩ := and2 h1
            obtain ⟨h1, h2⟩ := and2 h1
            obtain ⟨h0, h1⟩ := and2 h1
            exact ⟨beq_iff_eq.mp h0, h1, h2, h3, h4, .inr ⟨y, rfl, h5⟩, h6⟩
          | _ :: _ :: _ =>
            obtain ⟨h1, h6⟩ := and2 h
            obtain ⟨h1, h5⟩ := and2 h1
            exact nomatch (show false = true from h5)
        obtain ⟨h0, h1, h2, h3, h4, h5, h6⟩ := hh
        subst h0
        intro X own W t tk
        refine (e_comp t (okI it sc iter tg h2 X own W t tk) (by rw [t.N, t.sc]; exact blkOk_by h1) (fun s H Ca cl fp => okG (t.blk s H scope Ca cl fp) g tg h3) (ft := evT C tt) (fun s H Ca cl fp => ?_) (fun s H Ca cl fp => okE e (relS scope sc) x h6 _ _ NoX (t.blk s H scope Ca cl fp) takes_no) h4 (fun v => isSet_folded (ckI_noset h2) _ v)).sem fun _ _ => rfl
        rcases h5 with ⟨e1, e2⟩ | ⟨y, e1, h5⟩
        · subst e1 e2
          exact ⟨fun pins s σ H Q I ⟨r, s0, h, a, q⟩ => pts_nil.run pins s σ H Q I (q r H true .refl a.rel rfl)⟩
        · subst e1
          exact pts_one ((okT tt (relS scope sc) y h5).1 _ _ NoX (t.blk s H scope Ca cl fp) takes_no)
      | [] => exact nomatch (show false = true from h)
      | ⟨_, _, _, _⟩ :: _ :: _ => exact nomatch (show false = true from h)
    | _ => exact nomatch (show false = true from h)
theorem okA : ∀ (es : List E) (sc : Scope) (xs : List Expr), ckEs c sc es xs = true → OkA c k C sc es xs
  | [], sc, [], h => fun X own W t tk => as_nil
  | e :: es, sc, x :: xs, h => by
    obtain ⟨h1, h3⟩ := and2 (show (!isStar x && ckE c sc e x && ckEs c sc es xs) = true from h)
    obtain ⟨h1, h2⟩ := and2 h1
    exact fun X own W t tk => as_cons (not1 h1) (okE e sc x h2 X own W t tk) (okA es sc xs h3 X own W t tk)
  | [], _, _ :: _, h => nomatch (show false = true from h)
  | _ :: _, _, [], h => nomatch (show false = true from h)
theorem okT : ∀ (e : T) (sc : Scope) (x : Expr), ckT c sc e x = true → OkT c k C sc e x ∧ ((∃ op xs p, x = .BoolOp op xs p) → OkW c k C sc e x)
  | .yes, sc, x, h => nomatch (show false = true from h)
  | .and a b, sc, x, h => by
    cases x with
    | BoolOp op xs p =>
      cases op with
      | And =>
        have go : OkW c k C sc (.and a b) (.BoolOp .And xs p) := by
          match xs with
          | [] => exact nomatch (show false = true from h)
          | [_] => exact nomatch (show false = true from h)
          | [y, z] =>
            obtain ⟨h1, h2⟩ := and2 (show (ckT c sc a y && ckT c sc b z) = true from h)
            exact fun X own W t tk => t_and ((okT a sc y h1).1 X own W t tk) (pw_and1 ((okT b sc z h2).1 X own W t tk))
          | y :: z :: v :: r =>
            obtain ⟨h1, h2⟩ := and2 (show (ckT c sc a y && ckT c sc b (.BoolOp .And (z :: v :: r) p)) = true from h)
            exact fun X own W t tk => t_and ((okT a sc y h1).1 X own W t tk) ((okT b sc _ h2).2 ⟨_, _, _, rfl⟩ X own W t tk)
        exact ⟨fun X own W t tk => (go X own W t tk).pt, fun _ => go⟩
      | _ => exact nomatch (show false = true from h)
    | _ => exact nomatch (show false = true from h)
  | .or a b, sc, x, h => by
    cases x with
    | BoolOp op xs p =>
      cases op with
      | Or =>
        have go : OkW c k C sc (.or a b) (.BoolOp .Or xs p) := by
          match xs with
          | [] => exact nomatch (show false = true from h)
          | [_] => exact nomatch (show false = true from h)
          | [y, z] =>
            obtain ⟨h1, h2⟩ := and2 (show (ckT c sc a y && ckT c sc b z) = true from h)
            exact fun X own W t tk => t_or ((okT a sc y h1).1 X own W t tk) (pw_or1 ((okT b sc z h2).1 X own W t tk))
          | y :: z :: v :: r =>
            obtain ⟨h1, h2⟩ := and2 (show (ckT c sc a y && ckT c sc b (.BoolOp .Or (z :: v :: r) p)) = true from h)
            exact fun X own W t tk => t_or ((okT a sc y h1).1 X own W t tk) ((okT b sc _ h2).2 ⟨_, _, _, rfl⟩ X own W t tk)
        exact ⟨fun X own W t tk => (go X own W t tk).pt, fun _ => go⟩
      | _ => exact nomatch (show false = true from h)
    | _ => exact nomatch (show false = true from h)
  | .not a, sc, x, h => by
    cases x with
    | UnaryOp op y p =>
      cases op with
      | Not => exact ⟨fun X own W t tk => t_not ((okT a sc y (show ckT c sc a y = true from h)).1 X own W t tk), fun ⟨_, _, _, e⟩ => nomatch e⟩
      | _ => exact nomatch (show false = true from h)
    | _ => exact nomatch (show false = true from h)
  | .val e, sc, x, h => by
    obtain ⟨h1, h2⟩ := and2 (show ((isCmp x || plainT x) && ckE c sc e x) = true from h)
    refine ⟨?_, fun ⟨op, xs, p, e⟩ => by
      subst e
      cases h1⟩
    cases hx : plainT x with
    | true => exact fun X own W t tk => t_val (okE e sc x h2 X own W t tk) fun w => plain_true hx X.env w
    | false =>
      cases x with
      | Compare y ops zs p =>
        match e with
        | .cmp op a b =>
          match ops, zs with
          | [op'], [z] =>
            obtain ⟨h1, h4⟩ := and2 (show (cmpEq op op' && ckE c sc a y && ckE c sc b z && !isSet z) = true from h2)
            obtain ⟨h1, h3⟩ := and2 h1
            obtain ⟨h1, g2⟩ := and2 h1
            have e := cmpEq_is h1
            subst e
            exact fun X own W t tk => t_cmp t op (not1 h4) (okE a sc y g2 X own W t tk) (okE b sc z h3 X own W t tk)
          | [], _ => exact nomatch (show false = true from h2)
          | [_], [] => exact nomatch (show false = true from h2)
          | [_], _ :: _ :: _ => exact nomatch (show false = true from h2)
          | _ :: _ :: _, _ => exact nomatch (show false = true from h2)
        | .chn op op2 a b d =>
          match ops, zs with
          | [op', op2'], [z, v] =>
            obtain ⟨h1, h6⟩ := and2 (show (cmpEq op op' && cmpEq op2 op2' && ckE c sc a y && ckE c sc b z && ckE c sc d v && !isSet v) = true from h2)
            obtain ⟨h1, h5⟩ := and2 h1
            obtain ⟨h1, h4⟩ := and2 h1
            obtain ⟨h1, h3⟩ := and2 h1
            obtain ⟨h1, g2⟩ := and2 h1
            have e := cmpEq_is h1
            subst e
            have e := cmpEq_is g2
            subst e
            exact fun X own W t tk => t_chn t op op2 (not1 h6) (okE a sc y h3 X own W t tk) (okE b sc z h4 X own W t tk) (okE d sc v h5 X own W t tk)
          | [], _ => exact nomatch (show false = true from h2)
          | [_], _ => exact nomatch (show false = true from h2)
          | [_, _], [] => exact nomatch (show false = true from h2)
          | [_, _], [_] => exact nomatch (show false = true from h2)
          | [_, _], _ :: _ :: _ :: _ => exact nomatch (show false = true from h2)
          | _ :: _ :: _ :: _, _ => exact nomatch (show false = true from h2)
        | .var .. | .lit .. | .glo .. | .neg .. | .not .. | .bin .. | .and .. | .or .. | .ite .. | .tup .. | .lst .. | .sub .. | .slc .. | .rev .. | .call .. | .cval .. | .blt .. | .isi .. | .mth .. | .comp .. => exact nomatch (show false = true from h2)
      | _ =>
        rw [hx] at h1
        exact nomatch (show false = true from h1)
theorem okI : ∀ (e : I) (sc : Scope) (x tg : Expr), ckI c sc e x tg = true → OkI c k C sc e x tg
  | .sq e, sc, x, tg, h => by
    obtain ⟨_, h2⟩ := and2 (show (!isSet x && ckE c sc e x) = true from h)
    exact fun X own W t tk => i_sq (okE e sc x h2 X own W t tk)
  | .rg es, sc, x, tg, h => by
    cases x with
    | Call fe args kws p =>
      cases fe with
      | Name x p0 =>
        cases kws with
        | nil =>
          obtain ⟨h1, h4⟩ := and2 (show (x == ("range" : Str) && glB sc x && (Nat.beq args.length 1 || Nat.beq args.length 2) && ckEs c sc es args) = true from h)
          obtain ⟨h1, h3⟩ := and2 h1
          obtain ⟨h1, h2⟩ := and2 h1
          have e1 := beq_iff_eq.mp h1
          subst e1
          obtain ⟨n1, n2⟩ := ckEs_ns h4
          match args with
          | [y] =>
            obtain ⟨m1, _⟩ := and2 (show (!isStar y && noStars []) = true from n1)
            exact fun X own W t tk => i_rg1 t h2 (not1 m1) (fun s h as h' e => (evEs_len es s h as h' e).trans n2) (okA es sc [y] h4 X own W t tk)
          | [y, z] =>
            obtain ⟨m1, m2⟩ := and2 (show (!isStar y && noStars [z]) = true from n1)
            obtain ⟨m2, _⟩ := and2 (show (!isStar z && noStars []) = true from m2)
            exact fun X own W t tk => i_rg2 t h2 (not1 m1) (not1 m2) (fun s h as h' e => (evEs_len es s h as h' e).trans n2) (okA es sc [y, z] h4 X own W t tk)
          | [] => exact nomatch (show false = true from h3)
          | _ :: _ :: _ :: _ => exact nomatch (show false = true from h3)
        | cons => exact nomatch (show false = true from h)
      | _ => exact nomatch (show false = true from h)
    | _ => exact nomatch (show false = true from h)
  | .zp a b, sc, x, tg, h => by
    cases x with
    | Call fe args kws p =>
      cases fe with
      | Name x p0 =>
        match args, kws with
        | [y, z], [] =>
          obtain ⟨h1, h7⟩ := and2 (show (x == ("zip" : Str) && glB sc x && isTupE tg && !isStar y && !isStar z && ckE c sc a y && ckE c sc b z) = true from h)
          obtain ⟨h1, h6⟩ := and2 h1
          obtain ⟨h1, h5⟩ := and2 h1
          obtain ⟨h1, h4⟩ := and2 h1
          obtain ⟨h1, h3⟩ := and2 h1
          obtain ⟨h1, h2⟩ := and2 h1
          have e1 := beq_iff_eq.mp h1
          subst e1
          cases tg with
          | Tuple ts n p2 => exact fun X own W t tk => i_zp t h2 (not1 h4) (not1 h5) (okE a sc y h6 X own W t tk) (okE b sc z h7 X own W t tk)
          | _ => exact nomatch (show false = true from h3)
        | [], _ => exact nomatch (show false = true from h)
        | [_], _ => exact nomatch (show false = true from h)
        | [_, _], _ :: _ => exact nomatch (show false = true from h)
        | _ :: _ :: _ :: _, _ => exact nomatch (show false = true from h)
      | _ => exact nomatch (show false = true from h)
    | _ => exact nomatch (show false = true from h)
  | .en a, sc, x, tg, h => by
    cases x with
    | Call fe args kws p =>
      cases fe with
      | Name x p0 =>
        match args, kws with
        | [y], [] =>
          obtain ⟨h1, h5⟩ := and2 (show (x == ("enumerate" : Str) && glB sc x && isTupE tg && !isStar y && ckE c sc a y) = true from h)
          obtain ⟨h1, h4⟩ := and2 h1
          obtain ⟨h1, h3⟩ := and2 h1
          obtain ⟨h1, h2⟩ := and2 h1
          have e1 := beq_iff_eq.mp h1
          subst e1
          cases tg with
          | Tuple ts n p2 => exact fun X own W t tk => i_en t h2 (not1 h4) (okE a sc y h5 X own W t tk)
          | _ => exact nomatch (show false = true from h3)
        | [], _ => exact nomatch (show false = true from h)
        | [_], _ :: _ => exact nomatch (show false = true from h)
        | _ :: _ :: _, _ => exact nomatch (show false = true from h)
      | _ => exact nomatch (show false = true from h)
    | _ => exact nomatch (show false = true from h)
end
end
end Ev

/-! text Fw14 -/
set_option Elab.async false
set_option linter.all false
set_option maxRecDepth 100000
set_option maxHeartbeats 4000000
/-! Ev: an own error class whose __init__ says super().__init__(x) and keeps x. -/
namespace PySem
namespace EvX
open PySem.W PySem.Calls PyProof.Rows PySem.HandSPX
/-- the lines of such an __init__ -/
def initBody (sf rs f : Str) (p : Nat → Pos) : List Stmt :=
  [.Expr (.Call (.Attribute (.Call (.Name "super" (p 0)) [] [] (p 1)) "__init__" (p 2)) [.Name rs (p 3)] [] (p 4)) (p 5), .Assign [.Attribute (.Name sf (p 6)) f (p 7)] (.Name rs (p 8)) (p 9)]
structure XI (P : Program) (K : Frag) (C D fI cc cda : Addr) (fd : FuncData) (f sf rs : Str) : Prop where
  cls : ∃ nm q N bs bm sn sub ab col dd k0 k1 k2 k3 k5, K.lookup C = some (excClassObj nm q C N bs bm true sn sub ab col dd k0 k1 k2 k3 k5 "ValueError.__new__") ∧ refsVE bm = true
  init : findIn K (.ref C) "__init__" = some (some (.ref fI))
  fn : ∃ oc od osl, K.lookup fI = some ⟨oc, od, .func fd, osl⟩
  tyF : typeIn K (.ref fI) = some (.type "function")
  code : codeIn K fd.code fd.qualname = true
  cdaE : fd.code = .ref cda
  file : ∃ ccl cdd vs ccs file tf, K.lookup cda = some ⟨ccl, cdd, .fields vs, ccs⟩ ∧ vs[2]? = some (.str file tf) ∧ ((P.main.file : Str) == file) = true
  body : ∃ p, fd.body = .stmts (initBody sf rs f p) ∧ ((p 2).endLine == (p 4).line) = true
  bind : ∀ a b : Value, bindArgs fd ⟨[a, b], []⟩ = pure [(sf, a), (rs, b)]
  head : ∃ ar, (fd.params.posonlyargs ++ fd.params.args).head? = some ar ∧ ar.arg = sf
  kind : fd.scope.kind = .function
  co : fd.scope.isCoroutine = false
  gen : fd.scope.isGenerator = false
  nocell : ∀ x ∈ fd.scope.names, x.2 ≠ .cell
  sc1 : fd.scope.names.lookup ("super" : Str) = some .globalImplicit
  sc2 : fd.scope.names.lookup ("__class__" : Str) = some .free
  sc3 : fd.scope.names.lookup sf = some .local
  sc4 : fd.scope.names.lookup rs = some .local
  ne : (sf == rs) = false
  db1 : (sf == ("__debug__" : Str)) = false
  db2 : (rs == ("__debug__" : Str)) = false
  clo : fd.closure.lookup ("__class__" : Str) = some cc
  gl : fd.globals = mainGlobals
  bl : fd.builtins = builtinsNs
  cell : ∃ cl cld csl, K.lookup cc = some ⟨cl, cld, .cell (some (.ref D)), csl⟩
  isD : ∃ oc od cdD osl, K.lookup D = some ⟨oc, od, .cls cdD, osl⟩
  subD : mroIn K C (.ref D) = some true
  opq : nsIn K cStatics "thirdparty.any" = some none
  sup : ks_superIn K C D "__init__" = some (some (.builtin "ValueError.__init__"))
  ve : subIn K (.ref C) (.type "ValueError") = some true
  sa : findIn K (.ref C) "__setattr__" = some (some (.builtin "object.__setattr__"))
  nof : findIn K (.ref C) f = some none
  exC : subIn K (.ref C) (.type "BaseException") = some true
  tyC : typeIn K (.ref C) = some (.type "type")
  kC : keepIn K (.ref C) = true
  top : (P.main.scope.names.lookup ("super" : Str)).isSome = false
/-- the same of two fields -/
def initBody2 (sf f g : Str) (p : Nat → Pos) : List Stmt :=
  [.Expr (.Call (.Attribute (.Call (.Name "super" (p 0)) [] [] (p 1)) "__init__" (p 2)) [.Name f (p 3), .Name g (p 10)] [] (p 4)) (p 5), .Assign [.Attribute (.Name sf (p 6)) f (p 7)] (.Name f (p 8)) (p 9), .Assign [.Attribute (.Name sf (p 11)) g (p 12)] (.Name g (p 13)) (p 14)]
structure XI2 (P : Program) (K : Frag) (C D fI cc cda : Addr) (fd : FuncData) (sf f g : Str) : Prop where
  cls : ∃ nm q N bs bm sn sub ab col dd k0 k1 k2 k3 k5, K.lookup C = some (excClassObj nm q C N bs bm true sn sub ab col dd k0 k1 k2 k3 k5 "ValueError.__new__") ∧ refsVE bm = true
  init : findIn K (.ref C) "__init__" = some (some (.ref fI))
  fn : ∃ oc od osl, K.lookup fI = some ⟨oc, od, .func fd, osl⟩
  tyF : typeIn K (.ref fI) = some (.type "function")
  code : codeIn K fd.code fd.qualname = true
  cdaE : fd.code = .ref cda
  file : ∃ ccl cdd vs ccs file tf, K.lookup cda = some ⟨ccl, cdd, .fields vs, ccs⟩ ∧ vs[2]? = some (.str file tf) ∧ ((P.main.file : Str) == file) = true
  body : ∃ p, fd.body = .stmts (initBody2 sf f g p) ∧ ((p 2).endLine == (p 4).line) = true
  bind : ∀ a b e : Value, bindArgs fd ⟨[a, b, e], []⟩ = pure [(sf, a), (f, b), (g, e)]
  head : ∃ ar, (fd.params.posonlyargs ++ fd.params.args).head? = some ar ∧ ar.arg = sf
  kind : fd.scope.kind = .function
  co : fd.scope.isCoroutine = false
  gen : fd.scope.isGenerator = false
  nocell : ∀ x ∈ fd.scope.names, x.2 ≠ .cell
  sc1 : fd.scope.names.lookup ("super" : Str) = some .globalImplicit
  sc2 : fd.scope.names.lookup ("__class__" : Str) = some .free
  sc3 : fd.scope.names.lookup sf = some .local
  sc4 : fd.scope.names.lookup f = some .local
  sc5 : fd.scope.names.lookup g = some .local
  ne : (sf == f) = false
  ne2 : (sf == g) = false
  ne3 : (f == g) = false
  db1 : (sf == ("__debug__" : Str)) = false
  db2 : (f == ("__debug__" : Str)) = false
  db3 : (g == ("__debug__" : Str)) = false
  clo : fd.closure.lookup ("__class__" : Str) = some cc
  gl : fd.globals = mainGlobals
  bl : fd.builtins = builtinsNs
  cell : ∃ cl cld csl, K.lookup cc = some ⟨cl, cld, .cell (some (.ref D)), csl⟩
  isD : ∃ oc od cdD osl, K.lookup D = some ⟨oc, od, .cls cdD, osl⟩
  subD : mroIn K C (.ref D) = some true
  opq : nsIn K cStatics "thirdparty.any" = some none
  sup : ks_superIn K C D "__init__" = some (some (.builtin "ValueError.__init__"))
  ve : subIn K (.ref C) (.type "ValueError") = some true
  sa : findIn K (.ref C) "__setattr__" = some (some (.builtin "object.__setattr__"))
  nof : findIn K (.ref C) f = some none
  nog : findIn K (.ref C) g = some none
  exC : subIn K (.ref C) (.type "BaseException") = some true
  tyC : typeIn K (.ref C) = some (.type "type")
  kC : keepIn K (.ref C) = true
  top : (P.main.scope.names.lookup ("super" : Str)).isSome = false
section
variable {P : Program} {w : World} {A : Around} {E : Value → Shared → Prop} {K : Frag} {C D fI cc cda : Addr} {fd : FuncData} {f sf rs : Str} {h : Heap} {g : Array GenState} {d : Drawn} {t : Nat} {os : OsState} {R : Result → Shared → Prop}
/-- the bound __init__ of the built-in base, called -/
theorem call_mw (Xc : ∃ nm q N bs bm sn sub ab col dd k0 k1 k2 k3 k5, K.lookup C = some (excClassObj nm q C N bs bm true sn sub ab col dd k0 k1 k2 k3 k5 "ValueError.__new__") ∧ refsVE bm = true) (Xk : K.In h) {u e t0 : Addr} {vv : List Value} (hvv : vv.length ≤ sizeLine) {Q : Value → Shared → Prop} (he : h.get? e = some (HandSPX.excO C t0)) (hu : h.get? u = some (kxs_mw "ValueError.__init__" e))
    (hq : ∀ h' t1, (∀ b o, b ≠ e → h.get? b = some o → h'.get? b = some o) → h'.get? e = some (HandSPX.excO C t1) → Q .none ⟨h', g, d, t, os⟩) : wpAny (model P w) A (call (.ref u) vv) Q E ⟨h, g, d, t, os⟩ := by
  obtain ⟨nm, q, N, bs, bm, sn, sub, ab, col, dd, k0, k1, k2, k3, k5, hC, hbm⟩ := Xc
  have FB := PySem.F.excBase_ValueError
  refine wpAny_call (codeAny_of_tree ?_)
  show wpAny _ A.in1 (callAny (.ref u) ⟨vv, []⟩) _ _ _
  simp only [callAny]
  refine wpAny_bind (wpAny_load hu ?_)
  simp only [kxs_mw, show (Value.type "method-wrapper" == Value.type "method" || Value.type "method-wrapper" == Value.type "builtin_function_or_method" || Value.type "method-wrapper" == Value.type "method-wrapper") = true by decide, if_true]
  refine KFB.if_so (by decide) ?_
  refine wpAny_bind (check_bound_init FB.toExcCallFacts (Xk _ _ hC) he rfl ?_)
  refine wpAny_bind (wpAny_pure (wpAny_pure ?_))
  refine ⟨plainId_quiet FB.init.plain _, codeAny_builtin FB.initEntry ?_⟩
  exact exc_init_tree (cls := .ref C) (t0 := t0) (dv := none) (c2 := .none) (c3 := .none) (b4 := .bool false) he hvv fun h' k e' _ => hq h' _ k e'
theorem init_ev2 {o : Expr} {n rs rt : Str} {apos pos p3 p4 : Pos} {env : Env} (hl : (apos.endLine == pos.line) = true) : eval (.Call (.Attribute o n apos) [.Name rs p3, .Name rt p4] [] pos) env = (do
    let ov ← attributeBase o n env (eval o env)
    standAt apos.atName
    let (f, first) ← holding [ov] (getMethod ov n (do return (← importBound o env).getD true))
    callWith pos f first (backTo pos (starEach [.Name rs p3, .Name rt p4] env)) []) := by
  rw [arm_eval_Call]
  have hform : methodCallForm ([Expr.Name rs p3, Expr.Name rt p4].length + ([] : List Keyword).length) (backTo pos (starEach [.Name rs p3, .Name rt p4] env)) (backToKw pos (keywordEach [] env)) = true := rfl
  have hpos : methodCallPos true o env apos pos = pure pos := by
    unfold methodCallPos
    simp [hl]
  unfold methodCall
  simp only [hform, hpos, pure_bind]
  rfl
theorem init_ev {o : Expr} {n rs : Str} {apos pos p3 : Pos} {env : Env} (hl : (apos.endLine == pos.line) = true) : eval (.Call (.Attribute o n apos) [.Name rs p3] [] pos) env = (do
    let ov ← attributeBase o n env (eval o env)
    standAt apos.atName
    let (f, first) ← holding [ov] (getMethod ov n (do return (← importBound o env).getD true))
    callWith pos f first (backTo pos (starEach [.Name rs p3] env)) []) := by
  rw [arm_eval_Call]
  have hform : methodCallForm ([Expr.Name rs p3].length + ([] : List Keyword).length) (backTo pos (starEach [.Name rs p3] env)) (backToKw pos (keywordEach [] env)) = true := rfl
  have hpos : methodCallPos true o env apos pos = pure pos := by
    unfold methodCallPos
    simp [hl]
  unfold methodCall
  simp only [hform, hpos, pure_bind]
  rfl
theorem init_run {mg : Str → Option Value} {base : Heap} (X : XI P K C D fI cc cda fd f sf rs) (M0 : L2.Mod K mg base) (ms : mg "super" = none) (bk : ∀ b o, base.get? b = some o → h.get? b = some o) {e t0 : Addr} {u : Value} (nK : ∀ o, K.lookup e ≠ some o) (he : h.get? e = some (HandSPX.excO C t0)) (room : A.depth < recursionLimit)
    (hq : ∀ h' t' t1 dx, (∀ b o, b ≠ e → h.get? b = some o → h'.get? b = some o) → h.objs.size ≤ dx → dx ≠ e → h'.get? e = some { cls := .ref C, dict := some dx, data := .fields #[.ref t1, .none, .none, .none, .bool false, .none] } →
      h'.Ns1 dx (fun y => if y = f then some u else none) → R (.ok (.ret .none)) ⟨h', g, d, t', os⟩) :
    codeAny (model P w) A (.call (.ref fI) ⟨[.ref e, u], []⟩) R ⟨h, g, d, t, os⟩ := by
  have Xk : K.In h := M0.kin.keeps bk
  obtain ⟨oc, od, osl, lkf⟩ := X.fn
  obtain ⟨p, hbody, hline⟩ := X.body
  obtain ⟨ar, har, hara⟩ := X.head
  obtain ⟨ccl, cdd, vs, ccs, file, tf, lkc, hvs, hfile⟩ := X.file
  obtain ⟨cl, cld, csl, lkcell⟩ := X.cell
  obtain ⟨ocD, odD, cdD, oslD, lkD⟩ := X.isD
  obtain ⟨nm, q, N, bs, bm, sn, sub, ab, col, dd, k0, k1, k2, k3, k5, hC, hbm⟩ := X.cls
  have neS : sf ≠ rs := fun z => by
    have := X.ne
    rw [z] at this
    simp at this
  refine ks_codeAny_call_defAt room (Xk _ _ lkf) rfl (M0.nolimit.keeps bk) (codeRec_of Xk X.code) hbody (BindsTo.of_eq (X.bind _ _)) X.nocell (fun y hy => ?_) (fun h₁ hns k₁ => ?_) X.co X.gen X.kind
  · rcases List.mem_cons.mp hy with z | z
    · rw [z]
      exact X.sc3
    · rw [List.mem_singleton.mp z]
      exact X.sc4
  have hv1 : (fun x => (List.reverse [(sf, Value.ref e), (rs, u)]).lookup x) sf = some (.ref e) := by
    show List.lookup sf [(rs, u), (sf, Value.ref e)] = _
    simp [List.lookup, X.ne]
  have hv2 : (fun x => (List.reverse [(sf, Value.ref e), (rs, u)]).lookup x) rs = some u := by
    show List.lookup rs [(rs, u), (sf, Value.ref e)] = _
    simp [List.lookup]
  generalize hm : (fun x => (List.reverse [(sf, Value.ref e), (rs, u)]).lookup x) = m at hns hv1 hv2
  have X1 : K.In h₁ := Frag.In.keeps Xk k₁
  have bk1 : ∀ b o, base.get? b = some o → h₁.get? b = some o := fun b o z => k₁ b o (bk b o z)
  have he1 := k₁ _ _ he
  obtain ⟨mb, hmb, hmb2⟩ := M0.blt
  have hint : interactive (callEnv fd h.objs.size fI) = false := by
    show interactive (newEnv _ _ _ _ _ _ _ _ _) = false
    simp [interactive, newEnv, X.kind]
  have gns : ∀ {hh : Heap}, (∀ b o, base.get? b = some o → hh.get? b = some o) → hh.Ns (callEnv fd h.objs.size fI).globals mg := fun k => by
    show Heap.Ns _ fd.globals mg
    rw [X.gl]
    exact M0.glob.keeps k
  have bns : ∀ {hh : Heap}, (∀ b o, base.get? b = some o → hh.get? b = some o) → hh.Ns (callEnv fd h.objs.size fI).builtins mb := fun k => by
    show Heap.Ns _ fd.builtins mb
    rw [X.bl]
    exact hmb.keeps k
  have kk : (callEnv fd h.objs.size fI).scope.kind = .function := X.kind
  have kd3 : (callEnv fd h.objs.size fI).kindOf sf = some .local := X.sc3
  have kd4 : (callEnv fd h.objs.size fI).kindOf rs = some .local := X.sc4
  have hcode : (callEnv fd h.objs.size fI).code = .ref cda := X.cdaE
  have hcl : clsIn K C = some { name := nm, bases := bs, mro := .ref C :: bm, ns := N, qualname := q, hasDict := true, slotNames := sn, subclasses := sub, abstract := ab, collection := col, hasDel := false } := by
    unfold clsIn
    rw [hC] <;> rfl
  have hsup : alongIn K "__init__" ((List.dropWhile (· != Value.ref D) (.ref C :: bm)).drop 1) = some (some (.builtin "ValueError.__init__")) := by
    have z := X.sup
    unfold ks_superIn at z
    rw [hcl] at z
    exact z
  have hlt : ∀ {b : Addr} {o : Obj}, h.get? b = some o → b ≠ h.objs.size := fun z => Nat.ne_of_lt (Heap.lt_size z)
  refine ks_wpAt_execs_cons (ks_wpAt_Expr_any ?_ hint)
  refine ks_wpAt_MethodCall ?_ (init_ev hline)
  refine ks_wpAt_super_base (of := _) X.sc1 X.sc2 rfl rfl (X1 _ _ lkf) rfl har hcode (X1 _ _ lkc) rfl hvs hfile X.top ?_
  · refine ks_loadName_global X.kind X.sc1 (loadGlobal_builtin (gns bk1) ms (bns bk1) ((hmb2 "super" (by decide)).trans (by decide +kernel)) ⟨rfl, ?_⟩)
    refine wpAny_loadName_free X.kind X.sc2 X.clo ⟨_, X1 _ _ lkcell, rfl⟩ ?_
    rw [hara]
    refine wpAny_loadName_local X.kind X.sc3 hns hv1 ?_
    refine ks_wpAny_isType_cls (X1 _ _ lkD) rfl ⟨rfl, ?_⟩
    refine ks_wpAny_call_super (X1 _ _ lkD) rfl he1 rfl (fun c z => by cases z) (looks_mroIn X1 X.subD) (fun h₂ e2 k2 => ?_)
    have X2 : K.In h₂ := Frag.In.keeps X1 k2
    have he2 := k2 _ _ he1
    have I2 : InstAt h₂ e (HandSPX.excO C t0) C none := ⟨he2, rfl, rfl, trivial⟩
    refine kxs_getMethod kxs_ValueError e2 (looks_opaque X2 X.opq) (l₀ := .ref C :: bm) (fun A Q E s k q => wpAny_bind ((looks_clsIn X2 hcl) A _ E s k (wpAny_pure q))) rfl X2 hsup (I2.type.andThen (looks_subIn X2 X.ve)) (ks_ne X2 I2 hcl) (by decide) ?_
    have k3 : ∀ b o, h₂.get? b = some o → (h₂.push (kxs_mw "ValueError.__init__" e)).get? b = some o := fun b o z => Heap.get?_push_of_some _ z
    have hu3 : (h₂.push (kxs_mw "ValueError.__init__" e)).get? h₂.objs.size = some (kxs_mw "ValueError.__init__" e) := Heap.get?_push_size _ rfl
    generalize h₂.push (kxs_mw "ValueError.__init__" e) = h₃ at k3 hu3 ⊢
    have X3 : K.In h₃ := Frag.In.keeps X2 k3
    obtain ⟨oL, es, ep, hL, hr⟩ := hns
    have k13 : ∀ b o, h₁.get? b = some o → h₃.get? b = some o := fun b o z => k3 _ _ (k2 _ _ z)
    show wpAny _ _ (callWith _ _ _ [(false, eval (.Name rs (p 3)) (callEnv fd h.objs.size fI))] []) _ _ _
    refine kxs_callWith (i := "ValueError.__init__") (x := e) rfl (evalArgs_plain (spliced_cons ?_))
    refine wpAny_Name (wpAny_loadName_local kk kd4 ⟨oL, es, ep, k13 _ _ hL, hr⟩ hv2 (spliced_nil ⟨hu3, ?_⟩)) X.db2
    refine call_mw X.cls X3 (vv := [u]) (by show 1 ≤ sizeLine; decide) (k3 _ _ he2) hu3 (fun h₄ t1 k4 e4 => ?_)
    have X4 : K.In h₄ := fun b o z => k4 b o (fun y => by
      subst y
      exact nK o z) (X3 b o z)
    have nL : h.objs.size ≠ e := fun z => hlt he z.symm
    have hns4 : h₄.Ns h.objs.size m := ⟨oL, es, ep, k4 _ _ nL (k13 _ _ hL), hr⟩
    refine ks_wpAt_execs_cons (ks_wpAt_Assign_Attr ?_ rfl)
    refine wpAt_of_wpAny ?_
    show wpAny _ _ (eval (.Name rs (p 8)) (callEnv fd h.objs.size fI)) _ _ ⟨h₄, g, d, _, os⟩
    refine wpAny_Name (wpAny_loadName_local kk kd4 hns4 hv2 ?_) X.db2
    show wpAny _ _ (eval (.Name sf (p 6)) (callEnv fd h.objs.size fI)) _ _ ⟨h₄, g, d, _, os⟩
    refine wpAny_Name (wpAny_loadName_local kk kd3 hns4 hv1 ?_) X.db1
    refine set_plain X4 (ox := HandSPX.excO C t1) (od := none) ⟨e4, rfl, rfl, trivial⟩ X.sa ?_
    refine HandSPX.exc_osa X4 e4 hcl (show refsVE (.ref C :: bm) = true from hbm) rfl X.nof (fun h₅ tk dx k5 ndx dne he5 hns5 => ?_)
    refine wpAt_of_wpAny (wpAny_execs_nil (hq h₅ tk t1 dx (fun b o nb z => k5 b o nb (k4 b o nb (k13 b o (k₁ b o z)))) ?_ dne he5 hns5))
    exact Nat.le_trans (Nat.le_of_lt (Heap.lt_size (k4 _ _ nL (k13 _ _ hL)))) ndx
theorem init_run2 {mg : Str → Option Value} {base : Heap} {g' : Str} (X : XI2 P K C D fI cc cda fd sf f g') (M0 : L2.Mod K mg base) (ms : mg "super" = none) (bk : ∀ b o, base.get? b = some o → h.get? b = some o) {e t0 : Addr} {u u2 : Value} (nK : ∀ o, K.lookup e ≠ some o) (he : h.get? e = some (HandSPX.excO C t0)) (room : A.depth < recursionLimit)
    (hq : ∀ h' t' t1 dx, (∀ b o, b ≠ e → h.get? b = some o → h'.get? b = some o) → h.objs.size ≤ dx → dx ≠ e → h'.get? e = some { cls := .ref C, dict := some dx, data := .fields #[.ref t1, .none, .none, .none, .bool false, .none] } →
      h'.Ns1 dx (fun y => if y = g' then some u2 else if y = f then some u else none) → R (.ok (.ret .none)) ⟨h', g, d, t', os⟩) :
    codeAny (model P w) A (.call (.ref fI) ⟨[.ref e, u, u2], []⟩) R ⟨h, g, d, t, os⟩ := by
  have Xk : K.In h := M0.kin.keeps bk
  obtain ⟨oc, od, osl, lkf⟩ := X.fn
  obtain ⟨p, hbody, hline⟩ := X.body
  obtain ⟨ar, har, hara⟩ := X.head
  obtain ⟨ccl, cdd, vs, ccs, file, tf, lkc, hvs, hfile⟩ := X.file
  obtain ⟨cl, cld, csl, lkcell⟩ := X.cell
  obtain ⟨ocD, odD, cdD, oslD, lkD⟩ := X.isD
  obtain ⟨nm, q, N, bs, bm, sn, sub, ab, col, dd, k0, k1, k2, k3, k5, hC, hbm⟩ := X.cls
  refine ks_codeAny_call_defAt room (Xk _ _ lkf) rfl (M0.nolimit.keeps bk) (codeRec_of Xk X.code) hbody (BindsTo.of_eq (X.bind _ _ _)) X.nocell (fun y hy => ?_) (fun h₁ hns k₁ => ?_) X.co X.gen X.kind
  · rcases List.mem_cons.mp hy with z | z
    · rw [z]
      exact X.sc3
    · rcases List.mem_cons.mp z with z | z
      · rw [z]
        exact X.sc4
      · rw [List.mem_singleton.mp z]
        exact X.sc5
  have hv1 : (fun x => (List.reverse [(sf, Value.ref e), (f, u), (g', u2)]).lookup x) sf = some (.ref e) := by
    show List.lookup sf [(g', u2), (f, u), (sf, Value.ref e)] = _
    simp [List.lookup, X.ne, X.ne2]
  have hv2 : (fun x => (List.reverse [(sf, Value.ref e), (f, u), (g', u2)]).lookup x) f = some u := by
    show List.lookup f [(g', u2), (f, u), (sf, Value.ref e)] = _
    simp [List.lookup, X.ne3]
  have hv3 : (fun x => (List.reverse [(sf, Value.ref e), (f, u), (g', u2)]).lookup x) g' = some u2 := by
    show List.lookup g' [(g', u2), (f, u), (sf, Value.ref e)] = _
    simp [List.lookup]
  generalize hm : (fun x => (List.reverse [(sf, Value.ref e), (f, u), (g', u2)]).lookup x) = m at hns hv1 hv2 hv3
  have X1 : K.In h₁ := Frag.In.keeps Xk k₁
  have bk1 : ∀ b o, base.get? b = some o → h₁.get? b = some o := fun b o z => k₁ b o (bk b o z)
  have he1 := k₁ _ _ he
  obtain ⟨mb, hmb, hmb2⟩ := M0.blt
  have hint : interactive (callEnv fd h.objs.size fI) = false := by
    show interactive (newEnv _ _ _ _ _ _ _ _ _) = false
    simp [interactive, newEnv, X.kind]
  have gns : ∀ {hh : Heap}, (∀ b o, base.get? b = some o → hh.get? b = some o) → hh.Ns (callEnv fd h.objs.size fI).globals mg := fun k => by
    show Heap.Ns _ fd.globals mg
    rw [X.gl]
    exact M0.glob.keeps k
  have bns : ∀ {hh : Heap}, (∀ b o, base.get? b = some o → hh.get? b = some o) → hh.Ns (callEnv fd h.objs.size fI).builtins mb := fun k => by
    show Heap.Ns _ fd.builtins mb
    rw [X.bl]
    exact hmb.keeps k
  have kk : (callEnv fd h.objs.size fI).scope.kind = .function := X.kind
  have kd3 : (callEnv fd h.objs.size fI).kindOf sf = some .local := X.sc3
  have kd4 : (callEnv fd h.objs.size fI).kindOf f = some .local := X.sc4
  have kd5 : (callEnv fd h.objs.size fI).kindOf g' = some .local := X.sc5
  have hcode : (callEnv fd h.objs.size fI).code = .ref cda := X.cdaE
  have hcl : clsIn K C = some { name := nm, bases := bs, mro := .ref C :: bm, ns := N, qualname := q, hasDict := true, slotNames := sn, subclasses := sub, abstract := ab, collection := col, hasDel := false } := by
    unfold clsIn
    rw [hC] <;> rfl
  have hsup : alongIn K "__init__" ((List.dropWhile (· != Value.ref D) (.ref C :: bm)).drop 1) = some (some (.builtin "ValueError.__init__")) := by
    have z := X.sup
    unfold ks_superIn at z
    rw [hcl] at z
    exact z
  have hlt : ∀ {b : Addr} {o : Obj}, h.get? b = some o → b ≠ h.objs.size := fun z => Nat.ne_of_lt (Heap.lt_size z)
  refine ks_wpAt_execs_cons (ks_wpAt_Expr_any ?_ hint)
  refine ks_wpAt_MethodCall ?_ (init_ev2 hline)
  refine ks_wpAt_super_base (of := _) X.sc1 X.sc2 rfl rfl (X1 _ _ lkf) rfl har hcode (X1 _ _ lkc) rfl hvs hfile X.top ?_
  · refine ks_loadName_global X.kind X.sc1 (loadGlobal_builtin (gns bk1) ms (bns bk1) ((hmb2 "super" (by decide)).trans (by decide +kernel)) ⟨rfl, ?_⟩)
    refine wpAny_loadName_free X.kind X.sc2 X.clo ⟨_, X1 _ _ lkcell, rfl⟩ ?_
    rw [hara]
    refine wpAny_loadName_local X.kind X.sc3 hns hv1 ?_
    refine ks_wpAny_isType_cls (X1 _ _ lkD) rfl ⟨rfl, ?_⟩
    refine ks_wpAny_call_super (X1 _ _ lkD) rfl he1 rfl (fun c z => by cases z) (looks_mroIn X1 X.subD) (fun h₂ e2 k2 => ?_)
    have X2 : K.In h₂ := Frag.In.keeps X1 k2
    have he2 := k2 _ _ he1
    have I2 : InstAt h₂ e (HandSPX.excO C t0) C none := ⟨he2, rfl, rfl, trivial⟩
    refine kxs_getMethod kxs_ValueError e2 (looks_opaque X2 X.opq) (l₀ := .ref C :: bm) (fun A Q E s k q => wpAny_bind ((looks_clsIn X2 hcl) A _ E s k (wpAny_pure q))) rfl X2 hsup (I2.type.andThen (looks_subIn X2 X.ve)) (ks_ne X2 I2 hcl) (by decide) ?_
    have k3 : ∀ b o, h₂.get? b = some o → (h₂.push (kxs_mw "ValueError.__init__" e)).get? b = some o := fun b o z => Heap.get?_push_of_some _ z
    have hu3 : (h₂.push (kxs_mw "ValueError.__init__" e)).get? h₂.objs.size = some (kxs_mw "ValueError.__init__" e) := Heap.get?_push_size _ rfl
    generalize h₂.push (kxs_mw "ValueError.__init__" e) = h₃ at k3 hu3 ⊢
    have X3 : K.In h₃ := Frag.In.keeps X2 k3
    obtain ⟨oL, es, ep, hL, hr⟩ := hns
    have k13 : ∀ b o, h₁.get? b = some o → h₃.get? b = some o := fun b o z => k3 _ _ (k2 _ _ z)
    show wpAny _ _ (callWith _ _ _ [(false, eval (.Name f (p 3)) (callEnv fd h.objs.size fI)), (false, eval (.Name g' (p 10)) (callEnv fd h.objs.size fI))] []) _ _ _
    refine kxs_callWith (i := "ValueError.__init__") (x := e) rfl (evalArgs_plain (spliced_cons ?_))
    refine wpAny_Name (wpAny_loadName_local kk kd4 ⟨oL, es, ep, k13 _ _ hL, hr⟩ hv2 (spliced_cons ?_)) X.db2
    refine wpAny_Name (wpAny_loadName_local kk kd5 ⟨oL, es, ep, k13 _ _ hL, hr⟩ hv3 (spliced_nil ⟨hu3, ?_⟩)) X.db3
    refine call_mw X.cls X3 (vv := [u, u2]) (by show 2 ≤ sizeLine; decide) (k3 _ _ he2) hu3 (fun h₄ t1 k4 e4 => ?_)
    have X4 : K.In h₄ := fun b o z => k4 b o (fun y => by
      subst y
      exact nK o z) (X3 b o z)
    have nL : h.objs.size ≠ e := fun z => hlt he z.symm
    have hns4 : h₄.Ns h.objs.size m := ⟨oL, es, ep, k4 _ _ nL (k13 _ _ hL), hr⟩
    refine ks_wpAt_execs_cons (ks_wpAt_Assign_Attr ?_ rfl)
    refine wpAt_of_wpAny ?_
    show wpAny _ _ (eval (.Name f (p 8)) (callEnv fd h.objs.size fI)) _ _ ⟨h₄, g, d, _, os⟩
    refine wpAny_Name (wpAny_loadName_local kk kd4 hns4 hv2 ?_) X.db2
    show wpAny _ _ (eval (.Name sf (p 6)) (callEnv fd h.objs.size fI)) _ _ ⟨h₄, g, d, _, os⟩
    refine wpAny_Name (wpAny_loadName_local kk kd3 hns4 hv1 ?_) X.db1
    refine set_plain X4 (ox := HandSPX.excO C t1) (od := none) ⟨e4, rfl, rfl, trivial⟩ X.sa ?_
    refine HandSPX.exc_osa X4 e4 hcl (show refsVE (.ref C :: bm) = true from hbm) rfl X.nof (fun h₅ tk dx k5 ndx dne he5 hns5 => ?_)
    have e5 : ∀ b o, b ≠ e → h₄.get? b = some o → h₅.get? b = some o := k5
    have X5 : K.In h₅ := fun b o z => e5 b o (fun y => by
      subst y
      exact nK o z) (X4 b o z)
    have hns5' : h₅.Ns h.objs.size m := ⟨oL, es, ep, e5 _ _ nL (k4 _ _ nL (k13 _ _ hL)), hr⟩
    have ndL : dx ≠ h.objs.size := fun z => by
      have h1 := Heap.lt_size (k4 _ _ nL (k13 _ _ hL))
      have h2 : h₄.objs.size ≤ dx := ndx
      rw [z] at h2
      exact absurd h1 (Nat.not_lt.mpr h2)
    refine ks_wpAt_execs_cons (ks_wpAt_Assign_Attr ?_ rfl)
    refine wpAt_of_wpAny ?_
    show wpAny _ _ (eval (.Name g' (p 13)) (callEnv fd h.objs.size fI)) _ _ ⟨h₅, g, d, _, os⟩
    refine wpAny_Name (wpAny_loadName_local kk kd5 hns5' hv3 ?_) X.db3
    show wpAny _ _ (eval (.Name sf (p 11)) (callEnv fd h.objs.size fI)) _ _ ⟨h₅, g, d, _, os⟩
    refine wpAny_Name (wpAny_loadName_local kk kd3 hns5' hv1 ?_) X.db1
    obtain ⟨oD, esD, epD, hoD, hdD⟩ := id hns5
    refine set_plain X5 (ox := { cls := .ref C, dict := some dx, data := .fields #[.ref t1, .none, .none, .none, .bool false, .none] }) (od := some oD) ⟨he5, rfl, rfl, hoD⟩ X.sa ?_
    refine OEX.osa_old X5 he5 hns5 (nl := [f]) (fun y hy => by
      by_cases q : y = f
      · rw [q]
        exact List.mem_cons_self
      · exact absurd (if_neg q) hy) (by show 1 ≤ 1000; decide) hcl (show refsVE (.ref C :: bm) = true from hbm) rfl X.nog (fun h₆ tk6 k6 hns6 => ?_)
    refine wpAt_of_wpAny (wpAny_execs_nil (hq h₆ tk6 t1 dx (fun b o nb z => ?_) ?_ dne (k6 _ _ (Ne.symm dne) he5) hns6))
    · have z5 := e5 b o nb (k4 b o nb (k13 b o (k₁ b o z)))
      refine k6 b o (fun y => ?_) z5
      have h1 := Heap.lt_size z
      have h2 : h₄.objs.size ≤ dx := ndx
      have h3 := Heap.lt_size (k4 _ _ nL (k13 _ _ hL))
      rw [y] at h1
      exact absurd (Nat.lt_of_lt_of_le h1 (Nat.le_of_lt h3)) (Nat.not_lt.mpr h2)
    · exact Nat.le_trans (Nat.le_of_lt (Heap.lt_size (k4 _ _ nL (k13 _ _ hL)))) ndx
end
end EvX
end PySem

namespace Ev
open PySem PySem.Spec PyProof.Rows L2
section
variable {X : Cx} {c : Ck} {sc : Scope} {own : Str → Bool} {k : Nat} {C : Nat → List A → Ho → R A} {W : WX}
theorem pmk_xc (t : Cxt X c sc own k C) {Ca D fI cc cda : Addr} {fd : FuncData} {f sf rs x : Str} (xi : PySem.EvX.XI X.prog X.K Ca D fI cc cda fd f sf rs) (hm : X.mg x = some (.ref Ca)) (ms : X.mg "super" = none) (h1 : glB sc x = true) (h2 : dbgB x = true)
    {e : Expr} (ns : isStar e = false) {ta : TA} (ha : PA X [e] ta) {p pos : Pos} :
    PMk X (.Call (.Name x p) [e] [] pos) (fun σ H Q => ta σ H fun vs H1 => ∃ v, vs = [v] ∧ ∀ dx, H1 dx = none → Q (.ref Ca) (some dx) (upd H1 dx (.xd [(f, v)]))) := by
  intro pins s σ H Q I h
  obtain ⟨d1, _, _⟩ := dbg_of h2
  obtain ⟨nm, q, N, bs, bm, sn, sub, ab, col, dd, k0, k1, k2, k3, k5, hC, hbm⟩ := xi.cls
  refine wpAny_Call_Name_kw (ld_glob I (gl_of t h1) hm ?_ d1)
  refine PySem.W.callWith_K (h₀ := X.base) I.ok.mod.kin xi.kC (thn (ha.run pos pins s σ H _ I h) fun us s1 ⟨vs, H1, I1, r1, v, ev, q1⟩ => ⟨I1.kIn, ?_⟩) (se_cons ns) rfl
  subst ev
  cases r1 with
  | @cons _ u _ _ rv rr =>
  cases rr
  show wpAny _ _ (call (.ref Ca) [u]) _ _ _
  obtain ⟨hp, g, dr, tk, os⟩ := s1
  have kk : ∀ b o, hp.get? b = some o → ((hp.push (PySem.W.kdv_tup [u])).push (PySem.HandSPX.excO Ca hp.objs.size)).get? b = some o := fun b o e => Heap.get?_push_of_some _ (Heap.get?_push_of_some _ e)
  have hget : ((hp.push (PySem.W.kdv_tup [u])).push (PySem.HandSPX.excO Ca hp.objs.size)).get? (hp.objs.size + 1) = some (PySem.HandSPX.excO Ca hp.objs.size) := by heap_get
  have nK : ∀ o, X.K.lookup (hp.objs.size + 1) ≠ some o := fun o z => by
    have := Heap.lt_size (I1.kIn _ _ z)
    have this : hp.objs.size + 1 < hp.objs.size := this
    omega
  refine wpAny_call (PySem.HandSPX.call_own F.excBase_ValueError (fun Y => PySem.HandSPX.refsVE_contains Y bm hbm) (I1.kIn _ _ hC) (PySem.W.looks_findIn I1.kIn xi.init) (fun self => PySem.W.bind_fn I1.kIn self xi.tyF) (by show 1 ≤ sizeLine; decide)
    (PySem.EvX.init_run xi I1.mod ms (fun b o z => kk b o (I1.bk b o z)) nK hget ?_ fun h' t' t1 dx kp le ne he' hns => ?_))
  · rw [make_depth]
    have := t.room.dp
    omega
  · have hsz : hp.objs.size ≤ dx := by
      have : ((hp.push (PySem.W.kdv_tup [u])).push (PySem.HandSPX.excO Ca hp.objs.size)).objs.size ≤ dx := le
      rw [Heap.size_push, Heap.size_push] at this
      omega
    have hdn : H1 dx = none := I1.hok.fresh hsz
    have hen : H1 (hp.objs.size + 1) = none := I1.hok.fresh (Nat.le_succ _)
    have kG : ∀ b o, hp.get? b = some o → (PySem.W.hideAll h' [hp.objs.size + 1]).get? b = some o := fun b o z => by
      have nb : b ≠ hp.objs.size + 1 := fun y => by
        subst y
        exact absurd (Heap.lt_size z) (Nat.not_lt.mpr (Nat.le_succ _))
      exact PySem.W.hideAll_get _ (kp b o nb (kk b o z)) (by simpa using nb)
    have hd : (PySem.W.hideAll h' [hp.objs.size + 1]).Ns1 dx (fun y => if y = f then some u else none) := hns.at fun o z => PySem.W.hideAll_get _ z (by simpa using ne)
    have J := I1.laid (t' := t') (a := dx) (o := .xd [(f, v)]) (h' := PySem.W.hideAll h' [hp.objs.size + 1]) kG hsz ⟨_, hd, relO_put (fs := []) (mA := fun _ => none) rv fun g => True.intro⟩
    refine ⟨rfl, hp.objs.size + 1, _, _, ⟨PySem.W.hideAll h' [hp.objs.size + 1], g, dr, t', os⟩, _, .ref Ca, some dx, rfl, J, fun b o z => PySem.W.of_hideAll _ z, PySem.W.hideAll_none _ (by simp), he', ⟨rfl, rfl⟩, rfl, rfl, ?_, rfl, I1.bare, raises_own xi.exC xi.tyC, q1 dx hdn⟩
    rw [upd_ne (Ne.symm ne)]
    exact hen
theorem lookup_two {f g y : Str} {v v2 : V} (n : (f == g) = false) : ([(f, v), (g, v2)] : List (Str × V)).lookup y = [(g, v2), (f, v)].lookup y := by
  unfold List.lookup
  by_cases q : y = f
  · subst q
    simp [List.lookup, n]
  · have q' : (y == f) = false := by simpa using q
    simp [List.lookup, q']
theorem pmk_xc2 (t : Cxt X c sc own k C) {Ca D fI cc cda : Addr} {fd : FuncData} {f sf g' x : Str} (xi : PySem.EvX.XI2 X.prog X.K Ca D fI cc cda fd sf f g') (hm : X.mg x = some (.ref Ca)) (ms : X.mg "super" = none) (h1 : glB sc x = true) (h2 : dbgB x = true)
    {e e2 : Expr} (ns : isStar e = false) (ns2 : isStar e2 = false) {ta : TA} (ha : PA X [e, e2] ta) {p pos : Pos} :
    PMk X (.Call (.Name x p) [e, e2] [] pos) (fun σ H Q => ta σ H fun vs H1 => ∃ v v2, vs = [v, v2] ∧ ∀ dx, H1 dx = none → Q (.ref Ca) (some dx) (upd H1 dx (.xd [(f, v), (g', v2)]))) := by
  intro pins s σ H Q I h
  obtain ⟨d1, _, _⟩ := dbg_of h2
  obtain ⟨nm, q, N, bs, bm, sn, sub, ab, col, dd, k0, k1, k2, k3, k5, hC, hbm⟩ := xi.cls
  refine wpAny_Call_Name_kw (ld_glob I (gl_of t h1) hm ?_ d1)
  refine PySem.W.callWith_K (h₀ := X.base) I.ok.mod.kin xi.kC (thn (ha.run pos pins s σ H _ I h) fun us s1 ⟨vs, H1, I1, r1, v, v2, ev, q1⟩ => ⟨I1.kIn, ?_⟩) (se_cons ns) (by rw [se_cons ns2]; rfl)
  subst ev
  cases r1 with
  | @cons _ u _ _ rv rr =>
  cases rr with
  | @cons _ u2 _ _ rv2 rr2 =>
  cases rr2
  show wpAny _ _ (call (.ref Ca) [u, u2]) _ _ _
  obtain ⟨hp, g, dr, tk, os⟩ := s1
  have kk : ∀ b o, hp.get? b = some o → ((hp.push (PySem.W.kdv_tup [u, u2])).push (PySem.HandSPX.excO Ca hp.objs.size)).get? b = some o := fun b o e => Heap.get?_push_of_some _ (Heap.get?_push_of_some _ e)
  have hget : ((hp.push (PySem.W.kdv_tup [u, u2])).push (PySem.HandSPX.excO Ca hp.objs.size)).get? (hp.objs.size + 1) = some (PySem.HandSPX.excO Ca hp.objs.size) := by heap_get
  have nK : ∀ o, X.K.lookup (hp.objs.size + 1) ≠ some o := fun o z => by
    have := Heap.lt_size (I1.kIn _ _ z)
    have this : hp.objs.size + 1 < hp.objs.size := this
    omega
  refine wpAny_call (PySem.HandSPX.call_own F.excBase_ValueError (fun Y => PySem.HandSPX.refsVE_contains Y bm hbm) (I1.kIn _ _ hC) (PySem.W.looks_findIn I1.kIn xi.init) (fun self => PySem.W.bind_fn I1.kIn self xi.tyF) (by show 2 ≤ sizeLine; decide)
    (PySem.EvX.init_run2 xi I1.mod ms (fun b o z => kk b o (I1.bk b o z)) nK hget ?_ fun h' t' t1 dx kp le ne he' hns => ?_))
  · rw [make_depth]
    have := t.room.dp
    omega
  · have hsz : hp.objs.size ≤ dx := by
      have : ((hp.push (PySem.W.kdv_tup [u, u2])).push (PySem.HandSPX.excO Ca hp.objs.size)).objs.size ≤ dx := le
      rw [Heap.size_push, Heap.size_push] at this
      omega
    have hdn : H1 dx = none := I1.hok.fresh hsz
    have hen : H1 (hp.objs.size + 1) = none := I1.hok.fresh (Nat.le_succ _)
    have kG : ∀ b o, hp.get? b = some o → (PySem.W.hideAll h' [hp.objs.size + 1]).get? b = some o := fun b o z => by
      have nb : b ≠ hp.objs.size + 1 := fun y => by
        subst y
        exact absurd (Heap.lt_size z) (Nat.not_lt.mpr (Nat.le_succ _))
      exact PySem.W.hideAll_get _ (kp b o nb (kk b o z)) (by simpa using nb)
    have hd : (PySem.W.hideAll h' [hp.objs.size + 1]).Ns1 dx (fun y => if y = g' then some u2 else if y = f then some u else none) := hns.at fun o z => PySem.W.hideAll_get _ z (by simpa using ne)
    have J := I1.laid (t' := t') (a := dx) (o := .xd [(f, v), (g', v2)]) (h' := PySem.W.hideAll h' [hp.objs.size + 1]) kG hsz ⟨_, hd, fun y => by
      rw [lookup_two xi.ne3]
      exact relO_put (f := g') rv2 (relO_put (f := f) (fs := []) (mA := fun _ => none) rv fun g => True.intro) y⟩
    refine ⟨rfl, hp.objs.size + 1, _, _, ⟨PySem.W.hideAll h' [hp.objs.size + 1], g, dr, t', os⟩, _, .ref Ca, some dx, rfl, J, fun b o z => PySem.W.of_hideAll _ z, PySem.W.hideAll_none _ (by simp), he', ⟨rfl, rfl⟩, rfl, rfl, ?_, rfl, I1.bare, raises_own xi.exC xi.tyC, q1 dx hdn⟩
    rw [upd_ne (Ne.symm ne)]
    exact hen
end
end Ev

/-! text Fw15 -/
set_option Elab.async false
set_option linter.all false
set_option maxRecDepth 100000
set_option maxHeartbeats 4000000
/-! Ev: several except clauses, with names. -/
namespace Ev
open PySem PySem.Spec PyProof.Rows L2
abbrev SuT := Addr → Value → Option Addr → TS
/-- behind a suite its name's slot is empty -/
def gone (D : Ends) (j : Nat) : Ends := ⟨fun σ H => D.nx (σ.set j none) H, D.rt, fun σ H => D.bk (σ.set j none) H, fun σ H => D.ct (σ.set j none) H⟩
def onHd (D : Ends) (i : Option Nat) (ts : SuT) (a : Addr) (cls : Value) (d : Option Addr) (σ : L2.St) (H : Hp) : Prop := match i with
  | none => ts a cls d D σ H
  | some j => ts a cls d (gone D j) (σ.set j (some (.ref a))) H
def wHds (K : PySem.W.Frag) (Wout : WX) (D : Ends) : List (Value × Option Nat × SuT) → WX
  | [] => Wout
  | (c, i, ts) :: r => fun cls d σ H => ∃ b, PySem.W.exmOne K cls c = some b ∧ (b = true → ∀ a, H a = none → onHd D i ts a cls d σ H) ∧ (b = false → wHds K Wout D r cls d σ H)
inductive Clauses (X : Cx) : List ExceptHandler → List (Value × Option Nat × SuT) → Prop
  | nil : Clauses X [] []
  | plain {x : Str} {c : Value} {ts : SuT} {b0 : Stmt} {bs : List Stmt} {p1 p2 : Pos} {hs : List ExceptHandler} {l : List (Value × Option Nat × SuT)} (hc : Names X x c)
      (su : ∀ (a : Addr) (oe : Obj) (cls : Value) (d : Option Addr) (pn : List (Addr × Obj)), Zc cls d oe → (∃ vs, oe.data = .fields vs) → PSs (X.suite a ((a, oe) :: pn)) (b0 :: bs) (ts a cls d)) (r : Clauses X hs l) :
      Clauses X (.ExceptHandler (some (.Name x p1)) none (b0 :: bs) p2 :: hs) ((c, none, ts) :: l)
  | named {x n : Str} {j : Nat} {c : Value} {ts : SuT} {b0 : Stmt} {bs : List Stmt} {p1 p2 : Pos} {hs : List ExceptHandler} {l : List (Value × Option Nat × SuT)} (hc : Names X x c) (hn : X.N[j]? = some n) (hk : X.env.kindOf n = some .local)
      (su : ∀ (a : Addr) (oe : Obj) (cls : Value) (d : Option Addr) (pn : List (Addr × Obj)), Zc cls d oe → (∃ vs, oe.data = .fields vs) → PSs (X.suite a ((a, oe) :: pn)) (b0 :: bs) (ts a cls d)) (r : Clauses X hs l) :
      Clauses X (.ExceptHandler (some (.Name x p1)) (some n) (b0 :: bs) p2 :: hs) ((c, some j, ts) :: l)
section
variable {X : Cx} {h0 : ExceptHandler} {hs : List ExceptHandler} {l : List (Value × Option Nat × SuT)} {tb : WX → TS} {Wo : WX} {body : List Stmt} {pos : Pos}
theorem sp_back {pins : List (Addr × Obj)} {xe : Value → Shared → Prop} {D : Ends} (ok : X.Ok) {f : Flow} {s : Shared} (h : SP (X.tr (X.pn ++ pins) xe) [] D f s) : SP X pins D f s := by
  cases f with
  | ret u =>
    obtain ⟨v, σ, H, J, rv, q⟩ := h
    exact ⟨v, σ, H, J.ofTry ok, rv, q⟩
  | next =>
    obtain ⟨σ, H, J, q⟩ := h
    exact ⟨σ, H, J.ofTry ok, q⟩
  | brk =>
    obtain ⟨σ, H, J, q⟩ := h
    exact ⟨σ, H, J.ofTry ok, q⟩
  | cont =>
    obtain ⟨σ, H, J, q⟩ := h
    exact ⟨σ, H, J.ofTry ok, q⟩
theorem sp_suite {pins : List (Addr × Obj)} {a : Addr} {oe : Obj} {D : Ends} (ok : X.Ok) {f : Flow} {s : Shared} (h : SP (X.suite a ((a, oe) :: (X.pn ++ pins))) [] D f s) : SP X pins D f s := by
  cases f with
  | ret u =>
    obtain ⟨v, σ, H, J, rv, q⟩ := h
    exact ⟨v, σ, H, J.unsuite ok, rv, q⟩
  | next =>
    obtain ⟨σ, H, J, q⟩ := h
    exact ⟨σ, H, J.unsuite ok, q⟩
  | brk =>
    obtain ⟨σ, H, J, q⟩ := h
    exact ⟨σ, H, J.unsuite ok, q⟩
  | cont =>
    obtain ⟨σ, H, J, q⟩ := h
    exact ⟨σ, H, J.unsuite ok, q⟩
theorem sp_gone {M : Model} {A : Around} {pins : List (Addr × Obj)} {a : Addr} {oe : Obj} {D : Ends} {j : Nat} {n : Str} {p2 : Pos} {E : Value → Shared → Prop} (ok : X.Ok) (hN : X.N.Nodup) (hn : X.N[j]? = some n) (hk : X.env.kindOf n = some .local) {f : Flow} {s : Shared}
    (h : SP (X.suite a ((a, oe) :: (X.pn ++ pins))) [] (gone D j) f s) : wpAny M A (do bindName X.env n .none; unbindBehindTheSuite X.env n p2) (fun _ s' => SP X pins D f s') E s := by
  cases f with
  | ret u =>
    obtain ⟨v, σ, H, J, rv, q⟩ := h
    exact gone_ok (J.unsuite ok) hN hn hk fun s' J' => ⟨v, _, H, J', rv, q⟩
  | next =>
    obtain ⟨σ, H, J, q⟩ := h
    exact gone_ok (J.unsuite ok) hN hn hk fun s' J' => ⟨_, H, J', q⟩
  | brk =>
    obtain ⟨σ, H, J, q⟩ := h
    exact gone_ok (J.unsuite ok) hN hn hk fun s' J' => ⟨_, H, J', q⟩
  | cont =>
    obtain ⟨σ, H, J, q⟩ := h
    exact gone_ok (J.unsuite ok) hN hn hk fun s' J' => ⟨_, H, J', q⟩
theorem s_try (hst : X.stack = X.env :: X.outer) (hfl : X.env.frame = some X.env.locals) (hN : X.N.Nodup) (tk : Takes X Wo) (cl : Clauses X (h0 :: hs) l)
    (hb : ∀ (W : WX) (pn : List (Addr × Obj)) (xe : Value → Shared → Prop), Takes (X.tr pn xe) W → PassesOwn (model X.prog X.w) X.A X.env xe → PSs (X.tr pn xe) body (tb W)) :
    PS X (.Try body (h0 :: hs) [] [] pos) (fun D σ H => tb (wHds X.K Wo D l) D σ H) := by
  refine ⟨fun pins s σ H D I w => wpAny_Try_except ?_⟩
  have ok := I.ok
  have frm : X.A.frames = some (X.env :: X.outer) := ok.frames.trans (congrArg some hst)
  refine wpAny_mono ((hb _ _ (fun e s1 => wpAny (model X.prog X.w) X.A (noteFrame e X.env) (fun _ s2 => wpAny (model X.prog X.w) X.A (setFlight e none) (fun _ s3 => wpAny (model X.prog X.w) X.A (handleBy e X.env (h0 :: hs)) (SP X pins D) X.xe s3) X.xe s2) X.xe s1)
    (fun u s1 xx => ?_) PassesOwn.looking).run [] s σ H D (I.toTry _) w) (fun f s1 q => ?_) (fun _ _ z => z)
  · obtain ⟨a, B, sI, p', σ1, H1, cls, d, rfl, J1, nb, up, sky, na, os, ag, w1⟩ := xx
    have J : Inv X pins σ1 H1 sI := J1.ofTry ok
    rw [show (X.tr (X.pn ++ pins) _).stack = X.env :: X.outer from hst] at sky
    refine Sky.land Zc.steady frm hfl sky fun h3 fl3 up3 => ?_
    have J3 : Inv X pins σ1 H1 { s1 with heap := h3 } := J.landed nb fl3.1 (up.trans up3) os ag
    obtain ⟨o3, v3, g3, z3, d3⟩ := fl3.there
    have out : a ∉ frs (X.env :: X.outer) := fun m => by
      obtain ⟨_, o', g', nf⟩ := fl3.2.2.1.mem m
      rw [g3] at g'
      cases g'
      exact nf _ d3
    have nL : a ≠ X.env.locals := fun z => out (List.mem_filterMap.mpr ⟨_, List.mem_cons_self, hfl.trans (congrArg some z.symm)⟩)
    have nF : a ∉ X.fs := fun m => by
      obtain ⟨e, m1, m2⟩ := List.mem_filterMap.mp m
      exact out (List.mem_filterMap.mpr ⟨e, List.mem_cons_of_mem _ m1, m2⟩)
    have S3 := J3.suite g3 d3 na nL nF
    have ty : PySem.W.Looks (model X.prog X.w) h3 (typeOf (.ref a)) cls := fun _ _ _ _ k q => wpAny_typeOf_ref (k _ _ g3) (z3.1.symm ▸ q)
    have tst : ∀ {x : Str} {c : Value} {np : Pos}, Names X x c → ∀ {Q : Value → Shared → Prop} {E : Value → Shared → Prop}, Q c { s1 with heap := h3 } → wpAny (model X.prog X.w) (X.A.mark (some (.ref a))) (eval (.Name x np) X.env) Q E { s1 with heap := h3 } := fun {x c np} hc {Q E} q => by
      obtain ⟨m1, m2, m3 | ⟨m3, m4, m5⟩⟩ := hc
      · exact ld_glob S3 m1 m3 q m2
      · exact ld_blt S3 m1 m3 m4 q m5 m2
    -- a clause that takes it: the suite's state
    have into : ∀ h4, HandSPX.FlyingZ B (X.env :: X.outer) a (Zc cls d) h4 → h3.UpToSlots h4 → ∃ o4, Zc cls d o4 ∧ (∃ vs, o4.data = .fields vs) ∧ Inv (X.suite a ((a, o4) :: (X.pn ++ pins))) [] σ1 H1 { s1 with heap := h4 } := fun h4 fl4 up4 => by
      obtain ⟨o4, v4, g4, z4, d4⟩ := fl4.there
      exact ⟨o4, z4, ⟨v4, d4⟩, (J.landed (s' := { s1 with heap := h4 }) nb fl4.1 ((up.trans up3).trans up4) os ag).suite g4 d4 na nL nF⟩
    have each : ∀ {gs : List ExceptHandler} {m : List (Value × Option Nat × SuT)}, Clauses X gs m → wHds X.K Wo D m cls d σ1 H1 → wpAny (model X.prog X.w) X.A (handleBy (.ref a) X.env gs) (SP X pins D) X.xe { s1 with heap := h3 } := by
      intro gs m cs
      induction cs with
      | nil =>
        intro w2
        obtain ⟨_, _, _, oe, vs, T, _, _, ge, _, de, e1, _⟩ := id fl3
        refine wpAny_handleBy_nil ?_
        have on : wpAny (model X.prog X.w) X.A (setFlight (.ref a) X.env.frame) (fun _ s4 => wpAny (model X.prog X.w) X.A (throw (.ref a) : Sem Flow) (SP X pins D) X.xe s4) X.xe { s1 with heap := h3 } := by
          rw [hfl]
          exact HandSPX.setFlight_upZ fl3 fun h4 hh up4 => wpAny_throw (tk _ _ ⟨a, B, sI, pins, σ1, H1, cls, d, rfl, J, nb, (up.trans up3).trans up4, .inr (.inr (hst ▸ hh)), na, os, ag, w2⟩)
        unfold PySem.passOn
        refine wpAny_bind (wpAny_field ge de e1 ?_)
        rw [if_neg (by simp)]
        first
          | exact wpAny_bind on
          | exact wpAny_bind (wpAny_pure (wpAny_bind on))
      | plain hc su r ih =>
        intro ⟨b, b1, yes, no⟩
        refine wpAny_handleBy_cons (codeAny_handlers_test ?_) (fun q => by cases q)
        refine tst hc ((PySem.W.exm_one (M := model X.prog X.w) J3.kIn ty b1).here ?_)
        cases b with
        | false => exact ih (no rfl)
        | true =>
          refine codeAny_handlers_suite (HandSPX.lands_againZ fl3 fun h4 fl4 up4 => ?_)
          obtain ⟨o4, z4, d4, S4⟩ := into h4 fl4 up4
          exact wpAny_mono ((su a o4 cls d (X.pn ++ pins) z4 d4).run [] _ _ H1 D S4 (yes rfl a na)) (fun f s6 q => sp_suite ok q) fun _ _ z => False.elim z
      | named hc hn hk su r ih =>
        intro ⟨b, b1, yes, no⟩
        refine wpAny_handleBy_cons (codeAny_handlers_test ?_) (fun q => by cases q)
        refine tst hc ((PySem.W.exm_one (M := model X.prog X.w) J3.kIn ty b1).here ?_)
        cases b with
        | false => exact ih (no rfl)
        | true =>
          refine codeAny_handlers_suite_as (HandSPX.lands_againZ fl3 fun h4 fl4 up4 => ?_)
          obtain ⟨o4, z4, d4, S4⟩ := into h4 fl4 up4
          refine store_ok (X := X.suite a ((a, o4) :: (X.pn ++ pins))) (v := .ref a) S4 hN hn (.inl hk) rfl (fun s5 S5 => ?_) (.inr hk)
          exact wpAny_mono ((su a o4 cls d (X.pn ++ pins) z4 d4).run [] s5 _ H1 (gone D _) S5 (yes rfl a na)) (fun f s6 q => sp_gone ok hN hn hk q) fun _ _ z => False.elim z
    exact each cl w1
  · have q2 := sp_back ok q
    cases f with
    | next => exact wpAny_execs_nil q2
    | ret u => exact q2
    | brk => exact q2
    | cont => exact q2
end
end Ev

/-! text Fw16 -/
set_option Elab.async false
set_option linter.all false
set_option maxRecDepth 100000
set_option maxHeartbeats 4000000
/-! Ev: statements, one by one. -/
namespace Ev
open PySem PySem.Spec PyProof.Rows L2
section
variable {X : Cx} {G : Pg}
theorem op_aug (op : Operator) : PIp X op (r2 (sOf X G) (augA op)) := by
  intro pins s σ H x y v u Q I rx ry hh
  obtain ⟨r, h, a, b, E, R, ta, tb, p⟩ := hh
  cases op with
  | Add =>
    cases ta with
    | int i =>
      cases tb with
      | int j => exact iop_add pins s σ H _ _ v u Q I rx ry ⟨i, j, rfl, rfl, Po.here R (.int _) p⟩
      | _ => exact False.elim p
    | str i =>
      cases tb with
      | str j =>
        have p : PoV _ r H (if lineOk (i.length + j.length) = true then .ok (.str (i ++ j)) h else .err) Q E := p
        split at p
        · rename_i z
          exact iop_add_str pins s σ H _ _ v u Q I rx ry ⟨i, j, rfl, rfl, line_le z, Po.here R (.str _) p⟩
        · exact False.elim p
      | _ => exact False.elim p
    | @ref m pa ha =>
      cases tb with
      | @ref n pb hb =>
        have p : PoV _ r H (match h[m]?, h[n]? with
          | some (.lst a), some (.lst b) => if lineOk (a.length + b.length) = true then .ok (.ref m) (setL m (a ++ b) h) else .err
          | _, _ => .err) Q E := p
        cases q1 : h[m]? with
        | none =>
          rw [q1] at p
          exact False.elim p
        | some o1 =>
          cases q2 : h[n]? with
          | none =>
            rw [q1, q2] at p
            cases o1
            exact False.elim p
          | some o2 =>
            rw [q1, q2] at p
            cases o1 with
            | lst xs =>
              cases o2 with
              | lst ys =>
                have p : PoV _ r H (if lineOk (xs.length + ys.length) = true then .ok (.ref m) (setL m (xs ++ ys) h) else .err) Q E := p
                split at p
                · rename_i z
                  obtain ⟨p1, vs, e1, f1, g1, t1⟩ := ref_lst R q1 (.ref ha)
                  obtain ⟨p2, ws, e2, f2, g2, t2⟩ := ref_lst R q2 (.ref hb)
                  cases e1
                  cases e2
                  have hz := line_le z
                  rw [t1.length, t2.length] at hz
                  exact iop_ext pins s σ H _ _ v u Q I rx ry ⟨_, _, vs, ws, rfl, rfl, g1, g2, hz, Po.put R q1 f1 (t1.app t2) (.ref ha) p⟩
                · exact False.elim p
      | _ => exact False.elim p
    | _ => exact False.elim p
  | Sub =>
    cases ta with
    | int i =>
      cases tb with
      | int j => exact iop_sub pins s σ H _ _ v u Q I rx ry ⟨i, j, rfl, rfl, Po.here R (.int _) p⟩
      | _ => exact False.elim p
    | _ => exact False.elim p
  | Mult =>
    cases ta with
    | int i =>
      cases tb with
      | int j =>
        have p : PoV _ r H (if mulOk i j = true then .ok (.int (i * j)) h else .err) Q E := p
        split at p
        · rename_i z
          obtain ⟨t, rfl⟩ := rx
          obtain ⟨t', rfl⟩ := ry
          exact imul_int ⟨.int _, H, I.tok _, ⟨_, rfl⟩, Po.here R (.int _) p⟩ (CMulW.ok (Nat.le_of_ble_eq_true z))
        · exact False.elim p
      | _ => exact False.elim p
    | _ => exact False.elim p
  | FloorDiv =>
    cases ta with
    | int i =>
      cases tb with
      | int j =>
        have p : PoV _ r H (if divOk j = true then .ok (.int (i.fdiv j)) h else .err) Q E := p
        split at p
        · rename_i z
          obtain ⟨t, rfl⟩ := rx
          obtain ⟨t', rfl⟩ := ry
          have z' := Bool.and_eq_true_iff.mp z
          exact ifloordiv_int (bne_iff_ne.mp z'.1) ⟨.int _, H, I.tok _, ⟨_, rfl⟩, Po.here R (.int _) p⟩ (.inl (PyProof.noPylong_of_log2 (Nat.le_of_ble_eq_true z'.2)))
        · exact False.elim p
      | _ => exact False.elim p
    | _ => exact False.elim p
  | Mod =>
    cases ta with
    | int i =>
      cases tb with
      | int j =>
        have p : PoV _ r H (if (j != 0) = true then .ok (.int (i.fmod j)) h else .err) Q E := p
        split at p
        · rename_i z
          obtain ⟨t, rfl⟩ := rx
          obtain ⟨t', rfl⟩ := ry
          exact imod_int (bne_iff_ne.mp z) ⟨.int _, H, I.tok _, ⟨_, rfl⟩, Po.here R (.int _) p⟩
        · exact False.elim p
      | _ => exact False.elim p
    | _ => exact False.elim p
  | _ => exact False.elim p
end
/-! ### what is wanted of a statement -/
def PoS (S : Ws) (r : List Addr) (H : Hp) (o : Ot) (D : Ends) (W : WX) : Prop := match o with
  | .nx s h => ∀ r' σ H', Step r H r' H' → At S r' s h σ H' → D.nx σ H'
  | .bk s h => ∀ r' σ H', Step r H r' H' → At S r' s h σ H' → D.bk σ H'
  | .ct s h => ∀ r' σ H', Step r H r' H' → At S r' s h σ H' → D.ct σ H'
  | .rt a h => ∀ r' H' v, Step r H r' H' → Rel S r' h H' → Ra S r' H' a v → D.rt v H'
  | .ex x s h => ∀ r' σ H' cls d, Step r H r' H' → At S r' s h σ H' → Rx S r' H' x cls d → W cls d σ H'
  | .err => False
def rdS (S : Ws) (W : WX) (f : Sl → Ho → Ot) : TS := fun D σ H => ∃ r s h, At S r s h σ H ∧ PoS S r H (f s h) D W
section
variable {S : Ws} {r r' : List Addr} {H H' : Hp} {s : Sl} {h : Ho} {σ : L2.St} {D : Ends} {W : WX} {o : Ot}
theorem PoS.from (p : PoS S r H o D W) (st : Step r H r' H') : PoS S r' H' o D W := by
  cases o with
  | nx s h => exact fun r2 σ2 H2 s2 A2 => p r2 σ2 H2 (st.trans s2) A2
  | bk s h => exact fun r2 σ2 H2 s2 A2 => p r2 σ2 H2 (st.trans s2) A2
  | ct s h => exact fun r2 σ2 H2 s2 A2 => p r2 σ2 H2 (st.trans s2) A2
  | rt a h => exact fun r2 H2 v s2 R2 t => p r2 H2 v (st.trans s2) R2 t
  | ex x s h => exact fun r2 σ2 H2 c d s2 A2 t => p r2 σ2 H2 c d (st.trans s2) A2 t
  | err => exact p
/-- an expression, then the rest -/
theorem PoS.part {α β : Type} {rel : List Addr → Hp → α → β → Prop} {res : R α} {f : α → Ho → Ot} (a : At S r s h σ H) (p : PoS S r H (res.then s f) D W) :
    Po S rel r H res (fun v H1 => ∃ r1 a1 h1, At S r1 s h1 σ H1 ∧ Step r H r1 H1 ∧ rel r1 H1 a1 v ∧ PoS S r1 H1 (f a1 h1) D W) fun cls d H' => W cls d σ H' := by
  cases res with
  | ok a1 h1 => exact fun r1 H1 v st R1 t => ⟨r1, a1, h1, a.step st R1, st, t, PoS.from p st⟩
  | exc x h1 => exact fun r1 H1 c d st R1 t => p r1 σ H1 c d st (a.step st R1) t
  | err => exact p
/-- a statement, then the rest -/
theorem PoS.seq {f : Sl → Ho → Ot} (p : PoS S r H (o.then f) D W) : PoS S r H o { D with nx := fun σ H => rdS S W f D σ H } W := by
  cases o with
  | nx s1 h1 => exact fun r1 σ1 H1 st A1 => ⟨r1, s1, h1, A1, PoS.from p st⟩
  | bk s h => exact p
  | ct s h => exact p
  | rt a h => exact p
  | ex x s h => exact p
  | err => exact p
end
theorem _root_.L2.PS.imp {X : Cx} {x : Stmt} {t t' : TS} (h : PS X x t) (q : ∀ D σ H, t' D σ H → t D σ H) : PS X x t' := ⟨fun p s σ H D I w => h.run p s σ H D I (q _ _ _ w)⟩
theorem _root_.L2.PSs.imp {X : Cx} {x : List Stmt} {t t' : TS} (h : PSs X x t) (q : ∀ D σ H, t' D σ H → t D σ H) : PSs X x t' := ⟨fun p s σ H D I w => h.run p s σ H D I (q _ _ _ w)⟩
section
variable {X : Cx} {c : Ck} {sc : Scope} {own : Str → Bool} {k : Nat} {C : Nat → List A → Ho → R A} {W : WX}
theorem s_nil {G : Pg} : PSs X [] (rdS (sOf X G) W fun s h => .nx s h) := pss_nil.imp fun D σ H ⟨r, s, h, a, q⟩ => q r σ H .refl a
theorem s_cons {G : Pg} {x : Stmt} {xs : List Stmt} {f g : Sl → Ho → Ot} (h1 : PS X x (rdS (sOf X G) W f)) (h2 : PSs X xs (rdS (sOf X G) W g)) : PSs X (x :: xs) (rdS (sOf X G) W fun s h => (f s h).then g) :=
  (pss_cons h1 h2).imp fun D σ H ⟨r, s, h, a, q⟩ => ⟨r, s, h, a, PoS.seq q⟩
theorem s_pass {G : Pg} {p : Pos} : PS X (.Pass p) (rdS (sOf X G) W fun s h => .nx s h) := ps_pass.imp fun D σ H ⟨r, s, h, a, q⟩ => q r σ H .refl a
theorem s_doc {G : Pg} {z : Str} {j : Nat} {p p2 : Pos} : PS X (.Expr (.Constant (.str z) j p) p2) (rdS (sOf X G) W fun s h => .nx s h) := ps_doc.imp fun D σ H ⟨r, s, h, a, q⟩ => q r σ H .refl a
theorem s_brk {G : Pg} {p : Pos} : PS X (.Break p) (rdS (sOf X G) W fun s h => .bk s h) := ps_break.imp fun D σ H ⟨r, s, h, a, q⟩ => q r σ H .refl a
theorem s_cnt {G : Pg} {p : Pos} : PS X (.Continue p) (rdS (sOf X G) W fun s h => .ct s h) := ps_continue.imp fun D σ H ⟨r, s, h, a, q⟩ => q r σ H .refl a
theorem s_retN {G : Pg} {p : Pos} : PS X (.Return none p) (rdS (sOf X G) W fun _ h => .rt .non h) := ps_retN.imp fun D σ H ⟨r, s, h, a, q⟩ => q r H .non .refl a.rel .non
theorem s_ret {G : Pg} {x : Expr} {p : Pos} {f : Sl → Ho → R A} (hx : PE X x (rdE (sOf X G) W f)) : PS X (.Return (some x) p) (rdS (sOf X G) W fun s h => (f s h).then s fun a h => .rt a h) :=
  (ps_ret hx).imp fun D σ H ⟨r, s, h, a, q⟩ => ⟨r, s, h, a, (PoS.part a q).mono fun v H1 ⟨r1, a1, h1, A1, st, t, q1⟩ => q1 r1 H1 v .refl A1.rel t⟩
def isComp : Expr → Bool
  | .ListComp .. => true
  | .SetComp .. => true
  | .DictComp .. => true
  | _ => false
theorem sw_no {x : Expr} (h : isComp x = false) (t : Option Expr) (l : Nat) (env : Env) : swapsWith x t l env = pure false := by
  cases x <;> first
    | rfl
    | (cases h)
theorem sw_tup {x : Expr} {ts : List Expr} {n : Nat} {p : Pos} (l : Nat) (env : Env) : swapsWithSole [.Tuple ts n p] x l env = pure false := by
  cases x <;> rfl
theorem s_exp {G : Pg} {x : Expr} {p : Pos} {f : Sl → Ho → R A} (nc : isComp x = false) (hx : PE X x (rdE (sOf X G) W f)) : PS X (.Expr x p) (rdS (sOf X G) W fun s h => (f s h).then s fun _ h => .nx s h) :=
  (ps_expr hx (sw_no nc _ _ _)).imp fun D σ H ⟨r, s, h, a, q⟩ => ⟨r, s, h, a, (PoS.part a q).mono fun v H1 ⟨r1, a1, h1, A1, st, t, q1⟩ => q1 r1 σ H1 .refl A1⟩
theorem s_ife {G : Pg} {x : Expr} {ys zs : List Stmt} {p : Pos} {tt : Sl → Ho → R Bool} {f g : Sl → Ho → Ot} (hx : PT X x (rdB (sOf X G) W tt)) (hy : PSs X ys (rdS (sOf X G) W f)) (hz : PSs X zs (rdS (sOf X G) W g)) :
    PS X (.If x ys zs p) (rdS (sOf X G) W fun s h => (tt s h).then s fun k h => if k then f s h else g s h) :=
  (ps_if hx hy hz).imp fun D σ H ⟨r, s, h, a, q⟩ => ⟨r, s, h, a, (PoS.part a q).mono fun b H1 ⟨r1, a1, h1, A1, st, t, q1⟩ => by
    subst t
    cases a1 with
    | true => exact ⟨r1, s, h1, A1, q1⟩
    | false => exact ⟨r1, s, h1, A1, q1⟩⟩
/-- a target's store, by the term -/
theorem asg_rd {S : Ws} {g : Tg} {f : Sl → Ho → R A} {gt : TG} (hg : ∀ v σ H Q, rdG S g v σ H Q → gt v σ H Q) {D : Ends} {σ : L2.St} {H : Hp} (hh : rdS S W (fun s h => (f s h).then s fun x h => match Tg.put g x s with
    | some s => .nx s h
    | none => .err) D σ H) : tAsg (rdE S W f) gt D σ H := by
  obtain ⟨r, s, h, a, q⟩ := hh
  refine ⟨r, s, h, a, (PoS.part a q).mono fun v H1 ⟨r1, a1, h1, A1, st, t, q1⟩ => hg _ _ _ _ ?_⟩
  cases e : Tg.put g a1 s with
  | none =>
    rw [e] at q1
    exact False.elim q1
  | some s' =>
    rw [e] at q1
    exact ⟨r1, s, h1, a1, s', A1, t, e, fun σ' A' _ _ => q1 r1 σ' H1 .refl A'⟩
theorem name_rd {S : Ws} {i : Nat} (v : V) (σ : L2.St) (H : Hp) (Q : L2.St → Hp → Prop) (hh : rdG S (.nm i) v σ H Q) : gName i v σ H Q := by
  obtain ⟨r, s, h, a, s', A0, t, e, q⟩ := hh
  cases e
  exact q _ ⟨A0.rel, A0.sl.set t i⟩ (List.length_set ..) fun own hw j hj => by
    obtain ⟨y, hy, e⟩ := List.any_eq_true.mp (show own.any (· == i) = true from hw)
    have e : y = i := beq_iff_eq.mp e
    subst e
    exact List.getElem?_set_ne fun z => by
      subst z
      exact hj hy
end
end Ev

/-! text Fw17 -/
set_option Elab.async false
set_option linter.all false
set_option maxRecDepth 100000
set_option maxHeartbeats 4000000
/-! Ev: loops, stores in parallel, items stored, x op= y. -/
namespace Ev
open PySem PySem.Spec PyProof.Rows L2
section
variable {X : Cx} {c : Ck} {sc : Scope} {own : Str → Bool} {k : Nat} {C : Nat → List A → Ho → R A} {W : WX}
/-- a loop's body: what it leaves is what the loop goes on from -/
theorem loop_body {S : Ws} {r : List Addr} {H : Hp} {o : Ot} {on : Sl → Ho → Ot} {D : Ends} {N : L2.St → Hp → Prop} (hN : ∀ r' σ' H' s h, Step r H r' H' → At S r' s h σ' H' → PoS S r' H' (on s h) D W → N σ' H') (q : PoS S r H (match o with
    | .nx s h => on s h
    | .ct s h => on s h
    | .bk s h => .nx s h
    | o => o) D W) : PoS S r H o { D with nx := N, ct := N, bk := D.nx } W := by
  cases o with
  | nx s h => exact fun r' σ' H' st A' => hN r' σ' H' s h st A' (PoS.from q st)
  | ct s h => exact fun r' σ' H' st A' => hN r' σ' H' s h st A' (PoS.from q st)
  | bk s h => exact q
  | rt a h => exact q
  | ex x s h => exact q
  | err => exact q
theorem s_whl {G : Pg} {x : Expr} {ys : List Stmt} {p : Pos} {tt : Sl → Ho → R Bool} {f : Sl → Ho → Ot} {n : Nat} (hp : PassesOwn (model X.prog X.w) X.A X.env X.xe) (hx : PT X x (rdB (sOf X G) W tt)) (hy : PSs X ys (rdS (sOf X G) W f)) :
    PS X (.While x ys [] p) (rdS (sOf X G) W (whileL tt f n)) := by
  refine (ps_while hp hx hy).imp fun D σ H ⟨r, s, h, a, q⟩ => ⟨fun m σ H => ∃ r s h, At (sOf X G) r s h σ H ∧ PoS (sOf X G) r H (whileL tt f m s h) D W, ⟨n, r, s, h, a, q⟩, fun m σ H ⟨r, s, h, a, q⟩ => ?_⟩
  cases m with
  | zero => exact False.elim q
  | succ m =>
    unfold whileL at q
    refine ⟨r, s, h, a, (PoS.part a q).mono fun b H1 ⟨r1, a1, h1, A1, st, t, q1⟩ => ?_⟩
    subst t
    cases a1 with
    | false => exact q1 r1 σ H1 .refl A1
    | true =>
      refine ⟨fun σ' H' => ∃ r s h, At (sOf X G) r s h σ' H' ∧ PoS (sOf X G) r H' (whileL tt f m s h) D W, fun σ' H' z => ⟨m, Nat.lt_succ_self m, z⟩, r1, s, h1, A1, loop_body (fun r' σ' H' s' h' _ A' q' => ⟨r', s', h', A', q'⟩) q1⟩
theorem s_for {G : Pg} {tg x : Expr} {ys : List Stmt} {p : Pos} {gi : Sl → Ho → R (List A × List (Nat × List A))} {g : Tg} {f : Sl → Ho → Ot} (hp : PassesOwn (model X.prog X.w) X.A X.env X.xe) (hc : X.calm = true) (hs : isSet x = false) (hi : PI X tg x (rdI (sOf X G) W gi)) (hg : PG X tg (rdG (sOf X G) g))
    (hy : PSs X ys (rdS (sOf X G) W f)) : PS X (.For tg x ys [] p) (rdS (sOf X G) W fun s h => (gi s h).then s fun w h => forL w.2 g f w.1 s h) := by
  refine (ps_for hp hc hi hg hy (fun v => isSet_folded hs _ v)).imp fun D σ H ⟨r, s, h, a, q⟩ => ⟨r, s, h, a, (PoS.part a q).mono fun J H1 ⟨r1, w, h1, A1, _, wk, q1⟩ => ?_⟩
  refine ⟨fun i m σ H => ∃ r s h, Step r1 H1 r H ∧ At (sOf X G) r s h σ H ∧ m = w.1.length - i ∧ PoS (sOf X G) r H (forL w.2 g f (w.1.drop i) s h) D W, ⟨w.1.length, r1, s, h1, .refl, A1, rfl, q1⟩, fun i m σ2 H2 ⟨r2, s2, h2, st2, A2, em, q2⟩ => ?_⟩
  cases ex : w.1[i]? with
  | none =>
    have hl : w.1.length ≤ i := by
      rcases Nat.lt_or_ge i w.1.length with z | z
      · rw [List.getElem?_eq_getElem z] at ex
        cases ex
      · exact z
    rw [List.drop_eq_nil_of_le hl] at q2
    unfold forL at q2
    split at q2
    · rename_i sl
      exact .inl ⟨(wk r2 h2 H2 st2 A2.rel sl i).2 hl, q2 r2 σ2 H2 .refl A2⟩
    · exact False.elim q2
  | some x =>
    have hl : i < w.1.length := (List.getElem?_eq_some_iff.mp ex).1
    have hd : w.1.drop i = x :: w.1.drop (i + 1) := by
      rw [List.drop_eq_getElem_cons hl]
      rw [List.getElem?_eq_getElem hl] at ex
      rw [Option.some.inj ex]
    rw [hd] at q2
    unfold forL at q2
    split at q2
    · rename_i sl
      obtain ⟨go, yl⟩ := (wk r2 h2 H2 st2 A2.rel sl i).1 x ex
      refine .inr ⟨go, fun σ' H' => ∃ r s h, Step r1 H1 r H' ∧ At (sOf X G) r s h σ' H' ∧ PoS (sOf X G) r H' (forL w.2 g f (w.1.drop (i + 1)) s h) D W, fun σ' H' ⟨r', s', h', e1, e2, e3⟩ => ⟨w.1.length - (i + 1), by omega, r', s', h', e1, e2, rfl, e3⟩, fun v H3 hy => ?_⟩
      obtain ⟨st3, R3, tv⟩ := yl v H3 hy
      cases eP : Tg.put g x s2 with
      | none =>
        rw [eP] at q2
        exact False.elim q2
      | some s' =>
        rw [eP] at q2
        refine ⟨r2, s2, h2, x, s', A2.step st3 R3, tv, eP, fun σ' A' _ _ => ⟨r2, s', h2, A', loop_body (fun r' σ'' H' s'' h'' st' A'' q' => ⟨r', s'', h'', (st2.trans st3).trans st', A'', q'⟩) (PoS.from q2 st3)⟩⟩
    · exact False.elim q2
/-! ### stores in parallel -/
def nmsC (sc : Scope) (ts : List Expr) : List Str := ts.filterMap fun
  | .Name id pos => if sc.names.lookup id == some .local && pos.line == (ts.head?.map (·.pos.line)).getD 0 then some id else none
  | _ => none
def swapC (sc : Scope) (ts vs : List Expr) : Option (Option (List Str)) :=
  if !(ts.length == 2 || ts.length == 3) || vs.length != ts.length then some none else if vs.any isStar then some none else
  if (nmsC sc ts).length != ts.length || (nmsC sc ts).eraseDups.length != (nmsC sc ts).length then some none else if vs.all (foldedForSure 8) then some none else
  if vs.all (constantsAlone 8) then none else some (some (nmsC sc ts))
theorem swap_is {ts vs : List Expr} {n m : Nat} {p q : Pos} {env : Env} {o : Option (List Str)} (hk : env.scope.kind = .function) (h : swapC env.scope ts vs = some o) : swappedStores [.Tuple ts n p] (.Tuple vs m q) env = pure o := by
  have hb : (env.blockKind != ScopeKind.function) = false := by
    unfold Env.blockKind
    rw [hk]
    rfl
  have es : ∀ {f : Expr → Bool}, (∀ x, f x = isStar x) → vs.any f = vs.any isStar := fun {f} hf => by rw [funext hf]
  unfold swapC at h
  unfold swappedStores
  dsimp only
  rw [hb, Bool.or_false]
  split at h
  · rename_i c1
    cases h
    exact if_pos c1
  · rename_i c1
    rw [if_neg c1]
    split at h
    · rename_i c2
      cases h
      exact if_pos ((es fun x => by cases x <;> rfl).trans c2)
    · rename_i c2
      refine (if_neg fun z => c2 ((es fun x => by cases x <;> rfl).symm.trans z)).trans ?_
      split at h
      · rename_i c3
        cases h
        exact if_pos c3
      · rename_i c3
        refine (if_neg c3).trans ?_
        split at h
        · rename_i c4
          cases h
          exact if_pos c4
        · rename_i c4
          refine (if_neg c4).trans ?_
          split at h
          · cases h
          · rename_i c5
            cases h
            exact if_neg c5
theorem sw_none {ts : List Expr} {x : Expr} {n : Nat} {p : Pos} {env : Env} (h : isTupE x = false) : swappedStores [.Tuple ts n p] x env = pure none := by
  cases x <;> first
    | rfl
    | (cases h)
theorem s_asgT (t : Cxt X c sc own k C) (hk : sc.kind = .function) {ts : List Expr} {n : Nat} {q p : Pos} {x : Expr} {g : Tg} {f : Sl → Ho → R A} (hw : (match x with
    | .Tuple vs _ _ => decide (swapC sc ts vs = some none)
    | _ => true) = true) (hx : PE X x (rdE (sOf X c.G) W f)) (hg : PG X (.Tuple ts n q) (rdG (sOf X c.G) g)) : PS X (.Assign [.Tuple ts n q] x p) (rdS (sOf X c.G) W fun s h => (f s h).then s fun x h => match Tg.put g x s with
    | some s => .nx s h
    | none => .err) := by
  have hs : swappedStores [.Tuple ts n q] x X.env = pure none := by
    cases hh : isTupE x with
    | false => exact sw_none hh
    | true =>
      cases x with
      | Tuple vs m q2 =>
        exact swap_is (by rw [t.sc]; exact hk) (by rw [t.sc]; exact of_decide_eq_true hw)
      | _ => cases hh
  exact (ps_asg hx hg (sw_tup _ _) hs rfl).imp fun D σ H hh => asg_rd (fun _ _ _ _ z => z) hh
theorem s_asgN (t : Cxt X c sc own k C) {y : Str} {q p : Pos} {x : Expr} {i : Nat} {f : Sl → Ho → R A} (hsw : swapsWith x (some (.Name y q)) p.line X.env = pure false) (hc : ckG c sc own (.nm i) (.Name y q) = true) (hx : PE X x (rdE (sOf X c.G) W f)) :
    PS X (.Assign [.Name y q] x p) (rdS (sOf X c.G) W fun s h => (f s h).then s fun x h => match Tg.put (.nm i) x s with
    | some s => .nx s h
    | none => .err) :=
  (ps_asg hx (okG t (.nm i) (.Name y q) hc) hsw rfl rfl).imp fun D σ H hh => asg_rd (fun _ _ _ _ z => z) hh
/-- two, three locals at once -/
theorem s_par2 (t : Cxt X c sc own k C) (hk : sc.kind = .function) {x y : Str} {a b : Expr} {px py q q2 p : Pos} {n m i j : Nat} {F : Sl → Ho → R (List A)} (hi : c.N[i]? = some x) (hj : c.N[j]? = some y) (hij : i ≠ j) (lx : isLocB sc x = true) (ly : isLocB sc y = true)
    (hw : swapC sc [.Name x px, .Name y py] [a, b] = some (some [x, y])) (ha : PA X [a, b] (rdA (sOf X c.G) W F)) : PS X (.Assign [.Tuple [.Name x px, .Name y py] n q] (.Tuple [a, b] m q2) p) (rdS (sOf X c.G) W fun s h => (F s h).then s fun xs h => match setsP [i, j] xs s with
    | some s => .nx s h
    | none => .err) := by
  have loc : ∀ {z : Str}, isLocB sc z = true → X.env.scope.names.lookup z = some .local := fun {z} hz => by
    rw [t.sc]
    unfold isLocB at hz
    split at hz
    · assumption
    · cases hz
  refine (ps_par t.calm (by rw [t.N]; exact t.nd) (by rw [t.N]; exact hi) (by rw [t.N]; exact hj) hij (loc lx) (loc ly) ha (swap_is (by rw [t.sc]; exact hk) (by rw [t.sc]; exact hw)) (sw_tup _ _)).imp fun D σ H ⟨r, s, h, a, q⟩ => ⟨r, s, h, a, (PoS.part a q).mono fun vs H1 ⟨r1, as, h1, A1, st, ts, q1⟩ => ?_⟩
  match as, vs, ts with
  | [d, e], [v, w], .cons td (.cons te .nil) => exact ⟨v, w, rfl, q1 r1 _ H1 .refl ⟨A1.rel, (A1.sl.set td i).set te j⟩⟩
  | [], _, _ => exact False.elim q1
  | [_], _, _ => exact False.elim q1
  | _ :: _ :: _ :: _, _, _ => exact False.elim q1
theorem s_par3 (t : Cxt X c sc own k C) (hk : sc.kind = .function) {x y z : Str} {a b d : Expr} {px py pz q q2 p : Pos} {n m i j l : Nat} {F : Sl → Ho → R (List A)} (hi : c.N[i]? = some x) (hj : c.N[j]? = some y) (hl : c.N[l]? = some z) (hij : i ≠ j) (hil : i ≠ l) (hjl : j ≠ l)
    (lx : isLocB sc x = true) (ly : isLocB sc y = true) (lz : isLocB sc z = true) (hw : swapC sc [.Name x px, .Name y py, .Name z pz] [a, b, d] = some (some [x, y, z])) (ha : PA X [a, b, d] (rdA (sOf X c.G) W F)) :
    PS X (.Assign [.Tuple [.Name x px, .Name y py, .Name z pz] n q] (.Tuple [a, b, d] m q2) p) (rdS (sOf X c.G) W fun s h => (F s h).then s fun xs h => match setsP [i, j, l] xs s with
    | some s => .nx s h
    | none => .err) := by
  have loc : ∀ {z : Str}, isLocB sc z = true → X.env.scope.names.lookup z = some .local := fun {z} hz => by
    rw [t.sc]
    unfold isLocB at hz
    split at hz
    · assumption
    · cases hz
  refine (ps_par3 t.calm (by rw [t.N]; exact t.nd) (by rw [t.N]; exact hi) (by rw [t.N]; exact hj) (by rw [t.N]; exact hl) hij hil hjl (loc lx) (loc ly) (loc lz) ha (swap_is (by rw [t.sc]; exact hk) (by rw [t.sc]; exact hw)) (sw_tup _ _)).imp fun D σ H ⟨r, s, h, a, q⟩ => ⟨r, s, h, a, (PoS.part a q).mono fun vs H1 ⟨r1, as, h1, A1, st, ts, q1⟩ => ?_⟩
  match as, vs, ts with
  | [d, e, f], [v, w, u], .cons td (.cons te (.cons tf .nil)) => exact ⟨v, w, u, rfl, q1 r1 _ H1 .refl ⟨A1.rel, ((A1.sl.set td i).set te j).set tf l⟩⟩
  | [], _, _ => exact False.elim q1
  | [_], _, _ => exact False.elim q1
  | [_, _], _, _ => exact False.elim q1
  | _ :: _ :: _ :: _ :: _, _, _ => exact False.elim q1
theorem s_aug (t : Cxt X c sc own k C) {y : Str} {q p : Pos} {x : Expr} {i : Nat} {op : Operator} {f : Sl → Ho → R A} (hi : c.N[i]? = some y) (hl : locB sc y = true) (ho : (own y || isLocB sc y) = true) (hx : PE X x (rdE (sOf X c.G) W f)) :
    PS X (.AugAssign (.Name y q) op x p) (rdS (sOf X c.G) W fun s h => match s[i]? with
    | some (some x) => (f s h).then s fun y h => (augA op x y h).then s fun z h => .nx (s.set i (some z)) h
    | _ => .err) := by
  have hf : X.fn y = true ∨ X.env.scope.names.lookup y = some .local := by
    rcases Bool.or_eq_true_iff.mp ho with z | z
    · exact .inl (t.own y z)
    · rw [t.sc]
      unfold isLocB at z
      split at z
      · exact .inr ‹_›
      · cases z
  refine (ps_aug (by rw [t.N]; exact t.nd) (by rw [t.N]; exact hi) (loc_of t hl) hx (op_aug (G := c.G) op) hf).imp fun D σ H ⟨r, s, h, a, q⟩ => ?_
  cases e : s[i]? with
  | none =>
    simp only [e] at q
    exact False.elim q
  | some o =>
    cases o with
    | none =>
      simp only [e] at q
      exact False.elim q
    | some b =>
      simp only [e] at q
      obtain ⟨v, ev, tv⟩ := a.sl.at_ i b e
      refine ⟨v, ev, r, s, h, a, (PoS.part a q).mono fun u H1 ⟨r1, a1, h1, A1, st, t1, q1⟩ => ⟨r1, h1, b, a1, fun cls d H' => W cls d σ H', A1.rel, tv.step a.rel st, t1, (PoS.part A1 q1).mono fun z H2 ⟨r2, a2, h2, A2, st2, t2, q2⟩ => q2 r2 _ H2 .refl ⟨A2.rel, A2.sl.set t2 i⟩⟩⟩
theorem s_sto {G : Pg} {x y z : Expr} {q p : Pos} {f g d : Sl → Ho → R A} (nc : isComp z = false) (ni : isSlice y = false) (hz : PE X z (rdE (sOf X G) W d)) (hx : PE X x (rdE (sOf X G) W f)) (hy : PE X y (rdE (sOf X G) W g)) :
    PS X (.Assign [.Subscript x y q] z p) (rdS (sOf X G) W fun s h => (d s h).then s fun v h => (f s h).then s fun x h => (g s h).then s fun y h => match stoA x y v h with
    | some h => .nx s h
    | none => .err) := by
  refine (ps_asg hz (pg_sub hx hy (set_all (G := G)) ?_) ?_ ?_ rfl).imp fun D σ H ⟨r, s, h, a, q⟩ => ?_
  · intro v
    cases y <;> first
      | rfl
      | (cases ni)
  · exact sw_no nc (some (.Subscript x y q)) p.line X.env
  · cases z <;> rfl
  · refine ⟨r, s, h, a, (PoS.part a q).mono fun v H1 ⟨r1, b1, h1, A1, st1, t1, q1⟩ => ⟨r1, s, h1, A1, (PoS.part A1 q1).mono fun v2 H2 ⟨r2, b2, h2, A2, st2, t2, q2⟩ => ⟨r2, s, h2, A2, (PoS.part A2 q2).mono fun v3 H3 ⟨r3, b3, h3, A3, st3, t3, q3⟩ => ?_⟩⟩⟩
    cases e : stoA b2 b3 b1 h3 with
    | none =>
      simp only [e] at q3
      exact False.elim q3
    | some h4 =>
      simp only [e] at q3
      exact ⟨r3, h3, b2, b3, b1, h4, A3.rel, t2.step A2.rel st3, t3, (t1.step A1.rel st2).step A2.rel st3, e, fun r' H' st R' => q3 r' σ H' st ⟨R', A3.sl.step A3.rel st⟩⟩
end
end Ev

/-! text Fw18 -/
set_option Elab.async false
set_option linter.all false
set_option maxRecDepth 100000
set_option maxHeartbeats 4000000
/-! Ev: errors raised and caught; a def's lines. -/
namespace Ev
open PySem PySem.Spec PyProof.Rows L2
/-- an error class by its fields -/
def Mks (P : Program) (K : PySem.W.Frag) (Ca : Addr) (fs : List Str) : Prop := (∃ (D fI cc cda : Addr) (fd : FuncData) (f sf rs : Str), fs = [f] ∧ PySem.EvX.XI P K Ca D fI cc cda fd f sf rs) ∨ ∃ (D fI cc cda : Addr) (fd : FuncData) (sf f g : Str), fs = [f, g] ∧ PySem.EvX.XI2 P K Ca D fI cc cda fd sf f g
theorem Mks.nof {P : Program} {K : PySem.W.Frag} {Ca : Addr} {fs : List Str} (m : Mks P K Ca fs) {f : Str} (h : f ∈ fs) : PySem.W.findIn K (.ref Ca) f = some none := by
  rcases m with ⟨D, fI, cc, cda, fd, f1, sf, rs, rfl, x⟩ | ⟨D, fI, cc, cda, fd, sf, f1, g1, rfl, x⟩
  · rw [List.mem_singleton.mp h]
    exact x.nof
  · rcases List.mem_cons.mp h with z | z
    · rw [z]
      exact x.nof
    · rw [List.mem_singleton.mp z]
      exact x.nog
theorem look_mem1 : ∀ {l : List (Str × A)} {f : Str} {b : A}, look f l = some b → f ∈ l.map (·.1)
  | [], _, _, e => by
    unfold look at e
    cases e
  | (g, y) :: l, f, b, e => by
    unfold look at e
    split at e
    · rename_i z
      exact List.mem_cons.mpr (.inl (beq_iff_eq.mp z))
    · exact List.mem_cons.mpr (.inr (look_mem1 e))
/-- what the written part says of the error classes -/
structure We (P : Program) (K : PySem.W.Frag) (mg : Str → Option Value) (c : Ck) : Prop where
  sup : mg "super" = none
  nam : ∀ Y, c.exn.contains Y = true → ∃ CY, mg Y = some (.ref CY)
  exc : ∀ (i : Nat) (e : Ec), c.G.ecs[i]? = some e → ∃ Ca : Addr, mg e.name = some (.ref Ca) ∧ Mks P K Ca e.fs ∧ XfC K Ca ∧ ExcC K Ca ∧
    ∀ Y CY, c.exn.contains Y = true → mg Y = some (.ref CY) → PySem.W.exmOne K (.ref Ca) (.ref CY) = some (c.G.takes i Y) ∧ PySem.W.kitOne K (.ref Ca) (.ref CY) = some (c.G.takes i Y)
  ven : mg "ValueError" = none
  vek : ∀ (i : Nat) (e : Ec), c.G.ecs[i]? = some e → ∀ Ca : Addr, mg e.name = some (.ref Ca) → PySem.W.kitOne K (.ref Ca) (.type "ValueError") = some true
section
variable {S : Ws} {r r' : List Addr} {H H' : Hp} {h : Ho}
theorem Rx.step (R : Rel S r h H) (st : Step r H r' H') {x : Xv} {cls : Value} {d : Option Addr} (q : Rx S r H x cls d) : Rx S r' H' x cls d := by
  obtain ⟨e, C, dd, fs, e1, e2, e3, e4, e5, e6, e7, e8⟩ := q
  exact ⟨e, C, dd, fs, e1, e2, e3, e4, st.keep dd _ e5 (R.notIn e5 fun vs z => by cases z), e6, e7.step R st, e8⟩
theorem look_at : ∀ {xs : List (Str × A)} {fs : List (Str × V)} {f : Str} {b : A}, fs.map (·.1) = xs.map (·.1) → Ras S r H (xs.map (·.2)) (fs.map (·.2)) → look f xs = some b → ∃ v, fs.lookup f = some v ∧ Ra S r H b v
  | [], _, _, _, _, _, e => by
    unfold look at e
    cases e
  | (g, y) :: xs, [], _, _, e, _, _ => by cases e
  | (g, y) :: xs, (g', v) :: fs, f, b, e, t, e2 => by
    have eg : g' = g := (List.cons.inj e).1
    have er := (List.cons.inj e).2
    subst eg
    unfold look at e2
    cases t with
    | cons t1 t2 =>
      cases q : f == g' with
      | true =>
        rw [q] at e2
        cases e2
        exact ⟨v, by simp [List.lookup, q], t1⟩
      | false =>
        rw [q] at e2
        obtain ⟨w, w1, w2⟩ := look_at er t2 e2
        exact ⟨w, by simp [List.lookup, q, w1], w2⟩
end
/-! ### an except suite's answer -/
def rdU (S : Ws) (j : Option (Str × Nat)) (a : Addr) (cls : Value) (d : Option Addr) (u : Xv → Option A) : TE := fun σ H Q => ∃ r h x b, Rel S r h H ∧ Rx S r H x cls d ∧ (∀ y i, j = some (y, i) → i < σ.length → σ[i]? = some (some (.ref a))) ∧ u x = some b ∧
  ∀ r' H' v, Step r H r' H' → Rel S r' h H' → Ra S r' H' b v → Q v H'
def rdUs (S : Ws) (j : Option (Str × Nat)) (a : Addr) (cls : Value) (d : Option Addr) (u : Xv → Option (List A)) : TA := fun σ H Q => ∃ r h x bs, Rel S r h H ∧ Rx S r H x cls d ∧ (∀ y i, j = some (y, i) → i < σ.length → σ[i]? = some (some (.ref a))) ∧ u x = some bs ∧
  ∀ r' H' vs, Step r H r' H' → Rel S r' h H' → Ras S r' H' bs vs → Q vs H'
def caught (c : Ck) (n : Option (Str × Nat)) (y : Str) : Bool := match n with
  | some (z, i) => z == y && decide (c.N[i]? = some y)
  | none => false
mutual
def ckU (c : Ck) (sc : Scope) (n : Option (Str × Nat)) : Su → Expr → Bool
  | .lit a, .Constant k _ _ => litEq a k
  | .fld f, .Attribute (.Name y _) g _ => caught c n y && visB sc y && dbgB y && f == g
  | .tup ss, .Tuple xs _ _ => ckUs c sc n ss xs && Nat.ble ss.length 1000
  | .ite Y a b, .IfExp (.Call (.Name x _) [.Name y _, .Name z _] [] _) u v _ => caught c n y && visB sc y && dbgB y && x == ("isinstance" : Str) && glB sc x && z == Y && glB sc z && dbgB z && c.exn.contains z && ckU c sc n a u && ckU c sc n b v
  | _, _ => false
def ckUs (c : Ck) (sc : Scope) (n : Option (Str × Nat)) : List Su → List Expr → Bool
  | [], [] => true
  | s :: ss, x :: xs => !isStar x && ckU c sc n s x && ckUs c sc n ss xs
  | _, _ => false
end
section
variable {X : Cx} {c : Ck} {sc : Scope} {own : Str → Bool} {k : Nat} {C : Nat → List A → Ho → R A} {W : WX}
theorem call_isG {a : Addr} {oe : Obj} {cls : Value} {d : Option Addr} (hp : (a, oe) ∈ X.pn) (hz : Zc cls d oe) (hf : ∃ vs, oe.data = .fields vs) {cv : V} {cu : Value} (cr : ∀ u, RelV cv u → u = cu) :
    CallR X (.builtin "isinstance") (fun xs H Q => ∃ (Ca dd : Addr) (fs : List (Str × V)) (b : Bool), xs = [.ref a, cv] ∧ cls = .ref Ca ∧ d = some dd ∧ H dd = some (.xd fs) ∧ ExcC X.K Ca ∧ PySem.W.kitOne X.K (.ref Ca) cu = some b ∧ Q (.bl b) H) := by
  intro pins s σ H xs us Q I rr w
  obtain ⟨Ca, dd, fs, b, rfl, rfl, rfl, ed, EC, ek, q⟩ := w
  cases rr with
  | cons r1 rr =>
    cases rr with
    | cons r2 rr =>
      cases rr
      cases r1
      cases cr _ r2
      obtain ⟨ga, _⟩ := I.pin (a, oe) (List.mem_append.mpr (.inl hp))
      obtain ⟨vs, hv⟩ := hf
      obtain ⟨mA, hns, _⟩ := (show ObjOk X.prog X.w H s.heap dd (.xd fs) from I.hok dd _ ed)
      obtain ⟨od, ho, _⟩ := lookIn_ns hns
      have J : PySem.W.InstAt s.heap a oe Ca (some od) := ⟨ga, hz.1, by unfold PySem.W.notCls; rw [hv] <;> rfl, by rw [hz.2]; exact ho⟩
      obtain ⟨cd, hcl, _⟩ := PySem.W.any_some EC.hd
      exact PySem.W.kia_one (PySem.W.kitx_exc (by rw [hcl]; rfl) EC.hg EC.hk EC.hs EC.ha EC.hn EC.ht EC.hm) I.kIn J ek (fun z => nomatch z) fun tk => ⟨.bl b, H, I.kept (t' := tk) fun _ _ z => z, rfl, q⟩
theorem call_isO {a : Addr} {oe : Obj} {cls : Value} {d : Option Addr} {pn : List (Addr × Obj)} (hz : Zc cls d oe) (hf : ∃ vs, oe.data = .fields vs) :
    CallR (X.suite a ((a, oe) :: pn)) (.builtin "isinstance") (fun xs H Q => ∃ (Ca Cy dd : Addr) (fs : List (Str × V)) (b : Bool), xs = [.ref a, .ref Cy] ∧ cls = .ref Ca ∧ d = some dd ∧ H dd = some (.xd fs) ∧ ExcC X.K Ca ∧ PySem.W.kitOne X.K (.ref Ca) (.ref Cy) = some b ∧ Q (.bl b) H) := by
  intro pins s σ H xs us Q I rr w
  obtain ⟨Ca, Cy, dd, fs, b, e1, e2, e3, ed, EC, ek, q⟩ := w
  exact call_isG (X := X.suite a ((a, oe) :: pn)) List.mem_cons_self hz hf (cv := .ref Cy) (cu := .ref Cy) (fun u z => z) pins s σ H xs us Q I rr ⟨Ca, dd, fs, b, e1, e2, e3, ed, EC, ek, q⟩
theorem u_lit {a : Addr} {cls : Value} {d : Option Addr} {n : Option (Str × Nat)} {b : A} {ct : Const} {j : Nat} {p : Pos} {G : Pg} (h : litEq b ct = true) : PE X (.Constant ct j p) (rdU (sOf X G) n a cls d fun _ => some b) := by
  refine (e_lit (C := fun _ _ _ => .err) (W := NoX) (G := G) h).imp fun σ H Q ⟨r, h, x, b', R, rx, sl, e, q⟩ => ⟨r, σ.map fun _ => none, h, ⟨R, ⟨List.length_map .., fun i y e => ?_⟩⟩, ?_⟩
  · rw [List.getElem?_map] at e
    cases z : σ[i]? with
    | none =>
      rw [z] at e
      cases e
    | some o =>
      rw [z] at e
      cases e
  · cases e
    exact fun r' H' v st R' t => q r' H' v st R' t
theorem ec_of (ws : We X.prog X.K X.mg c) {r : List Addr} {H : Hp} {x : Xv} {cls : Value} {d : Option Addr} (q : Rx (sOf X c.G) r H x cls d) : ∃ (Ca dd : Addr) (fs : List (Str × V)), cls = .ref Ca ∧ d = some dd ∧ H dd = some (.xd fs) ∧ fs.map (·.1) = x.fs.map (·.1) ∧ Ras (sOf X c.G) r H (x.fs.map (·.2)) (fs.map (·.2)) ∧
    XfC X.K Ca ∧ ExcC X.K Ca ∧ (∀ f, f ∈ x.fs.map (·.1) → PySem.W.findIn X.K (.ref Ca) f = some none) ∧ ∀ Y CY, c.exn.contains Y = true → X.mg Y = some (.ref CY) → PySem.W.exmOne X.K (.ref Ca) (.ref CY) = some (c.G.takes x.cls Y) ∧ PySem.W.kitOne X.K (.ref Ca) (.ref CY) = some (c.G.takes x.cls Y) := by
  obtain ⟨e, Ca, dd, fs, e1, e2, e3, e4, e5, e6, e7, e8⟩ := q
  obtain ⟨Cb, g2, g3, g4, g5, g6⟩ := ws.exc x.cls e e1
  have z : some (Value.ref Ca) = some (.ref Cb) := e2.symm.trans g2
  cases z
  exact ⟨Ca, dd, fs, e3, e4, e5, e6, e7, g4, g5, fun f hf => g3.nof (e8 ▸ hf), g6⟩
theorem suite_vis (t : Cxt X c sc own k C) {a : Addr} {pn : List (Addr × Obj)} {y : Str} (h : visB sc y = true) : Vis (X.suite a pn).env.scope y := by
  have z := vis_of t h
  exact z
theorem suite_gl (t : Cxt X c sc own k C) {a : Addr} {pn : List (Addr × Obj)} {y : Str} (h : glB sc y = true) : Gl (X.suite a pn) y := by
  have z := gl_of t h
  exact z
/-- the caught error, by its name -/
theorem u_var (t : Cxt X c sc own k C) {a : Addr} {pn : List (Addr × Obj)} {n : Option (Str × Nat)} {y : Str} {p : Pos} (h1 : caught c n y = true) (h2 : visB sc y = true) (h3 : dbgB y = true) : ∃ i, n = some (y, i) ∧ PE (X.suite a pn) (.Name y p) (fun σ H Q => (i < σ.length → σ[i]? = some (some (.ref a))) ∧ Q (.ref a) H) := by
  cases n with
  | none => cases h1
  | some q =>
    obtain ⟨z, i⟩ := q
    obtain ⟨m1, m2⟩ := Bool.and_eq_true_iff.mp h1
    have e : z = y := beq_iff_eq.mp m1
    subst e
    obtain ⟨d1, d2, _⟩ := dbg_of h3
    have hN : X.N[i]? = some z := by
      rw [t.N]
      exact of_decide_eq_true m2
    refine ⟨i, rfl, ⟨fun pins s σ H Q I ⟨e, q⟩ => ?_⟩⟩
    have hl : i < σ.length := by
      rw [I.len]
      exact (List.getElem?_eq_some_iff.mp hN).1
    exact (pe_var (X := X.suite a pn) (i := i) hN (suite_vis t h2) d1 d2).run pins s σ H Q I ⟨_, e hl, q⟩
theorem PE.with {X : Cx} {x : Expr} {t : TE} (h : ∀ σ H Q, t σ H Q → ∃ t', PE X x t' ∧ t' σ H Q) : PE X x t := ⟨fun p s σ H Q I w => by
  obtain ⟨t', h1, h2⟩ := h σ H Q w
  exact h1.run p s σ H Q I h2⟩
theorem u_fld (t : Cxt X c sc own k C) (ws : We X.prog X.K X.mg c) {a : Addr} {oe : Obj} {cls : Value} {d : Option Addr} {pn : List (Addr × Obj)} (hz : Zc cls d oe) (hf : ∃ vs, oe.data = .fields vs) {n : Option (Str × Nat)} {y f : Str} {p q : Pos} (h1 : caught c n y = true) (h2 : visB sc y = true) (h3 : dbgB y = true) : PE (X.suite a ((a, oe) :: pn)) (.Attribute (.Name y p) f q) (rdU (sOf X c.G) n a cls d fun x => look f x.fs) := by
  obtain ⟨i, en, pv⟩ := u_var t (a := a) (pn := (a, oe) :: pn) (p := p) h1 h2 h3
  refine PE.with fun σ H Q ⟨r, h, x, b, R, rx, sl, e, q1⟩ => ?_
  obtain ⟨Ca, dd, fs, rfl, rfl, e5, e6, e7, xf, _, nof, _⟩ := ec_of ws rx
  obtain ⟨v, l1, t1⟩ := look_at e6 e7 e
  refine ⟨_, pe_xf xf (nof f (look_mem1 e)) hz hf pv, ?_⟩
  exact ⟨sl y i en, rfl, rfl, dd, fs, v, rfl, e5, l1, q1 r H v .refl R t1⟩
/-- isinstance(e, Y) as a test -/
theorem u_isi (t : Cxt X c sc own k C) (ws : We X.prog X.K X.mg c) {a : Addr} {oe : Obj} {cls : Value} {d : Option Addr} {pn : List (Addr × Obj)} (hz : Zc cls d oe) (hf : ∃ vs, oe.data = .fields vs) {n : Option (Str × Nat)} {y Y : Str} {p p1 p2 q : Pos} (h1 : caught c n y = true) (h2 : visB sc y = true) (h3 : dbgB y = true) (g0 : glB sc ("isinstance" : Str) = true) (g1 : glB sc Y = true) (g2 : dbgB Y = true) (g3 : c.exn.contains Y = true) :
    PT (X.suite a ((a, oe) :: pn)) (.Call (.Name ("isinstance" : Str) p) [.Name y p1, .Name Y p2] [] q) (fun σ H Q => ∃ r x, Rx (sOf X c.G) r H x cls d ∧ (∀ y i, n = some (y, i) → i < σ.length → σ[i]? = some (some (.ref a))) ∧ Q (c.G.takes x.cls Y) H) := by
  obtain ⟨i, en, pv⟩ := u_var t (a := a) (pn := (a, oe) :: pn) (p := p1) h1 h2 h3
  obtain ⟨CY, eY⟩ := ws.nam Y g3
  obtain ⟨d1, _, _⟩ := dbg_of g2
  have pY : PE (X.suite a ((a, oe) :: pn)) (.Name Y p2) (tC (.ref CY)) := pe_glob (X := X.suite a ((a, oe) :: pn)) (suite_gl t g1) eY rfl d1
  have pc := pe_callB (X := X.suite a ((a, oe) :: pn)) (p := p) (pos := q) (call_isO hz hf) (suite_gl t g0) (gl_free t (by decide)) (Bl.boot (.isi "int")) (pa_cons pv (pa_cons pY pa_nil)) (by decide) (by decide) rfl rfl
  refine (pt_truth pc fun w => rfl).imp fun σ H Q ⟨r, x, rx, sl, q1⟩ => ?_
  obtain ⟨Ca, dd, fs, rfl, rfl, e5, e6, e7, xf, EC, nof, tk⟩ := ec_of ws rx
  exact ⟨sl y i en, Ca, CY, dd, fs, _, rfl, rfl, rfl, e5, EC, (tk Y CY g3 eY).2, _, rfl, q1⟩
/-- isinstance(e, ValueError) as a test -/
theorem u_isV (t : Cxt X c sc own k C) (ws : We X.prog X.K X.mg c) {a : Addr} {oe : Obj} {cls : Value} {d : Option Addr} {pn : List (Addr × Obj)} (hz : Zc cls d oe) (hf : ∃ vs, oe.data = .fields vs) {n : Option (Str × Nat)} {y : Str} {p p1 p2 q : Pos} (h1 : caught c n y = true) (h2 : visB sc y = true) (h3 : dbgB y = true) (g0 : glB sc ("isinstance" : Str) = true) (g1 : glB sc ("ValueError" : Str) = true) :
    PT (X.suite a ((a, oe) :: pn)) (.Call (.Name ("isinstance" : Str) p) [.Name y p1, .Name ("ValueError" : Str) p2] [] q) (fun σ H Q => ∃ r x, Rx (sOf X c.G) r H x cls d ∧ (∀ y i, n = some (y, i) → i < σ.length → σ[i]? = some (some (.ref a))) ∧ Q true H) := by
  obtain ⟨i, en, pv⟩ := u_var t (a := a) (pn := (a, oe) :: pn) (p := p1) h1 h2 h3
  have pY : PE (X.suite a ((a, oe) :: pn)) (.Name ("ValueError" : Str) p2) (tC (.ty "ValueError")) := pe_bltn (X := X.suite a ((a, oe) :: pn)) (suite_gl t g1) ws.ven (by decide +kernel) rfl
  have pc := pe_callB (X := X.suite a ((a, oe) :: pn)) (p := p) (pos := q) (call_isG (X := X.suite a ((a, oe) :: pn)) List.mem_cons_self hz hf (cv := .ty "ValueError") (cu := .type "ValueError") (fun u z => z)) (suite_gl t g0) (gl_free t (by decide)) (Bl.boot (.isi "int")) (pa_cons pv (pa_cons pY pa_nil)) (by decide) (by decide) rfl rfl
  refine (pt_truth pc fun w => rfl).imp fun σ H Q ⟨r, x, rx, sl, q1⟩ => ?_
  have rx0 := rx
  obtain ⟨e, C0, _, _, z1, z2, z3, _, _, _, _, _⟩ := rx0
  obtain ⟨Ca, dd, fs, rfl, rfl, e5, e6, e7, xf, EC, nof, tk⟩ := ec_of ws rx
  have kk := ws.vek _ _ z1 C0 z2
  cases z3
  exact ⟨sl y i en, C0, dd, fs, _, rfl, rfl, rfl, e5, EC, kk, _, rfl, q1⟩
end
end Ev

/-! text Fw19 -/
set_option Elab.async false
set_option linter.all false
set_option maxRecDepth 100000
set_option maxHeartbeats 4000000
/-! Ev: a def's lines do what the term's computing says. -/
namespace Ev
open PySem PySem.Spec PyProof.Rows L2
theorem ckUs_ns {c : Ck} {sc : Scope} {n : Option (Str × Nat)} : ∀ {ss : List Su} {xs : List Expr}, ckUs c sc n ss xs = true → noStars xs = true ∧ ss.length = xs.length
  | [], [], _ => ⟨rfl, rfl⟩
  | s :: ss, x :: xs, h => by
    obtain ⟨h1, h2⟩ := and2 (show (!isStar x && ckU c sc n s x && ckUs c sc n ss xs) = true from h)
    obtain ⟨h1, _⟩ := and2 h1
    obtain ⟨i1, i2⟩ := ckUs_ns h2
    exact ⟨Bool.and_eq_true_iff.mpr ⟨h1, i1⟩, by rw [List.length_cons, List.length_cons, i2]⟩
  | [], _ :: _, h => nomatch (show false = true from h)
  | _ :: _, [], h => nomatch (show false = true from h)
theorem evUs_len {P : Pg} {x : Xv} : ∀ {ss : List Su} {bs : List A}, evUs P x ss = some bs → bs.length = ss.length
  | [], bs, e => by
    unfold evUs at e
    cases e
    rfl
  | s :: ss, bs, e => by
    unfold evUs at e
    split at e
    · cases z : evUs P x ss with
      | none =>
        rw [z] at e
        cases e
      | some cs =>
        rw [z] at e
        cases e
        rw [List.length_cons, List.length_cons, evUs_len z]
    · cases e
section
variable {X : Cx} {c : Ck} {sc : Scope} {own : Str → Bool} {k : Nat} {C : Nat → List A → Ho → R A}
mutual
theorem okU (t : Cxt X c sc own k C) (ws : We X.prog X.K X.mg c) {n : Option (Str × Nat)} {a : Addr} {oe : Obj} {cls : Value} {d : Option Addr} {pn : List (Addr × Obj)} (hz : Zc cls d oe) (hf : ∃ vs, oe.data = .fields vs) :
    ∀ (s : Su) (x : Expr), ckU c sc n s x = true → PE (X.suite a ((a, oe) :: pn)) x (rdU (sOf X c.G) n a cls d fun xv => evU c.G xv s)
  | .lit b, x, h => by
    cases x with
    | Constant y j p => exact u_lit (X := X.suite a ((a, oe) :: pn)) (show litEq b y = true from h)
    | _ => exact nomatch (show false = true from h)
  | .fld f, x, h => by
    cases x with
    | Attribute y g p =>
      cases y with
      | Name y p2 =>
        obtain ⟨h1, h4⟩ := and2 (show (caught c n y && visB sc y && dbgB y && f == g) = true from h)
        obtain ⟨h1, h3⟩ := and2 h1
        obtain ⟨h1, h2⟩ := and2 h1
        have e : f = g := beq_iff_eq.mp h4
        subst e
        exact u_fld t ws hz hf h1 h2 h3
      | _ => exact nomatch (show false = true from h)
    | _ => exact nomatch (show false = true from h)
  | .tup ss, x, h => by
    cases x with
    | Tuple xs j p =>
      obtain ⟨h1, h2⟩ := and2 (show (ckUs c sc n ss xs && Nat.ble ss.length 1000) = true from h)
      refine (pe_tup (okUs t ws hz hf ss xs h1)).imp fun σ H Q ⟨r, h, xv, b, R, rx, sl, e, q⟩ => ?_
      have e : (evUs c.G xv ss).map A.tup = some b := e
      cases z : evUs c.G xv ss with
      | none =>
        rw [z] at e
        cases e
      | some bs =>
        rw [z] at e
        cases e
        refine ⟨r, h, xv, bs, R, rx, sl, z, fun r' H' vs st R' ts => ⟨small_line ?_, fun p hp => ?_⟩⟩
        · rw [← ts.length, evUs_len z]
          exact ble_le h2
        · obtain ⟨R2, st2⟩ := Step.other (u := HO.tup vs) R' hp
          exact q _ _ _ (st.trans st2) R2 (.tup (SqT.of upd_same) (ts.step R' st2))
    | _ => exact nomatch (show false = true from h)
  | .ite Y u v, x, h => by
    cases x with
    | IfExp tx ux vx p =>
      cases tx with
      | Call fe args kws p2 =>
        cases fe with
        | Name x p3 =>
          match args with
          | [] => exact nomatch (show false = true from h)
          | [w] =>
            cases w <;> exact nomatch (show false = true from h)
          | w :: w2 :: rest =>
            cases w with
            | Name y p4 =>
              cases w2 with
              | Name z p5 =>
                cases rest with
                | cons => exact nomatch (show false = true from h)
                | nil =>
                cases kws with
                | cons => exact nomatch (show false = true from h)
                | nil =>
                  obtain ⟨i10, h11⟩ := and2 (show (caught c n y && visB sc y && dbgB y && x == ("isinstance" : Str) && glB sc x && z == Y && glB sc z && dbgB z && c.exn.contains z && ckU c sc n u ux && ckU c sc n v vx) = true from h)
                  obtain ⟨i9, h10⟩ := and2 i10
                  obtain ⟨i8, h9⟩ := and2 i9
                  obtain ⟨i7, h8⟩ := and2 i8
                  obtain ⟨i6, h7⟩ := and2 i7
                  obtain ⟨i5, h6⟩ := and2 i6
                  obtain ⟨i4, h5⟩ := and2 i5
                  obtain ⟨i3, h4⟩ := and2 i4
                  obtain ⟨i2, h3⟩ := and2 i3
                  obtain ⟨h1, h2⟩ := and2 i2
                  have e4 := beq_iff_eq.mp h4
                  have e6 := beq_iff_eq.mp h6
                  subst e4 e6
                  refine (pe_ifExp (u_isi t ws hz hf h1 h2 h3 h5 h7 h8 h9) (okU t ws hz hf u ux h10) (okU t ws hz hf v vx h11)).imp fun σ H Q ⟨r, h, xv, b, R, rx, sl, e, q⟩ => ⟨r, xv, rx, sl, ?_⟩
                  have e : (if c.G.takes xv.cls z then evU c.G xv u else evU c.G xv v) = some b := e
                  cases tk : c.G.takes xv.cls z with
                  | true =>
                    rw [tk] at e
                    show (if (true : Bool) = true then rdU (sOf X c.G) n a cls d (fun xv => evU c.G xv u) σ H Q else rdU (sOf X c.G) n a cls d (fun xv => evU c.G xv v) σ H Q)
                    rw [if_pos rfl]
                    exact ⟨r, h, xv, b, R, rx, sl, e, q⟩
                  | false =>
                    rw [tk] at e
                    show (if (false : Bool) = true then rdU (sOf X c.G) n a cls d (fun xv => evU c.G xv u) σ H Q else rdU (sOf X c.G) n a cls d (fun xv => evU c.G xv v) σ H Q)
                    rw [if_neg Bool.false_ne_true]
                    exact ⟨r, h, xv, b, R, rx, sl, e, q⟩
              | _ => exact nomatch (show false = true from h)
            | _ => exact nomatch (show false = true from h)
        | _ => exact nomatch (show false = true from h)
      | _ => exact nomatch (show false = true from h)
    | _ => exact nomatch (show false = true from h)
  | .isl _, x, h => nomatch (show false = true from h)
  | .nol, x, h => nomatch (show false = true from h)
  | .ive _ _, x, h => nomatch (show false = true from h)
theorem okUs (t : Cxt X c sc own k C) (ws : We X.prog X.K X.mg c) {n : Option (Str × Nat)} {a : Addr} {oe : Obj} {cls : Value} {d : Option Addr} {pn : List (Addr × Obj)} (hz : Zc cls d oe) (hf : ∃ vs, oe.data = .fields vs) :
    ∀ (ss : List Su) (xs : List Expr), ckUs c sc n ss xs = true → PA (X.suite a ((a, oe) :: pn)) xs (rdUs (sOf X c.G) n a cls d fun xv => evUs c.G xv ss)
  | [], [], h => pa_nil.imp fun σ H Q ⟨r, h, xv, bs, R, rx, sl, e, q⟩ => by
    cases e
    exact q r H [] .refl R .nil
  | s :: ss, x :: xs, h => by
    obtain ⟨h1, h3⟩ := and2 (show (!isStar x && ckU c sc n s x && ckUs c sc n ss xs) = true from h)
    obtain ⟨h1, h2⟩ := and2 h1
    refine (pa_cons (okU t ws hz hf s x h2) (okUs t ws hz hf ss xs h3) (se_cons (not1 h1))).imp fun σ H Q ⟨r, h, xv, bs, R, rx, sl, e, q⟩ => ?_
    have e : (match evU c.G xv s with
      | some a => (evUs c.G xv ss).map (a :: ·)
      | none => none) = some bs := e
    cases z1 : evU c.G xv s with
    | none =>
      rw [z1] at e
      cases e
    | some b =>
      rw [z1] at e
      cases z2 : evUs c.G xv ss with
      | none =>
        rw [z2] at e
        cases e
      | some cs =>
        rw [z2] at e
        cases e
        exact ⟨r, h, xv, b, R, rx, sl, z1, fun r1 H1 v st1 R1 t1 => ⟨r1, h, xv, cs, R1, rx.step R st1, sl, z2, fun r2 H2 vs st2 R2 t2 => q r2 H2 (v :: vs) (st1.trans st2) R2 (.cons (t1.step R1 st2) t2)⟩⟩
  | [], _ :: _, h => nomatch (show false = true from h)
  | _ :: _, [], h => nomatch (show false = true from h)
end
end
/-! ### raise -/
section
variable {X : Cx} {c : Ck} {sc : Scope} {own : Str → Bool} {k : Nat} {C : Nat → List A → Ho → R A} {W : WX}
theorem s_rais (t : Cxt X c sc own k C) (ws : We X.prog X.K X.mg c) (tk : Takes X W) {ci : Nat} {e : Ec} {x : Str} {ys : List Expr} {p q p2 : Pos} {F : Sl → Ho → R (List A)} (he : c.G.ecs[ci]? = some e) (hx : e.name = x) (h1 : glB sc x = true) (h2 : dbgB x = true) (hl0 : e.fs.length = ys.length) (ns : noStars ys = true)
    (ha : PA X ys (rdA (sOf X c.G) W F)) : PS X (.Raise (some (.Call (.Name x p) ys [] q)) none p2) (rdS (sOf X c.G) W fun s h => (F s h).then s fun xs h => match c.G.ecs[ci]? with
    | some e => if xs.length == e.fs.length then .ex ⟨ci, e.fs.zip xs⟩ s h else .err
    | none => .err) := by
  obtain ⟨Ca, g2, g3, g4, g5, g6⟩ := ws.exc ci e he
  subst hx
  rcases g3 with ⟨D, fI, cc, cda, fd, f, sf, rs, g1, g3⟩ | ⟨D, fI, cc, cda, fd, sf, f, g, g1, g3⟩
  · match ys, hl0, ns, ha with
    | [], hl0, _, _ =>
      rw [g1] at hl0
      cases hl0
    | _ :: _ :: _, hl0, _, _ =>
      rw [g1] at hl0
      simp at hl0
    | [y], _, ns, ha =>
      refine (ps_raise t.calm tk (pmk_xc t g3 g2 ws.sup h1 h2 (not1 (and2 (show (!isStar y && noStars []) = true from ns)).1) ha)).imp fun D' σ H ⟨r, s, h, a, q⟩ => ⟨r, s, h, a, (PoS.part a q).mono fun vs H1 ⟨r1, as, h1, A1, st, ts, q1⟩ => ?_⟩
      rw [he] at q1
      have q1 : PoS (sOf X c.G) r1 H1 (if (as.length == e.fs.length) = true then .ex ⟨ci, e.fs.zip as⟩ s h1 else .err) D' W := q1
      split at q1
      · rename_i hl
        rw [g1] at hl q1
        match as, vs, ts with
        | [b], [v], .cons tb .nil =>
          refine ⟨v, rfl, fun dx hdx => ?_⟩
          obtain ⟨R2, st2⟩ := Step.other (u := HO.xd [(f, v)]) A1.rel hdx
          exact q1 r1 σ _ (.ref Ca) (some dx) st2 (A1.step st2 R2) ⟨e, Ca, dx, [(f, v)], he, g2, rfl, rfl, upd_same, rfl, .cons (tb.step A1.rel st2) .nil, g1.symm⟩
        | [], _, _ => cases hl
        | _ :: _ :: _, _, _ => simp at hl
      · exact False.elim q1
  · match ys, hl0, ns, ha with
    | [], hl0, _, _ =>
      rw [g1] at hl0
      cases hl0
    | [_], hl0, _, _ =>
      rw [g1] at hl0
      simp at hl0
    | _ :: _ :: _ :: _, hl0, _, _ =>
      rw [g1] at hl0
      simp at hl0
    | [y, y2], _, ns, ha =>
      obtain ⟨n1, n2⟩ := and2 (show (!isStar y && noStars [y2]) = true from ns)
      refine (ps_raise t.calm tk (pmk_xc2 t g3 g2 ws.sup h1 h2 (not1 n1) (not1 (and2 (show (!isStar y2 && noStars []) = true from n2)).1) ha)).imp fun D' σ H ⟨r, s, h, a, q⟩ => ⟨r, s, h, a, (PoS.part a q).mono fun vs H1 ⟨r1, as, h1, A1, st, ts, q1⟩ => ?_⟩
      rw [he] at q1
      have q1 : PoS (sOf X c.G) r1 H1 (if (as.length == e.fs.length) = true then .ex ⟨ci, e.fs.zip as⟩ s h1 else .err) D' W := q1
      split at q1
      · rename_i hl
        rw [g1] at hl q1
        match as, vs, ts with
        | [b, b2], [v, v2], .cons tb (.cons tb2 .nil) =>
          refine ⟨v, v2, rfl, fun dx hdx => ?_⟩
          obtain ⟨R2, st2⟩ := Step.other (u := HO.xd [(f, v), (g, v2)]) A1.rel hdx
          exact q1 r1 σ _ (.ref Ca) (some dx) st2 (A1.step st2 R2) ⟨e, Ca, dx, [(f, v), (g, v2)], he, g2, rfl, rfl, upd_same, rfl, .cons (tb.step A1.rel st2) (.cons (tb2.step A1.rel st2) .nil), g1.symm⟩
        | [], _, _ => cases hl
        | [_], _, _ => simp at hl
        | _ :: _ :: _ :: _, _, _ => simp at hl
      · exact False.elim q1
/-! ### except -/
def ckN (c : Ck) (sc : Scope) (su : Su) (y : Expr) : Option Nat → Option Str → Bool
  | none, none => ckU c sc none su y
  | some i, some n => decide (c.N[i]? = some n) && isLocB sc n && ckU c sc (some (n, i)) su y
  | _, _ => false
def ckH (c : Ck) (sc : Scope) (d : Hd) : ExceptHandler → Bool
  | .ExceptHandler (some (.Name x _)) nm [.Return (some y) _] _ => d.cls == x && glB sc x && dbgB x && c.exn.contains x && ckN c sc d.su y d.as? nm
  | _ => false
theorem ckH_inv {c : Ck} {sc : Scope} {d : Hd} {x : ExceptHandler} (h : ckH c sc d x = true) : ∃ z p1 nm y p2 p3, x = .ExceptHandler (some (.Name z p1)) nm [.Return (some y) p2] p3 ∧ (d.cls == z && glB sc z && dbgB z && c.exn.contains z && ckN c sc d.su y d.as? nm) = true := by
  unfold ckH at h
  split at h
  · exact ⟨_, _, _, _, _, _, rfl, h⟩
  · cases h
def ckHs (c : Ck) (sc : Scope) : List Hd → List ExceptHandler → Bool
  | [], [] => true
  | d :: ds, x :: xs => ckH c sc d x && ckHs c sc ds xs
  | _, _ => false
end
end Ev

/-! text Fw20 -/
set_option Elab.async false
set_option linter.all false
set_option maxRecDepth 100000
set_option maxHeartbeats 4000000
/-! Ev: a def's lines do what the term's computing says. -/
namespace Ev
open PySem PySem.Spec PyProof.Rows L2
/-- a def's context -/
structure CxS (X : Cx) (c : Ck) (sc : Scope) (k : Nat) (C : Nat → List A → Ho → R A) : Prop where
  t : Cxt X c sc (fun _ => true) k C
  ws : We X.prog X.K X.mg c
  kd : sc.kind = .function
  st : X.stack = X.env :: X.outer
  fr : X.env.frame = some X.env.locals
section
variable {X : Cx} {c : Ck} {sc : Scope} {k : Nat} {C : Nat → List A → Ho → R A}
theorem CxS.tr (q : CxS X c sc k C) (pn : List (Addr × Obj)) (xe : Value → Shared → Prop) : CxS (X.tr pn xe) c sc k C :=
  ⟨⟨q.t.wd, q.t.N, q.t.nd, q.t.sc, q.t.own, q.t.calm, q.t.gd, q.t.room⟩, q.ws, q.kd, q.st, q.fr⟩
theorem isLoc_is (q : CxS X c sc k C) {n : Str} (h : isLocB sc n = true) : X.env.kindOf n = some .local := by
  have e : sc.names.lookup n = some .local := by
    unfold isLocB at h
    split at h
    · assumption
    · cases h
  rw [← q.t.sc] at e
  exact e
def HdOk (X : Cx) (c : Ck) (ds : List Hd) (l : List (Value × Option Nat × SuT)) : Prop := ∀ (D : Ends) (Wo : WX) (r : List Addr) (H : Hp) (σ : L2.St) (s : Sl) (h : Ho) (x : Xv) (cls : Value) (d : Option Addr),
  PoS (sOf X c.G) r H (handle c.G x s h ds) D Wo → At (sOf X c.G) r s h σ H → Rx (sOf X c.G) r H x cls d → wHds X.K Wo D l cls d σ H
/-- a suite's reading where a list may be made -/
def rdH (S : Ws) (j : Option (Str × Nat)) (a : Addr) (cls : Value) (d : Option Addr) (u : Xv → Ho → Option (A × Ho)) : TE := fun σ H Q => ∃ r h x b, Rel S r h H ∧ Rx S r H x cls d ∧ (∀ y i, j = some (y, i) → i < σ.length → σ[i]? = some (some (.ref a))) ∧ u x h = some b ∧
  ∀ r' H' v, Step r H r' H' → Rel S r' b.2 H' → Ra S r' H' b.1 v → Q v H'
theorem evH_plain {P : Pg} {x : Xv} {h : Ho} {c : Ck} {sc : Scope} {n : Option (Str × Nat)} {s : Su} {y : Expr} (hc : ckU c sc n s y = true) : evH P x h s = (evU P x s).map fun a => (a, h) := by
  cases s with
  | isl => exact nomatch (show false = true from hc)
  | nol => exact nomatch (show false = true from hc)
  | ive => exact nomatch (show false = true from hc)
  | _ => rfl
theorem rdH_U {S : Ws} {j : Option (Str × Nat)} {a : Addr} {cls : Value} {d : Option Addr} {P : Pg} {c : Ck} {sc : Scope} {n : Option (Str × Nat)} {s : Su} {y : Expr} (hc : ckU c sc n s y = true) (σ : L2.St) (H : Hp) (Q : VK) (w : rdH S j a cls d (fun x h => evH P x h s) σ H Q) : rdU S j a cls d (fun x => evU P x s) σ H Q := by
  obtain ⟨r, h, x, b, R, rx, sl, e, q⟩ := w
  have e : evH P x h s = some b := e
  rw [evH_plain hc] at e
  cases z : evU P x s with
  | none =>
    rw [z] at e
    cases e
  | some v =>
    rw [z] at e
    cases e
    exact ⟨r, h, x, v, R, rx, sl, z, q⟩
theorem hd_ok (q : CxS X c sc k C) {cl : Str} {CY : Addr} {su : Su} {i : Option Nat} {n : Option (Str × Nat)} {ds : List Hd} {l : List (Value × Option Nat × SuT)} (hY : c.exn.contains cl = true) (eY : X.mg cl = some (.ref CY)) (hn : ∀ z j, n = some (z, j) → i = some j)
    (hl : HdOk X c ds l) : HdOk X c (⟨cl, i, su⟩ :: ds) ((.ref CY, i, fun a cls d => tRet (rdH (sOf X c.G) n a cls d fun xv h => evH c.G xv h su)) :: l) := by
  intro D Wo r H σ s h x cls d p A0 rx
  obtain ⟨Ca, dd, fs, rfl, rfl, _, _, _, _, _, _, tk⟩ := ec_of q.ws rx
  unfold handle at p
  refine ⟨c.G.takes x.cls cl, (tk cl CY hY eY).1, fun e a na => ?_, fun e => ?_⟩
  · rw [e, if_pos rfl] at p
    dsimp only at p
    cases z : evH c.G x h su with
    | none =>
      rw [z] at p
      exact False.elim p
    | some b =>
      rw [z] at p
      have fin : ∀ σ2 : L2.St, (∀ y j, n = some (y, j) → j < σ2.length → σ2[j]? = some (some (.ref a))) → ∀ Q : VK, (∀ v H', D.rt v H' → Q v H') → rdH (sOf X c.G) n a (.ref Ca) (some dd) (fun xv h => evH c.G xv h su) σ2 H Q := fun σ2 hs Q hQ =>
        ⟨r, h, x, b, A0.rel, rx, hs, z, fun r' H' v st R' t => hQ v H' (p r' H' v st R' t)⟩
      cases i with
      | none =>
        refine fin σ (fun z j e => ?_) D.rt fun _ _ q => q
        cases hn z j e
      | some i0 =>
        refine fin (σ.set i0 (some (.ref a))) (fun z j e hj => ?_) D.rt fun _ _ q => q
        cases hn z j e
        exact List.getElem?_set_self (by rw [List.length_set] at hj; exact hj)
  · rw [e, if_neg Bool.false_ne_true] at p
    exact hl D Wo r H σ s h x _ _ p A0 rx
theorem clauses_of (q : CxS X c sc k C) : ∀ (ds : List Hd) (xs : List ExceptHandler), ckHs c sc ds xs = true → ∃ l, Clauses X xs l ∧ HdOk X c ds l
  | [], [], _ => ⟨[], .nil, fun D Wo r H σ s h x cls d p A0 rx => p r σ H cls d .refl A0 rx⟩
  | ⟨cl, as_, su⟩ :: ds, x :: xs, hh => by
    obtain ⟨h1, h2⟩ := and2 (show (ckH c sc ⟨cl, as_, su⟩ x && ckHs c sc ds xs) = true from hh)
    obtain ⟨l, L1, L2'⟩ := clauses_of q ds xs h2
    obtain ⟨z, p1, nm, y, p2, p3, rfl, h1⟩ := ckH_inv h1
    obtain ⟨h1, h6⟩ := and2 h1
    obtain ⟨h1, h5⟩ := and2 h1
    obtain ⟨h1, h4⟩ := and2 h1
    obtain ⟨h1, h3⟩ := and2 h1
    have e1 : cl = z := beq_iff_eq.mp h1
    subst e1
    obtain ⟨CY, eY⟩ := q.ws.nam cl h5
    obtain ⟨d1, _, _⟩ := dbg_of h4
    have nm0 : Names X cl (.ref CY) := ⟨gl_of q.t h3, d1, .inl eY⟩
    cases as_ with
    | none =>
      cases nm with
      | some _ => exact nomatch (show false = true from h6)
      | none =>
        have h6 : ckU c sc none su y = true := h6
        exact ⟨_, .plain nm0 (fun a oe cls d pn hz hf => pss_one (ps_ret ((okU q.t q.ws hz hf su y h6).imp (rdH_U h6)))) L1, hd_ok q (n := none) h5 eY (fun z j e => by cases e) L2'⟩
    | some i =>
      cases nm with
      | none => exact nomatch (show false = true from h6)
      | some n =>
        obtain ⟨h6, h9⟩ := and2 (show (decide (c.N[i]? = some n) && isLocB sc n && ckU c sc (some (n, i)) su y) = true from h6)
        obtain ⟨h7, h8⟩ := and2 h6
        exact ⟨_, .named nm0 (by rw [q.t.N]; exact of_decide_eq_true h7) (isLoc_is q h8) (fun a oe cls d pn hz hf => pss_one (ps_ret ((okU q.t q.ws hz hf su y h9).imp (rdH_U h9)))) L1, hd_ok q (n := some (n, i)) h5 eY (fun z j e => by cases e; rfl) L2'⟩
  | [], _ :: _, h => nomatch (show false = true from h)
  | _ :: _, [], h => nomatch (show false = true from h)
end
end Ev

/-! text Fw21 -/
set_option Elab.async false
set_option linter.all false
set_option maxRecDepth 100000
set_option maxHeartbeats 4000000
/-! Ev: the check of a def's lines, and that it is right. -/
namespace Ev
open PySem PySem.Spec PyProof.Rows L2
def ckSet (c : Ck) (sc : Scope) (x : Expr) (y : Str) (q : Pos) : Bool := match x with
  | .ListComp _ _ scope p => isLocB sc y && q.line == p.line && !(scope.names.any fun (n, k) => n == y && (k == .local || k == .cell))
  | x => !isComp x
def ckTup (sc : Scope) (x : Expr) (ts : List Expr) : Bool := match x with
  | .Tuple vs _ _ => decide (swapC sc ts vs = some none)
  | _ => true
def isDoc : Expr → Bool
  | .Constant (.str _) _ _ => true
  | _ => false
abbrev allB : Str → Bool := fun _ => true
def parB (c : Ck) (sc : Scope) : List Nat → List Expr → List Expr → Bool
  | [i, j], [.Name x px, .Name y py], [a, b] => decide (c.N[i]? = some x) && decide (c.N[j]? = some y) && i != j && isLocB sc x && isLocB sc y && decide (swapC sc [.Name x px, .Name y py] [a, b] = some (some [x, y]))
  | [i, j, l], [.Name x px, .Name y py, .Name z pz], [a, b, d] => decide (c.N[i]? = some x) && decide (c.N[j]? = some y) && decide (c.N[l]? = some z) && i != j && i != l && j != l && isLocB sc x && isLocB sc y && isLocB sc z
      && decide (swapC sc [.Name x px, .Name y py, .Name z pz] [a, b, d] = some (some [x, y, z]))
  | _, _, _ => false
def ecB (c : Ck) (ci : Nat) (x : Str) (m : Nat) : Bool := match c.G.ecs[ci]? with
  | some e => e.name == x && e.fs.length == m
  | none => false
theorem ec_is {c : Ck} {ci : Nat} {x : Str} {m : Nat} (h : ecB c ci x m = true) : ∃ e, c.G.ecs[ci]? = some e ∧ e.name = x ∧ e.fs.length = m := by
  unfold ecB at h
  split at h
  · rename_i e he
    obtain ⟨h1, h2⟩ := and2 h
    exact ⟨e, he, beq_iff_eq.mp h1, beq_iff_eq.mp h2⟩
  · cases h
mutual
def ckS (c : Ck) (sc : Scope) : S → Stmt → Bool
  | .exp e, .Expr x _ => !isComp x && ckE c sc e x
  | .asg (.nm i) e, .Assign [.Name y q] x _ => ckG c sc allB (.nm i) (.Name y q) && ckE c sc e x && ckSet c sc x y q
  | .asg (.tp gs) e, .Assign [.Tuple ts n q] x _ => ckG c sc allB (.tp gs) (.Tuple ts n q) && ckE c sc e x && ckTup sc x ts
  | .par is es, .Assign [.Tuple ts _ _] (.Tuple vs _ _) _ => parB c sc is ts vs && ckEs c sc es vs
  | .aug i op e, .AugAssign (.Name y _) op' x _ => decide (c.N[i]? = some y) && locB sc y && opEq op op' && ckE c sc e x
  | .sto o i e, .Assign [.Subscript x y _] z _ => !isComp z && !isSlice y && ckE c sc e z && ckE c sc o x && ckE c sc i y
  | .ret e, .Return (some x) _ => ckE c sc e x
  | .retN, .Return none _ => true
  | .pass, .Pass _ => true
  | .pass, .Expr x _ => isDoc x
  | .brk, .Break _ => true
  | .cnt, .Continue _ => true
  | .ife t a b, .If x y z _ => ckT c sc t x && ckSs c sc a y && ckSs c sc b z
  | .whl t b, .While x y [] _ => ckT c sc t x && ckSs c sc b y
  | .for_ g it b, .For tg x y [] _ => ckI c sc it x tg && ckG c sc allB g tg && ckSs c sc b y
  | .rais ci es, .Raise (some (.Call (.Name x _) ys [] _)) none _ => ecB c ci x ys.length && glB sc x && dbgB x && ckEs c sc es ys
  | .try_ b hs, .Try body (h :: r) [] [] _ => ckSs c sc b body && ckHs c sc hs (h :: r)
  | _, _ => false
def ckSs (c : Ck) (sc : Scope) : List S → List Stmt → Bool
  | [], [] => true
  | s :: ss, x :: xs => ckS c sc s x && ckSs c sc ss xs
  | _, _ => false
end
abbrev OkS (c : Ck) (k : Nat) (C : Nat → List A → Ho → R A) (F : Nat) (sc : Scope) (s : S) (x : Stmt) : Prop := ∀ (X : Cx) (W : WX), CxS X c sc k C → Takes X W → PassesOwn (model X.prog X.w) X.A X.env X.xe → PS X x (rdS (sOf X c.G) W (evS c.G F C s))
abbrev OkSs (c : Ck) (k : Nat) (C : Nat → List A → Ho → R A) (F : Nat) (sc : Scope) (s : List S) (x : List Stmt) : Prop := ∀ (X : Cx) (W : WX), CxS X c sc k C → Takes X W → PassesOwn (model X.prog X.w) X.A X.env X.xe → PSs X x (rdS (sOf X c.G) W (evSs c.G F C s))
section
variable {c : Ck} {k : Nat} {C : Nat → List A → Ho → R A} {F : Nat}
theorem comp_parts {sc : Scope} {e : E} {g : Tg} {it : I} {tt : T} {ow : List Nat} {x : Expr} {gens : List Comprehension} {scope : Scope} {p : Pos} (h : ckE c sc (.comp e g it tt ow) (.ListComp x gens scope p) = true) : ∃ tg iter ifs, gens = [⟨tg, iter, ifs, 0⟩] ∧ blkC c.N sc scope (ownOf c ow) = true ∧
    ckI c sc it iter tg = true ∧ ckG c (relS scope sc) (fun x => scope.names.lookup x == some .cell) g tg = true ∧ Tg.within ow g = true ∧ ((ifs = [] ∧ tt = .yes) ∨ ∃ y, ifs = [y] ∧ ckT c (relS scope sc) tt y = true) ∧ ckE c (relS scope sc) e x = true := by
  match gens with
  | [] => exact nomatch (show false = true from h)
  | ⟨_, _, _, _⟩ :: _ :: _ => exact nomatch (show false = true from h)
  | [⟨tg, iter, ifs, as⟩] =>
    match ifs with
    | [] =>
      obtain ⟨h1, h6⟩ := and2 h
      obtain ⟨h1, h5⟩ := and2 h1
      obtain ⟨h1, h4⟩ := and2 h1
      obtain ⟨h1, h3⟩ := and2 h1
      obtain ⟨h1, h2⟩ := and2 h1
      obtain ⟨h0, h1⟩ := and2 h1
      have e0 : as = 0 := beq_iff_eq.mp h0
      subst e0
      exact ⟨tg, iter, [], rfl, h1, h2, h3, h4, .inl ⟨rfl, yes_is h5⟩, h6⟩
    | [y] =>
      obtain ⟨h1, h6⟩ := and2 h
      obtain ⟨h1, h5⟩ := and2 h1
      obtain ⟨h1, h4⟩ := and2 h1
      obtain ⟨h1, h3⟩ := and2 h1
      obtain ⟨h1, h2⟩ := and2 h1
      obtain ⟨h0, h1⟩ := and2 h1
      have e0 : as = 0 := beq_iff_eq.mp h0
      subst e0
      exact ⟨tg, iter, [y], rfl, h1, h2, h3, h4, .inr ⟨y, rfl, h5⟩, h6⟩
    | _ :: _ :: _ =>
      obtain ⟨h1, h6⟩ := and2 h
      obtain ⟨h1, h5⟩ := and2 h1
      exact nomatch (show false = true from h5)
theorem set_ok {sc : Scope} {i : Nat} {e : E} {y : Str} {q p : Pos} {x : Expr} (h1 : ckG c sc allB (.nm i) (.Name y q) = true) (h2 : ckE c sc e x = true) (h3 : ckSet c sc x y q = true) : OkS c k C F sc (.asg (.nm i) e) (.Assign [.Name y q] x p) := by
  intro X W q0 tk ps
  have t := q0.t
  cases hc : isComp x with
  | false => exact s_asgN t (sw_no hc _ _ _) h1 (okE e sc x h2 X _ W t tk)
  | true =>
    cases x with
    | ListComp elt gens scope p2 =>
      match e, h2 with
      | .comp e g it tt ow, h2 =>
        obtain ⟨tg, iter, ifs, rfl, b1, b2, b3, b4, b5, b6⟩ := comp_parts h2
        obtain ⟨h3, h5⟩ := and2 (show (isLocB sc y && q.line == p2.line && !(scope.names.any fun (n, k) => n == y && (k == .local || k == .cell))) = true from h3)
        obtain ⟨h3, h4⟩ := and2 h3
        have ly := isLoc_is q0 h3
        obtain ⟨h1, _⟩ := and2 (show (decide (c.N[i]? = some y) && locB sc y && (allB y || isLocB sc y)) = true from h1)
        obtain ⟨h1, _⟩ := and2 h1
        have hs := sw_true (elt := elt) (gs := [⟨tg, iter, ifs, 0⟩]) (scope := scope) (l := p.line) (env := X.env) (by rw [t.sc]; exact q0.kd) ly h4 (not1 h5)
        refine (s_setC (W := W) t (sp := p) (by rw [t.N]; exact of_decide_eq_true h1) ly hs (okI it sc iter tg b2 X _ W t tk) (by rw [t.N, t.sc]; exact blkOk_by b1) (fun s H Ca cl fp => okG (t.blk s H scope Ca cl fp) g tg b3) (ft := evT C tt) (fun s H Ca cl fp => ?_)
          (fun s H Ca cl fp => okE e (relS scope sc) elt b6 _ _ NoX (t.blk s H scope Ca cl fp) takes_no) b4 (fun v => isSet_folded (ckI_noset b2) _ v)).imp fun D σ H hh => asg_rd name_rd hh
        rcases b5 with ⟨e1, e2⟩ | ⟨y, e1, b5⟩
        · subst e1 e2
          exact ⟨fun pins s σ H Q I ⟨r, s0, h, a, q⟩ => pts_nil.run pins s σ H Q I (q r H true .refl a.rel rfl)⟩
        · subst e1
          exact pts_one ((okT tt (relS scope sc) y b5).1 _ _ NoX (t.blk s H scope Ca cl fp) takes_no)
      | .var .., h2 | .lit .., h2 | .glo .., h2 | .neg .., h2 | .not .., h2 | .bin .., h2 | .and .., h2 | .or .., h2 | .ite .., h2 | .cmp .., h2 | .chn .., h2 | .tup .., h2 | .lst .., h2 | .sub .., h2 | .slc .., h2 | .rev .., h2 | .call .., h2 | .cval .., h2 | .blt .., h2 | .isi .., h2 | .mth .., h2 => exact nomatch (show false = true from h2)
    | SetComp => cases h3
    | DictComp => cases h3
    | _ => cases hc
theorem par_ok {X : Cx} {W : WX} {sc : Scope} (q : CxS X c sc k C) {is : List Nat} {us vs : List Expr} {n m : Nat} {p1 p2 p : Pos} {G : Sl → Ho → R (List A)} (h : parB c sc is us vs = true) (ha : PA X vs (rdA (sOf X c.G) W G)) :
    PS X (.Assign [.Tuple us n p1] (.Tuple vs m p2) p) (rdS (sOf X c.G) W fun s h => (G s h).then s fun xs h => match setsP is xs s with
    | some s => .nx s h
    | none => .err) := by
  unfold parB at h
  split at h
  · obtain ⟨h1, h6⟩ := and2 h
    obtain ⟨h1, h5⟩ := and2 h1
    obtain ⟨h1, h4⟩ := and2 h1
    obtain ⟨h1, h3⟩ := and2 h1
    obtain ⟨h1, h2⟩ := and2 h1
    exact s_par2 q.t q.kd (of_decide_eq_true h1) (of_decide_eq_true h2) (bne_iff_ne.mp h3) h4 h5 (of_decide_eq_true h6) ha
  · obtain ⟨h1, h10⟩ := and2 h
    obtain ⟨h1, h9⟩ := and2 h1
    obtain ⟨h1, h8⟩ := and2 h1
    obtain ⟨h1, h7⟩ := and2 h1
    obtain ⟨h1, h6⟩ := and2 h1
    obtain ⟨h1, h5⟩ := and2 h1
    obtain ⟨h1, h4⟩ := and2 h1
    obtain ⟨h1, h3⟩ := and2 h1
    obtain ⟨h1, h2⟩ := and2 h1
    exact s_par3 q.t q.kd (of_decide_eq_true h1) (of_decide_eq_true h2) (of_decide_eq_true h3) (bne_iff_ne.mp h4) (bne_iff_ne.mp h5) (bne_iff_ne.mp h6) h7 h8 h9 (of_decide_eq_true h10) ha
  · cases h
mutual
theorem okS : ∀ (s : S) (sc : Scope) (x : Stmt), ckS c sc s x = true → OkS c k C F sc s x
  | .exp e, sc, x, h => by
    cases x with
    | Expr y p =>
      obtain ⟨h1, h2⟩ := and2 (show (!isComp y && ckE c sc e y) = true from h)
      exact fun X W q tk ps => s_exp (not1 h1) (okE e sc y h2 X _ W q.t tk)
    | _ => exact nomatch (show false = true from h)
  | .asg (.nm i) e, sc, x, h => by
    cases x with
    | Assign ts v p =>
      match ts with
      | [] => exact nomatch (show false = true from h)
      | w :: rest =>
        cases w with
        | Name y q =>
          cases rest with
          | cons => exact nomatch (show false = true from h)
          | nil =>
            obtain ⟨h1, h3⟩ := and2 (show (ckG c sc allB (.nm i) (.Name y q) && ckE c sc e v && ckSet c sc v y q) = true from h)
            obtain ⟨h1, h2⟩ := and2 h1
            exact set_ok h1 h2 h3
        | _ => exact nomatch (show false = true from h)
    | _ => exact nomatch (show false = true from h)
  | .asg (.tp gs) e, sc, x, h => by
    cases x with
    | Assign ts v p =>
      match ts with
      | [] => exact nomatch (show false = true from h)
      | w :: rest =>
        cases w with
        | Tuple us n q =>
          cases rest with
          | cons => exact nomatch (show false = true from h)
          | nil =>
            obtain ⟨h1, h3⟩ := and2 (show (ckG c sc allB (.tp gs) (.Tuple us n q) && ckE c sc e v && ckTup sc v us) = true from h)
            obtain ⟨h1, h2⟩ := and2 h1
            exact fun X W q tk ps => s_asgT q.t q.kd h3 (okE e sc v h2 X _ W q.t tk) (okG q.t (.tp gs) _ h1)
        | _ => exact nomatch (show false = true from h)
    | _ => exact nomatch (show false = true from h)
  | .par is es, sc, x, h => by
    cases x with
    | Assign ts v p =>
      match ts with
      | [] => exact nomatch (show false = true from h)
      | w :: rest =>
        cases w with
        | Tuple us n q =>
          cases rest with
          | cons => exact nomatch (show false = true from h)
          | nil =>
            cases v with
            | Tuple vs m q2 =>
              obtain ⟨h1, h2⟩ := and2 (show (parB c sc is us vs && ckEs c sc es vs) = true from h)
              exact fun X W q tk ps => par_ok q h1 (okA es sc vs h2 X _ W q.t tk)
            | _ => exact nomatch (show false = true from h)
        | _ => exact nomatch (show false = true from h)
    | _ => exact nomatch (show false = true from h)
  | .aug i op e, sc, x, h => by
    cases x with
    | AugAssign w op' v p =>
      cases w with
      | Name y q =>
        obtain ⟨h1, h4⟩ := and2 (show (decide (c.N[i]? = some y) && locB sc y && opEq op op' && ckE c sc e v) = true from h)
        obtain ⟨h1, h3⟩ := and2 h1
        obtain ⟨i1, h2⟩ := and2 h1
        have e0 := opEq_is h3
        have i1 := of_decide_eq_true i1
        subst e0
        exact fun X W q tk ps => s_aug q.t i1 h2 rfl (okE e sc v h4 X _ W q.t tk)
      | _ => exact nomatch (show false = true from h)
    | _ => exact nomatch (show false = true from h)
  | .sto o i e, sc, x, h => by
    cases x with
    | Assign ts v p =>
      match ts with
      | [] => exact nomatch (show false = true from h)
      | w :: rest =>
        cases w with
        | Subscript y z q =>
          cases rest with
          | cons => exact nomatch (show false = true from h)
          | nil =>
            obtain ⟨h1, h5⟩ := and2 (show (!isComp v && !isSlice z && ckE c sc e v && ckE c sc o y && ckE c sc i z) = true from h)
            obtain ⟨h1, h4⟩ := and2 h1
            obtain ⟨h1, h3⟩ := and2 h1
            obtain ⟨h1, h2⟩ := and2 h1
            exact fun X W q tk ps => s_sto (not1 h1) (not1 h2) (okE e sc v h3 X _ W q.t tk) (okE o sc y h4 X _ W q.t tk) (okE i sc z h5 X _ W q.t tk)
        | _ => exact nomatch (show false = true from h)
    | _ => exact nomatch (show false = true from h)
  | .ret e, sc, x, h => by
    cases x with
    | Return v p =>
      cases v with
      | none => exact nomatch (show false = true from h)
      | some v => exact fun X W q tk ps => s_ret (okE e sc v (show ckE c sc e v = true from h) X _ W q.t tk)
    | _ => exact nomatch (show false = true from h)
  | .retN, sc, x, h => by
    cases x with
    | Return v p =>
      cases v with
      | none => exact fun X W q tk ps => s_retN
      | some v => exact nomatch (show false = true from h)
    | _ => exact nomatch (show false = true from h)
  | .pass, sc, x, h => by
    cases x with
    | Pass p => exact fun X W q tk ps => s_pass
    | Expr y p =>
      have h : isDoc y = true := h
      cases y with
      | Constant ct j p2 =>
        cases ct with
        | str z => exact fun X W q tk ps => s_doc
        | _ => cases h
      | _ => cases h
    | _ => exact nomatch (show false = true from h)
  | .brk, sc, x, h => by
    cases x with
    | Break p => exact fun X W q tk ps => s_brk
    | _ => exact nomatch (show false = true from h)
  | .cnt, sc, x, h => by
    cases x with
    | Continue p => exact fun X W q tk ps => s_cnt
    | _ => exact nomatch (show false = true from h)
  | .ife t a b, sc, x, h => by
    cases x with
    | If y u v p =>
      obtain ⟨h1, h3⟩ := and2 (show (ckT c sc t y && ckSs c sc a u && ckSs c sc b v) = true from h)
      obtain ⟨h1, h2⟩ := and2 h1
      exact fun X W q tk ps => s_ife ((okT t sc y h1).1 X _ W q.t tk) (okSs a sc u h2 X W q tk ps) (okSs b sc v h3 X W q tk ps)
    | _ => exact nomatch (show false = true from h)
  | .whl t b, sc, x, h => by
    cases x with
    | While y u v p =>
      cases v with
      | cons => exact nomatch (show false = true from h)
      | nil =>
        obtain ⟨h1, h2⟩ := and2 (show (ckT c sc t y && ckSs c sc b u) = true from h)
        exact fun X W q tk ps => s_whl ps ((okT t sc y h1).1 X _ W q.t tk) (okSs b sc u h2 X W q tk ps)
    | _ => exact nomatch (show false = true from h)
  | .for_ g it b, sc, x, h => by
    cases x with
    | For tg y u v p =>
      cases v with
      | cons => exact nomatch (show false = true from h)
      | nil =>
        obtain ⟨h1, h3⟩ := and2 (show (ckI c sc it y tg && ckG c sc allB g tg && ckSs c sc b u) = true from h)
        obtain ⟨h1, h2⟩ := and2 h1
        exact fun X W q tk ps => s_for ps q.t.calm (ckI_noset h1) (okI it sc y tg h1 X _ W q.t tk) (okG q.t g tg h2) (okSs b sc u h3 X W q tk ps)
    | _ => exact nomatch (show false = true from h)
  | .rais ci es, sc, x, h => by
    cases x with
    | Raise v cz p =>
      cases v with
      | none => exact nomatch (show false = true from h)
      | some v =>
        cases v with
        | Call fe args kws q2 =>
          cases fe with
          | Name x p0 =>
              cases kws with
              | cons => exact nomatch (show false = true from h)
              | nil =>
                cases cz with
                | some _ => exact nomatch (show false = true from h)
                | none =>
                  obtain ⟨h1, h4⟩ := and2 (show (ecB c ci x args.length && glB sc x && dbgB x && ckEs c sc es args) = true from h)
                  obtain ⟨h1, h3⟩ := and2 h1
                  obtain ⟨h1, h2⟩ := and2 h1
                  obtain ⟨e, e1, e2, e3⟩ := ec_is h1
                  exact fun X W q tk ps => s_rais q.t q.ws tk e1 e2 h2 h3 e3 (ckEs_ns h4).1 (okA es sc args h4 X _ W q.t tk)
          | _ => exact nomatch (show false = true from h)
        | _ => exact nomatch (show false = true from h)
    | _ => exact nomatch (show false = true from h)
  | .try_ b hs, sc, x, h => by
    cases x with
    | Try body hds orelse fin p =>
      cases hds with
      | nil => exact nomatch (show false = true from h)
      | cons h0 hr =>
        cases orelse with
        | cons => exact nomatch (show false = true from h)
        | nil =>
          cases fin with
          | cons => exact nomatch (show false = true from h)
          | nil =>
            obtain ⟨h1, h2⟩ := and2 (show (ckSs c sc b body && ckHs c sc hs (h0 :: hr)) = true from h)
            intro X W q tk ps
            obtain ⟨l, L1, L2'⟩ := clauses_of q hs (h0 :: hr) h2
            refine (s_try q.st q.fr (by rw [q.t.N]; exact q.t.nd) tk L1 (tb := fun W' => rdS (sOf X c.G) W' (evSs c.G F C b)) fun W' pn xe tk' ps' => okSs b sc body h1 (X.tr pn xe) W' (q.tr pn xe) tk' ps').imp fun D σ H ⟨r, s, h, a, z⟩ => ⟨r, s, h, a, ?_⟩
            have z : PoS (sOf X c.G) r H (match evSs c.G F C b s h with
              | .ex x σ h => handle c.G x σ h hs
              | o => o) D W := z
            cases e : evSs c.G F C b s h with
            | ex x s1 h1 =>
              rw [e] at z
              exact fun r' σ' H' cls d st A' rx => L2' D W r' H' σ' s1 h1 x cls d (PoS.from z st) A' rx
            | nx s1 h1 =>
              rw [e] at z
              exact z
            | bk s1 h1 =>
              rw [e] at z
              exact z
            | ct s1 h1 =>
              rw [e] at z
              exact z
            | rt v h1 =>
              rw [e] at z
              exact z
            | err =>
              rw [e] at z
              exact z
    | _ => exact nomatch (show false = true from h)
theorem okSs : ∀ (s : List S) (sc : Scope) (x : List Stmt), ckSs c sc s x = true → OkSs c k C F sc s x
  | [], sc, [], h => fun X W q tk ps => s_nil
  | s :: ss, sc, x :: xs, h => by
    obtain ⟨h1, h2⟩ := and2 (show (ckS c sc s x && ckSs c sc ss xs) = true from h)
    exact fun X W q tk ps => s_cons (okS s sc x h1 X W q tk ps) (okSs ss sc xs h2 X W q tk ps)
  | [], _, _ :: _, h => nomatch (show false = true from h)
  | _ :: _, _, [], h => nomatch (show false = true from h)
end
end
end Ev

/-! text Fw22 -/
set_option Elab.async false
set_option linter.all false
set_option maxRecDepth 100000
set_option maxHeartbeats 4000000
/-! Ev: defs, calls, the law. -/
namespace Ev
open PySem PySem.Spec PyProof.Rows L2
section
variable {S : Ws} {r r' : List Addr} {H H' : Hp} {h h' : Ho} {n : Nat}
/-! ### what stays of the objects behind a call -/
mutual
theorem Ra.cut (p : r <+: r') (hn : r.length = n) : ∀ {a : A} {v : V}, A.inb n a = true → Ra S r' H a v → Ra S r H a v
  | _, _, _, .non => .non
  | _, _, _, .bl b => .bl b
  | _, _, _, .int i => .int i
  | _, _, _, .str x => .str x
  | _, _, e, .tup q t => .tup q (Ras.cut p hn e t)
  | _, _, e, .lis q t => .lis q (Ras.cut p hn e t)
  | _, _, e, .ref q => .ref (by
    obtain ⟨t, rfl⟩ := p
    have e := of_decide_eq_true e
    rwa [List.getElem?_append_left (by rw [hn]; exact e)] at q)
  | _, _, _, .fn e1 e2 => .fn e1 e2
theorem Ras.cut (p : r <+: r') (hn : r.length = n) : ∀ {as : List A} {vs : List V}, A.inbs n as = true → Ras S r' H as vs → Ras S r H as vs
  | _, _, _, .nil => .nil
  | _, _, e, .cons a t => by
    obtain ⟨e1, e2⟩ := Bool.and_eq_true_iff.mp e
    exact .cons (Ra.cut p hn e1 a) (Ras.cut p hn e2 t)
end
theorem Rel.cut (R' : Rel S r' h' H') (p : r <+: r') (hn : r.length = n) (hl : n ≤ h'.length) (e : (h'.take n).all (fun o => A.inbs n o.items) = true) : Rel S r (h'.take n) H' := by
  refine ⟨by rw [List.length_take, hn]; omega, ?_, fun m xs em => ?_⟩
  · obtain ⟨t, rfl⟩ := p
    exact (List.nodup_append.mp R'.nd).1
  · have hm : m < n := by
      have := (List.getElem?_eq_some_iff.mp em).1
      rw [List.length_take] at this
      omega
    rw [List.getElem?_take_of_lt hm] at em
    obtain ⟨q, vs, e1, e2, t⟩ := R'.at_ m xs em
    have ein : A.inbs n xs = true := List.all_eq_true.mp e (.lst xs) (List.mem_of_getElem? (i := m) (by rw [List.getElem?_take_of_lt hm]; exact em))
    refine ⟨q, vs, ?_, e2, t.cut p hn ein⟩
    obtain ⟨t', rfl⟩ := p
    rwa [List.getElem?_append_left (by rw [hn]; exact hm)] at e1
theorem Step.cut (st : Step r H r' H') : Step r H r H' := ⟨List.prefix_refl _, fun b hb nb => absurd hb nb, st.keep⟩
/-- trimmed or not -/
theorem trim_ok {D : Ends} {E : XK} {a : A} (R : Rel S r h H) (p : PoV S r H (trim h.length (A.inb h.length a) h' fun h' => .ok a h') D.rt E) : ∀ r' H' v, Step r H r' H' → Rel S r' h' H' → Ra S r' H' a v → D.rt v H' := by
  intro r' H' v st R' t
  unfold trim at p
  split at p
  · exact p r' H' v st R' t
  · rename_i hl
    split at p
    · rename_i ok
      obtain ⟨o1, o2⟩ := Bool.and_eq_true_iff.mp ok
      exact p r H' v st.cut (R'.cut st.pre R.len (by omega) o2) (t.cut st.pre R.len o1)
    · exact p r' H' v st R' t
theorem trim_nx {D : Ends} {E : XK} (R : Rel S r h H) (p : PoV S r H (trim h.length true h' fun h' => .ok .non h') D.rt E) : ∀ r' H', Step r H r' H' → Rel S r' h' H' → D.rt .non H' := by
  intro r' H' st R'
  unfold trim at p
  split at p
  · exact p r' H' .non st R' .non
  · rename_i hl
    split at p
    · rename_i ok
      obtain ⟨_, o2⟩ := Bool.and_eq_true_iff.mp ok
      exact p r H' .non st.cut (R'.cut st.pre R.len (by omega) o2) .non
    · exact p r' H' .non st R' .non
theorem Rx.cut (p : r <+: r') (hn : r.length = n) {x : Xv} {cls : Value} {d : Option Addr} (e : A.inbs n (x.fs.map (·.2)) = true) (q : Rx S r' H x cls d) : Rx S r H x cls d := by
  obtain ⟨c, C, dd, fs, e1, e2, e3, e4, e5, e6, e7, e8⟩ := q
  exact ⟨c, C, dd, fs, e1, e2, e3, e4, e5, e6, e7.cut p hn e, e8⟩
theorem trim_ex {Q : VK} {E : XK} {x : Xv} (R : Rel S r h H) (p : PoV S r H (trim h.length (A.inbs h.length (x.fs.map (·.2))) h' fun h' => (.exc x h' : Ev.R A)) Q E) : ∀ r' H' cls d, Step r H r' H' → Rel S r' h' H' → Rx S r' H' x cls d → E cls d H' := by
  intro r' H' cls d st R' t
  unfold trim at p
  split at p
  · exact p r' H' cls d st R' t
  · rename_i hl
    split at p
    · rename_i ok
      obtain ⟨o1, o2⟩ := Bool.and_eq_true_iff.mp ok
      exact p r H' cls d st.cut (R'.cut st.pre R.len (by omega) o2) (t.cut st.pre R.len o1)
    · exact p r' H' cls d st R' t
end
/-! ### a call that no object is handed to -/
section
variable {S : Ws} {r r' : List Addr} {H H' : Hp} {h h' : Ho}
mutual
theorem Ra.up : ∀ {a : A} {v : V}, Ra S r' H' a v → Ra S (r ++ r') H' (A.up r.length a) v
  | _, _, .non => .non
  | _, _, .bl b => .bl b
  | _, _, .int i => .int i
  | _, _, .str x => .str x
  | _, _, .tup q t => .tup q (Ras.up t)
  | _, _, .lis q t => .lis q (Ras.up t)
  | _, _, .ref q => .ref (by
    rw [List.getElem?_append_right (Nat.le_add_right _ _), Nat.add_sub_cancel_left]
    exact q)
  | _, _, .fn e1 e2 => .fn e1 e2
theorem Ras.up : ∀ {as : List A} {vs : List V}, Ras S r' H' as vs → Ras S (r ++ r') H' (A.ups r.length as) vs
  | _, _, .nil => .nil
  | _, _, .cons a t => .cons (Ra.up a) (Ras.up t)
end
theorem Rel.graft (R : Rel S r h H) (st : Step [] H r' H') (R' : Rel S r' h' H') : Rel S (r ++ r') (h ++ h'.map (O.up h.length)) H' ∧ Step r H (r ++ r') H' := by
  have nw : ∀ b, b ∈ r' → H b = none := fun b hb => st.new b hb (by simp)
  have st2 : Step r H (r ++ r') H' := ⟨List.prefix_append _ _, fun b hb nb => by
    rcases List.mem_append.mp hb with z | z
    · exact absurd z nb
    · exact nw b z, fun b o e _ => st.keep b o e (by simp)⟩
  refine ⟨⟨by rw [List.length_append, List.length_append, List.length_map, R.len, R'.len], ?_, fun n xs e => ?_⟩, st2⟩
  · exact List.nodup_append.mpr ⟨R.nd, R'.nd, fun a ha b hb z => by
      subst z
      obtain ⟨vs, e⟩ := R.lstOf ha
      rw [nw a hb] at e
      cases e⟩
  · by_cases hn : n < h.length
    · rw [List.getElem?_append_left hn] at e
      obtain ⟨p, vs, e1, e2, t⟩ := R.at_ n xs e
      exact ⟨p, vs, pre_get (List.prefix_append _ _) e1, st.keep p _ e2 (by simp), t.step R st2⟩
    · rw [List.getElem?_append_right (by omega), List.getElem?_map] at e
      cases z : h'[n - h.length]? with
      | none =>
        rw [z] at e
        cases e
      | some o =>
        cases o with
        | lst ys =>
          rw [z] at e
          have e : O.lst (A.ups h.length ys) = O.lst xs := Option.some.inj e
          cases e
          obtain ⟨p, vs, e1, e2, t⟩ := R'.at_ _ ys z
          refine ⟨p, vs, ?_, e2, by rw [← R.len]; exact t.up⟩
          rw [List.getElem?_append_right (by rw [R.len]; omega), R.len]
          exact e1
theorem upF_is : ∀ (n : Nat) (l : List (Str × A)), (upF n l).map (·.1) = l.map (·.1) ∧ (upF n l).map (·.2) = A.ups n (l.map (·.2))
  | _, [] => ⟨rfl, rfl⟩
  | n, p :: l => by
    obtain ⟨a, b⟩ := upF_is n l
    exact ⟨congrArg (p.1 :: ·) a, congrArg (A.up n p.2 :: ·) b⟩
theorem Rx.up {x : Xv} {cls : Value} {d : Option Addr} (q : Rx S r' H' x cls d) : Rx S (r ++ r') H' ⟨x.cls, upF r.length x.fs⟩ cls d := by
  obtain ⟨c, C, dd, fs, e1, e2, e3, e4, e5, e6, e7, e8⟩ := q
  obtain ⟨u1, u2⟩ := upF_is r.length x.fs
  exact ⟨c, C, dd, fs, e1, e2, e3, e4, e5, e6.trans u1.symm, by rw [u2]; exact e7.up, u1.trans e8⟩
theorem spP {C : Nat → List A → Ho → Ev.R A} {f n : Nat} {vs : List V} {Q : VK} {E : XK} (q : spF S (callP C) f n vs H Q E) : spF S C f n vs H Q E := by
  obtain ⟨r, h, as, R, t, hl, p⟩ := q
  unfold callP at p
  split at p
  · rename_i pure_
    refine ⟨[], [], as, ⟨rfl, .nil, (fun n xs z => nomatch z)⟩, t.cut (List.nil_prefix) rfl pure_, hl, ?_⟩
    cases z : C f as [] with
    | ok a h' =>
      rw [z] at p
      intro r' H' v st R' ta
      obtain ⟨R2, st2⟩ := R.graft st R'
      exact p _ H' v st2 R2 (by rw [← R.len]; exact ta.up)
    | exc x h' =>
      rw [z] at p
      intro r' H' cls d st R' rx
      obtain ⟨R2, st2⟩ := R.graft st R'
      exact p _ H' cls d st2 R2 (by rw [← R.len]; exact rx.up)
    | err =>
      rw [z] at p
      exact p
  · exact ⟨r, h, as, R, t, hl, p⟩
end
theorem FnG.pure {P : Program} {w : World} {K : PySem.W.Frag} {mg : Str → Option Value} {base : Heap} {k : Nat} {f : Addr} {fd : FuncData} {ps : List Str} {S : Ws} {C : Nat → List A → Ho → Ev.R A} {i n : Nat} (F : FnG P w K mg base k f fd ps (spF S C i n)) : FnG P w K mg base k f fd ps (spF S (callP C) i n) :=
  ⟨fun vs H Q E h => F.len vs H Q E (spP h), fun A outer s H args us vs Q E hg hr e0 hb rv h => F.run A outer s H args us vs Q E hg hr e0 hb rv (spP h)⟩
theorem callP_err {C : Nat → List A → Ho → Ev.R A} {f : Nat} {as : List A} {h : Ho} (e : ∀ h, C f as h = .err) : callP C f as h = .err := by
  unfold callP
  split
  · rw [e]
    rfl
  · exact e h
/-! ### a def -/
theorem Ras.start {S : Ws} {r : List Addr} {H : Hp} {as : List A} {vs : List V} (t : Ras S r H as vs) (N : List Str) : Rs S r H (as.map some ++ List.replicate (N.length - as.length) none) (L2.start N vs) := by
  refine ⟨by unfold L2.start; rw [List.length_append, List.length_append, List.length_map, List.length_map, List.length_replicate, List.length_replicate, t.length], fun i a e => ?_⟩
  by_cases hi : i < as.length
  · rw [List.getElem?_append_left (by rw [List.length_map]; exact hi), List.getElem?_map] at e
    cases z : as[i]? with
    | none =>
      rw [z] at e
      cases e
    | some b =>
      rw [z] at e
      cases e
      obtain ⟨v, e1, t1⟩ := t.get z
      refine ⟨v, ?_, t1⟩
      unfold L2.start
      rw [List.getElem?_append_left (by rw [List.length_map, ← t.length]; exact hi), List.getElem?_map, e1]
      rfl
  · rw [List.getElem?_append_right (by rw [List.length_map]; omega), List.getElem?_replicate] at e
    split at e <;> cases e
/-- a def's facts and its lines' check -/
structure Dk (P : Program) (K : PySem.W.Frag) (mg : Str → Option Value) (c : Ck) (d : Df) : Prop where
  ex : ∃ (fa : Addr) (qual : Str) (params : Arguments) (body : List Stmt) (scope : Scope) (oc : Value) (od : Option Addr) (dV kV doc pm : Value) (an : Option Addr) (cdv ct : Value) (osl : Array (Option Value)),
    mg d.name = some (.ref fa) ∧ PySem.W.keepIn K (.ref fa) = true ∧ K.lookup fa = some ⟨oc, od, .func (PySem.W.fnOf d.name qual params body scope dV kV doc pm an cdv ct), osl⟩ ∧ PySem.W.codeIn K cdv qual = true ∧
    Binds K (PySem.W.fnOf d.name qual params body scope dV kV doc pm an cdv ct) (d.N.take d.ps) [] ∧ FnScope d.N (d.N.take d.ps) scope ∧ (d.N.take d.ps).length = d.ps ∧ ∀ (F k : Nat) (X : Cx) (W : WX), X.prog = P → X.K = K → X.mg = mg → CxS X { c with N := d.N } scope k (callP (callK c.G F k)) → Takes X W → PassesOwn (model X.prog X.w) X.A X.env X.xe → PSs X body (rdS (sOf X c.G) W (evSs c.G F (callP (callK c.G F k)) d.body))
section
variable {P : Program} {w : World} {K : PySem.W.Frag} {mg : Str → Option Value} {base : Heap} {c : Ck}
/-- what is said of the world besides the defs -/
structure Wk0 (P : Program) (K : PySem.W.Frag) (mg : Str → Option Value) (c : Ck) : Prop where
  df : ∀ (f : Nat) (d : Df), c.G.defs[f]? = some d → Dk P K mg c d
  free : ∀ x : String, (["len", "abs", "int", "bool", "max", "min", "sum", "any", "all", "tuple", "list", "isinstance", "repr", "range", "zip", "enumerate", "str"] : List String).contains x = true → mg (x : Str) = none
  cts : ∀ x a, look x c.cts = some a → ∃ u v, mg x = some u ∧ RelV v u ∧ ∀ (b : A), A.beq b a = true → ∀ r H, Ra ⟨K, mg, c.G⟩ r H b v
  we : We P K mg c
theorem fn_step {F k : Nat} (W0 : Wk0 P K mg c) (ih : Wd P w K mg base c k (callP (callK c.G F k))) {f : Nat} {d : Df} (hd : c.G.defs[f]? = some d) : ∃ fa fd, mg d.name = some (.ref fa) ∧ PySem.W.keepIn K (.ref fa) = true ∧ Binds K fd (d.N.take d.ps) [] ∧ (d.N.take d.ps).length = d.ps ∧
    FnG P w K mg base (k + 1) fa fd (d.N.take d.ps) (spF ⟨K, mg, c.G⟩ (callK c.G F (k + 1)) f d.ps) := by
  obtain ⟨fa, qual, params, body, scope, oc, od, dV, kV, doc, pm, an, cdv, ct, osl, m1, m2, m3, m4, m5, m6, m7, m8⟩ := (W0.df f d hd).ex
  refine ⟨fa, _, m1, m2, m5, m7, ⟨fun vs H Q E ⟨r, h, as, _, t, hl, _⟩ => by rw [← t.length, hl, m7], fun A outer s H args us vs Q E hg hr e0 hb rv hsp => ?_⟩⟩
  obtain ⟨r, h, as, R, t, hl, p⟩ := hsp
  have hlv : vs.length = (d.N.take d.ps).length := by rw [← t.length, hl, m7]
  have KX : K.In s.heap := e0.mod.kin.keeps fun b o e => (e0.bs b o e).1
  have lim : s.heap.NoLimit := e0.mod.nolimit.keeps fun b o e => (e0.bs b o e).1
  have kinds : ∀ y ∈ (d.N.take d.ps).zip us, scope.names.lookup y.1 = some .local ∨ (scope.names.lookup y.1 = some .cell ∧ ((cellsFrom (s.heap.objs.size + 1) scope.names []).lookup y.1).isSome = true) := fun ⟨n, v⟩ hy =>
    (m6.par n (List.of_mem_zip hy).1).imp (fun q => q) fun q => ⟨q, PySem.W.cellsFrom_some _ _ _ (.inl q)⟩
  refine codeAny_call_function hr.depth (KX _ _ m3) rfl m6.co m6.gen rfl (PySem.W.codeRec_of KX m4) (hb _ _ _ _ ?_)
  refine wpAny_newFunctionEnv_cells m6.kind kinds fun env he s1 x => ?_
  subst he
  refine ⟨lim.keeps x.toInCall.keep, codeAny_func ?_⟩
  -- the def's context
  generalize hX : cxOf (L2.CX P w) P w K mg base d.N qual scope fa cdv A outer s H E = X
  have cs : CxS X { c with N := d.N } scope k (callP (callK c.G F k)) := by
    subst hX
    exact ⟨⟨⟨ih.fns, ih.args, ih.free, ih.cts⟩, rfl, m6.nd, rfl, fun _ _ => rfl, rfl, hg, hr.deeper _⟩, ⟨W0.we.sup, W0.we.nam, W0.we.exc, W0.we.ven, W0.we.vek⟩, m6.kind, rfl, rfl⟩
  have tk : Takes X (fun cls dd _ H => E cls dd H) := by
    subst hX
    exact takes_of rfl rfl rfl rfl
  have ps : PassesOwn (model X.prog X.w) X.A X.env X.xe := by
    subst hX
    exact passes_of (K := fun e s'' => L2.CX P w outer H s E e s'') rfl
  have run := m8 F k X _ (by subst hX; rfl) (by subst hX; rfl) (by subst hX; rfl) cs tk ps
  subst hX
  have I : Inv (cxOf (L2.CX P w) P w K mg base d.N qual scope fa cdv A outer s H E) [] (L2.start d.N vs) H s1 := inv_start m6 hr.hd e0 hlv rv x
  have body_ok : PoS ⟨K, mg, c.G⟩ r H (evSs c.G F (callP (callK c.G F k)) d.body (as.map some ++ List.replicate (d.N.length - as.length) none) h) { nx := fun _ H' => Q .non H', rt := Q } fun cls dd _ H => E cls dd H := by
    unfold callK at p
    rw [hd] at p
    dsimp only at p
    rw [if_pos (by rw [hl]; exact beq_self_eq_true _)] at p
    cases e : evSs c.G F (callP (callK c.G F k)) d.body (as.map some ++ List.replicate (d.N.length - as.length) none) h with
    | nx s2 h2 =>
      simp only [e] at p
      exact fun r' σ' H' st A' => trim_nx (D := { nx := fun _ H' => Q .non H', rt := Q }) R p r' H' st A'.rel
    | rt a h2 =>
      simp only [e] at p
      exact trim_ok (D := { nx := fun _ H' => Q .non H', rt := Q }) R p
    | ex xv s2 h2 =>
      simp only [e] at p
      exact fun r' σ' H' cls dd st A' rx => trim_ex R p r' H' cls dd st A'.rel rx
    | bk s2 h2 =>
      simp only [e] at p
      exact False.elim p
    | ct s2 h2 =>
      simp only [e] at p
      exact False.elim p
    | err =>
      simp only [e] at p
      exact False.elim p
  refine wpAny_mono (run.run [] s1 (L2.start d.N vs) H { nx := fun _ H' => Q .non H', rt := Q } I ⟨r, _, h, ⟨R, t.start d.N⟩, body_ok⟩) (fun fl s' hs => ?_) fun e s' hs => hs
  cases fl with
  | ret u =>
    obtain ⟨v, σ', H', J, rr, q⟩ := hs
    exact ⟨v, H', J.os, J.bare, J.base, J.hok, rr, q⟩
  | next =>
    obtain ⟨σ', H', J, q⟩ := hs
    exact ⟨.non, H', J.os, J.bare, J.base, J.hok, rfl, q⟩
  | brk =>
    obtain ⟨_, _, _, q⟩ := hs
    exact q.elim
  | cont =>
    obtain ⟨_, _, _, q⟩ := hs
    exact q.elim
theorem wd_all {F : Nat} (W0 : Wk0 P K mg c) : ∀ k, Wd P w K mg base c k (callP (callK c.G F k))
  | 0 => by
    refine ⟨fun f d hd => ?_, fun f d as h hd hl => callP_err fun h => rfl, W0.free, W0.cts⟩
    obtain ⟨fa, qual, params, body, scope, oc, od, dV, kV, doc, pm, an, cdv, ct, osl, m1, m2, m3, m4, m5, m6, m7, m8⟩ := (W0.df f d hd).ex
    refine ⟨fa, _, m1, m2, m5, m7, FnG.pure ⟨fun vs H Q E ⟨r, h, as, _, t, hl, _⟩ => by rw [← t.length, hl, m7], fun A outer s H args us vs Q E hg hr e0 hb rv ⟨_, _, _, _, _, _, p⟩ => False.elim p⟩⟩
  | k + 1 => by
    refine ⟨fun f d hd => ?_, fun f d as h hd hl => callP_err fun h => ?_, W0.free, W0.cts⟩
    · obtain ⟨fa, fd, m1, m2, m3, m4, FG⟩ := fn_step W0 (wd_all W0 k) hd
      exact ⟨fa, fd, m1, m2, m3, m4, FG.pure⟩
    · unfold callK
      rw [hd]
      dsimp only
      rw [if_neg fun z => hl (beq_iff_eq.mp z)]
end
end Ev

/-! text Fw23 -/
set_option Elab.async false
set_option linter.all false
set_option maxRecDepth 100000
set_option maxHeartbeats 4000000
/-! Ev: the law's call. -/
namespace Ev
open PySem PySem.Spec PyProof.Rows L2
section
variable {P : Program} {w : World} {K : PySem.W.Frag} {mg mb : Str → Option Value} {c : Ck} {k F i : Nat} {d : Df} {fa a : Addr} {s1 : Shared} {vs : List Value} {ns : List Int}
theorem ras_ints {S : Ws} {r : List Addr} {H : Hp} : ∀ ns : List Int, Ras S r H (ns.map A.int) (ns.map V.int)
  | [] => .nil
  | n :: ns => .cons (.int n) (ras_ints ns)
/-- what the heap tells apart from the script -/
structure Told (P : Program) (w : World) (K : PySem.W.Frag) (s1 : Shared) (a : Addr) (ns : List Int) (H : Hp) : Prop where
  ro : Ro K H a (ns.map V.int)
  ok : HOk P w H s1.heap
  sole : ∀ b u, H b = some u → b = a ∧ ∃ o xs, u = .frz o (.lst xs)
  off : ∀ u, H a = some u → K.lookup a = none
theorem told_any (KX : K.In s1.heap) (ha : s1.heap.get? a = some { cls := .type "list", data := .seq vs.toArray }) (hi : IntsAre vs ns) (hl : ns.length ≤ sizeLine) : ∃ H, Told P w K s1 a ns H := by
  have rv := vals_ints hi
  cases q : K.lookup a with
  | some o =>
    have e := KX a o q
    rw [ha] at e
    obtain rfl := Option.some.inj e
    exact ⟨fun _ => none, .inr ⟨_, vs.toArray, _, q, rfl, rfl, rfl, by rw [List.size_toArray, hi.length]; exact hl, rv⟩, (fun b u z => nomatch (show (none : Option HO) = some u from z)), (fun b u z => nomatch (show (none : Option HO) = some u from z)), (fun u z => nomatch (show (none : Option HO) = some u from z))⟩
  | none =>
    have at_ : ∀ b u, (fun b => if b = a then some (HO.frz { cls := .type "list", data := .seq vs.toArray } (.lst (ns.map V.int))) else none : Hp) b = some u → b = a ∧ u = HO.frz { cls := .type "list", data := .seq vs.toArray } (.lst (ns.map V.int)) := fun b u z => by
      by_cases e : b = a
      · exact ⟨e, (Option.some.inj ((if_pos e).symm.trans z)).symm⟩
      · exact nomatch ((if_neg e).symm.trans z)
    refine ⟨fun b => if b = a then some (.frz { cls := .type "list", data := .seq vs.toArray } (.lst (ns.map V.int))) else none, .inl ⟨_, if_pos rfl⟩, fun b u z => ?_, fun b u z => ?_, fun _ _ => q⟩
    · obtain ⟨rfl, rfl⟩ := at_ b u z
      exact ⟨ha, by rw [List.length_map]; exact hl, vs, _, rv, ha⟩
    · obtain ⟨e, rfl⟩ := at_ b u z
      exact ⟨e, _, _, rfl⟩
theorem law_ev (KX : K.In s1.heap) (hns : s1.heap.Ns mainGlobals mg) (hb : s1.heap.Ns builtinsNs mb) (hbb : ∀ x : Str, x ≠ "__name__" → mb x = bootBuiltins x) (hlim : s1.heap.NoLimit) (hg : s1.gens = #[]) (ha : s1.heap.get? a = some { cls := .type "list", data := .seq vs.toArray }) (hi : IntsAre vs ns)
    (hl : ns.length ≤ sizeLine) (hr : Room (k + 1) callerA) (W0 : Wk0 P K mg c) (hd : c.G.defs[i]? = some d) (hp : d.ps = 1) (hfa : mg d.name = some (.ref fa)) (hok : ∃ h', callK c.G F (k + 1) i [.lis (ns.map A.int)] [] = .ok (.bl true) h') :
    codeAny (model P w) callerA (.call (.ref fa) ⟨[.ref a], []⟩) (fun r s' => r = .ok (.ret (.bool true)) ∧ OldK s1.heap s'.heap ∧ s'.os = s1.os ∧ AllBare s'.gens) s1 := by
  obtain ⟨H, T⟩ := told_any (P := P) (w := w) KX ha hi hl
  have free : ∀ {b : Addr} {o : Obj}, s1.heap.get? b = some o → (∀ es ep, o.data = .dict es ep → H b = none) := fun {b o} g es ep dt => by
    cases z : H b with
    | none => rfl
    | some u =>
      obtain ⟨rfl, _⟩ := T.sole b u z
      rw [ha] at g
      obtain rfl := Option.some.inj g
      cases dt
  have under : ∀ {b : Addr} {m : Str → Option Value}, s1.heap.Ns b m → (hidT s1.heap H).Ns b m := fun {b m} ⟨o, es, ep, g, dt, q⟩ => ⟨o, es, ep, hidT_get g (free g es ep dt), dt, q⟩
  have KB : K.In (hidT s1.heap H) := fun b o z => hidT_get (KX b o z) (by
    cases q : H b with
    | none => rfl
    | some u =>
      obtain ⟨rfl, _⟩ := T.sole b u q
      rw [T.off u q] at z
      cases z)
  obtain ⟨mc, c1, c2⟩ := hlim
  have M0 : Mod K mg (hidT s1.heap H) := ⟨KB, under hns, ⟨mb, under hb, hbb⟩, mc, under c1, c2⟩
  have E0 : Env0 P w K mg (hidT s1.heap H) callerA [] s1 H := ⟨rfl, M0, fun b o z => of_hidT z, Nat.le_of_eq (hidT_size _ _), trivial, (fun b z => nomatch z), T.ok, .of_eq hg⟩
  obtain ⟨fb, fd, m1, m2, m3, m4, FG⟩ := fn_step W0 (wd_all (w := w) (base := hidT s1.heap H) (F := F) W0 k) hd
  obtain rfl : fb = fa := by
    rw [hfa] at m1
    cases m1
    rfl
  obtain ⟨h', hrun⟩ := hok
  have bd := m3 s1 [.ref a] KX (by rw [m4, hp]; rfl)
  refine codeAny_mono (FG.run callerA [] s1 H ⟨[.ref a], []⟩ [.ref a] [.ref a] (fun v _ => v = .bl true) (fun _ _ _ => False) rfl hr E0 bd (.cons rfl .nil) ⟨[], [], [.lis (ns.map A.int)], ⟨rfl, .nil, (fun n xs z => nomatch z)⟩, .cons (.lis T.ro (ras_ints ns)) .nil, hp.symm, ?_⟩) fun r s' q => ?_
  · rw [hrun]
    intro r' H' v st R' t
    cases t
    rfl
  · cases r with
    | error e =>
      obtain ⟨_, _, _, _, _, _, _, _, _, _, _, _, z⟩ := q
      exact z.elim
    | ok fl =>
      cases fl with
      | next => exact False.elim q
      | brk => exact False.elim q
      | cont => exact False.elim q
      | ret u =>
        obtain ⟨v, H2, os, bare, un, ok2, rv, e⟩ := q
        have e : v = .bl true := e
        subst e
        obtain rfl : u = .bool true := rv
        refine ⟨rfl, OldK.of_keep fun b o g => ?_, os, bare⟩
        cases z : H b with
        | none => exact un.keep b o g z (fun m => nomatch (show b ∈ ([] : List Addr) from m)) (fun m => nomatch m)
        | some u =>
          obtain ⟨_, ob, xs, rfl⟩ := T.sole b u z
          obtain ⟨g1, _⟩ := T.ok b _ z
          obtain ⟨g2, _⟩ := ok2 b _ (un.frzs b ob _ z)
          rw [g] at g1
          obtain rfl := Option.some.inj g1
          exact g2
end
/-- a law, by the computing of its def -/
theorem walk_ev {l : PySem.W.OpenLaw} {n k F : Nat} {q : Program} {loose : List Str} {XP : (Str → Option Value) → Heap → Prop} {YP : World → Heap → Prop} {d : DefRec} (hn : l.most = some n) (hn2 : n ≤ sizeLine) (hdf : d.params.defaults = []) (hr : Room (k + 1) callerA)
    (hF : ∀ (w : World) (mg : Str → Option Value) (h : Heap), YP w h → h.Ns mainGlobals mg → ∃ (K : PySem.W.Frag) (c : Ck) (i : Nat) (dd : Df), K.In h ∧ Wk0 l.prog K mg c ∧ c.G.defs[i]? = some dd ∧ dd.name = d.name ∧ dd.ps = 1 ∧
      ∀ ns : List Int, ns.length ≤ n → ∃ h', callK c.G F (k + 1) i [.lis (ns.map A.int)] [] = .ok (.bl true) h') : PySem.W.WalkO q loose XP YP l.row.toRowW d [] (fun f vs => PySem.call f vs) := by
  refine Att.attach_call hn hdf fun w s0 s1 mg mb fa o pm cd doc a vs ns G Y ho hd hcd hmg hobj hi hlen hg => ?_
  obtain ⟨K, c, i, dd, KX, W0, g1, g2, g3, g4⟩ := hF w mg _ Y G.T.g
  exact law_ev KX G.T.g G.T.b G.T.builtins G.T.nolimit hg hobj hi (Nat.le_trans hlen hn2) hr W0 g1 g3 (by rw [g2]; exact hmg) (g4 ns hlen)
end Ev

/-! text Fw24 -/
set_option Elab.async false
set_option linter.all false
set_option maxRecDepth 100000
set_option maxHeartbeats 4000000
/-! Ev: what the head tells, as one check on the written part. -/
namespace Ev
open PySem PySem.Spec PyProof.Rows L2
/-! ### the error classes -/
def clsB (K : PySem.W.Frag) (C : Addr) : Bool := match K.lookup C with
  | some ⟨.type "type", _, .cls cd, sl⟩ => (match cd.mro, sl.toList with
    | .ref C' :: bm, [_, _, _, _, some (.builtin n), _] => C' == C && n == "ValueError.__new__" && !cd.hasDel && cd.hasDict && PySem.HandSPX.refsVE bm
    | _, _ => false)
  | _ => false
theorem cls_of {K : PySem.W.Frag} {C : Addr} (q : clsB K C = true) : ∃ nm q N bs bm sn sub ab col dd k0 k1 k2 k3 k5, K.lookup C = some (excClassObj nm q C N bs bm true sn sub ab col dd k0 k1 k2 k3 k5 "ValueError.__new__") ∧ PySem.HandSPX.refsVE bm = true := by
  unfold clsB at q
  split at q
  · rename_i dd cd sl ho
    split at q
    · rename_i C' bm k0 k1 k2 k3 n k5 hm hs
      obtain ⟨q, q5⟩ := and2 q
      obtain ⟨q, q4⟩ := and2 q
      obtain ⟨q, q3⟩ := and2 q
      obtain ⟨q1, q2⟩ := and2 q
      have e1 := beq_iff_eq.mp q1
      have e2 := beq_iff_eq.mp q2
      obtain ⟨nm, bs, mro, ns, qn, hd, sn, sub, ab, col, del⟩ := cd
      have hm : mro = .ref C' :: bm := hm
      have r4 : hd = true := q4
      have r3 : (!del) = true := q3
      have r3 : del = false := by simpa using r3
      subst e1 e2 hm r3 r4
      have es : sl = #[k0, k1, k2, k3, some (.builtin "ValueError.__new__"), k5] := by
        obtain ⟨l⟩ := sl
        have hs : l = _ := hs
        rw [hs]
      subst es
      exact ⟨nm, qn, ns, bs, bm, sn, sub, ab, col, dd, k0, k1, k2, k3, k5, ho, q5⟩
    · cases q
  · cases q
def initB (f : Str) (fd : FuncData) : Bool := match fd.body with
  | .stmts [.Expr (.Call (.Attribute (.Call (.Name s _) [] [] _) i p2) [.Name r _] [] p4) _, .Assign [.Attribute (.Name z _) g _] (.Name r2 _) _] => s == ("super" : Str) && i == ("__init__" : Str) && r == f && z == ("self" : Str) && g == f && r2 == f && p2.endLine == p4.line
  | _ => false
theorem init_is {f : Str} {fd : FuncData} (h : initB f fd = true) : ∃ p, fd.body = .stmts (PySem.EvX.initBody "self" f f p) ∧ ((p 2).endLine == (p 4).line) = true := by
  unfold initB at h
  split at h
  · rename_i s p0 p1 i p2 r p3 p4 p5 z p6 g p7 r2 p8 p9 e
    obtain ⟨h, h7⟩ := and2 h
    obtain ⟨h, h6⟩ := and2 h
    obtain ⟨h, h5⟩ := and2 h
    obtain ⟨h, h4⟩ := and2 h
    obtain ⟨h, h3⟩ := and2 h
    obtain ⟨h1, h2⟩ := and2 h
    have e1 := beq_iff_eq.mp h1
    have e2 := beq_iff_eq.mp h2
    have e3 := beq_iff_eq.mp h3
    have e4 := beq_iff_eq.mp h4
    have e5 := beq_iff_eq.mp h5
    have e6 := beq_iff_eq.mp h6
    subst e1 e2 e3 e4 e5 e6
    exact ⟨fun n => match n with
      | 0 => p0
      | 1 => p1
      | 2 => p2
      | 3 => p3
      | 4 => p4
      | 5 => p5
      | 6 => p6
      | 7 => p7
      | 8 => p8
      | _ => p9, e, h7⟩
  · cases h
def parsB (f : Str) (fd : FuncData) : Bool := (match fd.params with
  | ⟨[], [a, b], none, [], [], none, []⟩ => a.arg == ("self" : Str) && b.arg == f && (f == ("reason" : Str) || f == ("at" : Str) || f == ("line" : Str))
  | _ => false) && (match fd.defaults with
  | .none => true
  | _ => false)
theorem pars_is {f : Str} {fd : FuncData} (h : parsB f fd = true) : (∀ a b : Value, bindArgs fd ⟨[a, b], []⟩ = pure [(("self" : Str), a), (f, b)]) ∧ ∃ ar, (fd.params.posonlyargs ++ fd.params.args).head? = some ar ∧ ar.arg = "self" := by
  obtain ⟨h1, h2⟩ := and2 h
  obtain ⟨f1, f2, f3, f4, f5, f6, f7, f8, f9, f10, f11, f12, f13, f14, f15⟩ := fd
  split at h1
  · rename_i a b e
    obtain ⟨h1, i5⟩ := and2 h1
    obtain ⟨i1, i3⟩ := and2 h1
    have e : f3 = ⟨[], [a, b], none, [], [], none, []⟩ := e
    obtain ⟨a1, a2, a3⟩ := a
    obtain ⟨b1, b2, b3⟩ := b
    have e1 : a1 = "self" := beq_iff_eq.mp i1
    have e2 : b1 = f := beq_iff_eq.mp i3
    subst e1 e2 e
    split at h2
    · rename_i e
      have e : f8 = .none := e
      subst e
      rcases Bool.or_eq_true_iff.mp i5 with z | z
      · rcases Bool.or_eq_true_iff.mp z with z | z
        · have y := beq_iff_eq.mp z
          subst y
          exact ⟨fun a b => rfl, _, rfl, rfl⟩
        · have y := beq_iff_eq.mp z
          subst y
          exact ⟨fun a b => rfl, _, rfl, rfl⟩
      · have y := beq_iff_eq.mp z
        subst y
        exact ⟨fun a b => rfl, _, rfl, rfl⟩
    · cases h2
  · cases h1

def scB (f : Str) (fd : FuncData) : Bool := (match fd.scope.kind with
  | .function => true
  | _ => false) && !fd.scope.isCoroutine && !fd.scope.isGenerator && (fd.scope.names.all fun y => y.2 != .cell) && fd.scope.names.lookup ("super" : Str) == some .globalImplicit && fd.scope.names.lookup ("__class__" : Str) == some .free && fd.scope.names.lookup ("self" : Str) == some .local &&
    fd.scope.names.lookup f == some .local
/-- the module's class x, its __init__ as ReasonError has it -/
def xiB (P : Program) (K : PySem.W.Frag) (f x : Str) : Bool := !(("self" : Str) == f) && !(f == ("__debug__" : Str)) && clsB K (He.ga K x) && decide (PySem.W.findIn K (.ref (He.ga K x)) "__init__" = some (some (.ref (He.ma K (He.ga K x) "__init__")))) && (match K.lookup (He.ma K (He.ga K x) "__init__") with
  | some ⟨oc, od, .func fd, osl⟩ => decide (PySem.W.typeIn K (.ref (He.ma K (He.ga K x) "__init__")) = some (.type "function")) && PySem.W.codeIn K fd.code fd.qualname && initB f fd && parsB f fd && scB f fd && (match fd.code with
    | .ref cda => (match K.lookup cda with
      | some ⟨_, _, .fields vs, _⟩ => (match (vs[2]? : Option Value) with
        | some (Value.str file _) => (P.main.file : Str) == file
        | _ => false)
      | _ => false)
    | _ => false) && fd.globals == mainGlobals && fd.builtins == builtinsNs && (match fd.closure.lookup ("__class__" : Str) with
    | some cc => (match K.lookup cc with
      | some ⟨_, _, .cell (some (.ref D)), _⟩ => (PySem.W.clsIn K D).isSome && decide (PySem.W.mroIn K (He.ga K x) (.ref D) = some true) && decide (PySem.W.ks_superIn K (He.ga K x) D "__init__" = some (some (.builtin "ValueError.__init__")))
      | _ => false)
    | none => false)
  | _ => false) && decide (PySem.W.nsIn K cStatics "thirdparty.any" = some none) && decide (PySem.W.subIn K (.ref (He.ga K x)) (.type "ValueError") = some true) && decide (PySem.W.findIn K (.ref (He.ga K x)) "__setattr__" = some (some (.builtin "object.__setattr__"))) &&
  decide (PySem.W.findIn K (.ref (He.ga K x)) f = some none) && decide (PySem.W.subIn K (.ref (He.ga K x)) (.type "BaseException") = some true) && decide (PySem.W.typeIn K (.ref (He.ga K x)) = some (.type "type")) && PySem.W.keepIn K (.ref (He.ga K x)) && !(P.main.scope.names.lookup ("super" : Str)).isSome
theorem xi_of {P : Program} {K : PySem.W.Frag} {f x : Str} (h : xiB P K f x = true) : ∃ D fI cc cda fd, PySem.EvX.XI P K (He.ga K x) D fI cc cda fd f "self" f := by
  unfold xiB at h
  obtain ⟨h, h11⟩ := and2 h
  obtain ⟨h, h10⟩ := and2 h
  obtain ⟨h, h9⟩ := and2 h
  obtain ⟨h, h8⟩ := and2 h
  obtain ⟨h, h7⟩ := and2 h
  obtain ⟨h, h6⟩ := and2 h
  obtain ⟨h, h5⟩ := and2 h
  obtain ⟨h, h4⟩ := and2 h
  obtain ⟨h, h3⟩ := and2 h
  obtain ⟨h, h2⟩ := and2 h
  obtain ⟨h, h1⟩ := and2 h
  obtain ⟨n1, n2⟩ := and2 h
  split at h3
  · rename_i oc od fd osl lk
    obtain ⟨h3, g9⟩ := and2 h3
    obtain ⟨h3, g8⟩ := and2 h3
    obtain ⟨h3, g7⟩ := and2 h3
    obtain ⟨h3, g6⟩ := and2 h3
    obtain ⟨h3, g5⟩ := and2 h3
    obtain ⟨h3, g4⟩ := and2 h3
    obtain ⟨h3, g3⟩ := and2 h3
    obtain ⟨g1, g2⟩ := and2 h3
    split at g6
    · rename_i cda ecd
      split at g6
      · rename_i ccl cdd vs ccs lkc
        split at g6
        · rename_i file tf evs
          split at g9
          · rename_i cc ecl
            split at g9
            · rename_i cl cld D csl lkcell
              obtain ⟨g9, k3⟩ := and2 g9
              obtain ⟨k1, k2⟩ := and2 g9
              obtain ⟨b1, b2⟩ := pars_is g4
              obtain ⟨g5, s8⟩ := and2 g5
              obtain ⟨g5, s7⟩ := and2 g5
              obtain ⟨g5, s6⟩ := and2 g5
              obtain ⟨g5, s5⟩ := and2 g5
              obtain ⟨g5, s4⟩ := and2 g5
              obtain ⟨g5, s3⟩ := and2 g5
              obtain ⟨s1, s2⟩ := and2 g5
              refine ⟨D, _, cc, cda, fd, ⟨cls_of h1, of_decide_eq_true h2, ⟨oc, od, osl, lk⟩, of_decide_eq_true g1, g2, ecd, ⟨ccl, cdd, vs, ccs, file, tf, lkc, evs, g6⟩, init_is g3, b1, b2, ?_, not1 s2, not1 s3, fun y hy => ?_, beq_iff_eq.mp s5, beq_iff_eq.mp s6, beq_iff_eq.mp s7, beq_iff_eq.mp s8, not1 n1, by decide, not1 n2,
                ecl, beq_iff_eq.mp g7, beq_iff_eq.mp g8, ⟨cl, cld, csl, lkcell⟩, ?_, of_decide_eq_true k2, of_decide_eq_true h4, of_decide_eq_true k3, of_decide_eq_true h5, of_decide_eq_true h6, of_decide_eq_true h7, of_decide_eq_true h8, of_decide_eq_true h9, h10, not1 h11⟩⟩
              · split at s1
                · assumption
                · cases s1
              · exact bne_iff_ne.mp (List.all_eq_true.mp s4 y hy)
              · obtain ⟨cdD, e⟩ := Option.isSome_iff_exists.mp k1
                unfold PySem.W.clsIn at e
                split at e
                · rename_i c' d' cd' sl' ho
                  exact ⟨c', d', cd', sl', ho⟩
                · cases e
            · cases g9
          · cases g9
        · cases g6
      · cases g6
    · cases g6
  · cases h3
def initB2 (f g : Str) (fd : FuncData) : Bool := match fd.body with
  | .stmts [.Expr (.Call (.Attribute (.Call (.Name s _) [] [] _) i p2) [.Name r _, .Name t _] [] p4) _, .Assign [.Attribute (.Name z _) g1 _] (.Name r2 _) _, .Assign [.Attribute (.Name z2 _) g2 _] (.Name r3 _) _] => s == ("super" : Str) && i == ("__init__" : Str) && r == f && t == g && z == ("self" : Str) && g1 == f && r2 == f &&
    z2 == ("self" : Str) && g2 == g && r3 == g && p2.endLine == p4.line
  | _ => false
theorem init_is2 {f g : Str} {fd : FuncData} (h : initB2 f g fd = true) : ∃ p, fd.body = .stmts (PySem.EvX.initBody2 "self" f g p) ∧ ((p 2).endLine == (p 4).line) = true := by
  unfold initB2 at h
  split at h
  · rename_i s p0 p1 i p2 r p3 t p10 p4 p5 z p6 g1 p7 r2 p8 p9 z2 p11 g2 p12 r3 p13 p14 e
    obtain ⟨h, h11⟩ := and2 h
    obtain ⟨h, h10⟩ := and2 h
    obtain ⟨h, h9⟩ := and2 h
    obtain ⟨h, h8⟩ := and2 h
    obtain ⟨h, h7⟩ := and2 h
    obtain ⟨h, h6⟩ := and2 h
    obtain ⟨h, h5⟩ := and2 h
    obtain ⟨h, h4⟩ := and2 h
    obtain ⟨h, h3⟩ := and2 h
    obtain ⟨h1, h2⟩ := and2 h
    have e1 := beq_iff_eq.mp h1
    have e2 := beq_iff_eq.mp h2
    have e3 := beq_iff_eq.mp h3
    have e4 := beq_iff_eq.mp h4
    have e5 := beq_iff_eq.mp h5
    have e6 := beq_iff_eq.mp h6
    have e7 := beq_iff_eq.mp h7
    have e8 := beq_iff_eq.mp h8
    have e9 := beq_iff_eq.mp h9
    have e10 := beq_iff_eq.mp h10
    subst e1 e2 e3 e4 e5 e6 e7 e8 e9 e10
    exact ⟨fun n => match n with
      | 0 => p0
      | 1 => p1
      | 2 => p2
      | 3 => p3
      | 4 => p4
      | 5 => p5
      | 6 => p6
      | 7 => p7
      | 8 => p8
      | 9 => p9
      | 10 => p10
      | 11 => p11
      | 12 => p12
      | 13 => p13
      | _ => p14, e, h11⟩
  · cases h
def parsB2 (f g : Str) (fd : FuncData) : Bool := (match fd.params with
  | ⟨[], [a, b, d], none, [], [], none, []⟩ => a.arg == ("self" : Str) && b.arg == f && d.arg == g && (f == ("number" : Str) && g == ("reason" : Str))
  | _ => false) && (match fd.defaults with
  | .none => true
  | _ => false)
theorem pars_is2 {f g : Str} {fd : FuncData} (h : parsB2 f g fd = true) : (∀ a b e : Value, bindArgs fd ⟨[a, b, e], []⟩ = pure [(("self" : Str), a), (f, b), (g, e)]) ∧ ∃ ar, (fd.params.posonlyargs ++ fd.params.args).head? = some ar ∧ ar.arg = "self" := by
  obtain ⟨h1, h2⟩ := and2 h
  obtain ⟨f1, f2, f3, f4, f5, f6, f7, f8, f9, f10, f11, f12, f13, f14, f15⟩ := fd
  split at h1
  · rename_i a b d e
    obtain ⟨h1, i5⟩ := and2 h1
    obtain ⟨h1, i4⟩ := and2 h1
    obtain ⟨i1, i3⟩ := and2 h1
    have e : f3 = ⟨[], [a, b, d], none, [], [], none, []⟩ := e
    obtain ⟨a1, a2, a3⟩ := a
    obtain ⟨b1, b2, b3⟩ := b
    obtain ⟨d1, d2, d3⟩ := d
    have e1 : a1 = "self" := beq_iff_eq.mp i1
    have e2 : b1 = f := beq_iff_eq.mp i3
    have e3 : d1 = g := beq_iff_eq.mp i4
    subst e1 e2 e3 e
    split at h2
    · rename_i e
      have e : f8 = .none := e
      subst e
      obtain ⟨z1, z2⟩ := and2 i5
      have y1 := beq_iff_eq.mp z1
      have y2 := beq_iff_eq.mp z2
      subst y1 y2
      exact ⟨fun a b e => rfl, _, rfl, rfl⟩
    · cases h2
  · cases h1

def scB2 (f g : Str) (fd : FuncData) : Bool := (match fd.scope.kind with
  | .function => true
  | _ => false) && !fd.scope.isCoroutine && !fd.scope.isGenerator && (fd.scope.names.all fun y => y.2 != .cell) && fd.scope.names.lookup ("super" : Str) == some .globalImplicit && fd.scope.names.lookup ("__class__" : Str) == some .free && fd.scope.names.lookup ("self" : Str) == some .local &&
    fd.scope.names.lookup f == some .local && fd.scope.names.lookup g == some .local
def xiB2 (P : Program) (K : PySem.W.Frag) (f g x : Str) : Bool := !(("self" : Str) == f) && !(("self" : Str) == g) && !(f == g) && !(f == ("__debug__" : Str)) && !(g == ("__debug__" : Str)) && decide (PySem.W.findIn K (.ref (He.ga K x)) g = some none) && clsB K (He.ga K x) && decide (PySem.W.findIn K (.ref (He.ga K x)) "__init__" = some (some (.ref (He.ma K (He.ga K x) "__init__")))) && (match K.lookup (He.ma K (He.ga K x) "__init__") with
  | some ⟨oc, od, .func fd, osl⟩ => decide (PySem.W.typeIn K (.ref (He.ma K (He.ga K x) "__init__")) = some (.type "function")) && PySem.W.codeIn K fd.code fd.qualname && initB2 f g fd && parsB2 f g fd && scB2 f g fd && (match fd.code with
    | .ref cda => (match K.lookup cda with
      | some ⟨_, _, .fields vs, _⟩ => (match (vs[2]? : Option Value) with
        | some (Value.str file _) => (P.main.file : Str) == file
        | _ => false)
      | _ => false)
    | _ => false) && fd.globals == mainGlobals && fd.builtins == builtinsNs && (match fd.closure.lookup ("__class__" : Str) with
    | some cc => (match K.lookup cc with
      | some ⟨_, _, .cell (some (.ref D)), _⟩ => (PySem.W.clsIn K D).isSome && decide (PySem.W.mroIn K (He.ga K x) (.ref D) = some true) && decide (PySem.W.ks_superIn K (He.ga K x) D "__init__" = some (some (.builtin "ValueError.__init__")))
      | _ => false)
    | none => false)
  | _ => false) && decide (PySem.W.nsIn K cStatics "thirdparty.any" = some none) && decide (PySem.W.subIn K (.ref (He.ga K x)) (.type "ValueError") = some true) && decide (PySem.W.findIn K (.ref (He.ga K x)) "__setattr__" = some (some (.builtin "object.__setattr__"))) &&
  decide (PySem.W.findIn K (.ref (He.ga K x)) f = some none) && decide (PySem.W.subIn K (.ref (He.ga K x)) (.type "BaseException") = some true) && decide (PySem.W.typeIn K (.ref (He.ga K x)) = some (.type "type")) && PySem.W.keepIn K (.ref (He.ga K x)) && !(P.main.scope.names.lookup ("super" : Str)).isSome
theorem xi_of2 {P : Program} {K : PySem.W.Frag} {f g x : Str} (h : xiB2 P K f g x = true) : ∃ D fI cc cda fd, PySem.EvX.XI2 P K (He.ga K x) D fI cc cda fd "self" f g := by
  unfold xiB2 at h
  obtain ⟨h, h11⟩ := and2 h
  obtain ⟨h, h10⟩ := and2 h
  obtain ⟨h, h9⟩ := and2 h
  obtain ⟨h, h8⟩ := and2 h
  obtain ⟨h, h7⟩ := and2 h
  obtain ⟨h, h6⟩ := and2 h
  obtain ⟨h, h5⟩ := and2 h
  obtain ⟨h, h4⟩ := and2 h
  obtain ⟨h, h3⟩ := and2 h
  obtain ⟨h, h2⟩ := and2 h
  obtain ⟨h, h1⟩ := and2 h
  obtain ⟨h, n6⟩ := and2 h
  obtain ⟨h, n5⟩ := and2 h
  obtain ⟨h, n4⟩ := and2 h
  obtain ⟨h, n3⟩ := and2 h
  obtain ⟨n1, n2⟩ := and2 h
  split at h3
  · rename_i oc od fd osl lk
    obtain ⟨h3, g9⟩ := and2 h3
    obtain ⟨h3, g8⟩ := and2 h3
    obtain ⟨h3, g7⟩ := and2 h3
    obtain ⟨h3, g6⟩ := and2 h3
    obtain ⟨h3, g5⟩ := and2 h3
    obtain ⟨h3, g4⟩ := and2 h3
    obtain ⟨h3, g3⟩ := and2 h3
    obtain ⟨g1, g2⟩ := and2 h3
    split at g6
    · rename_i cda ecd
      split at g6
      · rename_i ccl cdd vs ccs lkc
        split at g6
        · rename_i file tf evs
          split at g9
          · rename_i cc ecl
            split at g9
            · rename_i cl cld D csl lkcell
              obtain ⟨g9, k3⟩ := and2 g9
              obtain ⟨k1, k2⟩ := and2 g9
              obtain ⟨b1, b2⟩ := pars_is2 g4
              obtain ⟨g5, s9⟩ := and2 g5
              obtain ⟨g5, s8⟩ := and2 g5
              obtain ⟨g5, s7⟩ := and2 g5
              obtain ⟨g5, s6⟩ := and2 g5
              obtain ⟨g5, s5⟩ := and2 g5
              obtain ⟨g5, s4⟩ := and2 g5
              obtain ⟨g5, s3⟩ := and2 g5
              obtain ⟨s1, s2⟩ := and2 g5
              refine ⟨D, _, cc, cda, fd, ⟨cls_of h1, of_decide_eq_true h2, ⟨oc, od, osl, lk⟩, of_decide_eq_true g1, g2, ecd, ⟨ccl, cdd, vs, ccs, file, tf, lkc, evs, g6⟩, init_is2 g3, b1, b2, ?_, not1 s2, not1 s3, fun y hy => ?_, beq_iff_eq.mp s5, beq_iff_eq.mp s6, beq_iff_eq.mp s7, beq_iff_eq.mp s8, beq_iff_eq.mp s9, not1 n1, not1 n2, not1 n3, by decide, not1 n4, not1 n5,
                ecl, beq_iff_eq.mp g7, beq_iff_eq.mp g8, ⟨cl, cld, csl, lkcell⟩, ?_, of_decide_eq_true k2, of_decide_eq_true h4, of_decide_eq_true k3, of_decide_eq_true h5, of_decide_eq_true h6, of_decide_eq_true h7, of_decide_eq_true n6, of_decide_eq_true h8, of_decide_eq_true h9, h10, not1 h11⟩⟩
              · split at s1
                · assumption
                · cases s1
              · exact bne_iff_ne.mp (List.all_eq_true.mp s4 y hy)
              · obtain ⟨cdD, e⟩ := Option.isSome_iff_exists.mp k1
                unfold PySem.W.clsIn at e
                split at e
                · rename_i c' d' cd' sl' ho
                  exact ⟨c', d', cd', sl', ho⟩
                · cases e
            · cases g9
          · cases g9
        · cases g6
      · cases g6
    · cases g6
  · cases h3
def excCB (K : PySem.W.Frag) (D : Addr) : Bool := decide (PySem.W.findIn K (.ref D) "__class__" = some (some (.builtin "object.__class__"))) && decide (PySem.W.specialIn K (.builtin "object.__class__") "__get__" = some (some (.builtin "getset_descriptor.__get__"))) &&
  decide (PySem.W.takesIn K (.builtin "object.__class__") = some true) && decide (PySem.W.mroIn K D (.type "object") = some true)
/-- all that is asked of the error classes -/
def weB (P : Program) (K : PySem.W.Frag) (c : Ck) : Bool := decide (PySem.W.nsIn K mainGlobals "super" = some none) && decide (PySem.W.nsIn K mainGlobals "ValueError" = some none) && (c.G.ecs.all fun e => decide (PySem.W.kitOne K (.ref (He.ga K e.name)) (.type "ValueError") = some true)) && (c.exn.all fun Y => decide (PySem.W.nsIn K mainGlobals Y = some (some (.ref (He.ga K Y))))) &&
  ((List.range c.G.ecs.length).all fun i => match c.G.ecs[i]? with
    | some e => (match e.fs with
      | [f] => xiB P K f e.name
      | [f, g] => xiB2 P K f g e.name
      | _ => false) && decide (PySem.W.nsIn K mainGlobals e.name = some (some (.ref (He.ga K e.name)))) && xfB K (He.ga K e.name) && excCB K (He.ga K e.name) && (c.exn.all fun Y =>
      decide (PySem.W.exmOne K (.ref (He.ga K e.name)) (.ref (He.ga K Y)) = some (c.G.takes i Y)) && decide (PySem.W.kitOne K (.ref (He.ga K e.name)) (.ref (He.ga K Y)) = some (c.G.takes i Y)))
    | none => false)
theorem we_of {P : Program} {K : PySem.W.Frag} {mg : Str → Option Value} {h : Heap} {c : Ck} (X : K.In h) (Gn : h.Ns mainGlobals mg) (q : weB P K c = true) : We P K mg c := by
  obtain ⟨q, q3⟩ := and2 q
  obtain ⟨q, q2⟩ := and2 q
  obtain ⟨q, q4⟩ := and2 q
  obtain ⟨q1, q5⟩ := and2 q
  have nm : ∀ Y, c.exn.contains Y = true → mg Y = some (.ref (He.ga K Y)) := fun Y hY => PySem.W.mg_of X Gn (of_decide_eq_true (List.all_eq_true.mp q2 Y (List.contains_iff_mem.mp hY)))
  refine ⟨PySem.W.mg_none_of X Gn (of_decide_eq_true q1), fun Y hY => ⟨_, nm Y hY⟩, fun i e he => ?_, PySem.W.mg_none_of X Gn (of_decide_eq_true q5), fun i e he Ca hC => ?_⟩
  rotate_left
  · have z := List.all_eq_true.mp q3 i (List.mem_range.mpr (List.getElem?_eq_some_iff.mp he).1)
    rw [he] at z
    have z7 : mg e.name = some (.ref (He.ga K e.name)) := by
      obtain ⟨z, _⟩ := and2 z
      obtain ⟨z, _⟩ := and2 z
      obtain ⟨z, _⟩ := and2 z
      exact PySem.W.mg_of X Gn (of_decide_eq_true (and2 z).2)
    have z8 : some (Value.ref Ca) = some (.ref (He.ga K e.name)) := hC.symm.trans z7
    cases z8
    exact of_decide_eq_true (List.all_eq_true.mp q4 e (List.mem_of_getElem? he))
  have z := List.all_eq_true.mp q3 i (List.mem_range.mpr (List.getElem?_eq_some_iff.mp he).1)
  rw [he] at z
  obtain ⟨z, z6⟩ := and2 z
  obtain ⟨z, z5⟩ := and2 z
  obtain ⟨z, z4⟩ := and2 z
  obtain ⟨z1, z2⟩ := and2 z
  have mk : Mks P K (He.ga K e.name) e.fs := by
    split at z1
    · rename_i f ef
      obtain ⟨D, fI, cc, cda, fd, xi⟩ := xi_of z1
      exact .inl ⟨D, fI, cc, cda, fd, f, _, _, ef, xi⟩
    · rename_i f g ef
      obtain ⟨D, fI, cc, cda, fd, xi⟩ := xi_of2 z1
      exact .inr ⟨D, fI, cc, cda, fd, _, f, g, ef, xi⟩
    · cases z1
  have xf := xfB_ok z4
  obtain ⟨z5, y4⟩ := and2 z5
  obtain ⟨z5, y3⟩ := and2 z5
  obtain ⟨y1, y2⟩ := and2 z5
  refine ⟨_, PySem.W.mg_of X Gn (of_decide_eq_true z2), mk, xf, ⟨xf.ga, xf.gg, xf.exC, xf.hdC, of_decide_eq_true y1, of_decide_eq_true y2, of_decide_eq_true y3, of_decide_eq_true y4⟩, fun Y CY hY eY => ?_⟩
  rw [nm Y hY] at eY
  cases eY
  obtain ⟨w1, w2⟩ := and2 (List.all_eq_true.mp z6 Y (List.contains_iff_mem.mp hY))
  exact ⟨of_decide_eq_true w1, of_decide_eq_true w2⟩
/-! ### constants -/
/-- a row of ints as it stands -/
def intsB : List A → List Value → Bool
  | [], [] => true
  | .int i :: r, .int j _ :: s => i == j && intsB r s
  | _, _ => false
/-- a tuple that stands -/
def tupB (K : PySem.W.Frag) (a : Addr) (xs : List A) : Bool := match K.lookup a with
  | some o => match o.cls, o.data with
    | .type n, .seq its _ => n == "tuple" && decide (its.size ≤ sizeLine) && intsB xs its.toList
    | _, _ => false
  | none => false
theorem intsB_ras {S : Ws} {r : List Addr} {H : Hp} : ∀ {xs : List A} {us : List Value}, intsB xs us = true → ∃ vs, Vals vs us ∧ Ras S r H xs vs
  | [], [], _ => ⟨[], .nil, .nil⟩
  | .int i :: xs, .int j t :: us, q => by
    obtain ⟨q1, q2⟩ := and2 (show (i == j && intsB xs us) = true from q)
    have e : i = j := beq_iff_eq.mp q1
    subst e
    obtain ⟨vs, h1, h2⟩ := intsB_ras (S := S) (r := r) (H := H) q2
    exact ⟨.int i :: vs, .cons ⟨t, rfl⟩ h1, .cons (.int i) h2⟩
theorem tupB_ra {S : Ws} {r : List Addr} {H : Hp} {a : Addr} {xs : List A} (q : tupB S.K a xs = true) : Ra S r H (.tup xs) (.ref a) := by
  unfold tupB at q
  split at q
  · rename_i o e
    split at q
    · rename_i n its k e1 e2
      obtain ⟨q, q3⟩ := and2 q
      obtain ⟨q1, q2⟩ := and2 q
      obtain ⟨vs, h1, h2⟩ := intsB_ras (S := S) (r := r) (H := H) q3
      exact .tup (.inr ⟨o, its, k, e, by rw [e1, beq_iff_eq.mp q1], e2, of_decide_eq_true q2, h1⟩) h2
    · cases q
  · cases q
def ctB (K : PySem.W.Frag) (p : Str × A) : Bool := match PySem.W.nsIn K mainGlobals p.1, p.2 with
  | some (some (.int j _)), .int i => i == j
  | some (some (.str z _)), .str y => z == y
  | some (some (.ref a)), .tup xs => tupB K a xs
  | _, _ => false
theorem ct_of {K : PySem.W.Frag} {mg : Str → Option Value} {h : Heap} {G : Pg} (X : K.In h) (Gn : h.Ns mainGlobals mg) {p : Str × A} (q : ctB K p = true) : ∃ u v, mg p.1 = some u ∧ RelV v u ∧ ∀ (b : A), A.beq b p.2 = true → ∀ r H, Ra ⟨K, mg, G⟩ r H b v := by
  obtain ⟨x, a⟩ := p
  unfold ctB at q
  split at q
  · rename_i j t i e1 e2
    have e2 : a = .int i := e2
    have e3 : i = j := beq_iff_eq.mp q
    subst e2 e3
    exact ⟨_, .int i, PySem.W.mg_of X Gn e1, ⟨t, rfl⟩, fun b hb r H => by rw [A.beq_is _ _ hb]; exact .int i⟩
  · rename_i z t y e1 e2
    have e2 : a = .str y := e2
    have e3 : z = y := beq_iff_eq.mp q
    subst e2 e3
    exact ⟨_, .str z, PySem.W.mg_of X Gn e1, ⟨t, rfl⟩, fun b hb r H => by rw [A.beq_is _ _ hb]; exact .str z⟩
  · rename_i a' xs e1 e2
    have e2 : a = .tup xs := e2
    subst e2
    exact ⟨_, .ref a', PySem.W.mg_of X Gn e1, rfl, fun b hb r H => by rw [A.beq_is _ _ hb]; exact tupB_ra (S := ⟨K, mg, G⟩) q⟩
  · cases q
theorem look_mem {x : Str} {a : A} : ∀ {l : List (Str × A)}, look x l = some a → (x, a) ∈ l
  | [], e => by
    unfold look at e
    cases e
  | (g, y) :: l, e => by
    unfold look at e
    split at e
    · rename_i z
      have z := beq_iff_eq.mp z
      cases e
      rw [z]
      exact List.mem_cons_self
    · exact List.mem_cons_of_mem _ (look_mem e)
/-! ### defs -/
def fnsB (N P : List Str) (sc : Scope) : Bool := (match sc.kind with
  | .function => true
  | _ => false) && !sc.isCoroutine && !sc.isGenerator && decide N.Nodup && decide (N.take P.length = P) && (P.all fun x => decide (sc.names.lookup x = some .local) || decide (sc.names.lookup x = some .cell)) && (sc.names.all fun y => y.2 != .free)
theorem fns_of {N P : List Str} {sc : Scope} (q : fnsB N P sc = true) : FnScope N P sc := by
  obtain ⟨q, q7⟩ := and2 q
  obtain ⟨q, q6⟩ := and2 q
  obtain ⟨q, q5⟩ := and2 q
  obtain ⟨q, q4⟩ := and2 q
  obtain ⟨q, q3⟩ := and2 q
  obtain ⟨q1, q2⟩ := and2 q
  refine ⟨?_, not1 q2, not1 q3, of_decide_eq_true q4, of_decide_eq_true q5, fun x hx => ?_, fun y hy => bne_iff_ne.mp (List.all_eq_true.mp q7 y hy)⟩
  · split at q1
    · assumption
    · cases q1
  · exact (Bool.or_eq_true_iff.mp (List.all_eq_true.mp q6 x hx)).imp of_decide_eq_true of_decide_eq_true
/-- a def of the text's top: how it binds, and that its lines are the term's -/
structure Dd (c : Ck) (d : Df) (st : Stmt) : Prop where
  bind : ∀ (kV doc pm : Value) (an : Option Addr) (cdv ct : Value) (us : List Value), us.length = (d.N.take d.ps).length → bindArgs (PySem.W.fnOf d.name d.name (defArgs st) (defBody st) (defScope st) .none kV doc pm an cdv ct) ⟨us, []⟩ = pure ((d.N.take d.ps).zip us)
  chk : (fnsB d.N (d.N.take d.ps) (defScope st) && decide ((d.N.take d.ps).length = d.ps) && ckSs { c with N := d.N } (defScope st) d.body (defBody st)) = true
theorem dk_of {P : Program} {K : PySem.W.Frag} {mg : Str → Option Value} {h : Heap} {c : Ck} {d : Df} {st : Stmt} {f : Addr} {fd : FuncData} (X : K.In h) (Gn : h.Ns mainGlobals mg) (q : Dd c d st) (hf : mg d.name = some (.ref f)) (F : FunD K d.name d.name (defArgs st) (defBody st) (defScope st) [] [] f fd) : Dk P K mg c d := by
  obtain ⟨c1, c3⟩ := and2 q.chk
  obtain ⟨c1, c2⟩ := and2 c1
  have b := F.bindsN (ps := d.N.take d.ps) q.bind
  obtain ⟨oc, od, dV, kV, doc, pm, an, cdv, ct, osl, rfl, lk, hcd, hD, hK⟩ := F.ex
  have sc := fns_of c1
  exact ⟨f, d.name, defArgs st, defBody st, defScope st, oc, od, dV, kV, doc, pm, an, cdv, ct, osl, hf, F.kp, lk, hcd, b, sc, of_decide_eq_true c2, fun F k X W _ _ _ => okSs (F := F) d.body _ _ c3 X W⟩
end Ev

/-! text Fw25 -/
set_option Elab.async false
set_option linter.all false
set_option maxRecDepth 100000
set_option maxHeartbeats 4000000
/-! Ev: the head's look, and what the walk takes of it. -/
namespace Ev
open PySem PySem.Spec PyProof.Rows L2
/-- the objects that are looked at: those that the names reach, the run's statics, the functions' cells -/
def reach (g : Addr → Option Obj) (n : Nat) : List Addr := (He.asD g n ++ cStatics :: (He.asD g n).flatMap fun a => match g a with
  | some ⟨_, _, .func fd, _⟩ => fd.closure.map (·.2)
  | _ => []).eraseDups
abbrev Al : Type := He.AlD × Bool
def look1 (n : Nat) (fn : List He.DefD) (B : PySem.W.Frag → Bool) (g : Addr → Option Obj) : Al := (He.obsD [] fn (He.frG g (reach g n)), B (He.frG g (reach g n)))
def hookE (n : Nat) (fn : List He.DefD) (B : PySem.W.Frag → Bool) : PySem.W.Hook where
  α := Al
  obs := fun s => look1 n fn B s.heap.get?
  val := fun _ => (He.valD fn, true)
  says := fun _ h => ∃ K : PySem.W.Frag, K.In h ∧ He.SaysD [] fn K ∧ B K = true
  of := fun _ _ e => ⟨_, He.frG_in, congrArg (fun z : Al => z.1) e, congrArg (fun z : Al => z.2) e⟩
  keeps := fun _ _ _ ⟨K, a, b, d⟩ k => ⟨K, PySem.W.Frag.In.keeps a k, b, d⟩
theorem look1_eq {n : Nat} {fn : List He.DefD} {B : PySem.W.Frag → Bool} {g : Addr → Option Obj} {s : Shared} (h : ∀ a, g a = s.heap.get? a) : look1 n fn B g = (hookE n fn B).obs s := by
  obtain rfl : g = s.heap.get? := funext h
  rfl
def builtNames : List String := ["len", "abs", "int", "bool", "max", "min", "sum", "any", "all", "tuple", "list", "isinstance", "repr", "range", "zip", "enumerate", "str"]
/-- what is asked of the written part besides the defs' objects -/
def partB (P : Program) (c : Ck) (K : PySem.W.Frag) : Bool := weB P K c && (c.cts.all fun p => ctB K p) && (builtNames.all fun x => decide (PySem.W.nsIn K mainGlobals (x : Str) = some none)) && (c.G.defs.all fun d => decide (PySem.W.nsIn K mainGlobals d.name = some (some (.ref (He.ga K d.name)))))
def dfn (d : Df) (st : Stmt) : He.DefD := ⟨(d.name, none), d.name, d.name, defArgs st, defBody st, defScope st, [], []⟩
def AllD (c : Ck) : List Df → List Stmt → Prop
  | [], [] => True
  | d :: ds, s :: ss => Dd c d s ∧ AllD c ds ss
  | _, _ => False
theorem AllD.get {c : Ck} : ∀ {ds : List Df} {ss : List Stmt} {i : Nat} {d : Df}, AllD c ds ss → ds[i]? = some d → ∃ s, ss[i]? = some s ∧ Dd c d s
  | [], _, _, _, _, e => by simp at e
  | _ :: _, [], _, _, h, _ => False.elim h
  | d :: ds, s :: ss, 0, _, h, e => by
    simp at e
    subst e
    exact ⟨s, rfl, h.1⟩
  | d :: ds, s :: ss, i + 1, d', h, e => by
    obtain ⟨s', e1, q⟩ := AllD.get (i := i) (d := d') h.2 (by simpa using e)
    exact ⟨s', by simpa using e1, q⟩
theorem wk_of {P : Program} {K : PySem.W.Frag} {mg : Str → Option Value} {h : Heap} {c : Ck} {ss : List Stmt} (X : K.In h) (Gn : h.Ns mainGlobals mg) (D : AllD c c.G.defs ss) (sd : He.SaysD [] (List.zipWith dfn c.G.defs ss) K) (q : partB P c K = true) : Wk0 P K mg c := by
  obtain ⟨q, q4⟩ := and2 q
  obtain ⟨q, q3⟩ := and2 q
  obtain ⟨q1, q2⟩ := and2 q
  refine ⟨fun f d hd => ?_, fun x hx => ?_, fun x a e => ?_, we_of X Gn q1⟩
  · obtain ⟨s, e1, dd⟩ := D.get hd
    obtain ⟨fd, F⟩ := sd.def_ f (d := dfn d s) (by rw [List.getElem?_zipWith, hd, e1])
    exact dk_of X Gn dd (PySem.W.mg_of X Gn (of_decide_eq_true (List.all_eq_true.mp q4 d (List.mem_of_getElem? hd)))) F
  · exact PySem.W.mg_none_of X Gn (of_decide_eq_true (List.all_eq_true.mp q3 x (List.contains_iff_mem.mp hx)))
  · exact ct_of X Gn (List.all_eq_true.mp q2 (x, a) (look_mem e))
end Ev

/-! text Pl1 -/
set_option Elab.async false
set_option linter.all false
set_option maxRecDepth 100000
set_option maxHeartbeats 4000000
/-! the draws of a law: every one is a whole number below what is asked -/
namespace Pl
open PySem Ev
/-! ### computing by rewriting -/
theorem bind_ok {α β : Type} (a : α) (h : Ho) (f : α → Ho → R β) : (R.ok a h).bind f = f a h := rfl
theorem then_ok {α : Type} (a : α) (h : Ho) (s : Sl) (f : α → Ho → Ot) : (R.ok a h).then s f = f a h := rfl
theorem nx_then (s : Sl) (h : Ho) (f : Sl → Ho → Ot) : (Ot.nx s h).then f = f s h := rfl
theorem rt_then (a : A) (h : Ho) (f : Sl → Ho → Ot) : (Ot.rt a h).then f = .rt a h := rfl
theorem give_some {α : Type} (a : α) (h : Ho) : give (some a) h = .ok a h := rfl
theorem b_add (i j : Int) (h : Ho) : binA .Add (.int i) (.int j) h = .ok (.int (i + j)) h := rfl
theorem b_sub (i j : Int) (h : Ho) : binA .Sub (.int i) (.int j) h = .ok (.int (i - j)) h := rfl
theorem b_mul {i j : Int} (e : mulOk i j = true) (h : Ho) : binA .Mult (.int i) (.int j) h = .ok (.int (i * j)) h := by
  show (if mulOk i j = true then _ else _) = _
  rw [if_pos e]
theorem b_mod {i j : Int} (e : (j != 0) = true) (h : Ho) : binA .Mod (.int i) (.int j) h = .ok (.int (i.fmod j)) h := by
  show (if (j != 0) = true then _ else _) = _
  rw [if_pos e]
theorem b_div {i j : Int} (e : divOk j = true) (h : Ho) : binA .FloorDiv (.int i) (.int j) h = .ok (.int (i.fdiv j)) h := by
  show (if divOk j = true then _ else _) = _
  rw [if_pos e]
theorem t_int (i : Int) (h : Ho) : bltA .int [.int i] h = .ok (.int i) h := rfl
def iabs (i : Int) : Int := if i < 0 then -i else i
theorem t_abs (i : Int) (h : Ho) : bltA .abs [.int i] h = .ok (.int (iabs i)) h := rfl
theorem t_len {n : Nat} {xs : List A} {h : Ho} (e : seqOf h n = some xs) : bltA .len [.ref n] h = .ok (.int xs.length) h := by
  show (match seqOf h n with
    | some ys => R.ok (A.int ys.length) h
    | none => R.err) = _
  rw [e]
theorem tr_ref {n : Nat} {xs : List A} {h : Ho} (e : seqOf h n = some xs) : truth (.ref n) h = some (!xs.isEmpty) := by
  show (seqOf h n).map _ = _
  rw [e]
  rfl
theorem sub_ref {n : Nat} {xs : List A} {h : Ho} {k : Int} {j : Nat} {a : A} (e : seqOf h n = some xs) (ej : idx xs.length k = some j) (ea : xs[j]? = some a) : subA (.ref n) (.int k) h = some a := by
  show (seqOf h n).bind _ = _
  rw [e, Option.bind_some, ej, Option.bind_some, ea]
theorem idx_nat {n j : Nat} (h : j < n) : idx n (j : Int) = some j := by
  unfold idx
  rw [if_pos (by omega)]
  simp [h]
def nums (ds : List Int) : List A := ds.map A.int
/-- a drawn number -/
def Dn (d : Int) : Prop := 0 ≤ d ∧ d < 2 ^ 32
theorem mul_ok {i j : Int} (hi : i.natAbs < 2 ^ 60) (hj : j.natAbs < 2 ^ 60) : mulOk i j = true := by
  have h : ∀ {n : Nat}, n < 2 ^ 60 → n.log2 < 60 := fun {n} h => by
    cases Nat.decEq n 0 with
    | isTrue e =>
      subst e
      decide
    | isFalse e => exact (Nat.log2_lt e).mpr h
  have a := h hi
  have b := h hj
  unfold mulOk
  exact Nat.ble_eq_true_of_le (by omega)
theorem line_small {n : Nat} (h : n ≤ 16777216) : lineOk n = true := Nat.ble_eq_true_of_le h

/-! ### _law_more, _law_take, _law_one -/
def eTurn : E := .bin .Mod (.blt .int [.bin .Add (.bin .Add (.bin .Mult (.var 2) (.lit (.int 16807))) (.bin .Mult (.lit (.int 69621)) (.var 3))) (.lit (.int 5))]) (.lit (.int 2147483629))
def bTurn : List S := [.ife (.val (.var 0)) [.asg (.nm 2) (.bin .Add (.var 2) (.sub (.var 0) (.bin .Mod (.blt .int [.bin .Add (.bin .Mult (.var 1) (.bin .Add (.var 3) (.lit (.int 5)))) (.var 3)]) (.blt .len [.var 0]))))] [], .asg (.nm 2) eTurn]
def bMore : List S := [.asg (.nm 2) (.bin .Mod (.blt .int [.bin .Add (.bin .Add (.bin .Mult (.var 1) (.lit (.int 48271))) (.blt .len [.var 0])) (.lit (.int 11))]) (.lit (.int 2147483629))), .for_ (.nm 3) (.rg [.lit (.int 3)]) bTurn, .ret (.bin .FloorDiv (.var 2) (.lit (.int 1009)))]
def bTake (iM : Nat) : List S := [.asg (.nm 3) (.sub (.var 1) (.lit (.int 0))), .sto (.var 1) (.lit (.int 0)) (.bin .Add (.var 3) (.lit (.int 1))), .ret (.bin .Mod (.blt .int [.ite (.val (.cmp .Lt (.var 3) (.blt .len [.var 0]))) (.sub (.var 0) (.var 3)) (.call iM [.var 0, .var 3])]) (.var 2))]
def bOne (iT : Nat) : List S := [.ret (.sub (.var 0) (.call iT [.var 1, .var 2, .blt .len [.var 0]]))]
theorem nums_len (ds : List Int) : (nums ds).length = ds.length := List.length_map ..
theorem nums_get {ds : List Int} {j : Nat} (h : j < ds.length) : ∃ d, d ∈ ds ∧ (nums ds)[j]? = some (.int d) := by
  refine ⟨ds[j], List.getElem_mem h, ?_⟩
  unfold nums
  rw [List.getElem?_map, List.getElem?_eq_getElem h]
  rfl
theorem fmod_lt {i j : Int} (h : 0 < j) : 0 ≤ i.fmod j ∧ i.fmod j < j := ⟨Int.fmod_nonneg_of_pos _ h, Int.fmod_lt_of_pos _ h⟩
section
variable {P : Pg} {F : Nat} {C : Nat → List A → Ho → R A} {h : Ho} {i : Nat} {ds : List Int} {k : Nat}
theorem turn_ok (hs : seqOf h i = some (nums ds)) (hd : ∀ d ∈ ds, Dn d) (hl : ds.length ≤ 100000) (hk : k < 2 ^ 20) {m j : Int} (hm : 0 ≤ m ∧ m < 2 ^ 32) (hj : 0 ≤ j ∧ j < 100) :
    ∃ m', (0 ≤ m' ∧ m' < 2 ^ 32) ∧ evSs P F C bTurn [some (.ref i), some (.int k), some (.int m), some (.int j)] h = .nx [some (.ref i), some (.int k), some (.int m'), some (.int j)] h := by
  have hk' : (2 : Nat) ^ 20 = 1048576 := by decide
  have e32 : (2 : Int) ^ 32 = 4294967296 := by decide
  have n60 : (2 : Nat) ^ 60 = 1152921504606846976 := by decide
  -- the second line, from any m
  have two : ∀ m : Int, 0 ≤ m → m < 2 ^ 34 → evS P F C (.asg (.nm 2) eTurn) [some (.ref i), some (.int k), some (.int m), some (.int j)] h = .nx [some (.ref i), some (.int k), some (.int ((m * 16807 + 69621 * j + 5).fmod 2147483629)), some (.int j)] h := fun m m1 m2 => by
    have e34 : (2 : Int) ^ 34 = 17179869184 := by decide
    have a1 : mulOk m 16807 = true := mul_ok (by omega) (by decide)
    have a2 : mulOk 69621 j = true := mul_ok (by decide) (by omega)
    unfold eTurn
    simp only [evS, evE, evEs, List.getElem?_cons_succ, List.getElem?_cons_zero, bind_ok, then_ok, b_mul a1, b_mul a2, b_add, t_int, b_mod (show ((2147483629 : Int) != 0) = true by decide), Tg.put, List.set_cons_succ, List.set_cons_zero]
  have fin : ∀ m : Int, 0 ≤ m → m < 2 ^ 34 → ∃ m', (0 ≤ m' ∧ m' < 2 ^ 32) ∧ evS P F C (.asg (.nm 2) eTurn) [some (.ref i), some (.int k), some (.int m), some (.int j)] h = .nx [some (.ref i), some (.int k), some (.int m'), some (.int j)] h := fun m m1 m2 =>
    ⟨_, by
      have := fmod_lt (i := m * 16807 + 69621 * j + 5) (j := 2147483629) (by decide)
      omega, two m m1 m2⟩
  unfold bTurn
  cases hz : ds with
  | nil =>
    subst hz
    have t0 : truth (.ref i) h = some false := tr_ref hs
    obtain ⟨m', b, e⟩ := fin m hm.1 (by omega)
    refine ⟨m', b, ?_⟩
    simp only [evSs, evS, evT, evE, List.getElem?_cons_zero, bind_ok, t0, give_some, then_ok, Bool.false_eq_true, if_false, nx_then] at e ⊢
    rw [e]
    rfl
  | cons d0 dr =>
    have hne : 0 < ds.length := by rw [hz]; exact Nat.succ_pos _
    have t0 : truth (.ref i) h = some true := by
      rw [tr_ref hs, hz]
      rfl
    have hlen : ((nums ds).length : Int) = (ds.length : Int) := by rw [nums_len]
    have a1 : mulOk (k : Int) (j + 5) = true := mul_ok (by omega) (by omega)
    have l0 : (((nums ds).length : Int) != 0) = true := by
      rw [hlen]
      exact bne_iff_ne.mpr (by omega)
    obtain ⟨x1, x2⟩ := fmod_lt (i := (k : Int) * (j + 5) + j) (j := ((nums ds).length : Int)) (by omega)
    have hj2 : (((k : Int) * (j + 5) + j).fmod ((nums ds).length : Int)).toNat < ds.length := by omega
    obtain ⟨d, dm, de⟩ := nums_get hj2
    have sb : subA (.ref i) (.int (((k : Int) * (j + 5) + j).fmod ((nums ds).length : Int))) h = some (.int d) := by
      refine sub_ref hs ?_ de
      unfold idx
      rw [if_pos x1, if_pos x2]
    obtain ⟨d1, d2⟩ := hd d dm
    obtain ⟨m', b, e⟩ := fin (m + d) (by omega) (by
      have e34 : (2 : Int) ^ 34 = 17179869184 := by decide
      omega)
    refine ⟨m', b, ?_⟩
    have one : evSs P F C [.asg (.nm 2) (.bin .Add (.var 2) (.sub (.var 0) (.bin .Mod (.blt .int [.bin .Add (.bin .Mult (.var 1) (.bin .Add (.var 3) (.lit (.int 5)))) (.var 3)]) (.blt .len [.var 0]))))] [some (.ref i), some (.int k), some (.int m), some (.int j)] h = .nx [some (.ref i), some (.int k), some (.int (m + d)), some (.int j)] h := by
      simp only [evSs, evS, evE, evEs, List.getElem?_cons_succ, List.getElem?_cons_zero, bind_ok, then_ok, b_mul a1, b_add, t_int, t_len hs, b_mod l0, sb, give_some, Tg.put, List.set_cons_succ, List.set_cons_zero, nx_then]
    have ife : evS P F C (.ife (.val (.var 0)) [.asg (.nm 2) (.bin .Add (.var 2) (.sub (.var 0) (.bin .Mod (.blt .int [.bin .Add (.bin .Mult (.var 1) (.bin .Add (.var 3) (.lit (.int 5)))) (.var 3)]) (.blt .len [.var 0]))))] []) [some (.ref i), some (.int k), some (.int m), some (.int j)] h = .nx [some (.ref i), some (.int k), some (.int (m + d)), some (.int j)] h := by
      rw [← one]
      simp only [evS, evT, evE, List.getElem?_cons_zero, bind_ok, t0, give_some, then_ok, if_true]
    show (evS P F C _ _ h).then _ = _
    rw [ife, nx_then]
    show (evS P F C _ _ h).then _ = _
    rw [e, nx_then]
    rfl
theorem more_ok (hs : seqOf h i = some (nums ds)) (hd : ∀ d ∈ ds, Dn d) (hl : ds.length ≤ 100000) (hk : k < 2 ^ 20) : ∃ v, evSs P F C bMore [some (.ref i), some (.int k), none, none] h = .rt (.int v) h := by
  have hk' : (2 : Nat) ^ 20 = 1048576 := by decide
  have e32 : (2 : Int) ^ 32 = 4294967296 := by decide
  have n60 : (2 : Nat) ^ 60 = 1152921504606846976 := by decide
  have a1 : mulOk (k : Int) 48271 = true := mul_ok (by omega) (by decide)
  have b0 := fmod_lt (i := (k : Int) * 48271 + ((nums ds).length : Int) + 11) (j := 2147483629) (by decide)
  obtain ⟨m1, c1, e1⟩ := turn_ok (P := P) (F := F) (C := C) hs hd hl hk (m := ((k : Int) * 48271 + ((nums ds).length : Int) + 11).fmod 2147483629) (j := 0) (by omega) (by decide)
  obtain ⟨m2, c2, e2⟩ := turn_ok (P := P) (F := F) (C := C) hs hd hl hk (m := m1) (j := 1) c1 (by decide)
  obtain ⟨m3, c3, e3⟩ := turn_ok (P := P) (F := F) (C := C) hs hd hl hk (m := m2) (j := 2) c2 (by decide)
  refine ⟨m3.fdiv 1009, ?_⟩
  have r3 : rng 0 3 = [.int 0, .int 1, .int 2] := rfl
  have st : still [] h = true := rfl
  unfold bMore
  have loop : evS P F C (.for_ (.nm 3) (.rg [.lit (.int 3)]) bTurn) [some (.ref i), some (.int k), some (.int (((k : Int) * 48271 + ((nums ds).length : Int) + 11).fmod 2147483629)), none] h = .nx [some (.ref i), some (.int k), some (.int m3), some (.int 2)] h := by
    simp only [evS, evI, evE, evEs, bind_ok, then_ok, walkRg, show rngOk 3 = true by decide, if_true, give_some, r3, forL, st, Tg.put, List.set_cons_succ, List.set_cons_zero, e1, e2, e3]
  have first : evS P F C (.asg (.nm 2) (.bin .Mod (.blt .int [.bin .Add (.bin .Add (.bin .Mult (.var 1) (.lit (.int 48271))) (.blt .len [.var 0])) (.lit (.int 11))]) (.lit (.int 2147483629)))) [some (.ref i), some (.int k), none, none] h = .nx [some (.ref i), some (.int k), some (.int (((k : Int) * 48271 + ((nums ds).length : Int) + 11).fmod 2147483629)), none] h := by
    simp only [evS, evE, evEs, List.getElem?_cons_succ, List.getElem?_cons_zero, bind_ok, then_ok, b_mul a1, b_add, t_int, t_len hs, b_mod (show ((2147483629 : Int) != 0) = true by decide), Tg.put, List.set_cons_succ, List.set_cons_zero]
  simp only [evSs, first, nx_then, loop]
  simp only [evS, evE, List.getElem?_cons_succ, List.getElem?_cons_zero, bind_ok, then_ok, b_div (show divOk 1009 = true by decide), rt_then]
theorem trim_same {α : Type} (ok : Bool) (k : Ho → α) : trim h.length ok h k = k h := by
  unfold trim
  rw [if_pos (Nat.le_refl _)]
/-- a call that changes no number of objects -/
theorem call_rt {n f : Nat} {d : Df} {xs : List A} {a : A} {h' : Ho} (hd : P.defs[f]? = some d) (hl : xs.length = d.ps) (hr : evSs P F (callP (callK P F n)) d.body (xs.map some ++ List.replicate (d.N.length - xs.length) none) h = .rt a h') (hh : h'.length ≤ h.length) : callK P F (n + 1) f xs h = .ok a h' := by
  unfold callK
  rw [hd]
  dsimp only
  rw [if_pos (beq_iff_eq.mpr hl), hr]
  dsimp only
  unfold trim
  rw [if_pos hh]
theorem callP_ref {f : Nat} {xs : List A} (e : A.inbs 0 xs = false) : callP C f xs h = C f xs h := by
  unfold callP
  rw [e]
  rfl
/-- the draws' defs -/
structure Dr (P : Pg) (iM iT iO : Nat) : Prop where
  more : ∃ x N, P.defs[iM]? = some ⟨x, N, 2, bMore⟩ ∧ N.length = 4
  take : ∃ x N, P.defs[iT]? = some ⟨x, N, 3, bTake iM⟩ ∧ N.length = 4
  one : ∃ x N, P.defs[iO]? = some ⟨x, N, 3, bOne iT⟩ ∧ N.length = 3
/-- the draws stand at i, the place at j -/
structure At2 (h : Ho) (i j : Nat) (ds : List Int) (k : Nat) : Prop where
  di : h[i]? = some (.lst (nums ds))
  dj : h[j]? = some (.lst [.int k])
  ne : i ≠ j
  dn : ∀ d ∈ ds, Dn d
  dl : ds.length ≤ 100000
  dk : k < 2 ^ 20
theorem At2.seq {j : Nat} (a : At2 h i j ds k) : seqOf h i = some (nums ds) := by
  unfold seqOf
  rw [a.di]
  rfl
theorem ret_mod {X : E} {σ : Sl} {w m : Int} (hX : evE C X σ h = .ok (.int w) h) (hs : σ[2]? = some (some (.int m))) (hm : (m != 0) = true) : evS P F C (.ret (.bin .Mod (.blt .int [X]) (.var 2))) σ h = .rt (.int (w.fmod m)) h := by
  simp only [evS, evE, evEs, hX, bind_ok, t_int, hs, b_mod hm, then_ok]
theorem take_ok {iM iT iO n j : Nat} {m : Int} (D : Dr P iM iT iO) (a : At2 h i j ds k) (hm : 0 < m) : ∃ v, 0 ≤ v ∧ v < m ∧ callK P F (n + 2) iT [.ref i, .ref j, .int m] h = .ok (.int v) (h.set j (.lst [.int (k + 1 : Nat)])) := by
  obtain ⟨x, N, hd, hN⟩ := D.take
  obtain ⟨x2, N2, hd2, hN2⟩ := D.more
  have hj : seqOf h j = some [.int k] := by
    unfold seqOf
    rw [a.dj]
    rfl
  -- the state behind the store
  generalize hh : h.set j (.lst [.int (k + 1 : Nat)]) = h1
  have s1 : seqOf h1 i = some (nums ds) := by
    unfold seqOf
    rw [← hh, List.getElem?_set_ne (Ne.symm a.ne), a.di]
    rfl
  have l1 : h1.length = h.length := by
    rw [← hh, List.length_set]
  obtain ⟨mv, hmv⟩ := more_ok (P := P) (F := F) (C := callP (callK P F n)) (h := h1) s1 a.dn a.dl a.dk
  have e1 : evS P F (callP (callK P F (n + 1))) (.asg (.nm 3) (.sub (.var 1) (.lit (.int 0)))) [some (.ref i), some (.ref j), some (.int m), none] h = .nx [some (.ref i), some (.ref j), some (.int m), some (.int k)] h := by
    simp only [evS, evE, List.getElem?_cons_succ, List.getElem?_cons_zero, bind_ok, then_ok, sub_ref hj (show idx [A.int k].length 0 = some 0 from rfl) (show [A.int k][0]? = some (.int k) from rfl), give_some, Tg.put, List.set_cons_succ, List.set_cons_zero]
  have st : stoA (.ref j) (.int 0) (.int ((k : Int) + 1)) h = some h1 := by
    unfold stoA
    simp only [a.dj]
    rw [← hh]
    rfl
  have e2 : evS P F (callP (callK P F (n + 1))) (.sto (.var 1) (.lit (.int 0)) (.bin .Add (.var 3) (.lit (.int 1)))) [some (.ref i), some (.ref j), some (.int m), some (.int k)] h = .nx [some (.ref i), some (.ref j), some (.int m), some (.int k)] h1 := by
    simp only [evS, evE, List.getElem?_cons_succ, List.getElem?_cons_zero, bind_ok, then_ok, b_add, st]
  have val : ∃ w, evE (callP (callK P F (n + 1))) (.ite (.val (.cmp .Lt (.var 3) (.blt .len [.var 0]))) (.sub (.var 0) (.var 3)) (.call iM [.var 0, .var 3])) [some (.ref i), some (.ref j), some (.int m), some (.int k)] h1 = .ok (.int w) h1 := by
    have c0 : cmpA .Lt (.int k) (.int ((nums ds).length : Int)) h1 = some (decide ((k : Int) < ((nums ds).length : Int))) := rfl
    by_cases hk : k < ds.length
    · obtain ⟨d, dm, de⟩ := nums_get hk
      refine ⟨d, ?_⟩
      have c1 : decide ((k : Int) < ((nums ds).length : Int)) = true := decide_eq_true (by rw [nums_len]; omega)
      rw [c1] at c0
      simp only [evE, evT, evEs, List.getElem?_cons_succ, List.getElem?_cons_zero, bind_ok, t_len s1, c0, Option.map_some, give_some, truth, if_true, sub_ref s1 (idx_nat (by rw [nums_len]; exact hk)) de]
    · refine ⟨mv, ?_⟩
      have c1 : decide ((k : Int) < ((nums ds).length : Int)) = false := decide_eq_false (by rw [nums_len]; omega)
      rw [c1] at c0
      have cl : callP (callK P F (n + 1)) iM [.ref i, .int k] h1 = .ok (.int mv) h1 := by
        rw [callP_ref (by rfl)]
        exact call_rt hd2 rfl (by
          show evSs P F _ bMore ([some (.ref i), some (.int k)] ++ List.replicate (N2.length - 2) none) h1 = _
          rw [hN2]
          exact hmv) (Nat.le_refl _)
      simp only [evE, evT, evEs, List.getElem?_cons_succ, List.getElem?_cons_zero, bind_ok, t_len s1, c0, Option.map_some, give_some, truth, Bool.false_eq_true, if_false, cl]
  obtain ⟨w, hw⟩ := val
  have hm0 : (m != 0) = true := bne_iff_ne.mpr (by omega)
  obtain ⟨f1, f2⟩ := fmod_lt (i := w) hm
  refine ⟨w.fmod m, f1, f2, ?_⟩
  refine call_rt (d := ⟨x, N, 3, bTake iM⟩) hd rfl ?_ (by omega)
  show evSs P F _ (bTake iM) ([some (.ref i), some (.ref j), some (.int m)] ++ List.replicate (N.length - 3) none) h = _
  rw [hN]
  show evSs P F _ (bTake iM) [some (.ref i), some (.ref j), some (.int m), none] h = _
  unfold bTake
  simp only [evSs, e1, nx_then, e2, ret_mod hw rfl hm0, rt_then]
end
end Pl

/-! text Pl2 -/
set_option Elab.async false
set_option linter.all false
set_option maxRecDepth 100000
set_option maxHeartbeats 4000000
/-! the draws of a law, from any script -/
namespace Pl
open PySem Ev
section
variable {P : Pg} {F : Nat} {C : Nat → List A → Ho → R A} {h : Ho} {i j : Nat} {ds : List Int} {k : Nat}
theorem one_ok {iM iT iO n q : Nat} {xs : List A} (D : Dr P iM iT iO) (a : At2 h i j ds k) (hq : seqOf h q = some xs) (hqj : q ≠ j) (hne : 0 < xs.length) : ∃ (t : Nat) (ht : t < xs.length), callK P F (n + 3) iO [.ref q, .ref i, .ref j] h = .ok (xs[t]) (h.set j (.lst [.int (k + 1 : Nat)])) := by
  obtain ⟨x, N, hd, hN⟩ := D.one
  obtain ⟨v, v1, v2, e⟩ := take_ok (P := P) (F := F) (n := n) (m := (xs.length : Int)) D a (by omega)
  generalize hh : h.set j (.lst [.int (k + 1 : Nat)]) = h1 at e
  have sq : seqOf h1 q = some xs := by
    unfold seqOf at hq ⊢
    rw [← hh, List.getElem?_set_ne (Ne.symm hqj)]
    exact hq
  have l1 : h1.length = h.length := by
    rw [← hh, List.length_set]
  have hv : v.toNat < xs.length := by omega
  refine ⟨v.toNat, hv, ?_⟩
  have cl : callP (callK P F (n + 2)) iT [.ref i, .ref j, .int (xs.length : Int)] h = .ok (.int v) h1 := by
    rw [callP_ref (by rfl)]
    exact e
  have sb : subA (.ref q) (.int v) h1 = some (xs[v.toNat]) := by
    refine sub_ref sq ?_ (List.getElem?_eq_getElem hv)
    unfold idx
    rw [if_pos v1, if_pos v2]
  refine call_rt (d := ⟨x, N, 3, bOne iT⟩) hd rfl ?_ (by omega)
  show evSs P F _ (bOne iT) ([some (.ref q), some (.ref i), some (.ref j)] ++ List.replicate (N.length - 3) none) h = _
  rw [hN]
  show evSs P F _ (bOne iT) [some (.ref q), some (.ref i), some (.ref j)] h = _
  unfold bOne
  simp only [evSs, evS, evE, evEs, List.getElem?_cons_succ, List.getElem?_cons_zero, bind_ok, t_len hq, cl, sb, give_some, then_ok, rt_then]
/-! ### _law_draws -/
def b1 : List S := [.ife (.val (.cmp .Gt (.var 3) (.lit (.int 0)))) [.exp (.mth .append (.var 1) [.bin .Mod (.blt .int [.var 3]) (.lit (.int 1009))]), .asg (.nm 3) (.bin .FloorDiv (.var 3) (.lit (.int 1009)))] []]
def b2 : List S := [.asg (.nm 5) (.bin .Mod (.blt .int [.bin .Add (.bin .Add (.bin .Mult (.var 5) (.lit (.int 16807))) (.bin .Mult (.lit (.int 69621)) (.var 4))) (.lit (.int 5))]) (.lit (.int 2147483629))), .exp (.mth .append (.var 1) [.bin .FloorDiv (.var 5) (.lit (.int 1009))])]
def bCell : List S := [.asg (.nm 3) (.blt .abs [.var 2]), .ife (.val (.cmp .GtE (.var 3) (.bin .Pow (.lit (.int 10)) (.lit (.int 18))))) [.for_ (.nm 4) (.rg [.lit (.int 60)]) b1] [.asg (.nm 5) (.bin .Mod (.blt .int [.bin .Add (.bin .Mult (.var 3) (.lit (.int 48271))) (.lit (.int 11))]) (.lit (.int 2147483647))), .for_ (.nm 4) (.rg [.lit (.int 12)]) b2]]
def bDraws : List S := [.asg (.nm 1) (.lst []), .for_ (.nm 2) (.sq (.slc (.var 0) (.lit .non) (.lit (.int 63)))) bCell, .ret (.var 1)]
theorem nums_app (ds : List Int) (d : Int) : nums (ds ++ [d]) = nums ds ++ [.int d] := by
  unfold nums
  rw [List.map_append]
  rfl
theorem app_ok {acc : List Int} {d : Int} {X : O} (hl : acc.length < 100000) : mthA .append (.ref 0) [.int d] [.lst (nums acc), X] = .ok .non [.lst (nums (acc ++ [d])), X] := by
  show (if lineOk ((nums acc).length + 1) then R.ok A.non (setL 0 (nums acc ++ [.int d]) [.lst (nums acc), X]) else R.err) = _
  rw [if_pos (line_small (by rw [nums_len]; omega)), nums_app]
  rfl
theorem dn_app {acc : List Int} {d : Int} (h : ∀ d ∈ acc, Dn d) (hd : Dn d) : ∀ x ∈ acc ++ [d], Dn x := fun x hx => by
  rcases List.mem_append.mp hx with z | z
  · exact h x z
  · rw [List.mem_singleton.mp z]
    exact hd
theorem still0 : still [] h = true := rfl
theorem lo1 {s0 a2 a5 : Option A} {X : O} : ∀ (ks : List A) (acc : List Int) (rest : Int) (a4 : Option A), 0 ≤ rest → (∀ d ∈ acc, Dn d) → acc.length + ks.length ≤ 90000 → ∃ a4' rest' acc', 0 ≤ rest' ∧ (∀ d ∈ acc', Dn d) ∧ acc'.length ≤ acc.length + ks.length ∧
    forL [] (.nm 4) (fun σ h => evSs P F C b1 σ h) ks [s0, some (.ref 0), a2, some (.int rest), a4, a5] [.lst (nums acc), X] = .nx [s0, some (.ref 0), a2, some (.int rest'), a4', a5] [.lst (nums acc'), X]
  | [], acc, rest, a4, h1, h2, h3 => ⟨a4, rest, acc, h1, h2, Nat.le_refl _, rfl⟩
  | x :: ks, acc, rest, a4, h1, h2, h3 => by
    have hl : (x :: ks).length = ks.length + 1 := rfl
    rw [hl] at h3 ⊢
    by_cases hp : 0 < rest
    · obtain ⟨f1, f2⟩ := fmod_lt (i := rest) (j := 1009) (by decide)
      have hr : 0 ≤ rest.fdiv 1009 := Int.fdiv_nonneg h1 (by decide)
      obtain ⟨a4', rest', acc', g1, g2, g3, g4⟩ := lo1 ks (acc ++ [rest.fmod 1009]) (rest.fdiv 1009) (some x) hr (dn_app h2 ⟨f1, by omega⟩) (by rw [List.length_append]; simp; omega)
      refine ⟨a4', rest', acc', g1, g2, by rw [List.length_append] at g3; simp at g3; omega, ?_⟩
      have one : evSs P F C b1 [s0, some (.ref 0), a2, some (.int rest), some x, a5] [.lst (nums acc), X] = .nx [s0, some (.ref 0), a2, some (.int (rest.fdiv 1009)), some x, a5] [.lst (nums (acc ++ [rest.fmod 1009])), X] := by
        have c0 : cmpA .Gt (.int rest) (.int 0) [.lst (nums acc), X] = some true := by
          show some (decide (0 < rest)) = _
          rw [decide_eq_true hp]
        unfold b1
        simp only [evSs, evS, evT, evE, evEs, List.getElem?_cons_succ, List.getElem?_cons_zero, bind_ok, c0, Option.map_some, give_some, truth, then_ok, if_true, t_int, b_mod (show ((1009 : Int) != 0) = true by decide), app_ok (acc := acc) (d := rest.fmod 1009) (X := X) (by omega), nx_then, b_div (show divOk 1009 = true by decide), Tg.put, List.set_cons_succ, List.set_cons_zero]
      unfold forL
      rw [if_pos still0]
      simp only [Tg.put, List.set_cons_succ, List.set_cons_zero, one]
      exact g4
    · have e0 : rest = 0 := by omega
      obtain ⟨a4', rest', acc', g1, g2, g3, g4⟩ := lo1 ks acc rest (some x) h1 h2 (by omega)
      refine ⟨a4', rest', acc', g1, g2, by omega, ?_⟩
      have one : evSs P F C b1 [s0, some (.ref 0), a2, some (.int rest), some x, a5] [.lst (nums acc), X] = .nx [s0, some (.ref 0), a2, some (.int rest), some x, a5] [.lst (nums acc), X] := by
        have c0 : cmpA .Gt (.int rest) (.int 0) [.lst (nums acc), X] = some false := by
          show some (decide (0 < rest)) = _
          rw [decide_eq_false hp]
        unfold b1
        simp only [evSs, evS, evT, evE, evEs, List.getElem?_cons_succ, List.getElem?_cons_zero, bind_ok, c0, Option.map_some, give_some, truth, then_ok, Bool.false_eq_true, if_false, nx_then]
      unfold forL
      rw [if_pos still0]
      simp only [Tg.put, List.set_cons_succ, List.set_cons_zero, one]
      exact g4
theorem lo2 {s0 a2 a3 : Option A} {X : O} : ∀ (ks : List Int) (acc : List Int) (m : Int) (a4 : Option A), (∀ k ∈ ks, 0 ≤ k ∧ k < 1000) → (0 ≤ m ∧ m < 2 ^ 32) → (∀ d ∈ acc, Dn d) → acc.length + ks.length ≤ 90000 → ∃ a4' m' acc', (∀ d ∈ acc', Dn d) ∧ acc'.length ≤ acc.length + ks.length ∧
    forL [] (.nm 4) (fun σ h => evSs P F C b2 σ h) (nums ks) [s0, some (.ref 0), a2, a3, a4, some (.int m)] [.lst (nums acc), X] = .nx [s0, some (.ref 0), a2, a3, a4', some (.int m')] [.lst (nums acc'), X]
  | [], acc, m, a4, h0, h1, h2, h3 => ⟨a4, m, acc, h2, Nat.le_refl _, rfl⟩
  | x :: ks, acc, m, a4, h0, h1, h2, h3 => by
    have hl : (x :: ks).length = ks.length + 1 := rfl
    rw [hl] at h3 ⊢
    have e32 : (2 : Int) ^ 32 = 4294967296 := by decide
    have n60 : (2 : Nat) ^ 60 = 1152921504606846976 := by decide
    obtain ⟨x1, x2⟩ := h0 x List.mem_cons_self
    have q1 : mulOk m 16807 = true := mul_ok (by omega) (by decide)
    have q2 : mulOk 69621 x = true := mul_ok (by decide) (by omega)
    obtain ⟨f1, f2⟩ := fmod_lt (i := m * 16807 + 69621 * x + 5) (j := 2147483629) (by decide)
    generalize hm : (m * 16807 + 69621 * x + 5).fmod 2147483629 = m1 at f1 f2
    have hd : Dn (m1.fdiv 1009) := by
      have e : m1.fdiv 1009 = m1 / 1009 := Int.fdiv_eq_ediv_of_nonneg _ (by decide)
      unfold Dn
      rw [e]
      omega
    obtain ⟨a4', m', acc', g2, g3, g4⟩ := lo2 ks (acc ++ [m1.fdiv 1009]) m1 (some (.int x)) (fun k hk => h0 k (List.mem_cons_of_mem _ hk)) (by omega) (dn_app h2 hd) (by rw [List.length_append]; simp; omega)
    refine ⟨a4', m', acc', g2, by rw [List.length_append] at g3; simp at g3; omega, ?_⟩
    have one : evSs P F C b2 [s0, some (.ref 0), a2, a3, some (.int x), some (.int m)] [.lst (nums acc), X] = .nx [s0, some (.ref 0), a2, a3, some (.int x), some (.int m1)] [.lst (nums (acc ++ [m1.fdiv 1009])), X] := by
      unfold b2
      simp only [evSs, evS, evE, evEs, List.getElem?_cons_succ, List.getElem?_cons_zero, bind_ok, b_mul q1, b_mul q2, b_add, t_int, b_mod (show ((2147483629 : Int) != 0) = true by decide), hm, then_ok, Tg.put, List.set_cons_succ, List.set_cons_zero, nx_then, b_div (show divOk 1009 = true by decide), app_ok (acc := acc) (d := m1.fdiv 1009) (X := X) (by omega)]
    show forL [] (.nm 4) (fun σ h => evSs P F C b2 σ h) (.int x :: nums ks) _ _ = _
    unfold forL
    rw [if_pos still0]
    simp only [Tg.put, List.set_cons_succ, List.set_cons_zero, one]
    exact g4
theorem r12 : rng 0 12 = nums [0, 1, 2, 3, 4, 5, 6, 7, 8, 9, 10, 11] := rfl
theorem r60 : (rng 0 60).length = 60 := rfl
/-- one cell of the script -/
theorem cell_ok {s0 a3 a4 a5 : Option A} {X : O} {z : Int} {acc : List Int} (hd : ∀ d ∈ acc, Dn d) (hl : acc.length ≤ 80000) : ∃ a3' a4' a5' acc', (∀ d ∈ acc', Dn d) ∧ acc'.length ≤ acc.length + 60 ∧
    evSs P F C bCell [s0, some (.ref 0), some (.int z), a3, a4, a5] [.lst (nums acc), X] = .nx [s0, some (.ref 0), some (.int z), a3', a4', a5'] [.lst (nums acc'), X] := by
  have ha : 0 ≤ iabs z := by
    unfold iabs
    split <;> omega
  have e1 : evS P F C (.asg (.nm 3) (.blt .abs [.var 2])) [s0, some (.ref 0), some (.int z), a3, a4, a5] [.lst (nums acc), X] = .nx [s0, some (.ref 0), some (.int z), some (.int (iabs z)), a4, a5] [.lst (nums acc), X] := by
    simp only [evS, evE, evEs, List.getElem?_cons_succ, List.getElem?_cons_zero, bind_ok, t_abs, then_ok, Tg.put, List.set_cons_succ, List.set_cons_zero]
  have p18 : binA .Pow (.int 10) (.int 18) [.lst (nums acc), X] = .ok (.int 1000000000000000000) [.lst (nums acc), X] := rfl
  by_cases hb : 1000000000000000000 ≤ iabs z
  · have c0 : cmpA .GtE (.int (iabs z)) (.int 1000000000000000000) [.lst (nums acc), X] = some true := by
      show some (decide (1000000000000000000 ≤ iabs z)) = _
      rw [decide_eq_true hb]
    obtain ⟨a4', rest', acc', _, g2, g3, g4⟩ := lo1 (P := P) (F := F) (C := C) (s0 := s0) (a2 := some (.int z)) (a5 := a5) (X := X) (rng 0 60) acc (iabs z) a4 ha hd (by rw [r60]; omega)
    refine ⟨some (.int rest'), a4', a5, acc', g2, by rw [r60] at g3; exact g3, ?_⟩
    unfold bCell
    simp only [evSs, e1, nx_then]
    simp only [evS, evT, evI, evE, evEs, List.getElem?_cons_succ, List.getElem?_cons_zero, bind_ok, p18, c0, Option.map_some, give_some, truth, then_ok, if_true, evSs, walkRg, show rngOk 60 = true by decide, g4, nx_then]
  · have c0 : cmpA .GtE (.int (iabs z)) (.int 1000000000000000000) [.lst (nums acc), X] = some false := by
      show some (decide (1000000000000000000 ≤ iabs z)) = _
      rw [decide_eq_false hb]
    have n60 : (2 : Nat) ^ 60 = 1152921504606846976 := by decide
    have e32 : (2 : Int) ^ 32 = 4294967296 := by decide
    have q1 : mulOk (iabs z) 48271 = true := mul_ok (by omega) (by decide)
    obtain ⟨f1, f2⟩ := fmod_lt (i := iabs z * 48271 + 11) (j := 2147483647) (by decide)
    obtain ⟨a4', m', acc', g2, g3, g4⟩ := lo2 (P := P) (F := F) (C := C) (s0 := s0) (a2 := some (.int z)) (a3 := some (.int (iabs z))) (X := X) [0, 1, 2, 3, 4, 5, 6, 7, 8, 9, 10, 11] acc ((iabs z * 48271 + 11).fmod 2147483647) a4 (by decide) (by omega) hd (by
      show acc.length + 12 ≤ 90000
      omega)
    have l12 : ([0, 1, 2, 3, 4, 5, 6, 7, 8, 9, 10, 11] : List Int).length = 12 := rfl
    refine ⟨some (.int (iabs z)), a4', some (.int m'), acc', g2, by rw [l12] at g3; omega, ?_⟩
    unfold bCell
    simp only [evSs, e1, nx_then]
    simp only [evS, evT, evI, evE, evEs, List.getElem?_cons_succ, List.getElem?_cons_zero, bind_ok, p18, c0, Option.map_some, give_some, truth, then_ok, Bool.false_eq_true, if_false, evSs, b_mul q1, b_add, t_int, b_mod (show ((2147483647 : Int) != 0) = true by decide), Tg.put, List.set_cons_succ, List.set_cons_zero, nx_then, walkRg, show rngOk 12 = true by decide, if_true, r12, g4]
theorem beqs_self : ∀ ns : List Int, A.beqs (nums ns) (nums ns) = true
  | [] => rfl
  | n :: ns => by
    show (n == n && A.beqs (nums ns) (nums ns)) = true
    rw [beqs_self ns, beq_self_eq_true]
    rfl
theorem still1 (Z : O) (ns : List Int) : still [(1, nums ns)] [Z, .lst (nums ns)] = true := by
  show (A.beqs (nums ns) (nums ns) && true) = true
  rw [beqs_self]
  rfl
theorem cells_ok {s0 : Option A} {ns : List Int} : ∀ (zs acc : List Int) (a2 a3 a4 a5 : Option A), (∀ d ∈ acc, Dn d) → acc.length + 60 * zs.length ≤ 80000 → ∃ a2' a3' a4' a5' acc', (∀ d ∈ acc', Dn d) ∧ acc'.length ≤ acc.length + 60 * zs.length ∧
    forL [(1, nums ns)] (.nm 2) (fun σ h => evSs P F C bCell σ h) (nums zs) [s0, some (.ref 0), a2, a3, a4, a5] [.lst (nums acc), .lst (nums ns)] = .nx [s0, some (.ref 0), a2', a3', a4', a5'] [.lst (nums acc'), .lst (nums ns)]
  | [], acc, a2, a3, a4, a5, hd, hl => ⟨a2, a3, a4, a5, acc, hd, by omega, by
    show forL [(1, nums ns)] (.nm 2) _ [] _ _ = _
    unfold forL
    rw [if_pos (still1 _ _)]⟩
  | z :: zs, acc, a2, a3, a4, a5, hd, hl => by
    have e : (z :: zs).length = zs.length + 1 := rfl
    rw [e] at hl ⊢
    obtain ⟨b3, b4, b5, acc1, g1, g2, g3⟩ := cell_ok (P := P) (F := F) (C := C) (s0 := s0) (a3 := a3) (a4 := a4) (a5 := a5) (X := .lst (nums ns)) (z := z) (acc := acc) hd (by omega)
    obtain ⟨c2, c3, c4, c5, acc2, k1, k2, k3⟩ := cells_ok zs acc1 (some (.int z)) b3 b4 b5 g1 (by omega)
    refine ⟨c2, c3, c4, c5, acc2, k1, by omega, ?_⟩
    show forL [(1, nums ns)] (.nm 2) _ (.int z :: nums zs) _ _ = _
    unfold forL
    rw [if_pos (still1 _ _)]
    simp only [Tg.put, List.set_cons_succ, List.set_cons_zero, g3]
    exact k3
theorem nums_take (ns : List Int) (n : Nat) : (nums ns).take n = nums (ns.take n) := by
  unfold nums
  rw [List.map_take]
/-- _law_draws, from any script of at most 63 numbers -/
theorem draws_ok {iD n : Nat} {x : Str} {N : List Str} {ns : List Int} (hd : P.defs[iD]? = some ⟨x, N, 1, bDraws⟩) (hN : N.length = 6) (hl : ns.length ≤ 63) : ∃ ds, (∀ d ∈ ds, Dn d) ∧ ds.length ≤ 4000 ∧ callK P F (n + 1) iD [.lis (nums ns)] [] = .ok (.ref 0) [.lst (nums ds), .lst (nums ns)] := by
  obtain ⟨c2, c3, c4, c5, ds, k1, k2, k3⟩ := cells_ok (P := P) (F := F) (C := callP (callK P F n)) (s0 := some (.lis (nums ns))) (ns := ns) ns [] none none none none (fun d hd => absurd hd (by simp)) (by simp; omega)
  refine ⟨ds, k1, by simp at k2; omega, ?_⟩
  have cutE : cut (nums ns) none (some 63) = nums ns := by
    show ((nums ns).drop 0).take ((if (63 : Int) < 0 then ((63 : Int) + ((nums ns).length : Int)).toNat else min (63 : Int).toNat (nums ns).length) - 0) = _
    rw [if_neg (by decide), List.drop_zero, Nat.sub_zero]
    refine List.take_of_length_le ?_
    rw [nums_len]
    show ns.length ≤ min 63 ns.length
    omega
  have run : evSs P F (callP (callK P F n)) bDraws [some (.lis (nums ns)), none, none, none, none, none] [] = .rt (.ref 0) [.lst (nums ds), .lst (nums ns)] := by
    have q1 : evS P F (callP (callK P F n)) (.asg (.nm 1) (.lst [])) [some (.lis (nums ns)), none, none, none, none, none] [] = .nx [some (.lis (nums ns)), some (.ref 0), none, none, none, none] [.lst (nums [])] := rfl
    have q2 : evI (callP (callK P F n)) (.sq (.slc (.var 0) (.lit .non) (.lit (.int 63)))) [some (.lis (nums ns)), some (.ref 0), none, none, none, none] [.lst (nums [])] = .ok (nums ns, [(1, nums ns)]) [.lst (nums []), .lst (nums ns)] := by
      simp only [evI, evE, List.getElem?_cons_zero, bind_ok, part, give_some, slcA, cutE]
      rfl
    unfold bDraws
    simp only [evSs, q1, nx_then]
    simp only [evS, q2, then_ok, k3, nx_then]
    simp only [evE, List.getElem?_cons_succ, List.getElem?_cons_zero, then_ok, rt_then]
  unfold callK
  rw [hd]
  dsimp only
  rw [if_pos (by rfl)]
  have hs : ([A.lis (nums ns)].map some ++ List.replicate (N.length - [A.lis (nums ns)].length) none : Sl) = [some (.lis (nums ns)), none, none, none, none, none] := by
    rw [hN]
    rfl
  rw [hs, run]
  rfl
end
end Pl

/-! text H46 -/

set_option Elab.async false
set_option linter.all false
set_option maxRecDepth 100000
set_option maxHeartbeats 0
namespace My
open PySem PySem.Spec PyProof.Rows L2 Ev
abbrev prog : Program := PySem.Challenge.pw_drawnwrought_k46_whole_ford_circles
def top (i : Nat) : Stmt := PySem.Challenge.pw_drawnwrought_k46_whole_ford_circles.main.body.getD i (.Pass ⟨0, 0, 0, 0⟩)
def f_is_integer : Df := ⟨"is_integer", ["value"], 1, [.ret (.and (.isi "int" (.var 0)) (.not (.isi "bool" (.var 0))))]⟩
def f_in_range : Df := ⟨"in_range", ["value", "least", "most"], 3, [.ret (.and (.call 0 [.var 0]) (.chn .LtE .LtE (.var 1) (.var 0) (.var 2)))]⟩
def f_common : Df := ⟨"common", ["number", "other"], 2, [.par [0, 1] [.blt .abs [.var 0], .blt .abs [.var 1]], .whl (.val (.var 1)) [.par [0, 1] [.var 1, .bin .Mod (.var 0) (.var 1)]], .ret (.var 0)]⟩
def f_is_fraction : Df := ⟨"is_fraction", ["value", "part"], 1, [.ife (.or (.not (.val (.isi "tuple" (.var 0)))) (.or (.val (.cmp .NotEq (.blt .len [.var 0]) (.lit (.int 2)))) (.not (.val (.blt .all [.comp (.call 0 [.var 1]) (.nm 1) (.sq (.var 0)) (.yes) [1]]))))) [.ret (.lit (.bl false))] [], .ret (.and (.cmp .Gt (.sub (.var 0) (.lit (.int 1))) (.lit (.int 0))) (.cmp .Eq (.call 2 [.sub (.var 0) (.lit (.int 0)), .sub (.var 0) (.lit (.int 1))]) (.lit (.int 1))))]⟩
def f_is_small : Df := ⟨"is_small", ["value"], 1, [.ife (.or (.not (.val (.isi "tuple" (.var 0)))) (.val (.cmp .NotEq (.blt .len [.var 0]) (.lit (.int 2))))) [.ret (.lit (.bl false))] [], .ife (.or (.not (.val (.call 1 [.sub (.var 0) (.lit (.int 0)), .neg (.glo "MAX_NUMBER" (.int 1000000)), .glo "MAX_NUMBER" (.int 1000000)]))) (.not (.val (.call 1 [.sub (.var 0) (.lit (.int 1)), .lit (.int 1), .glo "MAX_NUMBER" (.int 1000000)])))) [.ret (.lit (.bl false))] [], .ret (.call 3 [.var 0])]⟩
def f_demand_fraction : Df := ⟨"demand_fraction", ["value", "reason"], 2, [.ife (.not (.val (.call 4 [.var 0]))) [.rais 0 [.var 1]] []]⟩
def f_made : Df := ⟨"made", ["number", "other", "part"], 2, [.ife (.val (.cmp .Lt (.var 1) (.lit (.int 0)))) [.par [0, 1] [.neg (.var 0), .neg (.var 1)]] [], .asg (.nm 2) (.call 2 [.var 0, .var 1]), .ret (.tup [.bin .FloorDiv (.var 0) (.var 2), .bin .FloorDiv (.var 1) (.var 2)])]⟩
def f_added : Df := ⟨"added", ["one", "other"], 2, [.ret (.call 6 [.bin .Add (.bin .Mult (.sub (.var 0) (.lit (.int 0))) (.sub (.var 1) (.lit (.int 1)))) (.bin .Mult (.sub (.var 1) (.lit (.int 0))) (.sub (.var 0) (.lit (.int 1)))), .bin .Mult (.sub (.var 0) (.lit (.int 1))) (.sub (.var 1) (.lit (.int 1)))])]⟩
def f_negated : Df := ⟨"negated", ["one"], 1, [.ret (.tup [.neg (.sub (.var 0) (.lit (.int 0))), .sub (.var 0) (.lit (.int 1))])]⟩
def f_multiplied : Df := ⟨"multiplied", ["one", "other"], 2, [.ret (.call 6 [.bin .Mult (.sub (.var 0) (.lit (.int 0))) (.sub (.var 1) (.lit (.int 0))), .bin .Mult (.sub (.var 0) (.lit (.int 1))) (.sub (.var 1) (.lit (.int 1)))])]⟩
def f_demand_most : Df := ⟨"demand_most", ["most"], 1, [.ife (.not (.val (.call 1 [.var 0, .lit (.int 1), .glo "MAX_FAREY" (.int 100)]))) [.rais 0 [.lit (.str "most")]] []]⟩
def f_row_to : Df := ⟨"row_to", ["most", "row", "one", "other", "times"], 1, [.asg (.nm 1) (.lst [.tup [.lit (.int 0), .lit (.int 1)], .tup [.lit (.int 1), .var 0]]), .whl (.val (.cmp .NotEq (.sub (.var 1) (.neg (.lit (.int 1)))) (.tup [.lit (.int 1), .lit (.int 1)]))) [.par [2, 3] [.sub (.var 1) (.neg (.lit (.int 2))), .sub (.var 1) (.neg (.lit (.int 1)))], .asg (.nm 4) (.bin .FloorDiv (.bin .Add (.var 0) (.sub (.var 2) (.lit (.int 1)))) (.sub (.var 3) (.lit (.int 1)))), .exp (.mth .append (.var 1) [.tup [.bin .Sub (.bin .Mult (.var 4) (.sub (.var 3) (.lit (.int 0)))) (.sub (.var 2) (.lit (.int 0))), .bin .Sub (.bin .Mult (.var 4) (.sub (.var 3) (.lit (.int 1)))) (.sub (.var 2) (.lit (.int 1)))]])], .ret (.ite (.val (.cmp .Gt (.var 0) (.lit (.int 1)))) (.var 1) (.lst [.tup [.lit (.int 0), .lit (.int 1)], .tup [.lit (.int 1), .lit (.int 1)]]))]⟩
def f_row : Df := ⟨"row", ["most"], 1, [.exp (.call 10 [.var 0]), .ret (.blt .tuple [.call 11 [.var 0]])]⟩
def f_count_row : Df := ⟨"count_row", ["most", "under", "top"], 1, [.exp (.call 10 [.var 0]), .ret (.bin .Add (.lit (.int 1)) (.blt .sum [.comp (.blt .len [.comp (.var 2) (.nm 2) (.rg [.var 1]) (.val (.cmp .Eq (.call 2 [.var 2, .var 1]) (.lit (.int 1)))) [2]]) (.nm 1) (.rg [.lit (.int 1), .bin .Add (.var 0) (.lit (.int 1))]) (.yes) [1]]))]⟩
def f_cross : Df := ⟨"cross", ["one", "other"], 2, [.ret (.bin .Sub (.bin .Mult (.sub (.var 1) (.lit (.int 0))) (.sub (.var 0) (.lit (.int 1)))) (.bin .Mult (.sub (.var 0) (.lit (.int 0))) (.sub (.var 1) (.lit (.int 1)))))]⟩
def f_are_neighbours : Df := ⟨"are_neighbours", ["one", "other"], 2, [.exp (.call 5 [.var 0, .lit (.str "one")]), .exp (.call 5 [.var 1, .lit (.str "other")]), .ret (.cmp .Eq (.blt .abs [.call 14 [.var 0, .var 1]]) (.lit (.int 1)))]⟩
def f_neighbours : Df := ⟨"neighbours", ["one", "most"], 2, [.exp (.call 5 [.var 0, .lit (.str "one")]), .ife (.not (.val (.call 1 [.var 1, .lit (.int 1), .glo "MAX_NUMBER" (.int 1000000)]))) [.rais 0 [.lit (.str "most")]] [], .ret (.tup [.call 17 [.var 0, .var 1, .neg (.lit (.int 1))], .call 17 [.var 0, .var 1, .lit (.int 1)]])]⟩
def f_side_of : Df := ⟨"side_of", ["one", "most", "way", "under", "low", "high"], 3, [.ife (.val (.cmp .LtE (.sub (.var 0) (.lit (.int 1))) (.var 1))) [.asg (.nm 3) (.call 20 [.var 0, .var 2]), .aug 3 .Add (.bin .Mult (.bin .FloorDiv (.bin .Sub (.var 1) (.var 3)) (.sub (.var 0) (.lit (.int 1)))) (.sub (.var 0) (.lit (.int 1)))), .ret (.tup [.bin .FloorDiv (.bin .Add (.bin .Mult (.sub (.var 0) (.lit (.int 0))) (.var 3)) (.var 2)) (.sub (.var 0) (.lit (.int 1))), .var 3])] [], .par [4, 5] [.tup [.bin .FloorDiv (.sub (.var 0) (.lit (.int 0))) (.sub (.var 0) (.lit (.int 1))), .lit (.int 1)], .tup [.bin .Add (.bin .FloorDiv (.sub (.var 0) (.lit (.int 0))) (.sub (.var 0) (.lit (.int 1)))) (.lit (.int 1)), .lit (.int 1)]], .whl (.val (.cmp .LtE (.bin .Add (.sub (.var 4) (.lit (.int 1))) (.sub (.var 5) (.lit (.int 1)))) (.var 1))) [.asg (.tp [.nm 4, .nm 5]) (.call 18 [.var 0, .var 4, .var 5, .var 1])], .ret (.ite (.val (.cmp .Lt (.var 2) (.lit (.int 0)))) (.var 4) (.var 5))]⟩
def f_steps_in : Df := ⟨"steps_in", ["one", "low", "high", "most", "middle", "times"], 4, [.asg (.nm 4) (.tup [.bin .Add (.sub (.var 1) (.lit (.int 0))) (.sub (.var 2) (.lit (.int 0))), .bin .Add (.sub (.var 1) (.lit (.int 1))) (.sub (.var 2) (.lit (.int 1)))]), .ife (.val (.cmp .Gt (.call 14 [.var 0, .var 4]) (.lit (.int 0)))) [.asg (.nm 5) (.call 19 [.var 0, .var 2, .var 1, .var 3]), .ret (.tup [.var 1, .tup [.bin .Add (.sub (.var 2) (.lit (.int 0))) (.bin .Mult (.var 5) (.sub (.var 1) (.lit (.int 0)))), .bin .Add (.sub (.var 2) (.lit (.int 1))) (.bin .Mult (.var 5) (.sub (.var 1) (.lit (.int 1))))]])] [], .asg (.nm 5) (.call 19 [.var 0, .var 1, .var 2, .var 3]), .ret (.tup [.tup [.bin .Add (.sub (.var 1) (.lit (.int 0))) (.bin .Mult (.var 5) (.sub (.var 2) (.lit (.int 0)))), .bin .Add (.sub (.var 1) (.lit (.int 1))) (.bin .Mult (.var 5) (.sub (.var 2) (.lit (.int 1))))], .var 2])]⟩
def f_most_times : Df := ⟨"most_times", ["one", "moved", "other", "most", "room", "top", "under"], 4, [.asg (.nm 4) (.bin .FloorDiv (.bin .Sub (.var 3) (.sub (.var 1) (.lit (.int 1)))) (.sub (.var 2) (.lit (.int 1)))), .par [5, 6] [.blt .abs [.call 14 [.var 0, .var 1]], .blt .abs [.call 14 [.var 0, .var 2]]], .ret (.blt .max [.lit (.int 1), .blt .min [.var 4, .bin .FloorDiv (.bin .Sub (.var 5) (.lit (.int 1))) (.var 6)]])]⟩
def f_turned_in : Df := ⟨"turned_in", ["one", "way", "top", "under", "first", "second", "old", "new", "share"], 2, [.par [2, 3] [.bin .Mod (.sub (.var 0) (.lit (.int 0))) (.sub (.var 0) (.lit (.int 1))), .sub (.var 0) (.lit (.int 1))], .ife (.val (.cmp .Eq (.var 3) (.lit (.int 1)))) [.ret (.lit (.int 1))] [], .asg (.tp [.nm 4, .nm 5, .nm 6, .nm 7]) (.tup [.var 3, .var 2, .lit (.int 0), .lit (.int 1)]), .whl (.val (.var 5)) [.asg (.nm 8) (.bin .FloorDiv (.var 4) (.var 5)), .par [4, 5] [.var 5, .bin .Sub (.var 4) (.bin .Mult (.var 8) (.var 5))], .par [6, 7] [.var 7, .bin .Sub (.var 6) (.bin .Mult (.var 8) (.var 7))]], .ret (.bin .Mod (.bin .Sub (.lit (.int 0)) (.bin .Mult (.var 1) (.var 6))) (.var 3))]⟩
def f_between : Df := ⟨"between", ["one", "other", "low", "high"], 2, [.exp (.call 5 [.var 0, .lit (.str "one")]), .exp (.call 5 [.var 1, .lit (.str "other")]), .ife (.val (.cmp .Eq (.var 0) (.var 1))) [.rais 0 [.lit (.str "other")]] [], .asg (.tp [.nm 2, .nm 3]) (.ite (.val (.cmp .Gt (.call 14 [.var 0, .var 1]) (.lit (.int 0)))) (.tup [.var 0, .var 1]) (.tup [.var 1, .var 0])), .ret (.call 22 [.var 2, .var 3])]⟩
def f_simplest : Df := ⟨"simplest", ["low", "high", "whole", "rest", "under", "end", "inner"], 2, [.asg (.nm 2) (.bin .FloorDiv (.sub (.var 0) (.lit (.int 0))) (.sub (.var 0) (.lit (.int 1)))), .ife (.val (.cmp .Lt (.bin .Mult (.bin .Add (.var 2) (.lit (.int 1))) (.sub (.var 1) (.lit (.int 1)))) (.sub (.var 1) (.lit (.int 0))))) [.ret (.tup [.bin .Add (.var 2) (.lit (.int 1)), .lit (.int 1)])] [], .asg (.nm 3) (.tup [.bin .Sub (.sub (.var 0) (.lit (.int 0))) (.bin .Mult (.var 2) (.sub (.var 0) (.lit (.int 1)))), .sub (.var 0) (.lit (.int 1))]), .ife (.val (.cmp .Eq (.sub (.var 3) (.lit (.int 0))) (.lit (.int 0)))) [.asg (.nm 4) (.bin .Add (.bin .FloorDiv (.sub (.var 1) (.lit (.int 1))) (.bin .Sub (.sub (.var 1) (.lit (.int 0))) (.bin .Mult (.var 2) (.sub (.var 1) (.lit (.int 1)))))) (.lit (.int 1))), .ret (.tup [.bin .Add (.bin .Mult (.var 2) (.var 4)) (.lit (.int 1)), .var 4])] [], .asg (.nm 5) (.bin .Sub (.sub (.var 1) (.lit (.int 0))) (.bin .Mult (.var 2) (.sub (.var 1) (.lit (.int 1))))), .asg (.nm 6) (.call 22 [.tup [.sub (.var 1) (.lit (.int 1)), .var 5], .tup [.sub (.var 3) (.lit (.int 1)), .sub (.var 3) (.lit (.int 0))]]), .ret (.tup [.bin .Add (.bin .Mult (.var 2) (.sub (.var 6) (.lit (.int 0)))) (.sub (.var 6) (.lit (.int 1))), .sub (.var 6) (.lit (.int 0))])]⟩
def f_accept_between : Df := ⟨"accept_between", ["one", "other", "told", "due"], 3, [.asg (.nm 3) (.call 21 [.var 0, .var 1]), .ife (.not (.val (.call 3 [.var 2]))) [.rais 1 [.lit (.str "form")]] [], .ife (.val (.cmp .LtE (.bin .Mult (.call 14 [.var 0, .var 2]) (.call 14 [.var 2, .var 1])) (.lit (.int 0)))) [.rais 1 [.lit (.str "between")]] [], .ife (.val (.cmp .NotEq (.sub (.var 2) (.lit (.int 1))) (.sub (.var 3) (.lit (.int 1))))) [.rais 1 [.lit (.str "denominator")]] [], .ife (.val (.cmp .NotEq (.var 2) (.var 3))) [.rais 1 [.lit (.str "least")]] []]⟩
def f_circle : Df := ⟨"circle", ["one", "half"], 1, [.exp (.call 5 [.var 0, .lit (.str "one")]), .asg (.nm 1) (.call 6 [.lit (.int 1), .bin .Mult (.bin .Mult (.lit (.int 2)) (.sub (.var 0) (.lit (.int 1)))) (.sub (.var 0) (.lit (.int 1)))]), .ret (.tup [.tup [.var 0, .var 1], .call 9 [.var 1, .var 1]])]⟩
def f_place : Df := ⟨"place", ["one", "other"], 2, [.exp (.call 5 [.var 0, .lit (.str "one")]), .exp (.call 5 [.var 1, .lit (.str "other")]), .ife (.val (.cmp .Eq (.var 0) (.var 1))) [.ret (.lit (.str "same"))] [], .ret (.ite (.val (.cmp .Eq (.blt .abs [.call 14 [.var 0, .var 1]]) (.lit (.int 1)))) (.lit (.str "touch")) (.lit (.str "apart")))]⟩
def f_gap_square : Df := ⟨"gap_square", ["one", "other", "first", "second", "across", "up", "near", "far"], 2, [.par [2, 3] [.call 24 [.var 0], .call 24 [.var 1]], .asg (.nm 4) (.call 7 [.sub (.sub (.var 2) (.lit (.int 0))) (.lit (.int 0)), .call 8 [.sub (.sub (.var 3) (.lit (.int 0))) (.lit (.int 0))]]), .asg (.nm 5) (.call 7 [.sub (.sub (.var 2) (.lit (.int 0))) (.lit (.int 1)), .call 8 [.sub (.sub (.var 3) (.lit (.int 0))) (.lit (.int 1))]]), .asg (.nm 6) (.call 7 [.sub (.sub (.var 2) (.lit (.int 0))) (.lit (.int 1)), .sub (.sub (.var 3) (.lit (.int 0))) (.lit (.int 1))]), .asg (.nm 7) (.call 7 [.call 9 [.var 4, .var 4], .call 9 [.var 5, .var 5]]), .ret (.call 7 [.var 7, .call 8 [.call 9 [.var 6, .var 6]]])]⟩
def f_way_down : Df := ⟨"way_down", ["one", "top", "under", "steps"], 1, [.exp (.call 5 [.var 0, .lit (.str "one")]), .ife (.val (.cmp .LtE (.sub (.var 0) (.lit (.int 0))) (.lit (.int 0)))) [.rais 0 [.lit (.str "one")]] [], .asg (.tp [.nm 1, .nm 2]) (.var 0), .asg (.nm 3) (.lst []), .whl (.val (.cmp .NotEq (.var 1) (.var 2))) [.ife (.val (.cmp .Lt (.var 1) (.var 2))) [.exp (.mth .append (.var 3) [.tup [.lit (.str "left"), .bin .FloorDiv (.bin .Sub (.var 2) (.lit (.int 1))) (.var 1)]]), .aug 2 .Sub (.bin .Mult (.bin .FloorDiv (.bin .Sub (.var 2) (.lit (.int 1))) (.var 1)) (.var 1))] [.exp (.mth .append (.var 3) [.tup [.lit (.str "right"), .bin .FloorDiv (.bin .Sub (.var 1) (.lit (.int 1))) (.var 2)]]), .aug 1 .Sub (.bin .Mult (.bin .FloorDiv (.bin .Sub (.var 1) (.lit (.int 1))) (.var 2)) (.var 2))]], .ret (.blt .tuple [.var 3])]⟩
def f_from_turns : Df := ⟨"from_turns", ["turns", "low", "high", "turn"], 1, [.ife (.or (.not (.val (.isi "tuple" (.var 0)))) (.val (.cmp .Gt (.blt .len [.var 0]) (.lit (.int 30))))) [.rais 0 [.lit (.str "turns")]] [], .asg (.tp [.nm 1, .nm 2]) (.tup [.tup [.lit (.int 0), .lit (.int 1)], .tup [.lit (.int 1), .lit (.int 0)]]), .for_ (.nm 3) (.sq (.var 0)) [.ife (.or (.not (.val (.isi "tuple" (.var 3)))) (.or (.val (.cmp .NotEq (.blt .len [.var 3]) (.lit (.int 2)))) (.val (.cmp .NotIn (.sub (.var 3) (.lit (.int 0))) (.tup [.lit (.str "left"), .lit (.str "right")]))))) [.rais 0 [.lit (.str "turns")]] [], .ife (.not (.val (.call 1 [.sub (.var 3) (.lit (.int 1)), .lit (.int 1), .lit (.int 1000)]))) [.rais 0 [.lit (.str "turns")]] [], .ife (.val (.cmp .Eq (.sub (.var 3) (.lit (.int 0))) (.lit (.str "left")))) [.asg (.nm 2) (.tup [.bin .Add (.sub (.var 2) (.lit (.int 0))) (.bin .Mult (.sub (.var 3) (.lit (.int 1))) (.sub (.var 1) (.lit (.int 0)))), .bin .Add (.sub (.var 2) (.lit (.int 1))) (.bin .Mult (.sub (.var 3) (.lit (.int 1))) (.sub (.var 1) (.lit (.int 1))))])] [.asg (.nm 1) (.tup [.bin .Add (.sub (.var 1) (.lit (.int 0))) (.bin .Mult (.sub (.var 3) (.lit (.int 1))) (.sub (.var 2) (.lit (.int 0)))), .bin .Add (.sub (.var 1) (.lit (.int 1))) (.bin .Mult (.sub (.var 3) (.lit (.int 1))) (.sub (.var 2) (.lit (.int 1))))])]], .ret (.tup [.bin .Add (.sub (.var 1) (.lit (.int 0))) (.sub (.var 2) (.lit (.int 0))), .bin .Add (.sub (.var 1) (.lit (.int 1))) (.sub (.var 2) (.lit (.int 1)))])]⟩
def f_gaps : Df := ⟨"gaps", ["most", "rows", "unders", "one", "other"], 1, [.exp (.call 10 [.var 0]), .asg (.nm 1) (.call 11 [.var 0]), .asg (.nm 2) (.comp (.bin .Mult (.sub (.var 3) (.lit (.int 1))) (.sub (.var 4) (.lit (.int 1)))) (.tp [.nm 3, .nm 4]) (.zp (.slc (.var 1) (.lit .non) (.neg (.lit (.int 1)))) (.slc (.var 1) (.lit (.int 1)) (.lit .non))) (.yes) [3, 4]), .ret (.tup [.call 6 [.lit (.int 1), .blt .min [.var 2]], .call 6 [.lit (.int 1), .blt .max [.var 2]]])]⟩
def f__law_draws : Df := ⟨"_law_draws", ["script", "draws", "cell", "rest", "k", "mixed"], 1, [.asg (.nm 1) (.lst []), .for_ (.nm 2) (.sq (.slc (.var 0) (.lit .non) (.lit (.int 63)))) [.asg (.nm 3) (.blt .abs [.var 2]), .ife (.val (.cmp .GtE (.var 3) (.bin .Pow (.lit (.int 10)) (.lit (.int 18))))) [.for_ (.nm 4) (.rg [.lit (.int 60)]) [.ife (.val (.cmp .Gt (.var 3) (.lit (.int 0)))) [.exp (.mth .append (.var 1) [.bin .Mod (.blt .int [.var 3]) (.lit (.int 1009))]), .asg (.nm 3) (.bin .FloorDiv (.var 3) (.lit (.int 1009)))] []]] [.asg (.nm 5) (.bin .Mod (.blt .int [.bin .Add (.bin .Mult (.var 3) (.lit (.int 48271))) (.lit (.int 11))]) (.lit (.int 2147483647))), .for_ (.nm 4) (.rg [.lit (.int 12)]) [.asg (.nm 5) (.bin .Mod (.blt .int [.bin .Add (.bin .Add (.bin .Mult (.var 5) (.lit (.int 16807))) (.bin .Mult (.lit (.int 69621)) (.var 4))) (.lit (.int 5))]) (.lit (.int 2147483629))), .exp (.mth .append (.var 1) [.bin .FloorDiv (.var 5) (.lit (.int 1009))])]]], .ret (.var 1)]⟩
def f__law_more : Df := ⟨"_law_more", ["draws", "spot", "mixed", "k"], 2, [.asg (.nm 2) (.bin .Mod (.blt .int [.bin .Add (.bin .Add (.bin .Mult (.var 1) (.lit (.int 48271))) (.blt .len [.var 0])) (.lit (.int 11))]) (.lit (.int 2147483629))), .for_ (.nm 3) (.rg [.lit (.int 3)]) [.ife (.val (.var 0)) [.asg (.nm 2) (.bin .Add (.var 2) (.sub (.var 0) (.bin .Mod (.blt .int [.bin .Add (.bin .Mult (.var 1) (.bin .Add (.var 3) (.lit (.int 5)))) (.var 3)]) (.blt .len [.var 0]))))] [], .asg (.nm 2) (.bin .Mod (.blt .int [.bin .Add (.bin .Add (.bin .Mult (.var 2) (.lit (.int 16807))) (.bin .Mult (.lit (.int 69621)) (.var 3))) (.lit (.int 5))]) (.lit (.int 2147483629)))], .ret (.bin .FloorDiv (.var 2) (.lit (.int 1009)))]⟩
def f__law_take : Df := ⟨"_law_take", ["draws", "at", "many", "spot"], 3, [.asg (.nm 3) (.sub (.var 1) (.lit (.int 0))), .sto (.var 1) (.lit (.int 0)) (.bin .Add (.var 3) (.lit (.int 1))), .ret (.bin .Mod (.blt .int [.ite (.val (.cmp .Lt (.var 3) (.blt .len [.var 0]))) (.sub (.var 0) (.var 3)) (.call 31 [.var 0, .var 3])]) (.var 2))]⟩
def f__law_one : Df := ⟨"_law_one", ["rows", "draws", "at"], 3, [.ret (.sub (.var 0) (.call 32 [.var 1, .var 2, .blt .len [.var 0]]))]⟩
def f__law_common : Df := ⟨"_law_common", ["one", "other"], 2, [.par [0, 1] [.blt .abs [.var 0], .blt .abs [.var 1]], .whl (.val (.cmp .Gt (.var 1) (.lit (.int 0)))) [.par [0, 1] [.var 1, .bin .Mod (.blt .int [.var 0]) (.var 1)]], .ret (.var 0)]⟩
def f__law_made : Df := ⟨"_law_made", ["top", "under", "part"], 2, [.asg (.nm 2) (.bin .Mult (.call 34 [.var 0, .var 1]) (.ite (.val (.cmp .Gt (.var 1) (.lit (.int 0)))) (.lit (.int 1)) (.neg (.lit (.int 1))))), .ret (.tup [.bin .FloorDiv (.var 0) (.var 2), .bin .FloorDiv (.var 1) (.var 2)])]⟩
def f__law_told : Df := ⟨"_law_told", ["call", "one", "two", "three", "rows", "e"], 4, [.try_ [.ife (.val (.cmp .Lt (.var 0) (.lit (.int 3)))) [.ret (.ite (.val (.cmp .Eq (.var 0) (.lit (.int 0)))) (.call 12 [.var 1]) (.ite (.val (.cmp .Eq (.var 0) (.lit (.int 1)))) (.call 13 [.var 1]) (.call 29 [.var 1])))] [], .ife (.val (.cmp .Lt (.var 0) (.lit (.int 8)))) [.asg (.nm 4) (.lst [.glo "neighbours" (.fn 16), .glo "are_neighbours" (.fn 15), .glo "place" (.fn 25), .glo "gap_square" (.fn 26), .glo "between" (.fn 21)]), .ret (.cval (.sub (.var 4) (.bin .Sub (.var 0) (.lit (.int 3)))) [.var 1, .var 2])] [], .ret (.ite (.val (.cmp .Eq (.var 0) (.lit (.int 8)))) (.call 24 [.var 1]) (.ite (.val (.cmp .Eq (.var 0) (.lit (.int 9)))) (.call 27 [.var 1]) (.ite (.val (.cmp .Eq (.var 0) (.lit (.int 10)))) (.call 28 [.var 1]) (.call 23 [.var 1, .var 2, .var 3]))))] [⟨"ArgumentError", some 5, .ite "DrawnError" (.tup [.lit (.str "argument"), .fld "reason"]) (.lit (.str ""))⟩, ⟨"PaperError", some 5, .tup [.lit (.str "paper"), .fld "reason"]⟩]]⟩
def f__law_below : Df := ⟨"_law_below", ["one", "other"], 2, [.ret (.cmp .Lt (.bin .Mult (.sub (.var 0) (.lit (.int 0))) (.sub (.var 1) (.lit (.int 1)))) (.bin .Mult (.sub (.var 1) (.lit (.int 0))) (.sub (.var 0) (.lit (.int 1)))))]⟩
def f__law_sorted : Df := ⟨"_law_sorted", ["rows", "found", "one", "low", "high", "step", "middle"], 1, [.asg (.nm 1) (.lst []), .for_ (.nm 2) (.sq (.var 0)) [.par [3, 4] [.lit (.int 0), .blt .len [.var 1]], .for_ (.nm 5) (.rg [.lit (.int 20)]) [.ife (.val (.cmp .Lt (.var 3) (.var 4))) [.asg (.nm 6) (.bin .FloorDiv (.bin .Add (.var 3) (.var 4)) (.lit (.int 2))), .asg (.tp [.nm 3, .nm 4]) (.ite (.val (.call 37 [.sub (.var 1) (.var 6), .var 2])) (.tup [.bin .Add (.var 6) (.lit (.int 1)), .var 4]) (.tup [.var 3, .var 6]))] []], .asg (.nm 1) (.bin .Add (.bin .Add (.slc (.var 1) (.lit .non) (.var 3)) (.lst [.var 2])) (.slc (.var 1) (.var 3) (.lit .non)))], .ret (.var 1)]⟩
def f__law_row : Df := ⟨"_law_row", ["most", "rows", "under", "top"], 1, [.asg (.nm 1) (.lst []), .for_ (.nm 2) (.rg [.lit (.int 1), .bin .Add (.var 0) (.lit (.int 1))]) [.asg (.nm 1) (.bin .Add (.var 1) (.comp (.tup [.var 3, .var 2]) (.nm 3) (.rg [.bin .Add (.var 2) (.lit (.int 1))]) (.val (.cmp .Eq (.call 34 [.var 3, .var 2]) (.lit (.int 1)))) [3]))], .ret (.call 38 [.var 1])]⟩
def f__law_less : Df := ⟨"_law_less", ["one", "other"], 2, [.ret (.call 35 [.bin .Sub (.bin .Mult (.sub (.var 0) (.lit (.int 0))) (.sub (.var 1) (.lit (.int 1)))) (.bin .Mult (.sub (.var 1) (.lit (.int 0))) (.sub (.var 0) (.lit (.int 1)))), .bin .Mult (.sub (.var 0) (.lit (.int 1))) (.sub (.var 1) (.lit (.int 1)))])]⟩
def f__law_near : Df := ⟨"_law_near", ["one", "most", "low", "high", "under", "top", "down", "up"], 2, [.asg (.tp [.nm 2, .nm 3]) (.tup [.lit .non, .lit .non]), .for_ (.nm 4) (.rg [.lit (.int 1), .bin .Add (.var 1) (.lit (.int 1))]) [.asg (.nm 5) (.bin .FloorDiv (.bin .Mult (.sub (.var 0) (.lit (.int 0))) (.var 4)) (.sub (.var 0) (.lit (.int 1)))), .asg (.nm 6) (.call 35 [.ite (.val (.cmp .Eq (.bin .Mult (.var 5) (.sub (.var 0) (.lit (.int 1)))) (.bin .Mult (.sub (.var 0) (.lit (.int 0))) (.var 4)))) (.bin .Sub (.var 5) (.lit (.int 1))) (.var 5), .var 4]), .asg (.nm 7) (.call 35 [.bin .Add (.var 5) (.lit (.int 1)), .var 4]), .asg (.nm 2) (.ite (.or (.val (.cmp .Is (.var 2) (.lit .non))) (.val (.call 37 [.var 2, .var 6]))) (.var 6) (.var 2)), .asg (.nm 3) (.ite (.or (.val (.cmp .Is (.var 3) (.lit .non))) (.val (.call 37 [.var 7, .var 3]))) (.var 7) (.var 3))], .ret (.tup [.var 2, .var 3])]⟩
def f__law_between : Df := ⟨"_law_between", ["one", "other", "low", "high", "under", "top"], 2, [.asg (.tp [.nm 2, .nm 3]) (.ite (.val (.call 37 [.var 0, .var 1])) (.tup [.var 0, .var 1]) (.tup [.var 1, .var 0])), .for_ (.nm 4) (.rg [.lit (.int 1), .bin .Add (.bin .Add (.sub (.var 2) (.lit (.int 1))) (.sub (.var 3) (.lit (.int 1)))) (.lit (.int 1))]) [.asg (.nm 5) (.bin .Add (.bin .FloorDiv (.bin .Mult (.sub (.var 2) (.lit (.int 0))) (.var 4)) (.sub (.var 2) (.lit (.int 1)))) (.lit (.int 1))), .ife (.val (.cmp .Lt (.bin .Mult (.var 5) (.sub (.var 3) (.lit (.int 1)))) (.bin .Mult (.sub (.var 3) (.lit (.int 0))) (.var 4)))) [.ret (.call 35 [.var 5, .var 4])] []], .ret (.lit .non)]⟩
def f__law_turns : Df := ⟨"_law_turns", ["one", "low", "high", "steps", "turn", "here", "word"], 1, [.par [1, 2, 3] [.tup [.lit (.int 0), .lit (.int 1)], .tup [.lit (.int 1), .lit (.int 0)], .lst []], .for_ (.nm 4) (.rg [.lit (.int 3000)]) [.asg (.nm 5) (.tup [.bin .Add (.sub (.var 1) (.lit (.int 0))) (.sub (.var 2) (.lit (.int 0))), .bin .Add (.sub (.var 1) (.lit (.int 1))) (.sub (.var 2) (.lit (.int 1)))]), .ife (.val (.cmp .Eq (.var 5) (.var 0))) [.ret (.blt .tuple [.var 3])] [], .asg (.nm 6) (.ite (.val (.cmp .Lt (.bin .Mult (.sub (.var 0) (.lit (.int 0))) (.sub (.var 5) (.lit (.int 1)))) (.bin .Mult (.sub (.var 5) (.lit (.int 0))) (.sub (.var 0) (.lit (.int 1)))))) (.lit (.str "left")) (.lit (.str "right"))), .asg (.tp [.nm 1, .nm 2]) (.ite (.val (.cmp .Eq (.var 6) (.lit (.str "left")))) (.tup [.var 1, .var 5]) (.tup [.var 5, .var 2])), .ife (.and (.val (.cmp .NotEq (.var 3) (.lst []))) (.val (.cmp .Eq (.sub (.sub (.var 3) (.bin .Sub (.blt .len [.var 3]) (.lit (.int 1)))) (.lit (.int 0))) (.var 6)))) [.asg (.nm 3) (.bin .Add (.slc (.var 3) (.lit .non) (.neg (.lit (.int 1)))) (.lst [.tup [.var 6, .bin .Add (.sub (.sub (.var 3) (.bin .Sub (.blt .len [.var 3]) (.lit (.int 1)))) (.lit (.int 1))) (.lit (.int 1))]]))] [.asg (.nm 3) (.bin .Add (.var 3) (.lst [.tup [.var 6, .lit (.int 1)]]))]], .ret (.lit .non)]⟩
def f__law_fraction : Df := ⟨"_law_fraction", ["draws", "at", "top", "under"], 2, [.par [2, 3] [.bin .Sub (.call 32 [.var 0, .var 1, .lit (.int 61)]) (.lit (.int 30)), .call 33 [.lst [.lit (.int 1), .lit (.int 2), .lit (.int 3), .lit (.int 5), .lit (.int 7), .lit (.int 12), .lit (.int 29), .lit (.int 40)], .var 0, .var 1]], .ret (.call 35 [.var 2, .var 3])]⟩
def f__law_pair_right : Df := ⟨"_law_pair_right", ["one", "other", "draws", "at", "cross_v", "rows", "part", "far", "radii", "gap", "due", "call", "best", "turn", "near", "bent", "reason", "inside"], 4, [.asg (.nm 4) (.bin .Sub (.bin .Mult (.sub (.var 0) (.lit (.int 0))) (.sub (.var 1) (.lit (.int 1)))) (.bin .Mult (.sub (.var 1) (.lit (.int 0))) (.sub (.var 0) (.lit (.int 1))))), .asg (.nm 5) (.comp (.lst [.sub (.var 6) (.lit (.int 0)), .call 35 [.lit (.int 1), .bin .Mult (.bin .Mult (.lit (.int 2)) (.sub (.var 6) (.lit (.int 1)))) (.sub (.var 6) (.lit (.int 1)))]]) (.nm 6) (.sq (.tup [.var 0, .var 1])) (.yes) [6]), .asg (.nm 7) (.call 40 [.var 0, .var 1]), .asg (.nm 8) (.comp (.tup [.lit (.int 1), .bin .Mult (.bin .Mult (.lit (.int 2)) (.sub (.var 6) (.lit (.int 1)))) (.sub (.var 6) (.lit (.int 1)))]) (.nm 6) (.sq (.tup [.var 0, .var 1])) (.yes) [6]), .asg (.nm 9) (.call 35 [.bin .Sub (.bin .Mult (.bin .Mult (.bin .Mult (.bin .Mult (.bin .Mult (.sub (.var 7) (.lit (.int 0))) (.sub (.var 7) (.lit (.int 0)))) (.sub (.var 0) (.lit (.int 1)))) (.sub (.var 0) (.lit (.int 1)))) (.sub (.var 1) (.lit (.int 1)))) (.sub (.var 1) (.lit (.int 1)))) (.bin .Mult (.sub (.var 7) (.lit (.int 1))) (.sub (.var 7) (.lit (.int 1)))), .bin .Mult (.bin .Mult (.bin .Mult (.bin .Mult (.bin .Mult (.sub (.var 7) (.lit (.int 1))) (.sub (.var 7) (.lit (.int 1)))) (.sub (.var 0) (.lit (.int 1)))) (.sub (.var 0) (.lit (.int 1)))) (.sub (.var 1) (.lit (.int 1)))) (.sub (.var 1) (.lit (.int 1)))]), .asg (.nm 10) (.lst [.cmp .Eq (.blt .abs [.var 4]) (.lit (.int 1)), .ite (.val (.cmp .Eq (.var 4) (.lit (.int 0)))) (.lit (.str "same")) (.ite (.val (.cmp .Eq (.blt .abs [.var 4]) (.lit (.int 1)))) (.lit (.str "touch")) (.lit (.str "apart"))), .var 9, .ite (.val (.cmp .Eq (.var 4) (.lit (.int 0)))) (.tup [.lit (.str "argument"), .lit (.str "other")]) (.call 42 [.var 0, .var 1])]), .ife (.or (.val (.cmp .NotEq (.blt .repr [.comp (.call 36 [.var 11, .var 0, .var 1, .lit .non]) (.nm 11) (.sq (.tup [.lit (.int 4), .lit (.int 5), .lit (.int 6), .lit (.int 7)])) (.yes) [11]]) (.blt .repr [.var 10]))) (.val (.cmp .NotEq (.blt .repr [.call 36 [.lit (.int 8), .var 0, .lit .non, .lit .non]]) (.blt .repr [.tup [.tup [.var 0, .sub (.var 8) (.lit (.int 0))], .tup [.lit (.int 1), .bin .Mult (.sub (.sub (.var 8) (.lit (.int 0))) (.lit (.int 1))) (.sub (.sub (.var 8) (.lit (.int 0))) (.lit (.int 1)))]]])))) [.ret (.lit (.bl false))] [], .ife (.val (.cmp .Eq (.var 4) (.lit (.int 0)))) [.ret (.and (.cmp .Eq (.blt .len [.var 5]) (.lit (.int 2))) (.cmp .Eq (.call 36 [.lit (.int 11), .var 0, .var 1, .lit .non]) (.tup [.lit (.str "argument"), .lit (.str "other")])))] [], .asg (.nm 12) (.sub (.var 10) (.lit (.int 3))), .for_ (.nm 13) (.rg [.lit (.int 4)]) [.asg (.nm 14) (.lst [.var 12, .var 0, .tup [.bin .Add (.sub (.var 12) (.lit (.int 0))) (.lit (.int 1)), .sub (.var 12) (.lit (.int 1))], .call 35 [.bin .Add (.sub (.var 0) (.lit (.int 0))) (.sub (.var 1) (.lit (.int 0))), .bin .Add (.sub (.var 0) (.lit (.int 1))) (.sub (.var 1) (.lit (.int 1)))], .call 35 [.bin .Add (.bin .Mult (.sub (.var 12) (.lit (.int 0))) (.lit (.int 2))) (.sub (.var 0) (.lit (.int 0))), .bin .Add (.bin .Mult (.sub (.var 12) (.lit (.int 1))) (.lit (.int 2))) (.sub (.var 0) (.lit (.int 1)))]]), .asg (.nm 15) (.call 33 [.bin .Add (.var 14) (.lst [.tup [.lit (.int 2), .lit (.int 4)], .lit .non, .lit (.str "1/2"), .tup [.bin .Mult (.sub (.var 12) (.lit (.int 0))) (.lit (.int 2)), .bin .Mult (.sub (.var 12) (.lit (.int 1))) (.lit (.int 2))]]), .var 2, .var 3]), .asg (.nm 16) (.lit (.str "form")), .ife (.and (.val (.isi "tuple" (.var 15))) (.val (.cmp .Eq (.call 34 [.sub (.var 15) (.lit (.int 0)), .sub (.var 15) (.lit (.int 1))]) (.lit (.int 1))))) [.asg (.nm 17) (.or (.and (.call 37 [.var 0, .var 15]) (.call 37 [.var 15, .var 1])) (.and (.call 37 [.var 1, .var 15]) (.call 37 [.var 15, .var 0]))), .asg (.nm 16) (.ite (.not (.val (.var 17))) (.lit (.str "between")) (.ite (.val (.cmp .NotEq (.sub (.var 15) (.lit (.int 1))) (.sub (.var 12) (.lit (.int 1))))) (.lit (.str "denominator")) (.ite (.val (.cmp .NotEq (.var 15) (.var 12))) (.lit (.str "least")) (.lit .non))))] [], .ife (.val (.cmp .NotEq (.call 36 [.lit (.int 11), .var 0, .var 1, .var 15]) (.ite (.val (.cmp .Is (.var 16) (.lit .non))) (.lit .non) (.tup [.lit (.str "paper"), .var 16])))) [.ret (.lit (.bl false))] []], .ret (.lit (.bl true))]⟩
def f_law : Df := ⟨"law", ["script", "draws", "at", "most", "rows", "steps", "k", "call", "turn", "one", "other", "bound", "way", "low", "high", "turns", "word", "number", "bad", "odd", "told", "wrong"], 1, [.asg (.nm 1) (.call 30 [.var 0]), .asg (.nm 2) (.lst [.lit (.int 0)]), .asg (.nm 3) (.call 33 [.lst [.lit (.int 1), .lit (.int 2), .lit (.int 3), .lit (.int 5), .lit (.int 8), .lit (.int 13), .lit (.int 24)], .var 1, .var 2]), .asg (.nm 4) (.call 39 [.var 3]), .asg (.nm 5) (.call 38 [.comp (.call 40 [.sub (.var 4) (.var 6), .sub (.var 4) (.bin .Sub (.var 6) (.lit (.int 1)))]) (.nm 6) (.rg [.lit (.int 1), .blt .len [.var 4]]) (.yes) [6]]), .ife (.val (.cmp .NotEq (.blt .repr [.comp (.call 36 [.var 7, .var 3, .lit .non, .lit .non]) (.nm 7) (.rg [.lit (.int 3)]) (.yes) [7]]) (.blt .repr [.lst [.blt .tuple [.var 4], .blt .len [.var 4], .tup [.sub (.var 5) (.bin .Sub (.blt .len [.var 5]) (.lit (.int 1))), .sub (.var 5) (.lit (.int 0))]]]))) [.ret (.lit (.bl false))] [], .for_ (.nm 8) (.rg [.lit (.int 3)]) [.par [9, 10] [.call 44 [.var 1, .var 2], .call 44 [.var 1, .var 2]], .asg (.nm 10) (.call 33 [.lst [.var 10, .sub (.call 41 [.var 9, .lit (.int 9)]) (.lit (.int 0)), .sub (.call 41 [.var 9, .lit (.int 30)]) (.lit (.int 1)), .tup [.bin .Add (.sub (.var 9) (.lit (.int 0))) (.sub (.var 9) (.lit (.int 1))), .sub (.var 9) (.lit (.int 1))]], .var 1, .var 2]), .asg (.nm 11) (.call 33 [.lst [.lit (.int 1), .lit (.int 2), .lit (.int 7), .lit (.int 20), .lit (.int 50)], .var 1, .var 2]), .ife (.or (.val (.cmp .NotEq (.blt .repr [.call 36 [.lit (.int 3), .var 9, .var 11, .lit .non]]) (.blt .repr [.call 41 [.var 9, .var 11]]))) (.not (.val (.call 45 [.var 9, .var 10, .var 1, .var 2])))) [.ret (.lit (.bl false))] [], .asg (.nm 12) (.ite (.val (.cmp .LtE (.sub (.var 9) (.lit (.int 0))) (.lit (.int 0)))) (.tup [.lit (.str "argument"), .lit (.str "one")]) (.call 43 [.var 9])), .ife (.val (.cmp .NotEq (.blt .repr [.call 36 [.lit (.int 9), .var 9, .lit .non, .lit .non]]) (.blt .repr [.var 12]))) [.ret (.lit (.bl false))] [], .ife (.and (.val (.cmp .Gt (.sub (.var 9) (.lit (.int 0))) (.lit (.int 0)))) (.val (.cmp .NotEq (.call 36 [.lit (.int 10), .var 12, .lit .non, .lit .non]) (.var 9)))) [.ret (.lit (.bl false))] []], .asg (.tp [.nm 13, .nm 14, .nm 15]) (.tup [.tup [.lit (.int 0), .lit (.int 1)], .tup [.lit (.int 1), .lit (.int 0)], .tup []]), .for_ (.nm 8) (.rg [.call 32 [.var 1, .var 2, .lit (.int 6)]]) [.par [16, 17] [.call 33 [.lst [.lit (.str "left"), .lit (.str "right")], .var 1, .var 2], .bin .Add (.lit (.int 1)) (.call 32 [.var 1, .var 2, .lit (.int 5)])], .asg (.nm 15) (.bin .Add (.var 15) (.tup [.tup [.var 16, .var 17]])), .ife (.val (.cmp .Eq (.var 16) (.lit (.str "left")))) [.asg (.nm 14) (.tup [.bin .Add (.sub (.var 14) (.lit (.int 0))) (.bin .Mult (.var 17) (.sub (.var 13) (.lit (.int 0)))), .bin .Add (.sub (.var 14) (.lit (.int 1))) (.bin .Mult (.var 17) (.sub (.var 13) (.lit (.int 1))))])] [.asg (.nm 13) (.tup [.bin .Add (.sub (.var 13) (.lit (.int 0))) (.bin .Mult (.var 17) (.sub (.var 14) (.lit (.int 0)))), .bin .Add (.sub (.var 13) (.lit (.int 1))) (.bin .Mult (.var 17) (.sub (.var 14) (.lit (.int 1))))])]], .ife (.val (.cmp .NotEq (.blt .repr [.call 36 [.lit (.int 10), .var 15, .lit .non, .lit .non]]) (.blt .repr [.tup [.bin .Add (.sub (.var 13) (.lit (.int 0))) (.sub (.var 14) (.lit (.int 0))), .bin .Add (.sub (.var 13) (.lit (.int 1))) (.sub (.var 14) (.lit (.int 1)))]]))) [.ret (.lit (.bl false))] [], .asg (.tp [.nm 18, .nm 19]) (.tup [.call 33 [.lst [.lit .non, .lit (.int 5), .tup [.lit (.int 1), .lit (.int 0)], .tup [.lit (.int 2), .lit (.int 4)], .tup [.lit (.int 1), .neg (.lit (.int 2))], .tup [.lit (.bl true), .lit (.int 1)], .tup [.lit (.int 1000001), .lit (.int 1)]], .var 1, .var 2], .call 33 [.lst [.lit (.int 0), .bin .Add (.glo "MAX_FAREY" (.int 100)) (.lit (.int 1)), .lit .non, .lit (.bl true)], .var 1, .var 2]]), .ife (.val (.cmp .NotEq (.bin .Add (.comp (.call 36 [.var 7, .var 19, .lit .non, .lit .non]) (.nm 7) (.rg [.lit (.int 3)]) (.yes) [7]) (.lst [.call 36 [.lit (.int 3), .tup [.lit (.int 1), .lit (.int 2)], .call 33 [.lst [.lit (.int 0), .lit (.int 1000001), .lit .non, .lit (.bl true)], .var 1, .var 2], .lit .non]])) (.bin .Mult (.lst [.tup [.lit (.str "argument"), .lit (.str "most")]]) (.lit (.int 4))))) [.ret (.lit (.bl false))] [], .asg (.nm 20) (.bin .Add (.comp (.call 36 [.var 7, .var 18, .tup [.lit (.int 1), .lit (.int 3)], .lit .non]) (.nm 7) (.sq (.tup [.lit (.int 3), .lit (.int 4), .lit (.int 5), .lit (.int 6), .lit (.int 7), .lit (.int 8), .lit (.int 9), .lit (.int 11)])) (.yes) [7]) (.lst [.call 36 [.lit (.int 6), .tup [.lit (.int 1), .lit (.int 3)], .var 18, .lit .non]])), .ife (.or (.val (.cmp .NotEq (.var 20) (.bin .Mult (.lst [.tup [.lit (.str "argument"), .lit (.str "one")]]) (.lit (.int 9))))) (.val (.cmp .NotEq (.comp (.call 36 [.var 7, .tup [.lit (.int 1), .lit (.int 3)], .var 18, .lit .non]) (.nm 7) (.sq (.tup [.lit (.int 4), .lit (.int 5), .lit (.int 7), .lit (.int 11)])) (.yes) [7]) (.bin .Mult (.lst [.tup [.lit (.str "argument"), .lit (.str "other")]]) (.lit (.int 4)))))) [.ret (.lit (.bl false))] [], .asg (.nm 21) (.call 33 [.lst [.lit .non, .lst [], .tup [.tup [.lit (.str "up"), .lit (.int 1)]], .tup [.tup [.lit (.str "left"), .lit (.int 0)]], .tup [.tup [.lit (.str "left"), .lit (.int 1001)]], .tup [.tup [.lit (.str "left")]], .tup [.tup [.lit (.str "left"), .lit (.bl true)]], .bin .Mult (.tup [.tup [.lit (.str "left"), .lit (.int 1)]]) (.lit (.int 31))], .var 1, .var 2]), .ret (.cmp .Eq (.call 36 [.lit (.int 10), .var 21, .lit .non, .lit .non]) (.tup [.lit (.str "argument"), .lit (.str "turns")]))]⟩
def defs0 : List Df := [f_is_integer, f_in_range, f_common, f_is_fraction, f_is_small, f_demand_fraction, f_made, f_added, f_negated, f_multiplied, f_demand_most, f_row_to, f_row, f_count_row, f_cross, f_are_neighbours, f_neighbours, f_side_of, f_steps_in, f_most_times, f_turned_in, f_between, f_simplest, f_accept_between, f_circle]
def defs1 : List Df := [f_place, f_gap_square, f_way_down, f_from_turns, f_gaps, f__law_draws, f__law_more, f__law_take, f__law_one, f__law_common, f__law_made, f__law_told, f__law_below, f__law_sorted, f__law_row, f__law_less, f__law_near, f__law_between, f__law_turns, f__law_fraction, f__law_pair_right, f_law]
def defs : List Df := defs0 ++ defs1
def ecs : List Ec := [⟨"ArgumentError", ["reason"], ["ArgumentError", "ReasonError", "DrawnError"]⟩, ⟨"PaperError", ["reason"], ["PaperError", "ReasonError", "DrawnError"]⟩]
def pg : Pg := ⟨defs, ecs⟩
def cts0 : List (Str × A) := [("MAX_NUMBER", .int 1000000), ("MAX_FAREY", .int 100)]
def ck : Ck := ⟨[], pg, cts0, ["ArgumentError", "PaperError", "DrawnError"]⟩
def sts0 : List Stmt := [top 1, top 2, top 3, top 12, top 13, top 14, top 15, top 16, top 17, top 18, top 20, top 21, top 22, top 23, top 24, top 25, top 26, top 27, top 28, top 29, top 30, top 31, top 32, top 33, top 34]
def sts1 : List Stmt := [top 35, top 36, top 37, top 38, top 39, top 41, top 42, top 43, top 44, top 45, top 46, top 47, top 48, top 49, top 50, top 51, top 52, top 53, top 54, top 55, top 56, top 57]
def sts : List Stmt := sts0 ++ sts1
theorem dd_is_integer : Dd ck f_is_integer (top 1) := ⟨fun _ _ _ _ _ _ us hl => match us, hl with | [_], _ => rfl, by decide +kernel⟩
theorem dd_in_range : Dd ck f_in_range (top 2) := ⟨fun _ _ _ _ _ _ us hl => match us, hl with | [_, _, _], _ => rfl, by decide +kernel⟩
theorem dd_common : Dd ck f_common (top 3) := ⟨fun _ _ _ _ _ _ us hl => match us, hl with | [_, _], _ => rfl, by decide +kernel⟩
theorem dd_is_fraction : Dd ck f_is_fraction (top 12) := ⟨fun _ _ _ _ _ _ us hl => match us, hl with | [_], _ => rfl, by decide +kernel⟩
theorem dd_is_small : Dd ck f_is_small (top 13) := ⟨fun _ _ _ _ _ _ us hl => match us, hl with | [_], _ => rfl, by decide +kernel⟩
theorem dd_demand_fraction : Dd ck f_demand_fraction (top 14) := ⟨fun _ _ _ _ _ _ us hl => match us, hl with | [_, _], _ => rfl, by decide +kernel⟩
theorem dd_made : Dd ck f_made (top 15) := ⟨fun _ _ _ _ _ _ us hl => match us, hl with | [_, _], _ => rfl, by decide +kernel⟩
theorem dd_added : Dd ck f_added (top 16) := ⟨fun _ _ _ _ _ _ us hl => match us, hl with | [_, _], _ => rfl, by decide +kernel⟩
theorem dd_negated : Dd ck f_negated (top 17) := ⟨fun _ _ _ _ _ _ us hl => match us, hl with | [_], _ => rfl, by decide +kernel⟩
theorem dd_multiplied : Dd ck f_multiplied (top 18) := ⟨fun _ _ _ _ _ _ us hl => match us, hl with | [_, _], _ => rfl, by decide +kernel⟩
theorem dd_demand_most : Dd ck f_demand_most (top 20) := ⟨fun _ _ _ _ _ _ us hl => match us, hl with | [_], _ => rfl, by decide +kernel⟩
theorem dd_row_to : Dd ck f_row_to (top 21) := ⟨fun _ _ _ _ _ _ us hl => match us, hl with | [_], _ => rfl, by decide +kernel⟩
theorem dd_row : Dd ck f_row (top 22) := ⟨fun _ _ _ _ _ _ us hl => match us, hl with | [_], _ => rfl, by decide +kernel⟩
theorem dd_count_row : Dd ck f_count_row (top 23) := ⟨fun _ _ _ _ _ _ us hl => match us, hl with | [_], _ => rfl, by decide +kernel⟩
theorem dd_cross : Dd ck f_cross (top 24) := ⟨fun _ _ _ _ _ _ us hl => match us, hl with | [_, _], _ => rfl, by decide +kernel⟩
theorem dd_are_neighbours : Dd ck f_are_neighbours (top 25) := ⟨fun _ _ _ _ _ _ us hl => match us, hl with | [_, _], _ => rfl, by decide +kernel⟩
theorem dd_neighbours : Dd ck f_neighbours (top 26) := ⟨fun _ _ _ _ _ _ us hl => match us, hl with | [_, _], _ => rfl, by decide +kernel⟩
theorem dd_side_of : Dd ck f_side_of (top 27) := ⟨fun _ _ _ _ _ _ us hl => match us, hl with | [_, _, _], _ => rfl, by decide +kernel⟩
theorem dd_steps_in : Dd ck f_steps_in (top 28) := ⟨fun _ _ _ _ _ _ us hl => match us, hl with | [_, _, _, _], _ => rfl, by decide +kernel⟩
theorem dd_most_times : Dd ck f_most_times (top 29) := ⟨fun _ _ _ _ _ _ us hl => match us, hl with | [_, _, _, _], _ => rfl, by decide +kernel⟩
theorem dd_turned_in : Dd ck f_turned_in (top 30) := ⟨fun _ _ _ _ _ _ us hl => match us, hl with | [_, _], _ => rfl, by decide +kernel⟩
theorem dd_between : Dd ck f_between (top 31) := ⟨fun _ _ _ _ _ _ us hl => match us, hl with | [_, _], _ => rfl, by decide +kernel⟩
theorem dd_simplest : Dd ck f_simplest (top 32) := ⟨fun _ _ _ _ _ _ us hl => match us, hl with | [_, _], _ => rfl, by decide +kernel⟩
theorem dd_accept_between : Dd ck f_accept_between (top 33) := ⟨fun _ _ _ _ _ _ us hl => match us, hl with | [_, _, _], _ => rfl, by decide +kernel⟩
theorem dd_circle : Dd ck f_circle (top 34) := ⟨fun _ _ _ _ _ _ us hl => match us, hl with | [_], _ => rfl, by decide +kernel⟩
theorem dd_place : Dd ck f_place (top 35) := ⟨fun _ _ _ _ _ _ us hl => match us, hl with | [_, _], _ => rfl, by decide +kernel⟩
theorem dd_gap_square : Dd ck f_gap_square (top 36) := ⟨fun _ _ _ _ _ _ us hl => match us, hl with | [_, _], _ => rfl, by decide +kernel⟩
theorem dd_way_down : Dd ck f_way_down (top 37) := ⟨fun _ _ _ _ _ _ us hl => match us, hl with | [_], _ => rfl, by decide +kernel⟩
theorem dd_from_turns : Dd ck f_from_turns (top 38) := ⟨fun _ _ _ _ _ _ us hl => match us, hl with | [_], _ => rfl, by decide +kernel⟩
theorem dd_gaps : Dd ck f_gaps (top 39) := ⟨fun _ _ _ _ _ _ us hl => match us, hl with | [_], _ => rfl, by decide +kernel⟩
theorem dd__law_draws : Dd ck f__law_draws (top 41) := ⟨fun _ _ _ _ _ _ us hl => match us, hl with | [_], _ => rfl, by decide +kernel⟩
theorem dd__law_more : Dd ck f__law_more (top 42) := ⟨fun _ _ _ _ _ _ us hl => match us, hl with | [_, _], _ => rfl, by decide +kernel⟩
theorem dd__law_take : Dd ck f__law_take (top 43) := ⟨fun _ _ _ _ _ _ us hl => match us, hl with | [_, _, _], _ => rfl, by decide +kernel⟩
theorem dd__law_one : Dd ck f__law_one (top 44) := ⟨fun _ _ _ _ _ _ us hl => match us, hl with | [_, _, _], _ => rfl, by decide +kernel⟩
theorem dd__law_common : Dd ck f__law_common (top 45) := ⟨fun _ _ _ _ _ _ us hl => match us, hl with | [_, _], _ => rfl, by decide +kernel⟩
theorem dd__law_made : Dd ck f__law_made (top 46) := ⟨fun _ _ _ _ _ _ us hl => match us, hl with | [_, _], _ => rfl, by decide +kernel⟩
theorem dd__law_told : Dd ck f__law_told (top 47) := ⟨fun _ _ _ _ _ _ us hl => match us, hl with | [_, _, _, _], _ => rfl, by decide +kernel⟩
theorem dd__law_below : Dd ck f__law_below (top 48) := ⟨fun _ _ _ _ _ _ us hl => match us, hl with | [_, _], _ => rfl, by decide +kernel⟩
theorem dd__law_sorted : Dd ck f__law_sorted (top 49) := ⟨fun _ _ _ _ _ _ us hl => match us, hl with | [_], _ => rfl, by decide +kernel⟩
theorem dd__law_row : Dd ck f__law_row (top 50) := ⟨fun _ _ _ _ _ _ us hl => match us, hl with | [_], _ => rfl, by decide +kernel⟩
theorem dd__law_less : Dd ck f__law_less (top 51) := ⟨fun _ _ _ _ _ _ us hl => match us, hl with | [_, _], _ => rfl, by decide +kernel⟩
theorem dd__law_near : Dd ck f__law_near (top 52) := ⟨fun _ _ _ _ _ _ us hl => match us, hl with | [_, _], _ => rfl, by decide +kernel⟩
theorem dd__law_between : Dd ck f__law_between (top 53) := ⟨fun _ _ _ _ _ _ us hl => match us, hl with | [_, _], _ => rfl, by decide +kernel⟩
theorem dd__law_turns : Dd ck f__law_turns (top 54) := ⟨fun _ _ _ _ _ _ us hl => match us, hl with | [_], _ => rfl, by decide +kernel⟩
theorem dd__law_fraction : Dd ck f__law_fraction (top 55) := ⟨fun _ _ _ _ _ _ us hl => match us, hl with | [_, _], _ => rfl, by decide +kernel⟩
theorem dd__law_pair_right : Dd ck f__law_pair_right (top 56) := ⟨fun _ _ _ _ _ _ us hl => match us, hl with | [_, _, _, _], _ => rfl, by decide +kernel⟩
theorem dd_law : Dd ck f_law (top 57) := ⟨fun _ _ _ _ _ _ us hl => match us, hl with | [_], _ => rfl, by decide +kernel⟩
theorem all0 : AllD ck defs0 sts0 := ⟨dd_is_integer, dd_in_range, dd_common, dd_is_fraction, dd_is_small, dd_demand_fraction, dd_made, dd_added, dd_negated, dd_multiplied, dd_demand_most, dd_row_to, dd_row, dd_count_row, dd_cross, dd_are_neighbours, dd_neighbours, dd_side_of, dd_steps_in, dd_most_times, dd_turned_in, dd_between, dd_simplest, dd_accept_between, dd_circle, trivial⟩
theorem all1 : AllD ck defs1 sts1 := ⟨dd_place, dd_gap_square, dd_way_down, dd_from_turns, dd_gaps, dd__law_draws, dd__law_more, dd__law_take, dd__law_one, dd__law_common, dd__law_made, dd__law_told, dd__law_below, dd__law_sorted, dd__law_row, dd__law_less, dd__law_near, dd__law_between, dd__law_turns, dd__law_fraction, dd__law_pair_right, dd_law, trivial⟩
theorem allD_app {c : Ck} : ∀ {d1 d2 : List Df} {s1 s2 : List Stmt}, AllD c d1 s1 → AllD c d2 s2 → AllD c (d1 ++ d2) (s1 ++ s2)
  | [], _, [], _, _, h => h
  | _ :: _, _, _ :: _, _, a, h => ⟨a.1, allD_app a.2 h⟩
  | [], _, _ :: _, _, a, _ => a.elim
  | _ :: _, _, [], _, a, _ => a.elim
theorem allD : AllD ck defs sts := (allD_app all0 all1)
def loose0 : List Str := ["is_integer", "in_range", "common", "DrawnError", "ReasonError", "ArgumentError", "PaperError", "MAX_NUMBER", "MAX_FAREY", "is_fraction", "is_small", "demand_fraction", "made", "added", "negated", "multiplied", "demand_most", "row_to", "row", "count_row", "cross", "are_neighbours", "neighbours", "side_of", "steps_in", "most_times", "turned_in", "between", "simplest", "accept_between"]
def loose1 : List Str := ["circle", "place", "gap_square", "way_down", "from_turns", "gaps", "_law_draws", "_law_more", "_law_take", "_law_one", "_law_common", "_law_made", "_law_told", "_law_below", "_law_sorted", "_law_row", "_law_less", "_law_near", "_law_between", "_law_turns", "_law_fraction", "_law_pair_right"]
def loose : List Str := loose0 ++ loose1
abbrev RR : PySem.W.OpenRow := PySem.W.OpenLaw.row PySem.Challenge.rw_drawnwrought_k46_whole_ford_circles
def fn : List He.DefD := List.zipWith dfn defs sts
abbrev hk : PySem.W.Hook := hookE 4 fn (partB prog ck)
def ob (s : PySem.W.SharedT) : Al := look1 4 fn (partB prog ck) (HandSHeadRun.getT s)
theorem ob_eq (s : PySem.W.SharedT) : ob s = hk.obs s.abs := look1_eq (HandSHeadRun.getT_eq s)
theorem run (w : World) : HandSHeadRun.RunEq RR (PySem.W.view RR.prog [57]) hk ob 4000 loose w := by
  intro os
  kernel_rfl
end My

/-! text Q1 -/
set_option Elab.async false
set_option linter.all false
set_option maxRecDepth 100000
set_option maxHeartbeats 4000000
/-! k46: the small functions: whole numbers, fractions in least terms -/
namespace My
open PySem Ev Pl
abbrev fr (a b : Int) : A := .tup [.int a, .int b]
abbrev cK (n : Nat) : Nat → List A → Ho → R A := callK pg 4000 n
abbrev cP (n : Nat) : Nat → List A → Ho → R A := callP (callK pg 4000 n)
/-! ### calls -/
mutual
theorem up_inb : ∀ (n : Nat) (a : A), A.inb 0 a = true → A.up n a = a
  | _, .non, _ => rfl
  | _, .bl _, _ => rfl
  | _, .int _, _ => rfl
  | _, .str _, _ => rfl
  | n, .tup xs, h => by
    show A.tup (A.ups n xs) = _
    rw [ups_inb n xs h]
  | n, .lis xs, h => by
    show A.lis (A.ups n xs) = _
    rw [ups_inb n xs h]
  | _, .ref m, h => by
    have h : decide (m < 0) = true := h
    exact absurd (of_decide_eq_true h) (Nat.not_lt_zero m)
  | _, .fn _, _ => rfl
theorem ups_inb : ∀ (n : Nat) (as : List A), A.inbs 0 as = true → A.ups n as = as
  | _, [], _ => rfl
  | n, a :: as, h => by
    obtain ⟨h1, h2⟩ := Bool.and_eq_true_iff.mp (show (A.inb 0 a && A.inbs 0 as) = true from h)
    show A.up n a :: A.ups n as = _
    rw [up_inb n a h1, ups_inb n as h2]
end
section
variable {n f : Nat} {d : Df} {xs : List A} {a : A} {h' : Ho} {σ : Sl}
theorem cp (s : cK n f xs [] = .ok a []) (hx : A.inbs 0 xs = true) (ha : A.inb 0 a = true) (h : Ho) : cP n f xs h = .ok a h := by
  show callP _ _ _ _ = _
  unfold callP
  rw [if_pos hx]
  show graft h (cK n f xs []) = _
  rw [s]
  show R.ok (A.up h.length a) (h ++ []) = _
  rw [up_inb _ _ ha, List.append_nil]
theorem cpX {c : Nat} {x : Str} {v : Str} (s : cK n f xs [] = .exc ⟨c, [(x, .str v)]⟩ []) (hx : A.inbs 0 xs = true) (h : Ho) : cP n f xs h = .exc ⟨c, [(x, .str v)]⟩ h := by
  show callP _ _ _ _ = _
  unfold callP
  rw [if_pos hx]
  show graft h (cK n f xs []) = _
  rw [s]
  show R.exc ⟨c, [(x, A.str v)]⟩ (h ++ []) = _
  rw [List.append_nil]
theorem trim0 {α : Type} (h' : Ho) (k : Ho → α) : trim 0 true h' k = k [] := by
  unfold trim
  split
  · next e => rw [List.length_eq_zero_iff.mp (Nat.le_zero.mp e)]
  · rfl
theorem enter (hd : pg.defs[f]? = some d) (hl : xs.length = d.ps) (hr : evSs pg 4000 (cP n) d.body (xs.map some ++ List.replicate (d.N.length - xs.length) none) [] = .rt a h') (ha : A.inb 0 a = true) : cK (n + 1) f xs [] = .ok a [] := by
  show callK _ _ _ _ _ _ = _
  unfold callK
  rw [hd]
  dsimp only
  rw [if_pos (beq_iff_eq.mpr hl), hr]
  dsimp only
  show trim 0 (A.inb 0 a) h' _ = _
  rw [ha, trim0]
theorem enterN (hd : pg.defs[f]? = some d) (hl : xs.length = d.ps) (hr : evSs pg 4000 (cP n) d.body (xs.map some ++ List.replicate (d.N.length - xs.length) none) [] = .nx σ h') : cK (n + 1) f xs [] = .ok .non [] := by
  show callK _ _ _ _ _ _ = _
  unfold callK
  rw [hd]
  dsimp only
  rw [if_pos (beq_iff_eq.mpr hl), hr]
  dsimp only
  show trim 0 true h' _ = _
  rw [trim0]
theorem enterX {c : Nat} {x : Str} {v : Str} (hd : pg.defs[f]? = some d) (hl : xs.length = d.ps) (hr : evSs pg 4000 (cP n) d.body (xs.map some ++ List.replicate (d.N.length - xs.length) none) [] = .ex ⟨c, [(x, .str v)]⟩ σ h') : cK (n + 1) f xs [] = .exc ⟨c, [(x, .str v)]⟩ [] := by
  show callK _ _ _ _ _ _ = _
  unfold callK
  rw [hd]
  dsimp only
  rw [if_pos (beq_iff_eq.mpr hl), hr]
  dsimp only
  show trim 0 true h' _ = _
  rw [trim0]
end
/-! ### sizes -/
def Sz (k : Nat) (i : Int) : Prop := i.natAbs < 2 ^ k
theorem Sz.log {k : Nat} {i : Int} (h : Sz k i) : i.natAbs.log2 ≤ k := by
  cases Nat.decEq i.natAbs 0 with
  | isTrue e =>
    rw [e]
    exact Nat.zero_le _
  | isFalse e => exact Nat.le_of_lt ((Nat.log2_lt e).mpr h)
theorem Sz.mulOk {k l : Nat} {i j : Int} (h : Sz k i) (g : Sz l j) (q : k + l < 1000000 := by decide) : mulOk i j = true := by
  have a := h.log
  have b := g.log
  unfold Ev.mulOk
  exact Nat.ble_eq_true_of_le (by omega)
theorem Sz.mono {k l : Nat} {i : Int} (h : Sz k i) (q : k ≤ l := by decide) : Sz l i := Nat.lt_of_lt_of_le h (Nat.pow_le_pow_right (by decide) q)
theorem Sz.mul {k l : Nat} {i j : Int} (h : Sz k i) (g : Sz l j) : Sz (k + l) (i * j) := by
  unfold Sz at *
  rw [Int.natAbs_mul, Nat.pow_add]
  exact Nat.mul_lt_mul'' h g
theorem Sz.add {k : Nat} {i j : Int} (h : Sz k i) (g : Sz k j) : Sz (k + 1) (i + j) := by
  unfold Sz at *
  have := Int.natAbs_add_le i j
  rw [Nat.pow_succ]
  omega
theorem Sz.neg {k : Nat} {i : Int} (h : Sz k i) : Sz k (-i) := by
  unfold Sz at *
  rwa [Int.natAbs_neg]
theorem Sz.sub {k : Nat} {i j : Int} (h : Sz k i) (g : Sz k j) : Sz (k + 1) (i - j) := by
  rw [Int.sub_eq_add_neg]
  exact h.add g.neg
theorem Sz.of {k : Nat} {i : Int} (b : Nat) (h : i.natAbs ≤ b) (q : b < 2 ^ k := by decide) : Sz k i := Nat.lt_of_le_of_lt h q
/-! ### the greatest common part -/
theorem iabs_nat (i : Int) : iabs i = (i.natAbs : Int) := by
  unfold iabs
  split <;> omega
theorem fmod_nat (x y : Nat) : (x : Int).fmod (y : Int) = ((x % y : Nat) : Int) := by
  rw [Int.fmod_eq_emod_of_nonneg _ (Int.natCast_nonneg y)]
  exact (Int.natCast_emod x y).symm
abbrev sxy (x y : Nat) : Sl := [some (.int (x : Int)), some (.int (y : Int))]
theorem gcd_loop {c : Sl → Ho → R Bool} {b : Sl → Ho → Ot} {h : Ho} (hc : ∀ x y : Nat, c (sxy x y) h = .ok (decide (y ≠ 0)) h) (hb : ∀ x y : Nat, y ≠ 0 → b (sxy x y) h = .nx (sxy y (x % y)) h) : ∀ (k n x y : Nat), y < 2 ^ k → 2 * k + 1 ≤ n → whileL c b n (sxy x y) h = .nx (sxy (x.gcd y) 0) h := by
  have zero : ∀ n x : Nat, 1 ≤ n → whileL c b n (sxy x 0) h = .nx (sxy x 0) h := fun n x hn => by
    obtain ⟨m, rfl⟩ : ∃ m, n = m + 1 := ⟨n - 1, by omega⟩
    unfold whileL
    rw [hc]
    rfl
  have step : ∀ n x y : Nat, y ≠ 0 → 1 ≤ n → whileL c b n (sxy x y) h = whileL c b (n - 1) (sxy y (x % y)) h := fun n x y hy hn => by
    obtain ⟨m, rfl⟩ : ∃ m, n = m + 1 := ⟨n - 1, by omega⟩
    rw [Nat.add_sub_cancel]
    conv => lhs; unfold whileL
    rw [hc, then_ok, decide_eq_true hy, if_pos rfl, hb x y hy]
  intro k
  induction k with
  | zero =>
    intro n x y hy hn
    have e : y = 0 := by
      rw [Nat.pow_zero] at hy
      omega
    subst e
    rw [zero n x (by omega), Nat.gcd_zero_right]
  | succ k ih =>
    intro n x y hy hn
    by_cases h0 : y = 0
    · subst h0
      rw [zero n x (by omega), Nat.gcd_zero_right]
    · rw [step n x y h0 (by omega)]
      have g1 : x.gcd y = y.gcd (x % y) := by
        rw [Nat.gcd_comm x y, Nat.gcd_rec y x, Nat.gcd_comm]
      rw [g1]
      have l1 : x % y < y := Nat.mod_lt _ (by omega)
      by_cases h1 : x % y = 0
      · rw [h1, zero _ _ (by omega), Nat.gcd_zero_right]
      · rw [step _ y (x % y) h1 (by omega)]
        have g2 : y.gcd (x % y) = (x % y).gcd (y % (x % y)) := by
          rw [Nat.gcd_comm y (x % y), Nat.gcd_rec (x % y) y, Nat.gcd_comm]
        rw [g2]
        refine ih _ _ _ ?_ (by omega)
        have l2 : y % (x % y) < x % y := Nat.mod_lt _ (by omega)
        have l3 : y % (x % y) + (x % y) ≤ y := by
          have := Nat.div_add_mod y (x % y)
          have q : 1 ≤ y / (x % y) := (Nat.one_le_div_iff (by omega)).mpr (by omega)
          have q2 : (x % y) * 1 ≤ (x % y) * (y / (x % y)) := Nat.mul_le_mul_left _ q
          omega
        rw [Nat.pow_succ] at hy
        omega
abbrev gc (a b : Int) : Int := (Int.gcd a b : Int)
section
variable {n : Nat} {a b : Int} {h : Ho}
theorem k_common (hb : Sz 1900 b) : cK (n + 1) 2 [.int a, .int b] [] = .ok (.int (gc a b)) [] := by
  refine enter (d := f_common) rfl rfl (h' := []) ?_ rfl
  have e1 : evS pg 4000 (cP n) (.par [0, 1] [.blt .abs [.var 0], .blt .abs [.var 1]]) [some (.int a), some (.int b)] [] = .nx (sxy a.natAbs b.natAbs) [] := by
    simp only [evS, evE, evEs, List.getElem?_cons_succ, List.getElem?_cons_zero, bind_ok, t_abs, then_ok, setsP, List.set_cons_succ, List.set_cons_zero, iabs_nat]
  have e2 : evS pg 4000 (cP n) (.whl (.val (.var 1)) [.par [0, 1] [.var 1, .bin .Mod (.var 0) (.var 1)]]) (sxy a.natAbs b.natAbs) [] = .nx (sxy (a.natAbs.gcd b.natAbs) 0) [] := by
    show whileL _ _ 4000 _ _ = _
    refine gcd_loop (k := 1900) (fun x y => ?_) (fun x y hy => ?_) _ _ _ hb (by decide)
    · simp only [evT, evE, List.getElem?_cons_succ, List.getElem?_cons_zero, bind_ok, truth, give_some]
      congr 1
      by_cases q : y = 0
      · subst q
        rfl
      · rw [decide_eq_true q]
        exact bne_iff_ne.mpr (by omega)
    · simp only [evSs, evS, evE, evEs, List.getElem?_cons_succ, List.getElem?_cons_zero, bind_ok, b_mod (show ((y : Int) != 0) = true from bne_iff_ne.mpr (by omega)), then_ok, setsP, List.set_cons_succ, List.set_cons_zero, nx_then, fmod_nat]
  show evSs pg 4000 (cP n) f_common.body [some (.int a), some (.int b)] [] = _
  unfold f_common
  simp only [evSs, e1, nx_then, e2]
  simp only [evS, evE, List.getElem?_cons_zero, then_ok, rt_then]
  rfl
theorem k_lcommon (hb : Sz 1900 b) : cK (n + 1) 34 [.int a, .int b] [] = .ok (.int (gc a b)) [] := by
  refine enter (d := f__law_common) rfl rfl (h' := []) ?_ rfl
  have e1 : evS pg 4000 (cP n) (.par [0, 1] [.blt .abs [.var 0], .blt .abs [.var 1]]) [some (.int a), some (.int b)] [] = .nx (sxy a.natAbs b.natAbs) [] := by
    simp only [evS, evE, evEs, List.getElem?_cons_succ, List.getElem?_cons_zero, bind_ok, t_abs, then_ok, setsP, List.set_cons_succ, List.set_cons_zero, iabs_nat]
  have e2 : evS pg 4000 (cP n) (.whl (.val (.cmp .Gt (.var 1) (.lit (.int 0)))) [.par [0, 1] [.var 1, .bin .Mod (.blt .int [.var 0]) (.var 1)]]) (sxy a.natAbs b.natAbs) [] = .nx (sxy (a.natAbs.gcd b.natAbs) 0) [] := by
    show whileL _ _ 4000 _ _ = _
    refine gcd_loop (k := 1900) (fun x y => ?_) (fun x y hy => ?_) _ _ _ hb (by decide)
    · simp only [evT, evE, List.getElem?_cons_succ, List.getElem?_cons_zero, bind_ok, cmpA, Option.map_some, truth, give_some]
      congr 1
      by_cases q : y = 0
      · subst q
        rfl
      · rw [decide_eq_true q]
        exact decide_eq_true (by omega)
    · simp only [evSs, evS, evE, evEs, List.getElem?_cons_succ, List.getElem?_cons_zero, bind_ok, t_int, b_mod (show ((y : Int) != 0) = true from bne_iff_ne.mpr (by omega)), then_ok, setsP, List.set_cons_succ, List.set_cons_zero, nx_then, fmod_nat]
  show evSs pg 4000 (cP n) f__law_common.body [some (.int a), some (.int b)] [] = _
  unfold f__law_common
  simp only [evSs, e1, nx_then, e2]
  simp only [evS, evE, List.getElem?_cons_zero, then_ok, rt_then]
  rfl
theorem p_common (hb : Sz 1900 b) : cP (n + 1) 2 [.int a, .int b] h = .ok (.int (gc a b)) h := cp (k_common hb) rfl rfl h
theorem p_lcommon (hb : Sz 1900 b) : cP (n + 1) 34 [.int a, .int b] h = .ok (.int (gc a b)) h := cp (k_lcommon hb) rfl rfl h
theorem p_isint : cP (n + 1) 0 [.int a] h = .ok (.bl true) h := by
  refine cp ?_ rfl rfl h
  exact enter (d := f_is_integer) rfl rfl (h' := []) rfl rfl
end
end My

/-! text Q2 -/
set_option Elab.async false
set_option linter.all false
set_option maxRecDepth 100000
set_option maxHeartbeats 4000000
/-! k46: the fractions' functions -/
namespace My
open PySem Ev Pl
section
variable (C : Nat → List A → Ho → R A) (σ : Sl) (h : Ho) (P : Pg) (W : Nat)
theorem e_var (i : Nat) : evE C (.var i) σ h = match σ[i]? with
  | some (some a) => .ok a h
  | _ => .err := by rw [evE] <;> rfl
theorem e_lit (a : A) : evE C (.lit a) σ h = .ok a h := by rw [evE]
theorem e_glo (x : Str) (a : A) : evE C (.glo x a) σ h = .ok a h := by rw [evE]
theorem e_neg (a : E) : evE C (.neg a) σ h = (evE C a σ h).bind fun x h => give (negA x) h := by rw [evE]
theorem e_not (a : E) : evE C (.not a) σ h = (evE C a σ h).bind fun x h => give ((truth x h).map fun b => .bl (!b)) h := by rw [evE]
theorem e_bin (op : Operator) (a b : E) : evE C (.bin op a b) σ h = (evE C a σ h).bind fun x h => (evE C b σ h).bind fun y h => binA op x y h := by rw [evE]
theorem e_and (a b : E) : evE C (.and a b) σ h = (evE C a σ h).bind fun x h => match truth x h with
  | some true => evE C b σ h
  | some false => .ok x h
  | none => .err := by rw [evE] <;> rfl
theorem e_or (a b : E) : evE C (.or a b) σ h = (evE C a σ h).bind fun x h => match truth x h with
  | some true => .ok x h
  | some false => evE C b σ h
  | none => .err := by rw [evE] <;> rfl
theorem e_ite (c : T) (a b : E) : evE C (.ite c a b) σ h = (evT C c σ h).bind fun k h => if k then evE C a σ h else evE C b σ h := by rw [evE]
theorem e_cmp (op : CmpOp) (a b : E) : evE C (.cmp op a b) σ h = (evE C a σ h).bind fun x h => (evE C b σ h).bind fun y h => give ((cmpA op x y h).map .bl) h := by rw [evE]
theorem e_chn (op op' : CmpOp) (a b c : E) : evE C (.chn op op' a b c) σ h = (evE C a σ h).bind fun x h => (evE C b σ h).bind fun y h => match cmpA op x y h with
  | some true => (evE C c σ h).bind fun z h => give ((cmpA op' y z h).map .bl) h
  | some false => .ok (.bl false) h
  | none => .err := by rw [evE] <;> rfl
theorem e_tup (es : List E) : evE C (.tup es) σ h = (evEs C es σ h).bind fun xs h => .ok (.tup xs) h := by rw [evE]
theorem e_lst (es : List E) : evE C (.lst es) σ h = (evEs C es σ h).bind fun xs h => newL xs h := by rw [evE]
theorem e_sub (a i : E) : evE C (.sub a i) σ h = (evE C a σ h).bind fun x h => (evE C i σ h).bind fun y h => give (subA x y h) h := by rw [evE]
theorem e_call (f : Nat) (es : List E) : evE C (.call f es) σ h = (evEs C es σ h).bind fun xs h => C f xs h := by rw [evE]
theorem e_blt (f : Bl) (es : List E) : evE C (.blt f es) σ h = (evEs C es σ h).bind fun xs h => bltA f xs h := by rw [evE]
theorem e_isi (T : String) (e : E) : evE C (.isi T e) σ h = (evE C e σ h).bind fun x h => bltA (.isi T) [x] h := by rw [evE]
theorem s_exp (e : E) : evS P W C (.exp e) σ h = (evE C e σ h).then σ fun _ h => .nx σ h := by rw [evS]
theorem s_asg (g : Tg) (e : E) : evS P W C (.asg g e) σ h = (evE C e σ h).then σ fun x h => match Tg.put g x σ with
  | some σ => .nx σ h
  | none => .err := by rw [evS] <;> rfl
theorem s_par (is : List Nat) (es : List E) : evS P W C (.par is es) σ h = (evEs C es σ h).then σ fun xs h => match setsP is xs σ with
  | some σ => .nx σ h
  | none => .err := by rw [evS] <;> rfl
theorem s_aug (i : Nat) (op : Operator) (e : E) : evS P W C (.aug i op e) σ h = match σ[i]? with
  | some (some x) => (evE C e σ h).then σ fun y h => (augA op x y h).then σ fun z h => .nx (σ.set i (some z)) h
  | _ => .err := by rw [evS] <;> rfl
theorem s_ret (e : E) : evS P W C (.ret e) σ h = (evE C e σ h).then σ fun x h => .rt x h := by rw [evS]
theorem s_ife (c : T) (a b : List S) : evS P W C (.ife c a b) σ h = (evT C c σ h).then σ fun k h => if k then evSs P W C a σ h else evSs P W C b σ h := by rw [evS]
end
theorem bind_exc {α β : Type} (x : Xv) (h : Ho) (f : α → Ho → R β) : (R.exc x h).bind f = .exc x h := rfl
theorem then_exc {α : Type} (x : Xv) (h : Ho) (s : Sl) (f : α → Ho → Ot) : (R.exc x h).then s f = .ex x s h := rfl
theorem ex_then (x : Xv) (s : Sl) (h : Ho) (f : Sl → Ho → Ot) : (Ot.ex x s h).then f = .ex x s h := rfl
theorem neg_i (i : Int) : negA (.int i) = some (.int (-i)) := rfl
theorem tr_bl (b : Bool) (h : Ho) : truth (.bl b) h = some b := rfl
theorem s_fr0 (a b : A) (h : Ho) : subA (.tup [a, b]) (.int 0) h = some a := rfl
theorem s_fr1 (a b : A) (h : Ho) : subA (.tup [a, b]) (.int 1) h = some b := rfl
theorem c_lt (i j : Int) (h : Ho) : cmpA .Lt (.int i) (.int j) h = some (decide (i < j)) := rfl
theorem c_le (i j : Int) (h : Ho) : cmpA .LtE (.int i) (.int j) h = some (decide (i ≤ j)) := rfl
theorem c_gt (i j : Int) (h : Ho) : cmpA .Gt (.int i) (.int j) h = some (decide (j < i)) := rfl
theorem c_ge (i j : Int) (h : Ho) : cmpA .GtE (.int i) (.int j) h = some (decide (j ≤ i)) := rfl
theorem c_eq (i j : Int) (h : Ho) : cmpA .Eq (.int i) (.int j) h = some (i == j) := rfl
theorem c_ne (i j : Int) (h : Ho) : cmpA .NotEq (.int i) (.int j) h = some (!(i == j)) := rfl
theorem isi_t (xs : List A) (h : Ho) : bltA (.isi "tuple") [.tup xs] h = .ok (.bl true) h := rfl
theorem len2 (a b : A) (h : Ho) : bltA .len [.tup [a, b]] h = .ok (.int 2) h := rfl
section
variable {n : Nat} {a b c d : Int} {h : Ho}
theorem k_range (h1 : a ≤ c) (h2 : c ≤ b) : cK (n + 2) 1 [.int c, .int a, .int b] [] = .ok (.bl true) [] := by
  refine enter (d := f_in_range) rfl rfl (h' := []) ?_ rfl
  show evSs pg 4000 (cP (n + 1)) f_in_range.body [some (.int c), some (.int a), some (.int b)] [] = _
  unfold f_in_range
  simp only [evSs, s_exp, s_asg, s_par, s_aug, s_ret, s_ife, e_var, e_lit, e_glo, e_neg, e_not, e_bin, e_and, e_or, e_ite, e_cmp, e_chn, e_tup, e_lst, e_sub, e_call, e_blt, e_isi, evEs, evT, evI, List.getElem?_cons_succ, List.getElem?_cons_zero, bind_ok, then_ok, nx_then, rt_then, give_some, Option.map_some, t_int, t_abs, iabs_nat, b_add, b_sub, neg_i, tr_bl, s_fr0, s_fr1, Tg.put, Tg.puts, setsP, List.set_cons_succ, List.set_cons_zero, if_true, if_false, Bool.false_eq_true, Bool.not_true, Bool.not_false, c_lt, c_le, c_gt, c_ge, c_eq, c_ne, isi_t, len2, bind_exc, then_exc, ex_then, p_isint, decide_eq_true h1, decide_eq_true h2]
theorem p_range (h1 : a ≤ c) (h2 : c ≤ b) : cP (n + 2) 1 [.int c, .int a, .int b] h = .ok (.bl true) h := cp (k_range h1 h2) rfl rfl h
theorem k_isfr (hb : Sz 1900 b) : cK (n + 2) 3 [fr a b] [] = .ok (.bl (decide (0 < b) && (gc a b == 1))) [] := by
  refine enter (d := f_is_fraction) rfl rfl (h' := [.lst [.bl true, .bl true]]) ?_ rfl
  have e1 : evE (cP (n + 1)) (.comp (.call 0 [.var 1]) (.nm 1) (.sq (.var 0)) (.yes) [1]) [some (fr a b), none] [] = .ok (.ref 0) [.lst [.bl true, .bl true]] := by
    have w : wipe [some (fr a b), none] [1] = [some (fr a b), none] := rfl
    rw [evE]
    simp only [evSs, s_exp, s_asg, s_par, s_aug, s_ret, s_ife, e_var, e_lit, e_glo, e_neg, e_not, e_bin, e_and, e_or, e_ite, e_cmp, e_chn, e_tup, e_lst, e_sub, e_call, e_blt, e_isi, evEs, evT, evI, List.getElem?_cons_succ, List.getElem?_cons_zero, bind_ok, then_ok, nx_then, rt_then, give_some, Option.map_some, t_int, t_abs, iabs_nat, b_add, b_sub, neg_i, tr_bl, s_fr0, s_fr1, Tg.put, Tg.puts, setsP, List.set_cons_succ, List.set_cons_zero, if_true, if_false, Bool.false_eq_true, Bool.not_true, Bool.not_false, c_lt, c_le, c_gt, c_ge, c_eq, c_ne, isi_t, len2, bind_exc, then_exc, ex_then, walkSq, compL, still0, w, R.calm, p_isint]
    rfl
  have e2 : bltA .all [.ref 0] [.lst [.bl true, .bl true]] = .ok (.bl true) [.lst [.bl true, .bl true]] := rfl
  show evSs pg 4000 (cP (n + 1)) f_is_fraction.body [some (fr a b), none] [] = _
  unfold f_is_fraction
  simp only [evSs, s_exp, s_asg, s_par, s_aug, s_ret, s_ife, e_var, e_lit, e_glo, e_neg, e_not, e_bin, e_and, e_or, e_ite, e_cmp, e_chn, e_tup, e_lst, e_sub, e_call, e_blt, e_isi, evEs, evT, evI, List.getElem?_cons_succ, List.getElem?_cons_zero, bind_ok, then_ok, nx_then, rt_then, give_some, Option.map_some, t_int, t_abs, iabs_nat, b_add, b_sub, neg_i, tr_bl, s_fr0, s_fr1, Tg.put, Tg.puts, setsP, List.set_cons_succ, List.set_cons_zero, if_true, if_false, Bool.false_eq_true, Bool.not_true, Bool.not_false, c_lt, c_le, c_gt, c_ge, c_eq, c_ne, isi_t, len2, bind_exc, then_exc, ex_then, e1, e2, p_common hb, beq_self_eq_true]
  by_cases q : 0 < b
  · rw [decide_eq_true q]
    rfl
  · rw [decide_eq_false q]
    rfl
theorem p_isfr (hb : Sz 1900 b) : cP (n + 2) 3 [fr a b] h = .ok (.bl (decide (0 < b) && (gc a b == 1))) h := cp (k_isfr hb) rfl rfl h
/-- a fraction in least terms, not great -/
structure Fq (a b : Int) : Prop where
  lo : a.natAbs ≤ 10000
  po : 0 < b
  hi : b ≤ 1000
  co : gc a b = 1
theorem Fq.sb (f : Fq a b) : Sz 10 b := Sz.of 1000 (by have := f.po; have := f.hi; omega)
theorem Fq.sa (f : Fq a b) : Sz 14 a := Sz.of 10000 f.lo
theorem k_small (f : Fq a b) : cK (n + 3) 4 [fr a b] [] = .ok (.bl true) [] := by
  refine enter (d := f_is_small) rfl rfl (h' := []) ?_ rfl
  have := f.lo
  have := f.hi
  have := f.po
  show evSs pg 4000 (cP (n + 2)) f_is_small.body [some (fr a b)] [] = _
  unfold f_is_small
  simp only [evSs, s_exp, s_asg, s_par, s_aug, s_ret, s_ife, e_var, e_lit, e_glo, e_neg, e_not, e_bin, e_and, e_or, e_ite, e_cmp, e_chn, e_tup, e_lst, e_sub, e_call, e_blt, e_isi, evEs, evT, evI, List.getElem?_cons_succ, List.getElem?_cons_zero, bind_ok, then_ok, nx_then, rt_then, give_some, Option.map_some, t_int, t_abs, iabs_nat, b_add, b_sub, neg_i, tr_bl, s_fr0, s_fr1, Tg.put, Tg.puts, setsP, List.set_cons_succ, List.set_cons_zero, if_true, if_false, Bool.false_eq_true, Bool.not_true, Bool.not_false, c_lt, c_le, c_gt, c_ge, c_eq, c_ne, isi_t, len2, bind_exc, then_exc, ex_then, beq_self_eq_true, p_range (c := a) (a := -1000000) (b := 1000000) (by omega) (by omega), p_range (c := b) (a := 1) (b := 1000000) (by omega) (by omega), p_isfr (a := a) (b := b) f.sb.mono, f.co, decide_eq_true f.po, Bool.and_self]
theorem p_small (f : Fq a b) : cP (n + 3) 4 [fr a b] h = .ok (.bl true) h := cp (k_small f) rfl rfl h
theorem k_demand (f : Fq a b) (s : Str) : cK (n + 4) 5 [fr a b, .str s] [] = .ok .non [] := by
  refine enterN (d := f_demand_fraction) rfl rfl (h' := []) (σ := [some (fr a b), some (.str s)]) ?_
  show evSs pg 4000 (cP (n + 3)) f_demand_fraction.body [some (fr a b), some (.str s)] [] = _
  unfold f_demand_fraction
  simp only [evSs, s_exp, s_asg, s_par, s_aug, s_ret, s_ife, e_var, e_lit, e_glo, e_neg, e_not, e_bin, e_and, e_or, e_ite, e_cmp, e_chn, e_tup, e_lst, e_sub, e_call, e_blt, e_isi, evEs, evT, evI, List.getElem?_cons_succ, List.getElem?_cons_zero, bind_ok, then_ok, nx_then, rt_then, give_some, Option.map_some, t_int, t_abs, iabs_nat, b_add, b_sub, neg_i, tr_bl, s_fr0, s_fr1, Tg.put, Tg.puts, setsP, List.set_cons_succ, List.set_cons_zero, if_true, if_false, Bool.false_eq_true, Bool.not_true, Bool.not_false, c_lt, c_le, c_gt, c_ge, c_eq, c_ne, isi_t, len2, bind_exc, then_exc, ex_then, p_small f]
theorem p_demand (f : Fq a b) (s : Str) : cP (n + 4) 5 [fr a b, .str s] h = .ok .non h := cp (k_demand f s) rfl rfl h
/-- in least terms -/
abbrev top1 (a b : Int) : Int := a.fdiv (gc a b)
abbrev und1 (a b : Int) : Int := b.fdiv (gc a b)
theorem gc_pos (hb : 0 < b) : 0 < gc a b := Int.natCast_pos.mpr (Int.gcd_pos_of_ne_zero_right _ (by omega))
theorem gc_le (hb : 0 < b) : gc a b ≤ b := Int.le_of_dvd hb (Int.gcd_dvd_right ..)
theorem gc_div (hb : 0 < b) (sb : Sz 1900 b) : divOk (gc a b) = true := by
  have h1 := gc_pos (a := a) hb
  have h2 := gc_le (a := a) hb
  have h3 : Sz 1900 (gc a b) := Nat.lt_of_le_of_lt (by omega) sb
  have h4 := h3.log
  unfold divOk
  rw [Bool.and_eq_true]
  exact ⟨bne_iff_ne.mpr (by omega), Nat.ble_eq_true_of_le (by omega)⟩
theorem k_made (hb : 0 < b) (sb : Sz 1900 b) : cK (n + 2) 6 [.int a, .int b] [] = .ok (fr (top1 a b) (und1 a b)) [] := by
  refine enter (d := f_made) rfl rfl (h' := []) ?_ rfl
  show evSs pg 4000 (cP (n + 1)) f_made.body [some (.int a), some (.int b), none] [] = _
  unfold f_made
  simp only [evSs, s_exp, s_asg, s_par, s_aug, s_ret, s_ife, e_var, e_lit, e_glo, e_neg, e_not, e_bin, e_and, e_or, e_ite, e_cmp, e_chn, e_tup, e_lst, e_sub, e_call, e_blt, e_isi, evEs, evT, evI, List.getElem?_cons_succ, List.getElem?_cons_zero, bind_ok, then_ok, nx_then, rt_then, give_some, Option.map_some, t_int, t_abs, iabs_nat, b_add, b_sub, neg_i, tr_bl, s_fr0, s_fr1, Tg.put, Tg.puts, setsP, List.set_cons_succ, List.set_cons_zero, if_true, if_false, Bool.false_eq_true, Bool.not_true, Bool.not_false, c_lt, c_le, c_gt, c_ge, c_eq, c_ne, isi_t, len2, bind_exc, then_exc, ex_then, decide_eq_false (show ¬ b < 0 by omega), p_common sb, b_div (gc_div hb sb)]
theorem p_made (hb : 0 < b) (sb : Sz 1900 b) : cP (n + 2) 6 [.int a, .int b] h = .ok (fr (top1 a b) (und1 a b)) h := cp (k_made hb sb) rfl rfl h
theorem m_one : mulOk (gc a b) 1 = true ↔ mulOk (gc a b) 1 = true := Iff.rfl
theorem k_lmade (hb : 0 < b) (sb : Sz 1900 b) : cK (n + 2) 35 [.int a, .int b] [] = .ok (fr (top1 a b) (und1 a b)) [] := by
  refine enter (d := f__law_made) rfl rfl (h' := []) ?_ rfl
  have h2 := gc_le (a := a) hb
  have h1 := gc_pos (a := a) hb
  have h3 : Sz 1900 (gc a b) := Nat.lt_of_le_of_lt (by omega) sb
  have m1 : mulOk (gc a b) 1 = true := h3.mulOk (l := 1) (by unfold Sz; decide)
  show evSs pg 4000 (cP (n + 1)) f__law_made.body [some (.int a), some (.int b), none] [] = _
  unfold f__law_made
  simp only [evSs, s_exp, s_asg, s_par, s_aug, s_ret, s_ife, e_var, e_lit, e_glo, e_neg, e_not, e_bin, e_and, e_or, e_ite, e_cmp, e_chn, e_tup, e_lst, e_sub, e_call, e_blt, e_isi, evEs, evT, evI, List.getElem?_cons_succ, List.getElem?_cons_zero, bind_ok, then_ok, nx_then, rt_then, give_some, Option.map_some, t_int, t_abs, iabs_nat, b_add, b_sub, neg_i, tr_bl, s_fr0, s_fr1, Tg.put, Tg.puts, setsP, List.set_cons_succ, List.set_cons_zero, if_true, if_false, Bool.false_eq_true, Bool.not_true, Bool.not_false, c_lt, c_le, c_gt, c_ge, c_eq, c_ne, isi_t, len2, bind_exc, then_exc, ex_then, decide_eq_true hb, p_lcommon sb, b_mul m1, Int.mul_one, b_div (gc_div hb sb)]
theorem p_lmade (hb : 0 < b) (sb : Sz 1900 b) : cP (n + 2) 35 [.int a, .int b] h = .ok (fr (top1 a b) (und1 a b)) h := cp (k_lmade hb sb) rfl rfl h
end
end My

/-! text Q3 -/
set_option Elab.async false
set_option linter.all false
set_option maxRecDepth 100000
set_option maxHeartbeats 4000000
/-! k46: fractions as numbers; circles and gaps -/
namespace My
open PySem Ev Pl
theorem top_mul {a b : Int} (hb : 0 < b) : top1 a b * gc a b = a := by
  have h := gc_pos (a := a) hb
  show a.fdiv (gc a b) * gc a b = a
  rw [Int.fdiv_eq_ediv_of_nonneg _ (Int.le_of_lt h)]
  exact Int.ediv_mul_cancel (Int.gcd_dvd_left ..)
theorem und_mul {a b : Int} (hb : 0 < b) : und1 a b * gc a b = b := by
  have h := gc_pos (a := a) hb
  show b.fdiv (gc a b) * gc a b = b
  rw [Int.fdiv_eq_ediv_of_nonneg _ (Int.le_of_lt h)]
  exact Int.ediv_mul_cancel (Int.gcd_dvd_right ..)
theorem und_pos {a b : Int} (hb : 0 < b) : 0 < und1 a b := by
  have h := gc_pos (a := a) hb
  have e := und_mul (a := a) hb
  refine Int.lt_of_not_ge fun c => ?_
  have := Int.mul_nonneg_of_nonpos_of_nonpos (a := und1 a b) (b := -(gc a b)) c (by omega)
  rw [Int.mul_neg, e] at this
  omega
theorem nf_co {a b : Int} (hb : 0 < b) : gc (top1 a b) (und1 a b) = 1 := by
  have h := gc_pos (a := a) hb
  have e1 := top_mul (a := a) hb
  have e2 := und_mul (a := a) hb
  have e3 : Int.gcd (top1 a b * gc a b) (und1 a b * gc a b) = Int.gcd (top1 a b) (und1 a b) * (gc a b).natAbs := Int.gcd_mul_right ..
  rw [e1, e2] at e3
  have e4 : (gc a b).natAbs = Int.gcd a b := Int.natAbs_natCast _
  rw [e4] at e3
  have hp : 0 < Int.gcd a b := Int.natCast_pos.mp h
  have e5 : Int.gcd (top1 a b) (und1 a b) = 1 := by
    refine Nat.eq_of_mul_eq_mul_right hp ?_
    omega
  show ((Int.gcd (top1 a b) (und1 a b) : Nat) : Int) = 1
  rw [e5]
  rfl
theorem cancel {x y z : Int} (hz : 0 < z) (e : x * z = y * z) : x = y := Int.eq_of_mul_eq_mul_right (by omega) e
theorem nf_eq {a b c d : Int} (hb : 0 < b) (hd : 0 < d) (e : a * d = c * b) : top1 a b = top1 c d ∧ und1 a b = und1 c d := by
  have g1 := gc_pos (a := a) hb
  have g2 := gc_pos (a := c) hd
  have a1 := top_mul (a := a) hb
  have a2 := und_mul (a := a) hb
  have b1 := top_mul (a := c) hd
  have b2 := und_mul (a := c) hd
  have k1 : (Int.gcd (a * d) (b * d) : Int) = gc a b * d := by
    rw [Int.gcd_mul_right]
    have : (d.natAbs : Int) = d := by omega
    rw [Int.natCast_mul, this]
  have k2 : (Int.gcd (c * b) (d * b) : Int) = gc c d * b := by
    rw [Int.gcd_mul_right]
    have : (b.natAbs : Int) = b := by omega
    rw [Int.natCast_mul, this]
  rw [e, Int.mul_comm b d] at k1
  have k3 : gc a b * d = gc c d * b := by rw [← k1, k2]
  have q : und1 a b = und1 c d := by
    refine cancel (Int.mul_pos g1 g2) ?_
    grind
  refine ⟨?_, q⟩
  refine cancel (Int.mul_pos (und_pos (a := c) hd) (Int.mul_pos g1 g2)) ?_
  grind
/-- a fraction's number -/
abbrev vq (a b : Int) : Rat := (a : Rat) / (b : Rat)
theorem ne0 {b : Int} (hb : 0 < b) : (b : Rat) ≠ 0 := by
  have : b ≠ 0 := by omega
  simpa using this
theorem nf_val {a b : Int} (hb : 0 < b) : vq (top1 a b) (und1 a b) = vq a b := by
  have e1 : ((top1 a b : Int) : Rat) * ((gc a b : Int) : Rat) = (a : Rat) := by
    rw [← Rat.intCast_mul, top_mul hb]
  have e2 : ((und1 a b : Int) : Rat) * ((gc a b : Int) : Rat) = (b : Rat) := by
    rw [← Rat.intCast_mul, und_mul hb]
  have h1 := ne0 (und_pos (a := a) hb)
  have h2 := ne0 (gc_pos (a := a) hb)
  have h3 := ne0 hb
  unfold vq
  grind
theorem cross_of {a b c d : Int} (hb : 0 < b) (hd : 0 < d) (h : vq a b = vq c d) : a * d = c * b := by
  have hb' := ne0 hb
  have hd' := ne0 hd
  have : (a : Rat) * d = c * b := by
    unfold vq at h
    grind
  exact_mod_cast this
theorem nf_of {a b c d : Int} (hb : 0 < b) (hd : 0 < d) (e : vq a b = vq c d) : fr (top1 a b) (und1 a b) = fr (top1 c d) (und1 c d) := by
  obtain ⟨h1, h2⟩ := nf_eq hb hd (cross_of hb hd e)
  rw [h1, h2]
theorem nf_same {a b : Int} (hb : 0 < b) (hc : gc a b = 1) : top1 a b = a ∧ und1 a b = b := by
  have h1 := top_mul (a := a) hb
  have h2 := und_mul (a := a) hb
  rw [hc, Int.mul_one] at h1 h2
  exact ⟨h1, h2⟩
theorem gc_one (b : Int) : gc 1 b = 1 := by
  show ((Int.gcd 1 b : Nat) : Int) = 1
  rw [Int.one_gcd]
  rfl
/-! sizes of what is made -/
theorem Sz.top {k : Nat} {a b : Int} (hb : 0 < b) (h : Sz k a) : Sz k (top1 a b) := by
  have h1 := top_mul (a := a) hb
  have h2 := gc_pos (a := a) hb
  unfold Sz at *
  have : (top1 a b).natAbs * (gc a b).natAbs = a.natAbs := by rw [← Int.natAbs_mul, h1]
  have l : (top1 a b).natAbs * 1 ≤ (top1 a b).natAbs * (gc a b).natAbs := Nat.mul_le_mul_left _ (by omega)
  omega
theorem Sz.und {k : Nat} {a b : Int} (hb : 0 < b) (h : Sz k b) : Sz k (und1 a b) := by
  have h1 := und_mul (a := a) hb
  have h2 := gc_pos (a := a) hb
  unfold Sz at *
  have : (und1 a b).natAbs * (gc a b).natAbs = b.natAbs := by rw [← Int.natAbs_mul, h1]
  have l : (und1 a b).natAbs * 1 ≤ (und1 a b).natAbs * (gc a b).natAbs := Nat.mul_le_mul_left _ (by omega)
  omega
theorem sz1 : Sz 1 1 := by
  unfold Sz
  decide
theorem sz2 : Sz 2 2 := by
  unfold Sz
  decide
section
variable {n k l : Nat} {a b c d : Int} {h : Ho}
theorem p_made1 (hb : 0 < b) (sb : Sz 1900 b) : cP (n + 2) 6 [.int 1, .int b] h = .ok (fr 1 b) h := by
  have e := p_made (n := n) (a := 1) (h := h) hb sb
  obtain ⟨e1, e2⟩ := nf_same hb (gc_one b)
  rw [e1, e2] at e
  exact e
theorem p_lmade1 (hb : 0 < b) (sb : Sz 1900 b) : cP (n + 2) 35 [.int 1, .int b] h = .ok (fr 1 b) h := by
  have e := p_lmade (n := n) (a := 1) (h := h) hb sb
  obtain ⟨e1, e2⟩ := nf_same hb (gc_one b)
  rw [e1, e2] at e
  exact e
theorem p_added (hb : 0 < b) (hd : 0 < d) (sa : Sz 800 a) (sb : Sz 800 b) (sc : Sz 800 c) (sd : Sz 800 d) : cP (n + 3) 7 [fr a b, fr c d] h = .ok (fr (top1 (a * d + c * b) (b * d)) (und1 (a * d + c * b) (b * d))) h := by
  refine cp ?_ rfl rfl h
  refine enter (d := f_added) rfl rfl (h' := []) ?_ rfl
  show evSs pg 4000 (cP (n + 2)) f_added.body [some (fr a b), some (fr c d)] [] = _
  unfold f_added
  simp only [evSs, s_exp, s_asg, s_par, s_aug, s_ret, s_ife, e_var, e_lit, e_glo, e_neg, e_not, e_bin, e_and, e_or, e_ite, e_cmp, e_chn, e_tup, e_lst, e_sub, e_call, e_blt, e_isi, evEs, evT, evI, List.getElem?_cons_succ, List.getElem?_cons_zero, bind_ok, then_ok, nx_then, rt_then, give_some, Option.map_some, t_int, t_abs, iabs_nat, b_add, b_sub, neg_i, tr_bl, s_fr0, s_fr1, Tg.put, Tg.puts, setsP, List.set_cons_succ, List.set_cons_zero, if_true, if_false, Bool.false_eq_true, Bool.not_true, Bool.not_false, c_lt, c_le, c_gt, c_ge, c_eq, c_ne, isi_t, len2, bind_exc, then_exc, ex_then, b_mul (sa.mulOk sd), b_mul (sc.mulOk sb), b_mul (sb.mulOk sd), p_made (Int.mul_pos hb hd) (sb.mul sd).mono]
theorem p_negated : cP (n + 1) 8 [fr a b] h = .ok (fr (-a) b) h := by
  refine cp ?_ rfl rfl h
  refine enter (d := f_negated) rfl rfl (h' := []) ?_ rfl
  show evSs pg 4000 (cP n) f_negated.body [some (fr a b)] [] = _
  unfold f_negated
  simp only [evSs, s_exp, s_asg, s_par, s_aug, s_ret, s_ife, e_var, e_lit, e_glo, e_neg, e_not, e_bin, e_and, e_or, e_ite, e_cmp, e_chn, e_tup, e_lst, e_sub, e_call, e_blt, e_isi, evEs, evT, evI, List.getElem?_cons_succ, List.getElem?_cons_zero, bind_ok, then_ok, nx_then, rt_then, give_some, Option.map_some, t_int, t_abs, iabs_nat, b_add, b_sub, neg_i, tr_bl, s_fr0, s_fr1, Tg.put, Tg.puts, setsP, List.set_cons_succ, List.set_cons_zero, if_true, if_false, Bool.false_eq_true, Bool.not_true, Bool.not_false, c_lt, c_le, c_gt, c_ge, c_eq, c_ne, isi_t, len2, bind_exc, then_exc, ex_then]
theorem p_multiplied (hb : 0 < b) (hd : 0 < d) (sa : Sz 800 a) (sb : Sz 800 b) (sc : Sz 800 c) (sd : Sz 800 d) : cP (n + 3) 9 [fr a b, fr c d] h = .ok (fr (top1 (a * c) (b * d)) (und1 (a * c) (b * d))) h := by
  refine cp ?_ rfl rfl h
  refine enter (d := f_multiplied) rfl rfl (h' := []) ?_ rfl
  show evSs pg 4000 (cP (n + 2)) f_multiplied.body [some (fr a b), some (fr c d)] [] = _
  unfold f_multiplied
  simp only [evSs, s_exp, s_asg, s_par, s_aug, s_ret, s_ife, e_var, e_lit, e_glo, e_neg, e_not, e_bin, e_and, e_or, e_ite, e_cmp, e_chn, e_tup, e_lst, e_sub, e_call, e_blt, e_isi, evEs, evT, evI, List.getElem?_cons_succ, List.getElem?_cons_zero, bind_ok, then_ok, nx_then, rt_then, give_some, Option.map_some, t_int, t_abs, iabs_nat, b_add, b_sub, neg_i, tr_bl, s_fr0, s_fr1, Tg.put, Tg.puts, setsP, List.set_cons_succ, List.set_cons_zero, if_true, if_false, Bool.false_eq_true, Bool.not_true, Bool.not_false, c_lt, c_le, c_gt, c_ge, c_eq, c_ne, isi_t, len2, bind_exc, then_exc, ex_then, b_mul (sa.mulOk sc), b_mul (sb.mulOk sd), p_made (Int.mul_pos hb hd) (sb.mul sd).mono]
theorem p_cross (sa : Sz 800 a) (sb : Sz 800 b) (sc : Sz 800 c) (sd : Sz 800 d) : cP (n + 1) 14 [fr a b, fr c d] h = .ok (.int (c * b - a * d)) h := by
  refine cp ?_ rfl rfl h
  refine enter (d := f_cross) rfl rfl (h' := []) ?_ rfl
  show evSs pg 4000 (cP n) f_cross.body [some (fr a b), some (fr c d)] [] = _
  unfold f_cross
  simp only [evSs, s_exp, s_asg, s_par, s_aug, s_ret, s_ife, e_var, e_lit, e_glo, e_neg, e_not, e_bin, e_and, e_or, e_ite, e_cmp, e_chn, e_tup, e_lst, e_sub, e_call, e_blt, e_isi, evEs, evT, evI, List.getElem?_cons_succ, List.getElem?_cons_zero, bind_ok, then_ok, nx_then, rt_then, give_some, Option.map_some, t_int, t_abs, iabs_nat, b_add, b_sub, neg_i, tr_bl, s_fr0, s_fr1, Tg.put, Tg.puts, setsP, List.set_cons_succ, List.set_cons_zero, if_true, if_false, Bool.false_eq_true, Bool.not_true, Bool.not_false, c_lt, c_le, c_gt, c_ge, c_eq, c_ne, isi_t, len2, bind_exc, then_exc, ex_then, b_mul (sc.mulOk sb), b_mul (sa.mulOk sd)]
theorem k_are (f : Fq a b) (g : Fq c d) : cK (n + 5) 15 [fr a b, fr c d] [] = .ok (.bl (((c * b - a * d).natAbs : Int) == 1)) [] := by
  refine enter (d := f_are_neighbours) rfl rfl (h' := []) ?_ rfl
  show evSs pg 4000 (cP (n + 4)) f_are_neighbours.body [some (fr a b), some (fr c d)] [] = _
  unfold f_are_neighbours
  simp only [evSs, s_exp, s_asg, s_par, s_aug, s_ret, s_ife, e_var, e_lit, e_glo, e_neg, e_not, e_bin, e_and, e_or, e_ite, e_cmp, e_chn, e_tup, e_lst, e_sub, e_call, e_blt, e_isi, evEs, evT, evI, List.getElem?_cons_succ, List.getElem?_cons_zero, bind_ok, then_ok, nx_then, rt_then, give_some, Option.map_some, t_int, t_abs, iabs_nat, b_add, b_sub, neg_i, tr_bl, s_fr0, s_fr1, Tg.put, Tg.puts, setsP, List.set_cons_succ, List.set_cons_zero, if_true, if_false, Bool.false_eq_true, Bool.not_true, Bool.not_false, c_lt, c_le, c_gt, c_ge, c_eq, c_ne, isi_t, len2, bind_exc, then_exc, ex_then, p_demand f, p_demand g, p_cross f.sa.mono f.sb.mono g.sa.mono g.sb.mono]
/-- the same as values -/
theorem eq_fr (a b c d : Int) (h : Ho) : cmpA .Eq (fr a b) (fr c d) h = some (a == c && b == d) := by
  have e0 : cmpA .Eq (fr a b) (fr c d) h = eqD (fr a b) (fr c d) h := rfl
  have e : PyData.eqv (.tuple [.int a, .int b]) (.tuple [.int c, .int d]) = (a == c && b == d) := by
    simp [PyData.eqv, PyData.eqvAll]
  have s : ∀ x y : Int, SeqAt.shaped (.tuple [.int x, .int y]) = true := fun x y => by
    simp [SeqAt.shaped, PyData.canLay0, PyData.canLayAll0, PyData.depth, PyData.depthAll]
  rw [e0]
  show (if (SeqAt.shaped (.tuple [.int a, .int b]) && SeqAt.shaped (.tuple [.int c, .int d])) = true then some (PyData.eqv (.tuple [.int a, .int b]) (.tuple [.int c, .int d])) else none) = _
  rw [s, s, e]
  rfl
end
end My

/-! text R1 -/
set_option Elab.async false
set_option linter.all false
set_option maxRecDepth 100000
set_option maxHeartbeats 4000000
/-! k46, plain: the fraction with the least denominator between two -/
namespace My
open PySem Ev Pl
/-- as the program does it; a / b below c / d -/
def sim : Nat → Int → Int → Int → Int → Option (Int × Int)
  | 0, _, _, _, _ => none
  | f + 1, a, b, c, d =>
    if (a.fdiv b + 1) * d < c then some (a.fdiv b + 1, 1)
    else if a - a.fdiv b * b = 0 then some (a.fdiv b * (d.fdiv (c - a.fdiv b * d) + 1) + 1, d.fdiv (c - a.fdiv b * d) + 1)
    else match sim f d (c - a.fdiv b * d) b (a - a.fdiv b * b) with
      | some s => some (a.fdiv b * s.1 + s.2, s.1)
      | none => none
/-- between a / b and c / d -/
def Bt (a b c d x y : Int) : Prop := 0 < y ∧ a * y < x * b ∧ x * d < c * y
/-- the least one -/
structure Lst (a b c d p q : Int) : Prop where
  bt : Bt a b c d p q
  q_le : ∀ x y, Bt a b c d x y → q ≤ y
  p_le : 0 ≤ a → ∀ x y, Bt a b c d x y → p ≤ x
  down : (p - 1) * b ≤ a * q
theorem fdiv_bounds {a b : Int} (hb : 0 < b) : a.fdiv b * b ≤ a ∧ a < (a.fdiv b + 1) * b := by
  have h1 := Int.mul_fdiv_add_fmod a b
  obtain ⟨h2, h3⟩ := fmod_lt (i := a) hb
  constructor <;> grind
theorem lt_of_mul_lt {x y z : Int} (hz : 0 < z) (h : x * z < y * z) : x < y := Int.lt_of_mul_lt_mul_right h (Int.le_of_lt hz)
theorem sim_spec : ∀ (f : Nat) (a b c d p q : Int), 0 < b → 0 < d → a * d < c * b → sim f a b c d = some (p, q) → Lst a b c d p q
  | 0, _, _, _, _, _, _, _, _, _, e => by cases e
  | f + 1, a, b, c, d, p, q, hb, hd, hlt, e => by
    unfold sim at e
    obtain ⟨w1, w2⟩ := fdiv_bounds (a := a) hb
    generalize hw : a.fdiv b = w at *
    have e0 : 0 < c - w * d := by
      have h1 : w * b * d ≤ a * d := Int.mul_le_mul_of_nonneg_right w1 (Int.le_of_lt hd)
      have h2 : (w * d) * b < c * b := by
        have : (w * d) * b = w * b * d := by grind
        omega
      have := lt_of_mul_lt hb h2
      omega
    by_cases hA : (w + 1) * d < c
    · rw [if_pos hA] at e
      cases e
      refine ⟨⟨by decide, by omega, by omega⟩, fun x y h => h.1, fun ha x y h => ?_, by
        have : (w + 1 - 1) * b = w * b := by grind
        omega⟩
      obtain ⟨y0, h1, h2⟩ := h
      have hw0 : 0 ≤ w := by
        refine Int.not_lt.mp fun hc => ?_
        have : (w + 1) * b ≤ 0 * b := Int.mul_le_mul_of_nonneg_right (by omega) (Int.le_of_lt hb)
        omega
      have h3 : w * b * y ≤ a * y := Int.mul_le_mul_of_nonneg_right w1 (Int.le_of_lt y0)
      have h4 : (w * y) * b < x * b := by
        have : (w * y) * b = w * b * y := by grind
        omega
      have h5 := lt_of_mul_lt hb h4
      have h6 : w * 1 ≤ w * y := Int.mul_le_mul_of_nonneg_left (by omega) hw0
      omega
    · rw [if_neg hA] at e
      have hw0 : 0 ≤ a → 0 ≤ w := fun ha => by
        refine Int.not_lt.mp fun hc => ?_
        have : (w + 1) * b ≤ 0 * b := Int.mul_le_mul_of_nonneg_right (by omega) (Int.le_of_lt hb)
        omega
      have hs : (w + 1) * d = w * d + d := by grind
      have hs2 : (w + 1) * b = w * b + b := by grind
      generalize hE : c - w * d = E at *
      have hc : c = w * d + E := by omega
      by_cases hB : a - w * b = 0
      · rw [if_pos hB] at e
        have ha : a = w * b := by omega
        obtain ⟨u1, u2⟩ := fdiv_bounds (a := d) e0
        generalize hu : d.fdiv E + 1 = u at *
        have hue : d.fdiv E = u - 1 := by omega
        rw [hue] at u1
        have u0 : 0 < u := by
          refine Int.not_le.mp fun hcc => ?_
          have : u * E ≤ 0 * E := Int.mul_le_mul_of_nonneg_right hcc (Int.le_of_lt e0)
          omega
        obtain ⟨ep, eq⟩ : w * u + 1 = p ∧ u = q := by
          injection e with e
          injection e with e1 e2
          exact ⟨e1, e2⟩
        subst ep
        subst eq
        have mn : ∀ x y, Bt a b c d x y → u ≤ y ∧ ∃ r, 1 ≤ r ∧ x = w * y + r := fun x y h => by
          obtain ⟨y0, h1, h2⟩ := h
          have h3 : (w * y) * b < x * b := by
            have : (w * y) * b = a * y := by grind
            omega
          have h4 := lt_of_mul_lt hb h3
          have i3 : c * y = w * d * y + E * y := by rw [hc]; grind
          have i4 : (x - w * y) * d = x * d - w * d * y := by grind
          have h5 : (x - w * y) * d < E * y := by omega
          have h6 : 1 * d ≤ (x - w * y) * d := Int.mul_le_mul_of_nonneg_right (by omega) (Int.le_of_lt hd)
          have i5 : y * E = E * y := by grind
          have h7 : (u - 1) * E < y * E := by omega
          have h8 := lt_of_mul_lt e0 h7
          exact ⟨by omega, x - w * y, by omega, by omega⟩
        have k1 : a * u = w * b * u := by rw [ha]
        have k2 : (w * u + 1) * b = w * b * u + b := by grind
        have k3 : (w * u + 1) * d = w * d * u + d := by grind
        have k4 : c * u = w * d * u + u * E := by rw [hc]; grind
        have k5 : (u - 1 + 1) * E = u * E := by grind
        have k6 : (w * u + 1 - 1) * b = w * b * u := by grind
        refine ⟨⟨u0, by omega, by omega⟩, fun x y h => (mn x y h).1, fun ha0 x y h => ?_, by omega⟩
        obtain ⟨m1, r, m2, m3⟩ := mn x y h
        have : w * u ≤ w * y := Int.mul_le_mul_of_nonneg_left m1 (hw0 ha0)
        omega
      · rw [if_neg hB] at e
        generalize hR : a - w * b = r at *
        have ha : a = w * b + r := by omega
        have r0 : 0 < r := by omega
        have l1 : a * d = w * b * d + r * d := by rw [ha]; grind
        have l2 : c * b = w * b * d + b * E := by rw [hc]; grind
        have l3 : d * r = r * d := by grind
        have hlt2 : d * r < b * E := by omega
        cases q1 : sim f d E b r with
        | none =>
          rw [q1] at e
          cases e
        | some s =>
          rw [q1] at e
          obtain ⟨p', q'⟩ := s
          cases e
          have L := sim_spec f d E b r p' q' e0 r0 hlt2 q1
          obtain ⟨⟨z0, z1, z2⟩, L2, L3, L4⟩ := L
          have p0 : 0 < p' := by
            refine Int.not_le.mp fun hcc => ?_
            have h1 : p' * E ≤ 0 * E := Int.mul_le_mul_of_nonneg_right hcc (Int.le_of_lt e0)
            have h2 : 0 < d * q' := Int.mul_pos hd z0
            omega
          have tr : ∀ x y, Bt a b c d x y → Bt d E b r y (x - w * y) := fun x y h => by
            obtain ⟨y0, h1, h2⟩ := h
            have i1 : a * y = w * b * y + r * y := by rw [ha]; grind
            have i2 : (x - w * y) * b = x * b - w * b * y := by grind
            have i3 : c * y = w * d * y + E * y := by rw [hc]; grind
            have i4 : (x - w * y) * d = x * d - w * d * y := by grind
            have i5 : d * (x - w * y) = (x - w * y) * d := by grind
            have i6 : y * E = E * y := by grind
            have i7 : y * r = r * y := by grind
            have i8 : b * (x - w * y) = (x - w * y) * b := by grind
            have h3 : r * y < (x - w * y) * b := by omega
            have h4 : 0 < (x - w * y) := by
              refine Int.not_le.mp fun hcc => ?_
              have h5 : (x - w * y) * b ≤ 0 * b := Int.mul_le_mul_of_nonneg_right hcc (Int.le_of_lt hb)
              have h6 : 0 < r * y := Int.mul_pos r0 y0
              omega
            exact ⟨h4, by omega, by omega⟩
          have j1 : a * p' = w * b * p' + r * p' := by rw [ha]; grind
          have j2 : (w * p' + q') * b = w * b * p' + b * q' := by grind
          have j3 : p' * r = r * p' := by grind
          have j4 : (w * p' + q') * d = w * d * p' + d * q' := by grind
          have j5 : c * p' = w * d * p' + p' * E := by rw [hc]; grind
          have bt : Bt a b c d (w * p' + q') p' := ⟨p0, by omega, by omega⟩
          refine ⟨bt, fun x y h => L3 (Int.le_of_lt hd) _ _ (tr x y h), fun ha0 x y h => ?_, ?_⟩
          · have m1 := L3 (Int.le_of_lt hd) _ _ (tr x y h)
            have m2 := L2 _ _ (tr x y h)
            have : w * p' ≤ w * y := Int.mul_le_mul_of_nonneg_left m1 (hw0 ha0)
            show w * p' + q' ≤ x
            omega
          · show (w * p' + q' - 1) * b ≤ a * p'
            have key : (q' - 1) * b ≤ r * p' := by
              refine Int.not_lt.mp fun hcc => ?_
              have q1 : 0 < q' - 1 := by
                refine Int.not_le.mp fun hc2 => ?_
                have h1 : (q' - 1) * b ≤ 0 * b := Int.mul_le_mul_of_nonneg_right hc2 (Int.le_of_lt hb)
                have h2 : 0 < r * p' := Int.mul_pos r0 p0
                omega
              have := L2 p' (q' - 1) ⟨q1, by
                have : d * (q' - 1) = d * q' - d := by grind
                omega, by
                have : b * (q' - 1) = (q' - 1) * b := by grind
                omega⟩
              omega
            have j6 : (w * p' + q' - 1) * b = w * b * p' + (q' - 1) * b := by grind
            omega
theorem sim_step {f : Nat} {a b c d : Int} (hb : 0 < b) (hd : 0 < d) (hlt : a * d < c * b) (no : sim (f + 1) a b c d = none) : ∃ w E r : Int, w = a.fdiv b ∧ E = c - w * d ∧ r = a - w * b ∧ 0 < E ∧ E ≤ d ∧ 0 < r ∧ r < b ∧ d * r < b * E ∧ sim f d E b r = none := by
  unfold sim at no
  obtain ⟨w1, w2⟩ := fdiv_bounds (a := a) hb
  by_cases hA : (a.fdiv b + 1) * d < c
  · rw [if_pos hA] at no
    cases no
  · rw [if_neg hA] at no
    by_cases hB : a - a.fdiv b * b = 0
    · rw [if_pos hB] at no
      cases no
    · rw [if_neg hB] at no
      refine ⟨a.fdiv b, c - a.fdiv b * d, a - a.fdiv b * b, rfl, rfl, rfl, ?_, ?_, ?_, ?_, ?_, ?_⟩
      · generalize a.fdiv b = w at *
        have h1 : w * b * d ≤ a * d := Int.mul_le_mul_of_nonneg_right w1 (Int.le_of_lt hd)
        have h2 : (w * d) * b < c * b := by
          have : (w * d) * b = w * b * d := by grind
          omega
        have := lt_of_mul_lt hb h2
        omega
      · have : (a.fdiv b + 1) * d = a.fdiv b * d + d := by grind
        omega
      · omega
      · have : (a.fdiv b + 1) * b = a.fdiv b * b + b := by grind
        omega
      · generalize a.fdiv b = w at *
        have e1 : d * (a - w * b) = a * d - w * b * d := by grind
        have e2 : b * (c - w * d) = c * b - w * b * d := by grind
        omega
      · cases q : sim f d (c - a.fdiv b * d) b (a - a.fdiv b * b) with
        | none => rfl
        | some s =>
          rw [q] at no
          cases no
theorem sim_some : ∀ (k f : Nat) (a b c d : Int), 0 < b → 0 < d → a * d < c * b → b < 2 ^ k → 2 * k + 2 ≤ f → sim f a b c d ≠ none
  | 0, _, _, _, _, _, hb, _, _, h, _ => by
    rw [Int.pow_zero] at h
    omega
  | k + 1, f, a, b, c, d, hb, hd, hlt, h, hf => fun no => by
    obtain ⟨f, rfl⟩ : ∃ g, f = g + 2 := ⟨f - 2, by omega⟩
    obtain ⟨w, E, r, -, -, hr, e0, e1, r0, r1, l1, no⟩ := sim_step hb hd hlt no
    obtain ⟨v, E2, r2, hv, hE2, hr2, g0, g1, s0, s1, l2, no⟩ := sim_step e0 r0 l1 no
    refine sim_some k f r E2 E r2 g0 s0 l2 ?_ (by omega) no
    obtain ⟨v1, v2⟩ := fdiv_bounds (a := d) e0
    rw [← hv] at v1 v2
    have v0 : 1 ≤ v := by
      refine Int.not_lt.mp fun hc => ?_
      have : (v + 1) * E ≤ 1 * E := Int.mul_le_mul_of_nonneg_right (by omega) (Int.le_of_lt e0)
      omega
    have h2 : 1 * r ≤ v * r := Int.mul_le_mul_of_nonneg_right v0 (Int.le_of_lt r0)
    rw [Int.pow_succ] at h
    omega
theorem bt_mid {a b c d : Int} (hb : 0 < b) (hd : 0 < d) (hlt : a * d < c * b) : Bt a b c d (a + c) (b + d) := by
  have e1 : a * (b + d) = a * b + a * d := by grind
  have e2 : (a + c) * b = a * b + c * b := by grind
  have e3 : (a + c) * d = a * d + c * d := by grind
  have e4 : c * (b + d) = c * b + c * d := by grind
  exact ⟨by omega, by omega, by omega⟩
theorem lst_co {a b c d p q : Int} (L : Lst a b c d p q) : gc p q = 1 := by
  have q0 := L.bt.1
  have g := gc_pos (a := p) q0
  have e1 := top_mul (a := p) q0
  have e2 := und_mul (a := p) q0
  have u0 := und_pos (a := p) q0
  have B : Bt a b c d (top1 p q) (und1 p q) := by
    obtain ⟨h0, h1, h2⟩ := L.bt
    refine ⟨u0, lt_of_mul_lt g ?_, lt_of_mul_lt g ?_⟩
    · have i1 : a * und1 p q * gc p q = a * q := by rw [Int.mul_assoc, e2]
      have i2 : top1 p q * b * gc p q = p * b := by rw [Int.mul_right_comm, e1]
      omega
    · have i1 : top1 p q * d * gc p q = p * d := by rw [Int.mul_right_comm, e1]
      have i2 : c * und1 p q * gc p q = c * q := by rw [Int.mul_assoc, e2]
      omega
  have l := L.q_le _ _ B
  refine Int.le_antisymm (Int.not_lt.mp fun hc => ?_) (by omega)
  have : und1 p q * 2 ≤ und1 p q * gc p q := Int.mul_le_mul_of_nonneg_left (by omega) (Int.le_of_lt u0)
  omega
/-- the one fraction -/
theorem lst_one {a b c d p q p' q' : Int} (hb : 0 < b) (L : Lst a b c d p q) (L' : Lst a b c d p' q') : p = p' ∧ q = q' := by
  have h1 := L.q_le _ _ L'.bt
  have h2 := L'.q_le _ _ L.bt
  have e : q = q' := by omega
  subst e
  refine ⟨?_, rfl⟩
  have d1 := L.down
  have d2 := L'.down
  have b1 := L.bt.2.1
  have b2 := L'.bt.2.1
  have l1 := lt_of_mul_lt hb (show (p - 1) * b < p' * b by omega)
  have l2 := lt_of_mul_lt hb (show (p' - 1) * b < p * b by omega)
  omega
end My

/-! text Q4 -/
set_option Elab.async false
set_option linter.all false
set_option maxRecDepth 100000
set_option maxHeartbeats 4000000
/-! k46: between -/
namespace My
open PySem Ev Pl
theorem div_pos {b : Int} (hb : 0 < b) (s : Sz 1900 b) : divOk b = true := by
  have h4 := s.log
  unfold divOk
  rw [Bool.and_eq_true]
  exact ⟨bne_iff_ne.mpr (by omega), Nat.ble_eq_true_of_le (by omega)⟩
structure Vd (a b c d : Int) : Prop where
  sa : a.natAbs ≤ 100000
  sc : c.natAbs ≤ 100000
  b0 : 0 < b
  b1 : b ≤ 2000
  d0 : 0 < d
  d1 : d ≤ 2000
  lt : a * d < c * b
theorem fdiv_abs {a b : Int} {m : Nat} (hb : 0 < b) (h : a.natAbs ≤ m) : (a.fdiv b).natAbs ≤ m := by
  obtain ⟨h1, h2⟩ := fdiv_bounds (a := a) hb
  have e : (a.fdiv b + 1) * b = a.fdiv b * b + b := by grind
  generalize a.fdiv b = w at *
  rcases Int.le_total 0 w with q | q
  · have : w * 1 ≤ w * b := Int.mul_le_mul_of_nonneg_left (by omega) q
    omega
  · by_cases q2 : w < 0
    · have : (w + 1) * b ≤ (w + 1) * 1 := Int.mul_le_mul_of_nonpos_left (by omega) (by omega)
      omega
    · omega
section
variable {n : Nat} {a b c d p q : Int} {h : Ho}
theorem k_simple : ∀ (f n : Nat) (a b c d p q : Int), Vd a b c d → sim f a b c d = some (p, q) → cK (n + f) 22 [fr a b, fr c d] [] = .ok (fr p q) []
  | 0, _, _, _, _, _, _, _, _, e => by cases e
  | f + 1, n, a, b, c, d, p, q, V, e => by
    have hb := V.b0
    have hd := V.d0
    have sb : Sz 11 b := Sz.of 2000 (by have := V.b1; omega)
    have sd : Sz 11 d := Sz.of 2000 (by have := V.d1; omega)
    have sa : Sz 17 a := Sz.of 100000 V.sa
    have sc : Sz 17 c := Sz.of 100000 V.sc
    have hw := fdiv_abs hb V.sa
    have sw : Sz 17 (a.fdiv b) := Sz.of 100000 hw
    have sw1 : Sz 18 (a.fdiv b + 1) := Sz.of 100001 (by omega)
    refine enter (d := f_simplest) rfl rfl (h' := []) ?_ rfl
    show evSs pg 4000 (cP (n + f)) f_simplest.body [some (fr a b), some (fr c d), none, none, none, none, none] [] = _
    unfold f_simplest
    have e2 := e
    unfold sim at e2
    by_cases hA : (a.fdiv b + 1) * d < c
    · rw [if_pos hA] at e2
      cases e2
      simp only [evSs, s_exp, s_asg, s_par, s_aug, s_ret, s_ife, e_var, e_lit, e_glo, e_neg, e_not, e_bin, e_and, e_or, e_ite, e_cmp, e_chn, e_tup, e_lst, e_sub, e_call, e_blt, e_isi, evEs, evT, evI, List.getElem?_cons_succ, List.getElem?_cons_zero, bind_ok, then_ok, nx_then, rt_then, give_some, Option.map_some, t_int, t_abs, iabs_nat, b_add, b_sub, neg_i, tr_bl, s_fr0, s_fr1, Tg.put, Tg.puts, setsP, List.set_cons_succ, List.set_cons_zero, if_true, if_false, Bool.false_eq_true, Bool.not_true, Bool.not_false, c_lt, c_le, c_gt, c_ge, c_eq, c_ne, isi_t, len2, bind_exc, then_exc, ex_then, b_div (div_pos hb sb.mono), b_mul (sw1.mulOk sd), decide_eq_true hA]
    · rw [if_neg hA] at e2
      by_cases hB : a - a.fdiv b * b = 0
      · rw [if_pos hB] at e2
        have L := sim_spec (f + 1) a b c d p q hb hd V.lt e
        cases e2
        have hE : 0 < c - a.fdiv b * d := by
          obtain ⟨w1, w2⟩ := fdiv_bounds (a := a) hb
          generalize a.fdiv b = w at *
          have h1 : w * b * d ≤ a * d := Int.mul_le_mul_of_nonneg_right w1 (Int.le_of_lt hd)
          have h2 : (w * d) * b < c * b := by
            have := V.lt
            have : (w * d) * b = w * b * d := by grind
            omega
          have := lt_of_mul_lt hb h2
          omega
        have sE : Sz 1900 (c - a.fdiv b * d) := ((sc.mono (l := 28)).sub ((sw.mul sd).mono (l := 28))).mono
        have su : Sz 1900 (d.fdiv (c - a.fdiv b * d) + 1) := Sz.of 2001 (by
          have := fdiv_abs (m := 2000) hE (a := d) (by have := V.d1; omega)
          omega)
        simp only [evSs, s_exp, s_asg, s_par, s_aug, s_ret, s_ife, e_var, e_lit, e_glo, e_neg, e_not, e_bin, e_and, e_or, e_ite, e_cmp, e_chn, e_tup, e_lst, e_sub, e_call, e_blt, e_isi, evEs, evT, evI, List.getElem?_cons_succ, List.getElem?_cons_zero, bind_ok, then_ok, nx_then, rt_then, give_some, Option.map_some, t_int, t_abs, iabs_nat, b_add, b_sub, neg_i, tr_bl, s_fr0, s_fr1, Tg.put, Tg.puts, setsP, List.set_cons_succ, List.set_cons_zero, if_true, if_false, Bool.false_eq_true, Bool.not_true, Bool.not_false, c_lt, c_le, c_gt, c_ge, c_eq, c_ne, isi_t, len2, bind_exc, then_exc, ex_then, b_div (div_pos hb sb.mono), b_mul (sw1.mulOk sd), decide_eq_false hA, b_mul (sw.mulOk sb), beq_iff_eq.mpr hB, b_mul (sw.mulOk sd), b_div (div_pos hE sE), b_mul (sw.mulOk su)]
      · rw [if_neg hB] at e2
        cases q1 : sim f d (c - a.fdiv b * d) b (a - a.fdiv b * b) with
        | none =>
          rw [q1] at e2
          cases e2
        | some s =>
          rw [q1] at e2
          obtain ⟨p', q'⟩ := s
          obtain ⟨w1, w2⟩ := fdiv_bounds (a := a) hb
          have ew1 : (a.fdiv b + 1) * b = a.fdiv b * b + b := by grind
          have ew2 : (a.fdiv b + 1) * d = a.fdiv b * d + d := by grind
          have hE : 0 < c - a.fdiv b * d := by
            generalize a.fdiv b = w at *
            have h1 : w * b * d ≤ a * d := Int.mul_le_mul_of_nonneg_right w1 (Int.le_of_lt hd)
            have h2 : (w * d) * b < c * b := by
              have := V.lt
              have : (w * d) * b = w * b * d := by grind
              omega
            have := lt_of_mul_lt hb h2
            omega
          have hl : d * (a - a.fdiv b * b) < b * (c - a.fdiv b * d) := by
            have := V.lt
            generalize a.fdiv b = w at *
            have e1 : d * (a - w * b) = a * d - w * b * d := by grind
            have e2 : b * (c - w * d) = c * b - w * b * d := by grind
            omega
          have V2 : Vd d (c - a.fdiv b * d) b (a - a.fdiv b * b) := ⟨by have := V.d1; omega, by have := V.b1; omega, hE, by have := V.d1; omega, by omega, by have := V.b1; omega, hl⟩
          have L := sim_spec f _ _ _ _ p' q' V2.b0 V2.d0 V2.lt q1
          have lq := L.q_le _ _ (bt_mid V2.b0 V2.d0 V2.lt)
          have lp := L.p_le (Int.le_of_lt hd) _ _ (bt_mid V2.b0 V2.d0 V2.lt)
          have q0 := L.bt.1
          have p0 : 0 < p' := by
            have := L.bt.2.1
            have h2 : 0 < d * q' := Int.mul_pos hd q0
            refine Int.not_le.mp fun hcc => ?_
            have h1 : p' * (c - a.fdiv b * d) ≤ 0 * (c - a.fdiv b * d) := Int.mul_le_mul_of_nonneg_right hcc (Int.le_of_lt hE)
            omega
          have sp : Sz 13 p' := Sz.of 4000 (by have := V.d1; have := V.b1; omega)
          have cl : cP (n + f) 22 [fr d (c - a.fdiv b * d), fr b (a - a.fdiv b * b)] [] = .ok (fr p' q') [] := cp (k_simple f n _ _ _ _ p' q' V2 q1) rfl rfl []
          have hB2 : ((a - a.fdiv b * b) == 0) = false := beq_eq_false_iff_ne.mpr hB
          cases e2
          simp only [evSs, s_exp, s_asg, s_par, s_aug, s_ret, s_ife, e_var, e_lit, e_glo, e_neg, e_not, e_bin, e_and, e_or, e_ite, e_cmp, e_chn, e_tup, e_lst, e_sub, e_call, e_blt, e_isi, evEs, evT, evI, List.getElem?_cons_succ, List.getElem?_cons_zero, bind_ok, then_ok, nx_then, rt_then, give_some, Option.map_some, t_int, t_abs, iabs_nat, b_add, b_sub, neg_i, tr_bl, s_fr0, s_fr1, Tg.put, Tg.puts, setsP, List.set_cons_succ, List.set_cons_zero, if_true, if_false, Bool.false_eq_true, Bool.not_true, Bool.not_false, c_lt, c_le, c_gt, c_ge, c_eq, c_ne, isi_t, len2, bind_exc, then_exc, ex_then, b_div (div_pos hb sb.mono), b_mul (sw1.mulOk sd), decide_eq_false hA, b_mul (sw.mulOk sb), hB2, b_mul (sw.mulOk sd), cl, b_mul (sw.mulOk sp)]
/-- simplest, of two small fractions -/
theorem p_simple (V : Vd a b c d) (L : Lst a b c d p q) : cP (n + 24) 22 [fr a b, fr c d] h = .ok (fr p q) h := by
  have hn : sim 24 a b c d ≠ none := sim_some 11 24 a b c d V.b0 V.d0 V.lt (by have := V.b1; omega) (by decide)
  cases e : sim 24 a b c d with
  | none => exact absurd e hn
  | some s =>
    obtain ⟨p', q'⟩ := s
    obtain ⟨rfl, rfl⟩ := lst_one V.b0 (sim_spec 24 a b c d p' q' V.b0 V.d0 V.lt e) L
    exact cp (k_simple 24 n a b c d p' q' V e) rfl rfl h
theorem lst_some (V : Vd a b c d) : ∃ p q, Lst a b c d p q := by
  have hn : sim 24 a b c d ≠ none := sim_some 11 24 a b c d V.b0 V.d0 V.lt (by have := V.b1; omega) (by decide)
  cases e : sim 24 a b c d with
  | none => exact absurd e hn
  | some s => exact ⟨s.1, s.2, sim_spec 24 a b c d s.1 s.2 V.b0 V.d0 V.lt e⟩
end
end My

/-! text Q5 -/
set_option Elab.async false
set_option linter.all false
set_option maxRecDepth 100000
set_option maxHeartbeats 4000000
/-! k46: between, by the program and by the law; places, circles, gaps -/
namespace My
open PySem Ev Pl
theorem vd_of {a b c d : Int} (f : Fq a b) (g : Fq c d) (h : a * d < c * b) : Vd a b c d := ⟨by have := f.lo; omega, by have := g.lo; omega, f.po, by have := f.hi; omega, g.po, by have := g.hi; omega, h⟩
/-- the least one between, whichever is below -/
def Bw (a b c d p q : Int) : Prop := (a * d < c * b ∧ Lst a b c d p q) ∨ (c * b < a * d ∧ Lst c d a b p q)
theorem cross_eq {a b c d : Int} (f : Fq a b) (g : Fq c d) : (a == c && b == d) = decide (a * d = c * b) := by
  by_cases e : a * d = c * b
  · obtain ⟨h1, h2⟩ := nf_eq f.po g.po e
    obtain ⟨f1, f2⟩ := nf_same f.po f.co
    obtain ⟨g1, g2⟩ := nf_same g.po g.co
    rw [f1, g1] at h1
    rw [f2, g2] at h2
    rw [decide_eq_true e, h1, h2, beq_self_eq_true, beq_self_eq_true]
    rfl
  · rw [decide_eq_false e]
    by_cases h : (a == c && b == d) = true
    · obtain ⟨h1, h2⟩ := Bool.and_eq_true_iff.mp h
      rw [beq_iff_eq] at h1 h2
      exact absurd (by rw [h1, h2]) e
    · exact Bool.eq_false_iff.mpr h
theorem bw_some {a b c d : Int} (f : Fq a b) (g : Fq c d) (ne : a * d ≠ c * b) : ∃ p q, Bw a b c d p q := by
  by_cases h : a * d < c * b
  · obtain ⟨p, q, L⟩ := lst_some (vd_of f g h)
    exact ⟨p, q, .inl ⟨h, L⟩⟩
  · obtain ⟨p, q, L⟩ := lst_some (vd_of g f (show c * b < a * d by omega))
    exact ⟨p, q, .inr ⟨by omega, L⟩⟩
theorem bw_fq {a b c d p q : Int} (f : Fq a b) (g : Fq c d) (B : Bw a b c d p q) : 0 < q ∧ q ≤ 2000 ∧ p.natAbs ≤ 40000000 ∧ gc p q = 1 := by
  have key : ∀ {a b c d : Int}, Fq a b → Fq c d → a * d < c * b → Lst a b c d p q → 0 < q ∧ q ≤ 2000 ∧ p.natAbs ≤ 40000000 ∧ gc p q = 1 := fun {a b c d} f g h L => by
    have h1 := L.q_le _ _ (bt_mid f.po g.po h)
    have f1 := f.hi
    have g1 := g.hi
    obtain ⟨q0, b1, b2⟩ := L.bt
    have dn := L.down
    refine ⟨q0, by omega, ?_, lst_co L⟩
    have fl := f.lo
    have fp := f.po
    -- (p - 1) * b ≤ a * q < p * b
    have u1 : a * q ≤ 10000 * q := Int.mul_le_mul_of_nonneg_right (by omega) (by omega)
    have u2 : (-10000) * q ≤ a * q := Int.mul_le_mul_of_nonneg_right (by omega) (by omega)
    rcases Int.le_total 1 p with hp | hp
    · have : (p - 1) * 1 ≤ (p - 1) * b := Int.mul_le_mul_of_nonneg_left (by omega) (by omega)
      omega
    · have : p * b ≤ 1 * b := Int.mul_le_mul_of_nonneg_right hp (by omega)
      by_cases h0 : p ≤ 0
      · have : p * b ≤ p * 1 := Int.mul_le_mul_of_nonpos_left h0 (by omega)
        omega
      · omega
  rcases B with ⟨h, L⟩ | ⟨h, L⟩
  · exact key f g h L
  · exact key g f h L
section
variable {n : Nat} {a b c d p q : Int} {h : Ho}
theorem p_below (sa : Sz 800 a) (sb : Sz 800 b) (sc : Sz 800 c) (sd : Sz 800 d) : cP (n + 1) 37 [fr a b, fr c d] h = .ok (.bl (decide (a * d < c * b))) h := by
  refine cp ?_ rfl rfl h
  refine enter (d := f__law_below) rfl rfl (h' := []) ?_ rfl
  show evSs pg 4000 (cP n) f__law_below.body [some (fr a b), some (fr c d)] [] = _
  unfold f__law_below
  simp only [evSs, s_exp, s_asg, s_par, s_aug, s_ret, s_ife, e_var, e_lit, e_glo, e_neg, e_not, e_bin, e_and, e_or, e_ite, e_cmp, e_chn, e_tup, e_lst, e_sub, e_call, e_blt, e_isi, evEs, evT, evI, List.getElem?_cons_succ, List.getElem?_cons_zero, bind_ok, then_ok, nx_then, rt_then, give_some, Option.map_some, t_int, t_abs, iabs_nat, b_add, b_sub, neg_i, tr_bl, s_fr0, s_fr1, Tg.put, Tg.puts, setsP, List.set_cons_succ, List.set_cons_zero, if_true, if_false, Bool.false_eq_true, Bool.not_true, Bool.not_false, c_lt, c_le, c_gt, c_ge, c_eq, c_ne, isi_t, len2, bind_exc, then_exc, ex_then, b_mul (sa.mulOk sd), b_mul (sc.mulOk sb)]
theorem p_less (hb : 0 < b) (hd : 0 < d) (sa : Sz 800 a) (sb : Sz 800 b) (sc : Sz 800 c) (sd : Sz 800 d) : cP (n + 3) 40 [fr a b, fr c d] h = .ok (fr (top1 (a * d - c * b) (b * d)) (und1 (a * d - c * b) (b * d))) h := by
  refine cp ?_ rfl rfl h
  refine enter (d := f__law_less) rfl rfl (h' := []) ?_ rfl
  show evSs pg 4000 (cP (n + 2)) f__law_less.body [some (fr a b), some (fr c d)] [] = _
  unfold f__law_less
  simp only [evSs, s_exp, s_asg, s_par, s_aug, s_ret, s_ife, e_var, e_lit, e_glo, e_neg, e_not, e_bin, e_and, e_or, e_ite, e_cmp, e_chn, e_tup, e_lst, e_sub, e_call, e_blt, e_isi, evEs, evT, evI, List.getElem?_cons_succ, List.getElem?_cons_zero, bind_ok, then_ok, nx_then, rt_then, give_some, Option.map_some, t_int, t_abs, iabs_nat, b_add, b_sub, neg_i, tr_bl, s_fr0, s_fr1, Tg.put, Tg.puts, setsP, List.set_cons_succ, List.set_cons_zero, if_true, if_false, Bool.false_eq_true, Bool.not_true, Bool.not_false, c_lt, c_le, c_gt, c_ge, c_eq, c_ne, isi_t, len2, bind_exc, then_exc, ex_then, b_mul (sa.mulOk sd), b_mul (sc.mulOk sb), b_mul (sb.mulOk sd), p_lmade (Int.mul_pos hb hd) (sb.mul sd).mono]
theorem k_between (f : Fq a b) (g : Fq c d) (B : Bw a b c d p q) : cK (n + 25) 21 [fr a b, fr c d] [] = .ok (fr p q) [] := by
  refine enter (d := f_between) rfl rfl (h' := []) ?_ rfl
  show evSs pg 4000 (cP (n + 24)) f_between.body [some (fr a b), some (fr c d), none, none] [] = _
  unfold f_between
  rcases B with ⟨l, L⟩ | ⟨l, L⟩
  · have e1 := p_simple (n := n) (h := []) (vd_of f g l) L
    simp only [evSs, s_exp, s_asg, s_par, s_aug, s_ret, s_ife, e_var, e_lit, e_glo, e_neg, e_not, e_bin, e_and, e_or, e_ite, e_cmp, e_chn, e_tup, e_lst, e_sub, e_call, e_blt, e_isi, evEs, evT, evI, List.getElem?_cons_succ, List.getElem?_cons_zero, bind_ok, then_ok, nx_then, rt_then, give_some, Option.map_some, t_int, t_abs, iabs_nat, b_add, b_sub, neg_i, tr_bl, s_fr0, s_fr1, Tg.put, Tg.puts, setsP, List.set_cons_succ, List.set_cons_zero, if_true, if_false, Bool.false_eq_true, Bool.not_true, Bool.not_false, c_lt, c_le, c_gt, c_ge, c_eq, c_ne, isi_t, len2, bind_exc, then_exc, ex_then, p_demand f, p_demand g, eq_fr, cross_eq f g, decide_eq_false (show ¬ a * d = c * b by omega), p_cross (n := n + 23) f.sa.mono f.sb.mono g.sa.mono g.sb.mono, decide_eq_true (show 0 < c * b - a * d by omega), e1]
  · have e1 := p_simple (n := n) (h := []) (vd_of g f l) L
    simp only [evSs, s_exp, s_asg, s_par, s_aug, s_ret, s_ife, e_var, e_lit, e_glo, e_neg, e_not, e_bin, e_and, e_or, e_ite, e_cmp, e_chn, e_tup, e_lst, e_sub, e_call, e_blt, e_isi, evEs, evT, evI, List.getElem?_cons_succ, List.getElem?_cons_zero, bind_ok, then_ok, nx_then, rt_then, give_some, Option.map_some, t_int, t_abs, iabs_nat, b_add, b_sub, neg_i, tr_bl, s_fr0, s_fr1, Tg.put, Tg.puts, setsP, List.set_cons_succ, List.set_cons_zero, if_true, if_false, Bool.false_eq_true, Bool.not_true, Bool.not_false, c_lt, c_le, c_gt, c_ge, c_eq, c_ne, isi_t, len2, bind_exc, then_exc, ex_then, p_demand f, p_demand g, eq_fr, cross_eq f g, decide_eq_false (show ¬ a * d = c * b by omega), p_cross (n := n + 23) f.sa.mono f.sb.mono g.sa.mono g.sb.mono, decide_eq_false (show ¬ 0 < c * b - a * d by omega), e1]
theorem k_betweenX (f : Fq a b) (g : Fq c d) (e : a * d = c * b) : cK (n + 25) 21 [fr a b, fr c d] [] = .exc ⟨0, [("reason", .str "other")]⟩ [] := by
  refine enterX (d := f_between) rfl rfl (h' := []) (σ := [some (fr a b), some (fr c d), none, none]) ?_
  show evSs pg 4000 (cP (n + 24)) f_between.body [some (fr a b), some (fr c d), none, none] [] = _
  unfold f_between
  simp only [evSs, s_exp, s_asg, s_par, s_aug, s_ret, s_ife, e_var, e_lit, e_glo, e_neg, e_not, e_bin, e_and, e_or, e_ite, e_cmp, e_chn, e_tup, e_lst, e_sub, e_call, e_blt, e_isi, evEs, evT, evI, List.getElem?_cons_succ, List.getElem?_cons_zero, bind_ok, then_ok, nx_then, rt_then, give_some, Option.map_some, t_int, t_abs, iabs_nat, b_add, b_sub, neg_i, tr_bl, s_fr0, s_fr1, Tg.put, Tg.puts, setsP, List.set_cons_succ, List.set_cons_zero, if_true, if_false, Bool.false_eq_true, Bool.not_true, Bool.not_false, c_lt, c_le, c_gt, c_ge, c_eq, c_ne, isi_t, len2, bind_exc, then_exc, ex_then, p_demand f, p_demand g, eq_fr, cross_eq f g, decide_eq_true e]
  rfl
/-! ### the law's search -/
def rn : Int → Nat → List A
  | _, 0 => []
  | i, m + 1 => .int i :: rn (i + 1) m
theorem rng_run (lo hi : Int) : rng lo hi = rn lo (hi - lo).toNat := by
  have : ∀ (m : Nat) (lo : Int), ((List.range m).map fun i => A.int (lo + ((i : Nat) : Int))) = rn lo m := fun m => by
    induction m with
    | zero => intro lo; rfl
    | succ m ih =>
      intro lo
      rw [List.range_succ_eq_map, List.map_cons, List.map_map]
      show A.int (lo + 0) :: _ = A.int lo :: rn (lo + 1) m
      rw [← ih (lo + 1), Int.add_zero]
      congr 1
      refine List.map_congr_left fun i _ => ?_
      show A.int (lo + ((i + 1 : Nat) : Int)) = A.int (lo + 1 + (i : Int))
      congr 1
      omega
  exact this _ _
def bBt : List S := [.asg (.nm 5) (.bin .Add (.bin .FloorDiv (.bin .Mult (.sub (.var 2) (.lit (.int 0))) (.var 4)) (.sub (.var 2) (.lit (.int 1)))) (.lit (.int 1))), .ife (.val (.cmp .Lt (.bin .Mult (.var 5) (.sub (.var 3) (.lit (.int 1)))) (.bin .Mult (.sub (.var 3) (.lit (.int 0))) (.var 4)))) [.ret (.call 35 [.var 5, .var 4])] []]
theorem find_ok {s0 s1 : Option A} (V : Vd a b c d) (L : Lst a b c d p q) (sp : Sz 100 p) : ∀ (m : Nat) (i : Int) (a4 a5 : Option A), 1 ≤ i → i ≤ q → q < i + m → i + m ≤ 5000 → forL [] (.nm 4) (fun σ h => evSs pg 4000 (cP (n + 2)) bBt σ h) (rn i m) [s0, s1, some (fr a b), some (fr c d), a4, a5] h = .rt (fr p q) h
  | 0, i, a4, a5, h1, h2, h3, h4 => by omega
  | m + 1, i, a4, a5, h1, h2, h3, h4 => by
    have hb := V.b0
    have hd := V.d0
    have sb : Sz 11 b := Sz.of 2000 (by have := V.b1; omega)
    have sd : Sz 11 d := Sz.of 2000 (by have := V.d1; omega)
    have sa : Sz 17 a := Sz.of 100000 V.sa
    have sc : Sz 17 c := Sz.of 100000 V.sc
    have si : Sz 13 i := Sz.of 5000 (by omega)
    have sai : (a * i).natAbs ≤ 500000000 := by
      rw [Int.natAbs_mul]
      exact Nat.mul_le_mul V.sa (show i.natAbs ≤ 5000 by omega)
    have hw := fdiv_abs hb sai
    have st : Sz 30 ((a * i).fdiv b + 1) := Sz.of 500000001 (by omega)
    obtain ⟨t1, t2⟩ := fdiv_bounds (a := a * i) hb
    show forL [] (.nm 4) _ (.int i :: rn (i + 1) m) _ _ = _
    unfold forL
    rw [if_pos still0]
    by_cases e : i = q
    · subst e
      have et : (a * i).fdiv b + 1 = p := by
        have d1 := L.down
        have d2 := L.bt.2.1
        have l1 := lt_of_mul_lt hb (show (a * i).fdiv b * b < p * b by omega)
        have l2 := lt_of_mul_lt hb (show (p - 1) * b < ((a * i).fdiv b + 1) * b by omega)
        omega
      have hc := L.bt.2.2
      have mk : cP (n + 2) 35 [.int p, .int i] h = .ok (fr p i) h := by
        have e := p_lmade (n := n) (a := p) (b := i) (h := h) L.bt.1 si.mono
        obtain ⟨e1, e2⟩ := nf_same L.bt.1 (lst_co L)
        rw [e1, e2] at e
        exact e
      unfold bBt
      simp only [evSs, s_exp, s_asg, s_par, s_aug, s_ret, s_ife, e_var, e_lit, e_glo, e_neg, e_not, e_bin, e_and, e_or, e_ite, e_cmp, e_chn, e_tup, e_lst, e_sub, e_call, e_blt, e_isi, evEs, evT, evI, List.getElem?_cons_succ, List.getElem?_cons_zero, bind_ok, then_ok, nx_then, rt_then, give_some, Option.map_some, t_int, t_abs, iabs_nat, b_add, b_sub, neg_i, tr_bl, s_fr0, s_fr1, Tg.put, Tg.puts, setsP, List.set_cons_succ, List.set_cons_zero, if_true, if_false, Bool.false_eq_true, Bool.not_true, Bool.not_false, c_lt, c_le, c_gt, c_ge, c_eq, c_ne, isi_t, len2, bind_exc, then_exc, ex_then, b_mul (sa.mulOk si), b_div (div_pos hb sb.mono), et, b_mul (sp.mulOk sd), b_mul (sc.mulOk si), decide_eq_true hc, mk]
    · have no : ¬ ((a * i).fdiv b + 1) * d < c * i := fun hc => by
        have := L.q_le ((a * i).fdiv b + 1) i ⟨by omega, t2, hc⟩
        omega
      have one : evSs pg 4000 (cP (n + 2)) bBt [s0, s1, some (fr a b), some (fr c d), some (.int i), a5] h = .nx [s0, s1, some (fr a b), some (fr c d), some (.int i), some (.int ((a * i).fdiv b + 1))] h := by
        unfold bBt
        simp only [evSs, s_exp, s_asg, s_par, s_aug, s_ret, s_ife, e_var, e_lit, e_glo, e_neg, e_not, e_bin, e_and, e_or, e_ite, e_cmp, e_chn, e_tup, e_lst, e_sub, e_call, e_blt, e_isi, evEs, evT, evI, List.getElem?_cons_succ, List.getElem?_cons_zero, bind_ok, then_ok, nx_then, rt_then, give_some, Option.map_some, t_int, t_abs, iabs_nat, b_add, b_sub, neg_i, tr_bl, s_fr0, s_fr1, Tg.put, Tg.puts, setsP, List.set_cons_succ, List.set_cons_zero, if_true, if_false, Bool.false_eq_true, Bool.not_true, Bool.not_false, c_lt, c_le, c_gt, c_ge, c_eq, c_ne, isi_t, len2, bind_exc, then_exc, ex_then, b_mul (sa.mulOk si), b_div (div_pos hb sb.mono), b_mul (st.mulOk sd), b_mul (sc.mulOk si), decide_eq_false no]
      simp only [Tg.put, List.set_cons_succ, List.set_cons_zero, one]
      exact find_ok V L sp m (i + 1) _ _ (by omega) (by omega) (by omega) (by omega)
theorem s_for (C : Nat → List A → Ho → R A) (σ : Sl) (P : Pg) (W : Nat) (g : Tg) (it : I) (b : List S) : evS P W C (.for_ g it b) σ h = (evI C it σ h).then σ fun w h => forL w.2 g (fun σ h => evSs P W C b σ h) w.1 σ h := by rw [evS]
theorem p_lbetween (f : Fq a b) (g : Fq c d) (B : Bw a b c d p q) : cP (n + 4) 42 [fr a b, fr c d] h = .ok (fr p q) h := by
  refine cp ?_ rfl rfl h
  refine enter (d := f__law_between) rfl rfl (h' := []) ?_ rfl
  show evSs pg 4000 (cP (n + 3)) f__law_between.body [some (fr a b), some (fr c d), none, none, none, none] [] = _
  obtain ⟨-, -, pl, -⟩ := bw_fq f g B
  have sp : Sz 100 p := Sz.of 40000000 pl
  have b1 := f.hi
  have b2 := g.hi
  have b3 := f.po
  have b4 := g.po
  have go : ∀ {a b c d : Int} {s0 s1 : Option A}, Fq a b → Fq c d → a * d < c * b → Lst a b c d p q → evS pg 4000 (cP (n + 3)) (.for_ (.nm 4) (.rg [.lit (.int 1), .bin .Add (.bin .Add (.sub (.var 2) (.lit (.int 1))) (.sub (.var 3) (.lit (.int 1)))) (.lit (.int 1))]) bBt) [s0, s1, some (fr a b), some (fr c d), none, none] [] = .rt (fr p q) [] := fun {a b c d s0 s1} f g l L => by
    have b1 := f.hi
    have b2 := g.hi
    have b3 := f.po
    have b4 := g.po
    have h1 := L.q_le _ _ (bt_mid f.po g.po l)
    have h2 := L.bt.1
    have fo := find_ok (n := n + 1) (h := []) (s0 := s0) (s1 := s1) (vd_of f g l) L sp (b + d + 1 - 1).toNat 1 none none (by omega) (by omega) (by omega) (by omega)
    have ok : rngOk (b + d + 1) = true := by
      unfold rngOk
      rw [decide_eq_true (show -(2 ^ 62) ≤ b + d + 1 by omega), decide_eq_true (show b + d + 1 < 2 ^ 62 by omega)]
      rfl
    rw [s_for]
    simp only [evSs, s_exp, s_asg, s_par, s_aug, s_ret, s_ife, e_var, e_lit, e_glo, e_neg, e_not, e_bin, e_and, e_or, e_ite, e_cmp, e_chn, e_tup, e_lst, e_sub, e_call, e_blt, e_isi, evEs, evT, evI, List.getElem?_cons_succ, List.getElem?_cons_zero, bind_ok, then_ok, nx_then, rt_then, give_some, Option.map_some, t_int, t_abs, iabs_nat, b_add, b_sub, neg_i, tr_bl, s_fr0, s_fr1, Tg.put, Tg.puts, setsP, List.set_cons_succ, List.set_cons_zero, if_true, if_false, Bool.false_eq_true, Bool.not_true, Bool.not_false, c_lt, c_le, c_gt, c_ge, c_eq, c_ne, isi_t, len2, bind_exc, then_exc, ex_then, walkRg, ok, show rngOk 1 = true by decide, Bool.and_self, rng_run, fo]
  show evSs pg 4000 (cP (n + 3)) [.asg (.tp [.nm 2, .nm 3]) (.ite (.val (.call 37 [.var 0, .var 1])) (.tup [.var 0, .var 1]) (.tup [.var 1, .var 0])), .for_ (.nm 4) (.rg [.lit (.int 1), .bin .Add (.bin .Add (.sub (.var 2) (.lit (.int 1))) (.sub (.var 3) (.lit (.int 1)))) (.lit (.int 1))]) bBt, .ret (.lit .non)] _ [] = _
  rcases B with ⟨l, L⟩ | ⟨l, L⟩
  · have e := go (s0 := some (fr a b)) (s1 := some (fr c d)) f g l L
    simp only [evSs, s_exp, s_asg, s_par, s_aug, s_ret, s_ife, e_var, e_lit, e_glo, e_neg, e_not, e_bin, e_and, e_or, e_ite, e_cmp, e_chn, e_tup, e_lst, e_sub, e_call, e_blt, e_isi, evEs, evT, evI, List.getElem?_cons_succ, List.getElem?_cons_zero, bind_ok, then_ok, nx_then, rt_then, give_some, Option.map_some, t_int, t_abs, iabs_nat, b_add, b_sub, neg_i, tr_bl, s_fr0, s_fr1, Tg.put, Tg.puts, setsP, List.set_cons_succ, List.set_cons_zero, if_true, if_false, Bool.false_eq_true, Bool.not_true, Bool.not_false, c_lt, c_le, c_gt, c_ge, c_eq, c_ne, isi_t, len2, bind_exc, then_exc, ex_then, p_below (n := n + 2) f.sa.mono f.sb.mono g.sa.mono g.sb.mono, decide_eq_true l, e]
  · have e := go (s0 := some (fr a b)) (s1 := some (fr c d)) g f l L
    simp only [evSs, s_exp, s_asg, s_par, s_aug, s_ret, s_ife, e_var, e_lit, e_glo, e_neg, e_not, e_bin, e_and, e_or, e_ite, e_cmp, e_chn, e_tup, e_lst, e_sub, e_call, e_blt, e_isi, evEs, evT, evI, List.getElem?_cons_succ, List.getElem?_cons_zero, bind_ok, then_ok, nx_then, rt_then, give_some, Option.map_some, t_int, t_abs, iabs_nat, b_add, b_sub, neg_i, tr_bl, s_fr0, s_fr1, Tg.put, Tg.puts, setsP, List.set_cons_succ, List.set_cons_zero, if_true, if_false, Bool.false_eq_true, Bool.not_true, Bool.not_false, c_lt, c_le, c_gt, c_ge, c_eq, c_ne, isi_t, len2, bind_exc, then_exc, ex_then, p_below (n := n + 2) f.sa.mono f.sb.mono g.sa.mono g.sb.mono, decide_eq_false (show ¬ a * d < c * b by omega), e]
end
end My

/-! text Q6 -/
set_option Elab.async false
set_option linter.all false
set_option maxRecDepth 100000
set_option maxHeartbeats 4000000
/-! k46: places, circles, gaps, the judge -/
namespace My
open PySem Ev Pl
section
variable {n : Nat} {a b c d p q x y : Int} {h : Ho}
theorem va (hb : 0 < b) (hd : 0 < d) : vq (a * d + c * b) (b * d) = vq a b + vq c d := by
  have h1 := ne0 hb
  have h2 := ne0 hd
  unfold vq
  push_cast
  grind
theorem vm (hb : 0 < b) (hd : 0 < d) : vq (a * c) (b * d) = vq a b * vq c d := by
  have h1 := ne0 hb
  have h2 := ne0 hd
  unfold vq
  push_cast
  grind
theorem vn (hb : 0 < b) : vq (-a) b = - vq a b := by
  have h1 := ne0 hb
  unfold vq
  push_cast
  grind
def plc (a b c d : Int) : Str := if a * d = c * b then "same" else if ((c * b - a * d).natAbs : Int) = 1 then "touch" else "apart"
theorem k_place (f : Fq a b) (g : Fq c d) : cK (n + 5) 25 [fr a b, fr c d] [] = .ok (.str (plc a b c d)) [] := by
  refine enter (d := f_place) rfl rfl (h' := []) ?_ rfl
  show evSs pg 4000 (cP (n + 4)) f_place.body [some (fr a b), some (fr c d)] [] = _
  unfold f_place plc
  by_cases e : a * d = c * b
  · simp only [evSs, s_exp, s_asg, s_par, s_aug, s_ret, s_ife, e_var, e_lit, e_glo, e_neg, e_not, e_bin, e_and, e_or, e_ite, e_cmp, e_chn, e_tup, e_lst, e_sub, e_call, e_blt, e_isi, evEs, evT, evI, List.getElem?_cons_succ, List.getElem?_cons_zero, bind_ok, then_ok, nx_then, rt_then, give_some, Option.map_some, t_int, t_abs, iabs_nat, b_add, b_sub, neg_i, tr_bl, s_fr0, s_fr1, Tg.put, Tg.puts, setsP, List.set_cons_succ, List.set_cons_zero, if_true, if_false, Bool.false_eq_true, Bool.not_true, Bool.not_false, c_lt, c_le, c_gt, c_ge, c_eq, c_ne, isi_t, len2, bind_exc, then_exc, ex_then, p_demand f, p_demand g, eq_fr, cross_eq f g, decide_eq_true e, if_pos e]
  · by_cases e2 : ((c * b - a * d).natAbs : Int) = 1
    · simp only [evSs, s_exp, s_asg, s_par, s_aug, s_ret, s_ife, e_var, e_lit, e_glo, e_neg, e_not, e_bin, e_and, e_or, e_ite, e_cmp, e_chn, e_tup, e_lst, e_sub, e_call, e_blt, e_isi, evEs, evT, evI, List.getElem?_cons_succ, List.getElem?_cons_zero, bind_ok, then_ok, nx_then, rt_then, give_some, Option.map_some, t_int, t_abs, iabs_nat, b_add, b_sub, neg_i, tr_bl, s_fr0, s_fr1, Tg.put, Tg.puts, setsP, List.set_cons_succ, List.set_cons_zero, if_true, if_false, Bool.false_eq_true, Bool.not_true, Bool.not_false, c_lt, c_le, c_gt, c_ge, c_eq, c_ne, isi_t, len2, bind_exc, then_exc, ex_then, p_demand f, p_demand g, eq_fr, cross_eq f g, decide_eq_false e, if_neg e, p_cross f.sa.mono f.sb.mono g.sa.mono g.sb.mono, beq_iff_eq.mpr e2, if_pos e2]
    · simp only [evSs, s_exp, s_asg, s_par, s_aug, s_ret, s_ife, e_var, e_lit, e_glo, e_neg, e_not, e_bin, e_and, e_or, e_ite, e_cmp, e_chn, e_tup, e_lst, e_sub, e_call, e_blt, e_isi, evEs, evT, evI, List.getElem?_cons_succ, List.getElem?_cons_zero, bind_ok, then_ok, nx_then, rt_then, give_some, Option.map_some, t_int, t_abs, iabs_nat, b_add, b_sub, neg_i, tr_bl, s_fr0, s_fr1, Tg.put, Tg.puts, setsP, List.set_cons_succ, List.set_cons_zero, if_true, if_false, Bool.false_eq_true, Bool.not_true, Bool.not_false, c_lt, c_le, c_gt, c_ge, c_eq, c_ne, isi_t, len2, bind_exc, then_exc, ex_then, p_demand f, p_demand g, eq_fr, cross_eq f g, decide_eq_false e, if_neg e, p_cross f.sa.mono f.sb.mono g.sa.mono g.sb.mono, beq_eq_false_iff_ne.mpr e2, if_neg e2]
def crc (a b : Int) : A := .tup [.tup [fr a b, fr 1 (2 * b * b)], fr 1 (2 * b * b * (2 * b * b))]
theorem half_pos (hb : 0 < b) : 0 < 2 * b * b := Int.mul_pos (by omega) hb
theorem Fq.s2 (f : Fq a b) : Sz 22 (2 * b * b) := (sz2.mul f.sb).mul f.sb
theorem k_circle (f : Fq a b) : cK (n + 5) 24 [fr a b] [] = .ok (crc a b) [] := by
  refine enter (d := f_circle) rfl rfl (h' := []) ?_ rfl
  show evSs pg 4000 (cP (n + 4)) f_circle.body [some (fr a b), none] [] = _
  have hb := f.po
  have h2 := half_pos hb
  have m1 : cP (n + 4) 9 [fr 1 (2 * b * b), fr 1 (2 * b * b)] [] = .ok (fr 1 (2 * b * b * (2 * b * b))) [] := by
    have e := p_multiplied (n := n + 1) (h := []) h2 h2 (sz1.mono) (f.s2.mono) (sz1.mono) (f.s2.mono)
    rw [Int.mul_one] at e
    obtain ⟨e1, e2⟩ := nf_same (Int.mul_pos h2 h2) (gc_one (2 * b * b * (2 * b * b)))
    rw [e1, e2] at e
    exact e
  unfold f_circle
  simp only [evSs, s_exp, s_asg, s_par, s_aug, s_ret, s_ife, e_var, e_lit, e_glo, e_neg, e_not, e_bin, e_and, e_or, e_ite, e_cmp, e_chn, e_tup, e_lst, e_sub, e_call, e_blt, e_isi, evEs, evT, evI, List.getElem?_cons_succ, List.getElem?_cons_zero, bind_ok, then_ok, nx_then, rt_then, give_some, Option.map_some, t_int, t_abs, iabs_nat, b_add, b_sub, neg_i, tr_bl, s_fr0, s_fr1, Tg.put, Tg.puts, setsP, List.set_cons_succ, List.set_cons_zero, if_true, if_false, Bool.false_eq_true, Bool.not_true, Bool.not_false, c_lt, c_le, c_gt, c_ge, c_eq, c_ne, isi_t, len2, bind_exc, then_exc, ex_then, p_demand f, b_mul (sz2.mulOk f.sb), b_mul ((sz2.mul f.sb).mulOk f.sb), p_made1 h2 f.s2.mono, m1]
  rfl
theorem p_circle (f : Fq a b) : cP (n + 5) 24 [fr a b] h = .ok (crc a b) h := cp (k_circle f) rfl rfl h
/-- the gap as the law has it -/
def gapN (f g b d : Int) : Int := f * f * b * b * d * d - g * g
def gapD (g b d : Int) : Int := g * g * b * b * d * d
def gap (a b c d : Int) : A := fr (top1 (gapN (top1 (a * d - c * b) (b * d)) (und1 (a * d - c * b) (b * d)) b d) (gapD (und1 (a * d - c * b) (b * d)) b d)) (und1 (gapN (top1 (a * d - c * b) (b * d)) (und1 (a * d - c * b) (b * d)) b d) (gapD (und1 (a * d - c * b) (b * d)) b d))
theorem g_w {p1 q1 : Int} (u1 : 0 < q1) (hb : 0 < b) (hd : 0 < d) : vq (gapN p1 q1 b d) (gapD q1 b d) = vq p1 q1 * vq p1 q1 - 1 / ((b : Rat) * b * d * d) := by
  have h1 := ne0 u1
  have h2 := ne0 hb
  have h3 := ne0 hd
  unfold vq gapN gapD
  push_cast
  grind
theorem g_w2 (hb : 0 < b) (hd : 0 < d) : vq 1 (2 * b * b) * vq 1 (2 * d * d) * 4 = 1 / ((b : Rat) * b * d * d) := by
  have h2 := ne0 hb
  have h3 := ne0 hd
  unfold vq
  push_cast
  grind
theorem g_fin {A B H K Z : Rat} (h : H * K * 4 = Z) : (A + B) * (A + B) + (H + -K) * (H + -K) + -((H + K) * (H + K)) = (A + B) * (A + B) - Z := by grind
theorem k_gap (f : Fq a b) (g : Fq c d) : cK (n + 6) 26 [fr a b, fr c d] [] = .ok (gap a b c d) [] := by
  refine enter (d := f_gap_square) rfl rfl (h' := []) ?_ rfl
  show evSs pg 4000 (cP (n + 5)) f_gap_square.body [some (fr a b), some (fr c d), none, none, none, none, none, none] [] = _
  have hb := f.po
  have hd := g.po
  have hb2 := half_pos hb
  have hd2 := half_pos hd
  have x1 : a * d + (-c) * b = a * d - c * b := by grind
  have P1 := p_added (n := n + 2) (h := []) (a := a) (c := -c) hb hd f.sa.mono f.sb.mono g.sa.neg.mono g.sb.mono
  rw [x1] at P1
  have v1 : vq (top1 (a * d - c * b) (b * d)) (und1 (a * d - c * b) (b * d)) = vq a b + - vq c d := by
    rw [nf_val (Int.mul_pos hb hd), ← x1, va hb hd, vn hd]
  have s1 : Sz 25 (top1 (a * d - c * b) (b * d)) := Sz.top (Int.mul_pos hb hd) ((f.sa.mul g.sb).sub (g.sa.mul f.sb))
  have t1 : Sz 20 (und1 (a * d - c * b) (b * d)) := Sz.und (Int.mul_pos hb hd) (f.sb.mul g.sb)
  have u1 : 0 < und1 (a * d - c * b) (b * d) := und_pos (Int.mul_pos hb hd)
  unfold gap
  generalize top1 (a * d - c * b) (b * d) = p1 at *
  generalize und1 (a * d - c * b) (b * d) = q1 at *
  have P2 := p_added (n := n + 2) (h := []) (a := 1) (c := -1) hb2 hd2 sz1.mono f.s2.mono sz1.neg.mono g.s2.mono
  have v2 : vq (top1 (1 * (2 * d * d) + -1 * (2 * b * b)) (2 * b * b * (2 * d * d))) (und1 (1 * (2 * d * d) + -1 * (2 * b * b)) (2 * b * b * (2 * d * d))) = vq 1 (2 * b * b) + - vq 1 (2 * d * d) := by
    rw [nf_val (Int.mul_pos hb2 hd2), va hb2 hd2, vn hd2]
  have s2 : Sz 25 (top1 (1 * (2 * d * d) + -1 * (2 * b * b)) (2 * b * b * (2 * d * d))) := Sz.top (Int.mul_pos hb2 hd2) (((sz1.mul g.s2).mono (l := 24)).add ((sz1.neg.mul f.s2).mono (l := 24)))
  have t2 : Sz 44 (und1 (1 * (2 * d * d) + -1 * (2 * b * b)) (2 * b * b * (2 * d * d))) := Sz.und (Int.mul_pos hb2 hd2) (f.s2.mul g.s2)
  have u2 : 0 < und1 (1 * (2 * d * d) + -1 * (2 * b * b)) (2 * b * b * (2 * d * d)) := und_pos (Int.mul_pos hb2 hd2)
  generalize top1 (1 * (2 * d * d) + -1 * (2 * b * b)) (2 * b * b * (2 * d * d)) = p2 at *
  generalize und1 (1 * (2 * d * d) + -1 * (2 * b * b)) (2 * b * b * (2 * d * d)) = q2 at *
  have P3 := p_added (n := n + 2) (h := []) (a := 1) (c := 1) hb2 hd2 sz1.mono f.s2.mono sz1.mono g.s2.mono
  have v3 : vq (top1 (1 * (2 * d * d) + 1 * (2 * b * b)) (2 * b * b * (2 * d * d))) (und1 (1 * (2 * d * d) + 1 * (2 * b * b)) (2 * b * b * (2 * d * d))) = vq 1 (2 * b * b) + vq 1 (2 * d * d) := by
    rw [nf_val (Int.mul_pos hb2 hd2), va hb2 hd2]
  have s3 : Sz 25 (top1 (1 * (2 * d * d) + 1 * (2 * b * b)) (2 * b * b * (2 * d * d))) := Sz.top (Int.mul_pos hb2 hd2) (((sz1.mul g.s2).mono (l := 24)).add ((sz1.mul f.s2).mono (l := 24)))
  have t3 : Sz 44 (und1 (1 * (2 * d * d) + 1 * (2 * b * b)) (2 * b * b * (2 * d * d))) := Sz.und (Int.mul_pos hb2 hd2) (f.s2.mul g.s2)
  have u3 : 0 < und1 (1 * (2 * d * d) + 1 * (2 * b * b)) (2 * b * b * (2 * d * d)) := und_pos (Int.mul_pos hb2 hd2)
  generalize top1 (1 * (2 * d * d) + 1 * (2 * b * b)) (2 * b * b * (2 * d * d)) = p3 at *
  generalize und1 (1 * (2 * d * d) + 1 * (2 * b * b)) (2 * b * b * (2 * d * d)) = q3 at *
  have P4 := p_multiplied (n := n + 2) (h := []) u1 u1 s1.mono t1.mono s1.mono t1.mono
  have v4 : vq (top1 (p1 * p1) (q1 * q1)) (und1 (p1 * p1) (q1 * q1)) = vq p1 q1 * vq p1 q1 := by rw [nf_val (Int.mul_pos u1 u1), vm u1 u1]
  have s4 : Sz 50 (top1 (p1 * p1) (q1 * q1)) := Sz.top (Int.mul_pos u1 u1) (s1.mul s1)
  have t4 : Sz 40 (und1 (p1 * p1) (q1 * q1)) := Sz.und (Int.mul_pos u1 u1) (t1.mul t1)
  have u4 : 0 < und1 (p1 * p1) (q1 * q1) := und_pos (Int.mul_pos u1 u1)
  generalize top1 (p1 * p1) (q1 * q1) = p4 at *
  generalize und1 (p1 * p1) (q1 * q1) = q4 at *
  have P5 := p_multiplied (n := n + 2) (h := []) u2 u2 s2.mono t2.mono s2.mono t2.mono
  have v5 : vq (top1 (p2 * p2) (q2 * q2)) (und1 (p2 * p2) (q2 * q2)) = vq p2 q2 * vq p2 q2 := by rw [nf_val (Int.mul_pos u2 u2), vm u2 u2]
  have s5 : Sz 50 (top1 (p2 * p2) (q2 * q2)) := Sz.top (Int.mul_pos u2 u2) (s2.mul s2)
  have t5 : Sz 88 (und1 (p2 * p2) (q2 * q2)) := Sz.und (Int.mul_pos u2 u2) (t2.mul t2)
  have u5 : 0 < und1 (p2 * p2) (q2 * q2) := und_pos (Int.mul_pos u2 u2)
  generalize top1 (p2 * p2) (q2 * q2) = p5 at *
  generalize und1 (p2 * p2) (q2 * q2) = q5 at *
  have P6 := p_added (n := n + 2) (h := []) (a := p4) (b := q4) (c := p5) (d := q5) u4 u5 s4.mono t4.mono s5.mono t5.mono
  have v6 : vq (top1 (p4 * q5 + p5 * q4) (q4 * q5)) (und1 (p4 * q5 + p5 * q4) (q4 * q5)) = vq p4 q4 + vq p5 q5 := by rw [nf_val (Int.mul_pos u4 u5), va u4 u5]
  have s6 : Sz 201 (top1 (p4 * q5 + p5 * q4) (q4 * q5)) := Sz.top (Int.mul_pos u4 u5) (((s4.mul t5).mono (l := 200)).add ((s5.mul t4).mono (l := 200)))
  have t6 : Sz 128 (und1 (p4 * q5 + p5 * q4) (q4 * q5)) := Sz.und (Int.mul_pos u4 u5) (t4.mul t5)
  have u6 : 0 < und1 (p4 * q5 + p5 * q4) (q4 * q5) := und_pos (Int.mul_pos u4 u5)
  generalize top1 (p4 * q5 + p5 * q4) (q4 * q5) = p6 at *
  generalize und1 (p4 * q5 + p5 * q4) (q4 * q5) = q6 at *
  have P7 := p_multiplied (n := n + 2) (h := []) u3 u3 s3.mono t3.mono s3.mono t3.mono
  have v7 : vq (top1 (p3 * p3) (q3 * q3)) (und1 (p3 * p3) (q3 * q3)) = vq p3 q3 * vq p3 q3 := by rw [nf_val (Int.mul_pos u3 u3), vm u3 u3]
  have s7 : Sz 50 (top1 (p3 * p3) (q3 * q3)) := Sz.top (Int.mul_pos u3 u3) (s3.mul s3)
  have t7 : Sz 88 (und1 (p3 * p3) (q3 * q3)) := Sz.und (Int.mul_pos u3 u3) (t3.mul t3)
  have u7 : 0 < und1 (p3 * p3) (q3 * q3) := und_pos (Int.mul_pos u3 u3)
  generalize top1 (p3 * p3) (q3 * q3) = p7 at *
  generalize und1 (p3 * p3) (q3 * q3) = q7 at *
  have P8 := p_added (n := n + 2) (h := []) (a := p6) (b := q6) (c := -p7) (d := q7) u6 u7 s6.mono t6.mono s7.neg.mono t7.mono
  have v8 : vq (p6 * q7 + -p7 * q6) (q6 * q7) = vq p6 q6 + - vq p7 q7 := by rw [va u6 u7, vn u7]
  have hD : 0 < gapD q1 b d := by
    unfold gapD
    exact Int.mul_pos (Int.mul_pos (Int.mul_pos (Int.mul_pos (Int.mul_pos u1 u1) hb) hb) hd) hd
  have fin : fr (top1 (p6 * q7 + -p7 * q6) (q6 * q7)) (und1 (p6 * q7 + -p7 * q6) (q6 * q7)) = fr (top1 (gapN p1 q1 b d) (gapD q1 b d)) (und1 (gapN p1 q1 b d) (gapD q1 b d)) := by
    refine nf_of (Int.mul_pos u6 u7) hD ?_
    rw [v8, v6, v7, v4, v5, v2, v3, g_w u1 hb hd, v1]
    exact g_fin (g_w2 hb hd)
  unfold f_gap_square
  unfold crc at *
  have C1 := p_circle (n := n) (h := []) f
  have C2 := p_circle (n := n) (h := []) g
  unfold crc at C1 C2
  simp only [evSs, s_exp, s_asg, s_par, s_aug, s_ret, s_ife, e_var, e_lit, e_glo, e_neg, e_not, e_bin, e_and, e_or, e_ite, e_cmp, e_chn, e_tup, e_lst, e_sub, e_call, e_blt, e_isi, evEs, evT, evI, List.getElem?_cons_succ, List.getElem?_cons_zero, bind_ok, then_ok, nx_then, rt_then, give_some, Option.map_some, t_int, t_abs, iabs_nat, b_add, b_sub, neg_i, tr_bl, s_fr0, s_fr1, Tg.put, Tg.puts, setsP, List.set_cons_succ, List.set_cons_zero, if_true, if_false, Bool.false_eq_true, Bool.not_true, Bool.not_false, c_lt, c_le, c_gt, c_ge, c_eq, c_ne, isi_t, len2, bind_exc, then_exc, ex_then, C1, C2, p_negated, P1, P2, P3, P4, P5, P6, P7, P8, fin]
/-! ### the judge -/
def inB (a b c d x y : Int) : Bool := decide (a * y < x * b) && decide (x * d < c * y) || decide (c * y < x * d) && decide (x * b < a * y)
def why (a b c d p q x y : Int) : Option Str := if inB a b c d x y = false then some "between" else if y ≠ q then some "denominator" else if x ≠ p then some "least" else none
end
end My

/-! text Q7 -/
set_option Elab.async false
set_option linter.all false
set_option maxRecDepth 100000
set_option maxHeartbeats 4000000
/-! k46: the judge, what is told -/
namespace My
open PySem Ev Pl
theorem sgn (u v : Int) : (decide (0 < u) && decide (0 < v) || decide (v < 0) && decide (u < 0)) = !decide (u * v ≤ 0) := by
  by_cases hu : 0 < u
  · have hu2 : ¬ u < 0 := by omega
    by_cases hv : 0 < v
    · have := Int.mul_pos hu hv
      simp [hu, hv]
      omega
    · have := Int.mul_nonpos_of_nonneg_of_nonpos (Int.le_of_lt hu) (show v ≤ 0 by omega)
      simp [hu2, hv, this]
  · by_cases hu0 : u = 0
    · subst hu0
      simp
    · have hu2 : u < 0 := by omega
      by_cases hv : v < 0
      · have := Int.mul_pos_of_neg_of_neg hu2 hv
        simp [hu2, hv]
        omega
      · have := Int.mul_nonpos_of_nonpos_of_nonneg (Int.le_of_lt hu2) (show 0 ≤ v by omega)
        simp [hu, hv, this]
theorem inB_eq (a b c d x y : Int) : inB a b c d x y = !decide ((x * b - a * y) * (c * y - x * d) ≤ 0) := by
  unfold inB
  have k1 : (a * y < x * b) ↔ 0 < x * b - a * y := by omega
  have k2 : (x * d < c * y) ↔ 0 < c * y - x * d := by omega
  have k3 : (c * y < x * d) ↔ c * y - x * d < 0 := by omega
  have k4 : (x * b < a * y) ↔ x * b - a * y < 0 := by omega
  rw [decide_eq_decide.mpr k1, decide_eq_decide.mpr k2, decide_eq_decide.mpr k3, decide_eq_decide.mpr k4]
  exact sgn _ _
theorem s_rais (C : Nat → List A → Ho → R A) (σ : Sl) (h : Ho) (P : Pg) (W : Nat) (c : Nat) (es : List E) : evS P W C (.rais c es) σ h = (evEs C es σ h).then σ fun xs h => match P.ecs[c]? with
    | some e => if xs.length == e.fs.length then .ex ⟨c, e.fs.zip xs⟩ σ h else .err
    | none => .err := by rw [evS] <;> rfl
theorem x_paper (s : Str) (σ : Sl) (h : Ho) : (match pg.ecs[1]? with
    | some e => if [A.str s].length == e.fs.length then Ot.ex ⟨1, e.fs.zip [A.str s]⟩ σ h else .err
    | none => .err) = .ex ⟨1, [("reason", .str s)]⟩ σ h := rfl
theorem x_arg (s : Str) (σ : Sl) (h : Ho) : (match pg.ecs[0]? with
    | some e => if [A.str s].length == e.fs.length then Ot.ex ⟨0, e.fs.zip [A.str s]⟩ σ h else .err
    | none => .err) = .ex ⟨0, [("reason", .str s)]⟩ σ h := rfl
theorem ne_fr (a b c d : Int) (h : Ho) : cmpA .NotEq (fr a b) (fr c d) h = some (!(a == c && b == d)) := by
  show (cmpA .Eq (fr a b) (fr c d) h).map (!·) = _
  rw [eq_fr]
  rfl
section
variable {n : Nat} {a b c d p q x y : Int} {h : Ho}
def verdict (a b c d p q x y : Int) : Option Str := if gc x y = 1 then why a b c d p q x y else some "form"
theorem k_accept (f : Fq a b) (g : Fq c d) (B : Bw a b c d p q) (hy : 0 < y) (sx : Sz 800 x) (sy : Sz 800 y) : cK (n + 26) 23 [fr a b, fr c d, fr x y] [] = (match verdict a b c d p q x y with
    | some s => .exc ⟨1, [("reason", .str s)]⟩ []
    | none => .ok .non []) := by
  have bt := cp (k_between (n := n) f g B) rfl rfl []
  have c1 := p_cross (n := n + 24) (h := []) (f.sa.mono) (f.sb.mono) sx sy
  have c2 := p_cross (n := n + 24) (h := []) sx sy (g.sa.mono) (g.sb.mono)
  have m1 : mulOk (x * b - a * y) (c * y - x * d) = true := by
    refine Sz.mulOk (k := 900) (l := 900) ?_ ?_
    · exact ((sx.mul f.sb).mono (l := 899)).sub ((f.sa.mul sy).mono (l := 899))
    · exact ((g.sa.mul sy).mono (l := 899)).sub ((sx.mul g.sb).mono (l := 899))
  unfold verdict
  by_cases h1 : gc x y = 1
  · rw [if_pos h1]
    unfold why
    by_cases h2 : inB a b c d x y = false
    · rw [if_pos h2]
      refine enterX (d := f_accept_between) rfl rfl (h' := []) (σ := [some (fr a b), some (fr c d), some (fr x y), some (fr p q)]) ?_
      rw [inB_eq] at h2
      have h3 : decide ((x * b - a * y) * (c * y - x * d) ≤ 0) = true := by simpa using h2
      show evSs pg 4000 (cP (n + 25)) f_accept_between.body [some (fr a b), some (fr c d), some (fr x y), none] [] = _
      unfold f_accept_between
      simp only [evSs, s_exp, s_asg, s_par, s_aug, s_ret, s_ife, e_var, e_lit, e_glo, e_neg, e_not, e_bin, e_and, e_or, e_ite, e_cmp, e_chn, e_tup, e_lst, e_sub, e_call, e_blt, e_isi, evEs, evT, evI, List.getElem?_cons_succ, List.getElem?_cons_zero, bind_ok, then_ok, nx_then, rt_then, give_some, Option.map_some, t_int, t_abs, iabs_nat, b_add, b_sub, neg_i, tr_bl, s_fr0, s_fr1, Tg.put, Tg.puts, setsP, List.set_cons_succ, List.set_cons_zero, if_true, if_false, Bool.false_eq_true, Bool.not_true, Bool.not_false, c_lt, c_le, c_gt, c_ge, c_eq, c_ne, isi_t, len2, bind_exc, then_exc, ex_then, bt, p_isfr sy.mono, decide_eq_true hy, h1, beq_self_eq_true, Bool.and_self, c1, c2, b_mul m1, h3, s_rais, x_paper]
    · rw [if_neg h2]
      have h3 : decide ((x * b - a * y) * (c * y - x * d) ≤ 0) = false := by
        rw [inB_eq] at h2
        simpa using h2
      by_cases h4 : y = q
      · rw [if_neg (by simpa using h4)]
        by_cases h5 : x = p
        · rw [if_neg (by simpa using h5)]
          subst h4 h5
          refine enterN (d := f_accept_between) rfl rfl (h' := []) (σ := [some (fr a b), some (fr c d), some (fr x y), some (fr x y)]) ?_
          show evSs pg 4000 (cP (n + 25)) f_accept_between.body [some (fr a b), some (fr c d), some (fr x y), none] [] = _
          unfold f_accept_between
          simp only [evSs, s_exp, s_asg, s_par, s_aug, s_ret, s_ife, e_var, e_lit, e_glo, e_neg, e_not, e_bin, e_and, e_or, e_ite, e_cmp, e_chn, e_tup, e_lst, e_sub, e_call, e_blt, e_isi, evEs, evT, evI, List.getElem?_cons_succ, List.getElem?_cons_zero, bind_ok, then_ok, nx_then, rt_then, give_some, Option.map_some, t_int, t_abs, iabs_nat, b_add, b_sub, neg_i, tr_bl, s_fr0, s_fr1, Tg.put, Tg.puts, setsP, List.set_cons_succ, List.set_cons_zero, if_true, if_false, Bool.false_eq_true, Bool.not_true, Bool.not_false, c_lt, c_le, c_gt, c_ge, c_eq, c_ne, isi_t, len2, bind_exc, then_exc, ex_then, bt, p_isfr sy.mono, decide_eq_true hy, h1, beq_self_eq_true, Bool.and_self, c1, c2, b_mul m1, h3, ne_fr]
        · rw [if_pos h5]
          subst h4
          refine enterX (d := f_accept_between) rfl rfl (h' := []) (σ := [some (fr a b), some (fr c d), some (fr x y), some (fr p y)]) ?_
          show evSs pg 4000 (cP (n + 25)) f_accept_between.body [some (fr a b), some (fr c d), some (fr x y), none] [] = _
          unfold f_accept_between
          simp only [evSs, s_exp, s_asg, s_par, s_aug, s_ret, s_ife, e_var, e_lit, e_glo, e_neg, e_not, e_bin, e_and, e_or, e_ite, e_cmp, e_chn, e_tup, e_lst, e_sub, e_call, e_blt, e_isi, evEs, evT, evI, List.getElem?_cons_succ, List.getElem?_cons_zero, bind_ok, then_ok, nx_then, rt_then, give_some, Option.map_some, t_int, t_abs, iabs_nat, b_add, b_sub, neg_i, tr_bl, s_fr0, s_fr1, Tg.put, Tg.puts, setsP, List.set_cons_succ, List.set_cons_zero, if_true, if_false, Bool.false_eq_true, Bool.not_true, Bool.not_false, c_lt, c_le, c_gt, c_ge, c_eq, c_ne, isi_t, len2, bind_exc, then_exc, ex_then, bt, p_isfr sy.mono, decide_eq_true hy, h1, beq_self_eq_true, Bool.and_self, c1, c2, b_mul m1, h3, ne_fr, beq_eq_false_iff_ne.mpr h5, Bool.false_and, s_rais, x_paper]
      · rw [if_pos h4]
        refine enterX (d := f_accept_between) rfl rfl (h' := []) (σ := [some (fr a b), some (fr c d), some (fr x y), some (fr p q)]) ?_
        show evSs pg 4000 (cP (n + 25)) f_accept_between.body [some (fr a b), some (fr c d), some (fr x y), none] [] = _
        unfold f_accept_between
        simp only [evSs, s_exp, s_asg, s_par, s_aug, s_ret, s_ife, e_var, e_lit, e_glo, e_neg, e_not, e_bin, e_and, e_or, e_ite, e_cmp, e_chn, e_tup, e_lst, e_sub, e_call, e_blt, e_isi, evEs, evT, evI, List.getElem?_cons_succ, List.getElem?_cons_zero, bind_ok, then_ok, nx_then, rt_then, give_some, Option.map_some, t_int, t_abs, iabs_nat, b_add, b_sub, neg_i, tr_bl, s_fr0, s_fr1, Tg.put, Tg.puts, setsP, List.set_cons_succ, List.set_cons_zero, if_true, if_false, Bool.false_eq_true, Bool.not_true, Bool.not_false, c_lt, c_le, c_gt, c_ge, c_eq, c_ne, isi_t, len2, bind_exc, then_exc, ex_then, bt, p_isfr sy.mono, decide_eq_true hy, h1, beq_self_eq_true, Bool.and_self, c1, c2, b_mul m1, h3, beq_eq_false_iff_ne.mpr h4, s_rais, x_paper]
  · rw [if_neg h1]
    refine enterX (d := f_accept_between) rfl rfl (h' := []) (σ := [some (fr a b), some (fr c d), some (fr x y), some (fr p q)]) ?_
    show evSs pg 4000 (cP (n + 25)) f_accept_between.body [some (fr a b), some (fr c d), some (fr x y), none] [] = _
    unfold f_accept_between
    simp only [evSs, s_exp, s_asg, s_par, s_aug, s_ret, s_ife, e_var, e_lit, e_glo, e_neg, e_not, e_bin, e_and, e_or, e_ite, e_cmp, e_chn, e_tup, e_lst, e_sub, e_call, e_blt, e_isi, evEs, evT, evI, List.getElem?_cons_succ, List.getElem?_cons_zero, bind_ok, then_ok, nx_then, rt_then, give_some, Option.map_some, t_int, t_abs, iabs_nat, b_add, b_sub, neg_i, tr_bl, s_fr0, s_fr1, Tg.put, Tg.puts, setsP, List.set_cons_succ, List.set_cons_zero, if_true, if_false, Bool.false_eq_true, Bool.not_true, Bool.not_false, c_lt, c_le, c_gt, c_ge, c_eq, c_ne, isi_t, len2, bind_exc, then_exc, ex_then, bt, p_isfr sy.mono, decide_eq_true hy, beq_eq_false_iff_ne.mpr h1, Bool.and_false, s_rais, x_paper]
/-- what is no tuple -/
def noTup : A → Bool
  | .non => true
  | .str _ => true
  | _ => false
theorem isi_no {z : A} (hz : noTup z = true) (h : Ho) : bltA (.isi "tuple") [z] h = .ok (.bl false) h := by
  cases z <;> first | (cases hz; done) | rfl
theorem p_isfr_no {z : A} (hz : noTup z = true) : cP (n + 1) 3 [z] h = .ok (.bl false) h := by
  have hi : A.inbs 0 [z] = true := by cases z <;> first | (cases hz; done) | rfl
  refine cp ?_ hi rfl h
  refine enter (d := f_is_fraction) rfl rfl (h' := []) ?_ rfl
  show evSs pg 4000 (cP n) f_is_fraction.body [some z, none] [] = _
  unfold f_is_fraction
  simp only [evSs, s_exp, s_asg, s_par, s_aug, s_ret, s_ife, e_var, e_lit, e_glo, e_neg, e_not, e_bin, e_and, e_or, e_ite, e_cmp, e_chn, e_tup, e_lst, e_sub, e_call, e_blt, e_isi, evEs, evT, evI, List.getElem?_cons_succ, List.getElem?_cons_zero, bind_ok, then_ok, nx_then, rt_then, give_some, Option.map_some, t_int, t_abs, iabs_nat, b_add, b_sub, neg_i, tr_bl, s_fr0, s_fr1, Tg.put, Tg.puts, setsP, List.set_cons_succ, List.set_cons_zero, if_true, if_false, Bool.false_eq_true, Bool.not_true, Bool.not_false, c_lt, c_le, c_gt, c_ge, c_eq, c_ne, isi_t, len2, bind_exc, then_exc, ex_then, isi_no hz]
theorem k_accept_no {z : A} (hz : noTup z = true) (f : Fq a b) (g : Fq c d) (B : Bw a b c d p q) : cK (n + 26) 23 [fr a b, fr c d, z] [] = .exc ⟨1, [("reason", .str "form")]⟩ [] := by
  have bt := cp (k_between (n := n) f g B) rfl rfl []
  refine enterX (d := f_accept_between) rfl rfl (h' := []) (σ := [some (fr a b), some (fr c d), some z, some (fr p q)]) ?_
  show evSs pg 4000 (cP (n + 25)) f_accept_between.body [some (fr a b), some (fr c d), some z, none] [] = _
  unfold f_accept_between
  simp only [evSs, s_exp, s_asg, s_par, s_aug, s_ret, s_ife, e_var, e_lit, e_glo, e_neg, e_not, e_bin, e_and, e_or, e_ite, e_cmp, e_chn, e_tup, e_lst, e_sub, e_call, e_blt, e_isi, evEs, evT, evI, List.getElem?_cons_succ, List.getElem?_cons_zero, bind_ok, then_ok, nx_then, rt_then, give_some, Option.map_some, t_int, t_abs, iabs_nat, b_add, b_sub, neg_i, tr_bl, s_fr0, s_fr1, Tg.put, Tg.puts, setsP, List.set_cons_succ, List.set_cons_zero, if_true, if_false, Bool.false_eq_true, Bool.not_true, Bool.not_false, c_lt, c_le, c_gt, c_ge, c_eq, c_ne, isi_t, len2, bind_exc, then_exc, ex_then, bt, p_isfr_no hz, s_rais, x_paper]
theorem k_acceptX (f : Fq a b) (g : Fq c d) (e : a * d = c * b) (z : A) : cK (n + 26) 23 [fr a b, fr c d, z] [] = .exc ⟨0, [("reason", .str "other")]⟩ [] := by
  have bt := cpX (k_betweenX (n := n) f g e) rfl []
  refine enterX (d := f_accept_between) rfl rfl (h' := []) (σ := [some (fr a b), some (fr c d), some z, none]) ?_
  show evSs pg 4000 (cP (n + 25)) f_accept_between.body [some (fr a b), some (fr c d), some z, none] [] = _
  unfold f_accept_between
  simp only [evSs, s_exp, s_asg, s_par, s_aug, s_ret, s_ife, e_var, e_lit, e_glo, e_neg, e_not, e_bin, e_and, e_or, e_ite, e_cmp, e_chn, e_tup, e_lst, e_sub, e_call, e_blt, e_isi, evEs, evT, evI, List.getElem?_cons_succ, List.getElem?_cons_zero, bind_ok, then_ok, nx_then, rt_then, give_some, Option.map_some, t_int, t_abs, iabs_nat, b_add, b_sub, neg_i, tr_bl, s_fr0, s_fr1, Tg.put, Tg.puts, setsP, List.set_cons_succ, List.set_cons_zero, if_true, if_false, Bool.false_eq_true, Bool.not_true, Bool.not_false, c_lt, c_le, c_gt, c_ge, c_eq, c_ne, isi_t, len2, bind_exc, then_exc, ex_then, bt]
/-! ### told -/
def tryB : List S := [.ife (.val (.cmp .Lt (.var 0) (.lit (.int 3)))) [.ret (.ite (.val (.cmp .Eq (.var 0) (.lit (.int 0)))) (.call 12 [.var 1]) (.ite (.val (.cmp .Eq (.var 0) (.lit (.int 1)))) (.call 13 [.var 1]) (.call 29 [.var 1])))] [], .ife (.val (.cmp .Lt (.var 0) (.lit (.int 8)))) [.asg (.nm 4) (.lst [.glo "neighbours" (.fn 16), .glo "are_neighbours" (.fn 15), .glo "place" (.fn 25), .glo "gap_square" (.fn 26), .glo "between" (.fn 21)]), .ret (.cval (.sub (.var 4) (.bin .Sub (.var 0) (.lit (.int 3)))) [.var 1, .var 2])] [], .ret (.ite (.val (.cmp .Eq (.var 0) (.lit (.int 8)))) (.call 24 [.var 1]) (.ite (.val (.cmp .Eq (.var 0) (.lit (.int 9)))) (.call 27 [.var 1]) (.ite (.val (.cmp .Eq (.var 0) (.lit (.int 10)))) (.call 28 [.var 1]) (.call 23 [.var 1, .var 2, .var 3]))))]
def hs : List Hd := [⟨"ArgumentError", some 5, .ite "DrawnError" (.tup [.lit (.str "argument"), .fld "reason"]) (.lit (.str ""))⟩, ⟨"PaperError", some 5, .tup [.lit (.str "paper"), .fld "reason"]⟩]
theorem told_body : f__law_told.body = [.try_ tryB hs] := rfl
theorem s_try (C : Nat → List A → Ho → R A) (σ : Sl) (P : Pg) (W : Nat) (b : List S) (hs : List Hd) : evS P W C (.try_ b hs) σ h = match evSs P W C b σ h with
    | .ex x σ h => handle P x σ h hs
    | o => o := by rw [evS] <;> rfl
theorem told_rt {z v1 v2 v3 r : A} {h' : Ho} (e : evSs pg 4000 (cP n) tryB [some z, some v1, some v2, some v3, none, none] [] = .rt r h') (hr : A.inb 0 r = true) : cK (n + 1) 36 [z, v1, v2, v3] [] = .ok r [] := by
  refine enter (d := f__law_told) rfl rfl (h' := h') ?_ hr
  show evSs pg 4000 (cP n) f__law_told.body [some z, some v1, some v2, some v3, none, none] [] = _
  rw [told_body]
  show (evS _ _ _ _ _ _).then _ = _
  rw [s_try, e]
  rfl
theorem told_x {z v1 v2 v3 : A} {h' : Ho} {σ : Sl} {s : Str} (e : evSs pg 4000 (cP n) tryB [some z, some v1, some v2, some v3, none, none] [] = .ex ⟨0, [("reason", .str s)]⟩ σ h') : cK (n + 1) 36 [z, v1, v2, v3] [] = .ok (.tup [.str "argument", .str s]) [] := by
  refine enter (d := f__law_told) rfl rfl (h' := h') ?_ rfl
  show evSs pg 4000 (cP n) f__law_told.body [some z, some v1, some v2, some v3, none, none] [] = _
  rw [told_body]
  show (evS _ _ _ _ _ _).then _ = _
  rw [s_try, e]
  rfl
theorem told_y {z v1 v2 v3 : A} {h' : Ho} {σ : Sl} {s : Str} (e : evSs pg 4000 (cP n) tryB [some z, some v1, some v2, some v3, none, none] [] = .ex ⟨1, [("reason", .str s)]⟩ σ h') : cK (n + 1) 36 [z, v1, v2, v3] [] = .ok (.tup [.str "paper", .str s]) [] := by
  refine enter (d := f__law_told) rfl rfl (h' := h') ?_ rfl
  show evSs pg 4000 (cP n) f__law_told.body [some z, some v1, some v2, some v3, none, none] [] = _
  rw [told_body]
  show (evS _ _ _ _ _ _).then _ = _
  rw [s_try, e]
  rfl
theorem e_cval (C : Nat → List A → Ho → R A) (σ : Sl) (f : E) (es : List E) : evE C (.cval f es) σ h = (evE C f σ h).bind fun x h => match x with
    | .fn i => (evEs C es σ h).bind fun xs h => C i xs h
    | _ => .err := by rw [evE] <;> rfl
def fns : List A := [.fn 16, .fn 15, .fn 25, .fn 26, .fn 21]
theorem new0 (xs : List A) : newL xs [] = .ok (.ref 0) [.lst xs] := rfl
/-- a call by its number, 3 to 7 -/
theorem told_call {i : Int} {v1 v2 v3 : A} (g : Nat) (h3 : 3 ≤ i) (h8 : i < 8) (hf : subA (.ref 0) (.int (i - 3)) [.lst fns] = some (.fn g)) (W : Ot) (hW : (cP n g [v1, v2] [.lst fns]).then [some (.int i), some v1, some v2, some v3, some (.ref 0), none] (fun x h => Ot.rt x h) = W) : evSs pg 4000 (cP n) tryB [some (.int i), some v1, some v2, some v3, none, none] [] = W.then (fun σ h => evSs pg 4000 (cP n) [.ret (.ite (.val (.cmp .Eq (.var 0) (.lit (.int 8)))) (.call 24 [.var 1]) (.ite (.val (.cmp .Eq (.var 0) (.lit (.int 9)))) (.call 27 [.var 1]) (.ite (.val (.cmp .Eq (.var 0) (.lit (.int 10)))) (.call 28 [.var 1]) (.call 23 [.var 1, .var 2, .var 3]))))] σ h) := by
  unfold tryB
  unfold fns at hf hW
  subst hW
  simp only [evSs, s_exp, s_asg, s_par, s_aug, s_ret, s_ife, e_var, e_lit, e_glo, e_neg, e_not, e_bin, e_and, e_or, e_ite, e_cmp, e_chn, e_tup, e_lst, e_sub, e_call, e_blt, e_isi, evEs, evT, evI, List.getElem?_cons_succ, List.getElem?_cons_zero, bind_ok, then_ok, nx_then, rt_then, give_some, Option.map_some, t_int, t_abs, iabs_nat, b_add, b_sub, neg_i, tr_bl, s_fr0, s_fr1, Tg.put, Tg.puts, setsP, List.set_cons_succ, List.set_cons_zero, if_true, if_false, Bool.false_eq_true, Bool.not_true, Bool.not_false, c_lt, c_le, c_gt, c_ge, c_eq, c_ne, isi_t, len2, bind_exc, then_exc, ex_then, decide_eq_false (show ¬ i < 3 by omega), decide_eq_true h8, new0, e_cval, hf]
  cases cP n g [v1, v2] [.lst [.fn 16, .fn 15, .fn 25, .fn 26, .fn 21]] <;> rfl
end
end My

/-! text Q8 -/
set_option Elab.async false
set_option linter.all false
set_option maxRecDepth 100000
set_option maxHeartbeats 4000000
/-! k46: what is told, by numbers; what is shown; the objects around -/
namespace My
open PySem Ev Pl
section
variable {n : Nat} {a b c d p q x y : Int} {h : Ho}
theorem t_are (f : Fq a b) (g : Fq c d) : cP (n + 27) 36 [.int 4, fr a b, fr c d, .non] h = .ok (.bl (((c * b - a * d).natAbs : Int) == 1)) h := by
  refine cp ?_ rfl rfl h
  refine told_rt (h' := [.lst fns]) ?_ rfl
  rw [told_call (n := n + 26) (i := 4) (v1 := fr a b) (v2 := fr c d) (v3 := .non) 15 (by decide) (by decide) rfl (.rt (.bl (((c * b - a * d).natAbs : Int) == 1)) [.lst fns]) (by
    rw [cp (k_are (n := n + 21) f g) rfl rfl]
    rfl)]
  rfl
theorem t_place (f : Fq a b) (g : Fq c d) : cP (n + 27) 36 [.int 5, fr a b, fr c d, .non] h = .ok (.str (plc a b c d)) h := by
  refine cp ?_ rfl rfl h
  refine told_rt (h' := [.lst fns]) ?_ rfl
  rw [told_call (n := n + 26) (i := 5) (v1 := fr a b) (v2 := fr c d) (v3 := .non) 25 (by decide) (by decide) rfl (.rt (.str (plc a b c d)) [.lst fns]) (by
    rw [cp (k_place (n := n + 21) f g) rfl rfl]
    rfl)]
  rfl
theorem t_gap (f : Fq a b) (g : Fq c d) : cP (n + 27) 36 [.int 6, fr a b, fr c d, .non] h = .ok (gap a b c d) h := by
  refine cp ?_ rfl rfl h
  refine told_rt (h' := [.lst fns]) ?_ rfl
  rw [told_call (n := n + 26) (i := 6) (v1 := fr a b) (v2 := fr c d) (v3 := .non) 26 (by decide) (by decide) rfl (.rt (gap a b c d) [.lst fns]) (by
    rw [cp (k_gap (n := n + 20) f g) rfl rfl]
    rfl)]
  rfl
/-- what is told of a fraction between -/
def btw (a b c d p q : Int) : A := if a * d = c * b then .tup [.str "argument", .str "other"] else fr p q
def Bo (a b c d p q : Int) : Prop := a * d = c * b ∨ Bw a b c d p q
theorem t_between (f : Fq a b) (g : Fq c d) (B : Bo a b c d p q) : cP (n + 27) 36 [.int 7, fr a b, fr c d, .non] h = .ok (btw a b c d p q) h := by
  have inb : A.inb 0 (btw a b c d p q) = true := by
    unfold btw
    split <;> rfl
  refine cp ?_ rfl inb h
  unfold btw at inb ⊢
  by_cases e : a * d = c * b
  · rw [if_pos e]
    refine told_x (h' := [.lst fns]) (σ := [some (.int 7), some (fr a b), some (fr c d), some .non, some (.ref 0), none]) ?_
    rw [told_call (n := n + 26) (i := 7) (v1 := fr a b) (v2 := fr c d) (v3 := .non) 21 (by decide) (by decide) rfl (.ex ⟨0, [("reason", .str "other")]⟩ [some (.int 7), some (fr a b), some (fr c d), some .non, some (.ref 0), none] [.lst fns]) (by
      rw [cpX (k_betweenX (n := n + 1) f g e) rfl]
      rfl)]
    rfl
  · rw [if_neg e]
    rcases B with B | B
    · exact absurd B e
    · refine told_rt (h' := [.lst fns]) ?_ rfl
      rw [told_call (n := n + 26) (i := 7) (v1 := fr a b) (v2 := fr c d) (v3 := .non) 21 (by decide) (by decide) rfl (.rt (fr p q) [.lst fns]) (by
        rw [cp (k_between (n := n + 1) f g B) rfl rfl]
        rfl)]
      rfl
theorem n83 : decide ((8 : Int) < 3) = false := rfl
theorem n88 : decide ((8 : Int) < 8) = false := rfl
theorem n88e : ((8 : Int) == 8) = true := rfl
theorem n113 : decide ((11 : Int) < 3) = false := rfl
theorem n118 : decide ((11 : Int) < 8) = false := rfl
theorem n118e : ((11 : Int) == 8) = false := rfl
theorem n119e : ((11 : Int) == 9) = false := rfl
theorem n1110e : ((11 : Int) == 10) = false := rfl
theorem t_circle (f : Fq a b) : cP (n + 27) 36 [.int 8, fr a b, .non, .non] h = .ok (crc a b) h := by
  refine cp ?_ rfl rfl h
  refine told_rt (h' := []) ?_ rfl
  have e := p_circle (n := n + 21) (h := []) f
  unfold tryB
  simp only [evSs, s_exp, s_asg, s_par, s_aug, s_ret, s_ife, e_var, e_lit, e_glo, e_neg, e_not, e_bin, e_and, e_or, e_ite, e_cmp, e_chn, e_tup, e_lst, e_sub, e_call, e_blt, e_isi, evEs, evT, evI, List.getElem?_cons_succ, List.getElem?_cons_zero, bind_ok, then_ok, nx_then, rt_then, give_some, Option.map_some, t_int, t_abs, iabs_nat, b_add, b_sub, neg_i, tr_bl, s_fr0, s_fr1, Tg.put, Tg.puts, setsP, List.set_cons_succ, List.set_cons_zero, if_true, if_false, Bool.false_eq_true, Bool.not_true, Bool.not_false, c_lt, c_le, c_gt, c_ge, c_eq, c_ne, isi_t, len2, bind_exc, then_exc, ex_then, n83, n88, n88e, e]
def tv : Option Str → A
  | some s => .tup [.str "paper", .str s]
  | none => .non
theorem t_accept (f : Fq a b) (g : Fq c d) (B : Bw a b c d p q) (hy : 0 < y) (sx : Sz 800 x) (sy : Sz 800 y) : cP (n + 27) 36 [.int 11, fr a b, fr c d, fr x y] h = .ok (tv (verdict a b c d p q x y)) h := by
  have k := k_accept (n := n) f g B hy sx sy
  cases e : verdict a b c d p q x y with
  | none =>
    rw [e] at k
    refine cp ?_ rfl rfl h
    refine told_rt (h' := []) ?_ rfl
    have e := cp k rfl rfl []
    unfold tryB
    simp only [evSs, s_exp, s_asg, s_par, s_aug, s_ret, s_ife, e_var, e_lit, e_glo, e_neg, e_not, e_bin, e_and, e_or, e_ite, e_cmp, e_chn, e_tup, e_lst, e_sub, e_call, e_blt, e_isi, evEs, evT, evI, List.getElem?_cons_succ, List.getElem?_cons_zero, bind_ok, then_ok, nx_then, rt_then, give_some, Option.map_some, t_int, t_abs, iabs_nat, b_add, b_sub, neg_i, tr_bl, s_fr0, s_fr1, Tg.put, Tg.puts, setsP, List.set_cons_succ, List.set_cons_zero, if_true, if_false, Bool.false_eq_true, Bool.not_true, Bool.not_false, c_lt, c_le, c_gt, c_ge, c_eq, c_ne, isi_t, len2, bind_exc, then_exc, ex_then, n113, n118, n118e, n119e, n1110e, e]
    rfl
  | some s =>
    rw [e] at k
    refine cp ?_ rfl rfl h
    have e := cpX k rfl []
    refine told_y (h' := []) (σ := [some (.int 11), some (fr a b), some (fr c d), some (fr x y), none, none]) ?_
    unfold tryB
    simp only [evSs, s_exp, s_asg, s_par, s_aug, s_ret, s_ife, e_var, e_lit, e_glo, e_neg, e_not, e_bin, e_and, e_or, e_ite, e_cmp, e_chn, e_tup, e_lst, e_sub, e_call, e_blt, e_isi, evEs, evT, evI, List.getElem?_cons_succ, List.getElem?_cons_zero, bind_ok, then_ok, nx_then, rt_then, give_some, Option.map_some, t_int, t_abs, iabs_nat, b_add, b_sub, neg_i, tr_bl, s_fr0, s_fr1, Tg.put, Tg.puts, setsP, List.set_cons_succ, List.set_cons_zero, if_true, if_false, Bool.false_eq_true, Bool.not_true, Bool.not_false, c_lt, c_le, c_gt, c_ge, c_eq, c_ne, isi_t, len2, bind_exc, then_exc, ex_then, n113, n118, n118e, n119e, n1110e, e]
theorem t_accept_no {z : A} (hz : noTup z = true) (f : Fq a b) (g : Fq c d) (B : Bw a b c d p q) : cP (n + 27) 36 [.int 11, fr a b, fr c d, z] h = .ok (.tup [.str "paper", .str "form"]) h := by
  have hi : A.inbs 0 [.int 11, fr a b, fr c d, z] = true := by cases z <;> first | (cases hz; done) | rfl
  have hi2 : A.inbs 0 [fr a b, fr c d, z] = true := by cases z <;> first | (cases hz; done) | rfl
  refine cp ?_ hi rfl h
  have e := cpX (k_accept_no (n := n) hz f g B) hi2 []
  refine told_y (h' := []) (σ := [some (.int 11), some (fr a b), some (fr c d), some z, none, none]) ?_
  unfold tryB
  simp only [evSs, s_exp, s_asg, s_par, s_aug, s_ret, s_ife, e_var, e_lit, e_glo, e_neg, e_not, e_bin, e_and, e_or, e_ite, e_cmp, e_chn, e_tup, e_lst, e_sub, e_call, e_blt, e_isi, evEs, evT, evI, List.getElem?_cons_succ, List.getElem?_cons_zero, bind_ok, then_ok, nx_then, rt_then, give_some, Option.map_some, t_int, t_abs, iabs_nat, b_add, b_sub, neg_i, tr_bl, s_fr0, s_fr1, Tg.put, Tg.puts, setsP, List.set_cons_succ, List.set_cons_zero, if_true, if_false, Bool.false_eq_true, Bool.not_true, Bool.not_false, c_lt, c_le, c_gt, c_ge, c_eq, c_ne, isi_t, len2, bind_exc, then_exc, ex_then, n113, n118, n118e, n119e, n1110e, e]
theorem t_acceptX (f : Fq a b) (g : Fq c d) (e : a * d = c * b) : cP (n + 27) 36 [.int 11, fr a b, fr c d, .non] h = .ok (.tup [.str "argument", .str "other"]) h := by
  refine cp ?_ rfl rfl h
  have e := cpX (k_acceptX (n := n) f g e .non) rfl []
  refine told_x (h' := []) (σ := [some (.int 11), some (fr a b), some (fr c d), some .non, none, none]) ?_
  unfold tryB
  simp only [evSs, s_exp, s_asg, s_par, s_aug, s_ret, s_ife, e_var, e_lit, e_glo, e_neg, e_not, e_bin, e_and, e_or, e_ite, e_cmp, e_chn, e_tup, e_lst, e_sub, e_call, e_blt, e_isi, evEs, evT, evI, List.getElem?_cons_succ, List.getElem?_cons_zero, bind_ok, then_ok, nx_then, rt_then, give_some, Option.map_some, t_int, t_abs, iabs_nat, b_add, b_sub, neg_i, tr_bl, s_fr0, s_fr1, Tg.put, Tg.puts, setsP, List.set_cons_succ, List.set_cons_zero, if_true, if_false, Bool.false_eq_true, Bool.not_true, Bool.not_false, c_lt, c_le, c_gt, c_ge, c_eq, c_ne, isi_t, len2, bind_exc, then_exc, ex_then, n113, n118, n118e, n119e, n1110e, e]
end
/-! ### what is shown -/
structure Sh (k w : Nat) (D : PyData) : Prop where
  s : D.showable = true
  n : D.hasDict = false
  d : D.depth ≤ k
  l : D.leavesShort 1000 = true
  w : D.weight ≤ w
structure ShA (k w : Nat) (ds : List PyData) : Prop where
  s : PyData.showableAll ds = true
  n : PyData.hasDictAll ds = false
  d : PyData.depthAll ds ≤ k
  l : PyData.leavesShortAll 1000 ds = true
  w : PyData.weightAll ds ≤ w
theorem ShA.nil {k : Nat} : ShA k 0 [] := ⟨rfl, rfl, Nat.zero_le _, rfl, Nat.le_refl _⟩
theorem ShA.cons {k w v : Nat} {D : PyData} {ds : List PyData} (h : Sh k w D) (g : ShA k v ds) : ShA k (w + 1 + v) (D :: ds) := by
  obtain ⟨h1, h2, h3, h4, h5⟩ := h
  obtain ⟨g1, g2, g3, g4, g5⟩ := g
  refine ⟨?_, ?_, ?_, ?_, ?_⟩
  · simp only [PyData.showableAll, h1, g1, Bool.and_self]
  · simp only [PyData.hasDictAll, h2, g2, Bool.or_self]
  · simp only [PyData.depthAll]
    exact Nat.max_le.mpr ⟨h3, g3⟩
  · simp only [PyData.leavesShortAll, h4, g4, Bool.and_self]
  · simp only [PyData.weightAll]
    omega
theorem Sh.tup {k w : Nat} {ds : List PyData} (g : ShA k w ds) : Sh (k + 1) w (.tuple ds) := by
  obtain ⟨g1, g2, g3, g4, g5⟩ := g
  exact ⟨by simpa only [PyData.showable] using g1, by simpa only [PyData.hasDict] using g2, by simp only [PyData.depth]; omega, by simpa only [PyData.leavesShort] using g4, by simpa only [PyData.weight] using g5⟩
theorem Sh.lst {k w : Nat} {ds : List PyData} (g : ShA k w ds) : Sh (k + 1) w (.list ds) := by
  obtain ⟨g1, g2, g3, g4, g5⟩ := g
  exact ⟨by simpa only [PyData.showable] using g1, by simpa only [PyData.hasDict] using g2, by simp only [PyData.depth]; omega, by simpa only [PyData.leavesShort] using g4, by simpa only [PyData.weight] using g5⟩
theorem Sh.bool (b : Bool) {k : Nat} : Sh k 0 (.bool b) := ⟨rfl, rfl, Nat.zero_le _, rfl, Nat.le_refl _⟩
theorem big10 : 2 ^ 1900 < 10 ^ 999 := by decide +kernel
theorem Sh.int {i : Int} (h : Sz 1900 i) {k : Nat} : Sh k 1901 (.int i) := by
  have hl := h.log
  refine ⟨?_, rfl, Nat.zero_le _, ?_, ?_⟩
  · simp only [PyData.showable]
    exact decide_eq_true (by omega)
  · simp only [PyData.leavesShort]
    refine decide_eq_true ?_
    have e := PySem.int_text_length_le10 (a := i) (k := 999) (by decide) (Nat.lt_trans h big10)
    show (Str.ofString (toString i)).length ≤ 1000
    rw [ofString_length]
    exact e
  · simp only [PyData.weight]
    split <;> omega
theorem Sh.str {x : Str} {k : Nat} (h : (x.cps.size ≤ 100 ∧ (x.cps.toList.all fun c => decide (c < 16 ^ 8)) = true)) : Sh k 100 (.str x) := ⟨rfl, rfl, Nat.zero_le _, by simp only [PyData.leavesShort]; exact h.2, by simp only [PyData.weight]; exact h.1⟩
theorem Sh.frac {x y : Int} (h : Sz 1900 x) (g : Sz 1900 y) {k : Nat} : Sh (k + 1) 3804 (.tuple [.int x, .int y]) := Sh.tup (ShA.cons (.int h) (ShA.cons (.int g) .nil))
theorem Sh.cond {k w : Nat} {D : PyData} (h : Sh k w D) (hk : k ≤ 64 := by decide) (hw : w ≤ 16000 := by decide) : (D.showable && !D.hasDict && Nat.ble D.depth 64 && lineOk D.shown.length) = true := by
  have hl := PyData.shown_le 1000 (by decide) D h.l
  have hd := h.d
  have hww := h.w
  have h1 : (1000 + 2) * D.weight ≤ 1002 * 16000 := Nat.mul_le_mul_left _ (by omega)
  rw [h.s, h.n, line_small (by omega)]
  rw [show Nat.ble D.depth 64 = true from Nat.ble_eq_true_of_le (by omega)]
  rfl
theorem shows {h : Ho} {u : A} {D : PyData} {k w : Nat} (hu : dataOf h u = some D) (S : Sh k w D) (hk : k ≤ 64 := by decide) (hw : w ≤ 16000 := by decide) : bltA .repr [u] h = .ok (.str D.shown) h := by
  show (match dataOf h u with
    | some d => if d.showable && !d.hasDict && Nat.ble d.depth 64 && lineOk d.shown.length then R.ok (A.str d.shown) h else .err
    | none => .err) = _
  rw [hu]
  dsimp only
  rw [if_pos (S.cond hk hw)]
theorem ne_str (s : Str) (h : Ho) : cmpA .NotEq (.str s) (.str s) h = some false := by
  show (some (s == s)).map (!·) = _
  rw [beq_self_eq_true]
  rfl
theorem data_lst {h : Ho} {m : Nat} {xs : List A} {ds : List PyData} (e : seqOf h m = some xs) (ed : optMap (toD h 11) xs = some ds) : dataOf h (.ref m) = some (.list ds) := by
  show (match seqOf h m with
      | some xs => (optMap (toD h 11) xs).map PyData.list
      | none => none) = _
  rw [e]
  show (optMap (toD h 11) xs).map PyData.list = _
  rw [ed]
  rfl
/-! ### the objects around: the draws, the script's part, the place, and what was made -/
def hp (ds ns : List Int) (p : Nat) (g : Ho) : Ho := .lst (nums ds) :: .lst (nums ns) :: .lst [.int p] :: g
structure Dz (ds : List Int) : Prop where
  d : ∀ d ∈ ds, Dn d
  l : ds.length ≤ 4000
theorem dr : Dr pg 31 32 33 := ⟨⟨_, _, rfl, rfl⟩, ⟨_, _, rfl, rfl⟩, ⟨_, _, rfl, rfl⟩⟩
section
variable {n p : Nat} {ds ns : List Int} {g l : Ho} {xs : List A}
theorem at2 (z : Dz ds) (hp' : p < 2 ^ 20) : At2 (hp ds ns p g) 0 2 ds p := ⟨rfl, rfl, by decide, z.d, by have := z.l; omega, hp'⟩
theorem hp_len : (hp ds ns p (g ++ l)).length = g.length + 3 + l.length := by
  unfold hp
  simp only [List.length_cons, List.length_append]
  omega
theorem new_hp : newL xs (hp ds ns p (g ++ l)) = .ok (.ref (g.length + 3 + l.length)) (hp ds ns p (g ++ (l ++ [.lst xs]))) := by
  unfold newL
  rw [hp_len]
  unfold hp
  simp only [List.cons_append, List.append_assoc]
theorem get_hp (i : Nat) : (hp ds ns p (g ++ l))[g.length + 3 + i]? = l[i]? := by
  unfold hp
  rw [show g.length + 3 + i = g.length + i + 1 + 1 + 1 by omega]
  simp only [List.getElem?_cons_succ]
  rw [List.getElem?_append_right (by omega)]
  congr 1
  omega
theorem seq_hp {i : Nat} {ys : List A} (h : l[i]? = some (.lst ys)) : seqOf (hp ds ns p (g ++ l)) (g.length + 3 + i) = some ys := by
  unfold seqOf
  rw [get_hp, h]
  rfl
theorem p_take (z : Dz ds) (hp' : p < 2 ^ 20) {m : Int} (hm : 0 < m) : ∃ v : Int, 0 ≤ v ∧ v < m ∧ cP (n + 2) 32 [.ref 0, .ref 2, .int m] (hp ds ns p g) = .ok (.int v) (hp ds ns (p + 1) g) := by
  obtain ⟨v, v1, v2, e⟩ := take_ok (P := pg) (F := 4000) (n := n) (m := m) dr (at2 (ns := ns) (g := g) z hp') hm
  refine ⟨v, v1, v2, ?_⟩
  show callP _ _ _ _ = _
  rw [callP_ref (by rfl)]
  exact e
theorem p_one (z : Dz ds) (hp' : p < 2 ^ 20) {i : Nat} (hl : l[i]? = some (.lst xs)) (hne : 0 < xs.length) : ∃ x ∈ xs, cP (n + 3) 33 [.ref (g.length + 3 + i), .ref 0, .ref 2] (hp ds ns p (g ++ l)) = .ok x (hp ds ns (p + 1) (g ++ l)) := by
  obtain ⟨t, ht, e⟩ := one_ok (P := pg) (F := 4000) (n := n) (q := g.length + 3 + i) (xs := xs) dr (at2 (ns := ns) (g := g ++ l) z hp') (seq_hp hl) (by omega) hne
  refine ⟨xs[t], List.getElem_mem ht, ?_⟩
  show callP _ _ _ _ = _
  rw [callP_ref (by
    show (decide (g.length + 3 + i < 0) && _) = false
    rw [decide_eq_false (Nat.not_lt_zero _)]
    rfl)]
  exact e
end
end My

/-! text Q9 -/
set_option Elab.async false
set_option linter.all false
set_option maxRecDepth 100000
set_option maxHeartbeats 4000000
/-! k46: the law of a pair, up to its loop -/
namespace My
open PySem Ev Pl
theorem e_comp (C : Nat → List A → Ho → R A) (σ : Sl) (h : Ho) (elt : E) (g : Tg) (it : I) (c : T) (own : List Nat) : evE C (.comp elt g it c own) σ h = (evI C it σ h).bind fun w h =>
      (compL w.2 (fun x h => match Tg.put g x (wipe σ own) with
        | some σ' => (evT C c σ' h).calm.bind fun k h => if k then (evE C elt σ' h).calm.bind fun y h => .ok (some y) h else .ok none h
        | none => .err) w.1 h).bind fun ys h => if lineOk ys.length then newL ys h else .err := by rw [evE] <;> rfl
theorem calm_ok {α : Type} (a : α) (h : Ho) : (R.ok a h).calm = .ok a h := rfl
theorem ln2 (x y : A) : lineOk [x, y].length = true := rfl
theorem ln4 (x y z w : A) : lineOk [x, y, z, w].length = true := rfl
theorem walk_tup (xs : List A) (h : Ho) : walkSq (.tup xs) h = some (xs, []) := rfl
section
variable {n pl : Nat} {a b c d p q x y : Int} {ds ns : List Int} {g l : Ho}

theorem pr1 (f : Fq a b) (k : Fq c d) (h : Ho) : evS pg 4000 (cP (n + 28)) (.asg (.nm 4) (.bin .Sub (.bin .Mult (.sub (.var 0) (.lit (.int 0))) (.sub (.var 1) (.lit (.int 1)))) (.bin .Mult (.sub (.var 1) (.lit (.int 0))) (.sub (.var 0) (.lit (.int 1)))))) [some (fr a b), some (fr c d), some (.ref 0), some (.ref 2), none, none, none, none, none, none, none, none, none, none, none, none, none, none] h = .nx [some (fr a b), some (fr c d), some (.ref 0), some (.ref 2), some (.int (a * d - c * b)), none, none, none, none, none, none, none, none, none, none, none, none, none] h := by
  simp only [evSs, s_exp, s_asg, s_par, s_aug, s_ret, s_ife, e_var, e_lit, e_glo, e_neg, e_not, e_bin, e_and, e_or, e_ite, e_cmp, e_chn, e_tup, e_lst, e_sub, e_call, e_blt, e_isi, evEs, evT, evI, List.getElem?_cons_succ, List.getElem?_cons_zero, bind_ok, then_ok, nx_then, rt_then, give_some, Option.map_some, t_int, t_abs, iabs_nat, b_add, b_sub, neg_i, tr_bl, s_fr0, s_fr1, Tg.put, Tg.puts, setsP, List.set_cons_succ, List.set_cons_zero, if_true, if_false, Bool.false_eq_true, Bool.not_true, Bool.not_false, c_lt, c_le, c_gt, c_ge, c_eq, c_ne, isi_t, len2, bind_exc, then_exc, ex_then, b_mul (f.sa.mulOk k.sb), b_mul (k.sa.mulOk f.sb)]
theorem pr2 (f : Fq a b) (k : Fq c d) : evS pg 4000 (cP (n + 28)) (.asg (.nm 5) (.comp (.lst [.sub (.var 6) (.lit (.int 0)), .call 35 [.lit (.int 1), .bin .Mult (.bin .Mult (.lit (.int 2)) (.sub (.var 6) (.lit (.int 1)))) (.sub (.var 6) (.lit (.int 1)))]]) (.nm 6) (.sq (.tup [.var 0, .var 1])) (.yes) [6])) [some (fr a b), some (fr c d), some (.ref 0), some (.ref 2), some (.int (a * d - c * b)), none, none, none, none, none, none, none, none, none, none, none, none, none] (hp ds ns pl (g ++ [])) = .nx [some (fr a b), some (fr c d), some (.ref 0), some (.ref 2), some (.int (a * d - c * b)), some (.ref (g.length + 5)), none, none, none, none, none, none, none, none, none, none, none, none] (hp ds ns pl (g ++ [O.lst [.int a, fr 1 (2 * b * b)], O.lst [.int c, fr 1 (2 * d * d)], O.lst [.ref (g.length + 3), .ref (g.length + 4)]])) := by
  have N0 : newL [.int a, fr 1 (2 * b * b)] (hp ds ns pl (g ++ [])) = .ok (.ref (g.length + 3)) (hp ds ns pl (g ++ [O.lst [.int a, fr 1 (2 * b * b)]])) := new_hp (l := [])
  have N1 : newL [.int c, fr 1 (2 * d * d)] (hp ds ns pl (g ++ [O.lst [.int a, fr 1 (2 * b * b)]])) = .ok (.ref (g.length + 4)) (hp ds ns pl (g ++ [O.lst [.int a, fr 1 (2 * b * b)], O.lst [.int c, fr 1 (2 * d * d)]])) := new_hp (l := [O.lst [.int a, fr 1 (2 * b * b)]])
  have N2 : newL [.ref (g.length + 3), .ref (g.length + 4)] (hp ds ns pl (g ++ [O.lst [.int a, fr 1 (2 * b * b)], O.lst [.int c, fr 1 (2 * d * d)]])) = .ok (.ref (g.length + 5)) (hp ds ns pl (g ++ [O.lst [.int a, fr 1 (2 * b * b)], O.lst [.int c, fr 1 (2 * d * d)], O.lst [.ref (g.length + 3), .ref (g.length + 4)]])) := new_hp (l := [O.lst [.int a, fr 1 (2 * b * b)], O.lst [.int c, fr 1 (2 * d * d)]])
  simp only [evSs, s_exp, s_asg, s_par, s_aug, s_ret, s_ife, e_var, e_lit, e_glo, e_neg, e_not, e_bin, e_and, e_or, e_ite, e_cmp, e_chn, e_tup, e_lst, e_sub, e_call, e_blt, e_isi, evEs, evT, evI, List.getElem?_cons_succ, List.getElem?_cons_zero, bind_ok, then_ok, nx_then, rt_then, give_some, Option.map_some, t_int, t_abs, iabs_nat, b_add, b_sub, neg_i, tr_bl, s_fr0, s_fr1, Tg.put, Tg.puts, setsP, List.set_cons_succ, List.set_cons_zero, if_true, if_false, Bool.false_eq_true, Bool.not_true, Bool.not_false, c_lt, c_le, c_gt, c_ge, c_eq, c_ne, isi_t, len2, bind_exc, then_exc, ex_then, e_comp, walk_tup, compL, still0, wipe, calm_ok, b_mul (sz2.mulOk f.sb), b_mul (sz2.mulOk k.sb), b_mul ((sz2.mul f.sb).mulOk f.sb), b_mul ((sz2.mul k.sb).mulOk k.sb), p_lmade1 (half_pos f.po) f.s2.mono, p_lmade1 (half_pos k.po) k.s2.mono, N0, N1, N2, ln2]
theorem pr3 (f : Fq a b) (k : Fq c d) (h : Ho) : evS pg 4000 (cP (n + 28)) (.asg (.nm 7) (.call 40 [.var 0, .var 1])) [some (fr a b), some (fr c d), some (.ref 0), some (.ref 2), some (.int (a * d - c * b)), some (.ref (g.length + 5)), none, none, none, none, none, none, none, none, none, none, none, none] h = .nx [some (fr a b), some (fr c d), some (.ref 0), some (.ref 2), some (.int (a * d - c * b)), some (.ref (g.length + 5)), none, some (fr (top1 (a * d - c * b) (b * d)) (und1 (a * d - c * b) (b * d))), none, none, none, none, none, none, none, none, none, none] h := by
  simp only [evSs, s_exp, s_asg, s_par, s_aug, s_ret, s_ife, e_var, e_lit, e_glo, e_neg, e_not, e_bin, e_and, e_or, e_ite, e_cmp, e_chn, e_tup, e_lst, e_sub, e_call, e_blt, e_isi, evEs, evT, evI, List.getElem?_cons_succ, List.getElem?_cons_zero, bind_ok, then_ok, nx_then, rt_then, give_some, Option.map_some, t_int, t_abs, iabs_nat, b_add, b_sub, neg_i, tr_bl, s_fr0, s_fr1, Tg.put, Tg.puts, setsP, List.set_cons_succ, List.set_cons_zero, if_true, if_false, Bool.false_eq_true, Bool.not_true, Bool.not_false, c_lt, c_le, c_gt, c_ge, c_eq, c_ne, isi_t, len2, bind_exc, then_exc, ex_then, p_less f.po k.po f.sa.mono f.sb.mono k.sa.mono k.sb.mono]
theorem pr4 (f : Fq a b) (k : Fq c d) : evS pg 4000 (cP (n + 28)) (.asg (.nm 8) (.comp (.tup [.lit (.int 1), .bin .Mult (.bin .Mult (.lit (.int 2)) (.sub (.var 6) (.lit (.int 1)))) (.sub (.var 6) (.lit (.int 1)))]) (.nm 6) (.sq (.tup [.var 0, .var 1])) (.yes) [6])) [some (fr a b), some (fr c d), some (.ref 0), some (.ref 2), some (.int (a * d - c * b)), some (.ref (g.length + 5)), none, some (fr (top1 (a * d - c * b) (b * d)) (und1 (a * d - c * b) (b * d))), none, none, none, none, none, none, none, none, none, none] (hp ds ns pl (g ++ [O.lst [.int a, fr 1 (2 * b * b)], O.lst [.int c, fr 1 (2 * d * d)], O.lst [.ref (g.length + 3), .ref (g.length + 4)]])) = .nx [some (fr a b), some (fr c d), some (.ref 0), some (.ref 2), some (.int (a * d - c * b)), some (.ref (g.length + 5)), none, some (fr (top1 (a * d - c * b) (b * d)) (und1 (a * d - c * b) (b * d))), some (.ref (g.length + 6)), none, none, none, none, none, none, none, none, none] (hp ds ns pl (g ++ [O.lst [.int a, fr 1 (2 * b * b)], O.lst [.int c, fr 1 (2 * d * d)], O.lst [.ref (g.length + 3), .ref (g.length + 4)], O.lst [fr 1 (2 * b * b), fr 1 (2 * d * d)]])) := by
  have N3 : newL [fr 1 (2 * b * b), fr 1 (2 * d * d)] (hp ds ns pl (g ++ [O.lst [.int a, fr 1 (2 * b * b)], O.lst [.int c, fr 1 (2 * d * d)], O.lst [.ref (g.length + 3), .ref (g.length + 4)]])) = .ok (.ref (g.length + 6)) (hp ds ns pl (g ++ [O.lst [.int a, fr 1 (2 * b * b)], O.lst [.int c, fr 1 (2 * d * d)], O.lst [.ref (g.length + 3), .ref (g.length + 4)], O.lst [fr 1 (2 * b * b), fr 1 (2 * d * d)]])) := new_hp (l := [O.lst [.int a, fr 1 (2 * b * b)], O.lst [.int c, fr 1 (2 * d * d)], O.lst [.ref (g.length + 3), .ref (g.length + 4)]])
  simp only [evSs, s_exp, s_asg, s_par, s_aug, s_ret, s_ife, e_var, e_lit, e_glo, e_neg, e_not, e_bin, e_and, e_or, e_ite, e_cmp, e_chn, e_tup, e_lst, e_sub, e_call, e_blt, e_isi, evEs, evT, evI, List.getElem?_cons_succ, List.getElem?_cons_zero, bind_ok, then_ok, nx_then, rt_then, give_some, Option.map_some, t_int, t_abs, iabs_nat, b_add, b_sub, neg_i, tr_bl, s_fr0, s_fr1, Tg.put, Tg.puts, setsP, List.set_cons_succ, List.set_cons_zero, if_true, if_false, Bool.false_eq_true, Bool.not_true, Bool.not_false, c_lt, c_le, c_gt, c_ge, c_eq, c_ne, isi_t, len2, bind_exc, then_exc, ex_then, e_comp, walk_tup, compL, still0, wipe, calm_ok, b_mul (sz2.mulOk f.sb), b_mul (sz2.mulOk k.sb), b_mul ((sz2.mul f.sb).mulOk f.sb), b_mul ((sz2.mul k.sb).mulOk k.sb), N3, ln2]
theorem gap_s (f : Fq a b) (k : Fq c d) : Sz 91 (gapN (top1 (a * d - c * b) (b * d)) (und1 (a * d - c * b) (b * d)) b d) ∧ Sz 80 (gapD (und1 (a * d - c * b) (b * d)) b d) ∧ 0 < gapD (und1 (a * d - c * b) (b * d)) b d := by
  have hbd := Int.mul_pos f.po k.po
  have s1 : Sz 25 (top1 (a * d - c * b) (b * d)) := Sz.top hbd ((f.sa.mul k.sb).sub (k.sa.mul f.sb))
  have t1 : Sz 20 (und1 (a * d - c * b) (b * d)) := Sz.und hbd (f.sb.mul k.sb)
  have u1 : 0 < und1 (a * d - c * b) (b * d) := und_pos hbd
  unfold gapN gapD
  exact ⟨((((((s1.mul s1).mul f.sb).mul f.sb).mul k.sb).mul k.sb).mono (l := 90)).sub ((t1.mul t1).mono (l := 90)), ((((t1.mul t1).mul f.sb).mul f.sb).mul k.sb).mul k.sb, Int.mul_pos (Int.mul_pos (Int.mul_pos (Int.mul_pos (Int.mul_pos u1 u1) f.po) f.po) k.po) k.po⟩
theorem pr5 (f : Fq a b) (k : Fq c d) (h : Ho) : evS pg 4000 (cP (n + 28)) (.asg (.nm 9) (.call 35 [.bin .Sub (.bin .Mult (.bin .Mult (.bin .Mult (.bin .Mult (.bin .Mult (.sub (.var 7) (.lit (.int 0))) (.sub (.var 7) (.lit (.int 0)))) (.sub (.var 0) (.lit (.int 1)))) (.sub (.var 0) (.lit (.int 1)))) (.sub (.var 1) (.lit (.int 1)))) (.sub (.var 1) (.lit (.int 1)))) (.bin .Mult (.sub (.var 7) (.lit (.int 1))) (.sub (.var 7) (.lit (.int 1)))), .bin .Mult (.bin .Mult (.bin .Mult (.bin .Mult (.bin .Mult (.sub (.var 7) (.lit (.int 1))) (.sub (.var 7) (.lit (.int 1)))) (.sub (.var 0) (.lit (.int 1)))) (.sub (.var 0) (.lit (.int 1)))) (.sub (.var 1) (.lit (.int 1)))) (.sub (.var 1) (.lit (.int 1)))])) [some (fr a b), some (fr c d), some (.ref 0), some (.ref 2), some (.int (a * d - c * b)), some (.ref (g.length + 5)), none, some (fr (top1 (a * d - c * b) (b * d)) (und1 (a * d - c * b) (b * d))), some (.ref (g.length + 6)), none, none, none, none, none, none, none, none, none] h = .nx [some (fr a b), some (fr c d), some (.ref 0), some (.ref 2), some (.int (a * d - c * b)), some (.ref (g.length + 5)), none, some (fr (top1 (a * d - c * b) (b * d)) (und1 (a * d - c * b) (b * d))), some (.ref (g.length + 6)), some (gap a b c d), none, none, none, none, none, none, none, none] h := by
  have hbd := Int.mul_pos f.po k.po
  have s1 : Sz 25 (top1 (a * d - c * b) (b * d)) := Sz.top hbd ((f.sa.mul k.sb).sub (k.sa.mul f.sb))
  have t1 : Sz 20 (und1 (a * d - c * b) (b * d)) := Sz.und hbd (f.sb.mul k.sb)
  obtain ⟨z1, z2, z3⟩ := gap_s f k
  have mk := p_lmade (n := n + 26) (h := h) (a := gapN (top1 (a * d - c * b) (b * d)) (und1 (a * d - c * b) (b * d)) b d) z3 z2.mono
  unfold gap
  unfold gapN gapD at mk ⊢
  generalize top1 (a * d - c * b) (b * d) = p1 at *
  generalize und1 (a * d - c * b) (b * d) = q1 at *
  simp only [evSs, s_exp, s_asg, s_par, s_aug, s_ret, s_ife, e_var, e_lit, e_glo, e_neg, e_not, e_bin, e_and, e_or, e_ite, e_cmp, e_chn, e_tup, e_lst, e_sub, e_call, e_blt, e_isi, evEs, evT, evI, List.getElem?_cons_succ, List.getElem?_cons_zero, bind_ok, then_ok, nx_then, rt_then, give_some, Option.map_some, t_int, t_abs, iabs_nat, b_add, b_sub, neg_i, tr_bl, s_fr0, s_fr1, Tg.put, Tg.puts, setsP, List.set_cons_succ, List.set_cons_zero, if_true, if_false, Bool.false_eq_true, Bool.not_true, Bool.not_false, c_lt, c_le, c_gt, c_ge, c_eq, c_ne, isi_t, len2, bind_exc, then_exc, ex_then, b_mul (s1.mulOk s1), b_mul ((s1.mul s1).mulOk f.sb), b_mul (((s1.mul s1).mul f.sb).mulOk f.sb), b_mul ((((s1.mul s1).mul f.sb).mul f.sb).mulOk k.sb), b_mul (((((s1.mul s1).mul f.sb).mul f.sb).mul k.sb).mulOk k.sb), b_mul (t1.mulOk t1), b_mul ((t1.mul t1).mulOk f.sb), b_mul (((t1.mul t1).mul f.sb).mulOk f.sb), b_mul ((((t1.mul t1).mul f.sb).mul f.sb).mulOk k.sb), b_mul (((((t1.mul t1).mul f.sb).mul f.sb).mul k.sb).mulOk k.sb), mk]
theorem pr6 (f : Fq a b) (k : Fq c d) (B : Bo a b c d p q) : evS pg 4000 (cP (n + 28)) (.asg (.nm 10) (.lst [.cmp .Eq (.blt .abs [.var 4]) (.lit (.int 1)), .ite (.val (.cmp .Eq (.var 4) (.lit (.int 0)))) (.lit (.str "same")) (.ite (.val (.cmp .Eq (.blt .abs [.var 4]) (.lit (.int 1)))) (.lit (.str "touch")) (.lit (.str "apart"))), .var 9, .ite (.val (.cmp .Eq (.var 4) (.lit (.int 0)))) (.tup [.lit (.str "argument"), .lit (.str "other")]) (.call 42 [.var 0, .var 1])])) [some (fr a b), some (fr c d), some (.ref 0), some (.ref 2), some (.int (a * d - c * b)), some (.ref (g.length + 5)), none, some (fr (top1 (a * d - c * b) (b * d)) (und1 (a * d - c * b) (b * d))), some (.ref (g.length + 6)), some (gap a b c d), none, none, none, none, none, none, none, none] (hp ds ns pl (g ++ [O.lst [.int a, fr 1 (2 * b * b)], O.lst [.int c, fr 1 (2 * d * d)], O.lst [.ref (g.length + 3), .ref (g.length + 4)], O.lst [fr 1 (2 * b * b), fr 1 (2 * d * d)]])) = .nx [some (fr a b), some (fr c d), some (.ref 0), some (.ref 2), some (.int (a * d - c * b)), some (.ref (g.length + 5)), none, some (fr (top1 (a * d - c * b) (b * d)) (und1 (a * d - c * b) (b * d))), some (.ref (g.length + 6)), some (gap a b c d), some (.ref (g.length + 7)), none, none, none, none, none, none, none] (hp ds ns pl (g ++ [O.lst [.int a, fr 1 (2 * b * b)], O.lst [.int c, fr 1 (2 * d * d)], O.lst [.ref (g.length + 3), .ref (g.length + 4)], O.lst [fr 1 (2 * b * b), fr 1 (2 * d * d)], O.lst [.bl (((a * d - c * b).natAbs : Int) == 1), .str (plc a b c d), gap a b c d, btw a b c d p q]])) := by
  have N4 : newL [.bl (((a * d - c * b).natAbs : Int) == 1), .str (plc a b c d), gap a b c d, btw a b c d p q] (hp ds ns pl (g ++ [O.lst [.int a, fr 1 (2 * b * b)], O.lst [.int c, fr 1 (2 * d * d)], O.lst [.ref (g.length + 3), .ref (g.length + 4)], O.lst [fr 1 (2 * b * b), fr 1 (2 * d * d)]])) = .ok (.ref (g.length + 7)) (hp ds ns pl (g ++ [O.lst [.int a, fr 1 (2 * b * b)], O.lst [.int c, fr 1 (2 * d * d)], O.lst [.ref (g.length + 3), .ref (g.length + 4)], O.lst [fr 1 (2 * b * b), fr 1 (2 * d * d)], O.lst [.bl (((a * d - c * b).natAbs : Int) == 1), .str (plc a b c d), gap a b c d, btw a b c d p q]])) := new_hp (l := [O.lst [.int a, fr 1 (2 * b * b)], O.lst [.int c, fr 1 (2 * d * d)], O.lst [.ref (g.length + 3), .ref (g.length + 4)], O.lst [fr 1 (2 * b * b), fr 1 (2 * d * d)]])
  generalize (hp ds ns pl (g ++ [O.lst [.int a, fr 1 (2 * b * b)], O.lst [.int c, fr 1 (2 * d * d)], O.lst [.ref (g.length + 3), .ref (g.length + 4)], O.lst [fr 1 (2 * b * b), fr 1 (2 * d * d)]])) = h at *
  have f1 : evE (cP (n + 28)) (.cmp .Eq (.blt .abs [.var 4]) (.lit (.int 1))) [some (fr a b), some (fr c d), some (.ref 0), some (.ref 2), some (.int (a * d - c * b)), some (.ref (g.length + 5)), none, some (fr (top1 (a * d - c * b) (b * d)) (und1 (a * d - c * b) (b * d))), some (.ref (g.length + 6)), some (gap a b c d), none, none, none, none, none, none, none, none] h = .ok (.bl (((a * d - c * b).natAbs : Int) == 1)) h := by simp only [evSs, s_exp, s_asg, s_par, s_aug, s_ret, s_ife, e_var, e_lit, e_glo, e_neg, e_not, e_bin, e_and, e_or, e_ite, e_cmp, e_chn, e_tup, e_lst, e_sub, e_call, e_blt, e_isi, evEs, evT, evI, List.getElem?_cons_succ, List.getElem?_cons_zero, bind_ok, then_ok, nx_then, rt_then, give_some, Option.map_some, t_int, t_abs, iabs_nat, b_add, b_sub, neg_i, tr_bl, s_fr0, s_fr1, Tg.put, Tg.puts, setsP, List.set_cons_succ, List.set_cons_zero, if_true, if_false, Bool.false_eq_true, Bool.not_true, Bool.not_false, c_lt, c_le, c_gt, c_ge, c_eq, c_ne, isi_t, len2, bind_exc, then_exc, ex_then]
  have f2 : evE (cP (n + 28)) (.ite (.val (.cmp .Eq (.var 4) (.lit (.int 0)))) (.lit (.str "same")) (.ite (.val (.cmp .Eq (.blt .abs [.var 4]) (.lit (.int 1)))) (.lit (.str "touch")) (.lit (.str "apart")))) [some (fr a b), some (fr c d), some (.ref 0), some (.ref 2), some (.int (a * d - c * b)), some (.ref (g.length + 5)), none, some (fr (top1 (a * d - c * b) (b * d)) (und1 (a * d - c * b) (b * d))), some (.ref (g.length + 6)), some (gap a b c d), none, none, none, none, none, none, none, none] h = .ok (.str (plc a b c d)) h := by
    unfold plc
    have nc : (c * b - a * d).natAbs = (a * d - c * b).natAbs := by omega
    rw [nc]
    by_cases e : a * d = c * b
    · rw [if_pos e]
      simp only [evSs, s_exp, s_asg, s_par, s_aug, s_ret, s_ife, e_var, e_lit, e_glo, e_neg, e_not, e_bin, e_and, e_or, e_ite, e_cmp, e_chn, e_tup, e_lst, e_sub, e_call, e_blt, e_isi, evEs, evT, evI, List.getElem?_cons_succ, List.getElem?_cons_zero, bind_ok, then_ok, nx_then, rt_then, give_some, Option.map_some, t_int, t_abs, iabs_nat, b_add, b_sub, neg_i, tr_bl, s_fr0, s_fr1, Tg.put, Tg.puts, setsP, List.set_cons_succ, List.set_cons_zero, if_true, if_false, Bool.false_eq_true, Bool.not_true, Bool.not_false, c_lt, c_le, c_gt, c_ge, c_eq, c_ne, isi_t, len2, bind_exc, then_exc, ex_then, show ((a * d - c * b) == 0) = true from beq_iff_eq.mpr (by omega)]
    · rw [if_neg e]
      by_cases e2 : ((a * d - c * b).natAbs : Int) = 1
      · rw [if_pos e2]
        simp only [evSs, s_exp, s_asg, s_par, s_aug, s_ret, s_ife, e_var, e_lit, e_glo, e_neg, e_not, e_bin, e_and, e_or, e_ite, e_cmp, e_chn, e_tup, e_lst, e_sub, e_call, e_blt, e_isi, evEs, evT, evI, List.getElem?_cons_succ, List.getElem?_cons_zero, bind_ok, then_ok, nx_then, rt_then, give_some, Option.map_some, t_int, t_abs, iabs_nat, b_add, b_sub, neg_i, tr_bl, s_fr0, s_fr1, Tg.put, Tg.puts, setsP, List.set_cons_succ, List.set_cons_zero, if_true, if_false, Bool.false_eq_true, Bool.not_true, Bool.not_false, c_lt, c_le, c_gt, c_ge, c_eq, c_ne, isi_t, len2, bind_exc, then_exc, ex_then, show ((a * d - c * b) == 0) = false from beq_eq_false_iff_ne.mpr (by omega), beq_iff_eq.mpr e2]
      · rw [if_neg e2]
        simp only [evSs, s_exp, s_asg, s_par, s_aug, s_ret, s_ife, e_var, e_lit, e_glo, e_neg, e_not, e_bin, e_and, e_or, e_ite, e_cmp, e_chn, e_tup, e_lst, e_sub, e_call, e_blt, e_isi, evEs, evT, evI, List.getElem?_cons_succ, List.getElem?_cons_zero, bind_ok, then_ok, nx_then, rt_then, give_some, Option.map_some, t_int, t_abs, iabs_nat, b_add, b_sub, neg_i, tr_bl, s_fr0, s_fr1, Tg.put, Tg.puts, setsP, List.set_cons_succ, List.set_cons_zero, if_true, if_false, Bool.false_eq_true, Bool.not_true, Bool.not_false, c_lt, c_le, c_gt, c_ge, c_eq, c_ne, isi_t, len2, bind_exc, then_exc, ex_then, show ((a * d - c * b) == 0) = false from beq_eq_false_iff_ne.mpr (by omega), beq_eq_false_iff_ne.mpr e2]
  have f3 : evE (cP (n + 28)) (.var 9) [some (fr a b), some (fr c d), some (.ref 0), some (.ref 2), some (.int (a * d - c * b)), some (.ref (g.length + 5)), none, some (fr (top1 (a * d - c * b) (b * d)) (und1 (a * d - c * b) (b * d))), some (.ref (g.length + 6)), some (gap a b c d), none, none, none, none, none, none, none, none] h = .ok (gap a b c d) h := by simp only [evSs, s_exp, s_asg, s_par, s_aug, s_ret, s_ife, e_var, e_lit, e_glo, e_neg, e_not, e_bin, e_and, e_or, e_ite, e_cmp, e_chn, e_tup, e_lst, e_sub, e_call, e_blt, e_isi, evEs, evT, evI, List.getElem?_cons_succ, List.getElem?_cons_zero, bind_ok, then_ok, nx_then, rt_then, give_some, Option.map_some, t_int, t_abs, iabs_nat, b_add, b_sub, neg_i, tr_bl, s_fr0, s_fr1, Tg.put, Tg.puts, setsP, List.set_cons_succ, List.set_cons_zero, if_true, if_false, Bool.false_eq_true, Bool.not_true, Bool.not_false, c_lt, c_le, c_gt, c_ge, c_eq, c_ne, isi_t, len2, bind_exc, then_exc, ex_then]
  have f4 : evE (cP (n + 28)) (.ite (.val (.cmp .Eq (.var 4) (.lit (.int 0)))) (.tup [.lit (.str "argument"), .lit (.str "other")]) (.call 42 [.var 0, .var 1])) [some (fr a b), some (fr c d), some (.ref 0), some (.ref 2), some (.int (a * d - c * b)), some (.ref (g.length + 5)), none, some (fr (top1 (a * d - c * b) (b * d)) (und1 (a * d - c * b) (b * d))), some (.ref (g.length + 6)), some (gap a b c d), none, none, none, none, none, none, none, none] h = .ok (btw a b c d p q) h := by
    unfold btw
    by_cases e : a * d = c * b
    · rw [if_pos e]
      simp only [evSs, s_exp, s_asg, s_par, s_aug, s_ret, s_ife, e_var, e_lit, e_glo, e_neg, e_not, e_bin, e_and, e_or, e_ite, e_cmp, e_chn, e_tup, e_lst, e_sub, e_call, e_blt, e_isi, evEs, evT, evI, List.getElem?_cons_succ, List.getElem?_cons_zero, bind_ok, then_ok, nx_then, rt_then, give_some, Option.map_some, t_int, t_abs, iabs_nat, b_add, b_sub, neg_i, tr_bl, s_fr0, s_fr1, Tg.put, Tg.puts, setsP, List.set_cons_succ, List.set_cons_zero, if_true, if_false, Bool.false_eq_true, Bool.not_true, Bool.not_false, c_lt, c_le, c_gt, c_ge, c_eq, c_ne, isi_t, len2, bind_exc, then_exc, ex_then, show ((a * d - c * b) == 0) = true from beq_iff_eq.mpr (by omega)]
    · rw [if_neg e]
      rcases B with B | B
      · exact absurd B e
      · simp only [evSs, s_exp, s_asg, s_par, s_aug, s_ret, s_ife, e_var, e_lit, e_glo, e_neg, e_not, e_bin, e_and, e_or, e_ite, e_cmp, e_chn, e_tup, e_lst, e_sub, e_call, e_blt, e_isi, evEs, evT, evI, List.getElem?_cons_succ, List.getElem?_cons_zero, bind_ok, then_ok, nx_then, rt_then, give_some, Option.map_some, t_int, t_abs, iabs_nat, b_add, b_sub, neg_i, tr_bl, s_fr0, s_fr1, Tg.put, Tg.puts, setsP, List.set_cons_succ, List.set_cons_zero, if_true, if_false, Bool.false_eq_true, Bool.not_true, Bool.not_false, c_lt, c_le, c_gt, c_ge, c_eq, c_ne, isi_t, len2, bind_exc, then_exc, ex_then, show ((a * d - c * b) == 0) = false from beq_eq_false_iff_ne.mpr (by omega), p_lbetween (n := n + 24) f k B]
  rw [s_asg, e_lst]
  simp only [evEs, f1, f2, f3, f4, bind_ok, N4, then_ok, Tg.put, List.set_cons_succ, List.set_cons_zero]
theorem plc_s (a b c d : Int) {k : Nat} : Sh k 100 (.str (plc a b c d)) := by
  unfold plc
  split
  · exact .str (by decide +kernel)
  · split
    · exact .str (by decide +kernel)
    · exact .str (by decide +kernel)
def btwD (a b c d p q : Int) : PyData := if a * d = c * b then .tuple [.str "argument", .str "other"] else .tuple [.int p, .int q]
theorem btw_d (h : Ho) : toD h 11 (btw a b c d p q) = some (btwD a b c d p q) := by
  unfold btw btwD
  split <;> rfl
theorem btw_s (sp : Sz 1900 p) (sq : Sz 1900 q) {k : Nat} : Sh (k + 1) 3804 (btwD a b c d p q) := by
  unfold btwD
  split
  · have := Sh.tup (ShA.cons (Sh.str (x := "argument") (k := k) (by decide +kernel)) (ShA.cons (Sh.str (x := "other") (by decide +kernel)) .nil))
    exact ⟨this.s, this.n, this.d, this.l, Nat.le_trans this.w (by decide)⟩
  · exact .frac sp sq
def crcD (a b : Int) : PyData := .tuple [.tuple [.tuple [.int a, .int b], .tuple [.int 1, .int (2 * b * b)]], .tuple [.int 1, .int (2 * b * b * (2 * b * b))]]
theorem crc_s (f : Fq a b) : Sh 3 11416 (crcD a b) := Sh.tup (ShA.cons (Sh.tup (ShA.cons (.frac f.sa.mono f.sb.mono) (ShA.cons (.frac sz1.mono f.s2.mono) .nil))) (ShA.cons (.frac sz1.mono (f.s2.mul f.s2).mono) .nil))
theorem crc_d (h : Ho) : dataOf h (crc a b) = some (crcD a b) := rfl
theorem pr7 (f : Fq a b) (k : Fq c d) (B : Bo a b c d p q) (sp : Sz 1900 p) (sq : Sz 1900 q) : evS pg 4000 (cP (n + 28)) (.ife (.or (.val (.cmp .NotEq (.blt .repr [.comp (.call 36 [.var 11, .var 0, .var 1, .lit .non]) (.nm 11) (.sq (.tup [.lit (.int 4), .lit (.int 5), .lit (.int 6), .lit (.int 7)])) (.yes) [11]]) (.blt .repr [.var 10]))) (.val (.cmp .NotEq (.blt .repr [.call 36 [.lit (.int 8), .var 0, .lit .non, .lit .non]]) (.blt .repr [.tup [.tup [.var 0, .sub (.var 8) (.lit (.int 0))], .tup [.lit (.int 1), .bin .Mult (.sub (.sub (.var 8) (.lit (.int 0))) (.lit (.int 1))) (.sub (.sub (.var 8) (.lit (.int 0))) (.lit (.int 1)))]]])))) [.ret (.lit (.bl false))] []) [some (fr a b), some (fr c d), some (.ref 0), some (.ref 2), some (.int (a * d - c * b)), some (.ref (g.length + 5)), none, some (fr (top1 (a * d - c * b) (b * d)) (und1 (a * d - c * b) (b * d))), some (.ref (g.length + 6)), some (gap a b c d), some (.ref (g.length + 7)), none, none, none, none, none, none, none] (hp ds ns pl (g ++ [O.lst [.int a, fr 1 (2 * b * b)], O.lst [.int c, fr 1 (2 * d * d)], O.lst [.ref (g.length + 3), .ref (g.length + 4)], O.lst [fr 1 (2 * b * b), fr 1 (2 * d * d)], O.lst [.bl (((a * d - c * b).natAbs : Int) == 1), .str (plc a b c d), gap a b c d, btw a b c d p q]])) = .nx [some (fr a b), some (fr c d), some (.ref 0), some (.ref 2), some (.int (a * d - c * b)), some (.ref (g.length + 5)), none, some (fr (top1 (a * d - c * b) (b * d)) (und1 (a * d - c * b) (b * d))), some (.ref (g.length + 6)), some (gap a b c d), some (.ref (g.length + 7)), none, none, none, none, none, none, none] (hp ds ns pl (g ++ [O.lst [.int a, fr 1 (2 * b * b)], O.lst [.int c, fr 1 (2 * d * d)], O.lst [.ref (g.length + 3), .ref (g.length + 4)], O.lst [fr 1 (2 * b * b), fr 1 (2 * d * d)], O.lst [.bl (((a * d - c * b).natAbs : Int) == 1), .str (plc a b c d), gap a b c d, btw a b c d p q], O.lst [.bl (((a * d - c * b).natAbs : Int) == 1), .str (plc a b c d), gap a b c d, btw a b c d p q]])) := by
  have N5 : newL [.bl (((a * d - c * b).natAbs : Int) == 1), .str (plc a b c d), gap a b c d, btw a b c d p q] (hp ds ns pl (g ++ [O.lst [.int a, fr 1 (2 * b * b)], O.lst [.int c, fr 1 (2 * d * d)], O.lst [.ref (g.length + 3), .ref (g.length + 4)], O.lst [fr 1 (2 * b * b), fr 1 (2 * d * d)], O.lst [.bl (((a * d - c * b).natAbs : Int) == 1), .str (plc a b c d), gap a b c d, btw a b c d p q]])) = .ok (.ref (g.length + 8)) (hp ds ns pl (g ++ [O.lst [.int a, fr 1 (2 * b * b)], O.lst [.int c, fr 1 (2 * d * d)], O.lst [.ref (g.length + 3), .ref (g.length + 4)], O.lst [fr 1 (2 * b * b), fr 1 (2 * d * d)], O.lst [.bl (((a * d - c * b).natAbs : Int) == 1), .str (plc a b c d), gap a b c d, btw a b c d p q], O.lst [.bl (((a * d - c * b).natAbs : Int) == 1), .str (plc a b c d), gap a b c d, btw a b c d p q]])) := new_hp (l := [O.lst [.int a, fr 1 (2 * b * b)], O.lst [.int c, fr 1 (2 * d * d)], O.lst [.ref (g.length + 3), .ref (g.length + 4)], O.lst [fr 1 (2 * b * b), fr 1 (2 * d * d)], O.lst [.bl (((a * d - c * b).natAbs : Int) == 1), .str (plc a b c d), gap a b c d, btw a b c d p q]])
  have q4 : seqOf (hp ds ns pl (g ++ [O.lst [.int a, fr 1 (2 * b * b)], O.lst [.int c, fr 1 (2 * d * d)], O.lst [.ref (g.length + 3), .ref (g.length + 4)], O.lst [fr 1 (2 * b * b), fr 1 (2 * d * d)], O.lst [.bl (((a * d - c * b).natAbs : Int) == 1), .str (plc a b c d), gap a b c d, btw a b c d p q], O.lst [.bl (((a * d - c * b).natAbs : Int) == 1), .str (plc a b c d), gap a b c d, btw a b c d p q]])) (g.length + 3 + 4) = some [.bl (((a * d - c * b).natAbs : Int) == 1), .str (plc a b c d), gap a b c d, btw a b c d p q] := seq_hp (l := [O.lst [.int a, fr 1 (2 * b * b)], O.lst [.int c, fr 1 (2 * d * d)], O.lst [.ref (g.length + 3), .ref (g.length + 4)], O.lst [fr 1 (2 * b * b), fr 1 (2 * d * d)], O.lst [.bl (((a * d - c * b).natAbs : Int) == 1), .str (plc a b c d), gap a b c d, btw a b c d p q], O.lst [.bl (((a * d - c * b).natAbs : Int) == 1), .str (plc a b c d), gap a b c d, btw a b c d p q]]) rfl
  have q5 : seqOf (hp ds ns pl (g ++ [O.lst [.int a, fr 1 (2 * b * b)], O.lst [.int c, fr 1 (2 * d * d)], O.lst [.ref (g.length + 3), .ref (g.length + 4)], O.lst [fr 1 (2 * b * b), fr 1 (2 * d * d)], O.lst [.bl (((a * d - c * b).natAbs : Int) == 1), .str (plc a b c d), gap a b c d, btw a b c d p q], O.lst [.bl (((a * d - c * b).natAbs : Int) == 1), .str (plc a b c d), gap a b c d, btw a b c d p q]])) (g.length + 3 + 5) = some [.bl (((a * d - c * b).natAbs : Int) == 1), .str (plc a b c d), gap a b c d, btw a b c d p q] := seq_hp (l := [O.lst [.int a, fr 1 (2 * b * b)], O.lst [.int c, fr 1 (2 * d * d)], O.lst [.ref (g.length + 3), .ref (g.length + 4)], O.lst [fr 1 (2 * b * b), fr 1 (2 * d * d)], O.lst [.bl (((a * d - c * b).natAbs : Int) == 1), .str (plc a b c d), gap a b c d, btw a b c d p q], O.lst [.bl (((a * d - c * b).natAbs : Int) == 1), .str (plc a b c d), gap a b c d, btw a b c d p q]]) rfl
  have q3 : seqOf (hp ds ns pl (g ++ [O.lst [.int a, fr 1 (2 * b * b)], O.lst [.int c, fr 1 (2 * d * d)], O.lst [.ref (g.length + 3), .ref (g.length + 4)], O.lst [fr 1 (2 * b * b), fr 1 (2 * d * d)], O.lst [.bl (((a * d - c * b).natAbs : Int) == 1), .str (plc a b c d), gap a b c d, btw a b c d p q], O.lst [.bl (((a * d - c * b).natAbs : Int) == 1), .str (plc a b c d), gap a b c d, btw a b c d p q]])) (g.length + 3 + 3) = some [fr 1 (2 * b * b), fr 1 (2 * d * d)] := seq_hp (l := [O.lst [.int a, fr 1 (2 * b * b)], O.lst [.int c, fr 1 (2 * d * d)], O.lst [.ref (g.length + 3), .ref (g.length + 4)], O.lst [fr 1 (2 * b * b), fr 1 (2 * d * d)], O.lst [.bl (((a * d - c * b).natAbs : Int) == 1), .str (plc a b c d), gap a b c d, btw a b c d p q], O.lst [.bl (((a * d - c * b).natAbs : Int) == 1), .str (plc a b c d), gap a b c d, btw a b c d p q]]) rfl
  generalize (hp ds ns pl (g ++ [O.lst [.int a, fr 1 (2 * b * b)], O.lst [.int c, fr 1 (2 * d * d)], O.lst [.ref (g.length + 3), .ref (g.length + 4)], O.lst [fr 1 (2 * b * b), fr 1 (2 * d * d)], O.lst [.bl (((a * d - c * b).natAbs : Int) == 1), .str (plc a b c d), gap a b c d, btw a b c d p q]])) = h at *
  generalize (hp ds ns pl (g ++ [O.lst [.int a, fr 1 (2 * b * b)], O.lst [.int c, fr 1 (2 * d * d)], O.lst [.ref (g.length + 3), .ref (g.length + 4)], O.lst [fr 1 (2 * b * b), fr 1 (2 * d * d)], O.lst [.bl (((a * d - c * b).natAbs : Int) == 1), .str (plc a b c d), gap a b c d, btw a b c d p q], O.lst [.bl (((a * d - c * b).natAbs : Int) == 1), .str (plc a b c d), gap a b c d, btw a b c d p q]])) = h' at *
  have nc : (c * b - a * d).natAbs = (a * d - c * b).natAbs := by omega
  have fc : evE (cP (n + 28)) (.comp (.call 36 [.var 11, .var 0, .var 1, .lit .non]) (.nm 11) (.sq (.tup [.lit (.int 4), .lit (.int 5), .lit (.int 6), .lit (.int 7)])) (.yes) [11]) [some (fr a b), some (fr c d), some (.ref 0), some (.ref 2), some (.int (a * d - c * b)), some (.ref (g.length + 5)), none, some (fr (top1 (a * d - c * b) (b * d)) (und1 (a * d - c * b) (b * d))), some (.ref (g.length + 6)), some (gap a b c d), some (.ref (g.length + 7)), none, none, none, none, none, none, none] h = .ok (.ref (g.length + 8)) h' := by
    simp only [evSs, s_exp, s_asg, s_par, s_aug, s_ret, s_ife, e_var, e_lit, e_glo, e_neg, e_not, e_bin, e_and, e_or, e_ite, e_cmp, e_chn, e_tup, e_lst, e_sub, e_call, e_blt, e_isi, evEs, evT, evI, List.getElem?_cons_succ, List.getElem?_cons_zero, bind_ok, then_ok, nx_then, rt_then, give_some, Option.map_some, t_int, t_abs, iabs_nat, b_add, b_sub, neg_i, tr_bl, s_fr0, s_fr1, Tg.put, Tg.puts, setsP, List.set_cons_succ, List.set_cons_zero, if_true, if_false, Bool.false_eq_true, Bool.not_true, Bool.not_false, c_lt, c_le, c_gt, c_ge, c_eq, c_ne, isi_t, len2, bind_exc, then_exc, ex_then, e_comp, walk_tup, compL, still0, wipe, calm_ok, t_are f k, t_place f k, t_gap f k, t_between f k B, nc, ln4, N5]
  have ed : ∀ h : Ho, optMap (toD h 11) [.bl (((a * d - c * b).natAbs : Int) == 1), .str (plc a b c d), gap a b c d, btw a b c d p q] = some [.bool (((a * d - c * b).natAbs : Int) == 1), .str (plc a b c d), .tuple [.int (top1 (gapN (top1 (a * d - c * b) (b * d)) (und1 (a * d - c * b) (b * d)) b d) (gapD (und1 (a * d - c * b) (b * d)) b d)), .int (und1 (gapN (top1 (a * d - c * b) (b * d)) (und1 (a * d - c * b) (b * d)) b d) (gapD (und1 (a * d - c * b) (b * d)) b d))], btwD a b c d p q] := fun h => by
    have e1 : toD h 11 (gap a b c d) = some (.tuple [.int (top1 (gapN (top1 (a * d - c * b) (b * d)) (und1 (a * d - c * b) (b * d)) b d) (gapD (und1 (a * d - c * b) (b * d)) b d)), .int (und1 (gapN (top1 (a * d - c * b) (b * d)) (und1 (a * d - c * b) (b * d)) b d) (gapD (und1 (a * d - c * b) (b * d)) b d))]) := rfl
    have e2 : toD h 11 (.bl (((a * d - c * b).natAbs : Int) == 1)) = some (.bool (((a * d - c * b).natAbs : Int) == 1)) := rfl
    have e3 : toD h 11 (.str (plc a b c d)) = some (.str (plc a b c d)) := rfl
    simp only [optMap, e1, e2, e3, btw_d h]
  obtain ⟨z1, z2, z3⟩ := gap_s f k
  have S : Sh 2 _ (.list [.bool (((a * d - c * b).natAbs : Int) == 1), .str (plc a b c d), .tuple [.int (top1 (gapN (top1 (a * d - c * b) (b * d)) (und1 (a * d - c * b) (b * d)) b d) (gapD (und1 (a * d - c * b) (b * d)) b d)), .int (und1 (gapN (top1 (a * d - c * b) (b * d)) (und1 (a * d - c * b) (b * d)) b d) (gapD (und1 (a * d - c * b) (b * d)) b d))], btwD a b c d p q]) := Sh.lst (ShA.cons (Sh.bool (((a * d - c * b).natAbs : Int) == 1) (k := 1)) (ShA.cons (plc_s a b c d) (ShA.cons (.frac (Sz.top z3 z1).mono (Sz.und z3 z2).mono) (ShA.cons (btw_s (a := a) (b := b) (c := c) (d := d) sp sq) .nil))))
  obtain ⟨s5, r5, r4⟩ : ∃ s, bltA .repr [.ref (g.length + 8)] h' = .ok (.str s) h' ∧ bltA .repr [.ref (g.length + 7)] h' = .ok (.str s) h' := ⟨_, shows (data_lst q5 (ed h')) S, shows (data_lst q4 (ed h')) S⟩
  obtain ⟨s6, rc⟩ : ∃ s, bltA .repr [crc a b] h' = .ok (.str s) h' := ⟨_, shows (crc_d (a := a) (b := b) h') (crc_s f)⟩
  have fa : evE (cP (n + 28)) (.blt .repr [.comp (.call 36 [.var 11, .var 0, .var 1, .lit .non]) (.nm 11) (.sq (.tup [.lit (.int 4), .lit (.int 5), .lit (.int 6), .lit (.int 7)])) (.yes) [11]]) [some (fr a b), some (fr c d), some (.ref 0), some (.ref 2), some (.int (a * d - c * b)), some (.ref (g.length + 5)), none, some (fr (top1 (a * d - c * b) (b * d)) (und1 (a * d - c * b) (b * d))), some (.ref (g.length + 6)), some (gap a b c d), some (.ref (g.length + 7)), none, none, none, none, none, none, none] h = .ok (.str s5) h' := by
    rw [e_blt]
    simp only [evEs, fc, bind_ok]
    exact r5
  have fb : evE (cP (n + 28)) (.blt .repr [.var 10]) [some (fr a b), some (fr c d), some (.ref 0), some (.ref 2), some (.int (a * d - c * b)), some (.ref (g.length + 5)), none, some (fr (top1 (a * d - c * b) (b * d)) (und1 (a * d - c * b) (b * d))), some (.ref (g.length + 6)), some (gap a b c d), some (.ref (g.length + 7)), none, none, none, none, none, none, none] h' = .ok (.str s5) h' := by
    rw [e_blt]
    simp only [evSs, s_exp, s_asg, s_par, s_aug, s_ret, s_ife, e_var, e_lit, e_glo, e_neg, e_not, e_bin, e_and, e_or, e_ite, e_cmp, e_chn, e_tup, e_lst, e_sub, e_call, e_blt, e_isi, evEs, evT, evI, List.getElem?_cons_succ, List.getElem?_cons_zero, bind_ok, then_ok, nx_then, rt_then, give_some, Option.map_some, t_int, t_abs, iabs_nat, b_add, b_sub, neg_i, tr_bl, s_fr0, s_fr1, Tg.put, Tg.puts, setsP, List.set_cons_succ, List.set_cons_zero, if_true, if_false, Bool.false_eq_true, Bool.not_true, Bool.not_false, c_lt, c_le, c_gt, c_ge, c_eq, c_ne, isi_t, len2, bind_exc, then_exc, ex_then]
    exact r4
  have fd : evE (cP (n + 28)) (.blt .repr [.call 36 [.lit (.int 8), .var 0, .lit .non, .lit .non]]) [some (fr a b), some (fr c d), some (.ref 0), some (.ref 2), some (.int (a * d - c * b)), some (.ref (g.length + 5)), none, some (fr (top1 (a * d - c * b) (b * d)) (und1 (a * d - c * b) (b * d))), some (.ref (g.length + 6)), some (gap a b c d), some (.ref (g.length + 7)), none, none, none, none, none, none, none] h' = .ok (.str s6) h' := by
    rw [e_blt]
    simp only [evSs, s_exp, s_asg, s_par, s_aug, s_ret, s_ife, e_var, e_lit, e_glo, e_neg, e_not, e_bin, e_and, e_or, e_ite, e_cmp, e_chn, e_tup, e_lst, e_sub, e_call, e_blt, e_isi, evEs, evT, evI, List.getElem?_cons_succ, List.getElem?_cons_zero, bind_ok, then_ok, nx_then, rt_then, give_some, Option.map_some, t_int, t_abs, iabs_nat, b_add, b_sub, neg_i, tr_bl, s_fr0, s_fr1, Tg.put, Tg.puts, setsP, List.set_cons_succ, List.set_cons_zero, if_true, if_false, Bool.false_eq_true, Bool.not_true, Bool.not_false, c_lt, c_le, c_gt, c_ge, c_eq, c_ne, isi_t, len2, bind_exc, then_exc, ex_then, t_circle f]
    exact rc
  have s3 : subA (.ref (g.length + 6)) (.int 0) h' = some (fr 1 (2 * b * b)) := sub_ref q3 rfl rfl
  have fe : evE (cP (n + 28)) (.blt .repr [.tup [.tup [.var 0, .sub (.var 8) (.lit (.int 0))], .tup [.lit (.int 1), .bin .Mult (.sub (.sub (.var 8) (.lit (.int 0))) (.lit (.int 1))) (.sub (.sub (.var 8) (.lit (.int 0))) (.lit (.int 1)))]]]) [some (fr a b), some (fr c d), some (.ref 0), some (.ref 2), some (.int (a * d - c * b)), some (.ref (g.length + 5)), none, some (fr (top1 (a * d - c * b) (b * d)) (und1 (a * d - c * b) (b * d))), some (.ref (g.length + 6)), some (gap a b c d), some (.ref (g.length + 7)), none, none, none, none, none, none, none] h' = .ok (.str s6) h' := by
    rw [e_blt]
    simp only [evSs, s_exp, s_asg, s_par, s_aug, s_ret, s_ife, e_var, e_lit, e_glo, e_neg, e_not, e_bin, e_and, e_or, e_ite, e_cmp, e_chn, e_tup, e_lst, e_sub, e_call, e_blt, e_isi, evEs, evT, evI, List.getElem?_cons_succ, List.getElem?_cons_zero, bind_ok, then_ok, nx_then, rt_then, give_some, Option.map_some, t_int, t_abs, iabs_nat, b_add, b_sub, neg_i, tr_bl, s_fr0, s_fr1, Tg.put, Tg.puts, setsP, List.set_cons_succ, List.set_cons_zero, if_true, if_false, Bool.false_eq_true, Bool.not_true, Bool.not_false, c_lt, c_le, c_gt, c_ge, c_eq, c_ne, isi_t, len2, bind_exc, then_exc, ex_then, s3, b_mul (f.s2.mulOk f.s2)]
    exact rc
  rw [s_ife]
  simp only [evT]
  rw [e_cmp, fa, bind_ok, fb, bind_ok, ne_str]
  simp only [Option.map_some, give_some, bind_ok, tr_bl, Bool.false_eq_true, if_false]
  rw [e_cmp, fd]
  simp only [bind_ok, fe, ne_str, Option.map_some, give_some, tr_bl, Bool.false_eq_true, if_false, then_ok, evSs]
end
end My

/-! text Q10 -/
set_option Elab.async false
set_option linter.all false
set_option maxRecDepth 100000
set_option maxHeartbeats 4000000
/-! k46: the law of a pair: its loop and its end -/
namespace My
open PySem Ev Pl
theorem c_ao (h : Ho) : cmpA .Eq (.tup [.str "argument", .str "other"]) (.tup [.str "argument", .str "other"]) h = some true := by
  have e : (SeqAt.shaped (.tuple [.str "argument", .str "other"]) && SeqAt.shaped (.tuple [.str "argument", .str "other"])) = true := by decide +kernel
  have e2 : PyData.eqv (.tuple [.str "argument", .str "other"]) (.tuple [.str "argument", .str "other"]) = true := by decide +kernel
  show (if (SeqAt.shaped (.tuple [.str "argument", .str "other"]) && SeqAt.shaped (.tuple [.str "argument", .str "other"])) = true then some (PyData.eqv (.tuple [.str "argument", .str "other"]) (.tuple [.str "argument", .str "other"])) else none) = _
  rw [e, e2]
  rfl
def words : List Str := ["form", "between", "denominator", "least"]
theorem c_word {s : Str} (hs : s ∈ words) (h : Ho) : cmpA .NotEq (.tup [.str "paper", .str s]) (.tup [.str "paper", .str s]) h = some false := by
  have key : words.all (fun s => (SeqAt.shaped (.tuple [.str "paper", .str s]) && SeqAt.shaped (.tuple [.str "paper", .str s])) && PyData.eqv (.tuple [.str "paper", .str s]) (.tuple [.str "paper", .str s])) = true := by decide +kernel
  have k := List.all_eq_true.mp key s hs
  obtain ⟨e, e2⟩ := Bool.and_eq_true_iff.mp k
  show ((if (SeqAt.shaped (.tuple [.str "paper", .str s]) && SeqAt.shaped (.tuple [.str "paper", .str s])) = true then some (PyData.eqv (.tuple [.str "paper", .str s]) (.tuple [.str "paper", .str s])) else none)).map _ = _
  rw [e, e2]
  rfl
theorem c_none (h : Ho) : cmpA .NotEq .non .non h = some false := by
  have e : (SeqAt.shaped .none && SeqAt.shaped .none) = true := by decide +kernel
  have e2 : PyData.eqv .none .none = true := by decide +kernel
  show ((if (SeqAt.shaped .none && SeqAt.shaped .none) = true then some (PyData.eqv .none .none) else none)).map _ = _
  rw [e, e2]
  rfl
theorem is_non (h : Ho) : cmpA .Is .non .non h = some true := rfl
theorem is_str (s : Str) (h : Ho) : cmpA .Is (.str s) .non h = some false := rfl
section
variable {n pl : Nat} {a b c d p q x y : Int} {ds ns : List Int} {g l : Ho}

theorem pr8 (f : Fq a b) (k : Fq c d) (e : a * d = c * b) : evS pg 4000 (cP (n + 28)) (.ife (.val (.cmp .Eq (.var 4) (.lit (.int 0)))) [.ret (.and (.cmp .Eq (.blt .len [.var 5]) (.lit (.int 2))) (.cmp .Eq (.call 36 [.lit (.int 11), .var 0, .var 1, .lit .non]) (.tup [.lit (.str "argument"), .lit (.str "other")])))] []) [some (fr a b), some (fr c d), some (.ref 0), some (.ref 2), some (.int (a * d - c * b)), some (.ref (g.length + 5)), none, some (fr (top1 (a * d - c * b) (b * d)) (und1 (a * d - c * b) (b * d))), some (.ref (g.length + 6)), some (gap a b c d), some (.ref (g.length + 7)), none, none, none, none, none, none, none] (hp ds ns pl (g ++ [O.lst [.int a, fr 1 (2 * b * b)], O.lst [.int c, fr 1 (2 * d * d)], O.lst [.ref (g.length + 3), .ref (g.length + 4)], O.lst [fr 1 (2 * b * b), fr 1 (2 * d * d)], O.lst [.bl (((a * d - c * b).natAbs : Int) == 1), .str (plc a b c d), gap a b c d, btw a b c d p q], O.lst [.bl (((a * d - c * b).natAbs : Int) == 1), .str (plc a b c d), gap a b c d, btw a b c d p q]])) = .rt (.bl true) (hp ds ns pl (g ++ [O.lst [.int a, fr 1 (2 * b * b)], O.lst [.int c, fr 1 (2 * d * d)], O.lst [.ref (g.length + 3), .ref (g.length + 4)], O.lst [fr 1 (2 * b * b), fr 1 (2 * d * d)], O.lst [.bl (((a * d - c * b).natAbs : Int) == 1), .str (plc a b c d), gap a b c d, btw a b c d p q], O.lst [.bl (((a * d - c * b).natAbs : Int) == 1), .str (plc a b c d), gap a b c d, btw a b c d p q]])) := by
  have q2 : seqOf (hp ds ns pl (g ++ [O.lst [.int a, fr 1 (2 * b * b)], O.lst [.int c, fr 1 (2 * d * d)], O.lst [.ref (g.length + 3), .ref (g.length + 4)], O.lst [fr 1 (2 * b * b), fr 1 (2 * d * d)], O.lst [.bl (((a * d - c * b).natAbs : Int) == 1), .str (plc a b c d), gap a b c d, btw a b c d p q], O.lst [.bl (((a * d - c * b).natAbs : Int) == 1), .str (plc a b c d), gap a b c d, btw a b c d p q]])) (g.length + 3 + 2) = some [.ref (g.length + 3), .ref (g.length + 4)] := seq_hp (l := [O.lst [.int a, fr 1 (2 * b * b)], O.lst [.int c, fr 1 (2 * d * d)], O.lst [.ref (g.length + 3), .ref (g.length + 4)], O.lst [fr 1 (2 * b * b), fr 1 (2 * d * d)], O.lst [.bl (((a * d - c * b).natAbs : Int) == 1), .str (plc a b c d), gap a b c d, btw a b c d p q], O.lst [.bl (((a * d - c * b).natAbs : Int) == 1), .str (plc a b c d), gap a b c d, btw a b c d p q]]) rfl
  generalize (hp ds ns pl (g ++ [O.lst [.int a, fr 1 (2 * b * b)], O.lst [.int c, fr 1 (2 * d * d)], O.lst [.ref (g.length + 3), .ref (g.length + 4)], O.lst [fr 1 (2 * b * b), fr 1 (2 * d * d)], O.lst [.bl (((a * d - c * b).natAbs : Int) == 1), .str (plc a b c d), gap a b c d, btw a b c d p q], O.lst [.bl (((a * d - c * b).natAbs : Int) == 1), .str (plc a b c d), gap a b c d, btw a b c d p q]])) = h at *
  have ln : bltA .len [.ref (g.length + 5)] h = .ok (.int 2) h := t_len q2
  simp only [evSs, s_exp, s_asg, s_par, s_aug, s_ret, s_ife, e_var, e_lit, e_glo, e_neg, e_not, e_bin, e_and, e_or, e_ite, e_cmp, e_chn, e_tup, e_lst, e_sub, e_call, e_blt, e_isi, evEs, evT, evI, List.getElem?_cons_succ, List.getElem?_cons_zero, bind_ok, then_ok, nx_then, rt_then, give_some, Option.map_some, t_int, t_abs, iabs_nat, b_add, b_sub, neg_i, tr_bl, s_fr0, s_fr1, Tg.put, Tg.puts, setsP, List.set_cons_succ, List.set_cons_zero, if_true, if_false, Bool.false_eq_true, Bool.not_true, Bool.not_false, c_lt, c_le, c_gt, c_ge, c_eq, c_ne, isi_t, len2, bind_exc, then_exc, ex_then, show ((a * d - c * b) == 0) = true from beq_iff_eq.mpr (by omega), ln, show ((2 : Int) == 2) = true from rfl, t_acceptX f k e, c_ao]
theorem pr8n (h : Ho) (e : a * d ≠ c * b) : evS pg 4000 (cP (n + 28)) (.ife (.val (.cmp .Eq (.var 4) (.lit (.int 0)))) [.ret (.and (.cmp .Eq (.blt .len [.var 5]) (.lit (.int 2))) (.cmp .Eq (.call 36 [.lit (.int 11), .var 0, .var 1, .lit .non]) (.tup [.lit (.str "argument"), .lit (.str "other")])))] []) [some (fr a b), some (fr c d), some (.ref 0), some (.ref 2), some (.int (a * d - c * b)), some (.ref (g.length + 5)), none, some (fr (top1 (a * d - c * b) (b * d)) (und1 (a * d - c * b) (b * d))), some (.ref (g.length + 6)), some (gap a b c d), some (.ref (g.length + 7)), none, none, none, none, none, none, none] h = .nx [some (fr a b), some (fr c d), some (.ref 0), some (.ref 2), some (.int (a * d - c * b)), some (.ref (g.length + 5)), none, some (fr (top1 (a * d - c * b) (b * d)) (und1 (a * d - c * b) (b * d))), some (.ref (g.length + 6)), some (gap a b c d), some (.ref (g.length + 7)), none, none, none, none, none, none, none] h := by
  simp only [evSs, s_exp, s_asg, s_par, s_aug, s_ret, s_ife, e_var, e_lit, e_glo, e_neg, e_not, e_bin, e_and, e_or, e_ite, e_cmp, e_chn, e_tup, e_lst, e_sub, e_call, e_blt, e_isi, evEs, evT, evI, List.getElem?_cons_succ, List.getElem?_cons_zero, bind_ok, then_ok, nx_then, rt_then, give_some, Option.map_some, t_int, t_abs, iabs_nat, b_add, b_sub, neg_i, tr_bl, s_fr0, s_fr1, Tg.put, Tg.puts, setsP, List.set_cons_succ, List.set_cons_zero, if_true, if_false, Bool.false_eq_true, Bool.not_true, Bool.not_false, c_lt, c_le, c_gt, c_ge, c_eq, c_ne, isi_t, len2, bind_exc, then_exc, ex_then, show ((a * d - c * b) == 0) = false from beq_eq_false_iff_ne.mpr (by omega)]
theorem pr9 (e : a * d ≠ c * b) : evS pg 4000 (cP (n + 28)) (.asg (.nm 12) (.sub (.var 10) (.lit (.int 3)))) [some (fr a b), some (fr c d), some (.ref 0), some (.ref 2), some (.int (a * d - c * b)), some (.ref (g.length + 5)), none, some (fr (top1 (a * d - c * b) (b * d)) (und1 (a * d - c * b) (b * d))), some (.ref (g.length + 6)), some (gap a b c d), some (.ref (g.length + 7)), none, none, none, none, none, none, none] (hp ds ns pl (g ++ [O.lst [.int a, fr 1 (2 * b * b)], O.lst [.int c, fr 1 (2 * d * d)], O.lst [.ref (g.length + 3), .ref (g.length + 4)], O.lst [fr 1 (2 * b * b), fr 1 (2 * d * d)], O.lst [.bl (((a * d - c * b).natAbs : Int) == 1), .str (plc a b c d), gap a b c d, btw a b c d p q], O.lst [.bl (((a * d - c * b).natAbs : Int) == 1), .str (plc a b c d), gap a b c d, btw a b c d p q]])) = .nx [some (fr a b), some (fr c d), some (.ref 0), some (.ref 2), some (.int (a * d - c * b)), some (.ref (g.length + 5)), none, some (fr (top1 (a * d - c * b) (b * d)) (und1 (a * d - c * b) (b * d))), some (.ref (g.length + 6)), some (gap a b c d), some (.ref (g.length + 7)), none, some (fr p q), none, none, none, none, none] (hp ds ns pl (g ++ [O.lst [.int a, fr 1 (2 * b * b)], O.lst [.int c, fr 1 (2 * d * d)], O.lst [.ref (g.length + 3), .ref (g.length + 4)], O.lst [fr 1 (2 * b * b), fr 1 (2 * d * d)], O.lst [.bl (((a * d - c * b).natAbs : Int) == 1), .str (plc a b c d), gap a b c d, btw a b c d p q], O.lst [.bl (((a * d - c * b).natAbs : Int) == 1), .str (plc a b c d), gap a b c d, btw a b c d p q]])) := by
  have q4 : seqOf (hp ds ns pl (g ++ [O.lst [.int a, fr 1 (2 * b * b)], O.lst [.int c, fr 1 (2 * d * d)], O.lst [.ref (g.length + 3), .ref (g.length + 4)], O.lst [fr 1 (2 * b * b), fr 1 (2 * d * d)], O.lst [.bl (((a * d - c * b).natAbs : Int) == 1), .str (plc a b c d), gap a b c d, btw a b c d p q], O.lst [.bl (((a * d - c * b).natAbs : Int) == 1), .str (plc a b c d), gap a b c d, btw a b c d p q]])) (g.length + 3 + 4) = some [.bl (((a * d - c * b).natAbs : Int) == 1), .str (plc a b c d), gap a b c d, btw a b c d p q] := seq_hp (l := [O.lst [.int a, fr 1 (2 * b * b)], O.lst [.int c, fr 1 (2 * d * d)], O.lst [.ref (g.length + 3), .ref (g.length + 4)], O.lst [fr 1 (2 * b * b), fr 1 (2 * d * d)], O.lst [.bl (((a * d - c * b).natAbs : Int) == 1), .str (plc a b c d), gap a b c d, btw a b c d p q], O.lst [.bl (((a * d - c * b).natAbs : Int) == 1), .str (plc a b c d), gap a b c d, btw a b c d p q]]) rfl
  generalize (hp ds ns pl (g ++ [O.lst [.int a, fr 1 (2 * b * b)], O.lst [.int c, fr 1 (2 * d * d)], O.lst [.ref (g.length + 3), .ref (g.length + 4)], O.lst [fr 1 (2 * b * b), fr 1 (2 * d * d)], O.lst [.bl (((a * d - c * b).natAbs : Int) == 1), .str (plc a b c d), gap a b c d, btw a b c d p q], O.lst [.bl (((a * d - c * b).natAbs : Int) == 1), .str (plc a b c d), gap a b c d, btw a b c d p q]])) = h at *
  have bt : btw a b c d p q = fr p q := if_neg e
  have s4 : subA (.ref (g.length + 7)) (.int 3) h = some (fr p q) := by
    rw [← bt]
    exact sub_ref q4 rfl rfl
  simp only [evSs, s_exp, s_asg, s_par, s_aug, s_ret, s_ife, e_var, e_lit, e_glo, e_neg, e_not, e_bin, e_and, e_or, e_ite, e_cmp, e_chn, e_tup, e_lst, e_sub, e_call, e_blt, e_isi, evEs, evT, evI, List.getElem?_cons_succ, List.getElem?_cons_zero, bind_ok, then_ok, nx_then, rt_then, give_some, Option.map_some, t_int, t_abs, iabs_nat, b_add, b_sub, neg_i, tr_bl, s_fr0, s_fr1, Tg.put, Tg.puts, setsP, List.set_cons_succ, List.set_cons_zero, if_true, if_false, Bool.false_eq_true, Bool.not_true, Bool.not_false, c_lt, c_le, c_gt, c_ge, c_eq, c_ne, isi_t, len2, bind_exc, then_exc, ex_then, s4]
def nearL (a b c d p q : Int) : List A := [fr p q, fr a b, fr (p + 1) q, fr (top1 (a + c) (b + d)) (und1 (a + c) (b + d)), fr (top1 (p * 2 + a) (q * 2 + b)) (und1 (p * 2 + a) (q * 2 + b))]
def extraL (p q : Int) : List A := [fr 2 4, .non, .str "1/2", fr (p * 2) (q * 2)]
/-- what a bent one is -/
def Kn (z : A) : Prop := noTup z = true ∨ ∃ x y, z = fr x y ∧ 0 < y ∧ Sz 100 x ∧ Sz 100 y
theorem kinds (f : Fq a b) (k : Fq c d) (q0 : 0 < q) (sp : Sz 60 p) (sq : Sz 60 q) : ∀ z ∈ nearL a b c d p q ++ extraL p q, Kn z := fun z hz => by
  have hb := f.po
  have hd := k.po
  have s1 := f.sa
  have s2 := f.sb
  have s3 := k.sa
  have s4 := k.sb
  unfold nearL extraL at hz
  simp only [List.cons_append, List.nil_append, List.mem_cons, List.not_mem_nil, or_false] at hz
  rcases hz with h | h | h | h | h | h | h | h | h
  · exact .inr ⟨_, _, h, q0, sp.mono, sq.mono⟩
  · exact .inr ⟨_, _, h, hb, s1.mono, s2.mono⟩
  · exact .inr ⟨_, _, h, q0, (sp.add sz1.mono).mono, sq.mono⟩
  · exact .inr ⟨_, _, h, und_pos (by omega), Sz.top (by omega) (s1.add s3).mono, Sz.und (by omega) (s2.add s4).mono⟩
  · exact .inr ⟨_, _, h, und_pos (by omega), Sz.top (by omega) ((sp.mul sz2).add s1.mono).mono, Sz.und (by omega) ((sq.mul sz2).add s2.mono).mono⟩
  · exact .inr ⟨_, _, h, by decide, by unfold Sz; decide +kernel, by unfold Sz; decide +kernel⟩
  · exact .inl (by rw [h]; rfl)
  · exact .inl (by rw [h]; rfl)
  · exact .inr ⟨_, _, h, by omega, (sp.mul sz2).mono, (sq.mul sz2).mono⟩
variable {a13 a14 a15 a16 a17 : Option A}
theorem tu1 (f : Fq a b) (k : Fq c d) (q0 : 0 < q) (sp : Sz 60 p) (sq : Sz 60 q) : evS pg 4000 (cP (n + 28)) (.asg (.nm 14) (.lst [.var 12, .var 0, .tup [.bin .Add (.sub (.var 12) (.lit (.int 0))) (.lit (.int 1)), .sub (.var 12) (.lit (.int 1))], .call 35 [.bin .Add (.sub (.var 0) (.lit (.int 0))) (.sub (.var 1) (.lit (.int 0))), .bin .Add (.sub (.var 0) (.lit (.int 1))) (.sub (.var 1) (.lit (.int 1)))], .call 35 [.bin .Add (.bin .Mult (.sub (.var 12) (.lit (.int 0))) (.lit (.int 2))) (.sub (.var 0) (.lit (.int 0))), .bin .Add (.bin .Mult (.sub (.var 12) (.lit (.int 1))) (.lit (.int 2))) (.sub (.var 0) (.lit (.int 1)))]])) [some (fr a b), some (fr c d), some (.ref 0), some (.ref 2), some (.int (a * d - c * b)), some (.ref (g.length + 5)), none, some (fr (top1 (a * d - c * b) (b * d)) (und1 (a * d - c * b) (b * d))), some (.ref (g.length + 6)), some (gap a b c d), some (.ref (g.length + 7)), none, some (fr p q), a13, a14, a15, a16, a17] (hp ds ns pl (g ++ l)) = .nx [some (fr a b), some (fr c d), some (.ref 0), some (.ref 2), some (.int (a * d - c * b)), some (.ref (g.length + 5)), none, some (fr (top1 (a * d - c * b) (b * d)) (und1 (a * d - c * b) (b * d))), some (.ref (g.length + 6)), some (gap a b c d), some (.ref (g.length + 7)), none, some (fr p q), a13, some (.ref (g.length + 3 + l.length)), a15, a16, a17] (hp ds ns pl (g ++ (l ++ [O.lst (nearL a b c d p q)]))) := by
  have N : newL (nearL a b c d p q) (hp ds ns pl (g ++ l)) = .ok (.ref (g.length + 3 + l.length)) (hp ds ns pl (g ++ (l ++ [O.lst (nearL a b c d p q)]))) := new_hp
  unfold nearL at N ⊢
  have hb := f.po
  have hd := k.po
  simp only [evSs, s_exp, s_asg, s_par, s_aug, s_ret, s_ife, e_var, e_lit, e_glo, e_neg, e_not, e_bin, e_and, e_or, e_ite, e_cmp, e_chn, e_tup, e_lst, e_sub, e_call, e_blt, e_isi, evEs, evT, evI, List.getElem?_cons_succ, List.getElem?_cons_zero, bind_ok, then_ok, nx_then, rt_then, give_some, Option.map_some, t_int, t_abs, iabs_nat, b_add, b_sub, neg_i, tr_bl, s_fr0, s_fr1, Tg.put, Tg.puts, setsP, List.set_cons_succ, List.set_cons_zero, if_true, if_false, Bool.false_eq_true, Bool.not_true, Bool.not_false, c_lt, c_le, c_gt, c_ge, c_eq, c_ne, isi_t, len2, bind_exc, then_exc, ex_then, p_lmade (a := a + c) (b := b + d) (by omega) (f.sb.add k.sb).mono, p_lmade (a := p * 2 + a) (b := q * 2 + b) (by omega) ((sq.mul sz2).add f.sb.mono).mono, b_mul (sp.mulOk sz2), b_mul (sq.mulOk sz2), N]
theorem tu2 (z : Dz ds) (hpl : pl < 2 ^ 20) (sp : Sz 60 p) (sq : Sz 60 q) : ∃ w ∈ nearL a b c d p q ++ extraL p q, evS pg 4000 (cP (n + 28)) (.asg (.nm 15) (.call 33 [.bin .Add (.var 14) (.lst [.tup [.lit (.int 2), .lit (.int 4)], .lit .non, .lit (.str "1/2"), .tup [.bin .Mult (.sub (.var 12) (.lit (.int 0))) (.lit (.int 2)), .bin .Mult (.sub (.var 12) (.lit (.int 1))) (.lit (.int 2))]]), .var 2, .var 3])) [some (fr a b), some (fr c d), some (.ref 0), some (.ref 2), some (.int (a * d - c * b)), some (.ref (g.length + 5)), none, some (fr (top1 (a * d - c * b) (b * d)) (und1 (a * d - c * b) (b * d))), some (.ref (g.length + 6)), some (gap a b c d), some (.ref (g.length + 7)), none, some (fr p q), a13, some (.ref (g.length + 3 + l.length)), a15, a16, a17] (hp ds ns pl (g ++ (l ++ [O.lst (nearL a b c d p q)]))) = .nx [some (fr a b), some (fr c d), some (.ref 0), some (.ref 2), some (.int (a * d - c * b)), some (.ref (g.length + 5)), none, some (fr (top1 (a * d - c * b) (b * d)) (und1 (a * d - c * b) (b * d))), some (.ref (g.length + 6)), some (gap a b c d), some (.ref (g.length + 7)), none, some (fr p q), a13, some (.ref (g.length + 3 + l.length)), some w, a16, a17] (hp ds ns (pl + 1) (g ++ (l ++ [O.lst (nearL a b c d p q)] ++ [O.lst (extraL p q)] ++ [O.lst (nearL a b c d p q ++ extraL p q)]))) := by
  obtain ⟨w, hw, e⟩ := p_one (n := n + 25) (ns := ns) (g := g) (l := l ++ [O.lst (nearL a b c d p q)] ++ [O.lst (extraL p q)] ++ [O.lst (nearL a b c d p q ++ extraL p q)]) (i := l.length + 2) (xs := nearL a b c d p q ++ extraL p q) z hpl (by
    rw [List.getElem?_append_right (by simp)]
    simp) (by
    unfold nearL
    exact Nat.succ_pos _)
  refine ⟨w, hw, ?_⟩
  have N : newL (extraL p q) (hp ds ns pl (g ++ (l ++ [O.lst (nearL a b c d p q)]))) = .ok (.ref (g.length + 3 + (l ++ [O.lst (nearL a b c d p q)]).length)) (hp ds ns pl (g ++ (l ++ [O.lst (nearL a b c d p q)] ++ [O.lst (extraL p q)]))) := new_hp
  have N2 : newL (nearL a b c d p q ++ extraL p q) (hp ds ns pl (g ++ (l ++ [O.lst (nearL a b c d p q)] ++ [O.lst (extraL p q)]))) = .ok (.ref (g.length + 3 + (l ++ [O.lst (nearL a b c d p q)] ++ [O.lst (extraL p q)]).length)) (hp ds ns pl (g ++ (l ++ [O.lst (nearL a b c d p q)] ++ [O.lst (extraL p q)] ++ [O.lst (nearL a b c d p q ++ extraL p q)]))) := new_hp
  have ix : g.length + 3 + (l ++ [O.lst (nearL a b c d p q)] ++ [O.lst (extraL p q)]).length = g.length + 3 + (l.length + 2) := by simp
  have ix1 : g.length + 3 + (l ++ [O.lst (nearL a b c d p q)]).length = g.length + 3 + (l.length + 1) := by simp
  rw [ix] at N2
  rw [ix1] at N
  have g1 : (hp ds ns pl (g ++ (l ++ [O.lst (nearL a b c d p q)] ++ [O.lst (extraL p q)])))[g.length + 3 + l.length]? = some (.lst (nearL a b c d p q)) := by
    rw [get_hp]
    rw [List.append_assoc, List.getElem?_append_right (Nat.le_refl _), Nat.sub_self]
    rfl
  have g2 : (hp ds ns pl (g ++ (l ++ [O.lst (nearL a b c d p q)] ++ [O.lst (extraL p q)])))[g.length + 3 + (l.length + 1)]? = some (.lst (extraL p q)) := by
    rw [get_hp]
    rw [List.getElem?_append_right (by simp)]
    simp
  have ad : binA .Add (.ref (g.length + 3 + l.length)) (.ref (g.length + 3 + (l.length + 1))) (hp ds ns pl (g ++ (l ++ [O.lst (nearL a b c d p q)] ++ [O.lst (extraL p q)]))) = .ok (.ref (g.length + 3 + (l.length + 2))) (hp ds ns pl (g ++ (l ++ [O.lst (nearL a b c d p q)] ++ [O.lst (extraL p q)] ++ [O.lst (nearL a b c d p q ++ extraL p q)]))) := by
    show (match (hp ds ns pl (g ++ (l ++ [O.lst (nearL a b c d p q)] ++ [O.lst (extraL p q)])))[g.length + 3 + l.length]?, (hp ds ns pl (g ++ (l ++ [O.lst (nearL a b c d p q)] ++ [O.lst (extraL p q)])))[g.length + 3 + (l.length + 1)]? with
      | some (.lst u), some (.lst v) => if lineOk (u.length + v.length) then newL (u ++ v) (hp ds ns pl (g ++ (l ++ [O.lst (nearL a b c d p q)] ++ [O.lst (extraL p q)]))) else .err
      | _, _ => .err) = _
    rw [g1, g2]
    exact N2
  have ev : evE (cP (n + 28)) (.bin .Add (.var 14) (.lst [.tup [.lit (.int 2), .lit (.int 4)], .lit .non, .lit (.str "1/2"), .tup [.bin .Mult (.sub (.var 12) (.lit (.int 0))) (.lit (.int 2)), .bin .Mult (.sub (.var 12) (.lit (.int 1))) (.lit (.int 2))]])) [some (fr a b), some (fr c d), some (.ref 0), some (.ref 2), some (.int (a * d - c * b)), some (.ref (g.length + 5)), none, some (fr (top1 (a * d - c * b) (b * d)) (und1 (a * d - c * b) (b * d))), some (.ref (g.length + 6)), some (gap a b c d), some (.ref (g.length + 7)), none, some (fr p q), a13, some (.ref (g.length + 3 + l.length)), a15, a16, a17] (hp ds ns pl (g ++ (l ++ [O.lst (nearL a b c d p q)]))) = .ok (.ref (g.length + 3 + (l.length + 2))) (hp ds ns pl (g ++ (l ++ [O.lst (nearL a b c d p q)] ++ [O.lst (extraL p q)] ++ [O.lst (nearL a b c d p q ++ extraL p q)]))) := by
    have ex : extraL p q = [fr 2 4, .non, .str "1/2", fr (p * 2) (q * 2)] := rfl
    rw [ex] at N
    simp only [evSs, s_exp, s_asg, s_par, s_aug, s_ret, s_ife, e_var, e_lit, e_glo, e_neg, e_not, e_bin, e_and, e_or, e_ite, e_cmp, e_chn, e_tup, e_lst, e_sub, e_call, e_blt, e_isi, evEs, evT, evI, List.getElem?_cons_succ, List.getElem?_cons_zero, bind_ok, then_ok, nx_then, rt_then, give_some, Option.map_some, t_int, t_abs, iabs_nat, b_add, b_sub, neg_i, tr_bl, s_fr0, s_fr1, Tg.put, Tg.puts, setsP, List.set_cons_succ, List.set_cons_zero, if_true, if_false, Bool.false_eq_true, Bool.not_true, Bool.not_false, c_lt, c_le, c_gt, c_ge, c_eq, c_ne, isi_t, len2, bind_exc, then_exc, ex_then, b_mul (sp.mulOk sz2), b_mul (sq.mulOk sz2), N]
    exact ad
  rw [s_asg, e_call]
  simp only [evEs, ev, bind_ok]
  simp only [evSs, s_exp, s_asg, s_par, s_aug, s_ret, s_ife, e_var, e_lit, e_glo, e_neg, e_not, e_bin, e_and, e_or, e_ite, e_cmp, e_chn, e_tup, e_lst, e_sub, e_call, e_blt, e_isi, evEs, evT, evI, List.getElem?_cons_succ, List.getElem?_cons_zero, bind_ok, then_ok, nx_then, rt_then, give_some, Option.map_some, t_int, t_abs, iabs_nat, b_add, b_sub, neg_i, tr_bl, s_fr0, s_fr1, Tg.put, Tg.puts, setsP, List.set_cons_succ, List.set_cons_zero, if_true, if_false, Bool.false_eq_true, Bool.not_true, Bool.not_false, c_lt, c_le, c_gt, c_ge, c_eq, c_ne, isi_t, len2, bind_exc, then_exc, ex_then, e]
def rsn (a b c d p q x y : Int) : A := match verdict a b c d p q x y with
  | some s => .str s
  | none => .non
theorem verdict_w (a b c d p q x y : Int) : ∀ s, verdict a b c d p q x y = some s → s ∈ words := fun s e => by
  unfold verdict why at e
  split at e
  · split at e
    · cases e
      decide +kernel
    · split at e
      · cases e
        decide +kernel
      · split at e
        · cases e
          decide +kernel
        · cases e
  · cases e
    decide +kernel
theorem tu3 (f : Fq a b) (k : Fq c d) (hy : 0 < y) (sx : Sz 100 x) (sy : Sz 100 y) (h : Ho) : ∃ b17, evS pg 4000 (cP (n + 28)) (.ife (.and (.val (.isi "tuple" (.var 15))) (.val (.cmp .Eq (.call 34 [.sub (.var 15) (.lit (.int 0)), .sub (.var 15) (.lit (.int 1))]) (.lit (.int 1))))) [.asg (.nm 17) (.or (.and (.call 37 [.var 0, .var 15]) (.call 37 [.var 15, .var 1])) (.and (.call 37 [.var 1, .var 15]) (.call 37 [.var 15, .var 0]))), .asg (.nm 16) (.ite (.not (.val (.var 17))) (.lit (.str "between")) (.ite (.val (.cmp .NotEq (.sub (.var 15) (.lit (.int 1))) (.sub (.var 12) (.lit (.int 1))))) (.lit (.str "denominator")) (.ite (.val (.cmp .NotEq (.var 15) (.var 12))) (.lit (.str "least")) (.lit .non))))] []) [some (fr a b), some (fr c d), some (.ref 0), some (.ref 2), some (.int (a * d - c * b)), some (.ref (g.length + 5)), none, some (fr (top1 (a * d - c * b) (b * d)) (und1 (a * d - c * b) (b * d))), some (.ref (g.length + 6)), some (gap a b c d), some (.ref (g.length + 7)), none, some (fr p q), a13, a14, some (fr x y), some (.str "form"), a17] h = .nx [some (fr a b), some (fr c d), some (.ref 0), some (.ref 2), some (.int (a * d - c * b)), some (.ref (g.length + 5)), none, some (fr (top1 (a * d - c * b) (b * d)) (und1 (a * d - c * b) (b * d))), some (.ref (g.length + 6)), some (gap a b c d), some (.ref (g.length + 7)), none, some (fr p q), a13, a14, some (fr x y), some (rsn a b c d p q x y), b17] h := by
  have lc := p_lcommon (n := n + 27) (a := x) (b := y) (h := h) sy.mono
  by_cases h1 : gc x y = 1
  · refine ⟨some (.bl (inB a b c d x y)), ?_⟩
    have fi : evE (cP (n + 28)) (.or (.and (.call 37 [.var 0, .var 15]) (.call 37 [.var 15, .var 1])) (.and (.call 37 [.var 1, .var 15]) (.call 37 [.var 15, .var 0]))) [some (fr a b), some (fr c d), some (.ref 0), some (.ref 2), some (.int (a * d - c * b)), some (.ref (g.length + 5)), none, some (fr (top1 (a * d - c * b) (b * d)) (und1 (a * d - c * b) (b * d))), some (.ref (g.length + 6)), some (gap a b c d), some (.ref (g.length + 7)), none, some (fr p q), a13, a14, some (fr x y), some (.str "form"), a17] h = .ok (.bl (inB a b c d x y)) h := by
      have b1 := p_below (n := n + 27) (h := h) (f.sa.mono) (f.sb.mono) (sx.mono (l := 800)) (sy.mono (l := 800))
      have b2 := p_below (n := n + 27) (h := h) (sx.mono (l := 800)) (sy.mono (l := 800)) (k.sa.mono) (k.sb.mono)
      have b3 := p_below (n := n + 27) (h := h) (k.sa.mono) (k.sb.mono) (sx.mono (l := 800)) (sy.mono (l := 800))
      have b4 := p_below (n := n + 27) (h := h) (sx.mono (l := 800)) (sy.mono (l := 800)) (f.sa.mono) (f.sb.mono)
      unfold inB
      generalize decide (a * y < x * b) = v1 at *
      generalize decide (x * d < c * y) = v2 at *
      generalize decide (c * y < x * d) = v3 at *
      generalize decide (x * b < a * y) = v4 at *
      cases v1 <;> cases v2 <;> cases v3 <;> cases v4 <;> simp only [evSs, s_exp, s_asg, s_par, s_aug, s_ret, s_ife, e_var, e_lit, e_glo, e_neg, e_not, e_bin, e_and, e_or, e_ite, e_cmp, e_chn, e_tup, e_lst, e_sub, e_call, e_blt, e_isi, evEs, evT, evI, List.getElem?_cons_succ, List.getElem?_cons_zero, bind_ok, then_ok, nx_then, rt_then, give_some, Option.map_some, t_int, t_abs, iabs_nat, b_add, b_sub, neg_i, tr_bl, s_fr0, s_fr1, Tg.put, Tg.puts, setsP, List.set_cons_succ, List.set_cons_zero, if_true, if_false, Bool.false_eq_true, Bool.not_true, Bool.not_false, c_lt, c_le, c_gt, c_ge, c_eq, c_ne, isi_t, len2, bind_exc, then_exc, ex_then, b1, b2, b3, b4] <;> rfl
    have fr2 : evE (cP (n + 28)) (.ite (.not (.val (.var 17))) (.lit (.str "between")) (.ite (.val (.cmp .NotEq (.sub (.var 15) (.lit (.int 1))) (.sub (.var 12) (.lit (.int 1))))) (.lit (.str "denominator")) (.ite (.val (.cmp .NotEq (.var 15) (.var 12))) (.lit (.str "least")) (.lit .non)))) [some (fr a b), some (fr c d), some (.ref 0), some (.ref 2), some (.int (a * d - c * b)), some (.ref (g.length + 5)), none, some (fr (top1 (a * d - c * b) (b * d)) (und1 (a * d - c * b) (b * d))), some (.ref (g.length + 6)), some (gap a b c d), some (.ref (g.length + 7)), none, some (fr p q), a13, a14, some (fr x y), some (.str "form"), some (.bl (inB a b c d x y))] h = .ok (rsn a b c d p q x y) h := by
      unfold rsn verdict why
      rw [if_pos h1]
      cases hv : inB a b c d x y with
      | false => simp only [evSs, s_exp, s_asg, s_par, s_aug, s_ret, s_ife, e_var, e_lit, e_glo, e_neg, e_not, e_bin, e_and, e_or, e_ite, e_cmp, e_chn, e_tup, e_lst, e_sub, e_call, e_blt, e_isi, evEs, evT, evI, List.getElem?_cons_succ, List.getElem?_cons_zero, bind_ok, then_ok, nx_then, rt_then, give_some, Option.map_some, t_int, t_abs, iabs_nat, b_add, b_sub, neg_i, tr_bl, s_fr0, s_fr1, Tg.put, Tg.puts, setsP, List.set_cons_succ, List.set_cons_zero, if_true, if_false, Bool.false_eq_true, Bool.not_true, Bool.not_false, c_lt, c_le, c_gt, c_ge, c_eq, c_ne, isi_t, len2, bind_exc, then_exc, ex_then, if_true]
      | true =>
        by_cases h4 : y = q
        · have h4' : ((y == q) = true) := beq_iff_eq.mpr h4
          by_cases h5 : x = p
          · have h5' : ((x == p) = true) := beq_iff_eq.mpr h5
            simp only [evSs, s_exp, s_asg, s_par, s_aug, s_ret, s_ife, e_var, e_lit, e_glo, e_neg, e_not, e_bin, e_and, e_or, e_ite, e_cmp, e_chn, e_tup, e_lst, e_sub, e_call, e_blt, e_isi, evEs, evT, evI, List.getElem?_cons_succ, List.getElem?_cons_zero, bind_ok, then_ok, nx_then, rt_then, give_some, Option.map_some, t_int, t_abs, iabs_nat, b_add, b_sub, neg_i, tr_bl, s_fr0, s_fr1, Tg.put, Tg.puts, setsP, List.set_cons_succ, List.set_cons_zero, if_true, if_false, Bool.false_eq_true, Bool.not_true, Bool.not_false, c_lt, c_le, c_gt, c_ge, c_eq, c_ne, isi_t, len2, bind_exc, then_exc, ex_then, h4', h5', ne_fr, Bool.and_self, Bool.true_eq_false, if_neg (show ¬ y ≠ q by simpa using h4), if_neg (show ¬ x ≠ p by simpa using h5)]
          · have h5' : ((x == p) = false) := beq_eq_false_iff_ne.mpr h5
            simp only [evSs, s_exp, s_asg, s_par, s_aug, s_ret, s_ife, e_var, e_lit, e_glo, e_neg, e_not, e_bin, e_and, e_or, e_ite, e_cmp, e_chn, e_tup, e_lst, e_sub, e_call, e_blt, e_isi, evEs, evT, evI, List.getElem?_cons_succ, List.getElem?_cons_zero, bind_ok, then_ok, nx_then, rt_then, give_some, Option.map_some, t_int, t_abs, iabs_nat, b_add, b_sub, neg_i, tr_bl, s_fr0, s_fr1, Tg.put, Tg.puts, setsP, List.set_cons_succ, List.set_cons_zero, if_true, if_false, Bool.false_eq_true, Bool.not_true, Bool.not_false, c_lt, c_le, c_gt, c_ge, c_eq, c_ne, isi_t, len2, bind_exc, then_exc, ex_then, h4', h5', ne_fr, Bool.false_and, Bool.true_eq_false, if_neg (show ¬ y ≠ q by simpa using h4), if_pos h5]
        · have h4' : ((y == q) = false) := beq_eq_false_iff_ne.mpr h4
          simp only [evSs, s_exp, s_asg, s_par, s_aug, s_ret, s_ife, e_var, e_lit, e_glo, e_neg, e_not, e_bin, e_and, e_or, e_ite, e_cmp, e_chn, e_tup, e_lst, e_sub, e_call, e_blt, e_isi, evEs, evT, evI, List.getElem?_cons_succ, List.getElem?_cons_zero, bind_ok, then_ok, nx_then, rt_then, give_some, Option.map_some, t_int, t_abs, iabs_nat, b_add, b_sub, neg_i, tr_bl, s_fr0, s_fr1, Tg.put, Tg.puts, setsP, List.set_cons_succ, List.set_cons_zero, if_true, if_false, Bool.false_eq_true, Bool.not_true, Bool.not_false, c_lt, c_le, c_gt, c_ge, c_eq, c_ne, isi_t, len2, bind_exc, then_exc, ex_then, h4', Bool.true_eq_false, if_pos h4]
    rw [s_ife]
    simp only [evSs, s_exp, s_asg, s_par, s_aug, s_ret, s_ife, e_var, e_lit, e_glo, e_neg, e_not, e_bin, e_and, e_or, e_ite, e_cmp, e_chn, e_tup, e_lst, e_sub, e_call, e_blt, e_isi, evEs, evT, evI, List.getElem?_cons_succ, List.getElem?_cons_zero, bind_ok, then_ok, nx_then, rt_then, give_some, Option.map_some, t_int, t_abs, iabs_nat, b_add, b_sub, neg_i, tr_bl, s_fr0, s_fr1, Tg.put, Tg.puts, setsP, List.set_cons_succ, List.set_cons_zero, if_true, if_false, Bool.false_eq_true, Bool.not_true, Bool.not_false, c_lt, c_le, c_gt, c_ge, c_eq, c_ne, isi_t, len2, bind_exc, then_exc, ex_then, lc, beq_iff_eq.mpr h1]
    simp only [e_or, e_and, e_call, evEs, e_var, List.getElem?_cons_succ, List.getElem?_cons_zero, bind_ok] at fi
    simp only [e_ite, evT, e_var, e_cmp, e_lit, e_sub, List.getElem?_cons_succ, List.getElem?_cons_zero, bind_ok, tr_bl, give_some, s_fr0, s_fr1] at fr2
    simp only [fi, then_ok, nx_then, e_ite, evT, e_var, e_cmp, e_lit, e_sub, List.getElem?_cons_succ, List.getElem?_cons_zero, bind_ok, tr_bl, give_some, s_fr0, s_fr1, List.set_cons_succ, List.set_cons_zero, fr2]
  · refine ⟨a17, ?_⟩
    have rr : rsn a b c d p q x y = .str "form" := by
      unfold rsn verdict
      rw [if_neg h1]
    rw [rr]
    simp only [evSs, s_exp, s_asg, s_par, s_aug, s_ret, s_ife, e_var, e_lit, e_glo, e_neg, e_not, e_bin, e_and, e_or, e_ite, e_cmp, e_chn, e_tup, e_lst, e_sub, e_call, e_blt, e_isi, evEs, evT, evI, List.getElem?_cons_succ, List.getElem?_cons_zero, bind_ok, then_ok, nx_then, rt_then, give_some, Option.map_some, t_int, t_abs, iabs_nat, b_add, b_sub, neg_i, tr_bl, s_fr0, s_fr1, Tg.put, Tg.puts, setsP, List.set_cons_succ, List.set_cons_zero, if_true, if_false, Bool.false_eq_true, Bool.not_true, Bool.not_false, c_lt, c_le, c_gt, c_ge, c_eq, c_ne, isi_t, len2, bind_exc, then_exc, ex_then, lc, beq_eq_false_iff_ne.mpr h1]
theorem tu4 (f : Fq a b) (k : Fq c d) (B : Bw a b c d p q) (hy : 0 < y) (sx : Sz 100 x) (sy : Sz 100 y) (h : Ho) : evS pg 4000 (cP (n + 28)) (.ife (.val (.cmp .NotEq (.call 36 [.lit (.int 11), .var 0, .var 1, .var 15]) (.ite (.val (.cmp .Is (.var 16) (.lit .non))) (.lit .non) (.tup [.lit (.str "paper"), .var 16])))) [.ret (.lit (.bl false))] []) [some (fr a b), some (fr c d), some (.ref 0), some (.ref 2), some (.int (a * d - c * b)), some (.ref (g.length + 5)), none, some (fr (top1 (a * d - c * b) (b * d)) (und1 (a * d - c * b) (b * d))), some (.ref (g.length + 6)), some (gap a b c d), some (.ref (g.length + 7)), none, some (fr p q), a13, a14, some (fr x y), some (rsn a b c d p q x y), a17] h = .nx [some (fr a b), some (fr c d), some (.ref 0), some (.ref 2), some (.int (a * d - c * b)), some (.ref (g.length + 5)), none, some (fr (top1 (a * d - c * b) (b * d)) (und1 (a * d - c * b) (b * d))), some (.ref (g.length + 6)), some (gap a b c d), some (.ref (g.length + 7)), none, some (fr p q), a13, a14, some (fr x y), some (rsn a b c d p q x y), a17] h := by
  have t := t_accept (n := n + 1) (h := h) f k B hy (sx.mono (l := 800)) (sy.mono (l := 800))
  have w := verdict_w a b c d p q x y
  unfold rsn
  cases e : verdict a b c d p q x y with
  | none =>
    rw [e] at t
    have t : cP (n + 28) 36 [.int 11, fr a b, fr c d, fr x y] h = .ok .non h := t
    simp only [evSs, s_exp, s_asg, s_par, s_aug, s_ret, s_ife, e_var, e_lit, e_glo, e_neg, e_not, e_bin, e_and, e_or, e_ite, e_cmp, e_chn, e_tup, e_lst, e_sub, e_call, e_blt, e_isi, evEs, evT, evI, List.getElem?_cons_succ, List.getElem?_cons_zero, bind_ok, then_ok, nx_then, rt_then, give_some, Option.map_some, t_int, t_abs, iabs_nat, b_add, b_sub, neg_i, tr_bl, s_fr0, s_fr1, Tg.put, Tg.puts, setsP, List.set_cons_succ, List.set_cons_zero, if_true, if_false, Bool.false_eq_true, Bool.not_true, Bool.not_false, c_lt, c_le, c_gt, c_ge, c_eq, c_ne, isi_t, len2, bind_exc, then_exc, ex_then, t, is_non, c_none]
  | some s =>
    rw [e] at t
    have t : cP (n + 28) 36 [.int 11, fr a b, fr c d, fr x y] h = .ok (.tup [.str "paper", .str s]) h := t
    simp only [evSs, s_exp, s_asg, s_par, s_aug, s_ret, s_ife, e_var, e_lit, e_glo, e_neg, e_not, e_bin, e_and, e_or, e_ite, e_cmp, e_chn, e_tup, e_lst, e_sub, e_call, e_blt, e_isi, evEs, evT, evI, List.getElem?_cons_succ, List.getElem?_cons_zero, bind_ok, then_ok, nx_then, rt_then, give_some, Option.map_some, t_int, t_abs, iabs_nat, b_add, b_sub, neg_i, tr_bl, s_fr0, s_fr1, Tg.put, Tg.puts, setsP, List.set_cons_succ, List.set_cons_zero, if_true, if_false, Bool.false_eq_true, Bool.not_true, Bool.not_false, c_lt, c_le, c_gt, c_ge, c_eq, c_ne, isi_t, len2, bind_exc, then_exc, ex_then, t, is_str, c_word (w s e)]
theorem tu4n {z : A} (hz : noTup z = true) (f : Fq a b) (k : Fq c d) (B : Bw a b c d p q) (h : Ho) : evS pg 4000 (cP (n + 28)) (.ife (.and (.val (.isi "tuple" (.var 15))) (.val (.cmp .Eq (.call 34 [.sub (.var 15) (.lit (.int 0)), .sub (.var 15) (.lit (.int 1))]) (.lit (.int 1))))) [.asg (.nm 17) (.or (.and (.call 37 [.var 0, .var 15]) (.call 37 [.var 15, .var 1])) (.and (.call 37 [.var 1, .var 15]) (.call 37 [.var 15, .var 0]))), .asg (.nm 16) (.ite (.not (.val (.var 17))) (.lit (.str "between")) (.ite (.val (.cmp .NotEq (.sub (.var 15) (.lit (.int 1))) (.sub (.var 12) (.lit (.int 1))))) (.lit (.str "denominator")) (.ite (.val (.cmp .NotEq (.var 15) (.var 12))) (.lit (.str "least")) (.lit .non))))] []) [some (fr a b), some (fr c d), some (.ref 0), some (.ref 2), some (.int (a * d - c * b)), some (.ref (g.length + 5)), none, some (fr (top1 (a * d - c * b) (b * d)) (und1 (a * d - c * b) (b * d))), some (.ref (g.length + 6)), some (gap a b c d), some (.ref (g.length + 7)), none, some (fr p q), a13, a14, some z, some (.str "form"), a17] h = .nx [some (fr a b), some (fr c d), some (.ref 0), some (.ref 2), some (.int (a * d - c * b)), some (.ref (g.length + 5)), none, some (fr (top1 (a * d - c * b) (b * d)) (und1 (a * d - c * b) (b * d))), some (.ref (g.length + 6)), some (gap a b c d), some (.ref (g.length + 7)), none, some (fr p q), a13, a14, some z, some (.str "form"), a17] h ∧ evS pg 4000 (cP (n + 28)) (.ife (.val (.cmp .NotEq (.call 36 [.lit (.int 11), .var 0, .var 1, .var 15]) (.ite (.val (.cmp .Is (.var 16) (.lit .non))) (.lit .non) (.tup [.lit (.str "paper"), .var 16])))) [.ret (.lit (.bl false))] []) [some (fr a b), some (fr c d), some (.ref 0), some (.ref 2), some (.int (a * d - c * b)), some (.ref (g.length + 5)), none, some (fr (top1 (a * d - c * b) (b * d)) (und1 (a * d - c * b) (b * d))), some (.ref (g.length + 6)), some (gap a b c d), some (.ref (g.length + 7)), none, some (fr p q), a13, a14, some z, some (.str "form"), a17] h = .nx [some (fr a b), some (fr c d), some (.ref 0), some (.ref 2), some (.int (a * d - c * b)), some (.ref (g.length + 5)), none, some (fr (top1 (a * d - c * b) (b * d)) (und1 (a * d - c * b) (b * d))), some (.ref (g.length + 6)), some (gap a b c d), some (.ref (g.length + 7)), none, some (fr p q), a13, a14, some z, some (.str "form"), a17] h := by
  have t := t_accept_no (n := n + 1) (h := h) hz f k B
  constructor
  · simp only [evSs, s_exp, s_asg, s_par, s_aug, s_ret, s_ife, e_var, e_lit, e_glo, e_neg, e_not, e_bin, e_and, e_or, e_ite, e_cmp, e_chn, e_tup, e_lst, e_sub, e_call, e_blt, e_isi, evEs, evT, evI, List.getElem?_cons_succ, List.getElem?_cons_zero, bind_ok, then_ok, nx_then, rt_then, give_some, Option.map_some, t_int, t_abs, iabs_nat, b_add, b_sub, neg_i, tr_bl, s_fr0, s_fr1, Tg.put, Tg.puts, setsP, List.set_cons_succ, List.set_cons_zero, if_true, if_false, Bool.false_eq_true, Bool.not_true, Bool.not_false, c_lt, c_le, c_gt, c_ge, c_eq, c_ne, isi_t, len2, bind_exc, then_exc, ex_then, isi_no hz]
  · simp only [evSs, s_exp, s_asg, s_par, s_aug, s_ret, s_ife, e_var, e_lit, e_glo, e_neg, e_not, e_bin, e_and, e_or, e_ite, e_cmp, e_chn, e_tup, e_lst, e_sub, e_call, e_blt, e_isi, evEs, evT, evI, List.getElem?_cons_succ, List.getElem?_cons_zero, bind_ok, then_ok, nx_then, rt_then, give_some, Option.map_some, t_int, t_abs, iabs_nat, b_add, b_sub, neg_i, tr_bl, s_fr0, s_fr1, Tg.put, Tg.puts, setsP, List.set_cons_succ, List.set_cons_zero, if_true, if_false, Bool.false_eq_true, Bool.not_true, Bool.not_false, c_lt, c_le, c_gt, c_ge, c_eq, c_ne, isi_t, len2, bind_exc, then_exc, ex_then, t, is_str, c_word (s := "form") (by decide +kernel)]
def bPr : List S := [.asg (.nm 14) (.lst [.var 12, .var 0, .tup [.bin .Add (.sub (.var 12) (.lit (.int 0))) (.lit (.int 1)), .sub (.var 12) (.lit (.int 1))], .call 35 [.bin .Add (.sub (.var 0) (.lit (.int 0))) (.sub (.var 1) (.lit (.int 0))), .bin .Add (.sub (.var 0) (.lit (.int 1))) (.sub (.var 1) (.lit (.int 1)))], .call 35 [.bin .Add (.bin .Mult (.sub (.var 12) (.lit (.int 0))) (.lit (.int 2))) (.sub (.var 0) (.lit (.int 0))), .bin .Add (.bin .Mult (.sub (.var 12) (.lit (.int 1))) (.lit (.int 2))) (.sub (.var 0) (.lit (.int 1)))]]), .asg (.nm 15) (.call 33 [.bin .Add (.var 14) (.lst [.tup [.lit (.int 2), .lit (.int 4)], .lit .non, .lit (.str "1/2"), .tup [.bin .Mult (.sub (.var 12) (.lit (.int 0))) (.lit (.int 2)), .bin .Mult (.sub (.var 12) (.lit (.int 1))) (.lit (.int 2))]]), .var 2, .var 3]), .asg (.nm 16) (.lit (.str "form")), .ife (.and (.val (.isi "tuple" (.var 15))) (.val (.cmp .Eq (.call 34 [.sub (.var 15) (.lit (.int 0)), .sub (.var 15) (.lit (.int 1))]) (.lit (.int 1))))) [.asg (.nm 17) (.or (.and (.call 37 [.var 0, .var 15]) (.call 37 [.var 15, .var 1])) (.and (.call 37 [.var 1, .var 15]) (.call 37 [.var 15, .var 0]))), .asg (.nm 16) (.ite (.not (.val (.var 17))) (.lit (.str "between")) (.ite (.val (.cmp .NotEq (.sub (.var 15) (.lit (.int 1))) (.sub (.var 12) (.lit (.int 1))))) (.lit (.str "denominator")) (.ite (.val (.cmp .NotEq (.var 15) (.var 12))) (.lit (.str "least")) (.lit .non))))] [], .ife (.val (.cmp .NotEq (.call 36 [.lit (.int 11), .var 0, .var 1, .var 15]) (.ite (.val (.cmp .Is (.var 16) (.lit .non))) (.lit .non) (.tup [.lit (.str "paper"), .var 16])))) [.ret (.lit (.bl false))] []]
theorem turnP (z : Dz ds) (hpl : pl < 2 ^ 20) (f : Fq a b) (k : Fq c d) (B : Bw a b c d p q) : ∃ b14 b15 b16 b17 l2, evSs pg 4000 (cP (n + 28)) bPr [some (fr a b), some (fr c d), some (.ref 0), some (.ref 2), some (.int (a * d - c * b)), some (.ref (g.length + 5)), none, some (fr (top1 (a * d - c * b) (b * d)) (und1 (a * d - c * b) (b * d))), some (.ref (g.length + 6)), some (gap a b c d), some (.ref (g.length + 7)), none, some (fr p q), a13, a14, a15, a16, a17] (hp ds ns pl (g ++ l)) = .nx [some (fr a b), some (fr c d), some (.ref 0), some (.ref 2), some (.int (a * d - c * b)), some (.ref (g.length + 5)), none, some (fr (top1 (a * d - c * b) (b * d)) (und1 (a * d - c * b) (b * d))), some (.ref (g.length + 6)), some (gap a b c d), some (.ref (g.length + 7)), none, some (fr p q), a13, b14, b15, b16, b17] (hp ds ns (pl + 1) (g ++ l2)) := by
  obtain ⟨q0, q1, p1, -⟩ := bw_fq f k B
  have sp : Sz 60 p := Sz.of 40000000 p1
  have sq : Sz 60 q := Sz.of 2000 (by omega)
  have e1 := tu1 (n := n) (pl := pl) (ds := ds) (ns := ns) (g := g) (l := l) (a13 := a13) (a14 := a14) (a15 := a15) (a16 := a16) (a17 := a17) f k q0 sp sq
  obtain ⟨w, hw, e2⟩ := tu2 (n := n) (a := a) (b := b) (c := c) (d := d) (ns := ns) (g := g) (l := l) (a13 := a13) (a15 := a15) (a16 := a16) (a17 := a17) z hpl sp sq
  have e3 : evS pg 4000 (cP (n + 28)) (.asg (.nm 16) (.lit (.str "form"))) [some (fr a b), some (fr c d), some (.ref 0), some (.ref 2), some (.int (a * d - c * b)), some (.ref (g.length + 5)), none, some (fr (top1 (a * d - c * b) (b * d)) (und1 (a * d - c * b) (b * d))), some (.ref (g.length + 6)), some (gap a b c d), some (.ref (g.length + 7)), none, some (fr p q), a13, some (.ref (g.length + 3 + l.length)), some w, a16, a17] (hp ds ns (pl + 1) (g ++ (l ++ [O.lst (nearL a b c d p q)] ++ [O.lst (extraL p q)] ++ [O.lst (nearL a b c d p q ++ extraL p q)]))) = .nx [some (fr a b), some (fr c d), some (.ref 0), some (.ref 2), some (.int (a * d - c * b)), some (.ref (g.length + 5)), none, some (fr (top1 (a * d - c * b) (b * d)) (und1 (a * d - c * b) (b * d))), some (.ref (g.length + 6)), some (gap a b c d), some (.ref (g.length + 7)), none, some (fr p q), a13, some (.ref (g.length + 3 + l.length)), some w, some (.str "form"), a17] (hp ds ns (pl + 1) (g ++ (l ++ [O.lst (nearL a b c d p q)] ++ [O.lst (extraL p q)] ++ [O.lst (nearL a b c d p q ++ extraL p q)]))) := by simp only [evSs, s_exp, s_asg, s_par, s_aug, s_ret, s_ife, e_var, e_lit, e_glo, e_neg, e_not, e_bin, e_and, e_or, e_ite, e_cmp, e_chn, e_tup, e_lst, e_sub, e_call, e_blt, e_isi, evEs, evT, evI, List.getElem?_cons_succ, List.getElem?_cons_zero, bind_ok, then_ok, nx_then, rt_then, give_some, Option.map_some, t_int, t_abs, iabs_nat, b_add, b_sub, neg_i, tr_bl, s_fr0, s_fr1, Tg.put, Tg.puts, setsP, List.set_cons_succ, List.set_cons_zero, if_true, if_false, Bool.false_eq_true, Bool.not_true, Bool.not_false, c_lt, c_le, c_gt, c_ge, c_eq, c_ne, isi_t, len2, bind_exc, then_exc, ex_then]
  rcases kinds f k q0 sp sq w hw with hz | ⟨x, y, rfl, hy, sx, sy⟩
  · obtain ⟨e4, e5⟩ := tu4n (n := n) (g := g) (a13 := a13) (a14 := some (.ref (g.length + 3 + l.length))) (a17 := a17) hz f k B (hp ds ns (pl + 1) (g ++ (l ++ [O.lst (nearL a b c d p q)] ++ [O.lst (extraL p q)] ++ [O.lst (nearL a b c d p q ++ extraL p q)])))
    refine ⟨some (.ref (g.length + 3 + l.length)), some w, some (.str "form"), a17, l ++ [O.lst (nearL a b c d p q)] ++ [O.lst (extraL p q)] ++ [O.lst (nearL a b c d p q ++ extraL p q)], ?_⟩
    · unfold bPr
      simp only [evSs, e1, nx_then, e2, e3, e4, e5]
  · obtain ⟨b17, e4⟩ := tu3 (n := n) (g := g) (p := p) (q := q) (a13 := a13) (a14 := some (.ref (g.length + 3 + l.length))) (a17 := a17) f k hy sx sy (hp ds ns (pl + 1) (g ++ (l ++ [O.lst (nearL a b c d p q)] ++ [O.lst (extraL p q)] ++ [O.lst (nearL a b c d p q ++ extraL p q)])))
    have e5 := tu4 (n := n) (g := g) (a13 := a13) (a14 := some (.ref (g.length + 3 + l.length))) (a17 := b17) f k B hy sx sy (hp ds ns (pl + 1) (g ++ (l ++ [O.lst (nearL a b c d p q)] ++ [O.lst (extraL p q)] ++ [O.lst (nearL a b c d p q ++ extraL p q)])))
    refine ⟨some (.ref (g.length + 3 + l.length)), some (fr x y), some (rsn a b c d p q x y), b17, l ++ [O.lst (nearL a b c d p q)] ++ [O.lst (extraL p q)] ++ [O.lst (nearL a b c d p q ++ extraL p q)], ?_⟩
    · unfold bPr
      simp only [evSs, e1, nx_then, e2, e3, e4, e5]
end
end My

/-! text Q11 -/
set_option Elab.async false
set_option linter.all false
set_option maxRecDepth 100000
set_option maxHeartbeats 4000000
/-! k46: the law of a pair, whole -/
namespace My
open PySem Ev Pl
section
variable {n pl : Nat} {a b c d p q x y : Int} {ds ns : List Int} {g l : Ho}
theorem pair_body : f__law_pair_right.body = [.asg (.nm 4) (.bin .Sub (.bin .Mult (.sub (.var 0) (.lit (.int 0))) (.sub (.var 1) (.lit (.int 1)))) (.bin .Mult (.sub (.var 1) (.lit (.int 0))) (.sub (.var 0) (.lit (.int 1))))), .asg (.nm 5) (.comp (.lst [.sub (.var 6) (.lit (.int 0)), .call 35 [.lit (.int 1), .bin .Mult (.bin .Mult (.lit (.int 2)) (.sub (.var 6) (.lit (.int 1)))) (.sub (.var 6) (.lit (.int 1)))]]) (.nm 6) (.sq (.tup [.var 0, .var 1])) (.yes) [6]), .asg (.nm 7) (.call 40 [.var 0, .var 1]), .asg (.nm 8) (.comp (.tup [.lit (.int 1), .bin .Mult (.bin .Mult (.lit (.int 2)) (.sub (.var 6) (.lit (.int 1)))) (.sub (.var 6) (.lit (.int 1)))]) (.nm 6) (.sq (.tup [.var 0, .var 1])) (.yes) [6]), .asg (.nm 9) (.call 35 [.bin .Sub (.bin .Mult (.bin .Mult (.bin .Mult (.bin .Mult (.bin .Mult (.sub (.var 7) (.lit (.int 0))) (.sub (.var 7) (.lit (.int 0)))) (.sub (.var 0) (.lit (.int 1)))) (.sub (.var 0) (.lit (.int 1)))) (.sub (.var 1) (.lit (.int 1)))) (.sub (.var 1) (.lit (.int 1)))) (.bin .Mult (.sub (.var 7) (.lit (.int 1))) (.sub (.var 7) (.lit (.int 1)))), .bin .Mult (.bin .Mult (.bin .Mult (.bin .Mult (.bin .Mult (.sub (.var 7) (.lit (.int 1))) (.sub (.var 7) (.lit (.int 1)))) (.sub (.var 0) (.lit (.int 1)))) (.sub (.var 0) (.lit (.int 1)))) (.sub (.var 1) (.lit (.int 1)))) (.sub (.var 1) (.lit (.int 1)))]), .asg (.nm 10) (.lst [.cmp .Eq (.blt .abs [.var 4]) (.lit (.int 1)), .ite (.val (.cmp .Eq (.var 4) (.lit (.int 0)))) (.lit (.str "same")) (.ite (.val (.cmp .Eq (.blt .abs [.var 4]) (.lit (.int 1)))) (.lit (.str "touch")) (.lit (.str "apart"))), .var 9, .ite (.val (.cmp .Eq (.var 4) (.lit (.int 0)))) (.tup [.lit (.str "argument"), .lit (.str "other")]) (.call 42 [.var 0, .var 1])]), .ife (.or (.val (.cmp .NotEq (.blt .repr [.comp (.call 36 [.var 11, .var 0, .var 1, .lit .non]) (.nm 11) (.sq (.tup [.lit (.int 4), .lit (.int 5), .lit (.int 6), .lit (.int 7)])) (.yes) [11]]) (.blt .repr [.var 10]))) (.val (.cmp .NotEq (.blt .repr [.call 36 [.lit (.int 8), .var 0, .lit .non, .lit .non]]) (.blt .repr [.tup [.tup [.var 0, .sub (.var 8) (.lit (.int 0))], .tup [.lit (.int 1), .bin .Mult (.sub (.sub (.var 8) (.lit (.int 0))) (.lit (.int 1))) (.sub (.sub (.var 8) (.lit (.int 0))) (.lit (.int 1)))]]])))) [.ret (.lit (.bl false))] [], .ife (.val (.cmp .Eq (.var 4) (.lit (.int 0)))) [.ret (.and (.cmp .Eq (.blt .len [.var 5]) (.lit (.int 2))) (.cmp .Eq (.call 36 [.lit (.int 11), .var 0, .var 1, .lit .non]) (.tup [.lit (.str "argument"), .lit (.str "other")])))] [], .asg (.nm 12) (.sub (.var 10) (.lit (.int 3))), .for_ (.nm 13) (.rg [.lit (.int 4)]) bPr, .ret (.lit (.bl true))] := rfl
theorem loopP (z : Dz ds) (f : Fq a b) (k : Fq c d) (B : Bw a b c d p q) : ∀ (ks : List A) (pl : Nat) (l : Ho) (a13 a14 a15 a16 a17 : Option A), pl + ks.length < 2 ^ 20 → ∃ b13 b14 b15 b16 b17 l2, forL [] (.nm 13) (fun σ h => evSs pg 4000 (cP (n + 28)) bPr σ h) ks [some (fr a b), some (fr c d), some (.ref 0), some (.ref 2), some (.int (a * d - c * b)), some (.ref (g.length + 5)), none, some (fr (top1 (a * d - c * b) (b * d)) (und1 (a * d - c * b) (b * d))), some (.ref (g.length + 6)), some (gap a b c d), some (.ref (g.length + 7)), none, some (fr p q), a13, a14, a15, a16, a17] (hp ds ns pl (g ++ l)) = .nx [some (fr a b), some (fr c d), some (.ref 0), some (.ref 2), some (.int (a * d - c * b)), some (.ref (g.length + 5)), none, some (fr (top1 (a * d - c * b) (b * d)) (und1 (a * d - c * b) (b * d))), some (.ref (g.length + 6)), some (gap a b c d), some (.ref (g.length + 7)), none, some (fr p q), b13, b14, b15, b16, b17] (hp ds ns (pl + ks.length) (g ++ l2))
  | [], pl, l, a13, a14, a15, a16, a17, _ => ⟨a13, a14, a15, a16, a17, l, rfl⟩
  | v :: ks, pl, l, a13, a14, a15, a16, a17, hpl => by
    have hl : (v :: ks).length = ks.length + 1 := rfl
    rw [hl] at hpl ⊢
    obtain ⟨b14, b15, b16, b17, l2, e⟩ := turnP (n := n) (pl := pl) (ns := ns) (g := g) (l := l) (a13 := some v) (a14 := a14) (a15 := a15) (a16 := a16) (a17 := a17) z (by omega) f k B
    obtain ⟨c13, c14, c15, c16, c17, l3, e2⟩ := loopP z f k B ks (pl + 1) l2 (some v) b14 b15 b16 b17 (by omega)
    refine ⟨c13, c14, c15, c16, c17, l3, ?_⟩
    rw [show pl + (ks.length + 1) = pl + 1 + ks.length by omega]
    unfold forL
    rw [if_pos still0]
    simp only [Tg.put, List.set_cons_succ, List.set_cons_zero, e]
    exact e2
theorem trim_hp {α : Type} (pl' : Nat) (l : Ho) (K : Ho → α) : ∃ g', trim (hp ds ns pl g).length true (hp ds ns pl' (g ++ l)) K = K (hp ds ns pl' g') := by
  unfold trim
  split
  · exact ⟨_, rfl⟩
  · split
    · refine ⟨g, ?_⟩
      congr 1
      have : (hp ds ns pl g).length = g.length + 3 := rfl
      rw [this]
      unfold hp
      show List.take (g.length + 1 + 1 + 1) _ = _
      simp only [List.take_succ_cons, List.take_left']
    · exact ⟨_, rfl⟩
theorem rt_hp {f : Nat} {d : Df} {xs : List A} {pl' : Nat} {l : Ho} {r : A} (hd : pg.defs[f]? = some d) (hl : xs.length = d.ps) (hr : evSs pg 4000 (cP n) d.body (xs.map some ++ List.replicate (d.N.length - xs.length) none) (hp ds ns pl g) = .rt r (hp ds ns pl' (g ++ l))) (hr0 : ∀ m, A.inb m r = true) : ∃ g', cK (n + 1) f xs (hp ds ns pl g) = .ok r (hp ds ns pl' g') := by
  obtain ⟨g', e⟩ := trim_hp (pl := pl) (ds := ds) (ns := ns) (g := g) pl' l (fun h' => R.ok r h')
  refine ⟨g', ?_⟩
  rw [← e]
  show callK _ _ _ _ _ _ = _
  unfold callK
  rw [hd]
  dsimp only
  rw [if_pos (beq_iff_eq.mpr hl), hr]
  dsimp only
  rw [hr0]
theorem p_pair (z : Dz ds) (hpl : pl + 4 < 2 ^ 20) (f : Fq a b) (k : Fq c d) : ∃ pl' g', pl' ≤ pl + 4 ∧ cP (n + 29) 45 [fr a b, fr c d, .ref 0, .ref 2] (hp ds ns pl g) = .ok (.bl true) (hp ds ns pl' g') := by
  have go : ∃ pl' l, pl' ≤ pl + 4 ∧ evSs pg 4000 (cP (n + 28)) f__law_pair_right.body ([fr a b, fr c d, .ref 0, .ref 2].map some ++ List.replicate (f__law_pair_right.N.length - 4) none) (hp ds ns pl g) = .rt (.bl true) (hp ds ns pl' (g ++ l)) := by
    have hs : ([fr a b, fr c d, .ref 0, .ref 2].map some ++ List.replicate (f__law_pair_right.N.length - 4) none) = [some (fr a b), some (fr c d), some (.ref 0), some (.ref 2), none, none, none, none, none, none, none, none, none, none, none, none, none, none] := rfl
    have hg : hp ds ns pl g = hp ds ns pl (g ++ []) := by rw [List.append_nil]
    rw [hs, hg, pair_body]
    by_cases e : a * d = c * b
    · have B : Bo a b c d 0 1 := .inl e
      refine ⟨pl, [O.lst [.int a, fr 1 (2 * b * b)], O.lst [.int c, fr 1 (2 * d * d)], O.lst [.ref (g.length + 3), .ref (g.length + 4)], O.lst [fr 1 (2 * b * b), fr 1 (2 * d * d)], O.lst [.bl (((a * d - c * b).natAbs : Int) == 1), .str (plc a b c d), gap a b c d, btw a b c d 0 1], O.lst [.bl (((a * d - c * b).natAbs : Int) == 1), .str (plc a b c d), gap a b c d, btw a b c d 0 1]], by omega, ?_⟩
      · have p1 := pr1 (n := n) f k (hp ds ns pl (g ++ []))
        have p2 := pr2 (n := n) (pl := pl) (ds := ds) (ns := ns) (g := g) f k
        have p3 := pr3 (n := n) (g := g) f k (hp ds ns pl (g ++ [O.lst [.int a, fr 1 (2 * b * b)], O.lst [.int c, fr 1 (2 * d * d)], O.lst [.ref (g.length + 3), .ref (g.length + 4)]]))
        have p4 := pr4 (n := n) (pl := pl) (ds := ds) (ns := ns) (g := g) f k
        have p5 := pr5 (n := n) (g := g) f k (hp ds ns pl (g ++ [O.lst [.int a, fr 1 (2 * b * b)], O.lst [.int c, fr 1 (2 * d * d)], O.lst [.ref (g.length + 3), .ref (g.length + 4)], O.lst [fr 1 (2 * b * b), fr 1 (2 * d * d)]]))
        have p6 := pr6 (n := n) (pl := pl) (ds := ds) (ns := ns) (g := g) f k B
        have p7 := pr7 (n := n) (pl := pl) (ds := ds) (ns := ns) (g := g) f k B (by unfold Sz; decide +kernel) (by unfold Sz; decide +kernel)
        have p8 := pr8 (n := n) (pl := pl) (p := 0) (q := 1) (ds := ds) (ns := ns) (g := g) f k e
        simp only [evSs, p1, p2, p3, p4, p5, p6, p7, p8, nx_then, rt_then]
    · obtain ⟨p, q, Bw'⟩ := bw_some f k e
      have B : Bo a b c d p q := .inr Bw'
      obtain ⟨q0, q1, p1', -⟩ := bw_fq f k Bw'
      obtain ⟨b13, b14, b15, b16, b17, l2, el⟩ := loopP (n := n) (ns := ns) (g := g) z f k Bw' (rng 0 4) pl [O.lst [.int a, fr 1 (2 * b * b)], O.lst [.int c, fr 1 (2 * d * d)], O.lst [.ref (g.length + 3), .ref (g.length + 4)], O.lst [fr 1 (2 * b * b), fr 1 (2 * d * d)], O.lst [.bl (((a * d - c * b).natAbs : Int) == 1), .str (plc a b c d), gap a b c d, btw a b c d p q], O.lst [.bl (((a * d - c * b).natAbs : Int) == 1), .str (plc a b c d), gap a b c d, btw a b c d p q]] none none none none none (by
        show pl + 4 < 2 ^ 20
        omega)
      refine ⟨pl + 4, l2, by omega, ?_⟩
      have p1 := pr1 (n := n) f k (hp ds ns pl (g ++ []))
      have p2 := pr2 (n := n) (pl := pl) (ds := ds) (ns := ns) (g := g) f k
      have p3 := pr3 (n := n) (g := g) f k (hp ds ns pl (g ++ [O.lst [.int a, fr 1 (2 * b * b)], O.lst [.int c, fr 1 (2 * d * d)], O.lst [.ref (g.length + 3), .ref (g.length + 4)]]))
      have p4 := pr4 (n := n) (pl := pl) (ds := ds) (ns := ns) (g := g) f k
      have p5 := pr5 (n := n) (g := g) f k (hp ds ns pl (g ++ [O.lst [.int a, fr 1 (2 * b * b)], O.lst [.int c, fr 1 (2 * d * d)], O.lst [.ref (g.length + 3), .ref (g.length + 4)], O.lst [fr 1 (2 * b * b), fr 1 (2 * d * d)]]))
      have p6 := pr6 (n := n) (pl := pl) (ds := ds) (ns := ns) (g := g) f k B
      have p7 := pr7 (n := n) (pl := pl) (ds := ds) (ns := ns) (g := g) f k B (Sz.of 40000000 p1' (by decide +kernel)) (Sz.of 2000 (by omega) (by decide +kernel))
      have p8 := pr8n (n := n) (g := g) (hp ds ns pl (g ++ [O.lst [.int a, fr 1 (2 * b * b)], O.lst [.int c, fr 1 (2 * d * d)], O.lst [.ref (g.length + 3), .ref (g.length + 4)], O.lst [fr 1 (2 * b * b), fr 1 (2 * d * d)], O.lst [.bl (((a * d - c * b).natAbs : Int) == 1), .str (plc a b c d), gap a b c d, btw a b c d p q], O.lst [.bl (((a * d - c * b).natAbs : Int) == 1), .str (plc a b c d), gap a b c d, btw a b c d p q]])) e
      have p9 := pr9 (n := n) (pl := pl) (p := p) (q := q) (ds := ds) (ns := ns) (g := g) e
      have pL : evS pg 4000 (cP (n + 28)) (.for_ (.nm 13) (.rg [.lit (.int 4)]) bPr) [some (fr a b), some (fr c d), some (.ref 0), some (.ref 2), some (.int (a * d - c * b)), some (.ref (g.length + 5)), none, some (fr (top1 (a * d - c * b) (b * d)) (und1 (a * d - c * b) (b * d))), some (.ref (g.length + 6)), some (gap a b c d), some (.ref (g.length + 7)), none, some (fr p q), none, none, none, none, none] (hp ds ns pl (g ++ [O.lst [.int a, fr 1 (2 * b * b)], O.lst [.int c, fr 1 (2 * d * d)], O.lst [.ref (g.length + 3), .ref (g.length + 4)], O.lst [fr 1 (2 * b * b), fr 1 (2 * d * d)], O.lst [.bl (((a * d - c * b).natAbs : Int) == 1), .str (plc a b c d), gap a b c d, btw a b c d p q], O.lst [.bl (((a * d - c * b).natAbs : Int) == 1), .str (plc a b c d), gap a b c d, btw a b c d p q]])) = .nx [some (fr a b), some (fr c d), some (.ref 0), some (.ref 2), some (.int (a * d - c * b)), some (.ref (g.length + 5)), none, some (fr (top1 (a * d - c * b) (b * d)) (und1 (a * d - c * b) (b * d))), some (.ref (g.length + 6)), some (gap a b c d), some (.ref (g.length + 7)), none, some (fr p q), b13, b14, b15, b16, b17] (hp ds ns (pl + 4) (g ++ l2)) := by
        rw [s_for]
        simp only [evSs, s_exp, s_asg, s_par, s_aug, s_ret, s_ife, e_var, e_lit, e_glo, e_neg, e_not, e_bin, e_and, e_or, e_ite, e_cmp, e_chn, e_tup, e_lst, e_sub, e_call, e_blt, e_isi, evEs, evT, evI, List.getElem?_cons_succ, List.getElem?_cons_zero, bind_ok, then_ok, nx_then, rt_then, give_some, Option.map_some, t_int, t_abs, iabs_nat, b_add, b_sub, neg_i, tr_bl, s_fr0, s_fr1, Tg.put, Tg.puts, setsP, List.set_cons_succ, List.set_cons_zero, if_true, if_false, Bool.false_eq_true, Bool.not_true, Bool.not_false, c_lt, c_le, c_gt, c_ge, c_eq, c_ne, isi_t, len2, bind_exc, then_exc, ex_then, walkRg, show rngOk 4 = true by decide]
        exact el
      simp only [evSs, p1, p2, p3, p4, p5, p6, p7, p8, p9, pL, nx_then]
      simp only [evSs, s_exp, s_asg, s_par, s_aug, s_ret, s_ife, e_var, e_lit, e_glo, e_neg, e_not, e_bin, e_and, e_or, e_ite, e_cmp, e_chn, e_tup, e_lst, e_sub, e_call, e_blt, e_isi, evEs, evT, evI, List.getElem?_cons_succ, List.getElem?_cons_zero, bind_ok, then_ok, nx_then, rt_then, give_some, Option.map_some, t_int, t_abs, iabs_nat, b_add, b_sub, neg_i, tr_bl, s_fr0, s_fr1, Tg.put, Tg.puts, setsP, List.set_cons_succ, List.set_cons_zero, if_true, if_false, Bool.false_eq_true, Bool.not_true, Bool.not_false, c_lt, c_le, c_gt, c_ge, c_eq, c_ne, isi_t, len2, bind_exc, then_exc, ex_then]
  obtain ⟨pl', l, h1, e⟩ := go
  obtain ⟨g', e2⟩ := rt_hp (n := n + 28) (f := 45) (d := f__law_pair_right) (xs := [fr a b, fr c d, .ref 0, .ref 2]) rfl rfl e (fun m => rfl)
  refine ⟨pl', g', h1, ?_⟩
  show callP _ _ _ _ = _
  rw [callP_ref (by rfl)]
  exact e2
end
end My

/-! text Q12 -/
set_option Elab.async false
set_option linter.all false
set_option maxRecDepth 100000
set_option maxHeartbeats 4000000
/-! k46: the nearest ones, as the law finds them -/
namespace My
open PySem Ev Pl
abbrev Fz := Int × Int
abbrev fz (p : Fz) : A := fr p.1 p.2
def dnT (a b u : Int) : Int := if ((a * u).fdiv b) * b = a * u then (a * u).fdiv b - 1 else (a * u).fdiv b
def dn (a b u : Int) : Fz := (top1 (dnT a b u) u, und1 (dnT a b u) u)
def up (a b u : Int) : Fz := (top1 ((a * u).fdiv b + 1) u, und1 ((a * u).fdiv b + 1) u)
def lo2 (l d : Fz) : Fz := if l.1 * d.2 < d.1 * l.2 then d else l
def hi2 (h u : Fz) : Fz := if u.1 * h.2 < h.1 * u.2 then u else h
def nearR (a b : Int) : Nat → Int → Fz → Fz → Fz × Fz
  | 0, _, l, h => (l, h)
  | m + 1, i, l, h => nearR a b m (i + 1) (lo2 l (dn a b i)) (hi2 h (up a b i))
def near (a b : Int) (m : Nat) : Fz × Fz := nearR a b (m - 1) 2 (dn a b 1) (up a b 1)
def bNr : List S := [.asg (.nm 5) (.bin .FloorDiv (.bin .Mult (.sub (.var 0) (.lit (.int 0))) (.var 4)) (.sub (.var 0) (.lit (.int 1)))), .asg (.nm 6) (.call 35 [.ite (.val (.cmp .Eq (.bin .Mult (.var 5) (.sub (.var 0) (.lit (.int 1)))) (.bin .Mult (.sub (.var 0) (.lit (.int 0))) (.var 4)))) (.bin .Sub (.var 5) (.lit (.int 1))) (.var 5), .var 4]), .asg (.nm 7) (.call 35 [.bin .Add (.var 5) (.lit (.int 1)), .var 4]), .asg (.nm 2) (.ite (.or (.val (.cmp .Is (.var 2) (.lit .non))) (.val (.call 37 [.var 2, .var 6]))) (.var 6) (.var 2)), .asg (.nm 3) (.ite (.or (.val (.cmp .Is (.var 3) (.lit .non))) (.val (.call 37 [.var 7, .var 3]))) (.var 7) (.var 3))]
theorem near_body : f__law_near.body = [.asg (.tp [.nm 2, .nm 3]) (.tup [.lit .non, .lit .non]), .for_ (.nm 4) (.rg [.lit (.int 1), .bin .Add (.var 1) (.lit (.int 1))]) bNr, .ret (.tup [.var 2, .var 3])] := rfl
theorem is_tup (xs : List A) (h : Ho) : cmpA .Is (.tup xs) .non h = some false := rfl
/-- small enough, the denominator above 0 -/
structure Fs (p : Fz) : Prop where
  a : Sz 60 p.1
  b : Sz 60 p.2
section
variable {n : Nat} {a b : Int} {h : Ho}
theorem dn_up_s (f : Fq a b) {u : Int} (h1 : 1 ≤ u) (h2 : u ≤ 5000) : Sz 27 ((a * u).fdiv b) ∧ Fs (dn a b u) ∧ Fs (up a b u) := by
  have su : Sz 13 u := Sz.of 5000 (by omega)
  have sau : (a * u).natAbs ≤ 50000000 := by
    rw [Int.natAbs_mul]
    exact Nat.mul_le_mul f.lo (show u.natAbs ≤ 5000 by omega)
  have hw := fdiv_abs f.po sau
  have s1 : Sz 27 ((a * u).fdiv b) := Sz.of 50000000 hw
  have s2 : Sz 27 ((a * u).fdiv b + 1) := Sz.of 50000001 (by omega)
  have s3 : Sz 27 (dnT a b u) := by
    unfold dnT
    split
    · exact Sz.of 50000001 (by omega)
    · exact s1
  exact ⟨s1, ⟨(Sz.top (by omega) s3).mono, (Sz.und (by omega) su).mono⟩, ⟨(Sz.top (by omega) s2).mono, (Sz.und (by omega) su).mono⟩⟩
theorem near_first {s1 a5 a6 a7 : Option A} (f : Fq a b) {u : Int} (h1 : 1 ≤ u) (h2 : u ≤ 5000) : ∃ b5, evSs pg 4000 (cP (n + 2)) bNr [some (fr a b), s1, some .non, some .non, some (.int u), a5, a6, a7] h = .nx [some (fr a b), s1, some (fz (dn a b u)), some (fz (up a b u)), some (.int u), b5, some (fz (dn a b u)), some (fz (up a b u))] h := by
  obtain ⟨t1, t2, t3⟩ := dn_up_s f h1 h2
  have su : Sz 13 u := Sz.of 5000 (by omega)
  refine ⟨some (.int ((a * u).fdiv b)), ?_⟩
  unfold dn up dnT bNr
  by_cases e : ((a * u).fdiv b) * b = a * u
  · have p1 := p_lmade (n := n) (a := (a * u).fdiv b - 1) (b := u) (h := h) (by omega) su.mono
    have p2 := p_lmade (n := n) (a := (a * u).fdiv b + 1) (b := u) (h := h) (by omega) su.mono
    simp only [evSs, s_exp, s_asg, s_par, s_aug, s_ret, s_ife, e_var, e_lit, e_glo, e_neg, e_not, e_bin, e_and, e_or, e_ite, e_cmp, e_chn, e_tup, e_lst, e_sub, e_call, e_blt, e_isi, evEs, evT, evI, List.getElem?_cons_succ, List.getElem?_cons_zero, bind_ok, then_ok, nx_then, rt_then, give_some, Option.map_some, t_int, t_abs, iabs_nat, b_add, b_sub, neg_i, tr_bl, s_fr0, s_fr1, Tg.put, Tg.puts, setsP, List.set_cons_succ, List.set_cons_zero, if_true, if_false, Bool.false_eq_true, Bool.not_true, Bool.not_false, c_lt, c_le, c_gt, c_ge, c_eq, c_ne, isi_t, len2, bind_exc, then_exc, ex_then, b_mul (f.sa.mulOk su), b_div (div_pos f.po f.sb.mono), b_mul (t1.mulOk f.sb), beq_iff_eq.mpr e, if_pos e, p1, p2, is_non]
  · have p1 := p_lmade (n := n) (a := (a * u).fdiv b) (b := u) (h := h) (by omega) su.mono
    have p2 := p_lmade (n := n) (a := (a * u).fdiv b + 1) (b := u) (h := h) (by omega) su.mono
    simp only [evSs, s_exp, s_asg, s_par, s_aug, s_ret, s_ife, e_var, e_lit, e_glo, e_neg, e_not, e_bin, e_and, e_or, e_ite, e_cmp, e_chn, e_tup, e_lst, e_sub, e_call, e_blt, e_isi, evEs, evT, evI, List.getElem?_cons_succ, List.getElem?_cons_zero, bind_ok, then_ok, nx_then, rt_then, give_some, Option.map_some, t_int, t_abs, iabs_nat, b_add, b_sub, neg_i, tr_bl, s_fr0, s_fr1, Tg.put, Tg.puts, setsP, List.set_cons_succ, List.set_cons_zero, if_true, if_false, Bool.false_eq_true, Bool.not_true, Bool.not_false, c_lt, c_le, c_gt, c_ge, c_eq, c_ne, isi_t, len2, bind_exc, then_exc, ex_then, b_mul (f.sa.mulOk su), b_div (div_pos f.po f.sb.mono), b_mul (t1.mulOk f.sb), beq_eq_false_iff_ne.mpr e, if_neg e, p1, p2, is_non]
theorem near_next {s1 a5 a6 a7 : Option A} {l k : Fz} (f : Fq a b) (sl : Fs l) (sk : Fs k) {u : Int} (h1 : 1 ≤ u) (h2 : u ≤ 5000) : ∃ b5 b6 b7, evSs pg 4000 (cP (n + 2)) bNr [some (fr a b), s1, some (fz l), some (fz k), some (.int u), a5, a6, a7] h = .nx [some (fr a b), s1, some (fz (lo2 l (dn a b u))), some (fz (hi2 k (up a b u))), some (.int u), b5, b6, b7] h := by
  obtain ⟨t1, t2, t3⟩ := dn_up_s f h1 h2
  have su : Sz 13 u := Sz.of 5000 (by omega)
  refine ⟨some (.int ((a * u).fdiv b)), some (fz (dn a b u)), some (fz (up a b u)), ?_⟩
  have q1 := p_below (n := n + 1) (h := h) (sl.a.mono (l := 800)) (sl.b.mono (l := 800)) (t2.a.mono (l := 800)) (t2.b.mono (l := 800))
  have q2 := p_below (n := n + 1) (h := h) (t3.a.mono (l := 800)) (t3.b.mono (l := 800)) (sk.a.mono (l := 800)) (sk.b.mono (l := 800))
  have p2 : cP (n + 2) 35 [.int ((a * u).fdiv b + 1), .int u] h = .ok (fz (up a b u)) h := p_lmade (n := n) (a := (a * u).fdiv b + 1) (b := u) (h := h) (by omega) su.mono
  have p1 : cP (n + 2) 35 [.int (dnT a b u), .int u] h = .ok (fz (dn a b u)) h := p_lmade (n := n) (a := dnT a b u) (b := u) (h := h) (by omega) su.mono
  generalize hd : dn a b u = D at *
  generalize hu : up a b u = U at *
  have c1 : fz (lo2 l D) = if decide (l.1 * D.2 < D.1 * l.2) = true then fz D else fz l := by
    unfold lo2
    by_cases q : l.1 * D.2 < D.1 * l.2
    · rw [if_pos q, decide_eq_true q, if_pos rfl]
    · rw [if_neg q, decide_eq_false q, if_neg (by decide)]
  have c2 : fz (hi2 k U) = if decide (U.1 * k.2 < k.1 * U.2) = true then fz U else fz k := by
    unfold hi2
    by_cases q : U.1 * k.2 < k.1 * U.2
    · rw [if_pos q, decide_eq_true q, if_pos rfl]
    · rw [if_neg q, decide_eq_false q, if_neg (by decide)]
  rw [c1, c2]
  generalize decide (l.1 * D.2 < D.1 * l.2) = v1 at *
  generalize decide (U.1 * k.2 < k.1 * U.2) = v2 at *
  unfold dnT at p1
  unfold bNr
  by_cases e : ((a * u).fdiv b) * b = a * u
  · rw [if_pos e] at p1
    cases v1 <;> cases v2 <;> simp only [evSs, s_exp, s_asg, s_par, s_aug, s_ret, s_ife, e_var, e_lit, e_glo, e_neg, e_not, e_bin, e_and, e_or, e_ite, e_cmp, e_chn, e_tup, e_lst, e_sub, e_call, e_blt, e_isi, evEs, evT, evI, List.getElem?_cons_succ, List.getElem?_cons_zero, bind_ok, then_ok, nx_then, rt_then, give_some, Option.map_some, t_int, t_abs, iabs_nat, b_add, b_sub, neg_i, tr_bl, s_fr0, s_fr1, Tg.put, Tg.puts, setsP, List.set_cons_succ, List.set_cons_zero, if_true, if_false, Bool.false_eq_true, Bool.not_true, Bool.not_false, c_lt, c_le, c_gt, c_ge, c_eq, c_ne, isi_t, len2, bind_exc, then_exc, ex_then, b_mul (f.sa.mulOk su), b_div (div_pos f.po f.sb.mono), b_mul (t1.mulOk f.sb), beq_iff_eq.mpr e, p1, p2, is_tup, q1, q2]
  · rw [if_neg e] at p1
    cases v1 <;> cases v2 <;> simp only [evSs, s_exp, s_asg, s_par, s_aug, s_ret, s_ife, e_var, e_lit, e_glo, e_neg, e_not, e_bin, e_and, e_or, e_ite, e_cmp, e_chn, e_tup, e_lst, e_sub, e_call, e_blt, e_isi, evEs, evT, evI, List.getElem?_cons_succ, List.getElem?_cons_zero, bind_ok, then_ok, nx_then, rt_then, give_some, Option.map_some, t_int, t_abs, iabs_nat, b_add, b_sub, neg_i, tr_bl, s_fr0, s_fr1, Tg.put, Tg.puts, setsP, List.set_cons_succ, List.set_cons_zero, if_true, if_false, Bool.false_eq_true, Bool.not_true, Bool.not_false, c_lt, c_le, c_gt, c_ge, c_eq, c_ne, isi_t, len2, bind_exc, then_exc, ex_then, b_mul (f.sa.mulOk su), b_div (div_pos f.po f.sb.mono), b_mul (t1.mulOk f.sb), beq_eq_false_iff_ne.mpr e, p1, p2, is_tup, q1, q2]
theorem lo2_s {l d : Fz} (h1 : Fs l) (h2 : Fs d) : Fs (lo2 l d) := by
  unfold lo2
  split
  · exact h2
  · exact h1
theorem hi2_s {l d : Fz} (h1 : Fs l) (h2 : Fs d) : Fs (hi2 l d) := by
  unfold hi2
  split
  · exact h2
  · exact h1
theorem near_loop {s1 : Option A} (f : Fq a b) : ∀ (m : Nat) (i : Int) (l k : Fz) (a4 a5 a6 a7 : Option A), Fs l → Fs k → 1 ≤ i → i + m ≤ 5000 → ∃ b4 b5 b6 b7, forL [] (.nm 4) (fun σ h => evSs pg 4000 (cP (n + 2)) bNr σ h) (rn i m) [some (fr a b), s1, some (fz l), some (fz k), a4, a5, a6, a7] h = .nx [some (fr a b), s1, some (fz (nearR a b m i l k).1), some (fz (nearR a b m i l k).2), b4, b5, b6, b7] h
  | 0, i, l, k, a4, a5, a6, a7, _, _, _, _ => ⟨a4, a5, a6, a7, rfl⟩
  | m + 1, i, l, k, a4, a5, a6, a7, sl, sk, h1, h2 => by
    obtain ⟨t1, t2, t3⟩ := dn_up_s f h1 (show i ≤ 5000 by omega)
    obtain ⟨b5, b6, b7, e⟩ := near_next (n := n) (h := h) (s1 := s1) (a5 := a5) (a6 := a6) (a7 := a7) f sl sk h1 (show i ≤ 5000 by omega)
    obtain ⟨c4, c5, c6, c7, e2⟩ := near_loop (s1 := s1) f m (i + 1) (lo2 l (dn a b i)) (hi2 k (up a b i)) (some (.int i)) b5 b6 b7 (lo2_s sl t2) (hi2_s sk t3) (by omega) (by omega)
    refine ⟨c4, c5, c6, c7, ?_⟩
    show forL [] (.nm 4) _ (.int i :: rn (i + 1) m) _ _ = _
    unfold forL
    rw [if_pos still0]
    simp only [Tg.put, List.set_cons_succ, List.set_cons_zero, e]
    exact e2
theorem near_rng {m : Nat} (h1 : 1 ≤ m) : rng 1 ((m : Int) + 1) = .int 1 :: rn 2 (m - 1) := by
  obtain ⟨k, rfl⟩ : ∃ k, m = k + 1 := ⟨m - 1, by omega⟩
  rw [rng_run, show (((k + 1 : Nat) : Int) + 1 - 1).toNat = k + 1 by omega, Nat.add_sub_cancel]
  rfl
theorem near_ok {m : Nat} (h2 : m ≤ 1000) : rngOk ((m : Int) + 1) = true := by
  unfold rngOk
  rw [decide_eq_true (show -(2 ^ 62) ≤ (m : Int) + 1 by omega), decide_eq_true (show (m : Int) + 1 < 2 ^ 62 by omega)]
  rfl
theorem near_for (f : Fq a b) {m : Nat} {v : Int} (hv : (m : Int) = v) (h1 : 1 ≤ m) (h2 : m ≤ 1000) : ∃ c4 c5 c6 c7, evS pg 4000 (cP (n + 2)) (.for_ (.nm 4) (.rg [.lit (.int 1), .bin .Add (.var 1) (.lit (.int 1))]) bNr) [some (fr a b), some (.int v), some .non, some .non, none, none, none, none] h = .nx [some (fr a b), some (.int v), some (fz (near a b m).1), some (fz (near a b m).2), c4, c5, c6, c7] h := by
  have r1 := near_ok h2
  have r2 := near_rng h1
  rw [hv] at r1 r2
  obtain ⟨t1, t2, t3⟩ := dn_up_s f (u := 1) (by decide) (by decide)
  obtain ⟨b5, e⟩ := near_first (n := n) (h := h) (s1 := some (.int v)) (a5 := none) (a6 := none) (a7 := none) f (u := 1) (by decide) (by decide)
  obtain ⟨c4, c5, c6, c7, e2⟩ := near_loop (n := n) (h := h) (s1 := some (.int v)) f (m - 1) 2 (dn a b 1) (up a b 1) (some (.int 1)) b5 (some (fz (dn a b 1))) (some (fz (up a b 1))) t2 t3 (by decide) (by omega)
  refine ⟨c4, c5, c6, c7, ?_⟩
  unfold near
  rw [s_for]
  have e0 : evI (cP (n + 2)) (.rg [.lit (.int 1), .bin .Add (.var 1) (.lit (.int 1))]) [some (fr a b), some (.int v), some .non, some .non, none, none, none, none] h = .ok (.int 1 :: rn 2 (m - 1), []) h := by
    simp only [evSs, s_exp, s_asg, s_par, s_aug, s_ret, s_ife, e_var, e_lit, e_glo, e_neg, e_not, e_bin, e_and, e_or, e_ite, e_cmp, e_chn, e_tup, e_lst, e_sub, e_call, e_blt, e_isi, evEs, evT, evI, List.getElem?_cons_succ, List.getElem?_cons_zero, bind_ok, then_ok, nx_then, rt_then, give_some, Option.map_some, t_int, t_abs, iabs_nat, b_add, b_sub, neg_i, tr_bl, s_fr0, s_fr1, Tg.put, Tg.puts, setsP, List.set_cons_succ, List.set_cons_zero, if_true, if_false, Bool.false_eq_true, Bool.not_true, Bool.not_false, c_lt, c_le, c_gt, c_ge, c_eq, c_ne, isi_t, len2, bind_exc, then_exc, ex_then, walkRg, r1, show rngOk 1 = true by decide, Bool.and_self, r2]
  rw [e0, then_ok]
  dsimp only
  unfold forL
  rw [if_pos still0]
  simp only [Tg.put, List.set_cons_succ, List.set_cons_zero, e]
  exact e2
theorem k_near (f : Fq a b) {m : Nat} {v : Int} (hv : (m : Int) = v) (h1 : 1 ≤ m) (h2 : m ≤ 1000) : cK (n + 3) 41 [fr a b, .int v] [] = .ok (.tup [fz (near a b m).1, fz (near a b m).2]) [] := by
  refine enter (d := f__law_near) rfl rfl (h' := []) ?_ rfl
  obtain ⟨c4, c5, c6, c7, eL⟩ := near_for (n := n) (h := []) f hv h1 h2
  show evSs pg 4000 (cP (n + 2)) f__law_near.body [some (fr a b), some (.int v), none, none, none, none, none, none] [] = _
  rw [near_body]
  generalize fz (near a b m).1 = U at *
  generalize fz (near a b m).2 = V at *
  simp only [evSs, s_exp, s_asg, s_par, s_aug, s_ret, s_ife, e_var, e_lit, e_glo, e_neg, e_not, e_bin, e_and, e_or, e_ite, e_cmp, e_chn, e_tup, e_lst, e_sub, e_call, e_blt, e_isi, evEs, evT, evI, List.getElem?_cons_succ, List.getElem?_cons_zero, bind_ok, then_ok, nx_then, rt_then, give_some, Option.map_some, t_int, t_abs, iabs_nat, b_add, b_sub, neg_i, tr_bl, s_fr0, s_fr1, Tg.put, Tg.puts, setsP, List.set_cons_succ, List.set_cons_zero, if_true, if_false, Bool.false_eq_true, Bool.not_true, Bool.not_false, c_lt, c_le, c_gt, c_ge, c_eq, c_ne, isi_t, len2, bind_exc, then_exc, ex_then, eL]
theorem p_near (f : Fq a b) {m : Nat} {v : Int} (hv : (m : Int) = v) (h1 : 1 ≤ m) (h2 : m ≤ 1000) : cP (n + 3) 41 [fr a b, .int v] h = .ok (.tup [fz (near a b m).1, fz (near a b m).2]) h := cp (k_near f hv h1 h2) rfl rfl h
end
end My

/-! text Q13 -/
set_option Elab.async false
set_option linter.all false
set_option maxRecDepth 100000
set_option maxHeartbeats 4000000
/-! k46: the neighbours, as the program finds them: what is computed where all numbers are small, else none -/
namespace My
open PySem Ev Pl
def z60 (x : Int) : Bool := decide (x.natAbs < 2 ^ 60)
theorem z60_sz {x : Int} (h : z60 x = true) : Sz 60 x := (of_decide_eq_true h : x.natAbs < 2 ^ 60)
def tiL : Nat → Int → Int → Int → Int → Option Int
  | 0, _, _, _, _ => none
  | f + 1, fi, s, o, nw => if s = 0 then some o else if z60 fi && z60 s && z60 o && z60 nw && z60 (fi.fdiv s) then tiL f s (fi - fi.fdiv s * s) nw (o - fi.fdiv s * nw) else none
def tin (a b way : Int) : Option Int := if b = 1 then some 1 else match tiL 40 b (a.fmod b) 0 1 with
  | some o => if z60 o then some ((0 - way * o).fmod b) else none
  | none => none
def bTi : List S := [.asg (.nm 8) (.bin .FloorDiv (.var 4) (.var 5)), .par [4, 5] [.var 5, .bin .Sub (.var 4) (.bin .Mult (.var 8) (.var 5))], .par [6, 7] [.var 7, .bin .Sub (.var 6) (.bin .Mult (.var 8) (.var 7))]]
theorem s_whl (C : Nat → List A → Ho → R A) (σ : Sl) (h : Ho) (P : Pg) (W : Nat) (c : T) (b : List S) : evS P W C (.whl c b) σ h = whileL (evT C c) (fun σ h => evSs P W C b σ h) W σ h := by rw [evS]
theorem tr_int (i : Int) (h : Ho) : truth (.int i) h = some (i != 0) := rfl
theorem div_ok {x : Int} (h0 : x ≠ 0) (h : Sz 60 x) : divOk x = true := by
  have h4 := h.log
  unfold divOk
  rw [Bool.and_eq_true]
  exact ⟨bne_iff_ne.mpr h0, Nat.ble_eq_true_of_le (by omega)⟩
theorem wh_stop {c : Sl → Ho → R Bool} {b : Sl → Ho → Ot} {N : Nat} {σ : Sl} {h : Ho} (hc : c σ h = .ok false h) (hN : 0 < N) : whileL c b N σ h = .nx σ h := by
  obtain ⟨m, rfl⟩ : ∃ m, N = m + 1 := ⟨N - 1, by omega⟩
  unfold whileL
  rw [hc]
  rfl
theorem wh_step {c : Sl → Ho → R Bool} {b : Sl → Ho → Ot} {N : Nat} {σ σ' : Sl} {h h' : Ho} (hc : c σ h = .ok true h) (hb : b σ h = .nx σ' h') : whileL c b (N + 1) σ h = whileL c b N σ' h' := by
  conv => lhs; unfold whileL
  rw [hc, then_ok, if_pos rfl, hb]
section
variable {n : Nat} {a b way : Int} {h : Ho}
theorem ti_loop {s0 s1 s2 s3 : Option A} : ∀ (f N : Nat) (fi s o nw r : Int) (a8 : Option A), tiL f fi s o nw = some r → f ≤ N → ∃ b4 b7 b8, whileL (evT (cP n) (.val (.var 5))) (fun σ h => evSs pg 4000 (cP n) bTi σ h) N [s0, s1, s2, s3, some (.int fi), some (.int s), some (.int o), some (.int nw), a8] h = .nx [s0, s1, s2, s3, b4, some (.int 0), some (.int r), b7, b8] h
  | 0, _, _, _, _, _, _, _, e, _ => by cases e
  | f + 1, N, fi, s, o, nw, r, a8, e, hN => by
    unfold tiL at e
    by_cases h0 : s = 0
    · rw [if_pos h0] at e
      cases e
      subst h0
      exact ⟨_, _, _, wh_stop (by simp only [evSs, s_exp, s_asg, s_par, s_aug, s_ret, s_ife, e_var, e_lit, e_glo, e_neg, e_not, e_bin, e_and, e_or, e_ite, e_cmp, e_chn, e_tup, e_lst, e_sub, e_call, e_blt, e_isi, evEs, evT, evI, List.getElem?_cons_succ, List.getElem?_cons_zero, bind_ok, then_ok, nx_then, rt_then, give_some, Option.map_some, t_int, t_abs, iabs_nat, b_add, b_sub, neg_i, tr_bl, s_fr0, s_fr1, Tg.put, Tg.puts, setsP, List.set_cons_succ, List.set_cons_zero, if_true, if_false, Bool.false_eq_true, Bool.not_true, Bool.not_false, c_lt, c_le, c_gt, c_ge, c_eq, c_ne, isi_t, len2, bind_exc, then_exc, ex_then, tr_int]; rfl) (by omega)⟩
    · rw [if_neg h0] at e
      by_cases hz : (z60 fi && z60 s && z60 o && z60 nw && z60 (fi.fdiv s)) = true
      · rw [if_pos hz] at e
        simp only [Bool.and_eq_true] at hz
        obtain ⟨⟨⟨⟨z1, z2⟩, z3⟩, z4⟩, z5⟩ := hz
        have z2 := z60_sz z2
        have z4 := z60_sz z4
        have z5 := z60_sz z5
        obtain ⟨M, rfl⟩ : ∃ m, N = m + 1 := ⟨N - 1, by omega⟩
        have hc : evT (cP n) (.val (.var 5)) [s0, s1, s2, s3, some (.int fi), some (.int s), some (.int o), some (.int nw), a8] h = .ok true h := by
          simp only [evSs, s_exp, s_asg, s_par, s_aug, s_ret, s_ife, e_var, e_lit, e_glo, e_neg, e_not, e_bin, e_and, e_or, e_ite, e_cmp, e_chn, e_tup, e_lst, e_sub, e_call, e_blt, e_isi, evEs, evT, evI, List.getElem?_cons_succ, List.getElem?_cons_zero, bind_ok, then_ok, nx_then, rt_then, give_some, Option.map_some, t_int, t_abs, iabs_nat, b_add, b_sub, neg_i, tr_bl, s_fr0, s_fr1, Tg.put, Tg.puts, setsP, List.set_cons_succ, List.set_cons_zero, if_true, if_false, Bool.false_eq_true, Bool.not_true, Bool.not_false, c_lt, c_le, c_gt, c_ge, c_eq, c_ne, isi_t, len2, bind_exc, then_exc, ex_then, tr_int, bne_iff_ne.mpr h0]
        have hb : evSs pg 4000 (cP n) bTi [s0, s1, s2, s3, some (.int fi), some (.int s), some (.int o), some (.int nw), a8] h = .nx [s0, s1, s2, s3, some (.int s), some (.int (fi - fi.fdiv s * s)), some (.int nw), some (.int (o - fi.fdiv s * nw)), some (.int (fi.fdiv s))] h := by
          unfold bTi
          simp only [evSs, s_exp, s_asg, s_par, s_aug, s_ret, s_ife, e_var, e_lit, e_glo, e_neg, e_not, e_bin, e_and, e_or, e_ite, e_cmp, e_chn, e_tup, e_lst, e_sub, e_call, e_blt, e_isi, evEs, evT, evI, List.getElem?_cons_succ, List.getElem?_cons_zero, bind_ok, then_ok, nx_then, rt_then, give_some, Option.map_some, t_int, t_abs, iabs_nat, b_add, b_sub, neg_i, tr_bl, s_fr0, s_fr1, Tg.put, Tg.puts, setsP, List.set_cons_succ, List.set_cons_zero, if_true, if_false, Bool.false_eq_true, Bool.not_true, Bool.not_false, c_lt, c_le, c_gt, c_ge, c_eq, c_ne, isi_t, len2, bind_exc, then_exc, ex_then, b_div (div_ok h0 z2), b_mul (z5.mulOk z2), b_mul (z5.mulOk z4)]
        obtain ⟨b4, b7, b8, e2⟩ := ti_loop (s0 := s0) (s1 := s1) (s2 := s2) (s3 := s3) f M s _ nw _ r (some (.int (fi.fdiv s))) e (by omega)
        refine ⟨b4, b7, b8, ?_⟩
        rw [wh_step hc hb]
        exact e2
      · rw [if_neg hz] at e
        cases e
theorem k_tin (f : Fq a b) (sw : Sz 2 way) {r : Int} (e : tin a b way = some r) : cK (n + 1) 20 [fr a b, .int way] [] = .ok (.int r) [] := by
  refine enter (d := f_turned_in) rfl rfl (h' := []) ?_ rfl
  show evSs pg 4000 (cP n) [.par [2, 3] [.bin .Mod (.sub (.var 0) (.lit (.int 0))) (.sub (.var 0) (.lit (.int 1))), .sub (.var 0) (.lit (.int 1))], .ife (.val (.cmp .Eq (.var 3) (.lit (.int 1)))) [.ret (.lit (.int 1))] [], .asg (.tp [.nm 4, .nm 5, .nm 6, .nm 7]) (.tup [.var 3, .var 2, .lit (.int 0), .lit (.int 1)]), .whl (.val (.var 5)) bTi, .ret (.bin .Mod (.bin .Sub (.lit (.int 0)) (.bin .Mult (.var 1) (.var 6))) (.var 3))] [some (fr a b), some (.int way), none, none, none, none, none, none, none] [] = _
  have hb0 : (b != 0) = true := bne_iff_ne.mpr (by have := f.po; omega)
  unfold tin at e
  by_cases h1 : b = 1
  · rw [if_pos h1] at e
    cases e
    simp only [evSs, s_exp, s_asg, s_par, s_aug, s_ret, s_ife, e_var, e_lit, e_glo, e_neg, e_not, e_bin, e_and, e_or, e_ite, e_cmp, e_chn, e_tup, e_lst, e_sub, e_call, e_blt, e_isi, evEs, evT, evI, List.getElem?_cons_succ, List.getElem?_cons_zero, bind_ok, then_ok, nx_then, rt_then, give_some, Option.map_some, t_int, t_abs, iabs_nat, b_add, b_sub, neg_i, tr_bl, s_fr0, s_fr1, Tg.put, Tg.puts, setsP, List.set_cons_succ, List.set_cons_zero, if_true, if_false, Bool.false_eq_true, Bool.not_true, Bool.not_false, c_lt, c_le, c_gt, c_ge, c_eq, c_ne, isi_t, len2, bind_exc, then_exc, ex_then, b_mod hb0, beq_iff_eq.mpr h1]
  · rw [if_neg h1] at e
    cases q : tiL 40 b (a.fmod b) 0 1 with
    | none =>
      rw [q] at e
      cases e
    | some o =>
      rw [q] at e
      have e : (if z60 o = true then some ((0 - way * o).fmod b) else none) = some r := e
      by_cases hz : z60 o = true
      · rw [if_pos hz] at e
        cases e
        obtain ⟨b4, b7, b8, e2⟩ := ti_loop (n := n) (h := []) (s0 := some (fr a b)) (s1 := some (.int way)) (s2 := some (.int (a.fmod b))) (s3 := some (.int b)) 40 4000 b (a.fmod b) 0 1 o none q (by decide)
        rw [← s_whl] at e2
        simp only [evSs, s_exp, s_asg, s_par, s_aug, s_ret, s_ife, e_var, e_lit, e_glo, e_neg, e_not, e_bin, e_and, e_or, e_ite, e_cmp, e_chn, e_tup, e_lst, e_sub, e_call, e_blt, e_isi, evEs, evT, evI, List.getElem?_cons_succ, List.getElem?_cons_zero, bind_ok, then_ok, nx_then, rt_then, give_some, Option.map_some, t_int, t_abs, iabs_nat, b_add, b_sub, neg_i, tr_bl, s_fr0, s_fr1, Tg.put, Tg.puts, setsP, List.set_cons_succ, List.set_cons_zero, if_true, if_false, Bool.false_eq_true, Bool.not_true, Bool.not_false, c_lt, c_le, c_gt, c_ge, c_eq, c_ne, isi_t, len2, bind_exc, then_exc, ex_then, b_mod hb0, beq_eq_false_iff_ne.mpr h1, e2, b_mul (sw.mulOk (z60_sz hz))]
      · rw [if_neg hz] at e
        cases e
/-! ### steps in -/
def mtm (a b m1 m2 o1 o2 most : Int) : Option Int :=
  let top := ((m1 * b - a * m2).natAbs : Int)
  let und := ((o1 * b - a * o2).natAbs : Int)
  let room := (most - m2).fdiv o2
  let r := if (top - 1).fdiv und < room then (top - 1).fdiv und else room
  if z60 m1 && z60 m2 && z60 o1 && z60 o2 && z60 und && decide (o2 ≠ 0) && decide (und ≠ 0) then some (if 1 < r then r else 1) else none
theorem mx (i j : Int) (h : Ho) : bltA .max [.int i, .int j] h = .ok (.int (if i < j then j else i)) h := rfl
theorem mn (i j : Int) (h : Ho) : bltA .min [.int i, .int j] h = .ok (.int (if j < i then j else i)) h := rfl
theorem k_mtm (f : Fq a b) {m1 m2 o1 o2 most r : Int} (e : mtm a b m1 m2 o1 o2 most = some r) : cK (n + 2) 19 [fr a b, fr m1 m2, fr o1 o2, .int most] [] = .ok (.int r) [] := by
  unfold mtm at e
  dsimp only at e
  by_cases hz : (z60 m1 && z60 m2 && z60 o1 && z60 o2 && z60 ((o1 * b - a * o2).natAbs : Int) && decide (o2 ≠ 0) && decide (((o1 * b - a * o2).natAbs : Int) ≠ 0)) = true
  · rw [if_pos hz] at e
    simp only [Bool.and_eq_true, decide_eq_true_eq] at hz
    obtain ⟨⟨⟨⟨⟨⟨z1, z2⟩, z3⟩, z4⟩, z5⟩, z6⟩, z7⟩ := hz
    have z1 := z60_sz z1
    have z2 := z60_sz z2
    have z3 := z60_sz z3
    have z4 := z60_sz z4
    have z5 := z60_sz z5
    refine enter (d := f_most_times) rfl rfl (h' := []) ?_ rfl
    show evSs pg 4000 (cP (n + 1)) f_most_times.body [some (fr a b), some (fr m1 m2), some (fr o1 o2), some (.int most), none, none, none] [] = _
    unfold f_most_times
    have c1 := p_cross (n := n) (h := []) (f.sa.mono (l := 800)) (f.sb.mono (l := 800)) (z1.mono (l := 800)) (z2.mono (l := 800))
    have c2 := p_cross (n := n) (h := []) (f.sa.mono (l := 800)) (f.sb.mono (l := 800)) (z3.mono (l := 800)) (z4.mono (l := 800))
    generalize ((m1 * b - a * m2)) = T at *
    generalize ((o1 * b - a * o2)) = U at *
    generalize hU : (U.natAbs : Int) = u at *
    generalize hT : (T.natAbs : Int) = t at *
    have e := Option.some.inj e
    simp only [evSs, s_exp, s_asg, s_par, s_aug, s_ret, s_ife, e_var, e_lit, e_glo, e_neg, e_not, e_bin, e_and, e_or, e_ite, e_cmp, e_chn, e_tup, e_lst, e_sub, e_call, e_blt, e_isi, evEs, evT, evI, List.getElem?_cons_succ, List.getElem?_cons_zero, bind_ok, then_ok, nx_then, rt_then, give_some, Option.map_some, t_int, t_abs, iabs_nat, b_add, b_sub, neg_i, tr_bl, s_fr0, s_fr1, Tg.put, Tg.puts, setsP, List.set_cons_succ, List.set_cons_zero, if_true, if_false, Bool.false_eq_true, Bool.not_true, Bool.not_false, c_lt, c_le, c_gt, c_ge, c_eq, c_ne, isi_t, len2, bind_exc, then_exc, ex_then, b_div (div_ok z6 z4), c1, c2, hU, hT, b_div (div_ok z7 z5), mx, mn]
    rw [← e]
  · rw [if_neg hz] at e
    cases e
def stp (a b : Int) (l k : Fz) (most : Int) : Option (Fz × Fz) :=
  if z60 l.1 && z60 l.2 && z60 k.1 && z60 k.2 && z60 (l.1 + k.1) && z60 (l.2 + k.2) then
    if 0 < (l.1 + k.1) * b - a * (l.2 + k.2) then match mtm a b k.1 k.2 l.1 l.2 most with
      | some t => if z60 t then some (l, (k.1 + t * l.1, k.2 + t * l.2)) else none
      | none => none
    else match mtm a b l.1 l.2 k.1 k.2 most with
      | some t => if z60 t then some ((l.1 + t * k.1, l.2 + t * k.2), k) else none
      | none => none
  else none
theorem k_stp (f : Fq a b) {l k : Fz} {most : Int} {r : Fz × Fz} (e : stp a b l k most = some r) : cK (n + 3) 18 [fr a b, fz l, fz k, .int most] [] = .ok (.tup [fz r.1, fz r.2]) [] := by
  obtain ⟨l1, l2⟩ := l
  obtain ⟨k1, k2⟩ := k
  unfold stp at e
  dsimp only at e
  by_cases hz : (z60 l1 && z60 l2 && z60 k1 && z60 k2 && z60 (l1 + k1) && z60 (l2 + k2)) = true
  · rw [if_pos hz] at e
    simp only [Bool.and_eq_true] at hz
    obtain ⟨⟨⟨⟨⟨z1, z2⟩, z3⟩, z4⟩, z5⟩, z6⟩ := hz
    have z1 := z60_sz z1
    have z2 := z60_sz z2
    have z3 := z60_sz z3
    have z4 := z60_sz z4
    have z5 := z60_sz z5
    have z6 := z60_sz z6
    have c1 := p_cross (n := n + 1) (h := []) (f.sa.mono (l := 800)) (f.sb.mono (l := 800)) (z5.mono (l := 800)) (z6.mono (l := 800))
    refine enter (d := f_steps_in) rfl rfl (h' := []) ?_ rfl
    show evSs pg 4000 (cP (n + 2)) f_steps_in.body [some (fr a b), some (fr l1 l2), some (fr k1 k2), some (.int most), none, none] [] = _
    unfold f_steps_in
    by_cases hp : 0 < (l1 + k1) * b - a * (l2 + k2)
    · rw [if_pos hp] at e
      cases q : mtm a b k1 k2 l1 l2 most with
      | none =>
        rw [q] at e
        cases e
      | some t =>
        rw [q] at e
        have e : (if z60 t = true then some ((l1, l2), (k1 + t * l1, k2 + t * l2)) else none) = some r := e
        by_cases hz : z60 t = true
        · rw [if_pos hz] at e
          cases e
          have m1 := cp (k_mtm (n := n) f q) rfl rfl []
          simp only [evSs, s_exp, s_asg, s_par, s_aug, s_ret, s_ife, e_var, e_lit, e_glo, e_neg, e_not, e_bin, e_and, e_or, e_ite, e_cmp, e_chn, e_tup, e_lst, e_sub, e_call, e_blt, e_isi, evEs, evT, evI, List.getElem?_cons_succ, List.getElem?_cons_zero, bind_ok, then_ok, nx_then, rt_then, give_some, Option.map_some, t_int, t_abs, iabs_nat, b_add, b_sub, neg_i, tr_bl, s_fr0, s_fr1, Tg.put, Tg.puts, setsP, List.set_cons_succ, List.set_cons_zero, if_true, if_false, Bool.false_eq_true, Bool.not_true, Bool.not_false, c_lt, c_le, c_gt, c_ge, c_eq, c_ne, isi_t, len2, bind_exc, then_exc, ex_then, c1, decide_eq_true hp, m1, b_mul ((z60_sz hz).mulOk z1), b_mul ((z60_sz hz).mulOk z2)]
        · rw [if_neg hz] at e
          cases e
    · rw [if_neg hp] at e
      cases q : mtm a b l1 l2 k1 k2 most with
      | none =>
        rw [q] at e
        cases e
      | some t =>
        rw [q] at e
        have e : (if z60 t = true then some ((l1 + t * k1, l2 + t * k2), (k1, k2)) else none) = some r := e
        by_cases hz : z60 t = true
        · rw [if_pos hz] at e
          cases e
          have m1 := cp (k_mtm (n := n) f q) rfl rfl []
          simp only [evSs, s_exp, s_asg, s_par, s_aug, s_ret, s_ife, e_var, e_lit, e_glo, e_neg, e_not, e_bin, e_and, e_or, e_ite, e_cmp, e_chn, e_tup, e_lst, e_sub, e_call, e_blt, e_isi, evEs, evT, evI, List.getElem?_cons_succ, List.getElem?_cons_zero, bind_ok, then_ok, nx_then, rt_then, give_some, Option.map_some, t_int, t_abs, iabs_nat, b_add, b_sub, neg_i, tr_bl, s_fr0, s_fr1, Tg.put, Tg.puts, setsP, List.set_cons_succ, List.set_cons_zero, if_true, if_false, Bool.false_eq_true, Bool.not_true, Bool.not_false, c_lt, c_le, c_gt, c_ge, c_eq, c_ne, isi_t, len2, bind_exc, then_exc, ex_then, c1, decide_eq_false hp, m1, b_mul ((z60_sz hz).mulOk z3), b_mul ((z60_sz hz).mulOk z4)]
        · rw [if_neg hz] at e
          cases e
  · rw [if_neg hz] at e
    cases e
/-! ### sides -/
def soL (a b most : Int) : Nat → Fz → Fz → Option (Fz × Fz)
  | 0, _, _ => none
  | f + 1, l, k => if l.2 + k.2 ≤ most then match stp a b l k most with
      | some r => soL a b most f r.1 r.2
      | none => none
    else some (l, k)
def sid (a b most way : Int) : Option Fz :=
  if b ≤ most then match tin a b way with
    | some u => if z60 u && z60 ((most - u).fdiv b) && z60 (u + (most - u).fdiv b * b) then some ((a * (u + (most - u).fdiv b * b) + way).fdiv b, u + (most - u).fdiv b * b) else none
    | none => none
  else match soL a b most 60 (a.fdiv b, 1) (a.fdiv b + 1, 1) with
    | some r => some (if way < 0 then r.1 else r.2)
    | none => none
def bSo : List S := [.asg (.tp [.nm 4, .nm 5]) (.call 18 [.var 0, .var 4, .var 5, .var 1])]
theorem so_loop (f : Fq a b) {most : Int} {s2 s3 : Option A} : ∀ (g N : Nat) (l k : Fz) (r : Fz × Fz), soL a b most g l k = some r → g ≤ N → whileL (evT (cP (n + 3)) (.val (.cmp .LtE (.bin .Add (.sub (.var 4) (.lit (.int 1))) (.sub (.var 5) (.lit (.int 1)))) (.var 1)))) (fun σ h => evSs pg 4000 (cP (n + 3)) bSo σ h) N [some (fr a b), some (.int most), s2, s3, some (fz l), some (fz k)] h = .nx [some (fr a b), some (.int most), s2, s3, some (fz r.1), some (fz r.2)] h
  | 0, _, _, _, _, e, _ => by cases e
  | g + 1, N, l, k, r, e, hN => by
    unfold soL at e
    by_cases h0 : l.2 + k.2 ≤ most
    · rw [if_pos h0] at e
      cases q : stp a b l k most with
      | none =>
        rw [q] at e
        cases e
      | some t =>
        rw [q] at e
        obtain ⟨M, rfl⟩ : ∃ m, N = m + 1 := ⟨N - 1, by omega⟩
        have st := cp (k_stp (n := n) f q) rfl rfl h
        have e2 := so_loop f (s2 := s2) (s3 := s3) g M t.1 t.2 r e (by omega)
        rw [wh_step (σ' := [some (fr a b), some (.int most), s2, s3, some (fz t.1), some (fz t.2)]) (h' := h) (by simp only [evSs, s_exp, s_asg, s_par, s_aug, s_ret, s_ife, e_var, e_lit, e_glo, e_neg, e_not, e_bin, e_and, e_or, e_ite, e_cmp, e_chn, e_tup, e_lst, e_sub, e_call, e_blt, e_isi, evEs, evT, evI, List.getElem?_cons_succ, List.getElem?_cons_zero, bind_ok, then_ok, nx_then, rt_then, give_some, Option.map_some, t_int, t_abs, iabs_nat, b_add, b_sub, neg_i, tr_bl, s_fr0, s_fr1, Tg.put, Tg.puts, setsP, List.set_cons_succ, List.set_cons_zero, if_true, if_false, Bool.false_eq_true, Bool.not_true, Bool.not_false, c_lt, c_le, c_gt, c_ge, c_eq, c_ne, isi_t, len2, bind_exc, then_exc, ex_then, decide_eq_true h0]) (by
          unfold bSo
          simp only [evSs, s_exp, s_asg, s_par, s_aug, s_ret, s_ife, e_var, e_lit, e_glo, e_neg, e_not, e_bin, e_and, e_or, e_ite, e_cmp, e_chn, e_tup, e_lst, e_sub, e_call, e_blt, e_isi, evEs, evT, evI, List.getElem?_cons_succ, List.getElem?_cons_zero, bind_ok, then_ok, nx_then, rt_then, give_some, Option.map_some, t_int, t_abs, iabs_nat, b_add, b_sub, neg_i, tr_bl, s_fr0, s_fr1, Tg.put, Tg.puts, setsP, List.set_cons_succ, List.set_cons_zero, if_true, if_false, Bool.false_eq_true, Bool.not_true, Bool.not_false, c_lt, c_le, c_gt, c_ge, c_eq, c_ne, isi_t, len2, bind_exc, then_exc, ex_then, st])]
        exact e2
    · rw [if_neg h0] at e
      cases e
      exact wh_stop (by simp only [evSs, s_exp, s_asg, s_par, s_aug, s_ret, s_ife, e_var, e_lit, e_glo, e_neg, e_not, e_bin, e_and, e_or, e_ite, e_cmp, e_chn, e_tup, e_lst, e_sub, e_call, e_blt, e_isi, evEs, evT, evI, List.getElem?_cons_succ, List.getElem?_cons_zero, bind_ok, then_ok, nx_then, rt_then, give_some, Option.map_some, t_int, t_abs, iabs_nat, b_add, b_sub, neg_i, tr_bl, s_fr0, s_fr1, Tg.put, Tg.puts, setsP, List.set_cons_succ, List.set_cons_zero, if_true, if_false, Bool.false_eq_true, Bool.not_true, Bool.not_false, c_lt, c_le, c_gt, c_ge, c_eq, c_ne, isi_t, len2, bind_exc, then_exc, ex_then, decide_eq_false h0]) (by omega)
theorem g_add (i j : Int) (h : Ho) : augA .Add (.int i) (.int j) h = .ok (.int (i + j)) h := rfl
theorem k_sid (f : Fq a b) (sw : Sz 2 way) {most : Int} {r : Fz} (e : sid a b most way = some r) : cK (n + 4) 17 [fr a b, .int most, .int way] [] = .ok (fz r) [] := by
  refine enter (d := f_side_of) rfl rfl (h' := []) ?_ rfl
  show evSs pg 4000 (cP (n + 3)) [.ife (.val (.cmp .LtE (.sub (.var 0) (.lit (.int 1))) (.var 1))) [.asg (.nm 3) (.call 20 [.var 0, .var 2]), .aug 3 .Add (.bin .Mult (.bin .FloorDiv (.bin .Sub (.var 1) (.var 3)) (.sub (.var 0) (.lit (.int 1)))) (.sub (.var 0) (.lit (.int 1)))), .ret (.tup [.bin .FloorDiv (.bin .Add (.bin .Mult (.sub (.var 0) (.lit (.int 0))) (.var 3)) (.var 2)) (.sub (.var 0) (.lit (.int 1))), .var 3])] [], .par [4, 5] [.tup [.bin .FloorDiv (.sub (.var 0) (.lit (.int 0))) (.sub (.var 0) (.lit (.int 1))), .lit (.int 1)], .tup [.bin .Add (.bin .FloorDiv (.sub (.var 0) (.lit (.int 0))) (.sub (.var 0) (.lit (.int 1)))) (.lit (.int 1)), .lit (.int 1)]], .whl (.val (.cmp .LtE (.bin .Add (.sub (.var 4) (.lit (.int 1))) (.sub (.var 5) (.lit (.int 1)))) (.var 1))) bSo, .ret (.ite (.val (.cmp .Lt (.var 2) (.lit (.int 0)))) (.var 4) (.var 5))] [some (fr a b), some (.int most), some (.int way), none, none, none] [] = _
  unfold sid at e
  by_cases h1 : b ≤ most
  · rw [if_pos h1] at e
    cases q : tin a b way with
    | none =>
      rw [q] at e
      cases e
    | some u =>
      rw [q] at e
      have e : (if (z60 u && z60 ((most - u).fdiv b) && z60 (u + (most - u).fdiv b * b)) = true then some ((a * (u + (most - u).fdiv b * b) + way).fdiv b, u + (most - u).fdiv b * b) else none) = some r := e
      by_cases hz : (z60 u && z60 ((most - u).fdiv b) && z60 (u + (most - u).fdiv b * b)) = true
      · rw [if_pos hz] at e
        cases e
        simp only [Bool.and_eq_true] at hz
        obtain ⟨⟨z1, z2⟩, z3⟩ := hz
        have t := cp (k_tin (n := n + 2) f sw q) rfl rfl []
        simp only [evSs, s_exp, s_asg, s_par, s_aug, s_ret, s_ife, e_var, e_lit, e_glo, e_neg, e_not, e_bin, e_and, e_or, e_ite, e_cmp, e_chn, e_tup, e_lst, e_sub, e_call, e_blt, e_isi, evEs, evT, evI, List.getElem?_cons_succ, List.getElem?_cons_zero, bind_ok, then_ok, nx_then, rt_then, give_some, Option.map_some, t_int, t_abs, iabs_nat, b_add, b_sub, neg_i, tr_bl, s_fr0, s_fr1, Tg.put, Tg.puts, setsP, List.set_cons_succ, List.set_cons_zero, if_true, if_false, Bool.false_eq_true, Bool.not_true, Bool.not_false, c_lt, c_le, c_gt, c_ge, c_eq, c_ne, isi_t, len2, bind_exc, then_exc, ex_then, decide_eq_true h1, t, b_div (div_pos f.po f.sb.mono), b_mul ((z60_sz z2).mulOk f.sb), g_add, b_mul (f.sa.mulOk (z60_sz z3))]
      · rw [if_neg hz] at e
        cases e
  · rw [if_neg h1] at e
    cases q : soL a b most 60 (a.fdiv b, 1) (a.fdiv b + 1, 1) with
    | none =>
      rw [q] at e
      cases e
    | some r' =>
      rw [q] at e
      have e := Option.some.inj e
      have w := so_loop (n := n) (h := []) f (s2 := some (.int way)) (s3 := none) 60 4000 _ _ r' q (by decide)
      have w : whileL (evT (cP (n + 3)) (.val (.cmp .LtE (.bin .Add (.sub (.var 4) (.lit (.int 1))) (.sub (.var 5) (.lit (.int 1)))) (.var 1)))) (fun σ h => evSs pg 4000 (cP (n + 3)) bSo σ h) 4000 [some (fr a b), some (.int most), some (.int way), none, some (fr (a.fdiv b) 1), some (fr (a.fdiv b + 1) 1)] [] = .nx [some (fr a b), some (.int most), some (.int way), none, some (fz r'.1), some (fz r'.2)] [] := w
      rw [← s_whl] at w
      by_cases h2 : way < 0
      · rw [if_pos h2] at e
        subst e
        simp only [evSs, s_exp, s_asg, s_par, s_aug, s_ret, s_ife, e_var, e_lit, e_glo, e_neg, e_not, e_bin, e_and, e_or, e_ite, e_cmp, e_chn, e_tup, e_lst, e_sub, e_call, e_blt, e_isi, evEs, evT, evI, List.getElem?_cons_succ, List.getElem?_cons_zero, bind_ok, then_ok, nx_then, rt_then, give_some, Option.map_some, t_int, t_abs, iabs_nat, b_add, b_sub, neg_i, tr_bl, s_fr0, s_fr1, Tg.put, Tg.puts, setsP, List.set_cons_succ, List.set_cons_zero, if_true, if_false, Bool.false_eq_true, Bool.not_true, Bool.not_false, c_lt, c_le, c_gt, c_ge, c_eq, c_ne, isi_t, len2, bind_exc, then_exc, ex_then, decide_eq_false h1, b_div (div_pos f.po f.sb.mono), w, decide_eq_true h2]
      · rw [if_neg h2] at e
        subst e
        simp only [evSs, s_exp, s_asg, s_par, s_aug, s_ret, s_ife, e_var, e_lit, e_glo, e_neg, e_not, e_bin, e_and, e_or, e_ite, e_cmp, e_chn, e_tup, e_lst, e_sub, e_call, e_blt, e_isi, evEs, evT, evI, List.getElem?_cons_succ, List.getElem?_cons_zero, bind_ok, then_ok, nx_then, rt_then, give_some, Option.map_some, t_int, t_abs, iabs_nat, b_add, b_sub, neg_i, tr_bl, s_fr0, s_fr1, Tg.put, Tg.puts, setsP, List.set_cons_succ, List.set_cons_zero, if_true, if_false, Bool.false_eq_true, Bool.not_true, Bool.not_false, c_lt, c_le, c_gt, c_ge, c_eq, c_ne, isi_t, len2, bind_exc, then_exc, ex_then, decide_eq_false h1, b_div (div_pos f.po f.sb.mono), w, decide_eq_false h2]
theorem k_nbr (f : Fq a b) {m : Int} {l k : Fz} (h1 : 1 ≤ m) (h2 : m ≤ 1000000) (el : sid a b m (-1) = some l) (ek : sid a b m 1 = some k) : cK (n + 5) 16 [fr a b, .int m] [] = .ok (.tup [fz l, fz k]) [] := by
  refine enter (d := f_neighbours) rfl rfl (h' := []) ?_ rfl
  show evSs pg 4000 (cP (n + 4)) f_neighbours.body [some (fr a b), some (.int m)] [] = _
  unfold f_neighbours
  have t1 := cp (k_sid (n := n) f (by unfold Sz; decide) el) rfl rfl []
  have t2 := cp (k_sid (n := n) f (by unfold Sz; decide) ek) rfl rfl []
  simp only [evSs, s_exp, s_asg, s_par, s_aug, s_ret, s_ife, e_var, e_lit, e_glo, e_neg, e_not, e_bin, e_and, e_or, e_ite, e_cmp, e_chn, e_tup, e_lst, e_sub, e_call, e_blt, e_isi, evEs, evT, evI, List.getElem?_cons_succ, List.getElem?_cons_zero, bind_ok, then_ok, nx_then, rt_then, give_some, Option.map_some, t_int, t_abs, iabs_nat, b_add, b_sub, neg_i, tr_bl, s_fr0, s_fr1, Tg.put, Tg.puts, setsP, List.set_cons_succ, List.set_cons_zero, if_true, if_false, Bool.false_eq_true, Bool.not_true, Bool.not_false, c_lt, c_le, c_gt, c_ge, c_eq, c_ne, isi_t, len2, bind_exc, then_exc, ex_then, p_demand f, p_range h1 h2, t1, t2]
theorem t_nbr (f : Fq a b) {m : Int} {l k : Fz} (h1 : 1 ≤ m) (h2 : m ≤ 1000000) (el : sid a b m (-1) = some l) (ek : sid a b m 1 = some k) : cP (n + 27) 36 [.int 3, fr a b, .int m, .non] h = .ok (.tup [fz l, fz k]) h := by
  refine cp ?_ rfl rfl h
  refine told_rt (h' := [.lst fns]) ?_ rfl
  rw [told_call (n := n + 26) (i := 3) (v1 := fr a b) (v2 := .int m) (v3 := .non) 16 (by decide) (by decide) rfl (.rt (.tup [fz l, fz k]) [.lst fns]) (by
    rw [cp (k_nbr (n := n + 21) f h1 h2 el ek) rfl rfl]
    rfl)]
  rfl
end
end My

/-! text Q14 -/
set_option Elab.async false
set_option linter.all false
set_option maxRecDepth 100000
set_option maxHeartbeats 4000000
/-! k46: all drawn fractions: the neighbours are the nearest ones -/
namespace My
open PySem Ev Pl
def eqz (x : Option Fz) (y : Fz) : Bool := match x with
  | some p => p.1 == y.1 && p.2 == y.2
  | none => false
def fqB (p : Fz) : Bool := Nat.ble p.1.natAbs 10000 && decide (0 < p.2) && decide (p.2 ≤ 1000) && gc p.1 p.2 == 1
def bounds : List Nat := [1, 2, 7, 20, 50]
def dens : List Int := [1, 2, 3, 5, 7, 12, 29, 40]
def chk (a b : Int) : Bool := fqB (a, b) && fqB (near a b 9).1 && fqB (near a b 30).2 && fqB (a + b, b) && bounds.all fun m => eqz (sid a b (m : Int) (-1)) (near a b m).1 && eqz (sid a b (m : Int) 1) (near a b m).2
def chkT (t : Int) : Bool := dens.all fun u => chk (top1 (t - 30) u) (und1 (t - 30) u)
theorem ck0 : chkT 0 = true := by decide +kernel
theorem ck1 : chkT 1 = true := by decide +kernel
theorem ck2 : chkT 2 = true := by decide +kernel
theorem ck3 : chkT 3 = true := by decide +kernel
theorem ck4 : chkT 4 = true := by decide +kernel
theorem ck5 : chkT 5 = true := by decide +kernel
theorem ck6 : chkT 6 = true := by decide +kernel
theorem ck7 : chkT 7 = true := by decide +kernel
theorem ck8 : chkT 8 = true := by decide +kernel
theorem ck9 : chkT 9 = true := by decide +kernel
theorem ck10 : chkT 10 = true := by decide +kernel
theorem ck11 : chkT 11 = true := by decide +kernel
theorem ck12 : chkT 12 = true := by decide +kernel
theorem ck13 : chkT 13 = true := by decide +kernel
theorem ck14 : chkT 14 = true := by decide +kernel
theorem ck15 : chkT 15 = true := by decide +kernel
theorem ck16 : chkT 16 = true := by decide +kernel
theorem ck17 : chkT 17 = true := by decide +kernel
theorem ck18 : chkT 18 = true := by decide +kernel
theorem ck19 : chkT 19 = true := by decide +kernel
theorem ck20 : chkT 20 = true := by decide +kernel
theorem ck21 : chkT 21 = true := by decide +kernel
theorem ck22 : chkT 22 = true := by decide +kernel
theorem ck23 : chkT 23 = true := by decide +kernel
theorem ck24 : chkT 24 = true := by decide +kernel
theorem ck25 : chkT 25 = true := by decide +kernel
theorem ck26 : chkT 26 = true := by decide +kernel
theorem ck27 : chkT 27 = true := by decide +kernel
theorem ck28 : chkT 28 = true := by decide +kernel
theorem ck29 : chkT 29 = true := by decide +kernel
theorem ck30 : chkT 30 = true := by decide +kernel
theorem ck31 : chkT 31 = true := by decide +kernel
theorem ck32 : chkT 32 = true := by decide +kernel
theorem ck33 : chkT 33 = true := by decide +kernel
theorem ck34 : chkT 34 = true := by decide +kernel
theorem ck35 : chkT 35 = true := by decide +kernel
theorem ck36 : chkT 36 = true := by decide +kernel
theorem ck37 : chkT 37 = true := by decide +kernel
theorem ck38 : chkT 38 = true := by decide +kernel
theorem ck39 : chkT 39 = true := by decide +kernel
theorem ck40 : chkT 40 = true := by decide +kernel
theorem ck41 : chkT 41 = true := by decide +kernel
theorem ck42 : chkT 42 = true := by decide +kernel
theorem ck43 : chkT 43 = true := by decide +kernel
theorem ck44 : chkT 44 = true := by decide +kernel
theorem ck45 : chkT 45 = true := by decide +kernel
theorem ck46 : chkT 46 = true := by decide +kernel
theorem ck47 : chkT 47 = true := by decide +kernel
theorem ck48 : chkT 48 = true := by decide +kernel
theorem ck49 : chkT 49 = true := by decide +kernel
theorem ck50 : chkT 50 = true := by decide +kernel
theorem ck51 : chkT 51 = true := by decide +kernel
theorem ck52 : chkT 52 = true := by decide +kernel
theorem ck53 : chkT 53 = true := by decide +kernel
theorem ck54 : chkT 54 = true := by decide +kernel
theorem ck55 : chkT 55 = true := by decide +kernel
theorem ck56 : chkT 56 = true := by decide +kernel
theorem ck57 : chkT 57 = true := by decide +kernel
theorem ck58 : chkT 58 = true := by decide +kernel
theorem ck59 : chkT 59 = true := by decide +kernel
theorem ck60 : chkT 60 = true := by decide +kernel
theorem cks : ∀ t : Nat, t < 61 → chkT (t : Int) = true
  | 0, _ => ck0
  | 1, _ => ck1
  | 2, _ => ck2
  | 3, _ => ck3
  | 4, _ => ck4
  | 5, _ => ck5
  | 6, _ => ck6
  | 7, _ => ck7
  | 8, _ => ck8
  | 9, _ => ck9
  | 10, _ => ck10
  | 11, _ => ck11
  | 12, _ => ck12
  | 13, _ => ck13
  | 14, _ => ck14
  | 15, _ => ck15
  | 16, _ => ck16
  | 17, _ => ck17
  | 18, _ => ck18
  | 19, _ => ck19
  | 20, _ => ck20
  | 21, _ => ck21
  | 22, _ => ck22
  | 23, _ => ck23
  | 24, _ => ck24
  | 25, _ => ck25
  | 26, _ => ck26
  | 27, _ => ck27
  | 28, _ => ck28
  | 29, _ => ck29
  | 30, _ => ck30
  | 31, _ => ck31
  | 32, _ => ck32
  | 33, _ => ck33
  | 34, _ => ck34
  | 35, _ => ck35
  | 36, _ => ck36
  | 37, _ => ck37
  | 38, _ => ck38
  | 39, _ => ck39
  | 40, _ => ck40
  | 41, _ => ck41
  | 42, _ => ck42
  | 43, _ => ck43
  | 44, _ => ck44
  | 45, _ => ck45
  | 46, _ => ck46
  | 47, _ => ck47
  | 48, _ => ck48
  | 49, _ => ck49
  | 50, _ => ck50
  | 51, _ => ck51
  | 52, _ => ck52
  | 53, _ => ck53
  | 54, _ => ck54
  | 55, _ => ck55
  | 56, _ => ck56
  | 57, _ => ck57
  | 58, _ => ck58
  | 59, _ => ck59
  | 60, _ => ck60
  | t + 61, h => absurd h (by omega)
end My

/-! text Q15 -/
set_option Elab.async false
set_option linter.all false
set_option maxRecDepth 100000
set_option maxHeartbeats 4000000
/-! k46: all drawn fractions: ways down and turns -/
namespace My
open PySem Ev Pl
def isV (r : R A) (v : A) : Bool := match r with
  | .ok w [] => A.beq w v
  | _ => false
def rOk (x : A) : Bool := match dataOf [] x with
  | some d => d.showable && !d.hasDict && Nat.ble d.depth 64 && lineOk d.shown.length
  | none => false
def wchk (a b : Int) : Bool := if 0 < a then match cK 29 43 [fr a b] [] with
    | .ok v _ => A.inb 0 v && isV (cK 29 36 [.int 9, fr a b, .non, .non] []) v && isV (cK 29 36 [.int 10, v, .non, .non] []) (fr a b) && rOk v
    | _ => false
  else isV (cK 29 36 [.int 9, fr a b, .non, .non] []) (.tup [.str "argument", .str "one"])
def wchkT (t : Int) : Bool := dens.all fun u => wchk (top1 (t - 30) u) (und1 (t - 30) u)
theorem wk0 : wchkT 0 = true := by decide +kernel
theorem wk1 : wchkT 1 = true := by decide +kernel
theorem wk2 : wchkT 2 = true := by decide +kernel
theorem wk3 : wchkT 3 = true := by decide +kernel
theorem wk4 : wchkT 4 = true := by decide +kernel
theorem wk5 : wchkT 5 = true := by decide +kernel
theorem wk6 : wchkT 6 = true := by decide +kernel
theorem wk7 : wchkT 7 = true := by decide +kernel
theorem wk8 : wchkT 8 = true := by decide +kernel
theorem wk9 : wchkT 9 = true := by decide +kernel
theorem wk10 : wchkT 10 = true := by decide +kernel
theorem wk11 : wchkT 11 = true := by decide +kernel
theorem wk12 : wchkT 12 = true := by decide +kernel
theorem wk13 : wchkT 13 = true := by decide +kernel
theorem wk14 : wchkT 14 = true := by decide +kernel
theorem wk15 : wchkT 15 = true := by decide +kernel
theorem wk16 : wchkT 16 = true := by decide +kernel
theorem wk17 : wchkT 17 = true := by decide +kernel
theorem wk18 : wchkT 18 = true := by decide +kernel
theorem wk19 : wchkT 19 = true := by decide +kernel
theorem wk20 : wchkT 20 = true := by decide +kernel
theorem wk21 : wchkT 21 = true := by decide +kernel
theorem wk22 : wchkT 22 = true := by decide +kernel
theorem wk23 : wchkT 23 = true := by decide +kernel
theorem wk24 : wchkT 24 = true := by decide +kernel
theorem wk25 : wchkT 25 = true := by decide +kernel
theorem wk26 : wchkT 26 = true := by decide +kernel
theorem wk27 : wchkT 27 = true := by decide +kernel
theorem wk28 : wchkT 28 = true := by decide +kernel
theorem wk29 : wchkT 29 = true := by decide +kernel
theorem wk30 : wchkT 30 = true := by decide +kernel
theorem wk31 : wchkT 31 = true := by decide +kernel
theorem wk32 : wchkT 32 = true := by decide +kernel
theorem wk33 : wchkT 33 = true := by decide +kernel
theorem wk34 : wchkT 34 = true := by decide +kernel
theorem wk35 : wchkT 35 = true := by decide +kernel
theorem wk36 : wchkT 36 = true := by decide +kernel
theorem wk37 : wchkT 37 = true := by decide +kernel
theorem wk38 : wchkT 38 = true := by decide +kernel
theorem wk39 : wchkT 39 = true := by decide +kernel
theorem wk40 : wchkT 40 = true := by decide +kernel
theorem wk41 : wchkT 41 = true := by decide +kernel
theorem wk42 : wchkT 42 = true := by decide +kernel
theorem wk43 : wchkT 43 = true := by decide +kernel
theorem wk44 : wchkT 44 = true := by decide +kernel
theorem wk45 : wchkT 45 = true := by decide +kernel
theorem wk46 : wchkT 46 = true := by decide +kernel
theorem wk47 : wchkT 47 = true := by decide +kernel
theorem wk48 : wchkT 48 = true := by decide +kernel
theorem wk49 : wchkT 49 = true := by decide +kernel
theorem wk50 : wchkT 50 = true := by decide +kernel
theorem wk51 : wchkT 51 = true := by decide +kernel
theorem wk52 : wchkT 52 = true := by decide +kernel
theorem wk53 : wchkT 53 = true := by decide +kernel
theorem wk54 : wchkT 54 = true := by decide +kernel
theorem wk55 : wchkT 55 = true := by decide +kernel
theorem wk56 : wchkT 56 = true := by decide +kernel
theorem wk57 : wchkT 57 = true := by decide +kernel
theorem wk58 : wchkT 58 = true := by decide +kernel
theorem wk59 : wchkT 59 = true := by decide +kernel
theorem wk60 : wchkT 60 = true := by decide +kernel
theorem wks : ∀ t : Nat, t < 61 → wchkT (t : Int) = true
  | 0, _ => wk0
  | 1, _ => wk1
  | 2, _ => wk2
  | 3, _ => wk3
  | 4, _ => wk4
  | 5, _ => wk5
  | 6, _ => wk6
  | 7, _ => wk7
  | 8, _ => wk8
  | 9, _ => wk9
  | 10, _ => wk10
  | 11, _ => wk11
  | 12, _ => wk12
  | 13, _ => wk13
  | 14, _ => wk14
  | 15, _ => wk15
  | 16, _ => wk16
  | 17, _ => wk17
  | 18, _ => wk18
  | 19, _ => wk19
  | 20, _ => wk20
  | 21, _ => wk21
  | 22, _ => wk22
  | 23, _ => wk23
  | 24, _ => wk24
  | 25, _ => wk25
  | 26, _ => wk26
  | 27, _ => wk27
  | 28, _ => wk28
  | 29, _ => wk29
  | 30, _ => wk30
  | 31, _ => wk31
  | 32, _ => wk32
  | 33, _ => wk33
  | 34, _ => wk34
  | 35, _ => wk35
  | 36, _ => wk36
  | 37, _ => wk37
  | 38, _ => wk38
  | 39, _ => wk39
  | 40, _ => wk40
  | 41, _ => wk41
  | 42, _ => wk42
  | 43, _ => wk43
  | 44, _ => wk44
  | 45, _ => wk45
  | 46, _ => wk46
  | 47, _ => wk47
  | 48, _ => wk48
  | 49, _ => wk49
  | 50, _ => wk50
  | 51, _ => wk51
  | 52, _ => wk52
  | 53, _ => wk53
  | 54, _ => wk54
  | 55, _ => wk55
  | 56, _ => wk56
  | 57, _ => wk57
  | 58, _ => wk58
  | 59, _ => wk59
  | 60, _ => wk60
  | t + 61, h => absurd h (by omega)
end My

/-! text Q16 -/
set_option Elab.async false
set_option linter.all false
set_option maxRecDepth 100000
set_option maxHeartbeats 4000000
/-! k46: from turns -/
namespace My
open PySem Ev Pl
abbrev St := Bool × Int
def wd (b : Bool) : Str := if b then "left" else "right"
def stA (s : St) : A := .tup [.str (wd s.1), .int s.2]
def ft1 (s : St) (l k : Fz) : Fz × Fz := if s.1 then (l, (k.1 + s.2 * l.1, k.2 + s.2 * l.2)) else ((l.1 + s.2 * k.1, l.2 + s.2 * k.2), k)
def ftL : List St → Fz → Fz → Fz × Fz
  | [], l, k => (l, k)
  | s :: r, l, k => ftL r (ft1 s l k).1 (ft1 s l k).2
theorem ftL_app (s : St) : ∀ (ts : List St) (l k : Fz), ftL (ts ++ [s]) l k = ft1 s (ftL ts l k).1 (ftL ts l k).2
  | [], l, k => rfl
  | t :: ts, l, k => ftL_app s ts _ _
structure Fw (w : Nat) (p : Fz) : Prop where
  a : Sz w p.1
  b : Sz w p.2
def okSt (s : St) : Prop := 1 ≤ s.2 ∧ s.2 ≤ 1000
theorem Fw.mono {w v : Nat} {p : Fz} (h : Fw w p) (q : w ≤ v) : Fw v p := ⟨h.a.mono q, h.b.mono q⟩
theorem ft1_s {w : Nat} {s : St} {l k : Fz} (hs : okSt s) (hl : Fw w l) (hk : Fw w k) : Fw (w + 11) (ft1 s l k).1 ∧ Fw (w + 11) (ft1 s l k).2 := by
  have ss : Sz 10 s.2 := Sz.of 1000 (by have := hs.1; have := hs.2; omega)
  unfold ft1
  split
  · refine ⟨hl.mono (by omega), ⟨?_, ?_⟩⟩
    · exact ((hk.a.mono (l := w + 10) (by omega)).add ((ss.mul hl.a).mono (l := w + 10) (by omega)))
    · exact ((hk.b.mono (l := w + 10) (by omega)).add ((ss.mul hl.b).mono (l := w + 10) (by omega)))
  · refine ⟨⟨?_, ?_⟩, hk.mono (by omega)⟩
    · exact ((hl.a.mono (l := w + 10) (by omega)).add ((ss.mul hk.a).mono (l := w + 10) (by omega)))
    · exact ((hl.b.mono (l := w + 10) (by omega)).add ((ss.mul hk.b).mono (l := w + 10) (by omega)))
theorem ftL_s : ∀ (ts : List St) (w : Nat) (l k : Fz), (∀ s ∈ ts, okSt s) → Fw w l → Fw w k → Fw (w + 11 * ts.length) (ftL ts l k).1 ∧ Fw (w + 11 * ts.length) (ftL ts l k).2
  | [], w, l, k, _, hl, hk => ⟨hl, hk⟩
  | s :: ts, w, l, k, h, hl, hk => by
    obtain ⟨h1, h2⟩ := ft1_s (h s List.mem_cons_self) hl hk
    obtain ⟨g1, g2⟩ := ftL_s ts (w + 11) _ _ (fun x hx => h x (List.mem_cons_of_mem _ hx)) h1 h2
    have e : w + 11 + 11 * ts.length = w + 11 * (s :: ts).length := by
      show _ = w + 11 * (ts.length + 1)
      omega
    rw [e] at g1 g2
    exact ⟨g1, g2⟩
theorem nin (b : Bool) (h : Ho) : cmpA .NotIn (.str (wd b)) (.tup [.str "left", .str "right"]) h = some false := by
  have key : ∀ b : Bool, (SeqAt.shaped (.str (wd b)) && SeqAt.shaped (.tuple [.str "left", .str "right"])) = true ∧ ([PyData.str "left", .str "right"].any fun z => PyData.eqv z (.str (wd b))) = true := by decide +kernel
  obtain ⟨k1, k2⟩ := key b
  show (if (SeqAt.shaped (.str (wd b)) && SeqAt.shaped (.tuple [.str "left", .str "right"])) = true then some ([PyData.str "left", .str "right"].any fun z => PyData.eqv z (.str (wd b))) else none).map _ = _
  rw [k1, k2]
  rfl
theorem eq_left (b : Bool) (h : Ho) : cmpA .Eq (.str (wd b)) (.str "left") h = some b := by
  cases b <;> rfl
def bFt : List S := [.ife (.or (.not (.val (.isi "tuple" (.var 3)))) (.or (.val (.cmp .NotEq (.blt .len [.var 3]) (.lit (.int 2)))) (.val (.cmp .NotIn (.sub (.var 3) (.lit (.int 0))) (.tup [.lit (.str "left"), .lit (.str "right")]))))) [.rais 0 [.lit (.str "turns")]] [], .ife (.not (.val (.call 1 [.sub (.var 3) (.lit (.int 1)), .lit (.int 1), .lit (.int 1000)]))) [.rais 0 [.lit (.str "turns")]] [], .ife (.val (.cmp .Eq (.sub (.var 3) (.lit (.int 0))) (.lit (.str "left")))) [.asg (.nm 2) (.tup [.bin .Add (.sub (.var 2) (.lit (.int 0))) (.bin .Mult (.sub (.var 3) (.lit (.int 1))) (.sub (.var 1) (.lit (.int 0)))), .bin .Add (.sub (.var 2) (.lit (.int 1))) (.bin .Mult (.sub (.var 3) (.lit (.int 1))) (.sub (.var 1) (.lit (.int 1))))])] [.asg (.nm 1) (.tup [.bin .Add (.sub (.var 1) (.lit (.int 0))) (.bin .Mult (.sub (.var 3) (.lit (.int 1))) (.sub (.var 2) (.lit (.int 0)))), .bin .Add (.sub (.var 1) (.lit (.int 1))) (.bin .Mult (.sub (.var 3) (.lit (.int 1))) (.sub (.var 2) (.lit (.int 1))))])]]
section
variable {n : Nat} {h : Ho}
theorem ft_turn {s0 : Option A} {s : St} {l k : Fz} (hs : okSt s) {w : Nat} (hw : w ≤ 800) (hl : Fw w l) (hk : Fw w k) : evSs pg 4000 (cP (n + 2)) bFt [s0, some (fz l), some (fz k), some (stA s)] h = .nx [s0, some (fz (ft1 s l k).1), some (fz (ft1 s l k).2), some (stA s)] h := by
  have ss : Sz 10 s.2 := Sz.of 1000 (by have := hs.1; have := hs.2; omega)
  obtain ⟨b, v⟩ := s
  have m1 : mulOk v l.1 = true := ss.mulOk hl.a (by omega)
  have m2 : mulOk v l.2 = true := ss.mulOk hl.b (by omega)
  have m3 : mulOk v k.1 = true := ss.mulOk hk.a (by omega)
  have m4 : mulOk v k.2 = true := ss.mulOk hk.b (by omega)
  unfold ft1 bFt stA
  cases b <;> simp only [evSs, s_exp, s_asg, s_par, s_aug, s_ret, s_ife, e_var, e_lit, e_glo, e_neg, e_not, e_bin, e_and, e_or, e_ite, e_cmp, e_chn, e_tup, e_lst, e_sub, e_call, e_blt, e_isi, evEs, evT, evI, List.getElem?_cons_succ, List.getElem?_cons_zero, bind_ok, then_ok, nx_then, rt_then, give_some, Option.map_some, t_int, t_abs, iabs_nat, b_add, b_sub, neg_i, tr_bl, s_fr0, s_fr1, Tg.put, Tg.puts, setsP, List.set_cons_succ, List.set_cons_zero, if_true, if_false, Bool.false_eq_true, Bool.not_true, Bool.not_false, c_lt, c_le, c_gt, c_ge, c_eq, c_ne, isi_t, len2, bind_exc, then_exc, ex_then, beq_self_eq_true, nin, eq_left, p_range (n := n) hs.1 hs.2, b_mul m1, b_mul m2, b_mul m3, b_mul m4]
theorem ft_loop {s0 : Option A} : ∀ (ts : List St) (l k : Fz) (a3 : Option A) (w : Nat), (∀ s ∈ ts, okSt s) → Fw w l → Fw w k → w + 11 * ts.length ≤ 800 → ∃ b3, forL [] (.nm 3) (fun σ h => evSs pg 4000 (cP (n + 2)) bFt σ h) (ts.map stA) [s0, some (fz l), some (fz k), a3] h = .nx [s0, some (fz (ftL ts l k).1), some (fz (ftL ts l k).2), b3] h
  | [], l, k, a3, w, _, _, _, _ => ⟨a3, rfl⟩
  | s :: ts, l, k, a3, w, hs, hl, hk, hw => by
    have hl' : (s :: ts).length = ts.length + 1 := rfl
    rw [hl'] at hw
    obtain ⟨h1, h2⟩ := ft1_s (hs s List.mem_cons_self) hl hk
    have e := ft_turn (n := n) (h := h) (s0 := s0) (hs s List.mem_cons_self) (show w ≤ 800 by omega) hl hk
    obtain ⟨b3, e2⟩ := ft_loop (s0 := s0) ts _ _ (some (stA s)) (w + 11) (fun x hx => hs x (List.mem_cons_of_mem _ hx)) h1 h2 (by omega)
    refine ⟨b3, ?_⟩
    show forL [] (.nm 3) _ (stA s :: ts.map stA) _ _ = _
    unfold forL
    rw [if_pos still0]
    simp only [Tg.put, List.set_cons_succ, List.set_cons_zero, e]
    exact e2
def ftS (ts : List St) : Fz := ((ftL ts (0, 1) (1, 0)).1.1 + (ftL ts (0, 1) (1, 0)).2.1, (ftL ts (0, 1) (1, 0)).1.2 + (ftL ts (0, 1) (1, 0)).2.2)
theorem fw1 : Fw 1 ((0, 1) : Fz) ∧ Fw 1 ((1, 0) : Fz) := by
  refine ⟨⟨?_, ?_⟩, ⟨?_, ?_⟩⟩ <;> (unfold Sz; decide)
theorem inbs_st : ∀ ts : List St, A.inbs 0 (ts.map stA) = true
  | [] => rfl
  | t :: ts => by
    show (A.inb 0 (stA t) && A.inbs 0 (ts.map stA)) = true
    rw [inbs_st ts]
    rfl
theorem k_from {ts : List St} (hs : ∀ s ∈ ts, okSt s) (hl : ts.length ≤ 30) : cK (n + 3) 28 [.tup (ts.map stA)] [] = .ok (fz (ftS ts)) [] := by
  refine enter (d := f_from_turns) rfl rfl (h' := []) ?_ rfl
  show evSs pg 4000 (cP (n + 2)) [.ife (.or (.not (.val (.isi "tuple" (.var 0)))) (.val (.cmp .Gt (.blt .len [.var 0]) (.lit (.int 30))))) [.rais 0 [.lit (.str "turns")]] [], .asg (.tp [.nm 1, .nm 2]) (.tup [.tup [.lit (.int 0), .lit (.int 1)], .tup [.lit (.int 1), .lit (.int 0)]]), .for_ (.nm 3) (.sq (.var 0)) bFt, .ret (.tup [.bin .Add (.sub (.var 1) (.lit (.int 0))) (.sub (.var 2) (.lit (.int 0))), .bin .Add (.sub (.var 1) (.lit (.int 1))) (.sub (.var 2) (.lit (.int 1)))])] [some (.tup (ts.map stA)), none, none, none] [] = _
  obtain ⟨b3, e⟩ := ft_loop (n := n) (h := []) (s0 := some (.tup (ts.map stA))) ts (0, 1) (1, 0) none 1 hs fw1.1 fw1.2 (by omega)
  have eL : evS pg 4000 (cP (n + 2)) (.for_ (.nm 3) (.sq (.var 0)) bFt) [some (.tup (ts.map stA)), some (fr 0 1), some (fr 1 0), none] [] = .nx [some (.tup (ts.map stA)), some (fz (ftL ts (0, 1) (1, 0)).1), some (fz (ftL ts (0, 1) (1, 0)).2), b3] [] := by
    rw [s_for]
    simp only [evSs, s_exp, s_asg, s_par, s_aug, s_ret, s_ife, e_var, e_lit, e_glo, e_neg, e_not, e_bin, e_and, e_or, e_ite, e_cmp, e_chn, e_tup, e_lst, e_sub, e_call, e_blt, e_isi, evEs, evT, evI, List.getElem?_cons_succ, List.getElem?_cons_zero, bind_ok, then_ok, nx_then, rt_then, give_some, Option.map_some, t_int, t_abs, iabs_nat, b_add, b_sub, neg_i, tr_bl, s_fr0, s_fr1, Tg.put, Tg.puts, setsP, List.set_cons_succ, List.set_cons_zero, if_true, if_false, Bool.false_eq_true, Bool.not_true, Bool.not_false, c_lt, c_le, c_gt, c_ge, c_eq, c_ne, isi_t, len2, bind_exc, then_exc, ex_then, walk_tup]
    exact e
  have ln : bltA .len [.tup (ts.map stA)] [] = .ok (.int ((ts.map stA).length : Int)) [] := rfl
  have ld : decide ((30 : Int) < ((ts.map stA).length : Int)) = false := by
    rw [List.length_map]
    exact decide_eq_false (by omega)
  generalize ((ts.map stA).length : Int) = v at *
  generalize ts.map stA = xs at *
  unfold ftS
  simp only [evSs, s_exp, s_asg, s_par, s_aug, s_ret, s_ife, e_var, e_lit, e_glo, e_neg, e_not, e_bin, e_and, e_or, e_ite, e_cmp, e_chn, e_tup, e_lst, e_sub, e_call, e_blt, e_isi, evEs, evT, evI, List.getElem?_cons_succ, List.getElem?_cons_zero, bind_ok, then_ok, nx_then, rt_then, give_some, Option.map_some, t_int, t_abs, iabs_nat, b_add, b_sub, neg_i, tr_bl, s_fr0, s_fr1, Tg.put, Tg.puts, setsP, List.set_cons_succ, List.set_cons_zero, if_true, if_false, Bool.false_eq_true, Bool.not_true, Bool.not_false, c_lt, c_le, c_gt, c_ge, c_eq, c_ne, isi_t, len2, bind_exc, then_exc, ex_then, ln, ld, eL]
theorem t_from {ts : List St} (hs : ∀ s ∈ ts, okSt s) (hl : ts.length ≤ 30) : cP (n + 4) 36 [.int 10, .tup (ts.map stA), .non, .non] h = .ok (fz (ftS ts)) h := by
  have hi : A.inbs 0 [.int 10, .tup (ts.map stA), .non, .non] = true := by
    show (true && (A.inbs 0 (ts.map stA) && (true && (true && true)))) = true
    rw [inbs_st]
    rfl
  have hi2 : A.inbs 0 [.tup (ts.map stA)] = true := by
    show (A.inbs 0 (ts.map stA) && true) = true
    rw [inbs_st]
    rfl
  refine cp ?_ hi rfl h
  refine told_rt (h' := []) ?_ rfl
  have e := cp (k_from (n := n) hs hl) hi2 rfl []
  have q1 : decide ((10 : Int) < 3) = false := rfl
  have q2 : decide ((10 : Int) < 8) = false := rfl
  have q3 : ((10 : Int) == 8) = false := rfl
  have q4 : ((10 : Int) == 9) = false := rfl
  have q5 : ((10 : Int) == 10) = true := rfl
  unfold tryB
  simp only [evSs, s_exp, s_asg, s_par, s_aug, s_ret, s_ife, e_var, e_lit, e_glo, e_neg, e_not, e_bin, e_and, e_or, e_ite, e_cmp, e_chn, e_tup, e_lst, e_sub, e_call, e_blt, e_isi, evEs, evT, evI, List.getElem?_cons_succ, List.getElem?_cons_zero, bind_ok, then_ok, nx_then, rt_then, give_some, Option.map_some, t_int, t_abs, iabs_nat, b_add, b_sub, neg_i, tr_bl, s_fr0, s_fr1, Tg.put, Tg.puts, setsP, List.set_cons_succ, List.set_cons_zero, if_true, if_false, Bool.false_eq_true, Bool.not_true, Bool.not_false, c_lt, c_le, c_gt, c_ge, c_eq, c_ne, isi_t, len2, bind_exc, then_exc, ex_then, q1, q2, q3, q4, q5, e]
theorem ftS_s {ts : List St} (hs : ∀ s ∈ ts, okSt s) (hl : ts.length ≤ 30) : Sz 1900 (ftS ts).1 ∧ Sz 1900 (ftS ts).2 := by
  obtain ⟨h1, h2⟩ := ftL_s ts 1 (0, 1) (1, 0) hs fw1.1 fw1.2
  unfold ftS
  exact ⟨(h1.a.add h2.a).mono (by omega), (h1.b.add h2.b).mono (by omega)⟩
end
end My

/-! text Q17 -/
set_option Elab.async false
set_option linter.all false
set_option maxRecDepth 100000
set_option maxHeartbeats 4000000
/-! k46: rows in order, as the law makes them -/
namespace My
open PySem Ev Pl
def bsL (fs : List Fz) (one : Fz) : Nat → Int → Int → Option (Int × Int)
  | 0, lo, hi => some (lo, hi)
  | s + 1, lo, hi => if lo < hi then match (idx fs.length ((lo + hi).fdiv 2)).bind fun j => fs[j]? with
      | some m => if z60 m.1 && z60 m.2 && z60 one.1 && z60 one.2 then (if m.1 * one.2 < one.1 * m.2 then bsL fs one s ((lo + hi).fdiv 2 + 1) hi else bsL fs one s lo ((lo + hi).fdiv 2)) else none
      | none => none
    else bsL fs one s lo hi
def insF (fs : List Fz) (one : Fz) : Option (List Fz) := match bsL fs one 20 0 (fs.length : Int) with
  | some p => if Nat.ble fs.length 10000 then some (cut fs none (some p.1) ++ [one] ++ cut fs (some p.1) none) else none
  | none => none
def sortP : List Fz → List Fz → Option (List Fz)
  | [], acc => some acc
  | x :: r, acc => match insF acc x with
    | some a => sortP r a
    | none => none
def bBs : List S := [.ife (.val (.cmp .Lt (.var 3) (.var 4))) [.asg (.nm 6) (.bin .FloorDiv (.bin .Add (.var 3) (.var 4)) (.lit (.int 2))), .asg (.tp [.nm 3, .nm 4]) (.ite (.val (.call 37 [.sub (.var 1) (.var 6), .var 2])) (.tup [.bin .Add (.var 6) (.lit (.int 1)), .var 4]) (.tup [.var 3, .var 6]))] []]
def bSt : List S := [.par [3, 4] [.lit (.int 0), .blt .len [.var 1]], .for_ (.nm 5) (.rg [.lit (.int 20)]) bBs, .asg (.nm 1) (.bin .Add (.bin .Add (.slc (.var 1) (.lit .non) (.var 3)) (.lst [.var 2])) (.slc (.var 1) (.var 3) (.lit .non)))]
theorem sort_body : f__law_sorted.body = [.asg (.nm 1) (.lst []), .for_ (.nm 2) (.sq (.var 0)) bSt, .ret (.var 1)] := rfl
theorem e_slc (C : Nat → List A → Ho → R A) (σ : Sl) (h : Ho) (a lo hi : E) : evE C (.slc a lo hi) σ h = (evE C a σ h).bind fun x h => (evE C lo σ h).bind fun l h => (give (part l) h).bind fun l h => (evE C hi σ h).bind fun u h => (give (part u) h).bind fun u h => slcA x l u h := by rw [evE]
theorem seq_app {h g : Ho} {r : Nat} {xs : List A} (e : seqOf h r = some xs) : seqOf (h ++ g) r = some xs := by
  unfold seqOf at e ⊢
  cases q : h[r]? with
  | none =>
    rw [q] at e
    cases e
  | some o =>
    rw [q] at e
    have : r < h.length := (List.getElem?_eq_some_iff.mp q).1
    rw [List.getElem?_append_left this, q]
    exact e
theorem seq_new (h : Ho) (xs : List A) : seqOf (h ++ [.lst xs]) h.length = some xs := by
  unfold seqOf
  rw [List.getElem?_append_right (Nat.le_refl _), Nat.sub_self]
  rfl
theorem get_seq {h : Ho} {r : Nat} {xs : List A} (e : seqOf h r = some xs) : h[r]? = some (.lst xs) := by
  unfold seqOf at e
  cases q : h[r]? with
  | none =>
    rw [q] at e
    cases e
  | some o =>
    rw [q] at e
    cases o with
    | lst ys =>
      cases e
      rfl
theorem add_ref {h : Ho} {r q : Nat} {xs ys : List A} (e1 : seqOf h r = some xs) (e2 : seqOf h q = some ys) (hl : xs.length + ys.length ≤ 16777216) : binA .Add (.ref r) (.ref q) h = .ok (.ref h.length) (h ++ [.lst (xs ++ ys)]) := by
  show (match h[r]?, h[q]? with
      | some (.lst a), some (.lst b) => if lineOk (a.length + b.length) then newL (a ++ b) h else .err
      | _, _ => .err) = _
  rw [get_seq e1, get_seq e2]
  dsimp only
  rw [if_pos (line_small hl)]
  rfl
theorem slc_ref {h : Ho} {r : Nat} {xs : List A} (e : seqOf h r = some xs) (l u : Option Int) : slcA (.ref r) l u h = .ok (.ref h.length) (h ++ [.lst (cut xs l u)]) := by
  show (match seqOf h r with
    | some xs => newL (cut xs l u) h
    | none => .err) = _
  rw [e]
  rfl
theorem cut_map (fs : List Fz) (l u : Option Int) : cut (fs.map fz) l u = (cut fs l u).map fz := by
  unfold cut
  rw [List.length_map, List.map_take, List.map_drop]
theorem beqs_fz : ∀ fs : List Fz, A.beqs (fs.map fz) (fs.map fz) = true
  | [] => rfl
  | f :: fs => by
    show ((f.1 == f.1 && (f.2 == f.2 && true)) && A.beqs (fs.map fz) (fs.map fz)) = true
    rw [beqs_fz fs, beq_self_eq_true, beq_self_eq_true]
    rfl
theorem sub_fz {h : Ho} {r : Nat} {fs : List Fz} {k : Int} {m : Fz} (e : seqOf h r = some (fs.map fz)) (ej : ((idx fs.length k).bind fun j => fs[j]?) = some m) : subA (.ref r) (.int k) h = some (fz m) := by
  show (seqOf h r).bind _ = _
  rw [e, Option.bind_some, List.length_map]
  cases q : idx fs.length k with
  | none =>
    rw [q] at ej
    cases ej
  | some j =>
    rw [q, Option.bind_some] at ej
    rw [Option.bind_some, List.getElem?_map, ej]
    rfl
section
variable {n : Nat} {h : Ho}
theorem bs_loop {s0 : Option A} {rr : Nat} {fs : List Fz} {one : Fz} (hs : seqOf h rr = some (fs.map fz)) : ∀ (ks : List A) (lo hi : Int) (a5 a6 : Option A) (r : Int × Int), bsL fs one ks.length lo hi = some r → ∃ b5 b6, forL [] (.nm 5) (fun σ h => evSs pg 4000 (cP (n + 1)) bBs σ h) ks [s0, some (.ref rr), some (fz one), some (.int lo), some (.int hi), a5, a6] h = .nx [s0, some (.ref rr), some (fz one), some (.int r.1), some (.int r.2), b5, b6] h
  | [], lo, hi, a5, a6, r, e => by
    cases e
    exact ⟨a5, a6, rfl⟩
  | k :: ks, lo, hi, a5, a6, r, e => by
    have hl : (k :: ks).length = ks.length + 1 := rfl
    rw [hl] at e
    unfold bsL at e
    by_cases h0 : lo < hi
    · rw [if_pos h0] at e
      cases q : (idx fs.length ((lo + hi).fdiv 2)).bind fun j => fs[j]? with
      | none =>
        rw [q] at e
        cases e
      | some m =>
        rw [q] at e
        have e : (if (z60 m.1 && z60 m.2 && z60 one.1 && z60 one.2) = true then (if m.1 * one.2 < one.1 * m.2 then bsL fs one ks.length ((lo + hi).fdiv 2 + 1) hi else bsL fs one ks.length lo ((lo + hi).fdiv 2)) else none) = some r := e
        by_cases hz : (z60 m.1 && z60 m.2 && z60 one.1 && z60 one.2) = true
        · rw [if_pos hz] at e
          simp only [Bool.and_eq_true] at hz
          obtain ⟨⟨⟨z1, z2⟩, z3⟩, z4⟩ := hz
          have sb := sub_fz hs q
          have bl := p_below (n := n) (h := h) ((z60_sz z1).mono (l := 800)) ((z60_sz z2).mono (l := 800)) ((z60_sz z3).mono (l := 800)) ((z60_sz z4).mono (l := 800))
          have d2 : divOk 2 = true := by decide
          by_cases h1 : m.1 * one.2 < one.1 * m.2
          · rw [if_pos h1] at e
            rw [decide_eq_true h1] at bl
            obtain ⟨b5, b6, e2⟩ := bs_loop (s0 := s0) hs ks _ hi (some k) (some (.int ((lo + hi).fdiv 2))) r e
            refine ⟨b5, b6, ?_⟩
            have one' : evSs pg 4000 (cP (n + 1)) bBs [s0, some (.ref rr), some (fz one), some (.int lo), some (.int hi), some k, a6] h = .nx [s0, some (.ref rr), some (fz one), some (.int ((lo + hi).fdiv 2 + 1)), some (.int hi), some k, some (.int ((lo + hi).fdiv 2))] h := by
              unfold bBs
              simp only [evSs, s_exp, s_asg, s_par, s_aug, s_ret, s_ife, e_var, e_lit, e_glo, e_neg, e_not, e_bin, e_and, e_or, e_ite, e_cmp, e_chn, e_tup, e_lst, e_sub, e_call, e_blt, e_isi, evEs, evT, evI, List.getElem?_cons_succ, List.getElem?_cons_zero, bind_ok, then_ok, nx_then, rt_then, give_some, Option.map_some, t_int, t_abs, iabs_nat, b_add, b_sub, neg_i, tr_bl, s_fr0, s_fr1, Tg.put, Tg.puts, setsP, List.set_cons_succ, List.set_cons_zero, if_true, if_false, Bool.false_eq_true, Bool.not_true, Bool.not_false, c_lt, c_le, c_gt, c_ge, c_eq, c_ne, isi_t, len2, bind_exc, then_exc, ex_then, decide_eq_true h0, b_div d2, sb, bl]
            unfold forL
            rw [if_pos still0]
            simp only [Tg.put, List.set_cons_succ, List.set_cons_zero, one']
            exact e2
          · rw [if_neg h1] at e
            rw [decide_eq_false h1] at bl
            obtain ⟨b5, b6, e2⟩ := bs_loop (s0 := s0) hs ks lo _ (some k) (some (.int ((lo + hi).fdiv 2))) r e
            refine ⟨b5, b6, ?_⟩
            have one' : evSs pg 4000 (cP (n + 1)) bBs [s0, some (.ref rr), some (fz one), some (.int lo), some (.int hi), some k, a6] h = .nx [s0, some (.ref rr), some (fz one), some (.int lo), some (.int ((lo + hi).fdiv 2)), some k, some (.int ((lo + hi).fdiv 2))] h := by
              unfold bBs
              simp only [evSs, s_exp, s_asg, s_par, s_aug, s_ret, s_ife, e_var, e_lit, e_glo, e_neg, e_not, e_bin, e_and, e_or, e_ite, e_cmp, e_chn, e_tup, e_lst, e_sub, e_call, e_blt, e_isi, evEs, evT, evI, List.getElem?_cons_succ, List.getElem?_cons_zero, bind_ok, then_ok, nx_then, rt_then, give_some, Option.map_some, t_int, t_abs, iabs_nat, b_add, b_sub, neg_i, tr_bl, s_fr0, s_fr1, Tg.put, Tg.puts, setsP, List.set_cons_succ, List.set_cons_zero, if_true, if_false, Bool.false_eq_true, Bool.not_true, Bool.not_false, c_lt, c_le, c_gt, c_ge, c_eq, c_ne, isi_t, len2, bind_exc, then_exc, ex_then, decide_eq_true h0, b_div d2, sb, bl]
            unfold forL
            rw [if_pos still0]
            simp only [Tg.put, List.set_cons_succ, List.set_cons_zero, one']
            exact e2
        · rw [if_neg hz] at e
          cases e
    · rw [if_neg h0] at e
      obtain ⟨b5, b6, e2⟩ := bs_loop (s0 := s0) hs ks lo hi (some k) a6 r e
      refine ⟨b5, b6, ?_⟩
      have one' : evSs pg 4000 (cP (n + 1)) bBs [s0, some (.ref rr), some (fz one), some (.int lo), some (.int hi), some k, a6] h = .nx [s0, some (.ref rr), some (fz one), some (.int lo), some (.int hi), some k, a6] h := by
        unfold bBs
        simp only [evSs, s_exp, s_asg, s_par, s_aug, s_ret, s_ife, e_var, e_lit, e_glo, e_neg, e_not, e_bin, e_and, e_or, e_ite, e_cmp, e_chn, e_tup, e_lst, e_sub, e_call, e_blt, e_isi, evEs, evT, evI, List.getElem?_cons_succ, List.getElem?_cons_zero, bind_ok, then_ok, nx_then, rt_then, give_some, Option.map_some, t_int, t_abs, iabs_nat, b_add, b_sub, neg_i, tr_bl, s_fr0, s_fr1, Tg.put, Tg.puts, setsP, List.set_cons_succ, List.set_cons_zero, if_true, if_false, Bool.false_eq_true, Bool.not_true, Bool.not_false, c_lt, c_le, c_gt, c_ge, c_eq, c_ne, isi_t, len2, bind_exc, then_exc, ex_then, decide_eq_false h0]
      unfold forL
      rw [if_pos still0]
      simp only [Tg.put, List.set_cons_succ, List.set_cons_zero, one']
      exact e2
theorem cut_len {α : Type} (xs : List α) (l u : Option Int) : (cut xs l u).length ≤ xs.length := by
  unfold cut
  rw [List.length_take, List.length_drop]
  omega
theorem st_turn {s0 a3 a4 a5 a6 : Option A} {rr : Nat} {fs : List Fz} {one : Fz} {gs : List Fz} (hs : seqOf h rr = some (fs.map fz)) (e : insF fs one = some gs) : ∃ b3 b4 b5 b6 g r', g ≠ [] ∧ evSs pg 4000 (cP (n + 1)) bSt [s0, some (.ref rr), some (fz one), a3, a4, a5, a6] h = .nx [s0, some (.ref r'), some (fz one), b3, b4, b5, b6] (h ++ g) ∧ seqOf (h ++ g) r' = some (gs.map fz) ∧ h.length ≤ r' := by
  unfold insF at e
  cases q : bsL fs one 20 0 (fs.length : Int) with
  | none =>
    rw [q] at e
    cases e
  | some p =>
    rw [q] at e
    have e : (if Nat.ble fs.length 10000 = true then some (cut fs none (some p.1) ++ [one] ++ cut fs (some p.1) none) else none) = some gs := e
    by_cases hn : Nat.ble fs.length 10000 = true
    · rw [if_pos hn] at e
      have hn := Nat.le_of_ble_eq_true hn
      cases e
      have ln : bltA .len [.ref rr] h = .ok (.int ((fs.map fz).length : Int)) h := t_len hs
      rw [List.length_map] at ln
      generalize (fs.length : Int) = v at *
      obtain ⟨b5, b6, e2⟩ := bs_loop (n := n) (s0 := s0) hs (rng 0 20) 0 v a5 a6 p q
      have eL : evS pg 4000 (cP (n + 1)) (.for_ (.nm 5) (.rg [.lit (.int 20)]) bBs) [s0, some (.ref rr), some (fz one), some (.int 0), some (.int v), a5, a6] h = .nx [s0, some (.ref rr), some (fz one), some (.int p.1), some (.int p.2), b5, b6] h := by
        rw [s_for]
        simp only [evSs, s_exp, s_asg, s_par, s_aug, s_ret, s_ife, e_var, e_lit, e_glo, e_neg, e_not, e_bin, e_and, e_or, e_ite, e_cmp, e_chn, e_tup, e_lst, e_sub, e_call, e_blt, e_isi, evEs, evT, evI, List.getElem?_cons_succ, List.getElem?_cons_zero, bind_ok, then_ok, nx_then, rt_then, give_some, Option.map_some, t_int, t_abs, iabs_nat, b_add, b_sub, neg_i, tr_bl, s_fr0, s_fr1, Tg.put, Tg.puts, setsP, List.set_cons_succ, List.set_cons_zero, if_true, if_false, Bool.false_eq_true, Bool.not_true, Bool.not_false, c_lt, c_le, c_gt, c_ge, c_eq, c_ne, isi_t, len2, bind_exc, then_exc, ex_then, walkRg, show rngOk 20 = true by decide]
        exact e2
      -- the five lists
      have l1 := slc_ref hs none (some p.1)
      have l2 : newL [fz one] (h ++ [.lst (cut (fs.map fz) none (some p.1))]) = .ok (.ref (h ++ [O.lst (cut (fs.map fz) none (some p.1))]).length) ((h ++ [.lst (cut (fs.map fz) none (some p.1))]) ++ [.lst [fz one]]) := rfl
      have q1 : seqOf ((h ++ [.lst (cut (fs.map fz) none (some p.1))]) ++ [.lst [fz one]]) h.length = some (cut (fs.map fz) none (some p.1)) := seq_app (seq_new h _)
      have q2 : seqOf ((h ++ [.lst (cut (fs.map fz) none (some p.1))]) ++ [.lst [fz one]]) (h ++ [O.lst (cut (fs.map fz) none (some p.1))]).length = some [fz one] := seq_new _ _
      have c1 := cut_len (fs.map fz) none (some p.1)
      have c2 := cut_len (fs.map fz) (some p.1) none
      rw [List.length_map] at c1 c2
      have l3 := add_ref q1 q2 (by
        show _ + 1 ≤ _
        omega)
      generalize hh3 : ((h ++ [.lst (cut (fs.map fz) none (some p.1))]) ++ [.lst [fz one]]) ++ [.lst (cut (fs.map fz) none (some p.1) ++ [fz one])] = h3 at *
      have q3 : seqOf h3 ((h ++ [O.lst (cut (fs.map fz) none (some p.1))]) ++ [O.lst [fz one]]).length = some (cut (fs.map fz) none (some p.1) ++ [fz one]) := by
        rw [← hh3]
        exact seq_new _ _
      have q4 : seqOf h3 rr = some (fs.map fz) := by
        rw [← hh3]
        exact seq_app (seq_app (seq_app hs))
      have l4 := slc_ref q4 (some p.1) none
      have l5 := add_ref (seq_app (g := [.lst (cut (fs.map fz) (some p.1) none)]) q3) (seq_new h3 (cut (fs.map fz) (some p.1) none)) (by
        rw [List.length_append]
        show _ + 1 + _ ≤ _
        omega)
      refine ⟨some (.int p.1), some (.int p.2), b5, b6, [.lst (cut (fs.map fz) none (some p.1)), .lst [fz one], .lst (cut (fs.map fz) none (some p.1) ++ [fz one]), .lst (cut (fs.map fz) (some p.1) none), .lst ((cut (fs.map fz) none (some p.1) ++ [fz one]) ++ cut (fs.map fz) (some p.1) none)], (h3 ++ [O.lst (cut (fs.map fz) (some p.1) none)]).length, by simp, ?_, ?_, ?_⟩
      · have hfin : h ++ [O.lst (cut (fs.map fz) none (some p.1)), .lst [fz one], .lst (cut (fs.map fz) none (some p.1) ++ [fz one]), .lst (cut (fs.map fz) (some p.1) none), .lst ((cut (fs.map fz) none (some p.1) ++ [fz one]) ++ cut (fs.map fz) (some p.1) none)] = (h3 ++ [O.lst (cut (fs.map fz) (some p.1) none)]) ++ [O.lst ((cut (fs.map fz) none (some p.1) ++ [fz one]) ++ cut (fs.map fz) (some p.1) none)] := by
          rw [← hh3]
          simp only [List.append_assoc, List.cons_append, List.nil_append]
        rw [hfin]
        unfold bSt
        have pn : part .non = some none := rfl
        have pi : part (.int p.1) = some (some p.1) := rfl
        simp only [evSs, s_exp, s_asg, s_par, s_aug, s_ret, s_ife, e_var, e_lit, e_glo, e_neg, e_not, e_bin, e_and, e_or, e_ite, e_cmp, e_chn, e_tup, e_lst, e_sub, e_call, e_blt, e_isi, evEs, evT, evI, List.getElem?_cons_succ, List.getElem?_cons_zero, bind_ok, then_ok, nx_then, rt_then, give_some, Option.map_some, t_int, t_abs, iabs_nat, b_add, b_sub, neg_i, tr_bl, s_fr0, s_fr1, Tg.put, Tg.puts, setsP, List.set_cons_succ, List.set_cons_zero, if_true, if_false, Bool.false_eq_true, Bool.not_true, Bool.not_false, c_lt, c_le, c_gt, c_ge, c_eq, c_ne, isi_t, len2, bind_exc, then_exc, ex_then, ln, eL, e_slc, pn, pi, l1, l2, l3, l4, l5]
      · have hfin : h ++ [O.lst (cut (fs.map fz) none (some p.1)), .lst [fz one], .lst (cut (fs.map fz) none (some p.1) ++ [fz one]), .lst (cut (fs.map fz) (some p.1) none), .lst ((cut (fs.map fz) none (some p.1) ++ [fz one]) ++ cut (fs.map fz) (some p.1) none)] = (h3 ++ [O.lst (cut (fs.map fz) (some p.1) none)]) ++ [O.lst ((cut (fs.map fz) none (some p.1) ++ [fz one]) ++ cut (fs.map fz) (some p.1) none)] := by
          rw [← hh3]
          simp only [List.append_assoc, List.cons_append, List.nil_append]
        rw [hfin, seq_new, cut_map, cut_map]
        simp only [List.map_append, List.map_cons, List.map_nil]
      · rw [← hh3]
        simp only [List.length_append]
        omega
    · rw [if_neg hn] at e
      cases e
theorem st_loop {i : Nat} {src : List Fz} : ∀ (xs acc rs : List Fz) (h : Ho) (rr : Nat) (a2 a3 a4 a5 a6 : Option A), seqOf h i = some (src.map fz) → seqOf h rr = some (acc.map fz) → sortP xs acc = some rs → ∃ b2 b3 b4 b5 b6 g r', forL [(i, src.map fz)] (.nm 2) (fun σ h => evSs pg 4000 (cP (n + 1)) bSt σ h) (xs.map fz) [some (.ref i), some (.ref rr), a2, a3, a4, a5, a6] h = .nx [some (.ref i), some (.ref r'), b2, b3, b4, b5, b6] (h ++ g) ∧ seqOf (h ++ g) r' = some (rs.map fz) ∧ (h.length ≤ r' ∨ r' = rr)
  | [], acc, rs, h, rr, a2, a3, a4, a5, a6, hi, hr, e => by
    cases e
    refine ⟨a2, a3, a4, a5, a6, [], rr, ?_, by rw [List.append_nil]; exact hr, .inr rfl⟩
    have st : still [(i, src.map fz)] h = true := by
      show ((match seqOf h i with
        | some xs => A.beqs xs (src.map fz)
        | none => false) && true) = true
      rw [hi]
      show (A.beqs (src.map fz) (src.map fz) && true) = true
      rw [beqs_fz]
      rfl
    show forL [(i, src.map fz)] (.nm 2) _ [] _ _ = _
    unfold forL
    rw [if_pos st, List.append_nil]
  | x :: xs, acc, rs, h, rr, a2, a3, a4, a5, a6, hi, hr, e => by
    have st : still [(i, src.map fz)] h = true := by
      show ((match seqOf h i with
        | some xs => A.beqs xs (src.map fz)
        | none => false) && true) = true
      rw [hi]
      show (A.beqs (src.map fz) (src.map fz) && true) = true
      rw [beqs_fz]
      rfl
    unfold sortP at e
    cases q : insF acc x with
    | none =>
      rw [q] at e
      cases e
    | some a =>
      rw [q] at e
      obtain ⟨c3, c4, c5, c6, g, r1, -, e1, e2, e3⟩ := st_turn (n := n) (h := h) (s0 := some (.ref i)) (a3 := a3) (a4 := a4) (a5 := a5) (a6 := a6) hr q
      obtain ⟨b2, b3, b4, b5, b6, g', r2, f1, f2, f3⟩ := st_loop xs a rs (h ++ g) r1 (some (fz x)) c3 c4 c5 c6 (seq_app hi) e2 e
      refine ⟨b2, b3, b4, b5, b6, g ++ g', r2, ?_, by rw [← List.append_assoc]; exact f2, ?_⟩
      · rw [← List.append_assoc]
        show forL [(i, src.map fz)] (.nm 2) _ (fz x :: xs.map fz) _ _ = _
        unfold forL
        rw [if_pos st]
        simp only [Tg.put, List.set_cons_succ, List.set_cons_zero, e1]
        exact f1
      · rw [List.length_append] at f3
        rcases f3 with f3 | f3
        · exact .inl (by omega)
        · exact .inl (by omega)
theorem k_sorted {i : Nat} {fs rs : List Fz} (hi : seqOf h i = some (fs.map fz)) (e : sortP fs [] = some rs) : ∃ g r, cK (n + 2) 38 [.ref i] h = .ok (.ref r) (h ++ g) ∧ seqOf (h ++ g) r = some (rs.map fz) := by
  obtain ⟨b2, b3, b4, b5, b6, g, r, f1, f2, f3⟩ := st_loop (n := n) (src := fs) fs [] rs (h ++ [.lst []]) h.length none none none none none (seq_app hi) (seq_new h []) e
  have hr : h.length ≤ r := by
    rw [List.length_append] at f3
    rcases f3 with f3 | f3
    · omega
    · omega
  refine ⟨[.lst []] ++ g, r, ?_, by rw [← List.append_assoc]; exact f2⟩
  have run : evSs pg 4000 (cP (n + 1)) f__law_sorted.body [some (.ref i), none, none, none, none, none, none] h = .rt (.ref r) (h ++ [.lst []] ++ g) := by
    rw [sort_body]
    have eL : evS pg 4000 (cP (n + 1)) (.for_ (.nm 2) (.sq (.var 0)) bSt) [some (.ref i), some (.ref h.length), none, none, none, none, none] (h ++ [.lst []]) = .nx [some (.ref i), some (.ref r), b2, b3, b4, b5, b6] (h ++ [.lst []] ++ g) := by
      rw [s_for]
      have w : evI (cP (n + 1)) (.sq (.var 0)) [some (.ref i), some (.ref h.length), none, none, none, none, none] (h ++ [.lst []]) = .ok (fs.map fz, [(i, fs.map fz)]) (h ++ [.lst []]) := by
        have : walkSq (.ref i) (h ++ [.lst []]) = some (fs.map fz, [(i, fs.map fz)]) := by
          show (seqOf (h ++ [.lst []]) i).map _ = _
          rw [seq_app hi]
          rfl
        simp only [evSs, s_exp, s_asg, s_par, s_aug, s_ret, s_ife, e_var, e_lit, e_glo, e_neg, e_not, e_bin, e_and, e_or, e_ite, e_cmp, e_chn, e_tup, e_lst, e_sub, e_call, e_blt, e_isi, evEs, evT, evI, List.getElem?_cons_succ, List.getElem?_cons_zero, bind_ok, then_ok, nx_then, rt_then, give_some, Option.map_some, t_int, t_abs, iabs_nat, b_add, b_sub, neg_i, tr_bl, s_fr0, s_fr1, Tg.put, Tg.puts, setsP, List.set_cons_succ, List.set_cons_zero, if_true, if_false, Bool.false_eq_true, Bool.not_true, Bool.not_false, c_lt, c_le, c_gt, c_ge, c_eq, c_ne, isi_t, len2, bind_exc, then_exc, ex_then, this]
      rw [w, then_ok]
      exact f1
    have N : newL [] h = .ok (.ref h.length) (h ++ [.lst []]) := rfl
    simp only [evSs, s_exp, s_asg, s_par, s_aug, s_ret, s_ife, e_var, e_lit, e_glo, e_neg, e_not, e_bin, e_and, e_or, e_ite, e_cmp, e_chn, e_tup, e_lst, e_sub, e_call, e_blt, e_isi, evEs, evT, evI, List.getElem?_cons_succ, List.getElem?_cons_zero, bind_ok, then_ok, nx_then, rt_then, give_some, Option.map_some, t_int, t_abs, iabs_nat, b_add, b_sub, neg_i, tr_bl, s_fr0, s_fr1, Tg.put, Tg.puts, setsP, List.set_cons_succ, List.set_cons_zero, if_true, if_false, Bool.false_eq_true, Bool.not_true, Bool.not_false, c_lt, c_le, c_gt, c_ge, c_eq, c_ne, isi_t, len2, bind_exc, then_exc, ex_then, N, eL]
  rw [← List.append_assoc]
  show callK _ _ _ _ _ _ = _
  unfold callK
  show (if ([A.ref i].length == 1) = true then _ else _) = _
  rw [if_pos (by rfl)]
  have hs : ([A.ref i].map some ++ List.replicate (f__law_sorted.N.length - [A.ref i].length) none : Sl) = [some (.ref i), none, none, none, none, none, none] := rfl
  show (match evSs pg 4000 (cP (n + 1)) f__law_sorted.body ([A.ref i].map some ++ List.replicate (f__law_sorted.N.length - [A.ref i].length) none) h with
        | .rt a h' => trim h.length (A.inb h.length a) h' fun h' => R.ok a h'
        | .nx _ h' => trim h.length true h' fun h' => .ok .non h'
        | .ex x _ h' => trim h.length (A.inbs h.length (x.fs.map Prod.snd)) h' fun h' => .exc x h'
        | _ => .err) = _
  rw [hs, run]
  show trim h.length (decide (r < h.length)) _ _ = _
  rw [decide_eq_false (by omega)]
  unfold trim
  split
  · rfl
  · rfl
end
end My

/-! text Q18 -/
set_option Elab.async false
set_option linter.all false
set_option maxRecDepth 100000
set_option maxHeartbeats 4000000
/-! k46: the law's row, its gaps -/
namespace My
open PySem Ev Pl
def cpL (u : Int) : Nat → Int → List Fz
  | 0, _ => []
  | m + 1, i => if gc i u = 1 then (i, u) :: cpL u m (i + 1) else cpL u m (i + 1)
def rwL : Nat → Int → List Fz → Option (List Fz)
  | 0, _, acc => some acc
  | m + 1, u, acc => if decide (0 ≤ u) && decide (u ≤ 1000) && Nat.ble acc.length 10000 then rwL m (u + 1) (acc ++ cpL u (u + 1).toNat 0) else none
def rowP (m : Int) : Option (List Fz) := match rwL m.toNat 1 [] with
  | some l => sortP l []
  | none => none
theorem cpL_len (u : Int) : ∀ (m : Nat) (i : Int), (cpL u m i).length ≤ m
  | 0, _ => Nat.le_refl _
  | m + 1, i => by
    unfold cpL
    have := cpL_len u m (i + 1)
    split
    · show (cpL u m (i + 1)).length + 1 ≤ m + 1
      omega
    · omega
/-- what a comprehension does with an item -/
def cf (C : Nat → List A → Ho → R A) (σ : Sl) (elt : E) (g : Tg) (c : T) (own : List Nat) (x : A) (h : Ho) : R (Option A) := match Tg.put g x (wipe σ own) with
  | some σ' => (evT C c σ' h).calm.bind fun k h => if k then (evE C elt σ' h).calm.bind fun y h => .ok (some y) h else .ok none h
  | none => .err
theorem e_compf (C : Nat → List A → Ho → R A) (σ : Sl) (h : Ho) (elt : E) (g : Tg) (it : I) (c : T) (own : List Nat) : evE C (.comp elt g it c own) σ h = (evI C it σ h).bind fun w h => (compL w.2 (cf C σ elt g c own) w.1 h).bind fun ys h => if lineOk ys.length then newL ys h else .err := by rw [evE] <;> rfl
theorem cf_is (C : Nat → List A → Ho → R A) (σ σ' : Sl) (elt : E) (g : Tg) (c : T) (own : List Nat) (x : A) (h : Ho) (e : Tg.put g x (wipe σ own) = some σ') : cf C σ elt g c own x h = (evT C c σ' h).calm.bind fun k h => if k then (evE C elt σ' h).calm.bind fun y h => .ok (some y) h else .ok none h := by
  unfold cf
  rw [e]
theorem compL_cons {src : List (Nat × List A)} {f : A → Ho → R (Option A)} {x : A} {r : List A} {h : Ho} (e : still src h = true) : compL src f (x :: r) h = (f x h).bind fun o h => (compL src f r h).bind fun ys h => .ok (match o with
      | some y => y :: ys
      | none => ys) h := by
  conv => lhs; unfold compL
  rw [if_pos e] <;> rfl
def cRw : E := .comp (.tup [.var 3, .var 2]) (.nm 3) (.rg [.bin .Add (.var 2) (.lit (.int 1))]) (.val (.cmp .Eq (.call 34 [.var 3, .var 2]) (.lit (.int 1)))) [3]
def bRw : List S := [.asg (.nm 1) (.bin .Add (.var 1) cRw)]
theorem row_body : f__law_row.body = [.asg (.nm 1) (.lst []), .for_ (.nm 2) (.rg [.lit (.int 1), .bin .Add (.var 0) (.lit (.int 1))]) bRw, .ret (.call 38 [.var 1])] := rfl
section
variable {n : Nat} {h : Ho}
theorem cp_loop {s0 s1 s3 : Option A} {u : Int} (su : Sz 1900 u) : ∀ (m : Nat) (i : Int), compL [] (cf (cP (n + 1)) [s0, s1, some (.int u), s3] (.tup [.var 3, .var 2]) (.nm 3) (.val (.cmp .Eq (.call 34 [.var 3, .var 2]) (.lit (.int 1)))) [3]) (rn i m) h = .ok ((cpL u m i).map fz) h
  | 0, i => rfl
  | m + 1, i => by
    have ih := cp_loop (s0 := s0) (s1 := s1) (s3 := s3) su m (i + 1)
    show compL [] _ (.int i :: rn (i + 1) m) h = _
    have lc := p_lcommon (n := n) (a := i) (b := u) (h := h) su
    rw [compL_cons still0, cf_is _ _ [s0, s1, some (.int u), some (.int i)] _ _ _ _ _ _ rfl]
    unfold cpL
    by_cases e : gc i u = 1
    · rw [if_pos e]
      simp only [evSs, s_exp, s_asg, s_par, s_aug, s_ret, s_ife, e_var, e_lit, e_glo, e_neg, e_not, e_bin, e_and, e_or, e_ite, e_cmp, e_chn, e_tup, e_lst, e_sub, e_call, e_blt, e_isi, evEs, evT, evI, List.getElem?_cons_succ, List.getElem?_cons_zero, bind_ok, then_ok, nx_then, rt_then, give_some, Option.map_some, t_int, t_abs, iabs_nat, b_add, b_sub, neg_i, tr_bl, s_fr0, s_fr1, Tg.put, Tg.puts, setsP, List.set_cons_succ, List.set_cons_zero, if_true, if_false, Bool.false_eq_true, Bool.not_true, Bool.not_false, c_lt, c_le, c_gt, c_ge, c_eq, c_ne, isi_t, len2, bind_exc, then_exc, ex_then, lc, beq_iff_eq.mpr e, calm_ok, ih]
      rfl
    · rw [if_neg e]
      simp only [evSs, s_exp, s_asg, s_par, s_aug, s_ret, s_ife, e_var, e_lit, e_glo, e_neg, e_not, e_bin, e_and, e_or, e_ite, e_cmp, e_chn, e_tup, e_lst, e_sub, e_call, e_blt, e_isi, evEs, evT, evI, List.getElem?_cons_succ, List.getElem?_cons_zero, bind_ok, then_ok, nx_then, rt_then, give_some, Option.map_some, t_int, t_abs, iabs_nat, b_add, b_sub, neg_i, tr_bl, s_fr0, s_fr1, Tg.put, Tg.puts, setsP, List.set_cons_succ, List.set_cons_zero, if_true, if_false, Bool.false_eq_true, Bool.not_true, Bool.not_false, c_lt, c_le, c_gt, c_ge, c_eq, c_ne, isi_t, len2, bind_exc, then_exc, ex_then, lc, beq_eq_false_iff_ne.mpr e, calm_ok, ih]
theorem cRw_ok {s0 s1 s3 : Option A} {u : Int} (h0 : 0 ≤ u) (h1 : u ≤ 1000) : evE (cP (n + 1)) cRw [s0, s1, some (.int u), s3] h = .ok (.ref h.length) (h ++ [.lst ((cpL u (u + 1).toNat 0).map fz)]) := by
  have su : Sz 1900 u := (Sz.of (k := 10) 1000 (by omega)).mono
  have cl := cp_loop (n := n) (h := h) (s0 := s0) (s1 := s1) (s3 := s3) su (u + 1).toNat 0
  have ok : rngOk (u + 1) = true := by
    unfold rngOk
    rw [decide_eq_true (show -(2 ^ 62) ≤ u + 1 by omega), decide_eq_true (show u + 1 < 2 ^ 62 by omega)]
    rfl
  have er : evI (cP (n + 1)) (.rg [.bin .Add (.var 2) (.lit (.int 1))]) [s0, s1, some (.int u), s3] h = .ok (rn 0 (u + 1).toNat, []) h := by
    have e : rng 0 (u + 1) = rn 0 (u + 1).toNat := by
      rw [rng_run, Int.sub_zero]
    simp only [evSs, s_exp, s_asg, s_par, s_aug, s_ret, s_ife, e_var, e_lit, e_glo, e_neg, e_not, e_bin, e_and, e_or, e_ite, e_cmp, e_chn, e_tup, e_lst, e_sub, e_call, e_blt, e_isi, evEs, evT, evI, List.getElem?_cons_succ, List.getElem?_cons_zero, bind_ok, then_ok, nx_then, rt_then, give_some, Option.map_some, t_int, t_abs, iabs_nat, b_add, b_sub, neg_i, tr_bl, s_fr0, s_fr1, Tg.put, Tg.puts, setsP, List.set_cons_succ, List.set_cons_zero, if_true, if_false, Bool.false_eq_true, Bool.not_true, Bool.not_false, c_lt, c_le, c_gt, c_ge, c_eq, c_ne, isi_t, len2, bind_exc, then_exc, ex_then, walkRg, ok, e]
  have ll := cpL_len u (u + 1).toNat 0
  have lo : lineOk ((cpL u (u + 1).toNat 0).map fz).length = true := line_small (by
    rw [List.length_map]
    omega)
  unfold cRw
  rw [e_compf, er, bind_ok]
  dsimp only
  rw [cl, bind_ok, if_pos lo]
  rfl
theorem rw_loop {s0 : Option A} {rs : List Fz} : ∀ (k : Nat) (u : Int) (acc : List Fz) (h : Ho) (rr : Nat) (a2 a3 : Option A), seqOf h rr = some (acc.map fz) → rwL k u acc = some rs → ∃ b2 b3 g r', forL [] (.nm 2) (fun σ h => evSs pg 4000 (cP (n + 1)) bRw σ h) (rn u k) [s0, some (.ref rr), a2, a3] h = .nx [s0, some (.ref r'), b2, b3] (h ++ g) ∧ seqOf (h ++ g) r' = some (rs.map fz)
  | 0, u, acc, h, rr, a2, a3, hr, e => by
    cases e
    exact ⟨a2, a3, [], rr, by rw [List.append_nil]; rfl, by rw [List.append_nil]; exact hr⟩
  | k + 1, u, acc, h, rr, a2, a3, hr, e => by
    unfold rwL at e
    by_cases hz : (decide (0 ≤ u) && decide (u ≤ 1000) && Nat.ble acc.length 10000) = true
    · rw [if_pos hz] at e
      simp only [Bool.and_eq_true, decide_eq_true_eq] at hz
      obtain ⟨⟨h0, h1⟩, h2⟩ := hz
      have h2 := Nat.le_of_ble_eq_true h2
      have c := cRw_ok (n := n) (h := h) (s0 := s0) (s1 := some (.ref rr)) (s3 := a3) h0 h1
      have ll := cpL_len u (u + 1).toNat 0
      have ad := add_ref (seq_app (g := [.lst ((cpL u (u + 1).toNat 0).map fz)]) hr) (seq_new h ((cpL u (u + 1).toNat 0).map fz)) (by
        rw [List.length_map, List.length_map]
        omega)
      have q : seqOf ((h ++ [.lst ((cpL u (u + 1).toNat 0).map fz)]) ++ [.lst (acc.map fz ++ (cpL u (u + 1).toNat 0).map fz)]) (h ++ [O.lst ((cpL u (u + 1).toNat 0).map fz)]).length = some ((acc ++ cpL u (u + 1).toNat 0).map fz) := by
        rw [seq_new, List.map_append]
      obtain ⟨b2, b3, g, r', f1, f2⟩ := rw_loop (s0 := s0) k (u + 1) _ _ _ (some (.int u)) a3 q e
      refine ⟨b2, b3, [.lst ((cpL u (u + 1).toNat 0).map fz)] ++ [.lst (acc.map fz ++ (cpL u (u + 1).toNat 0).map fz)] ++ g, r', ?_, ?_⟩
      · have one : evSs pg 4000 (cP (n + 1)) bRw [s0, some (.ref rr), some (.int u), a3] h = .nx [s0, some (.ref (h ++ [O.lst ((cpL u (u + 1).toNat 0).map fz)]).length), some (.int u), a3] ((h ++ [.lst ((cpL u (u + 1).toNat 0).map fz)]) ++ [.lst (acc.map fz ++ (cpL u (u + 1).toNat 0).map fz)]) := by
          unfold bRw
          simp only [evSs, s_exp, s_asg, s_par, s_aug, s_ret, s_ife, e_var, e_lit, e_glo, e_neg, e_not, e_bin, e_and, e_or, e_ite, e_cmp, e_chn, e_tup, e_lst, e_sub, e_call, e_blt, e_isi, evEs, evT, evI, List.getElem?_cons_succ, List.getElem?_cons_zero, bind_ok, then_ok, nx_then, rt_then, give_some, Option.map_some, t_int, t_abs, iabs_nat, b_add, b_sub, neg_i, tr_bl, s_fr0, s_fr1, Tg.put, Tg.puts, setsP, List.set_cons_succ, List.set_cons_zero, if_true, if_false, Bool.false_eq_true, Bool.not_true, Bool.not_false, c_lt, c_le, c_gt, c_ge, c_eq, c_ne, isi_t, len2, bind_exc, then_exc, ex_then, c, ad]
        show forL [] (.nm 2) _ (.int u :: rn (u + 1) k) _ _ = _
        unfold forL
        rw [if_pos still0]
        simp only [Tg.put, List.set_cons_succ, List.set_cons_zero, one]
        rw [f1]
        simp only [List.append_assoc]
      · simp only [List.append_assoc] at f2 ⊢
        exact f2
    · rw [if_neg hz] at e
      cases e
theorem k_lrow {m : Int} {rs : List Fz} (h1 : 1 ≤ m) (h2 : m ≤ 1000) (e : rowP m = some rs) : ∃ g r, cK (n + 3) 39 [.int m] [] = .ok (.ref r) g ∧ seqOf g r = some (rs.map fz) := by
  unfold rowP at e
  cases q : rwL m.toNat 1 [] with
  | none =>
    rw [q] at e
    cases e
  | some l =>
    rw [q] at e
    obtain ⟨b2, b3, g, r1, f1, f2⟩ := rw_loop (n := n + 1) (s0 := some (.int m)) m.toNat 1 [] [.lst []] 0 none none rfl q
    obtain ⟨g2, r2, k1, k2⟩ := k_sorted (n := n) f2 e
    refine ⟨[.lst []] ++ g ++ g2, r2, ?_, k2⟩
    have ok : rngOk (m + 1) = true := by
      unfold rngOk
      rw [decide_eq_true (show -(2 ^ 62) ≤ m + 1 by omega), decide_eq_true (show m + 1 < 2 ^ 62 by omega)]
      rfl
    have er : rng 1 (m + 1) = rn 1 m.toNat := by
      rw [rng_run, show m + 1 - 1 = m by omega]
    have eL : evS pg 4000 (cP (n + 2)) (.for_ (.nm 2) (.rg [.lit (.int 1), .bin .Add (.var 0) (.lit (.int 1))]) bRw) [some (.int m), some (.ref 0), none, none] [.lst []] = .nx [some (.int m), some (.ref r1), b2, b3] ([.lst []] ++ g) := by
      rw [s_for]
      simp only [evSs, s_exp, s_asg, s_par, s_aug, s_ret, s_ife, e_var, e_lit, e_glo, e_neg, e_not, e_bin, e_and, e_or, e_ite, e_cmp, e_chn, e_tup, e_lst, e_sub, e_call, e_blt, e_isi, evEs, evT, evI, List.getElem?_cons_succ, List.getElem?_cons_zero, bind_ok, then_ok, nx_then, rt_then, give_some, Option.map_some, t_int, t_abs, iabs_nat, b_add, b_sub, neg_i, tr_bl, s_fr0, s_fr1, Tg.put, Tg.puts, setsP, List.set_cons_succ, List.set_cons_zero, if_true, if_false, Bool.false_eq_true, Bool.not_true, Bool.not_false, c_lt, c_le, c_gt, c_ge, c_eq, c_ne, isi_t, len2, bind_exc, then_exc, ex_then, walkRg, ok, show rngOk 1 = true by decide, Bool.and_self, er]
      exact f1
    have cl : cP (n + 2) 38 [.ref r1] ([.lst []] ++ g) = .ok (.ref r2) ([.lst []] ++ g ++ g2) := by
      show callP _ _ _ _ = _
      rw [callP_ref (by
        show (decide (r1 < 0) && true) = false
        rw [decide_eq_false (Nat.not_lt_zero _)]
        rfl)]
      exact k1
    have run : evSs pg 4000 (cP (n + 2)) f__law_row.body [some (.int m), none, none, none] [] = .rt (.ref r2) ([.lst []] ++ g ++ g2) := by
      rw [row_body]
      simp only [evSs, s_exp, s_asg, s_par, s_aug, s_ret, s_ife, e_var, e_lit, e_glo, e_neg, e_not, e_bin, e_and, e_or, e_ite, e_cmp, e_chn, e_tup, e_lst, e_sub, e_call, e_blt, e_isi, evEs, evT, evI, List.getElem?_cons_succ, List.getElem?_cons_zero, bind_ok, then_ok, nx_then, rt_then, give_some, Option.map_some, t_int, t_abs, iabs_nat, b_add, b_sub, neg_i, tr_bl, s_fr0, s_fr1, Tg.put, Tg.puts, setsP, List.set_cons_succ, List.set_cons_zero, if_true, if_false, Bool.false_eq_true, Bool.not_true, Bool.not_false, c_lt, c_le, c_gt, c_ge, c_eq, c_ne, isi_t, len2, bind_exc, then_exc, ex_then, new0, eL, cl]
    show callK _ _ _ _ _ _ = _
    unfold callK
    show (if ([A.int m].length == 1) = true then _ else _) = _
    rw [if_pos (by rfl)]
    show (match evSs pg 4000 (cP (n + 2)) f__law_row.body [some (.int m), none, none, none] [] with
        | .rt a h' => trim 0 (A.inb 0 a) h' fun h' => R.ok a h'
        | .nx _ h' => trim 0 true h' fun h' => .ok .non h'
        | .ex x _ h' => trim 0 (A.inbs 0 (x.fs.map Prod.snd)) h' fun h' => .exc x h'
        | _ => .err) = _
    rw [run]
    show trim 0 (decide (r2 < 0)) _ _ = _
    rw [decide_eq_false (Nat.not_lt_zero _)]
    unfold trim
    split
    · rfl
    · rfl
theorem ups_fz (k : Nat) : ∀ fs : List Fz, A.ups k (fs.map fz) = fs.map fz
  | [] => rfl
  | f :: fs => by
    show A.up k (fz f) :: A.ups k (fs.map fz) = _
    rw [ups_fz k fs]
    rfl
theorem p_lrow {m : Int} {rs : List Fz} (h1 : 1 ≤ m) (h2 : m ≤ 1000) (e : rowP m = some rs) : ∃ g r, cP (n + 3) 39 [.int m] h = .ok (.ref r) (h ++ g) ∧ seqOf (h ++ g) r = some (rs.map fz) := by
  obtain ⟨g, r, k1, k2⟩ := k_lrow (n := n) h1 h2 e
  refine ⟨g.map (O.up h.length), h.length + r, ?_, ?_⟩
  · show callP _ _ _ _ = _
    unfold callP
    rw [if_pos (by rfl)]
    show graft h (cK (n + 3) 39 [.int m] []) = _
    rw [k1]
    rfl
  · unfold seqOf
    rw [List.getElem?_append_right (by omega), Nat.add_sub_cancel_left, List.getElem?_map, get_seq k2]
    show some (A.ups h.length (rs.map fz)) = _
    rw [ups_fz]
/-! ### the steps of a row -/
def lessF (x y : Fz) : Fz := (top1 (x.1 * y.2 - y.1 * x.2) (x.2 * y.2), und1 (x.1 * y.2 - y.1 * x.2) (x.2 * y.2))
def stL (fs : List Fz) : Nat → Int → Option (List Fz)
  | 0, _ => some []
  | m + 1, k => match (idx fs.length k).bind fun j => fs[j]? with
    | some x => match (idx fs.length (k - 1)).bind fun j => fs[j]? with
      | some y => if z60 x.1 && z60 x.2 && z60 y.1 && z60 y.2 && decide (0 < x.2) && decide (0 < y.2) then match stL fs m (k + 1) with
          | some r => some (lessF x y :: r)
          | none => none
        else none
      | none => none
    | none => none
theorem stL_len (fs : List Fz) : ∀ (m : Nat) (k : Int) (r : List Fz), stL fs m k = some r → r.length = m
  | 0, _, r, e => by
    cases e
    rfl
  | m + 1, k, r, e => by
    unfold stL at e
    split at e
    · split at e
      · split at e
        · split at e
          · next q =>
            cases e
            show _ + 1 = _
            rw [stL_len fs m (k + 1) _ q]
          · cases e
        · cases e
      · cases e
    · cases e
theorem stL_loop (n : Nat) {σ : Sl} {r : Nat} {fs : List Fz} (hs : seqOf h r = some (fs.map fz)) (hσ : σ[4]? = some (some (.ref r))) (hl : 6 < σ.length) : ∀ (m : Nat) (k : Int) (rs : List Fz), stL fs m k = some rs → compL [] (cf (cP (n + 3)) σ (.call 40 [.sub (.var 4) (.var 6), .sub (.var 4) (.bin .Sub (.var 6) (.lit (.int 1)))]) (.nm 6) .yes [6]) (rn k m) h = .ok (rs.map fz) h
  | 0, k, rs, e => by
    cases e
    rfl
  | m + 1, k, rs, e => by
    unfold stL at e
    cases q1 : (idx fs.length k).bind fun j => fs[j]? with
    | none =>
      rw [q1] at e
      cases e
    | some x =>
      cases q2 : (idx fs.length (k - 1)).bind fun j => fs[j]? with
      | none =>
        rw [q1, q2] at e
        cases e
      | some y =>
        rw [q1, q2] at e
        have e : (if (z60 x.1 && z60 x.2 && z60 y.1 && z60 y.2 && decide (0 < x.2) && decide (0 < y.2)) = true then (match stL fs m (k + 1) with
          | some r => some (lessF x y :: r)
          | none => none) else none) = some rs := e
        by_cases hz : (z60 x.1 && z60 x.2 && z60 y.1 && z60 y.2 && decide (0 < x.2) && decide (0 < y.2)) = true
        · rw [if_pos hz] at e
          simp only [Bool.and_eq_true, decide_eq_true_eq] at hz
          obtain ⟨⟨⟨⟨⟨z1, z2⟩, z3⟩, z4⟩, z5⟩, z6⟩ := hz
          cases q3 : stL fs m (k + 1) with
          | none =>
            rw [q3] at e
            cases e
          | some r' =>
            rw [q3] at e
            cases e
            have ih := stL_loop n hs hσ hl m (k + 1) r' q3
            have pl := p_less (n := n) (h := h) z5 z6 ((z60_sz z1).mono (l := 800)) ((z60_sz z2).mono (l := 800)) ((z60_sz z3).mono (l := 800)) ((z60_sz z4).mono (l := 800))
            have g4 : ((wipe σ [6]).set 6 (some (.int k)))[4]? = some (some (.ref r)) := by
              show ((σ.set 6 none).set 6 (some (A.int k)))[4]? = _
              rw [List.getElem?_set_ne (by decide), List.getElem?_set_ne (by decide)]
              exact hσ
            have g6 : ((wipe σ [6]).set 6 (some (.int k)))[6]? = some (some (.int k)) := by
              show ((σ.set 6 none).set 6 (some (A.int k)))[6]? = _
              rw [List.getElem?_set_self (by rw [List.length_set]; exact hl)]
            show compL [] _ (.int k :: rn (k + 1) m) h = _
            generalize hw : (wipe σ [6]).set 6 (some (.int k)) = σ' at g4 g6
            have tp : Tg.put (.nm 6) (.int k) (wipe σ [6]) = some σ' := by rw [← hw]; rfl
            rw [compL_cons still0, cf_is _ _ _ _ _ _ _ _ _ tp]
            simp only [evSs, s_exp, s_asg, s_par, s_aug, s_ret, s_ife, e_var, e_lit, e_glo, e_neg, e_not, e_bin, e_and, e_or, e_ite, e_cmp, e_chn, e_tup, e_lst, e_sub, e_call, e_blt, e_isi, evEs, evT, evI, List.getElem?_cons_succ, List.getElem?_cons_zero, bind_ok, then_ok, nx_then, rt_then, give_some, Option.map_some, t_int, t_abs, iabs_nat, b_add, b_sub, neg_i, tr_bl, s_fr0, s_fr1, Tg.put, Tg.puts, setsP, List.set_cons_succ, List.set_cons_zero, if_true, if_false, Bool.false_eq_true, Bool.not_true, Bool.not_false, c_lt, c_le, c_gt, c_ge, c_eq, c_ne, isi_t, len2, bind_exc, then_exc, ex_then, g4, g6, sub_fz hs q1, sub_fz hs q2, pl, calm_ok, ih]
            rfl
        · rw [if_neg hz] at e
          cases e
end
end My

/-! text Q19 -/
set_option Elab.async false
set_option linter.all false
set_option maxRecDepth 100000
set_option maxHeartbeats 4000000
/-! k46: the rows of all drawn bounds -/
namespace My
open PySem Ev Pl
def smallF (f : Fz) : Bool := Nat.blt f.1.natAbs 4096 && Nat.blt f.2.natAbs 4096
def at? (ts : List Fz) (k : Int) : Option Fz := (idx ts.length k).bind fun j => ts[j]?
def rchk (m : Int) : Bool := match rowP m with
  | some rs => match stL rs (rs.length - 1) 1 with
    | some ss => match sortP ss [] with
      | some ts => match at? ts ((ts.length : Int) - 1) with
        | some mx => match at? ts 0 with
          | some mn => isV (cK 29 36 [.int 0, .int m, .non, .non] []) (.tup (rs.map fz)) && isV (cK 29 36 [.int 1, .int m, .non, .non] []) (.int (rs.length : Int)) && isV (cK 29 36 [.int 2, .int m, .non, .non] []) (.tup [fz mx, fz mn]) && rs.all smallF && smallF mx && smallF mn && Nat.ble rs.length 400 && Nat.ble 1 rs.length
          | none => false
        | none => false
      | none => false
    | none => false
  | none => false
def mosts : List Int := [1, 2, 3, 5, 8, 13, 24]
theorem rc1 : rchk 1 = true := by decide +kernel
theorem rc2 : rchk 2 = true := by decide +kernel
theorem rc3 : rchk 3 = true := by decide +kernel
theorem rc5 : rchk 5 = true := by decide +kernel
theorem rc8 : rchk 8 = true := by decide +kernel
theorem rc13 : rchk 13 = true := by decide +kernel
theorem rc24 : rchk 24 = true := by decide +kernel
theorem rcs : ∀ m ∈ mosts, rchk m = true := fun m hm => by
  simp only [mosts, List.mem_cons, List.not_mem_nil, or_false] at hm
  rcases hm with rfl | rfl | rfl | rfl | rfl | rfl | rfl
  · exact rc1
  · exact rc2
  · exact rc3
  · exact rc5
  · exact rc8
  · exact rc13
  · exact rc24
end My

/-! text Q20 -/
set_option Elab.async false
set_option linter.all false
set_option maxRecDepth 100000
set_option maxHeartbeats 4000000
/-! k46: what the law's own lines need: values as data, wrong values, drawn fractions -/
namespace My
open PySem Ev Pl
mutual
theorem toD_inb (h : Ho) : ∀ (n : Nat) (a : A), A.inb 0 a = true → toD h n a = toD [] n a
  | 0, a, _ => rfl
  | n + 1, .non, _ => rfl
  | n + 1, .bl b, _ => rfl
  | n + 1, .int i, _ => rfl
  | n + 1, .str s, _ => rfl
  | n + 1, .tup xs, e => by
    show (optMap (toD h n) xs).map _ = (optMap (toD [] n) xs).map _
    rw [toDs_inb h n xs e]
  | n + 1, .lis xs, e => by
    show (optMap (toD h n) xs).map _ = (optMap (toD [] n) xs).map _
    rw [toDs_inb h n xs e]
  | n + 1, .ref m, e => by
    have e : decide (m < 0) = true := e
    exact absurd (of_decide_eq_true e) (Nat.not_lt_zero m)
  | n + 1, .fn f, _ => rfl
theorem toDs_inb (h : Ho) : ∀ (n : Nat) (as : List A), A.inbs 0 as = true → optMap (toD h n) as = optMap (toD [] n) as
  | n, [], _ => rfl
  | n, a :: as, e => by
    obtain ⟨h1, h2⟩ := Bool.and_eq_true_iff.mp (show (A.inb 0 a && A.inbs 0 as) = true from e)
    simp only [optMap, toD_inb h n a h1, toDs_inb h n as h2]
end
theorem isV_is {r : R A} {v : A} (e : isV r v = true) : r = .ok v [] := by
  unfold isV at e
  split at e
  · next w =>
    rw [A.beq_is _ _ e]
  · cases e
/-- shown from any objects -/
theorem rOk_repr {v : A} (hi : A.inb 0 v = true) (e : rOk v = true) : ∃ s, ∀ h, bltA .repr [v] h = .ok (.str s) h := by
  unfold rOk at e
  split at e
  · next d q =>
    refine ⟨d.shown, fun h => ?_⟩
    show (match dataOf h v with
      | some d => if d.showable && !d.hasDict && Nat.ble d.depth 64 && lineOk d.shown.length then R.ok (A.str d.shown) h else .err
      | none => .err) = _
    have : dataOf h v = some d := by
      unfold dataOf at q ⊢
      rw [toD_inb h 12 v hi]
      exact q
    rw [this]
    dsimp only
    rw [if_pos e]
  · cases e
/-! ### wrong values -/
def AR (s : Str) : A := .tup [.str "argument", .str s]
def bads : List A := [.non, .int 5, fr 1 0, fr 2 4, fr 1 (-2), .tup [.bl true, .int 1], fr 1000001 1]
def odds : List A := [.int 0, .int 101, .non, .bl true]
def odds2 : List A := [.int 0, .int 1000001, .non, .bl true]
def calls1 : List Int := [3, 4, 5, 6, 7, 8, 9, 11]
def calls2 : List Int := [4, 5, 7, 11]
theorem bad1 : (odds.all fun o => [0, 1, 2].all fun (i : Int) => isV (cK 29 36 [.int i, o, .non, .non] []) (AR "most")) = true := by decide +kernel
theorem bad2 : (odds2.all fun o => isV (cK 29 36 [.int 3, fr 1 2, o, .non] []) (AR "most")) = true := by decide +kernel
theorem bad3 : (bads.all fun o => calls1.all fun i => isV (cK 29 36 [.int i, o, fr 1 3, .non] []) (AR "one")) = true := by decide +kernel
theorem bad4 : (bads.all fun o => isV (cK 29 36 [.int 6, fr 1 3, o, .non] []) (AR "one")) = true := by decide +kernel
theorem bad5 : (bads.all fun o => calls2.all fun i => isV (cK 29 36 [.int i, fr 1 3, o, .non] []) (AR "other")) = true := by decide +kernel
def wrongs : List A := [.non, .tup [.tup [.str "up", .int 1]], .tup [.tup [.str "left", .int 0]], .tup [.tup [.str "left", .int 1001]], .tup [.tup [.str "left"]], .tup [.tup [.str "left", .bl true]], .tup (List.replicate 31 (.tup [.str "left", .int 1]))]
theorem bad6 : (wrongs.all fun o => isV (cK 29 36 [.int 10, o, .non, .non] []) (AR "turns")) = true := by decide +kernel
theorem inb_bads : (bads.all fun o => A.inb 0 o) = true := by decide +kernel
theorem inb_odds : (odds.all fun o => A.inb 0 o) = true := by decide +kernel
theorem inb_odds2 : (odds2.all fun o => A.inb 0 o) = true := by decide +kernel
theorem inb_wrongs : (wrongs.all fun o => A.inb 0 o) = true := by decide +kernel
/-- rows of like words -/
def ws (s : Str) (k : Nat) : List A := List.replicate k (AR s)
theorem eq_ws : ∀ s ∈ (["most", "one", "other"] : List Str), ∀ k ∈ ([4, 9] : List Nat), (match optMap (toD [] 11) (ws s k) with
    | some ds => SeqAt.shaped (.list ds) && PyData.eqv (.list ds) (.list ds)
    | none => false) = true := by decide +kernel
theorem inbs_ws (s : Str) : ∀ k, A.inbs 0 (ws s k) = true
  | 0 => rfl
  | k + 1 => by
    show (A.inb 0 (AR s) && A.inbs 0 (ws s k)) = true
    rw [inbs_ws s k]
    rfl
theorem ne_ws {s : Str} (hs : s ∈ (["most", "one", "other"] : List Str)) {k : Nat} (hk : k ∈ ([4, 9] : List Nat)) {h : Ho} {r q : Nat} (e1 : seqOf h r = some (ws s k)) (e2 : seqOf h q = some (ws s k)) : cmpA .NotEq (.ref r) (.ref q) h = some false := by
  have c := eq_ws s hs k hk
  cases o : optMap (toD [] 11) (ws s k) with
  | none =>
    rw [o] at c
    cases c
  | some ds =>
    rw [o] at c
    have c : (SeqAt.shaped (.list ds) && PyData.eqv (.list ds) (.list ds)) = true := c
    obtain ⟨c1, c2⟩ := Bool.and_eq_true_iff.mp c
    have od : optMap (toD h 11) (ws s k) = some ds := by rw [toDs_inb h 11 _ (inbs_ws s k), o]
    have d1 := data_lst e1 od
    have d2 := data_lst e2 od
    show (eqD (.ref r) (.ref q) h).map _ = _
    unfold eqD
    rw [d1, d2]
    dsimp only
    rw [c1, c2]
    rfl
theorem c_turns (h : Ho) : cmpA .Eq (AR "turns") (AR "turns") h = some true := by
  have e : (SeqAt.shaped (.tuple [.str "argument", .str "turns"]) && SeqAt.shaped (.tuple [.str "argument", .str "turns"])) = true := by decide +kernel
  have e2 : PyData.eqv (.tuple [.str "argument", .str "turns"]) (.tuple [.str "argument", .str "turns"]) = true := by decide +kernel
  show (if (SeqAt.shaped (.tuple [.str "argument", .str "turns"]) && SeqAt.shaped (.tuple [.str "argument", .str "turns"])) = true then some (PyData.eqv (.tuple [.str "argument", .str "turns"]) (.tuple [.str "argument", .str "turns"])) else none) = _
  rw [e, e2]
  rfl
section
variable {p : Nat} {ds ns : List Int} {g : Ho} {h : Ho}
/-- a told value of pure arguments -/
theorem told_pure {i : Int} {u v w r : A} (e : isV (cK 29 36 [.int i, u, v, w] []) r = true) (hu : A.inb 0 u = true) (hv : A.inb 0 v = true) (hw : A.inb 0 w = true) (hr : A.inb 0 r = true) : cP 29 36 [.int i, u, v, w] h = .ok r h := by
  refine cp (isV_is e) ?_ hr h
  show (true && (A.inb 0 u && (A.inb 0 v && (A.inb 0 w && true)))) = true
  rw [hu, hv, hw]
  rfl
/-- one of a row that is made for it -/
theorem draw1 (z : Dz ds) (hpp : p < 2 ^ 20) {es : List E} {xs : List A} {σ : Sl} (e : evEs (cP 29) es σ (hp ds ns p g) = .ok xs (hp ds ns p g)) (h1 : σ[1]? = some (some (.ref 0))) (h2 : σ[2]? = some (some (.ref 2))) (hne : 0 < xs.length) : ∃ x ∈ xs, evE (cP 29) (.call 33 [.lst es, .var 1, .var 2]) σ (hp ds ns p g) = .ok x (hp ds ns (p + 1) (g ++ [.lst xs])) := by
  obtain ⟨x, hx, o⟩ := p_one (n := 26) (ns := ns) (g := g) (l := [.lst xs]) (i := 0) (xs := xs) z hpp rfl hne
  refine ⟨x, hx, ?_⟩
  have N : newL xs (hp ds ns p g) = .ok (.ref (g.length + 3)) (hp ds ns p (g ++ [.lst xs])) := by
    have := new_hp (ds := ds) (ns := ns) (p := p) (g := g) (l := []) (xs := xs)
    rw [List.append_nil] at this
    exact this
  rw [e_call]
  simp only [evEs, e_lst, e, bind_ok, N, e_var, h1, h2]
  exact o
def fracE : List E := [.lit (.int 1), .lit (.int 2), .lit (.int 3), .lit (.int 5), .lit (.int 7), .lit (.int 12), .lit (.int 29), .lit (.int 40)]
theorem p_frac (z : Dz ds) (hpp : p + 2 < 2 ^ 20) : ∃ (t : Nat) (u : Int) (g' : Ho), t < 61 ∧ u ∈ dens ∧ cP 29 44 [.ref 0, .ref 2] (hp ds ns p g) = .ok (fr (top1 ((t : Int) - 30) u) (und1 ((t : Int) - 30) u)) (hp ds ns (p + 2) g') := by
  obtain ⟨v, v0, v1, ev⟩ := p_take (n := 26) (p := p) (ns := ns) (g := g) z (by omega) (m := 61) (by decide)
  have ev : cP 28 32 [.ref 0, .ref 2, .int 61] (hp ds ns p g) = .ok (.int v) (hp ds ns (p + 1) g) := ev
  have hx : (dens.map A.int) = [.int 1, .int 2, .int 3, .int 5, .int 7, .int 12, .int 29, .int 40] := rfl
  obtain ⟨x, hx, eo⟩ := p_one (n := 25) (p := p + 1) (ns := ns) (g := g) (l := [.lst (dens.map A.int)]) (i := 0) (xs := dens.map A.int) z (by omega) rfl (by decide)
  obtain ⟨u, hu, rfl⟩ := List.mem_map.mp hx
  have u0 : 0 < u ∧ u ≤ 40 := (by decide : ∀ u ∈ dens, 0 < u ∧ u ≤ 40) u hu
  have su : Sz 1900 u := (Sz.of (k := 10) 40 (by omega)).mono
  have N : newL [.int 1, .int 2, .int 3, .int 5, .int 7, .int 12, .int 29, .int 40] (hp ds ns (p + 1) g) = .ok (.ref (g.length + 3)) (hp ds ns (p + 1) (g ++ [.lst (dens.map A.int)])) := by
    have := new_hp (ds := ds) (ns := ns) (p := p + 1) (g := g) (l := []) (xs := dens.map A.int)
    rw [List.append_nil] at this
    exact this
  have eo : cP 28 33 [.ref (g.length + 3), .ref 0, .ref 2] (hp ds ns (p + 1) (g ++ [.lst (dens.map A.int)])) = .ok (.int u) (hp ds ns (p + 2) (g ++ [.lst (dens.map A.int)])) := eo
  have run : evSs pg 4000 (cP 28) f__law_fraction.body ([A.ref 0, .ref 2].map some ++ List.replicate (f__law_fraction.N.length - [A.ref 0, .ref 2].length) none) (hp ds ns p g) = .rt (fr (top1 (v - 30) u) (und1 (v - 30) u)) (hp ds ns (p + 2) (g ++ [.lst (dens.map A.int)])) := by
    show evSs pg 4000 (cP 28) f__law_fraction.body [some (.ref 0), some (.ref 2), none, none] _ = _
    unfold f__law_fraction
    have mk : cP 28 35 [.int (v - 30), .int u] (hp ds ns (p + 2) (g ++ [.lst (dens.map A.int)])) = _ := p_lmade (n := 26) (a := v - 30) (b := u) (h := hp ds ns (p + 2) (g ++ [.lst (dens.map A.int)])) u0.1 su
    simp only [evSs, s_exp, s_asg, s_par, s_aug, s_ret, s_ife, e_var, e_lit, e_glo, e_neg, e_not, e_bin, e_and, e_or, e_ite, e_cmp, e_chn, e_tup, e_lst, e_sub, e_call, e_blt, e_isi, evEs, evT, evI, List.getElem?_cons_succ, List.getElem?_cons_zero, bind_ok, then_ok, nx_then, rt_then, give_some, Option.map_some, t_int, t_abs, iabs_nat, b_add, b_sub, neg_i, tr_bl, s_fr0, s_fr1, Tg.put, Tg.puts, setsP, List.set_cons_succ, List.set_cons_zero, if_true, if_false, Bool.false_eq_true, Bool.not_true, Bool.not_false, c_lt, c_le, c_gt, c_ge, c_eq, c_ne, isi_t, len2, bind_exc, then_exc, ex_then, ev, N, eo, mk]
  obtain ⟨g', e⟩ := rt_hp (n := 28) (f := 44) (d := f__law_fraction) rfl rfl run (fun m => rfl)
  refine ⟨v.toNat, u, g', by omega, hu, ?_⟩
  rw [show ((v.toNat : Nat) : Int) = v by omega]
  show callP _ _ _ _ = _
  rw [callP_ref (by rfl)]
  exact e
end
theorem fq_of {f : Fz} (e : fqB f = true) : Fq f.1 f.2 := by
  unfold fqB at e
  simp only [Bool.and_eq_true, decide_eq_true_eq, beq_iff_eq] at e
  obtain ⟨⟨⟨h1, h2⟩, h3⟩, h4⟩ := e
  exact ⟨Nat.le_of_ble_eq_true h1, h2, h3, h4⟩
theorem eqz_is {x : Option Fz} {y : Fz} (e : eqz x y = true) : x = some y := by
  unfold eqz at e
  split at e
  · next p =>
    obtain ⟨h1, h2⟩ := Bool.and_eq_true_iff.mp e
    rw [beq_iff_eq] at h1 h2
    obtain ⟨p1, p2⟩ := p
    obtain ⟨y1, y2⟩ := y
    dsimp only at h1 h2
    rw [h1, h2]
  · cases e
/-- what holds of a drawn fraction -/
structure Fd (a b : Int) : Prop where
  f : Fq a b
  n9 : Fq (near a b 9).1.1 (near a b 9).1.2
  n30 : Fq (near a b 30).2.1 (near a b 30).2.2
  ab : Fq (a + b) b
  sd : ∀ m ∈ bounds, sid a b (m : Int) (-1) = some (near a b m).1 ∧ sid a b (m : Int) 1 = some (near a b m).2
  w : wchk a b = true
theorem fd_of {t : Nat} {u : Int} (ht : t < 61) (hu : u ∈ dens) : Fd (top1 ((t : Int) - 30) u) (und1 ((t : Int) - 30) u) := by
  have c := List.all_eq_true.mp (show (dens.all fun u => chk (top1 ((t : Int) - 30) u) (und1 ((t : Int) - 30) u)) = true from cks t ht) u hu
  have w := List.all_eq_true.mp (show (dens.all fun u => wchk (top1 ((t : Int) - 30) u) (und1 ((t : Int) - 30) u)) = true from wks t ht) u hu
  unfold chk at c
  simp only [Bool.and_eq_true] at c
  obtain ⟨⟨⟨⟨c1, c2⟩, c3⟩, c4⟩, c5⟩ := c
  refine ⟨fq_of c1, fq_of c2, fq_of c3, fq_of c4, fun m hm => ?_, w⟩
  have := List.all_eq_true.mp c5 m hm
  obtain ⟨h1, h2⟩ := Bool.and_eq_true_iff.mp this
  exact ⟨eqz_is h1, eqz_is h2⟩
end My

/-! text Q21 -/
set_option Elab.async false
set_option linter.all false
set_option maxRecDepth 100000
set_option maxHeartbeats 4000000
/-! k46: the law's loop over three fractions -/
namespace My
open PySem Ev Pl
section
variable {p : Nat} {ds ns : List Int} {g : Ho} {a b : Int} {v0 v3 v4 v5 v6 v7 v8 v9 v10 v11 v12 v13 v14 v15 v16 v17 v18 v19 v20 v21 : Option A}
def bLt : List S := [.par [9, 10] [.call 44 [.var 1, .var 2], .call 44 [.var 1, .var 2]], .asg (.nm 10) (.call 33 [.lst [.var 10, .sub (.call 41 [.var 9, .lit (.int 9)]) (.lit (.int 0)), .sub (.call 41 [.var 9, .lit (.int 30)]) (.lit (.int 1)), .tup [.bin .Add (.sub (.var 9) (.lit (.int 0))) (.sub (.var 9) (.lit (.int 1))), .sub (.var 9) (.lit (.int 1))]], .var 1, .var 2]), .asg (.nm 11) (.call 33 [.lst [.lit (.int 1), .lit (.int 2), .lit (.int 7), .lit (.int 20), .lit (.int 50)], .var 1, .var 2]), .ife (.or (.val (.cmp .NotEq (.blt .repr [.call 36 [.lit (.int 3), .var 9, .var 11, .lit .non]]) (.blt .repr [.call 41 [.var 9, .var 11]]))) (.not (.val (.call 45 [.var 9, .var 10, .var 1, .var 2])))) [.ret (.lit (.bl false))] [], .asg (.nm 12) (.ite (.val (.cmp .LtE (.sub (.var 9) (.lit (.int 0))) (.lit (.int 0)))) (.tup [.lit (.str "argument"), .lit (.str "one")]) (.call 43 [.var 9])), .ife (.val (.cmp .NotEq (.blt .repr [.call 36 [.lit (.int 9), .var 9, .lit .non, .lit .non]]) (.blt .repr [.var 12]))) [.ret (.lit (.bl false))] [], .ife (.and (.val (.cmp .Gt (.sub (.var 9) (.lit (.int 0))) (.lit (.int 0)))) (.val (.cmp .NotEq (.call 36 [.lit (.int 10), .var 12, .lit .non, .lit .non]) (.var 9)))) [.ret (.lit (.bl false))] []]
theorem lt1 (z : Dz ds) (hpp : p + 20 < 2 ^ 20) : ∃ a b a2 b2 g', Fd a b ∧ Fd a2 b2 ∧ evS pg 4000 (cP 29) (.par [9, 10] [.call 44 [.var 1, .var 2], .call 44 [.var 1, .var 2]]) [v0, some (.ref 0), some (.ref 2), v3, v4, v5, v6, v7, v8, v9, v10, v11, v12, v13, v14, v15, v16, v17, v18, v19, v20, v21] (hp ds ns p g) = .nx [v0, some (.ref 0), some (.ref 2), v3, v4, v5, v6, v7, v8, some (fr a b), some (fr a2 b2), v11, v12, v13, v14, v15, v16, v17, v18, v19, v20, v21] (hp ds ns (p + 4) g') := by
  obtain ⟨t, u, g1, ht, hu, e1⟩ := p_frac (ns := ns) (p := p) (g := g) z (by omega)
  obtain ⟨t2, u2, g2, ht2, hu2, e2⟩ := p_frac (ns := ns) (p := p + 2) (g := g1) z (by omega)
  refine ⟨_, _, _, _, g2, fd_of ht hu, fd_of ht2 hu2, ?_⟩
  simp only [evSs, s_exp, s_asg, s_par, s_aug, s_ret, s_ife, e_var, e_lit, e_glo, e_neg, e_not, e_bin, e_and, e_or, e_ite, e_cmp, e_chn, e_tup, e_lst, e_sub, e_call, e_blt, e_isi, evEs, evT, evI, List.getElem?_cons_succ, List.getElem?_cons_zero, bind_ok, then_ok, nx_then, rt_then, give_some, Option.map_some, t_int, t_abs, iabs_nat, b_add, b_sub, neg_i, tr_bl, s_fr0, s_fr1, Tg.put, Tg.puts, setsP, List.set_cons_succ, List.set_cons_zero, if_true, if_false, Bool.false_eq_true, Bool.not_true, Bool.not_false, c_lt, c_le, c_gt, c_ge, c_eq, c_ne, isi_t, len2, bind_exc, then_exc, ex_then, e1, e2]
theorem lt2 (z : Dz ds) (hpp : p + 20 < 2 ^ 20) (D : Fd a b) {a2 b2 : Int} (D2 : Fd a2 b2) : ∃ c d g', Fq c d ∧ evS pg 4000 (cP 29) (.asg (.nm 10) (.call 33 [.lst [.var 10, .sub (.call 41 [.var 9, .lit (.int 9)]) (.lit (.int 0)), .sub (.call 41 [.var 9, .lit (.int 30)]) (.lit (.int 1)), .tup [.bin .Add (.sub (.var 9) (.lit (.int 0))) (.sub (.var 9) (.lit (.int 1))), .sub (.var 9) (.lit (.int 1))]], .var 1, .var 2])) [v0, some (.ref 0), some (.ref 2), v3, v4, v5, v6, v7, v8, some (fr a b), some (fr a2 b2), v11, v12, v13, v14, v15, v16, v17, v18, v19, v20, v21] (hp ds ns p g) = .nx [v0, some (.ref 0), some (.ref 2), v3, v4, v5, v6, v7, v8, some (fr a b), some (fr c d), v11, v12, v13, v14, v15, v16, v17, v18, v19, v20, v21] (hp ds ns (p + 1) g') := by
  have n9 := p_near (n := 26) (h := hp ds ns p g) D.f (m := 9) (v := 9) rfl (by decide) (by decide)
  have n30 := p_near (n := 26) (h := hp ds ns p g) D.f (m := 30) (v := 30) rfl (by decide) (by decide)
  have n9 : cP 29 41 [fr a b, .int 9] (hp ds ns p g) = .ok (.tup [fz (near a b 9).1, fz (near a b 9).2]) (hp ds ns p g) := n9
  have n30 : cP 29 41 [fr a b, .int 30] (hp ds ns p g) = .ok (.tup [fz (near a b 30).1, fz (near a b 30).2]) (hp ds ns p g) := n30
  have q1 := D.n9
  have q2 := D.n30
  have q3 := D.ab
  have q4 := D2.f
  generalize near a b 9 = N9 at *
  generalize near a b 30 = N30 at *
  have es : evEs (cP 29) [.var 10, .sub (.call 41 [.var 9, .lit (.int 9)]) (.lit (.int 0)), .sub (.call 41 [.var 9, .lit (.int 30)]) (.lit (.int 1)), .tup [.bin .Add (.sub (.var 9) (.lit (.int 0))) (.sub (.var 9) (.lit (.int 1))), .sub (.var 9) (.lit (.int 1))]] [v0, some (.ref 0), some (.ref 2), v3, v4, v5, v6, v7, v8, some (fr a b), some (fr a2 b2), v11, v12, v13, v14, v15, v16, v17, v18, v19, v20, v21] (hp ds ns p g) = .ok [fr a2 b2, fz N9.1, fz N30.2, fr (a + b) b] (hp ds ns p g) := by
    simp only [evSs, s_exp, s_asg, s_par, s_aug, s_ret, s_ife, e_var, e_lit, e_glo, e_neg, e_not, e_bin, e_and, e_or, e_ite, e_cmp, e_chn, e_tup, e_lst, e_sub, e_call, e_blt, e_isi, evEs, evT, evI, List.getElem?_cons_succ, List.getElem?_cons_zero, bind_ok, then_ok, nx_then, rt_then, give_some, Option.map_some, t_int, t_abs, iabs_nat, b_add, b_sub, neg_i, tr_bl, s_fr0, s_fr1, Tg.put, Tg.puts, setsP, List.set_cons_succ, List.set_cons_zero, if_true, if_false, Bool.false_eq_true, Bool.not_true, Bool.not_false, c_lt, c_le, c_gt, c_ge, c_eq, c_ne, isi_t, len2, bind_exc, then_exc, ex_then, n9, n30]
  obtain ⟨x, hx, e⟩ := draw1 z (by omega) es rfl rfl (Nat.succ_pos _)
  have hk : ∃ c d, x = fr c d ∧ Fq c d := by
    simp only [List.mem_cons, List.not_mem_nil, or_false] at hx
    rcases hx with hx | hx | hx | hx
    · exact ⟨_, _, hx, q4⟩
    · exact ⟨_, _, hx, q1⟩
    · exact ⟨_, _, hx, q2⟩
    · exact ⟨_, _, hx, q3⟩
  obtain ⟨c, d, rfl, hq⟩ := hk
  refine ⟨c, d, g ++ [.lst [fr a2 b2, fz N9.1, fz N30.2, fr (a + b) b]], hq, ?_⟩
  rw [s_asg, e, then_ok]
  rfl
theorem lt3 (z : Dz ds) (hpp : p + 20 < 2 ^ 20) : ∃ (m : Nat) (v : Int) (g' : Ho), m ∈ bounds ∧ (m : Int) = v ∧ evS pg 4000 (cP 29) (.asg (.nm 11) (.call 33 [.lst [.lit (.int 1), .lit (.int 2), .lit (.int 7), .lit (.int 20), .lit (.int 50)], .var 1, .var 2])) [v0, some (.ref 0), some (.ref 2), v3, v4, v5, v6, v7, v8, v9, v10, v11, v12, v13, v14, v15, v16, v17, v18, v19, v20, v21] (hp ds ns p g) = .nx [v0, some (.ref 0), some (.ref 2), v3, v4, v5, v6, v7, v8, v9, v10, some (.int v), v12, v13, v14, v15, v16, v17, v18, v19, v20, v21] (hp ds ns (p + 1) g') := by
  have es : evEs (cP 29) [.lit (.int 1), .lit (.int 2), .lit (.int 7), .lit (.int 20), .lit (.int 50)] [v0, some (.ref 0), some (.ref 2), v3, v4, v5, v6, v7, v8, v9, v10, v11, v12, v13, v14, v15, v16, v17, v18, v19, v20, v21] (hp ds ns p g) = .ok [.int 1, .int 2, .int 7, .int 20, .int 50] (hp ds ns p g) := by
    simp only [evSs, s_exp, s_asg, s_par, s_aug, s_ret, s_ife, e_var, e_lit, e_glo, e_neg, e_not, e_bin, e_and, e_or, e_ite, e_cmp, e_chn, e_tup, e_lst, e_sub, e_call, e_blt, e_isi, evEs, evT, evI, List.getElem?_cons_succ, List.getElem?_cons_zero, bind_ok, then_ok, nx_then, rt_then, give_some, Option.map_some, t_int, t_abs, iabs_nat, b_add, b_sub, neg_i, tr_bl, s_fr0, s_fr1, Tg.put, Tg.puts, setsP, List.set_cons_succ, List.set_cons_zero, if_true, if_false, Bool.false_eq_true, Bool.not_true, Bool.not_false, c_lt, c_le, c_gt, c_ge, c_eq, c_ne, isi_t, len2, bind_exc, then_exc, ex_then]
  obtain ⟨x, hx, e⟩ := draw1 z (by omega) es rfl rfl (Nat.succ_pos _)
  have hk : ∃ (m : Nat) (v : Int), m ∈ bounds ∧ (m : Int) = v ∧ x = .int v := by
    simp only [List.mem_cons, List.not_mem_nil, or_false] at hx
    rcases hx with hx | hx | hx | hx | hx
    · exact ⟨1, 1, by decide, rfl, hx⟩
    · exact ⟨2, 2, by decide, rfl, hx⟩
    · exact ⟨7, 7, by decide, rfl, hx⟩
    · exact ⟨20, 20, by decide, rfl, hx⟩
    · exact ⟨50, 50, by decide, rfl, hx⟩
  obtain ⟨m, v, hm, hv, rfl⟩ := hk
  refine ⟨m, v, g ++ [.lst [.int 1, .int 2, .int 7, .int 20, .int 50]], hm, hv, ?_⟩
  rw [s_asg, e, then_ok]
  rfl
theorem near_s (f : Fq a b) {m : Nat} (h2 : m ≤ 1000) : Fs (near a b m).1 ∧ Fs (near a b m).2 := by
  have key : ∀ (k : Nat) (i : Int) (l u : Fz), Fs l → Fs u → 1 ≤ i → i + k ≤ 5000 → Fs (nearR a b k i l u).1 ∧ Fs (nearR a b k i l u).2 := fun k => by
    induction k with
    | zero => intro i l u hl hu _ _; exact ⟨hl, hu⟩
    | succ k ih =>
      intro i l u hl hu h1 h2
      obtain ⟨t1, t2, t3⟩ := dn_up_s f h1 (show i ≤ 5000 by omega)
      exact ih (i + 1) _ _ (lo2_s hl t2) (hi2_s hu t3) (by omega) (by omega)
  obtain ⟨t1, t2, t3⟩ := dn_up_s f (u := 1) (by decide) (by decide)
  exact key (m - 1) 2 _ _ t2 t3 (by decide) (by omega)
theorem lt4 (z : Dz ds) (hpp : p + 20 < 2 ^ 20) (D : Fd a b) {c d : Int} (k : Fq c d) {m : Nat} {v : Int} (hm : m ∈ bounds) (hv : (m : Int) = v) : ∃ p' g', p' ≤ p + 4 ∧ evS pg 4000 (cP 29) (.ife (.or (.val (.cmp .NotEq (.blt .repr [.call 36 [.lit (.int 3), .var 9, .var 11, .lit .non]]) (.blt .repr [.call 41 [.var 9, .var 11]]))) (.not (.val (.call 45 [.var 9, .var 10, .var 1, .var 2])))) [.ret (.lit (.bl false))] []) [v0, some (.ref 0), some (.ref 2), v3, v4, v5, v6, v7, v8, some (fr a b), some (fr c d), some (.int v), v12, v13, v14, v15, v16, v17, v18, v19, v20, v21] (hp ds ns p g) = .nx [v0, some (.ref 0), some (.ref 2), v3, v4, v5, v6, v7, v8, some (fr a b), some (fr c d), some (.int v), v12, v13, v14, v15, v16, v17, v18, v19, v20, v21] (hp ds ns p' g') := by
  have hm2 : 1 ≤ m ∧ m ≤ 50 := (by decide : ∀ m ∈ bounds, 1 ≤ m ∧ m ≤ 50) m hm
  obtain ⟨d1, d2⟩ := D.sd m hm
  rw [hv] at d1 d2
  obtain ⟨p', g', hp', ep⟩ := p_pair (n := 0) (pl := p) (ns := ns) (g := g) z (by omega) D.f k
  refine ⟨p', g', hp', ?_⟩
  have t3 : cP 29 36 [.int 3, fr a b, .int v, .non] (hp ds ns p g) = .ok (.tup [fz (near a b m).1, fz (near a b m).2]) (hp ds ns p g) := t_nbr (n := 2) D.f (by omega) (by omega) d1 d2
  have nr : cP 29 41 [fr a b, .int v] (hp ds ns p g) = .ok (.tup [fz (near a b m).1, fz (near a b m).2]) (hp ds ns p g) := p_near (n := 26) D.f hv hm2.1 (by omega)
  have ep : cP 29 45 [fr a b, fr c d, .ref 0, .ref 2] (hp ds ns p g) = .ok (.bl true) (hp ds ns p' g') := ep
  obtain ⟨q1, q2⟩ := near_s (m := m) D.f (by omega)
  generalize (near a b m).1 = l at *
  generalize (near a b m).2 = u at *
  have S : Sh 2 _ (.tuple [.tuple [.int l.1, .int l.2], .tuple [.int u.1, .int u.2]]) := Sh.tup (ShA.cons (.frac q1.a.mono q1.b.mono) (ShA.cons (.frac q2.a.mono q2.b.mono) .nil))
  have dt : dataOf (hp ds ns p g) (.tup [fz l, fz u]) = some (.tuple [.tuple [.int l.1, .int l.2], .tuple [.int u.1, .int u.2]]) := rfl
  obtain ⟨s, rs⟩ : ∃ s, bltA .repr [.tup [fz l, fz u]] (hp ds ns p g) = .ok (.str s) (hp ds ns p g) := ⟨_, shows dt S⟩
  simp only [evSs, s_exp, s_asg, s_par, s_aug, s_ret, s_ife, e_var, e_lit, e_glo, e_neg, e_not, e_bin, e_and, e_or, e_ite, e_cmp, e_chn, e_tup, e_lst, e_sub, e_call, e_blt, e_isi, evEs, evT, evI, List.getElem?_cons_succ, List.getElem?_cons_zero, bind_ok, then_ok, nx_then, rt_then, give_some, Option.map_some, t_int, t_abs, iabs_nat, b_add, b_sub, neg_i, tr_bl, s_fr0, s_fr1, Tg.put, Tg.puts, setsP, List.set_cons_succ, List.set_cons_zero, if_true, if_false, Bool.false_eq_true, Bool.not_true, Bool.not_false, c_lt, c_le, c_gt, c_ge, c_eq, c_ne, isi_t, len2, bind_exc, then_exc, ex_then, t3, nr, rs, ne_str, ep]
theorem lt5 (D : Fd a b) : ∃ w g', (0 < a → A.inb 0 w = true ∧ isV (cK 29 36 [.int 9, fr a b, .non, .non] []) w = true ∧ isV (cK 29 36 [.int 10, w, .non, .non] []) (fr a b) = true ∧ rOk w = true) ∧ (¬ 0 < a → w = AR "one" ∧ isV (cK 29 36 [.int 9, fr a b, .non, .non] []) (AR "one") = true) ∧ evS pg 4000 (cP 29) (.asg (.nm 12) (.ite (.val (.cmp .LtE (.sub (.var 9) (.lit (.int 0))) (.lit (.int 0)))) (.tup [.lit (.str "argument"), .lit (.str "one")]) (.call 43 [.var 9]))) [v0, some (.ref 0), some (.ref 2), v3, v4, v5, v6, v7, v8, some (fr a b), v10, v11, v12, v13, v14, v15, v16, v17, v18, v19, v20, v21] (hp ds ns p g) = .nx [v0, some (.ref 0), some (.ref 2), v3, v4, v5, v6, v7, v8, some (fr a b), v10, v11, some w, v13, v14, v15, v16, v17, v18, v19, v20, v21] (hp ds ns p g') := by
  have w := D.w
  unfold wchk at w
  by_cases h : 0 < a
  · rw [if_pos h] at w
    cases q : cK 29 43 [fr a b] [] with
    | ok v g43 =>
      rw [q] at w
      have w : (A.inb 0 v && isV (cK 29 36 [.int 9, fr a b, .non, .non] []) v && isV (cK 29 36 [.int 10, v, .non, .non] []) (fr a b) && rOk v) = true := w
      simp only [Bool.and_eq_true] at w
      obtain ⟨⟨⟨w1, w2⟩, w3⟩, w4⟩ := w
      have cl : cP 29 43 [fr a b] (hp ds ns p g) = .ok v (hp ds ns p (g ++ g43.map (O.up (hp ds ns p g).length))) := by
        show callP _ _ _ _ = _
        unfold callP
        rw [if_pos (by rfl)]
        show graft _ (cK 29 43 [fr a b] []) = _
        rw [q]
        show R.ok (A.up _ v) _ = _
        rw [up_inb _ _ w1]
        rfl
      refine ⟨v, g ++ g43.map (O.up (hp ds ns p g).length), fun _ => ⟨w1, w2, w3, w4⟩, fun hn => absurd h hn, ?_⟩
      simp only [evSs, s_exp, s_asg, s_par, s_aug, s_ret, s_ife, e_var, e_lit, e_glo, e_neg, e_not, e_bin, e_and, e_or, e_ite, e_cmp, e_chn, e_tup, e_lst, e_sub, e_call, e_blt, e_isi, evEs, evT, evI, List.getElem?_cons_succ, List.getElem?_cons_zero, bind_ok, then_ok, nx_then, rt_then, give_some, Option.map_some, t_int, t_abs, iabs_nat, b_add, b_sub, neg_i, tr_bl, s_fr0, s_fr1, Tg.put, Tg.puts, setsP, List.set_cons_succ, List.set_cons_zero, if_true, if_false, Bool.false_eq_true, Bool.not_true, Bool.not_false, c_lt, c_le, c_gt, c_ge, c_eq, c_ne, isi_t, len2, bind_exc, then_exc, ex_then, decide_eq_false (show ¬ a ≤ 0 by omega), cl]
    | exc x h =>
      rw [q] at w
      cases w
    | err =>
      rw [q] at w
      cases w
  · rw [if_neg h] at w
    refine ⟨AR "one", g, fun hp => absurd hp h, fun _ => ⟨rfl, w⟩, ?_⟩
    unfold AR
    simp only [evSs, s_exp, s_asg, s_par, s_aug, s_ret, s_ife, e_var, e_lit, e_glo, e_neg, e_not, e_bin, e_and, e_or, e_ite, e_cmp, e_chn, e_tup, e_lst, e_sub, e_call, e_blt, e_isi, evEs, evT, evI, List.getElem?_cons_succ, List.getElem?_cons_zero, bind_ok, then_ok, nx_then, rt_then, give_some, Option.map_some, t_int, t_abs, iabs_nat, b_add, b_sub, neg_i, tr_bl, s_fr0, s_fr1, Tg.put, Tg.puts, setsP, List.set_cons_succ, List.set_cons_zero, if_true, if_false, Bool.false_eq_true, Bool.not_true, Bool.not_false, c_lt, c_le, c_gt, c_ge, c_eq, c_ne, isi_t, len2, bind_exc, then_exc, ex_then, decide_eq_true (show a ≤ 0 by omega)]
theorem ar_one : rOk (AR "one") = true := by decide +kernel
theorem lt6 {w : A} (h1 : 0 < a → A.inb 0 w = true ∧ isV (cK 29 36 [.int 9, fr a b, .non, .non] []) w = true ∧ isV (cK 29 36 [.int 10, w, .non, .non] []) (fr a b) = true ∧ rOk w = true) (h2 : ¬ 0 < a → w = AR "one" ∧ isV (cK 29 36 [.int 9, fr a b, .non, .non] []) (AR "one") = true) (h : Ho) : evS pg 4000 (cP 29) (.ife (.val (.cmp .NotEq (.blt .repr [.call 36 [.lit (.int 9), .var 9, .lit .non, .lit .non]]) (.blt .repr [.var 12]))) [.ret (.lit (.bl false))] []) [v0, some (.ref 0), some (.ref 2), v3, v4, v5, v6, v7, v8, some (fr a b), v10, v11, some w, v13, v14, v15, v16, v17, v18, v19, v20, v21] h = .nx [v0, some (.ref 0), some (.ref 2), v3, v4, v5, v6, v7, v8, some (fr a b), v10, v11, some w, v13, v14, v15, v16, v17, v18, v19, v20, v21] h ∧ evS pg 4000 (cP 29) (.ife (.and (.val (.cmp .Gt (.sub (.var 9) (.lit (.int 0))) (.lit (.int 0)))) (.val (.cmp .NotEq (.call 36 [.lit (.int 10), .var 12, .lit .non, .lit .non]) (.var 9)))) [.ret (.lit (.bl false))] []) [v0, some (.ref 0), some (.ref 2), v3, v4, v5, v6, v7, v8, some (fr a b), v10, v11, some w, v13, v14, v15, v16, v17, v18, v19, v20, v21] h = .nx [v0, some (.ref 0), some (.ref 2), v3, v4, v5, v6, v7, v8, some (fr a b), v10, v11, some w, v13, v14, v15, v16, v17, v18, v19, v20, v21] h := by
  by_cases hp : 0 < a
  · obtain ⟨w1, w2, w3, w4⟩ := h1 hp
    have t9 := told_pure (h := h) w2 (rfl : A.inb 0 (fr a b) = true) (rfl : A.inb 0 .non = true) (rfl : A.inb 0 .non = true) w1
    have t10 := told_pure (h := h) w3 w1 (rfl : A.inb 0 .non = true) (rfl : A.inb 0 .non = true) (rfl : A.inb 0 (fr a b) = true)
    obtain ⟨s, rs⟩ := rOk_repr w1 w4
    refine ⟨?_, ?_⟩
    · simp only [evSs, s_exp, s_asg, s_par, s_aug, s_ret, s_ife, e_var, e_lit, e_glo, e_neg, e_not, e_bin, e_and, e_or, e_ite, e_cmp, e_chn, e_tup, e_lst, e_sub, e_call, e_blt, e_isi, evEs, evT, evI, List.getElem?_cons_succ, List.getElem?_cons_zero, bind_ok, then_ok, nx_then, rt_then, give_some, Option.map_some, t_int, t_abs, iabs_nat, b_add, b_sub, neg_i, tr_bl, s_fr0, s_fr1, Tg.put, Tg.puts, setsP, List.set_cons_succ, List.set_cons_zero, if_true, if_false, Bool.false_eq_true, Bool.not_true, Bool.not_false, c_lt, c_le, c_gt, c_ge, c_eq, c_ne, isi_t, len2, bind_exc, then_exc, ex_then, t9, rs h, ne_str]
    · simp only [evSs, s_exp, s_asg, s_par, s_aug, s_ret, s_ife, e_var, e_lit, e_glo, e_neg, e_not, e_bin, e_and, e_or, e_ite, e_cmp, e_chn, e_tup, e_lst, e_sub, e_call, e_blt, e_isi, evEs, evT, evI, List.getElem?_cons_succ, List.getElem?_cons_zero, bind_ok, then_ok, nx_then, rt_then, give_some, Option.map_some, t_int, t_abs, iabs_nat, b_add, b_sub, neg_i, tr_bl, s_fr0, s_fr1, Tg.put, Tg.puts, setsP, List.set_cons_succ, List.set_cons_zero, if_true, if_false, Bool.false_eq_true, Bool.not_true, Bool.not_false, c_lt, c_le, c_gt, c_ge, c_eq, c_ne, isi_t, len2, bind_exc, then_exc, ex_then, decide_eq_true hp, t10, ne_fr, beq_self_eq_true, Bool.and_self]
  · obtain ⟨rfl, w2⟩ := h2 hp
    have t9 := told_pure (h := h) w2 (rfl : A.inb 0 (fr a b) = true) (rfl : A.inb 0 .non = true) (rfl : A.inb 0 .non = true) (rfl : A.inb 0 (AR "one") = true)
    obtain ⟨s, rs⟩ := rOk_repr (rfl : A.inb 0 (AR "one") = true) ar_one
    refine ⟨?_, ?_⟩
    · simp only [evSs, s_exp, s_asg, s_par, s_aug, s_ret, s_ife, e_var, e_lit, e_glo, e_neg, e_not, e_bin, e_and, e_or, e_ite, e_cmp, e_chn, e_tup, e_lst, e_sub, e_call, e_blt, e_isi, evEs, evT, evI, List.getElem?_cons_succ, List.getElem?_cons_zero, bind_ok, then_ok, nx_then, rt_then, give_some, Option.map_some, t_int, t_abs, iabs_nat, b_add, b_sub, neg_i, tr_bl, s_fr0, s_fr1, Tg.put, Tg.puts, setsP, List.set_cons_succ, List.set_cons_zero, if_true, if_false, Bool.false_eq_true, Bool.not_true, Bool.not_false, c_lt, c_le, c_gt, c_ge, c_eq, c_ne, isi_t, len2, bind_exc, then_exc, ex_then, t9, rs h, ne_str]
    · simp only [evSs, s_exp, s_asg, s_par, s_aug, s_ret, s_ife, e_var, e_lit, e_glo, e_neg, e_not, e_bin, e_and, e_or, e_ite, e_cmp, e_chn, e_tup, e_lst, e_sub, e_call, e_blt, e_isi, evEs, evT, evI, List.getElem?_cons_succ, List.getElem?_cons_zero, bind_ok, then_ok, nx_then, rt_then, give_some, Option.map_some, t_int, t_abs, iabs_nat, b_add, b_sub, neg_i, tr_bl, s_fr0, s_fr1, Tg.put, Tg.puts, setsP, List.set_cons_succ, List.set_cons_zero, if_true, if_false, Bool.false_eq_true, Bool.not_true, Bool.not_false, c_lt, c_le, c_gt, c_ge, c_eq, c_ne, isi_t, len2, bind_exc, then_exc, ex_then, decide_eq_false hp]
theorem turnL (z : Dz ds) (hpp : p + 40 < 2 ^ 20) : ∃ b9 b10 b11 b12 p' g', p' ≤ p + 10 ∧ evSs pg 4000 (cP 29) bLt [v0, some (.ref 0), some (.ref 2), v3, v4, v5, v6, v7, v8, v9, v10, v11, v12, v13, v14, v15, v16, v17, v18, v19, v20, v21] (hp ds ns p g) = .nx [v0, some (.ref 0), some (.ref 2), v3, v4, v5, v6, v7, v8, b9, b10, b11, b12, v13, v14, v15, v16, v17, v18, v19, v20, v21] (hp ds ns p' g') := by
  obtain ⟨a, b, a2, b2, g1, D, D2, e1⟩ := lt1 (ns := ns) (p := p) (g := g) (v0 := v0) (v3 := v3) (v4 := v4) (v5 := v5) (v6 := v6) (v7 := v7) (v8 := v8) (v9 := v9) (v10 := v10) (v11 := v11) (v12 := v12) (v13 := v13) (v14 := v14) (v15 := v15) (v16 := v16) (v17 := v17) (v18 := v18) (v19 := v19) (v20 := v20) (v21 := v21) z (by omega)
  obtain ⟨c, d, g2, k, e2⟩ := lt2 (ns := ns) (p := p + 4) (g := g1) (v0 := v0) (v3 := v3) (v4 := v4) (v5 := v5) (v6 := v6) (v7 := v7) (v8 := v8) (v11 := v11) (v12 := v12) (v13 := v13) (v14 := v14) (v15 := v15) (v16 := v16) (v17 := v17) (v18 := v18) (v19 := v19) (v20 := v20) (v21 := v21) z (by omega) D D2
  obtain ⟨m, v, g3, hm, hv, e3⟩ := lt3 (ns := ns) (p := p + 5) (g := g2) (v0 := v0) (v3 := v3) (v4 := v4) (v5 := v5) (v6 := v6) (v7 := v7) (v8 := v8) (v9 := some (fr a b)) (v10 := some (fr c d)) (v11 := v11) (v12 := v12) (v13 := v13) (v14 := v14) (v15 := v15) (v16 := v16) (v17 := v17) (v18 := v18) (v19 := v19) (v20 := v20) (v21 := v21) z (by omega)
  obtain ⟨p', g4, hp', e4⟩ := lt4 (ns := ns) (p := p + 6) (g := g3) (v0 := v0) (v3 := v3) (v4 := v4) (v5 := v5) (v6 := v6) (v7 := v7) (v8 := v8) (v12 := v12) (v13 := v13) (v14 := v14) (v15 := v15) (v16 := v16) (v17 := v17) (v18 := v18) (v19 := v19) (v20 := v20) (v21 := v21) z (by omega) D k hm hv
  obtain ⟨w, g5, h1, h2, e5⟩ := lt5 (ds := ds) (ns := ns) (p := p') (g := g4) (v0 := v0) (v3 := v3) (v4 := v4) (v5 := v5) (v6 := v6) (v7 := v7) (v8 := v8) (v10 := some (fr c d)) (v11 := some (.int v)) (v12 := v12) (v13 := v13) (v14 := v14) (v15 := v15) (v16 := v16) (v17 := v17) (v18 := v18) (v19 := v19) (v20 := v20) (v21 := v21) D
  obtain ⟨e6, e7⟩ := lt6 (v0 := v0) (v3 := v3) (v4 := v4) (v5 := v5) (v6 := v6) (v7 := v7) (v8 := v8) (v10 := some (fr c d)) (v11 := some (.int v)) (v13 := v13) (v14 := v14) (v15 := v15) (v16 := v16) (v17 := v17) (v18 := v18) (v19 := v19) (v20 := v20) (v21 := v21) h1 h2 (hp ds ns p' g5)
  refine ⟨some (fr a b), some (fr c d), some (.int v), some w, p', g5, by omega, ?_⟩
  unfold bLt
  simp only [evSs, e1, nx_then, e2, e3, e4, e5, e6, e7]
end
end My

/-! text Q22 -/
set_option Elab.async false
set_option linter.all false
set_option maxRecDepth 100000
set_option maxHeartbeats 4000000
/-! k46: the law's other lines: rows, turns -/
namespace My
open PySem Ev Pl
def fzD (f : Fz) : PyData := .tuple [.int f.1, .int f.2]
theorem opt_fz (h : Ho) (k : Nat) : ∀ fs : List Fz, optMap (toD h (k + 2)) (fs.map fz) = some (fs.map fzD)
  | [] => rfl
  | f :: fs => by
    have e : toD h (k + 2) (fz f) = some (fzD f) := rfl
    simp only [List.map_cons, optMap, e, opt_fz h k fs]
theorem Sh.intk {i : Int} {j : Nat} (h : Sz j i) (hj : j ≤ 1900) {k : Nat} : Sh k (j + 1) (.int i) := by
  have a := Sh.int (h.mono hj) (k := k)
  have hl := h.log
  refine ⟨a.s, a.n, a.d, a.l, ?_⟩
  simp only [PyData.weight]
  split <;> omega
theorem small_s {f : Fz} (e : smallF f = true) : Sz 12 f.1 ∧ Sz 12 f.2 := by
  unfold smallF at e
  obtain ⟨h1, h2⟩ := Bool.and_eq_true_iff.mp e
  have h1 := Nat.le_of_ble_eq_true h1
  have h2 := Nat.le_of_ble_eq_true h2
  unfold Sz
  have : (2 : Nat) ^ 12 = 4096 := by decide
  omega
theorem sh_fzD {f : Fz} (e : smallF f = true) : Sh 1 28 (fzD f) := by
  obtain ⟨h1, h2⟩ := small_s e
  exact Sh.tup (ShA.cons (.intk h1 (by decide)) (ShA.cons (.intk h2 (by decide)) .nil))
theorem ShA.wm {k w v : Nat} {ds : List PyData} (h : ShA k w ds) (e : w ≤ v) : ShA k v ds := ⟨h.s, h.n, h.d, h.l, Nat.le_trans h.w e⟩
theorem Sh.km {k l w : Nat} {D : PyData} (h : Sh k w D) (e : k ≤ l) : Sh l w D := ⟨h.s, h.n, Nat.le_trans h.d e, h.l, h.w⟩
theorem sh_fzs : ∀ fs : List Fz, fs.all smallF = true → ShA 1 (29 * fs.length) (fs.map fzD)
  | [], _ => .nil
  | f :: fs, e => by
    obtain ⟨h1, h2⟩ := Bool.and_eq_true_iff.mp (show (smallF f && fs.all smallF) = true from e)
    refine (ShA.cons (sh_fzD h1) (sh_fzs fs h2)).wm ?_
    show 28 + 1 + 29 * fs.length ≤ 29 * (fs.length + 1)
    omega
section
variable {p : Nat} {ds ns : List Int} {g : Ho} {a b : Int} {v0 v3 v4 v5 v6 v7 v8 v9 v10 v11 v12 v13 v14 v15 v16 v17 v18 v19 v20 v21 : Option A}
theorem seq_step {p p' r : Nat} {g x : Ho} {xs : List A} (e : seqOf (hp ds ns p g) r = some xs) (hr : 3 ≤ r) : seqOf (hp ds ns p' (g ++ x)) r = some xs := by
  have : seqOf (hp ds ns p' g) r = some xs := by
    obtain ⟨k, rfl⟩ : ∃ k, r = k + 3 := ⟨r - 3, by omega⟩
    exact e
  exact seq_app (h := hp ds ns p' g) (g := x) this
theorem rng_ok1 : rngOk 1 = true := by decide
theorem new_any (xs : List A) (h : Ho) : newL xs h = .ok (.ref h.length) (h ++ [.lst xs]) := rfl
theorem hp_app (g x : Ho) : hp ds ns p g ++ x = hp ds ns p (g ++ x) := rfl
theorem ls3 (z : Dz ds) (hpp : p < 2 ^ 20) : ∃ m ∈ mosts, ∃ g', evS pg 4000 (cP 29) (.asg (.nm 3) (.call 33 [.lst [.lit (.int 1), .lit (.int 2), .lit (.int 3), .lit (.int 5), .lit (.int 8), .lit (.int 13), .lit (.int 24)], .var 1, .var 2])) [v0, some (.ref 0), some (.ref 2), v3, v4, v5, v6, v7, v8, v9, v10, v11, v12, v13, v14, v15, v16, v17, v18, v19, v20, v21] (hp ds ns p g) = .nx [v0, some (.ref 0), some (.ref 2), some (.int m), v4, v5, v6, v7, v8, v9, v10, v11, v12, v13, v14, v15, v16, v17, v18, v19, v20, v21] (hp ds ns (p + 1) g') := by
  have es : evEs (cP 29) [.lit (.int 1), .lit (.int 2), .lit (.int 3), .lit (.int 5), .lit (.int 8), .lit (.int 13), .lit (.int 24)] [v0, some (.ref 0), some (.ref 2), v3, v4, v5, v6, v7, v8, v9, v10, v11, v12, v13, v14, v15, v16, v17, v18, v19, v20, v21] (hp ds ns p g) = .ok (mosts.map A.int) (hp ds ns p g) := by
    have mi : mosts.map A.int = [A.int 1, A.int 2, A.int 3, A.int 5, A.int 8, A.int 13, A.int 24] := rfl
    rw [mi]
    simp only [evSs, s_exp, s_asg, s_par, s_aug, s_ret, s_ife, e_var, e_lit, e_glo, e_neg, e_not, e_bin, e_and, e_or, e_ite, e_cmp, e_chn, e_tup, e_lst, e_sub, e_call, e_blt, e_isi, evEs, evT, evI, List.getElem?_cons_succ, List.getElem?_cons_zero, bind_ok, then_ok, nx_then, rt_then, give_some, Option.map_some, t_int, t_abs, iabs_nat, b_add, b_sub, neg_i, tr_bl, s_fr0, s_fr1, Tg.put, Tg.puts, setsP, List.set_cons_succ, List.set_cons_zero, if_true, if_false, Bool.false_eq_true, Bool.not_true, Bool.not_false, c_lt, c_le, c_gt, c_ge, c_eq, c_ne, isi_t, len2, bind_exc, then_exc, ex_then]
  obtain ⟨x, hx, e⟩ := draw1 z hpp es rfl rfl (Nat.succ_pos _)
  obtain ⟨m, hm, rfl⟩ := List.mem_map.mp hx
  refine ⟨m, hm, g ++ [.lst (mosts.map A.int)], ?_⟩
  rw [s_asg, e, then_ok]
  rfl
/-- what holds of a bound -/
structure Rk (m : Int) (rs ss ts : List Fz) (mx mn : Fz) : Prop where
  r : rowP m = some rs
  s : stL rs (rs.length - 1) 1 = some ss
  t : sortP ss [] = some ts
  x : (idx ts.length ((ts.length : Int) - 1)).bind (fun j => ts[j]?) = some mx
  n : (idx ts.length 0).bind (fun j => ts[j]?) = some mn
  t0 : isV (cK 29 36 [.int 0, .int m, .non, .non] []) (.tup (rs.map fz)) = true
  t1 : isV (cK 29 36 [.int 1, .int m, .non, .non] []) (.int (rs.length : Int)) = true
  t2 : isV (cK 29 36 [.int 2, .int m, .non, .non] []) (.tup [fz mx, fz mn]) = true
  a : rs.all smallF = true
  sx : smallF mx = true
  sn : smallF mn = true
  l : rs.length ≤ 400
  l1 : 1 ≤ rs.length
theorem rk_of {m : Int} (e : rchk m = true) : ∃ rs ss ts mx mn, Rk m rs ss ts mx mn := by
  unfold rchk at e
  cases q1 : rowP m with
  | none =>
    rw [q1] at e
    cases e
  | some rs =>
    rw [q1] at e
    dsimp only at e
    cases q2 : stL rs (rs.length - 1) 1 with
    | none =>
      rw [q2] at e
      cases e
    | some ss =>
      rw [q2] at e
      dsimp only at e
      cases q3 : sortP ss [] with
      | none =>
        rw [q3] at e
        cases e
      | some ts =>
        rw [q3] at e
        dsimp only at e
        cases q4 : at? ts ((ts.length : Int) - 1) with
        | none =>
          rw [q4] at e
          cases e
        | some mx =>
          rw [q4] at e
          dsimp only at e
          cases q5 : at? ts 0 with
          | none =>
            rw [q5] at e
            cases e
          | some mn =>
            rw [q5] at e
            dsimp only at e
            simp only [Bool.and_eq_true] at e
            obtain ⟨⟨⟨⟨⟨⟨⟨e1, e2⟩, e3⟩, e4⟩, e5⟩, e6⟩, e7⟩, e8⟩ := e
            exact ⟨rs, ss, ts, mx, mn, q1, q2, q3, q4, q5, e1, e2, e3, e4, e5, e6, Nat.le_of_ble_eq_true e7, Nat.le_of_ble_eq_true e8⟩
theorem inbs_fz : ∀ fs : List Fz, A.inbs 0 (fs.map fz) = true
  | [] => rfl
  | f :: fs => by
    show (A.inb 0 (fz f) && A.inbs 0 (fs.map fz)) = true
    rw [inbs_fz fs]
    rfl
theorem cf_told {i : Int} {u r : A} {σ σ' : Sl} {h : Ho} (e : isV (cK 29 36 [.int i, u, .non, .non] []) r = true) (hu : A.inb 0 u = true) (hr : A.inb 0 r = true) (j : Nat) (ht : Tg.put (.nm 7) (.int i) (wipe σ [7]) = some σ') (h7 : σ'[7]? = some (some (.int i))) (hj : σ'[j]? = some (some u)) : cf (cP 29) σ (.call 36 [.var 7, .var j, .lit .non, .lit .non]) (.nm 7) .yes [7] (.int i) h = .ok (some r) h := by
  have t := told_pure (h := h) e hu (rfl : A.inb 0 .non = true) (rfl : A.inb 0 .non = true) hr
  rw [cf_is _ _ _ _ _ _ _ _ _ ht]
  simp only [evSs, s_exp, s_asg, s_par, s_aug, s_ret, s_ife, e_var, e_lit, e_glo, e_neg, e_not, e_bin, e_and, e_or, e_ite, e_cmp, e_chn, e_tup, e_lst, e_sub, e_call, e_blt, e_isi, evEs, evT, evI, List.getElem?_cons_succ, List.getElem?_cons_zero, bind_ok, then_ok, nx_then, rt_then, give_some, Option.map_some, t_int, t_abs, iabs_nat, b_add, b_sub, neg_i, tr_bl, s_fr0, s_fr1, Tg.put, Tg.puts, setsP, List.set_cons_succ, List.set_cons_zero, if_true, if_false, Bool.false_eq_true, Bool.not_true, Bool.not_false, c_lt, c_le, c_gt, c_ge, c_eq, c_ne, isi_t, len2, bind_exc, then_exc, ex_then, calm_ok, h7, hj, t]
theorem ls4 {m : Int} {rs ss ts : List Fz} {mx mn : Fz} (h1 : 1 ≤ m) (h2 : m ≤ 1000) (K : Rk m rs ss ts mx mn) : ∃ r4 g', seqOf (hp ds ns p g') r4 = some (rs.map fz) ∧ evS pg 4000 (cP 29) (.asg (.nm 4) (.call 39 [.var 3])) [v0, some (.ref 0), some (.ref 2), some (.int m), v4, v5, v6, v7, v8, v9, v10, v11, v12, v13, v14, v15, v16, v17, v18, v19, v20, v21] (hp ds ns p g) = .nx [v0, some (.ref 0), some (.ref 2), some (.int m), some (.ref r4), v5, v6, v7, v8, v9, v10, v11, v12, v13, v14, v15, v16, v17, v18, v19, v20, v21] (hp ds ns p g') := by
  obtain ⟨x, r, e1, e2⟩ := p_lrow (n := 26) (h := hp ds ns p g) h1 h2 K.r
  have e1 : cP 29 39 [.int m] (hp ds ns p g) = .ok (.ref r) (hp ds ns p (g ++ x)) := e1
  refine ⟨r, g ++ x, e2, ?_⟩
  simp only [evSs, s_exp, s_asg, s_par, s_aug, s_ret, s_ife, e_var, e_lit, e_glo, e_neg, e_not, e_bin, e_and, e_or, e_ite, e_cmp, e_chn, e_tup, e_lst, e_sub, e_call, e_blt, e_isi, evEs, evT, evI, List.getElem?_cons_succ, List.getElem?_cons_zero, bind_ok, then_ok, nx_then, rt_then, give_some, Option.map_some, t_int, t_abs, iabs_nat, b_add, b_sub, neg_i, tr_bl, s_fr0, s_fr1, Tg.put, Tg.puts, setsP, List.set_cons_succ, List.set_cons_zero, if_true, if_false, Bool.false_eq_true, Bool.not_true, Bool.not_false, c_lt, c_le, c_gt, c_ge, c_eq, c_ne, isi_t, len2, bind_exc, then_exc, ex_then, e1]
theorem ls5 {m : Int} {rs ss ts : List Fz} {mx mn : Fz} {r4 : Nat} (K : Rk m rs ss ts mx mn) (hs : seqOf (hp ds ns p g) r4 = some (rs.map fz)) : ∃ r5 x, seqOf (hp ds ns p (g ++ x)) r5 = some (ts.map fz) ∧ evS pg 4000 (cP 29) (.asg (.nm 5) (.call 38 [.comp (.call 40 [.sub (.var 4) (.var 6), .sub (.var 4) (.bin .Sub (.var 6) (.lit (.int 1)))]) (.nm 6) (.rg [.lit (.int 1), .blt .len [.var 4]]) (.yes) [6]])) [v0, some (.ref 0), some (.ref 2), some (.int m), some (.ref r4), v5, v6, v7, v8, v9, v10, v11, v12, v13, v14, v15, v16, v17, v18, v19, v20, v21] (hp ds ns p g) = .nx [v0, some (.ref 0), some (.ref 2), some (.int m), some (.ref r4), some (.ref r5), v6, v7, v8, v9, v10, v11, v12, v13, v14, v15, v16, v17, v18, v19, v20, v21] (hp ds ns p (g ++ x)) := by
  have ln : bltA .len [.ref r4] (hp ds ns p g) = .ok (.int ((rs.map fz).length : Int)) (hp ds ns p g) := t_len hs
  rw [List.length_map] at ln
  have l := K.l
  have l1 := K.l1
  have er : rng 1 (rs.length : Int) = rn 1 (rs.length - 1) := by
    rw [rng_run, show ((rs.length : Int) - 1).toNat = rs.length - 1 by omega]
  have ok : rngOk (rs.length : Int) = true := by
    unfold rngOk
    rw [decide_eq_true (show -(2 ^ 62) ≤ (rs.length : Int) by omega), decide_eq_true (show (rs.length : Int) < 2 ^ 62 by omega)]
    rfl
  generalize (rs.length : Int) = v at *
  have cl := stL_loop 26 (h := hp ds ns p g) (σ := [v0, some (.ref 0), some (.ref 2), some (.int m), some (.ref r4), v5, v6, v7, v8, v9, v10, v11, v12, v13, v14, v15, v16, v17, v18, v19, v20, v21]) hs rfl (show 6 < 22 by decide) (rs.length - 1) 1 ss K.s
  have lo : lineOk (ss.map fz).length = true := line_small (by
    rw [List.length_map, stL_len _ _ _ _ K.s]
    omega)
  have ei : evI (cP 29) (.rg [.lit (.int 1), .blt .len [.var 4]]) [v0, some (.ref 0), some (.ref 2), some (.int m), some (.ref r4), v5, v6, v7, v8, v9, v10, v11, v12, v13, v14, v15, v16, v17, v18, v19, v20, v21] (hp ds ns p g) = .ok (rn 1 (rs.length - 1), []) (hp ds ns p g) := by
    have e1 : evEs (cP 29) [.lit (.int 1), .blt .len [.var 4]] [v0, some (.ref 0), some (.ref 2), some (.int m), some (.ref r4), v5, v6, v7, v8, v9, v10, v11, v12, v13, v14, v15, v16, v17, v18, v19, v20, v21] (hp ds ns p g) = .ok [.int 1, .int v] (hp ds ns p g) := by
      simp only [evSs, s_exp, s_asg, s_par, s_aug, s_ret, s_ife, e_var, e_lit, e_glo, e_neg, e_not, e_bin, e_and, e_or, e_ite, e_cmp, e_chn, e_tup, e_lst, e_sub, e_call, e_blt, e_isi, evEs, evT, evI, List.getElem?_cons_succ, List.getElem?_cons_zero, bind_ok, then_ok, nx_then, rt_then, give_some, Option.map_some, t_int, t_abs, iabs_nat, b_add, b_sub, neg_i, tr_bl, s_fr0, s_fr1, Tg.put, Tg.puts, setsP, List.set_cons_succ, List.set_cons_zero, if_true, if_false, Bool.false_eq_true, Bool.not_true, Bool.not_false, c_lt, c_le, c_gt, c_ge, c_eq, c_ne, isi_t, len2, bind_exc, then_exc, ex_then, ln]
    have e2 : walkRg [.int 1, .int v] = some (rn 1 (rs.length - 1), []) := by
      show (if (rngOk 1 && rngOk v) = true then some (rng 1 v, []) else none) = _
      rw [ok, er, rng_ok1]
      rfl
    show (R.bind (evEs (cP 29) _ _ _) _) = _
    rw [e1, bind_ok, e2]
    rfl
  have ec : evE (cP 29) (.comp (.call 40 [.sub (.var 4) (.var 6), .sub (.var 4) (.bin .Sub (.var 6) (.lit (.int 1)))]) (.nm 6) (.rg [.lit (.int 1), .blt .len [.var 4]]) (.yes) [6]) [v0, some (.ref 0), some (.ref 2), some (.int m), some (.ref r4), v5, v6, v7, v8, v9, v10, v11, v12, v13, v14, v15, v16, v17, v18, v19, v20, v21] (hp ds ns p g) = .ok (.ref (hp ds ns p g).length) (hp ds ns p g ++ [.lst (ss.map fz)]) := by
    rw [e_compf, ei, bind_ok]
    dsimp only
    rw [cl, bind_ok, if_pos lo]
    rfl
  obtain ⟨x, r, k1, k2⟩ := k_sorted (n := 27) (seq_new (hp ds ns p g) (ss.map fz)) K.t
  have cs : cP 29 38 [.ref (hp ds ns p g).length] (hp ds ns p g ++ [.lst (ss.map fz)]) = .ok (.ref r) (hp ds ns p (g ++ ([.lst (ss.map fz)] ++ x))) := by
    show callP _ _ _ _ = _
    rw [callP_ref (by
      show (decide ((hp ds ns p g).length < 0) && true) = false
      rw [decide_eq_false (Nat.not_lt_zero _)]
      rfl)]
    have k1 : callK pg 4000 29 38 [.ref (hp ds ns p g).length] (hp ds ns p g ++ [.lst (ss.map fz)]) = .ok (.ref r) (hp ds ns p g ++ [.lst (ss.map fz)] ++ x) := k1
    rw [k1, List.append_assoc]
    rfl
  refine ⟨r, [.lst (ss.map fz)] ++ x, by
    rw [← hp_app, ← List.append_assoc]
    exact k2, ?_⟩
  rw [s_asg, e_call]
  simp only [evEs, ec, bind_ok, cs, then_ok]
  rfl
theorem ls6 {m : Int} {rs ss ts : List Fz} {mx mn : Fz} {r4 r5 : Nat} (K : Rk m rs ss ts mx mn) (hs : seqOf (hp ds ns p g) r4 = some (rs.map fz)) (ht : seqOf (hp ds ns p g) r5 = some (ts.map fz)) : ∃ g', evS pg 4000 (cP 29) (.ife (.val (.cmp .NotEq (.blt .repr [.comp (.call 36 [.var 7, .var 3, .lit .non, .lit .non]) (.nm 7) (.rg [.lit (.int 3)]) (.yes) [7]]) (.blt .repr [.lst [.blt .tuple [.var 4], .blt .len [.var 4], .tup [.sub (.var 5) (.bin .Sub (.blt .len [.var 5]) (.lit (.int 1))), .sub (.var 5) (.lit (.int 0))]]]))) [.ret (.lit (.bl false))] []) [v0, some (.ref 0), some (.ref 2), some (.int m), some (.ref r4), some (.ref r5), v6, v7, v8, v9, v10, v11, v12, v13, v14, v15, v16, v17, v18, v19, v20, v21] (hp ds ns p g) = .nx [v0, some (.ref 0), some (.ref 2), some (.int m), some (.ref r4), some (.ref r5), v6, v7, v8, v9, v10, v11, v12, v13, v14, v15, v16, v17, v18, v19, v20, v21] (hp ds ns p g') := by
  have c0 := cf_told (σ := [v0, some (.ref 0), some (.ref 2), some (.int m), some (.ref r4), some (.ref r5), v6, v7, v8, v9, v10, v11, v12, v13, v14, v15, v16, v17, v18, v19, v20, v21]) (h := hp ds ns p g) K.t0 (rfl : A.inb 0 (.int m) = true) (inbs_fz rs) 3 rfl rfl rfl
  have c1 := cf_told (σ := [v0, some (.ref 0), some (.ref 2), some (.int m), some (.ref r4), some (.ref r5), v6, v7, v8, v9, v10, v11, v12, v13, v14, v15, v16, v17, v18, v19, v20, v21]) (h := hp ds ns p g) K.t1 (rfl : A.inb 0 (.int m) = true) rfl 3 rfl rfl rfl
  have c2 := cf_told (σ := [v0, some (.ref 0), some (.ref 2), some (.int m), some (.ref r4), some (.ref r5), v6, v7, v8, v9, v10, v11, v12, v13, v14, v15, v16, v17, v18, v19, v20, v21]) (h := hp ds ns p g) K.t2 (rfl : A.inb 0 (.int m) = true) rfl 3 rfl rfl rfl
  have ei : evI (cP 29) (.rg [.lit (.int 3)]) [v0, some (.ref 0), some (.ref 2), some (.int m), some (.ref r4), some (.ref r5), v6, v7, v8, v9, v10, v11, v12, v13, v14, v15, v16, v17, v18, v19, v20, v21] (hp ds ns p g) = .ok ([.int 0, .int 1, .int 2], []) (hp ds ns p g) := by
    simp only [evSs, s_exp, s_asg, s_par, s_aug, s_ret, s_ife, e_var, e_lit, e_glo, e_neg, e_not, e_bin, e_and, e_or, e_ite, e_cmp, e_chn, e_tup, e_lst, e_sub, e_call, e_blt, e_isi, evEs, evT, evI, List.getElem?_cons_succ, List.getElem?_cons_zero, bind_ok, then_ok, nx_then, rt_then, give_some, Option.map_some, t_int, t_abs, iabs_nat, b_add, b_sub, neg_i, tr_bl, s_fr0, s_fr1, Tg.put, Tg.puts, setsP, List.set_cons_succ, List.set_cons_zero, if_true, if_false, Bool.false_eq_true, Bool.not_true, Bool.not_false, c_lt, c_le, c_gt, c_ge, c_eq, c_ne, isi_t, len2, bind_exc, then_exc, ex_then, walkRg, show rngOk 3 = true by decide, show rng 0 3 = [.int 0, .int 1, .int 2] from rfl]
  have cl : ∀ f : A → Ho → R (Option A), f (.int 0) (hp ds ns p g) = .ok (some (.tup (rs.map fz))) (hp ds ns p g) → f (.int 1) (hp ds ns p g) = .ok (some (.int (rs.length : Int))) (hp ds ns p g) → f (.int 2) (hp ds ns p g) = .ok (some (.tup [fz mx, fz mn])) (hp ds ns p g) → compL [] f [.int 0, .int 1, .int 2] (hp ds ns p g) = .ok [.tup (rs.map fz), .int (rs.length : Int), .tup [fz mx, fz mn]] (hp ds ns p g) := fun f f0 f1 f2 => by
    rw [compL_cons still0, f0, bind_ok, compL_cons still0, f1, bind_ok, compL_cons still0, f2]
    rfl
  have cl := cl _ c0 c1 c2
  have ln4 : bltA .len [.ref r4] (hp ds ns p g ++ [.lst [.tup (rs.map fz), .int (rs.length : Int), .tup [fz mx, fz mn]]]) = .ok (.int ((rs.map fz).length : Int)) (hp ds ns p g ++ [.lst [.tup (rs.map fz), .int (rs.length : Int), .tup [fz mx, fz mn]]]) := t_len (seq_app hs)
  have ln5 : bltA .len [.ref r5] (hp ds ns p g ++ [.lst [.tup (rs.map fz), .int (rs.length : Int), .tup [fz mx, fz mn]]]) = .ok (.int ((ts.map fz).length : Int)) (hp ds ns p g ++ [.lst [.tup (rs.map fz), .int (rs.length : Int), .tup [fz mx, fz mn]]]) := t_len (seq_app ht)
  rw [List.length_map] at ln4 ln5
  have kx := K.x
  have l := K.l
  have sv : Sz 12 (rs.length : Int) := Sz.of 400 (by omega)
  generalize (ts.length : Int) = w at *
  generalize (rs.length : Int) = v at *
  have hx := sub_fz (seq_app (g := [.lst [.tup (rs.map fz), .int v, .tup [fz mx, fz mn]]]) ht) kx
  have hn := sub_fz (seq_app (g := [.lst [.tup (rs.map fz), .int v, .tup [fz mx, fz mn]]]) ht) K.n
  have tp : bltA .tuple [.ref r4] (hp ds ns p g ++ [.lst [.tup (rs.map fz), .int v, .tup [fz mx, fz mn]]]) = .ok (.tup (rs.map fz)) (hp ds ns p g ++ [.lst [.tup (rs.map fz), .int v, .tup [fz mx, fz mn]]]) := by
    show (match seqOf _ r4 with
      | some ys => R.ok (A.tup ys) _
      | none => R.err) = _
    rw [seq_app hs]
  have ec : evE (cP 29) (.comp (.call 36 [.var 7, .var 3, .lit .non, .lit .non]) (.nm 7) (.rg [.lit (.int 3)]) (.yes) [7]) [v0, some (.ref 0), some (.ref 2), some (.int m), some (.ref r4), some (.ref r5), v6, v7, v8, v9, v10, v11, v12, v13, v14, v15, v16, v17, v18, v19, v20, v21] (hp ds ns p g) = .ok (.ref (hp ds ns p g).length) (hp ds ns p g ++ [.lst [.tup (rs.map fz), .int v, .tup [fz mx, fz mn]]]) := by
    rw [e_compf, ei, bind_ok]
    dsimp only
    rw [cl, bind_ok]
    rfl
  have od : ∀ h : Ho, optMap (toD h 11) [.tup (rs.map fz), .int v, .tup [fz mx, fz mn]] = some [.tuple (rs.map fzD), .int v, .tuple [fzD mx, fzD mn]] := fun h => by
    have e1 : toD h 11 (.tup (rs.map fz)) = some (.tuple (rs.map fzD)) := by
      show (optMap (toD h 10) (rs.map fz)).map PyData.tuple = _
      rw [opt_fz h 8 rs]
      rfl
    have e2 : toD h 11 (.int v) = some (.int v) := rfl
    have e3 : toD h 11 (.tup [fz mx, fz mn]) = some (.tuple [fzD mx, fzD mn]) := rfl
    simp only [optMap, e1, e2, e3]
  have S : Sh 3 13000 (.list [.tuple (rs.map fzD), .int v, .tuple [fzD mx, fzD mn]]) := by
    have s1 : Sh 2 11600 (.tuple (rs.map fzD)) := Sh.tup ((sh_fzs rs K.a).wm (by omega))
    have s2 : Sh 2 13 (.int v) := Sh.intk sv (by decide)
    have s3 : Sh 2 _ (.tuple [fzD mx, fzD mn]) := Sh.tup (ShA.cons (sh_fzD K.sx) (ShA.cons (sh_fzD K.sn) .nil))
    exact Sh.lst ((ShA.cons s1 (ShA.cons s2 (ShA.cons s3 .nil))).wm (by decide))
  generalize hh : hp ds ns p g ++ [.lst [.tup (rs.map fz), .int v, .tup [fz mx, fz mn]]] = h1 at *
  have q1 : seqOf h1 (hp ds ns p g).length = some [.tup (rs.map fz), .int v, .tup [fz mx, fz mn]] := by
    rw [← hh]
    exact seq_new _ _
  have r1 := shows (data_lst q1 (od h1)) S
  have r2 := shows (data_lst (seq_new h1 [.tup (rs.map fz), .int v, .tup [fz mx, fz mn]]) (od _)) S
  refine ⟨g ++ [.lst [.tup (rs.map fz), .int v, .tup [fz mx, fz mn]], .lst [.tup (rs.map fz), .int v, .tup [fz mx, fz mn]]], ?_⟩
  have e2 : evE (cP 29) (.lst [.blt .tuple [.var 4], .blt .len [.var 4], .tup [.sub (.var 5) (.bin .Sub (.blt .len [.var 5]) (.lit (.int 1))), .sub (.var 5) (.lit (.int 0))]]) [v0, some (.ref 0), some (.ref 2), some (.int m), some (.ref r4), some (.ref r5), v6, v7, v8, v9, v10, v11, v12, v13, v14, v15, v16, v17, v18, v19, v20, v21] h1 = .ok (.ref h1.length) (h1 ++ [.lst [.tup (rs.map fz), .int v, .tup [fz mx, fz mn]]]) := by
    simp only [evSs, s_exp, s_asg, s_par, s_aug, s_ret, s_ife, e_var, e_lit, e_glo, e_neg, e_not, e_bin, e_and, e_or, e_ite, e_cmp, e_chn, e_tup, e_lst, e_sub, e_call, e_blt, e_isi, evEs, evT, evI, List.getElem?_cons_succ, List.getElem?_cons_zero, bind_ok, then_ok, nx_then, rt_then, give_some, Option.map_some, t_int, t_abs, iabs_nat, b_add, b_sub, neg_i, tr_bl, s_fr0, s_fr1, Tg.put, Tg.puts, setsP, List.set_cons_succ, List.set_cons_zero, if_true, if_false, Bool.false_eq_true, Bool.not_true, Bool.not_false, c_lt, c_le, c_gt, c_ge, c_eq, c_ne, isi_t, len2, bind_exc, then_exc, ex_then, tp, ln4, ln5, hx, hn, new_any]
  have fin : hp ds ns p (g ++ [.lst [.tup (rs.map fz), .int v, .tup [fz mx, fz mn]], .lst [.tup (rs.map fz), .int v, .tup [fz mx, fz mn]]]) = h1 ++ [.lst [.tup (rs.map fz), .int v, .tup [fz mx, fz mn]]] := by
    rw [← hh, ← hp_app, List.append_assoc]
    rfl
  rw [fin, s_ife]
  simp only [evT]
  rw [e_cmp, e_blt]
  simp only [evEs, ec, bind_ok, r1]
  rw [e_blt]
  simp only [evEs, e2, bind_ok, r2, ne_str, Option.map_some, give_some, tr_bl, then_ok, Bool.false_eq_true, if_false, evSs]
end
end My

/-! text Q23 -/
set_option Elab.async false
set_option linter.all false
set_option maxRecDepth 100000
set_option maxHeartbeats 4000000
/-! k46: the law's other lines: turns, wrong values -/
namespace My
open PySem Ev Pl
def bRt : List S := [.par [16, 17] [.call 33 [.lst [.lit (.str "left"), .lit (.str "right")], .var 1, .var 2], .bin .Add (.lit (.int 1)) (.call 32 [.var 1, .var 2, .lit (.int 5)])], .asg (.nm 15) (.bin .Add (.var 15) (.tup [.tup [.var 16, .var 17]])), .ife (.val (.cmp .Eq (.var 16) (.lit (.str "left")))) [.asg (.nm 14) (.tup [.bin .Add (.sub (.var 14) (.lit (.int 0))) (.bin .Mult (.var 17) (.sub (.var 13) (.lit (.int 0)))), .bin .Add (.sub (.var 14) (.lit (.int 1))) (.bin .Mult (.var 17) (.sub (.var 13) (.lit (.int 1))))])] [.asg (.nm 13) (.tup [.bin .Add (.sub (.var 13) (.lit (.int 0))) (.bin .Mult (.var 17) (.sub (.var 14) (.lit (.int 0)))), .bin .Add (.sub (.var 13) (.lit (.int 1))) (.bin .Mult (.var 17) (.sub (.var 14) (.lit (.int 1))))])]]
section
variable {p : Nat} {ds ns : List Int} {g : Ho} {a b : Int} {v0 v3 v4 v5 v6 v7 v8 v9 v10 v11 v12 v13 v14 v15 v16 v17 v18 v19 v20 v21 : Option A}
theorem draw2 (z : Dz ds) (hpp : p < 2 ^ 20) {es : List E} {xs : List A} {σ : Sl} {g1 : Ho} (e : evEs (cP 29) es σ (hp ds ns p g) = .ok xs (hp ds ns p g1)) (h1 : σ[1]? = some (some (.ref 0))) (h2 : σ[2]? = some (some (.ref 2))) (hne : 0 < xs.length) : ∃ x ∈ xs, evE (cP 29) (.call 33 [.lst es, .var 1, .var 2]) σ (hp ds ns p g) = .ok x (hp ds ns (p + 1) (g1 ++ [.lst xs])) := by
  obtain ⟨x, hx, o⟩ := p_one (n := 26) (ns := ns) (g := g1) (l := [.lst xs]) (i := 0) (xs := xs) z hpp rfl hne
  refine ⟨x, hx, ?_⟩
  have N : newL xs (hp ds ns p g1) = .ok (.ref (g1.length + 3)) (hp ds ns p (g1 ++ [.lst xs])) := by
    have := new_hp (ds := ds) (ns := ns) (p := p) (g := g1) (l := []) (xs := xs)
    rw [List.append_nil] at this
    exact this
  rw [e_call]
  simp only [evEs, e_lst, e, bind_ok, N, e_var, h1, h2]
  exact o
theorem take2 (z : Dz ds) (hpp : p < 2 ^ 20) {m : Int} (hm : 0 < m) {σ : Sl} (h1 : σ[1]? = some (some (.ref 0))) (h2 : σ[2]? = some (some (.ref 2))) : ∃ v : Int, 0 ≤ v ∧ v < m ∧ evE (cP 29) (.call 32 [.var 1, .var 2, .lit (.int m)]) σ (hp ds ns p g) = .ok (.int v) (hp ds ns (p + 1) g) := by
  obtain ⟨v, v0, v1, e⟩ := p_take (n := 27) (ns := ns) (g := g) z hpp hm
  refine ⟨v, v0, v1, ?_⟩
  rw [e_call]
  simp only [evEs, e_lit, bind_ok, e_var, h1, h2]
  exact e
theorem add_tup (xs ys : List A) (h : Ho) (hl : xs.length + ys.length ≤ 16777216) : binA .Add (.tup xs) (.tup ys) h = .ok (.tup (xs ++ ys)) h := by
  show (if lineOk (xs.length + ys.length) then R.ok (A.tup (xs ++ ys)) h else .err) = _
  rw [if_pos (line_small hl)]
theorem rt_turn (z : Dz ds) (hpp : p + 2 < 2 ^ 20) {ts : List St} (ho : ∀ s ∈ ts, okSt s) (hl : ts.length ≤ 20) : ∃ s b16 b17 g', okSt s ∧ evSs pg 4000 (cP 29) bRt [v0, some (.ref 0), some (.ref 2), v3, v4, v5, v6, v7, v8, v9, v10, v11, v12, some (fz (ftL ts (0, 1) (1, 0)).1), some (fz (ftL ts (0, 1) (1, 0)).2), some (.tup (ts.map stA)), v16, v17, v18, v19, v20, v21] (hp ds ns p g) = .nx [v0, some (.ref 0), some (.ref 2), v3, v4, v5, v6, v7, v8, v9, v10, v11, v12, some (fz (ftL (ts ++ [s]) (0, 1) (1, 0)).1), some (fz (ftL (ts ++ [s]) (0, 1) (1, 0)).2), some (.tup ((ts ++ [s]).map stA)), b16, b17, v18, v19, v20, v21] (hp ds ns (p + 2) g') := by
  obtain ⟨fl, fk⟩ := ftL_s ts 1 (0, 1) (1, 0) ho fw1.1 fw1.2
  have es : evEs (cP 29) [.lit (.str "left"), .lit (.str "right")] [v0, some (.ref 0), some (.ref 2), v3, v4, v5, v6, v7, v8, v9, v10, v11, v12, some (fz (ftL ts (0, 1) (1, 0)).1), some (fz (ftL ts (0, 1) (1, 0)).2), some (.tup (ts.map stA)), v16, v17, v18, v19, v20, v21] (hp ds ns p g) = .ok [.str "left", .str "right"] (hp ds ns p g) := by
    simp only [evSs, s_exp, s_asg, s_par, s_aug, s_ret, s_ife, e_var, e_lit, e_glo, e_neg, e_not, e_bin, e_and, e_or, e_ite, e_cmp, e_chn, e_tup, e_lst, e_sub, e_call, e_blt, e_isi, evEs, evT, evI, List.getElem?_cons_succ, List.getElem?_cons_zero, bind_ok, then_ok, nx_then, rt_then, give_some, Option.map_some, t_int, t_abs, iabs_nat, b_add, b_sub, neg_i, tr_bl, s_fr0, s_fr1, Tg.put, Tg.puts, setsP, List.set_cons_succ, List.set_cons_zero, if_true, if_false, Bool.false_eq_true, Bool.not_true, Bool.not_false, c_lt, c_le, c_gt, c_ge, c_eq, c_ne, isi_t, len2, bind_exc, then_exc, ex_then]
  obtain ⟨x, hx, e1⟩ := draw2 z (by omega) es rfl rfl (Nat.succ_pos _)
  obtain ⟨w, rfl⟩ : ∃ w, x = .str (wd w) := by
    simp only [List.mem_cons, List.not_mem_nil, or_false] at hx
    rcases hx with hx | hx
    · exact ⟨true, hx⟩
    · exact ⟨false, hx⟩
  obtain ⟨v, hv0, hv1, e2⟩ := take2 (σ := [v0, some (.ref 0), some (.ref 2), v3, v4, v5, v6, v7, v8, v9, v10, v11, v12, some (fz (ftL ts (0, 1) (1, 0)).1), some (fz (ftL ts (0, 1) (1, 0)).2), some (.tup (ts.map stA)), v16, v17, v18, v19, v20, v21]) (ns := ns) (p := p + 1) (g := g ++ [.lst [.str "left", .str "right"]]) z (by omega) (m := 5) (by decide) rfl rfl
  have so : okSt (w, 1 + v) := ⟨by show 1 ≤ 1 + v; omega, by show 1 + v ≤ 1000; omega⟩
  refine ⟨(w, 1 + v), some (.str (wd w)), some (.int (1 + v)), g ++ [.lst [.str "left", .str "right"]], so, ?_⟩
  rw [ftL_app]
  generalize (ftL ts (0, 1) (1, 0)).1 = l at *
  generalize (ftL ts (0, 1) (1, 0)).2 = k at *
  have s1 : Sz 10 (1 + v) := Sz.of 1000 (by omega)
  have m1 : mulOk (1 + v) l.1 = true := s1.mulOk fl.a (by omega)
  have m2 : mulOk (1 + v) l.2 = true := s1.mulOk fl.b (by omega)
  have m3 : mulOk (1 + v) k.1 = true := s1.mulOk fk.a (by omega)
  have m4 : mulOk (1 + v) k.2 = true := s1.mulOk fk.b (by omega)
  have p1 : evS pg 4000 (cP 29) (.par [16, 17] [.call 33 [.lst [.lit (.str "left"), .lit (.str "right")], .var 1, .var 2], .bin .Add (.lit (.int 1)) (.call 32 [.var 1, .var 2, .lit (.int 5)])]) [v0, some (.ref 0), some (.ref 2), v3, v4, v5, v6, v7, v8, v9, v10, v11, v12, some (fz l), some (fz k), some (.tup (ts.map stA)), v16, v17, v18, v19, v20, v21] (hp ds ns p g) = .nx [v0, some (.ref 0), some (.ref 2), v3, v4, v5, v6, v7, v8, v9, v10, v11, v12, some (fz l), some (fz k), some (.tup (ts.map stA)), some (.str (wd w)), some (.int (1 + v)), v18, v19, v20, v21] (hp ds ns (p + 2) (g ++ [.lst [.str "left", .str "right"]])) := by
    rw [s_par]
    simp only [evEs, e1, bind_ok, e_bin, e_lit, e2, b_add, then_ok, setsP, List.set_cons_succ, List.set_cons_zero]
  have ad : binA .Add (.tup (ts.map stA)) (.tup [.tup [.str (wd w), .int (1 + v)]]) (hp ds ns (p + 2) (g ++ [.lst [.str "left", .str "right"]])) = .ok (.tup ((ts ++ [(w, 1 + v)]).map stA)) (hp ds ns (p + 2) (g ++ [.lst [.str "left", .str "right"]])) := by
    rw [add_tup _ _ _ (by
      rw [List.length_map]
      show ts.length + 1 ≤ _
      omega), List.map_append]
    rfl
  unfold bRt ft1
  rw [evSs, p1, nx_then]
  generalize hp ds ns (p + 2) (g ++ [.lst [.str "left", .str "right"]]) = h2 at *
  generalize (ts ++ [(w, 1 + v)]).map stA = tt at *
  generalize ts.map stA = t0 at *
  cases w <;> simp only [evSs, s_exp, s_asg, s_par, s_aug, s_ret, s_ife, e_var, e_lit, e_glo, e_neg, e_not, e_bin, e_and, e_or, e_ite, e_cmp, e_chn, e_tup, e_lst, e_sub, e_call, e_blt, e_isi, evEs, evT, evI, List.getElem?_cons_succ, List.getElem?_cons_zero, bind_ok, then_ok, nx_then, rt_then, give_some, Option.map_some, t_int, t_abs, iabs_nat, b_add, b_sub, neg_i, tr_bl, s_fr0, s_fr1, Tg.put, Tg.puts, setsP, List.set_cons_succ, List.set_cons_zero, if_true, if_false, Bool.false_eq_true, Bool.not_true, Bool.not_false, c_lt, c_le, c_gt, c_ge, c_eq, c_ne, isi_t, len2, bind_exc, then_exc, ex_then, ad, eq_left, b_mul m1, b_mul m2, b_mul m3, b_mul m4]
theorem rt_loop (z : Dz ds) : ∀ (ks : List A) (ts : List St) (p : Nat) (g : Ho) (v8 v16 v17 : Option A), (∀ s ∈ ts, okSt s) → ts.length + ks.length ≤ 20 → p + 2 * ks.length + 2 < 2 ^ 20 → ∃ ts' b8 b16 b17 p' g', (∀ s ∈ ts', okSt s) ∧ ts'.length ≤ 20 ∧ p' ≤ p + 2 * ks.length ∧ forL [] (.nm 8) (fun σ h => evSs pg 4000 (cP 29) bRt σ h) ks [v0, some (.ref 0), some (.ref 2), v3, v4, v5, v6, v7, v8, v9, v10, v11, v12, some (fz (ftL ts (0, 1) (1, 0)).1), some (fz (ftL ts (0, 1) (1, 0)).2), some (.tup (ts.map stA)), v16, v17, v18, v19, v20, v21] (hp ds ns p g) = .nx [v0, some (.ref 0), some (.ref 2), v3, v4, v5, v6, v7, b8, v9, v10, v11, v12, some (fz (ftL ts' (0, 1) (1, 0)).1), some (fz (ftL ts' (0, 1) (1, 0)).2), some (.tup (ts'.map stA)), b16, b17, v18, v19, v20, v21] (hp ds ns p' g')
  | [], ts, p, g, v8, v16, v17, ho, hl, hp' => ⟨ts, v8, v16, v17, p, g, ho, by simp at hl; omega, by omega, rfl⟩
  | k :: ks, ts, p, g, v8, v16, v17, ho, hl, hpp => by
    have hk : (k :: ks).length = ks.length + 1 := rfl
    rw [hk] at hl hpp ⊢
    obtain ⟨s, b16, b17, g1, so, e⟩ := rt_turn (ns := ns) (p := p) (g := g) (v0 := v0) (v3 := v3) (v4 := v4) (v5 := v5) (v6 := v6) (v7 := v7) (v8 := some k) (v9 := v9) (v10 := v10) (v11 := v11) (v12 := v12) (v16 := v16) (v17 := v17) (v18 := v18) (v19 := v19) (v20 := v20) (v21 := v21) z (by omega) ho (by omega)
    obtain ⟨ts', b8, c16, c17, p', g', h1, h2, h3, e2⟩ := rt_loop z ks (ts ++ [s]) (p + 2) g1 (some k) b16 b17 (fun x hx => by
      rcases List.mem_append.mp hx with q | q
      · exact ho x q
      · rw [List.mem_singleton.mp q]
        exact so) (by rw [List.length_append]; show ts.length + 1 + _ ≤ _; omega) (by omega)
    refine ⟨ts', b8, c16, c17, p', g', h1, h2, by omega, ?_⟩
    unfold forL
    rw [if_pos still0]
    simp only [Tg.put, List.set_cons_succ, List.set_cons_zero, e]
    exact e2
theorem ls9 (z : Dz ds) (hpp : p + 20 < 2 ^ 20) : ∃ ts b8 b16 b17 p' g', (∀ s ∈ ts, okSt s) ∧ ts.length ≤ 20 ∧ p' ≤ p + 11 ∧ evS pg 4000 (cP 29) (.for_ (.nm 8) (.rg [.call 32 [.var 1, .var 2, .lit (.int 6)]]) bRt) [v0, some (.ref 0), some (.ref 2), v3, v4, v5, v6, v7, v8, v9, v10, v11, v12, some (fr 0 1), some (fr 1 0), some (.tup []), v16, v17, v18, v19, v20, v21] (hp ds ns p g) = .nx [v0, some (.ref 0), some (.ref 2), v3, v4, v5, v6, v7, b8, v9, v10, v11, v12, some (fz (ftL ts (0, 1) (1, 0)).1), some (fz (ftL ts (0, 1) (1, 0)).2), some (.tup (ts.map stA)), b16, b17, v18, v19, v20, v21] (hp ds ns p' g') := by
  obtain ⟨v, hv0, hv1, e2⟩ := take2 (σ := [v0, some (.ref 0), some (.ref 2), v3, v4, v5, v6, v7, v8, v9, v10, v11, v12, some (fr 0 1), some (fr 1 0), some (.tup []), v16, v17, v18, v19, v20, v21]) (ns := ns) (p := p) (g := g) z (by omega) (m := 6) (by decide) rfl rfl
  have lk : (rng 0 v).length ≤ 5 := by
    unfold rng
    rw [List.length_map, List.length_range]
    omega
  obtain ⟨ts, b8, b16, b17, p', g', h1, h2, h3, e⟩ := rt_loop (ns := ns) (v0 := v0) (v3 := v3) (v4 := v4) (v5 := v5) (v6 := v6) (v7 := v7) (v9 := v9) (v10 := v10) (v11 := v11) (v12 := v12) (v18 := v18) (v19 := v19) (v20 := v20) (v21 := v21) z (rng 0 v) [] (p + 1) g v8 v16 v17 (fun s hs => absurd hs (by simp)) (by simp; omega) (by omega)
  refine ⟨ts, b8, b16, b17, p', g', h1, h2, by omega, ?_⟩
  have ok : rngOk v = true := by
    unfold rngOk
    rw [decide_eq_true (show -(2 ^ 62) ≤ v by omega), decide_eq_true (show v < 2 ^ 62 by omega)]
    rfl
  have wr : walkRg [.int v] = some (rng 0 v, []) := by
    show (if rngOk v = true then some (rng 0 v, []) else none) = _
    rw [if_pos ok]
  rw [s_for]
  simp only [evI, evEs, e2, bind_ok, wr, give_some, then_ok]
  exact e
theorem ls10 {ts : List St} (ho : ∀ s ∈ ts, okSt s) (hl : ts.length ≤ 20) (h : Ho) : evS pg 4000 (cP 29) (.ife (.val (.cmp .NotEq (.blt .repr [.call 36 [.lit (.int 10), .var 15, .lit .non, .lit .non]]) (.blt .repr [.tup [.bin .Add (.sub (.var 13) (.lit (.int 0))) (.sub (.var 14) (.lit (.int 0))), .bin .Add (.sub (.var 13) (.lit (.int 1))) (.sub (.var 14) (.lit (.int 1)))]]))) [.ret (.lit (.bl false))] []) [v0, some (.ref 0), some (.ref 2), v3, v4, v5, v6, v7, v8, v9, v10, v11, v12, some (fz (ftL ts (0, 1) (1, 0)).1), some (fz (ftL ts (0, 1) (1, 0)).2), some (.tup (ts.map stA)), v16, v17, v18, v19, v20, v21] h = .nx [v0, some (.ref 0), some (.ref 2), v3, v4, v5, v6, v7, v8, v9, v10, v11, v12, some (fz (ftL ts (0, 1) (1, 0)).1), some (fz (ftL ts (0, 1) (1, 0)).2), some (.tup (ts.map stA)), v16, v17, v18, v19, v20, v21] h := by
  have t := t_from (n := 25) (h := h) ho (by omega)
  have t : cP 29 36 [.int 10, .tup (ts.map stA), .non, .non] h = .ok (fz (ftS ts)) h := t
  obtain ⟨s1, s2⟩ := ftS_s ho (show ts.length ≤ 30 by omega)
  have S : Sh 1 _ (fzD (ftS ts)) := Sh.frac s1 s2
  have r := shows (h := h) (u := fz (ftS ts)) (D := fzD (ftS ts)) rfl S
  generalize ts.map stA = tt at *
  have ef : fz (ftS ts) = fr ((ftL ts (0, 1) (1, 0)).1.1 + (ftL ts (0, 1) (1, 0)).2.1) ((ftL ts (0, 1) (1, 0)).1.2 + (ftL ts (0, 1) (1, 0)).2.2) := rfl
  rw [ef] at t r
  simp only [evSs, s_exp, s_asg, s_par, s_aug, s_ret, s_ife, e_var, e_lit, e_glo, e_neg, e_not, e_bin, e_and, e_or, e_ite, e_cmp, e_chn, e_tup, e_lst, e_sub, e_call, e_blt, e_isi, evEs, evT, evI, List.getElem?_cons_succ, List.getElem?_cons_zero, bind_ok, then_ok, nx_then, rt_then, give_some, Option.map_some, t_int, t_abs, iabs_nat, b_add, b_sub, neg_i, tr_bl, s_fr0, s_fr1, Tg.put, Tg.puts, setsP, List.set_cons_succ, List.set_cons_zero, if_true, if_false, Bool.false_eq_true, Bool.not_true, Bool.not_false, c_lt, c_le, c_gt, c_ge, c_eq, c_ne, isi_t, len2, bind_exc, then_exc, ex_then, t, r, ne_str]
theorem ls11 (z : Dz ds) (hpp : p + 20 < 2 ^ 20) : ∃ bad ∈ bads, ∃ odd ∈ odds, ∃ g', evS pg 4000 (cP 29) (.asg (.tp [.nm 18, .nm 19]) (.tup [.call 33 [.lst [.lit .non, .lit (.int 5), .tup [.lit (.int 1), .lit (.int 0)], .tup [.lit (.int 2), .lit (.int 4)], .tup [.lit (.int 1), .neg (.lit (.int 2))], .tup [.lit (.bl true), .lit (.int 1)], .tup [.lit (.int 1000001), .lit (.int 1)]], .var 1, .var 2], .call 33 [.lst [.lit (.int 0), .bin .Add (.glo "MAX_FAREY" (.int 100)) (.lit (.int 1)), .lit .non, .lit (.bl true)], .var 1, .var 2]])) [v0, some (.ref 0), some (.ref 2), v3, v4, v5, v6, v7, v8, v9, v10, v11, v12, v13, v14, v15, v16, v17, v18, v19, v20, v21] (hp ds ns p g) = .nx [v0, some (.ref 0), some (.ref 2), v3, v4, v5, v6, v7, v8, v9, v10, v11, v12, v13, v14, v15, v16, v17, some bad, some odd, v20, v21] (hp ds ns (p + 2) g') := by
  have es : evEs (cP 29) [.lit .non, .lit (.int 5), .tup [.lit (.int 1), .lit (.int 0)], .tup [.lit (.int 2), .lit (.int 4)], .tup [.lit (.int 1), .neg (.lit (.int 2))], .tup [.lit (.bl true), .lit (.int 1)], .tup [.lit (.int 1000001), .lit (.int 1)]] [v0, some (.ref 0), some (.ref 2), v3, v4, v5, v6, v7, v8, v9, v10, v11, v12, v13, v14, v15, v16, v17, v18, v19, v20, v21] (hp ds ns p g) = .ok bads (hp ds ns p g) := by
    have mi : bads = [.non, .int 5, fr 1 0, fr 2 4, fr 1 (-2), .tup [.bl true, .int 1], fr 1000001 1] := rfl
    rw [mi]
    simp only [evSs, s_exp, s_asg, s_par, s_aug, s_ret, s_ife, e_var, e_lit, e_glo, e_neg, e_not, e_bin, e_and, e_or, e_ite, e_cmp, e_chn, e_tup, e_lst, e_sub, e_call, e_blt, e_isi, evEs, evT, evI, List.getElem?_cons_succ, List.getElem?_cons_zero, bind_ok, then_ok, nx_then, rt_then, give_some, Option.map_some, t_int, t_abs, iabs_nat, b_add, b_sub, neg_i, tr_bl, s_fr0, s_fr1, Tg.put, Tg.puts, setsP, List.set_cons_succ, List.set_cons_zero, if_true, if_false, Bool.false_eq_true, Bool.not_true, Bool.not_false, c_lt, c_le, c_gt, c_ge, c_eq, c_ne, isi_t, len2, bind_exc, then_exc, ex_then]
  obtain ⟨x, hx, e1⟩ := draw2 z (by omega) es rfl rfl (Nat.succ_pos _)
  have es2 : evEs (cP 29) [.lit (.int 0), .bin .Add (.glo "MAX_FAREY" (.int 100)) (.lit (.int 1)), .lit .non, .lit (.bl true)] [v0, some (.ref 0), some (.ref 2), v3, v4, v5, v6, v7, v8, v9, v10, v11, v12, v13, v14, v15, v16, v17, v18, v19, v20, v21] (hp ds ns (p + 1) (g ++ [.lst bads])) = .ok odds (hp ds ns (p + 1) (g ++ [.lst bads])) := by
    have mi : odds = [.int 0, .int (100 + 1), .non, .bl true] := rfl
    rw [mi]
    simp only [evSs, s_exp, s_asg, s_par, s_aug, s_ret, s_ife, e_var, e_lit, e_glo, e_neg, e_not, e_bin, e_and, e_or, e_ite, e_cmp, e_chn, e_tup, e_lst, e_sub, e_call, e_blt, e_isi, evEs, evT, evI, List.getElem?_cons_succ, List.getElem?_cons_zero, bind_ok, then_ok, nx_then, rt_then, give_some, Option.map_some, t_int, t_abs, iabs_nat, b_add, b_sub, neg_i, tr_bl, s_fr0, s_fr1, Tg.put, Tg.puts, setsP, List.set_cons_succ, List.set_cons_zero, if_true, if_false, Bool.false_eq_true, Bool.not_true, Bool.not_false, c_lt, c_le, c_gt, c_ge, c_eq, c_ne, isi_t, len2, bind_exc, then_exc, ex_then]
  obtain ⟨y, hy, e2⟩ := draw2 z (by omega) es2 rfl rfl (Nat.succ_pos _)
  refine ⟨x, hx, y, hy, g ++ [.lst bads] ++ [.lst odds], ?_⟩
  rw [s_asg, e_tup]
  simp only [evEs, e1, e2, bind_ok, then_ok, Tg.put, Tg.puts, List.set_cons_succ, List.set_cons_zero]
theorem comp_c {σ : Sl} {h : Ho} {r : A} {elt : E} : ∀ (is : List Int), (∀ i ∈ is, cf (cP 29) σ elt (.nm 7) .yes [7] (.int i) h = .ok (some r) h) → compL [] (cf (cP 29) σ elt (.nm 7) .yes [7]) (is.map A.int) h = .ok (List.replicate is.length r) h
  | [], _ => rfl
  | i :: is, hi => by
    show compL [] _ (.int i :: is.map A.int) h = _
    rw [compL_cons still0, hi i List.mem_cons_self, bind_ok, comp_c is (fun x hx => hi x (List.mem_cons_of_mem _ hx))]
    rfl
theorem inb_ar (s : Str) : A.inb 0 (AR s) = true := rfl
theorem mul_ref {h : Ho} {r : Nat} {xs : List A} {j : Int} (e : seqOf h r = some xs) (ok : repOk xs.length j = true) : binA .Mult (.ref r) (.int j) h = .ok (.ref h.length) (h ++ [.lst (List.replicate j.toNat xs).flatten]) := by
  show (match h[r]? with
      | some (.lst a) => if repOk a.length j then newL (List.replicate j.toNat a).flatten h else .err
      | none => .err) = _
  rw [get_seq e]
  dsimp only
  rw [if_pos ok]
  rfl
theorem ws_flat (s : Str) (k : Nat) : (List.replicate k [AR s]).flatten = ws s k := by
  unfold ws
  induction k with
  | zero => rfl
  | succ k ih =>
    rw [List.replicate_succ, List.flatten_cons, ih]
    rfl
/-- a row of like words, made by a product -/
theorem mk_ws (s : Str) (k : Nat) (hk : 2 ≤ k ∧ k ≤ 1000) (σ : Sl) (h : Ho) : ∃ x r, evE (cP 29) (.bin .Mult (.lst [.tup [.lit (.str "argument"), .lit (.str s)]]) (.lit (.int (k : Int)))) σ h = .ok (.ref r) (h ++ x) ∧ seqOf (h ++ x) r = some (ws s k) := by
  have ok : repOk [AR s].length (k : Int) = true := by
    unfold repOk
    simp only [List.length_cons, List.length_nil, Bool.and_eq_true, decide_eq_true_eq]
    exact ⟨⟨⟨rfl, rfl⟩, by omega⟩, by omega⟩
  have m := mul_ref (seq_new h [AR s]) ok
  rw [Int.toNat_natCast, ws_flat] at m
  refine ⟨[.lst [AR s]] ++ [.lst (ws s k)], (h ++ [O.lst [AR s]]).length, ?_, ?_⟩
  · rw [← List.append_assoc, e_bin, e_lst]
    simp only [evEs, e_tup, e_lit, bind_ok, new_any]
    exact m
  · rw [← List.append_assoc]
    exact seq_new _ _
theorem ls12 (z : Dz ds) (hpp : p + 20 < 2 ^ 20) {odd : A} (ho : odd ∈ odds) : ∃ g', evS pg 4000 (cP 29) (.ife (.val (.cmp .NotEq (.bin .Add (.comp (.call 36 [.var 7, .var 19, .lit .non, .lit .non]) (.nm 7) (.rg [.lit (.int 3)]) (.yes) [7]) (.lst [.call 36 [.lit (.int 3), .tup [.lit (.int 1), .lit (.int 2)], .call 33 [.lst [.lit (.int 0), .lit (.int 1000001), .lit .non, .lit (.bl true)], .var 1, .var 2], .lit .non]])) (.bin .Mult (.lst [.tup [.lit (.str "argument"), .lit (.str "most")]]) (.lit (.int 4))))) [.ret (.lit (.bl false))] []) [v0, some (.ref 0), some (.ref 2), v3, v4, v5, v6, v7, v8, v9, v10, v11, v12, v13, v14, v15, v16, v17, v18, some odd, v20, v21] (hp ds ns p g) = .nx [v0, some (.ref 0), some (.ref 2), v3, v4, v5, v6, v7, v8, v9, v10, v11, v12, v13, v14, v15, v16, v17, v18, some odd, v20, v21] (hp ds ns (p + 1) g') := by
  have io := List.all_eq_true.mp inb_odds odd ho
  have b1 := List.all_eq_true.mp bad1 odd ho
  have fc : ∀ i ∈ ([0, 1, 2] : List Int), cf (cP 29) [v0, some (.ref 0), some (.ref 2), v3, v4, v5, v6, v7, v8, v9, v10, v11, v12, v13, v14, v15, v16, v17, v18, some odd, v20, v21] (.call 36 [.var 7, .var 19, .lit .non, .lit .non]) (.nm 7) .yes [7] (.int i) (hp ds ns p g) = .ok (some (AR "most")) (hp ds ns p g) := fun i hi => cf_told (List.all_eq_true.mp b1 i hi) io (inb_ar _) 19 rfl rfl rfl
  have cl := comp_c [0, 1, 2] fc
  have ec : evE (cP 29) (.comp (.call 36 [.var 7, .var 19, .lit .non, .lit .non]) (.nm 7) (.rg [.lit (.int 3)]) (.yes) [7]) [v0, some (.ref 0), some (.ref 2), v3, v4, v5, v6, v7, v8, v9, v10, v11, v12, v13, v14, v15, v16, v17, v18, some odd, v20, v21] (hp ds ns p g) = .ok (.ref (hp ds ns p g).length) (hp ds ns p (g ++ [.lst (List.replicate 3 (AR "most"))])) := by
    have ei : evI (cP 29) (.rg [.lit (.int 3)]) [v0, some (.ref 0), some (.ref 2), v3, v4, v5, v6, v7, v8, v9, v10, v11, v12, v13, v14, v15, v16, v17, v18, some odd, v20, v21] (hp ds ns p g) = .ok ([.int 0, .int 1, .int 2], []) (hp ds ns p g) := by
      simp only [evSs, s_exp, s_asg, s_par, s_aug, s_ret, s_ife, e_var, e_lit, e_glo, e_neg, e_not, e_bin, e_and, e_or, e_ite, e_cmp, e_chn, e_tup, e_lst, e_sub, e_call, e_blt, e_isi, evEs, evT, evI, List.getElem?_cons_succ, List.getElem?_cons_zero, bind_ok, then_ok, nx_then, rt_then, give_some, Option.map_some, t_int, t_abs, iabs_nat, b_add, b_sub, neg_i, tr_bl, s_fr0, s_fr1, Tg.put, Tg.puts, setsP, List.set_cons_succ, List.set_cons_zero, if_true, if_false, Bool.false_eq_true, Bool.not_true, Bool.not_false, c_lt, c_le, c_gt, c_ge, c_eq, c_ne, isi_t, len2, bind_exc, then_exc, ex_then, walkRg, show rngOk 3 = true by decide, show rng 0 3 = [.int 0, .int 1, .int 2] from rfl]
    rw [e_compf, ei, bind_ok]
    dsimp only
    rw [show compL [] (cf (cP 29) [v0, some (.ref 0), some (.ref 2), v3, v4, v5, v6, v7, v8, v9, v10, v11, v12, v13, v14, v15, v16, v17, v18, some odd, v20, v21] (.call 36 [.var 7, .var 19, .lit .non, .lit .non]) (.nm 7) .yes [7]) [.int 0, .int 1, .int 2] (hp ds ns p g) = .ok (List.replicate 3 (AR "most")) (hp ds ns p g) from cl, bind_ok]
    rfl
  have es : evEs (cP 29) [.lit (.int 0), .lit (.int 1000001), .lit .non, .lit (.bl true)] [v0, some (.ref 0), some (.ref 2), v3, v4, v5, v6, v7, v8, v9, v10, v11, v12, v13, v14, v15, v16, v17, v18, some odd, v20, v21] (hp ds ns p (g ++ [.lst (List.replicate 3 (AR "most"))])) = .ok odds2 (hp ds ns p (g ++ [.lst (List.replicate 3 (AR "most"))])) := by
    have mi : odds2 = [.int 0, .int 1000001, .non, .bl true] := rfl
    rw [mi]
    simp only [evSs, s_exp, s_asg, s_par, s_aug, s_ret, s_ife, e_var, e_lit, e_glo, e_neg, e_not, e_bin, e_and, e_or, e_ite, e_cmp, e_chn, e_tup, e_lst, e_sub, e_call, e_blt, e_isi, evEs, evT, evI, List.getElem?_cons_succ, List.getElem?_cons_zero, bind_ok, then_ok, nx_then, rt_then, give_some, Option.map_some, t_int, t_abs, iabs_nat, b_add, b_sub, neg_i, tr_bl, s_fr0, s_fr1, Tg.put, Tg.puts, setsP, List.set_cons_succ, List.set_cons_zero, if_true, if_false, Bool.false_eq_true, Bool.not_true, Bool.not_false, c_lt, c_le, c_gt, c_ge, c_eq, c_ne, isi_t, len2, bind_exc, then_exc, ex_then]
  obtain ⟨y, hy, e2⟩ := draw2 z (by omega) es rfl rfl (Nat.succ_pos _)
  have iy := List.all_eq_true.mp inb_odds2 y hy
  have s1 : seqOf (hp ds ns p (g ++ [.lst (List.replicate 3 (AR "most"))])) (hp ds ns p g).length = some (List.replicate 3 (AR "most")) := seq_new (hp ds ns p g) _
  have s2 : seqOf (hp ds ns (p + 1) (g ++ [.lst (List.replicate 3 (AR "most"))] ++ [.lst odds2])) (hp ds ns p g).length = some (List.replicate 3 (AR "most")) := seq_step s1 (by unfold hp; simp)
  have t := told_pure (h := hp ds ns (p + 1) (g ++ [.lst (List.replicate 3 (AR "most"))] ++ [.lst odds2])) (List.all_eq_true.mp bad2 y hy) (rfl : A.inb 0 (fr 1 2) = true) iy (rfl : A.inb 0 .non = true) (inb_ar _)
  have hg : hp ds ns (p + 1) (g ++ [.lst (List.replicate 3 (AR "most"))] ++ [.lst odds2]) = hp ds ns (p + 1) (g ++ [.lst (List.replicate 3 (AR "most"))] ++ [.lst odds2]) := rfl
  generalize hh : hp ds ns (p + 1) (g ++ [.lst (List.replicate 3 (AR "most"))] ++ [.lst odds2]) = h1 at *
  have el : evE (cP 29) (.lst [.call 36 [.lit (.int 3), .tup [.lit (.int 1), .lit (.int 2)], .call 33 [.lst [.lit (.int 0), .lit (.int 1000001), .lit .non, .lit (.bl true)], .var 1, .var 2], .lit .non]]) [v0, some (.ref 0), some (.ref 2), v3, v4, v5, v6, v7, v8, v9, v10, v11, v12, v13, v14, v15, v16, v17, v18, some odd, v20, v21] (hp ds ns p (g ++ [.lst (List.replicate 3 (AR "most"))])) = .ok (.ref h1.length) (h1 ++ [.lst [AR "most"]]) := by
    rw [e_lst]
    simp only [evEs, e_call (f := 36), e_lit, e_tup, bind_ok, e2, t, new_any]
  have ad := add_ref (seq_app (g := [.lst [AR "most"]]) s2) (seq_new h1 [AR "most"]) (by decide)
  obtain ⟨x, r, m1, m2⟩ := mk_ws "most" 4 (by decide) [v0, some (.ref 0), some (.ref 2), v3, v4, v5, v6, v7, v8, v9, v10, v11, v12, v13, v14, v15, v16, v17, v18, some odd, v20, v21] (h1 ++ [.lst [AR "most"]] ++ [.lst (List.replicate 3 (AR "most") ++ [AR "most"])])
  have ne := ne_ws (s := "most") (by decide +kernel) (k := 4) (by decide) (h := h1 ++ [.lst [AR "most"]] ++ [.lst (List.replicate 3 (AR "most") ++ [AR "most"])] ++ x) (r := (h1 ++ [O.lst [AR "most"]]).length) (q := r) (seq_app (seq_new _ _)) m2
  refine ⟨g ++ [.lst (List.replicate 3 (AR "most"))] ++ [.lst odds2] ++ ([.lst [AR "most"]] ++ ([.lst (List.replicate 3 (AR "most") ++ [AR "most"])] ++ x)), ?_⟩
  have fin : hp ds ns (p + 1) (g ++ [.lst (List.replicate 3 (AR "most"))] ++ [.lst odds2] ++ ([.lst [AR "most"]] ++ ([.lst (List.replicate 3 (AR "most") ++ [AR "most"])] ++ x))) = h1 ++ [.lst [AR "most"]] ++ [.lst (List.replicate 3 (AR "most") ++ [AR "most"])] ++ x := by
    rw [← hp_app, hh]
    simp only [List.append_assoc]
  rw [fin, s_ife]
  simp only [evT]
  rw [e_cmp, e_bin, ec, bind_ok, el, bind_ok, ad, bind_ok]
  have m1 : evE (cP 29) (.bin .Mult (.lst [.tup [.lit (.str "argument"), .lit (.str "most")]]) (.lit (.int 4))) [v0, some (.ref 0), some (.ref 2), v3, v4, v5, v6, v7, v8, v9, v10, v11, v12, v13, v14, v15, v16, v17, v18, some odd, v20, v21] (h1 ++ [.lst [AR "most"]] ++ [.lst (List.replicate 3 (AR "most") ++ [AR "most"])]) = .ok (.ref r) (h1 ++ [.lst [AR "most"]] ++ [.lst (List.replicate 3 (AR "most") ++ [AR "most"])] ++ x) := m1
  rw [m1, bind_ok, ne]
  simp only [Option.map_some, give_some, bind_ok, tr_bl, then_ok, Bool.false_eq_true, if_false, evSs]
end
end My

/-! text Q24 -/
set_option Elab.async false
set_option linter.all false
set_option maxRecDepth 100000
set_option maxHeartbeats 4000000
/-! k46: the law's last lines; the law -/
namespace My
open PySem Ev Pl
section
variable {p : Nat} {ds ns : List Int} {g : Ho} {a b : Int} {v0 v3 v4 v5 v6 v7 v8 v9 v10 v11 v12 v13 v14 v15 v16 v17 v18 v19 v20 v21 : Option A}
theorem ls13 {bad : A} (ho : bad ∈ bads) : ∃ g' r, seqOf (hp ds ns p g') r = some (ws "one" 9) ∧ evS pg 4000 (cP 29) (.asg (.nm 20) (.bin .Add (.comp (.call 36 [.var 7, .var 18, .tup [.lit (.int 1), .lit (.int 3)], .lit .non]) (.nm 7) (.sq (.tup [.lit (.int 3), .lit (.int 4), .lit (.int 5), .lit (.int 6), .lit (.int 7), .lit (.int 8), .lit (.int 9), .lit (.int 11)])) (.yes) [7]) (.lst [.call 36 [.lit (.int 6), .tup [.lit (.int 1), .lit (.int 3)], .var 18, .lit .non]]))) [v0, some (.ref 0), some (.ref 2), v3, v4, v5, v6, v7, v8, v9, v10, v11, v12, v13, v14, v15, v16, v17, some bad, v19, v20, v21] (hp ds ns p g) = .nx [v0, some (.ref 0), some (.ref 2), v3, v4, v5, v6, v7, v8, v9, v10, v11, v12, v13, v14, v15, v16, v17, some bad, v19, some (.ref r), v21] (hp ds ns p g') := by
  have io := List.all_eq_true.mp inb_bads bad ho
  have b3 := List.all_eq_true.mp bad3 bad ho
  have b4 := List.all_eq_true.mp bad4 bad ho
  have fc : ∀ i ∈ calls1, cf (cP 29) [v0, some (.ref 0), some (.ref 2), v3, v4, v5, v6, v7, v8, v9, v10, v11, v12, v13, v14, v15, v16, v17, some bad, v19, v20, v21] (.call 36 [.var 7, .var 18, .tup [.lit (.int 1), .lit (.int 3)], .lit .non]) (.nm 7) .yes [7] (.int i) (hp ds ns p g) = .ok (some (AR "one")) (hp ds ns p g) := fun i hi => by
    have t := told_pure (h := hp ds ns p g) (List.all_eq_true.mp b3 i hi) io (rfl : A.inb 0 (fr 1 3) = true) (rfl : A.inb 0 .non = true) (inb_ar _)
    rw [cf_is _ _ _ _ _ _ _ _ _ rfl]
    simp only [evSs, s_exp, s_asg, s_par, s_aug, s_ret, s_ife, e_var, e_lit, e_glo, e_neg, e_not, e_bin, e_and, e_or, e_ite, e_cmp, e_chn, e_tup, e_lst, e_sub, e_call, e_blt, e_isi, evEs, evT, evI, List.getElem?_cons_succ, List.getElem?_cons_zero, bind_ok, then_ok, nx_then, rt_then, give_some, Option.map_some, t_int, t_abs, iabs_nat, b_add, b_sub, neg_i, tr_bl, s_fr0, s_fr1, Tg.put, Tg.puts, setsP, List.set_cons_succ, List.set_cons_zero, if_true, if_false, Bool.false_eq_true, Bool.not_true, Bool.not_false, c_lt, c_le, c_gt, c_ge, c_eq, c_ne, isi_t, len2, bind_exc, then_exc, ex_then, calm_ok, wipe, t]
  have cl := comp_c calls1 fc
  have ec : evE (cP 29) (.comp (.call 36 [.var 7, .var 18, .tup [.lit (.int 1), .lit (.int 3)], .lit .non]) (.nm 7) (.sq (.tup [.lit (.int 3), .lit (.int 4), .lit (.int 5), .lit (.int 6), .lit (.int 7), .lit (.int 8), .lit (.int 9), .lit (.int 11)])) (.yes) [7]) [v0, some (.ref 0), some (.ref 2), v3, v4, v5, v6, v7, v8, v9, v10, v11, v12, v13, v14, v15, v16, v17, some bad, v19, v20, v21] (hp ds ns p g) = .ok (.ref (hp ds ns p g).length) (hp ds ns p g ++ [.lst (ws "one" 8)]) := by
    have ei : evI (cP 29) (.sq (.tup [.lit (.int 3), .lit (.int 4), .lit (.int 5), .lit (.int 6), .lit (.int 7), .lit (.int 8), .lit (.int 9), .lit (.int 11)])) [v0, some (.ref 0), some (.ref 2), v3, v4, v5, v6, v7, v8, v9, v10, v11, v12, v13, v14, v15, v16, v17, some bad, v19, v20, v21] (hp ds ns p g) = .ok (calls1.map A.int, []) (hp ds ns p g) := by
      have mi : calls1.map A.int = [A.int 3, A.int 4, A.int 5, A.int 6, A.int 7, A.int 8, A.int 9, A.int 11] := rfl
      rw [mi]
      simp only [evSs, s_exp, s_asg, s_par, s_aug, s_ret, s_ife, e_var, e_lit, e_glo, e_neg, e_not, e_bin, e_and, e_or, e_ite, e_cmp, e_chn, e_tup, e_lst, e_sub, e_call, e_blt, e_isi, evEs, evT, evI, List.getElem?_cons_succ, List.getElem?_cons_zero, bind_ok, then_ok, nx_then, rt_then, give_some, Option.map_some, t_int, t_abs, iabs_nat, b_add, b_sub, neg_i, tr_bl, s_fr0, s_fr1, Tg.put, Tg.puts, setsP, List.set_cons_succ, List.set_cons_zero, if_true, if_false, Bool.false_eq_true, Bool.not_true, Bool.not_false, c_lt, c_le, c_gt, c_ge, c_eq, c_ne, isi_t, len2, bind_exc, then_exc, ex_then, walk_tup]
    rw [e_compf, ei, bind_ok]
    dsimp only
    rw [cl, bind_ok]
    rfl
  have t := told_pure (h := hp ds ns p g ++ [.lst (ws "one" 8)]) b4 (rfl : A.inb 0 (fr 1 3) = true) io (rfl : A.inb 0 .non = true) (inb_ar _)
  have el : evE (cP 29) (.lst [.call 36 [.lit (.int 6), .tup [.lit (.int 1), .lit (.int 3)], .var 18, .lit .non]]) [v0, some (.ref 0), some (.ref 2), v3, v4, v5, v6, v7, v8, v9, v10, v11, v12, v13, v14, v15, v16, v17, some bad, v19, v20, v21] (hp ds ns p g ++ [.lst (ws "one" 8)]) = .ok (.ref (hp ds ns p g ++ [O.lst (ws "one" 8)]).length) ((hp ds ns p g ++ [.lst (ws "one" 8)]) ++ [.lst [AR "one"]]) := by
    rw [e_lst]
    simp only [evSs, s_exp, s_asg, s_par, s_aug, s_ret, s_ife, e_var, e_lit, e_glo, e_neg, e_not, e_bin, e_and, e_or, e_ite, e_cmp, e_chn, e_tup, e_lst, e_sub, e_call, e_blt, e_isi, evEs, evT, evI, List.getElem?_cons_succ, List.getElem?_cons_zero, bind_ok, then_ok, nx_then, rt_then, give_some, Option.map_some, t_int, t_abs, iabs_nat, b_add, b_sub, neg_i, tr_bl, s_fr0, s_fr1, Tg.put, Tg.puts, setsP, List.set_cons_succ, List.set_cons_zero, if_true, if_false, Bool.false_eq_true, Bool.not_true, Bool.not_false, c_lt, c_le, c_gt, c_ge, c_eq, c_ne, isi_t, len2, bind_exc, then_exc, ex_then, t, new_any]
  have ad := add_ref (seq_app (g := [.lst [AR "one"]]) (seq_new (hp ds ns p g) (ws "one" 8))) (seq_new (hp ds ns p g ++ [.lst (ws "one" 8)]) [AR "one"]) (by decide)
  have w9 : ws "one" 8 ++ [AR "one"] = ws "one" 9 := rfl
  rw [w9] at ad
  refine ⟨g ++ ([.lst (ws "one" 8)] ++ ([.lst [AR "one"]] ++ [.lst (ws "one" 9)])), ((hp ds ns p g ++ [O.lst (ws "one" 8)]) ++ [O.lst [AR "one"]]).length, ?_, ?_⟩
  · rw [← hp_app, ← List.append_assoc, ← List.append_assoc]
    exact seq_new _ _
  · have fin : hp ds ns p (g ++ ([.lst (ws "one" 8)] ++ ([.lst [AR "one"]] ++ [.lst (ws "one" 9)]))) = ((hp ds ns p g ++ [.lst (ws "one" 8)]) ++ [.lst [AR "one"]]) ++ [.lst (ws "one" 9)] := by
      rw [← hp_app, ← List.append_assoc, ← List.append_assoc]
    rw [fin, s_asg, e_bin, ec, bind_ok, el, bind_ok, ad]
    simp only [then_ok, Tg.put, List.set_cons_succ, List.set_cons_zero]
theorem ls14 {bad : A} (ho : bad ∈ bads) {r : Nat} (hr : seqOf (hp ds ns p g) r = some (ws "one" 9)) : ∃ g', evS pg 4000 (cP 29) (.ife (.or (.val (.cmp .NotEq (.var 20) (.bin .Mult (.lst [.tup [.lit (.str "argument"), .lit (.str "one")]]) (.lit (.int 9))))) (.val (.cmp .NotEq (.comp (.call 36 [.var 7, .tup [.lit (.int 1), .lit (.int 3)], .var 18, .lit .non]) (.nm 7) (.sq (.tup [.lit (.int 4), .lit (.int 5), .lit (.int 7), .lit (.int 11)])) (.yes) [7]) (.bin .Mult (.lst [.tup [.lit (.str "argument"), .lit (.str "other")]]) (.lit (.int 4)))))) [.ret (.lit (.bl false))] []) [v0, some (.ref 0), some (.ref 2), v3, v4, v5, v6, v7, v8, v9, v10, v11, v12, v13, v14, v15, v16, v17, some bad, v19, some (.ref r), v21] (hp ds ns p g) = .nx [v0, some (.ref 0), some (.ref 2), v3, v4, v5, v6, v7, v8, v9, v10, v11, v12, v13, v14, v15, v16, v17, some bad, v19, some (.ref r), v21] (hp ds ns p g') := by
  have io := List.all_eq_true.mp inb_bads bad ho
  have b5 := List.all_eq_true.mp bad5 bad ho
  obtain ⟨x, q, m1, m2⟩ := mk_ws "one" 9 (by decide) [v0, some (.ref 0), some (.ref 2), v3, v4, v5, v6, v7, v8, v9, v10, v11, v12, v13, v14, v15, v16, v17, some bad, v19, some (.ref r), v21] (hp ds ns p g)
  have ne1 := ne_ws (s := "one") (by decide +kernel) (k := 9) (by decide) (seq_app (g := x) hr) m2
  generalize hh : hp ds ns p g ++ x = h1 at *
  have fc : ∀ i ∈ calls2, cf (cP 29) [v0, some (.ref 0), some (.ref 2), v3, v4, v5, v6, v7, v8, v9, v10, v11, v12, v13, v14, v15, v16, v17, some bad, v19, some (.ref r), v21] (.call 36 [.var 7, .tup [.lit (.int 1), .lit (.int 3)], .var 18, .lit .non]) (.nm 7) .yes [7] (.int i) h1 = .ok (some (AR "other")) h1 := fun i hi => by
    have t := told_pure (h := h1) (List.all_eq_true.mp b5 i hi) (rfl : A.inb 0 (fr 1 3) = true) io (rfl : A.inb 0 .non = true) (inb_ar _)
    rw [cf_is _ _ _ _ _ _ _ _ _ rfl]
    simp only [evSs, s_exp, s_asg, s_par, s_aug, s_ret, s_ife, e_var, e_lit, e_glo, e_neg, e_not, e_bin, e_and, e_or, e_ite, e_cmp, e_chn, e_tup, e_lst, e_sub, e_call, e_blt, e_isi, evEs, evT, evI, List.getElem?_cons_succ, List.getElem?_cons_zero, bind_ok, then_ok, nx_then, rt_then, give_some, Option.map_some, t_int, t_abs, iabs_nat, b_add, b_sub, neg_i, tr_bl, s_fr0, s_fr1, Tg.put, Tg.puts, setsP, List.set_cons_succ, List.set_cons_zero, if_true, if_false, Bool.false_eq_true, Bool.not_true, Bool.not_false, c_lt, c_le, c_gt, c_ge, c_eq, c_ne, isi_t, len2, bind_exc, then_exc, ex_then, calm_ok, wipe, t]
  have cl := comp_c calls2 fc
  have ec : evE (cP 29) (.comp (.call 36 [.var 7, .tup [.lit (.int 1), .lit (.int 3)], .var 18, .lit .non]) (.nm 7) (.sq (.tup [.lit (.int 4), .lit (.int 5), .lit (.int 7), .lit (.int 11)])) (.yes) [7]) [v0, some (.ref 0), some (.ref 2), v3, v4, v5, v6, v7, v8, v9, v10, v11, v12, v13, v14, v15, v16, v17, some bad, v19, some (.ref r), v21] h1 = .ok (.ref h1.length) (h1 ++ [.lst (ws "other" 4)]) := by
    have ei : evI (cP 29) (.sq (.tup [.lit (.int 4), .lit (.int 5), .lit (.int 7), .lit (.int 11)])) [v0, some (.ref 0), some (.ref 2), v3, v4, v5, v6, v7, v8, v9, v10, v11, v12, v13, v14, v15, v16, v17, some bad, v19, some (.ref r), v21] h1 = .ok (calls2.map A.int, []) h1 := by
      have mi : calls2.map A.int = [A.int 4, A.int 5, A.int 7, A.int 11] := rfl
      rw [mi]
      simp only [evSs, s_exp, s_asg, s_par, s_aug, s_ret, s_ife, e_var, e_lit, e_glo, e_neg, e_not, e_bin, e_and, e_or, e_ite, e_cmp, e_chn, e_tup, e_lst, e_sub, e_call, e_blt, e_isi, evEs, evT, evI, List.getElem?_cons_succ, List.getElem?_cons_zero, bind_ok, then_ok, nx_then, rt_then, give_some, Option.map_some, t_int, t_abs, iabs_nat, b_add, b_sub, neg_i, tr_bl, s_fr0, s_fr1, Tg.put, Tg.puts, setsP, List.set_cons_succ, List.set_cons_zero, if_true, if_false, Bool.false_eq_true, Bool.not_true, Bool.not_false, c_lt, c_le, c_gt, c_ge, c_eq, c_ne, isi_t, len2, bind_exc, then_exc, ex_then, walk_tup]
    rw [e_compf, ei, bind_ok]
    dsimp only
    rw [cl, bind_ok]
    rfl
  obtain ⟨y, r2, k1, k2⟩ := mk_ws "other" 4 (by decide) [v0, some (.ref 0), some (.ref 2), v3, v4, v5, v6, v7, v8, v9, v10, v11, v12, v13, v14, v15, v16, v17, some bad, v19, some (.ref r), v21] (h1 ++ [.lst (ws "other" 4)])
  have ne2 := ne_ws (s := "other") (by decide +kernel) (k := 4) (by decide) (seq_app (g := y) (seq_new h1 (ws "other" 4))) k2
  refine ⟨g ++ (x ++ ([.lst (ws "other" 4)] ++ y)), ?_⟩
  have fin : hp ds ns p (g ++ (x ++ ([.lst (ws "other" 4)] ++ y))) = (h1 ++ [.lst (ws "other" 4)]) ++ y := by
    rw [← hh, ← hp_app]
    simp only [List.append_assoc]
  have m1 : evE (cP 29) (.bin .Mult (.lst [.tup [.lit (.str "argument"), .lit (.str "one")]]) (.lit (.int 9))) [v0, some (.ref 0), some (.ref 2), v3, v4, v5, v6, v7, v8, v9, v10, v11, v12, v13, v14, v15, v16, v17, some bad, v19, some (.ref r), v21] (hp ds ns p g) = .ok (.ref q) h1 := m1
  have k1 : evE (cP 29) (.bin .Mult (.lst [.tup [.lit (.str "argument"), .lit (.str "other")]]) (.lit (.int 4))) [v0, some (.ref 0), some (.ref 2), v3, v4, v5, v6, v7, v8, v9, v10, v11, v12, v13, v14, v15, v16, v17, some bad, v19, some (.ref r), v21] (h1 ++ [.lst (ws "other" 4)]) = .ok (.ref r2) ((h1 ++ [.lst (ws "other" 4)]) ++ y) := k1
  have ev20 : evE (cP 29) (.var 20) [v0, some (.ref 0), some (.ref 2), v3, v4, v5, v6, v7, v8, v9, v10, v11, v12, v13, v14, v15, v16, v17, some bad, v19, some (.ref r), v21] (hp ds ns p g) = .ok (.ref r) (hp ds ns p g) := by simp only [evSs, s_exp, s_asg, s_par, s_aug, s_ret, s_ife, e_var, e_lit, e_glo, e_neg, e_not, e_bin, e_and, e_or, e_ite, e_cmp, e_chn, e_tup, e_lst, e_sub, e_call, e_blt, e_isi, evEs, evT, evI, List.getElem?_cons_succ, List.getElem?_cons_zero, bind_ok, then_ok, nx_then, rt_then, give_some, Option.map_some, t_int, t_abs, iabs_nat, b_add, b_sub, neg_i, tr_bl, s_fr0, s_fr1, Tg.put, Tg.puts, setsP, List.set_cons_succ, List.set_cons_zero, if_true, if_false, Bool.false_eq_true, Bool.not_true, Bool.not_false, c_lt, c_le, c_gt, c_ge, c_eq, c_ne, isi_t, len2, bind_exc, then_exc, ex_then]
  rw [fin, s_ife]
  simp only [evT]
  rw [e_cmp, ev20, bind_ok, m1, bind_ok, ne1]
  simp only [Option.map_some, give_some, bind_ok, tr_bl, Bool.false_eq_true, if_false]
  rw [e_cmp, ec, bind_ok, k1, bind_ok, ne2]
  simp only [Option.map_some, give_some, bind_ok, tr_bl, then_ok, Bool.false_eq_true, if_false, evSs]
theorem t_ref (r : Nat) (h : Ho) : cP 29 36 [.int 10, .ref r, .non, .non] h = .ok (AR "turns") h := by
  have inr : ∀ xs : List A, A.inbs 0 (.ref r :: xs) = false := fun xs => by
    show (decide (r < 0) && _) = false
    rw [decide_eq_false (Nat.not_lt_zero _)]
    rfl
  have ti : bltA (.isi "tuple") [.ref r] h = .ok (.bl false) h := rfl
  have k : cK 28 28 [.ref r] h = .exc ⟨0, [("reason", .str "turns")]⟩ h := by
    have run : evSs pg 4000 (cP 27) f_from_turns.body [some (.ref r), none, none, none] h = .ex ⟨0, [("reason", .str "turns")]⟩ [some (.ref r), none, none, none] h := by
      unfold f_from_turns
      simp only [evSs, s_exp, s_asg, s_par, s_aug, s_ret, s_ife, e_var, e_lit, e_glo, e_neg, e_not, e_bin, e_and, e_or, e_ite, e_cmp, e_chn, e_tup, e_lst, e_sub, e_call, e_blt, e_isi, evEs, evT, evI, List.getElem?_cons_succ, List.getElem?_cons_zero, bind_ok, then_ok, nx_then, rt_then, give_some, Option.map_some, t_int, t_abs, iabs_nat, b_add, b_sub, neg_i, tr_bl, s_fr0, s_fr1, Tg.put, Tg.puts, setsP, List.set_cons_succ, List.set_cons_zero, if_true, if_false, Bool.false_eq_true, Bool.not_true, Bool.not_false, c_lt, c_le, c_gt, c_ge, c_eq, c_ne, isi_t, len2, bind_exc, then_exc, ex_then, ti, s_rais, x_arg]
    show callK _ _ _ _ _ _ = _
    unfold callK
    show (if ([A.ref r].length == 1) = true then _ else _) = _
    rw [if_pos (by rfl)]
    show (match evSs pg 4000 (cP 27) f_from_turns.body [some (.ref r), none, none, none] h with
        | .rt a h' => trim h.length (A.inb h.length a) h' fun h' => R.ok a h'
        | .nx _ h' => trim h.length true h' fun h' => .ok .non h'
        | .ex x _ h' => trim h.length (A.inbs h.length (x.fs.map Prod.snd)) h' fun h' => .exc x h'
        | _ => .err) = _
    rw [run]
    exact trim_same _ _
  have c : cP 28 28 [.ref r] h = .exc ⟨0, [("reason", .str "turns")]⟩ h := by
    show callP _ _ _ _ = _
    rw [callP_ref (inr [])]
    exact k
  have q1 : decide ((10 : Int) < 3) = false := rfl
  have q2 : decide ((10 : Int) < 8) = false := rfl
  have q3 : ((10 : Int) == 8) = false := rfl
  have q4 : ((10 : Int) == 9) = false := rfl
  have q5 : ((10 : Int) == 10) = true := rfl
  have tr : evSs pg 4000 (cP 28) tryB [some (.int 10), some (.ref r), some .non, some .non, none, none] h = .ex ⟨0, [("reason", .str "turns")]⟩ [some (.int 10), some (.ref r), some .non, some .non, none, none] h := by
    unfold tryB
    simp only [evSs, s_exp, s_asg, s_par, s_aug, s_ret, s_ife, e_var, e_lit, e_glo, e_neg, e_not, e_bin, e_and, e_or, e_ite, e_cmp, e_chn, e_tup, e_lst, e_sub, e_call, e_blt, e_isi, evEs, evT, evI, List.getElem?_cons_succ, List.getElem?_cons_zero, bind_ok, then_ok, nx_then, rt_then, give_some, Option.map_some, t_int, t_abs, iabs_nat, b_add, b_sub, neg_i, tr_bl, s_fr0, s_fr1, Tg.put, Tg.puts, setsP, List.set_cons_succ, List.set_cons_zero, if_true, if_false, Bool.false_eq_true, Bool.not_true, Bool.not_false, c_lt, c_le, c_gt, c_ge, c_eq, c_ne, isi_t, len2, bind_exc, then_exc, ex_then, q1, q2, q3, q4, q5, c]
  have run : evSs pg 4000 (cP 28) f__law_told.body [some (.int 10), some (.ref r), some .non, some .non, none, none] h = .rt (AR "turns") h := by
    rw [told_body]
    show (evS _ _ _ _ _ _).then _ = _
    rw [s_try, tr]
    rfl
  show callP _ _ _ _ = _
  rw [callP_ref (by
    show (true && (decide (r < 0) && _)) = false
    rw [decide_eq_false (Nat.not_lt_zero _)]
    rfl)]
  unfold callK
  show (if ([A.int 10, .ref r, .non, .non].length == 4) = true then _ else _) = _
  rw [if_pos (by rfl)]
  show (match evSs pg 4000 (cP 28) f__law_told.body [some (.int 10), some (.ref r), some .non, some .non, none, none] h with
        | .rt a h' => trim h.length (A.inb h.length a) h' fun h' => R.ok a h'
        | .nx _ h' => trim h.length true h' fun h' => .ok .non h'
        | .ex x _ h' => trim h.length (A.inbs h.length (x.fs.map Prod.snd)) h' fun h' => .exc x h'
        | _ => .err) = _
  rw [run]
  exact trim_same _ _
theorem ls15 (z : Dz ds) (hpp : p < 2 ^ 20) : ∃ w g', (w ∈ wrongs ∨ ∃ r, w = .ref r) ∧ evS pg 4000 (cP 29) (.asg (.nm 21) (.call 33 [.lst [.lit .non, .lst [], .tup [.tup [.lit (.str "up"), .lit (.int 1)]], .tup [.tup [.lit (.str "left"), .lit (.int 0)]], .tup [.tup [.lit (.str "left"), .lit (.int 1001)]], .tup [.tup [.lit (.str "left")]], .tup [.tup [.lit (.str "left"), .lit (.bl true)]], .bin .Mult (.tup [.tup [.lit (.str "left"), .lit (.int 1)]]) (.lit (.int 31))], .var 1, .var 2])) [v0, some (.ref 0), some (.ref 2), v3, v4, v5, v6, v7, v8, v9, v10, v11, v12, v13, v14, v15, v16, v17, v18, v19, v20, v21] (hp ds ns p g) = .nx [v0, some (.ref 0), some (.ref 2), v3, v4, v5, v6, v7, v8, v9, v10, v11, v12, v13, v14, v15, v16, v17, v18, v19, v20, some w] (hp ds ns (p + 1) g') := by
  have rp : binA .Mult (.tup [.tup [.str "left", .int 1]]) (.int 31) (hp ds ns p (g ++ [.lst []])) = .ok (.tup (List.replicate 31 (.tup [.str "left", .int 1]))) (hp ds ns p (g ++ [.lst []])) := rfl
  have N : newL [] (hp ds ns p g) = .ok (.ref (hp ds ns p g).length) (hp ds ns p (g ++ [.lst []])) := rfl
  have es : evEs (cP 29) [.lit .non, .lst [], .tup [.tup [.lit (.str "up"), .lit (.int 1)]], .tup [.tup [.lit (.str "left"), .lit (.int 0)]], .tup [.tup [.lit (.str "left"), .lit (.int 1001)]], .tup [.tup [.lit (.str "left")]], .tup [.tup [.lit (.str "left"), .lit (.bl true)]], .bin .Mult (.tup [.tup [.lit (.str "left"), .lit (.int 1)]]) (.lit (.int 31))] [v0, some (.ref 0), some (.ref 2), v3, v4, v5, v6, v7, v8, v9, v10, v11, v12, v13, v14, v15, v16, v17, v18, v19, v20, v21] (hp ds ns p g) = .ok [.non, .ref (hp ds ns p g).length, .tup [.tup [.str "up", .int 1]], .tup [.tup [.str "left", .int 0]], .tup [.tup [.str "left", .int 1001]], .tup [.tup [.str "left"]], .tup [.tup [.str "left", .bl true]], .tup (List.replicate 31 (.tup [.str "left", .int 1]))] (hp ds ns p (g ++ [.lst []])) := by
    simp only [evSs, s_exp, s_asg, s_par, s_aug, s_ret, s_ife, e_var, e_lit, e_glo, e_neg, e_not, e_bin, e_and, e_or, e_ite, e_cmp, e_chn, e_tup, e_lst, e_sub, e_call, e_blt, e_isi, evEs, evT, evI, List.getElem?_cons_succ, List.getElem?_cons_zero, bind_ok, then_ok, nx_then, rt_then, give_some, Option.map_some, t_int, t_abs, iabs_nat, b_add, b_sub, neg_i, tr_bl, s_fr0, s_fr1, Tg.put, Tg.puts, setsP, List.set_cons_succ, List.set_cons_zero, if_true, if_false, Bool.false_eq_true, Bool.not_true, Bool.not_false, c_lt, c_le, c_gt, c_ge, c_eq, c_ne, isi_t, len2, bind_exc, then_exc, ex_then, N, rp]
  obtain ⟨x, hx, e⟩ := draw2 z hpp es rfl rfl (Nat.succ_pos _)
  refine ⟨x, g ++ [.lst []] ++ [.lst [.non, .ref (hp ds ns p g).length, .tup [.tup [.str "up", .int 1]], .tup [.tup [.str "left", .int 0]], .tup [.tup [.str "left", .int 1001]], .tup [.tup [.str "left"]], .tup [.tup [.str "left", .bl true]], .tup (List.replicate 31 (.tup [.str "left", .int 1]))]], ?_, ?_⟩
  · unfold wrongs
    simp only [List.mem_cons, List.not_mem_nil, or_false] at hx ⊢
    rcases hx with h | h | h | h | h | h | h | h
    · exact .inl (.inl h)
    · exact .inr ⟨_, h⟩
    · exact .inl (.inr (.inl h))
    · exact .inl (.inr (.inr (.inl h)))
    · exact .inl (.inr (.inr (.inr (.inl h))))
    · exact .inl (.inr (.inr (.inr (.inr (.inl h)))))
    · exact .inl (.inr (.inr (.inr (.inr (.inr (.inl h))))))
    · exact .inl (.inr (.inr (.inr (.inr (.inr (.inr h))))))
  · rw [s_asg, e, then_ok]
    rfl
theorem ls16 {w : A} (hw : w ∈ wrongs ∨ ∃ r, w = .ref r) (h : Ho) : evS pg 4000 (cP 29) (.ret (.cmp .Eq (.call 36 [.lit (.int 10), .var 21, .lit .non, .lit .non]) (.tup [.lit (.str "argument"), .lit (.str "turns")]))) [v0, some (.ref 0), some (.ref 2), v3, v4, v5, v6, v7, v8, v9, v10, v11, v12, v13, v14, v15, v16, v17, v18, v19, v20, some w] h = .rt (.bl true) h := by
  have t : cP 29 36 [.int 10, w, .non, .non] h = .ok (AR "turns") h := by
    rcases hw with hw | ⟨r, rfl⟩
    · exact told_pure (List.all_eq_true.mp bad6 w hw) (List.all_eq_true.mp inb_wrongs w hw) (rfl : A.inb 0 .non = true) (rfl : A.inb 0 .non = true) (inb_ar _)
    · exact t_ref r h
  have ct := c_turns h
  unfold AR at ct t
  simp only [evSs, s_exp, s_asg, s_par, s_aug, s_ret, s_ife, e_var, e_lit, e_glo, e_neg, e_not, e_bin, e_and, e_or, e_ite, e_cmp, e_chn, e_tup, e_lst, e_sub, e_call, e_blt, e_isi, evEs, evT, evI, List.getElem?_cons_succ, List.getElem?_cons_zero, bind_ok, then_ok, nx_then, rt_then, give_some, Option.map_some, t_int, t_abs, iabs_nat, b_add, b_sub, neg_i, tr_bl, s_fr0, s_fr1, Tg.put, Tg.puts, setsP, List.set_cons_succ, List.set_cons_zero, if_true, if_false, Bool.false_eq_true, Bool.not_true, Bool.not_false, c_lt, c_le, c_gt, c_ge, c_eq, c_ne, isi_t, len2, bind_exc, then_exc, ex_then, t, ct]
theorem sq_nx {s : S} {r : List S} {σ σ' : Sl} {h h' : Ho} {o : Ot} (e : evS pg 4000 (cP 29) s σ h = .nx σ' h') (e2 : evSs pg 4000 (cP 29) r σ' h' = o) : evSs pg 4000 (cP 29) (s :: r) σ h = o := by
  rw [evSs, e, nx_then, e2]
theorem sq_rt {s : S} {r : List S} {σ : Sl} {h h' : Ho} {a : A} (e : evS pg 4000 (cP 29) s σ h = .rt a h') : evSs pg 4000 (cP 29) (s :: r) σ h = .rt a h' := by
  rw [evSs, e, rt_then]
theorem forL_cons {t : Tg} {f : Sl → Ho → Ot} {x : A} {r : List A} {σ σ1 σ2 : Sl} {h h2 : Ho} (ht : Tg.put t x σ = some σ1) (hb : f σ1 h = .nx σ2 h2) : forL [] t f (x :: r) σ h = forL [] t f r σ2 h2 := by
  conv => lhs; unfold forL
  rw [if_pos still0, ht]
  dsimp only
  rw [hb]
theorem wr3 : walkRg [.int 3] = some ([.int 0, .int 1, .int 2], []) := rfl
theorem law_body : f_law.body = [.asg (.nm 1) (.call 30 [.var 0]), .asg (.nm 2) (.lst [.lit (.int 0)]), .asg (.nm 3) (.call 33 [.lst [.lit (.int 1), .lit (.int 2), .lit (.int 3), .lit (.int 5), .lit (.int 8), .lit (.int 13), .lit (.int 24)], .var 1, .var 2]), .asg (.nm 4) (.call 39 [.var 3]), .asg (.nm 5) (.call 38 [.comp (.call 40 [.sub (.var 4) (.var 6), .sub (.var 4) (.bin .Sub (.var 6) (.lit (.int 1)))]) (.nm 6) (.rg [.lit (.int 1), .blt .len [.var 4]]) (.yes) [6]]), .ife (.val (.cmp .NotEq (.blt .repr [.comp (.call 36 [.var 7, .var 3, .lit .non, .lit .non]) (.nm 7) (.rg [.lit (.int 3)]) (.yes) [7]]) (.blt .repr [.lst [.blt .tuple [.var 4], .blt .len [.var 4], .tup [.sub (.var 5) (.bin .Sub (.blt .len [.var 5]) (.lit (.int 1))), .sub (.var 5) (.lit (.int 0))]]]))) [.ret (.lit (.bl false))] [], .for_ (.nm 8) (.rg [.lit (.int 3)]) bLt, .asg (.tp [.nm 13, .nm 14, .nm 15]) (.tup [.tup [.lit (.int 0), .lit (.int 1)], .tup [.lit (.int 1), .lit (.int 0)], .tup []]), .for_ (.nm 8) (.rg [.call 32 [.var 1, .var 2, .lit (.int 6)]]) bRt, .ife (.val (.cmp .NotEq (.blt .repr [.call 36 [.lit (.int 10), .var 15, .lit .non, .lit .non]]) (.blt .repr [.tup [.bin .Add (.sub (.var 13) (.lit (.int 0))) (.sub (.var 14) (.lit (.int 0))), .bin .Add (.sub (.var 13) (.lit (.int 1))) (.sub (.var 14) (.lit (.int 1)))]]))) [.ret (.lit (.bl false))] [], .asg (.tp [.nm 18, .nm 19]) (.tup [.call 33 [.lst [.lit .non, .lit (.int 5), .tup [.lit (.int 1), .lit (.int 0)], .tup [.lit (.int 2), .lit (.int 4)], .tup [.lit (.int 1), .neg (.lit (.int 2))], .tup [.lit (.bl true), .lit (.int 1)], .tup [.lit (.int 1000001), .lit (.int 1)]], .var 1, .var 2], .call 33 [.lst [.lit (.int 0), .bin .Add (.glo "MAX_FAREY" (.int 100)) (.lit (.int 1)), .lit .non, .lit (.bl true)], .var 1, .var 2]]), .ife (.val (.cmp .NotEq (.bin .Add (.comp (.call 36 [.var 7, .var 19, .lit .non, .lit .non]) (.nm 7) (.rg [.lit (.int 3)]) (.yes) [7]) (.lst [.call 36 [.lit (.int 3), .tup [.lit (.int 1), .lit (.int 2)], .call 33 [.lst [.lit (.int 0), .lit (.int 1000001), .lit .non, .lit (.bl true)], .var 1, .var 2], .lit .non]])) (.bin .Mult (.lst [.tup [.lit (.str "argument"), .lit (.str "most")]]) (.lit (.int 4))))) [.ret (.lit (.bl false))] [], .asg (.nm 20) (.bin .Add (.comp (.call 36 [.var 7, .var 18, .tup [.lit (.int 1), .lit (.int 3)], .lit .non]) (.nm 7) (.sq (.tup [.lit (.int 3), .lit (.int 4), .lit (.int 5), .lit (.int 6), .lit (.int 7), .lit (.int 8), .lit (.int 9), .lit (.int 11)])) (.yes) [7]) (.lst [.call 36 [.lit (.int 6), .tup [.lit (.int 1), .lit (.int 3)], .var 18, .lit .non]])), .ife (.or (.val (.cmp .NotEq (.var 20) (.bin .Mult (.lst [.tup [.lit (.str "argument"), .lit (.str "one")]]) (.lit (.int 9))))) (.val (.cmp .NotEq (.comp (.call 36 [.var 7, .tup [.lit (.int 1), .lit (.int 3)], .var 18, .lit .non]) (.nm 7) (.sq (.tup [.lit (.int 4), .lit (.int 5), .lit (.int 7), .lit (.int 11)])) (.yes) [7]) (.bin .Mult (.lst [.tup [.lit (.str "argument"), .lit (.str "other")]]) (.lit (.int 4)))))) [.ret (.lit (.bl false))] [], .asg (.nm 21) (.call 33 [.lst [.lit .non, .lst [], .tup [.tup [.lit (.str "up"), .lit (.int 1)]], .tup [.tup [.lit (.str "left"), .lit (.int 0)]], .tup [.tup [.lit (.str "left"), .lit (.int 1001)]], .tup [.tup [.lit (.str "left")]], .tup [.tup [.lit (.str "left"), .lit (.bl true)]], .bin .Mult (.tup [.tup [.lit (.str "left"), .lit (.int 1)]]) (.lit (.int 31))], .var 1, .var 2]), .ret (.cmp .Eq (.call 36 [.lit (.int 10), .var 21, .lit .non, .lit .non]) (.tup [.lit (.str "argument"), .lit (.str "turns")]))] := rfl
theorem law_tr (z : Dz ds) : ∃ h', evSs pg 4000 (cP 29) [.asg (.nm 3) (.call 33 [.lst [.lit (.int 1), .lit (.int 2), .lit (.int 3), .lit (.int 5), .lit (.int 8), .lit (.int 13), .lit (.int 24)], .var 1, .var 2]), .asg (.nm 4) (.call 39 [.var 3]), .asg (.nm 5) (.call 38 [.comp (.call 40 [.sub (.var 4) (.var 6), .sub (.var 4) (.bin .Sub (.var 6) (.lit (.int 1)))]) (.nm 6) (.rg [.lit (.int 1), .blt .len [.var 4]]) (.yes) [6]]), .ife (.val (.cmp .NotEq (.blt .repr [.comp (.call 36 [.var 7, .var 3, .lit .non, .lit .non]) (.nm 7) (.rg [.lit (.int 3)]) (.yes) [7]]) (.blt .repr [.lst [.blt .tuple [.var 4], .blt .len [.var 4], .tup [.sub (.var 5) (.bin .Sub (.blt .len [.var 5]) (.lit (.int 1))), .sub (.var 5) (.lit (.int 0))]]]))) [.ret (.lit (.bl false))] [], .for_ (.nm 8) (.rg [.lit (.int 3)]) bLt, .asg (.tp [.nm 13, .nm 14, .nm 15]) (.tup [.tup [.lit (.int 0), .lit (.int 1)], .tup [.lit (.int 1), .lit (.int 0)], .tup []]), .for_ (.nm 8) (.rg [.call 32 [.var 1, .var 2, .lit (.int 6)]]) bRt, .ife (.val (.cmp .NotEq (.blt .repr [.call 36 [.lit (.int 10), .var 15, .lit .non, .lit .non]]) (.blt .repr [.tup [.bin .Add (.sub (.var 13) (.lit (.int 0))) (.sub (.var 14) (.lit (.int 0))), .bin .Add (.sub (.var 13) (.lit (.int 1))) (.sub (.var 14) (.lit (.int 1)))]]))) [.ret (.lit (.bl false))] [], .asg (.tp [.nm 18, .nm 19]) (.tup [.call 33 [.lst [.lit .non, .lit (.int 5), .tup [.lit (.int 1), .lit (.int 0)], .tup [.lit (.int 2), .lit (.int 4)], .tup [.lit (.int 1), .neg (.lit (.int 2))], .tup [.lit (.bl true), .lit (.int 1)], .tup [.lit (.int 1000001), .lit (.int 1)]], .var 1, .var 2], .call 33 [.lst [.lit (.int 0), .bin .Add (.glo "MAX_FAREY" (.int 100)) (.lit (.int 1)), .lit .non, .lit (.bl true)], .var 1, .var 2]]), .ife (.val (.cmp .NotEq (.bin .Add (.comp (.call 36 [.var 7, .var 19, .lit .non, .lit .non]) (.nm 7) (.rg [.lit (.int 3)]) (.yes) [7]) (.lst [.call 36 [.lit (.int 3), .tup [.lit (.int 1), .lit (.int 2)], .call 33 [.lst [.lit (.int 0), .lit (.int 1000001), .lit .non, .lit (.bl true)], .var 1, .var 2], .lit .non]])) (.bin .Mult (.lst [.tup [.lit (.str "argument"), .lit (.str "most")]]) (.lit (.int 4))))) [.ret (.lit (.bl false))] [], .asg (.nm 20) (.bin .Add (.comp (.call 36 [.var 7, .var 18, .tup [.lit (.int 1), .lit (.int 3)], .lit .non]) (.nm 7) (.sq (.tup [.lit (.int 3), .lit (.int 4), .lit (.int 5), .lit (.int 6), .lit (.int 7), .lit (.int 8), .lit (.int 9), .lit (.int 11)])) (.yes) [7]) (.lst [.call 36 [.lit (.int 6), .tup [.lit (.int 1), .lit (.int 3)], .var 18, .lit .non]])), .ife (.or (.val (.cmp .NotEq (.var 20) (.bin .Mult (.lst [.tup [.lit (.str "argument"), .lit (.str "one")]]) (.lit (.int 9))))) (.val (.cmp .NotEq (.comp (.call 36 [.var 7, .tup [.lit (.int 1), .lit (.int 3)], .var 18, .lit .non]) (.nm 7) (.sq (.tup [.lit (.int 4), .lit (.int 5), .lit (.int 7), .lit (.int 11)])) (.yes) [7]) (.bin .Mult (.lst [.tup [.lit (.str "argument"), .lit (.str "other")]]) (.lit (.int 4)))))) [.ret (.lit (.bl false))] [], .asg (.nm 21) (.call 33 [.lst [.lit .non, .lst [], .tup [.tup [.lit (.str "up"), .lit (.int 1)]], .tup [.tup [.lit (.str "left"), .lit (.int 0)]], .tup [.tup [.lit (.str "left"), .lit (.int 1001)]], .tup [.tup [.lit (.str "left")]], .tup [.tup [.lit (.str "left"), .lit (.bl true)]], .bin .Mult (.tup [.tup [.lit (.str "left"), .lit (.int 1)]]) (.lit (.int 31))], .var 1, .var 2]), .ret (.cmp .Eq (.call 36 [.lit (.int 10), .var 21, .lit .non, .lit .non]) (.tup [.lit (.str "argument"), .lit (.str "turns")]))] [some (.lis (nums ns)), some (.ref 0), some (.ref 2), none, none, none, none, none, none, none, none, none, none, none, none, none, none, none, none, none, none, none] (hp ds ns 0 []) = .rt (.bl true) h' := by
  have n20 : (2 : Nat) ^ 20 = 1048576 := by decide
  obtain ⟨m, hm, g1, e3⟩ := ls3 (ns := ns) (p := 0) (g := []) (v0 := some (.lis (nums ns))) (v3 := none) (v4 := none) (v5 := none) (v6 := none) (v7 := none) (v8 := none) (v9 := none) (v10 := none) (v11 := none) (v12 := none) (v13 := none) (v14 := none) (v15 := none) (v16 := none) (v17 := none) (v18 := none) (v19 := none) (v20 := none) (v21 := none) z (by omega)
  have hm2 : 1 ≤ m ∧ m ≤ 1000 := (by decide : ∀ m ∈ mosts, 1 ≤ m ∧ m ≤ 1000) m hm
  obtain ⟨rs, ss, ts, mx, mn, K⟩ := rk_of (rcs m hm)
  obtain ⟨r4, g2, q4, e4⟩ := ls4 (ds := ds) (ns := ns) (p := 1) (g := g1) (v0 := some (.lis (nums ns))) (v4 := none) (v5 := none) (v6 := none) (v7 := none) (v8 := none) (v9 := none) (v10 := none) (v11 := none) (v12 := none) (v13 := none) (v14 := none) (v15 := none) (v16 := none) (v17 := none) (v18 := none) (v19 := none) (v20 := none) (v21 := none) hm2.1 hm2.2 K
  obtain ⟨r5, x, q5, e5⟩ := ls5 (ds := ds) (ns := ns) (p := 1) (g := g2) (v0 := some (.lis (nums ns))) (v5 := none) (v6 := none) (v7 := none) (v8 := none) (v9 := none) (v10 := none) (v11 := none) (v12 := none) (v13 := none) (v14 := none) (v15 := none) (v16 := none) (v17 := none) (v18 := none) (v19 := none) (v20 := none) (v21 := none) K q4
  have q4' : seqOf (hp ds ns 1 (g2 ++ x)) r4 = some (rs.map fz) := by
    rw [← hp_app]
    exact seq_app q4
  obtain ⟨g3, e6⟩ := ls6 (ds := ds) (ns := ns) (p := 1) (g := g2 ++ x) (v0 := some (.lis (nums ns))) (v6 := none) (v7 := none) (v8 := none) (v9 := none) (v10 := none) (v11 := none) (v12 := none) (v13 := none) (v14 := none) (v15 := none) (v16 := none) (v17 := none) (v18 := none) (v19 := none) (v20 := none) (v21 := none) K q4' q5
  obtain ⟨a9, a10, a11, a12, p1, g4, hp1, f1⟩ := turnL (ns := ns) (p := 1) (g := g3) (v0 := some (.lis (nums ns))) (v3 := some (.int m)) (v4 := some (.ref r4)) (v5 := some (.ref r5)) (v6 := none) (v7 := none) (v8 := some (.int 0)) (v9 := none) (v10 := none) (v11 := none) (v12 := none) (v13 := none) (v14 := none) (v15 := none) (v16 := none) (v17 := none) (v18 := none) (v19 := none) (v20 := none) (v21 := none) z (by omega)
  obtain ⟨b9, b10, b11, b12, p2, g5, hp2, f2⟩ := turnL (ns := ns) (p := p1) (g := g4) (v0 := some (.lis (nums ns))) (v3 := some (.int m)) (v4 := some (.ref r4)) (v5 := some (.ref r5)) (v6 := none) (v7 := none) (v8 := some (.int 1)) (v9 := a9) (v10 := a10) (v11 := a11) (v12 := a12) (v13 := none) (v14 := none) (v15 := none) (v16 := none) (v17 := none) (v18 := none) (v19 := none) (v20 := none) (v21 := none) z (by omega)
  obtain ⟨c9, c10, c11, c12, p3, g6, hp3, f3⟩ := turnL (ns := ns) (p := p2) (g := g5) (v0 := some (.lis (nums ns))) (v3 := some (.int m)) (v4 := some (.ref r4)) (v5 := some (.ref r5)) (v6 := none) (v7 := none) (v8 := some (.int 2)) (v9 := b9) (v10 := b10) (v11 := b11) (v12 := b12) (v13 := none) (v14 := none) (v15 := none) (v16 := none) (v17 := none) (v18 := none) (v19 := none) (v20 := none) (v21 := none) z (by omega)
  have e7 : evS pg 4000 (cP 29) (.for_ (.nm 8) (.rg [.lit (.int 3)]) bLt) [some (.lis (nums ns)), some (.ref 0), some (.ref 2), some (.int m), some (.ref r4), some (.ref r5), none, none, none, none, none, none, none, none, none, none, none, none, none, none, none, none] (hp ds ns 1 g3) = .nx [some (.lis (nums ns)), some (.ref 0), some (.ref 2), some (.int m), some (.ref r4), some (.ref r5), none, none, some (.int 2), c9, c10, c11, c12, none, none, none, none, none, none, none, none, none] (hp ds ns p3 g6) := by
    have ei : evI (cP 29) (.rg [.lit (.int 3)]) [some (.lis (nums ns)), some (.ref 0), some (.ref 2), some (.int m), some (.ref r4), some (.ref r5), none, none, none, none, none, none, none, none, none, none, none, none, none, none, none, none] (hp ds ns 1 g3) = .ok ([.int 0, .int 1, .int 2], []) (hp ds ns 1 g3) := by
      simp only [evSs, s_exp, s_asg, s_par, s_aug, s_ret, s_ife, e_var, e_lit, e_glo, e_neg, e_not, e_bin, e_and, e_or, e_ite, e_cmp, e_chn, e_tup, e_lst, e_sub, e_call, e_blt, e_isi, evEs, evT, evI, List.getElem?_cons_succ, List.getElem?_cons_zero, bind_ok, then_ok, nx_then, rt_then, give_some, Option.map_some, t_int, t_abs, iabs_nat, b_add, b_sub, neg_i, tr_bl, s_fr0, s_fr1, Tg.put, Tg.puts, setsP, List.set_cons_succ, List.set_cons_zero, if_true, if_false, Bool.false_eq_true, Bool.not_true, Bool.not_false, c_lt, c_le, c_gt, c_ge, c_eq, c_ne, isi_t, len2, bind_exc, then_exc, ex_then, wr3]
    rw [s_for, ei, then_ok]
    dsimp only
    rw [forL_cons rfl f1, forL_cons rfl f2, forL_cons rfl f3]
    rfl
  have e8 : evS pg 4000 (cP 29) (.asg (.tp [.nm 13, .nm 14, .nm 15]) (.tup [.tup [.lit (.int 0), .lit (.int 1)], .tup [.lit (.int 1), .lit (.int 0)], .tup []])) [some (.lis (nums ns)), some (.ref 0), some (.ref 2), some (.int m), some (.ref r4), some (.ref r5), none, none, some (.int 2), c9, c10, c11, c12, none, none, none, none, none, none, none, none, none] (hp ds ns p3 g6) = .nx [some (.lis (nums ns)), some (.ref 0), some (.ref 2), some (.int m), some (.ref r4), some (.ref r5), none, none, some (.int 2), c9, c10, c11, c12, some (fr 0 1), some (fr 1 0), some (.tup []), none, none, none, none, none, none] (hp ds ns p3 g6) := by simp only [evSs, s_exp, s_asg, s_par, s_aug, s_ret, s_ife, e_var, e_lit, e_glo, e_neg, e_not, e_bin, e_and, e_or, e_ite, e_cmp, e_chn, e_tup, e_lst, e_sub, e_call, e_blt, e_isi, evEs, evT, evI, List.getElem?_cons_succ, List.getElem?_cons_zero, bind_ok, then_ok, nx_then, rt_then, give_some, Option.map_some, t_int, t_abs, iabs_nat, b_add, b_sub, neg_i, tr_bl, s_fr0, s_fr1, Tg.put, Tg.puts, setsP, List.set_cons_succ, List.set_cons_zero, if_true, if_false, Bool.false_eq_true, Bool.not_true, Bool.not_false, c_lt, c_le, c_gt, c_ge, c_eq, c_ne, isi_t, len2, bind_exc, then_exc, ex_then]
  obtain ⟨tt, h8, h16, h17, p4, g7, ho, hl, hp4, e9⟩ := ls9 (ns := ns) (p := p3) (g := g6) (v0 := some (.lis (nums ns))) (v3 := some (.int m)) (v4 := some (.ref r4)) (v5 := some (.ref r5)) (v6 := none) (v7 := none) (v8 := some (.int 2)) (v9 := c9) (v10 := c10) (v11 := c11) (v12 := c12) (v16 := none) (v17 := none) (v18 := none) (v19 := none) (v20 := none) (v21 := none) z (by omega)
  have e10 := ls10 (v0 := some (.lis (nums ns))) (v3 := some (.int m)) (v4 := some (.ref r4)) (v5 := some (.ref r5)) (v6 := none) (v7 := none) (v8 := h8) (v9 := c9) (v10 := c10) (v11 := c11) (v12 := c12) (v16 := h16) (v17 := h17) (v18 := none) (v19 := none) (v20 := none) (v21 := none) ho hl (hp ds ns p4 g7)
  obtain ⟨bad, hb, odd, hod, g8, e11⟩ := ls11 (ns := ns) (p := p4) (g := g7) (v0 := some (.lis (nums ns))) (v3 := some (.int m)) (v4 := some (.ref r4)) (v5 := some (.ref r5)) (v6 := none) (v7 := none) (v8 := h8) (v9 := c9) (v10 := c10) (v11 := c11) (v12 := c12) (v13 := some (fz (ftL tt (0, 1) (1, 0)).1)) (v14 := some (fz (ftL tt (0, 1) (1, 0)).2)) (v15 := some (.tup (tt.map stA))) (v16 := h16) (v17 := h17) (v18 := none) (v19 := none) (v20 := none) (v21 := none) z (by omega)
  obtain ⟨g9, e12⟩ := ls12 (ns := ns) (p := p4 + 2) (g := g8) (v0 := some (.lis (nums ns))) (v3 := some (.int m)) (v4 := some (.ref r4)) (v5 := some (.ref r5)) (v6 := none) (v7 := none) (v8 := h8) (v9 := c9) (v10 := c10) (v11 := c11) (v12 := c12) (v13 := some (fz (ftL tt (0, 1) (1, 0)).1)) (v14 := some (fz (ftL tt (0, 1) (1, 0)).2)) (v15 := some (.tup (tt.map stA))) (v16 := h16) (v17 := h17) (v18 := some bad) (v20 := none) (v21 := none) z (by omega) hod
  obtain ⟨g10, r20, q20, e13⟩ := ls13 (ds := ds) (ns := ns) (p := p4 + 3) (g := g9) (v0 := some (.lis (nums ns))) (v3 := some (.int m)) (v4 := some (.ref r4)) (v5 := some (.ref r5)) (v6 := none) (v7 := none) (v8 := h8) (v9 := c9) (v10 := c10) (v11 := c11) (v12 := c12) (v13 := some (fz (ftL tt (0, 1) (1, 0)).1)) (v14 := some (fz (ftL tt (0, 1) (1, 0)).2)) (v15 := some (.tup (tt.map stA))) (v16 := h16) (v17 := h17) (v19 := some odd) (v20 := none) (v21 := none) hb
  obtain ⟨g11, e14⟩ := ls14 (ds := ds) (ns := ns) (p := p4 + 3) (g := g10) (v0 := some (.lis (nums ns))) (v3 := some (.int m)) (v4 := some (.ref r4)) (v5 := some (.ref r5)) (v6 := none) (v7 := none) (v8 := h8) (v9 := c9) (v10 := c10) (v11 := c11) (v12 := c12) (v13 := some (fz (ftL tt (0, 1) (1, 0)).1)) (v14 := some (fz (ftL tt (0, 1) (1, 0)).2)) (v15 := some (.tup (tt.map stA))) (v16 := h16) (v17 := h17) (v19 := some odd) (v21 := none) hb q20
  obtain ⟨w, g12, hw, e15⟩ := ls15 (ns := ns) (p := p4 + 3) (g := g11) (v0 := some (.lis (nums ns))) (v3 := some (.int m)) (v4 := some (.ref r4)) (v5 := some (.ref r5)) (v6 := none) (v7 := none) (v8 := h8) (v9 := c9) (v10 := c10) (v11 := c11) (v12 := c12) (v13 := some (fz (ftL tt (0, 1) (1, 0)).1)) (v14 := some (fz (ftL tt (0, 1) (1, 0)).2)) (v15 := some (.tup (tt.map stA))) (v16 := h16) (v17 := h17) (v18 := some bad) (v19 := some odd) (v20 := some (.ref r20)) (v21 := none) z (by omega)
  have e16 := ls16 (v0 := some (.lis (nums ns))) (v3 := some (.int m)) (v4 := some (.ref r4)) (v5 := some (.ref r5)) (v6 := none) (v7 := none) (v8 := h8) (v9 := c9) (v10 := c10) (v11 := c11) (v12 := c12) (v13 := some (fz (ftL tt (0, 1) (1, 0)).1)) (v14 := some (fz (ftL tt (0, 1) (1, 0)).2)) (v15 := some (.tup (tt.map stA))) (v16 := h16) (v17 := h17) (v18 := some bad) (v19 := some odd) (v20 := some (.ref r20)) hw (hp ds ns (p4 + 4) g12)
  exact ⟨_, sq_nx e3 (sq_nx e4 (sq_nx e5 (sq_nx e6 (sq_nx e7 (sq_nx e8 (sq_nx e9 (sq_nx e10 (sq_nx e11 (sq_nx e12 (sq_nx e13 (sq_nx e14 (sq_nx e15 (sq_rt e16)))))))))))))⟩
theorem enter2 {ns : List Int} {h' : Ho} (run : evSs pg 4000 (cP 29) f_law.body [some (.lis (nums ns)), none, none, none, none, none, none, none, none, none, none, none, none, none, none, none, none, none, none, none, none, none] [] = .rt (.bl true) h') : callK pg 4000 30 46 [.lis (ns.map A.int)] [] = .ok (.bl true) [] := by
  unfold callK
  show (if ([A.lis (nums ns)].length == 1) = true then _ else _) = _
  rw [if_pos (by rfl)]
  show (match evSs pg 4000 (cP 29) f_law.body [some (.lis (nums ns)), none, none, none, none, none, none, none, none, none, none, none, none, none, none, none, none, none, none, none, none, none] [] with
        | .rt a h' => trim 0 (A.inb 0 a) h' fun h' => R.ok a h'
        | .nx _ h' => trim 0 true h' fun h' => .ok .non h'
        | .ex x _ h' => trim 0 (A.inbs 0 (x.fs.map Prod.snd)) h' fun h' => .exc x h'
        | _ => .err) = _
  rw [run]
  exact trim0 _ _
theorem main (ns : List Int) (hn : ns.length ≤ 63) : ∃ h', callK pg 4000 30 46 [.lis (ns.map A.int)] [] = .ok (.bl true) h' := by
  obtain ⟨ds, hd, hl, ed⟩ := draws_ok (P := pg) (F := 4000) (iD := 30) (n := 28) (ns := ns) rfl rfl hn
  obtain ⟨h', e⟩ := law_tr (ds := ds) (ns := ns) ⟨hd, hl⟩
  have d0 : cP 29 30 [.lis (nums ns)] [] = .ok (.ref 0) [.lst (nums ds), .lst (nums ns)] := by
    show callP _ _ _ _ = _
    unfold callP
    split
    · rw [ed]
      show R.ok _ ([] ++ [.lst (A.ups 0 (nums ds)), .lst (A.ups 0 (nums ns))]) = _
      have u : ∀ xs : List Int, A.ups 0 (nums xs) = nums xs := fun xs => by
        induction xs with
        | nil => rfl
        | cons x xs ih =>
          show A.int x :: A.ups 0 (nums xs) = _
          rw [ih]
          rfl
      rw [u, u]
      rfl
    · exact ed
  have N : newL [.int 0] [.lst (nums ds), .lst (nums ns)] = .ok (.ref 2) (hp ds ns 0 []) := rfl
  have run : evSs pg 4000 (cP 29) f_law.body [some (.lis (nums ns)), none, none, none, none, none, none, none, none, none, none, none, none, none, none, none, none, none, none, none, none, none] [] = .rt (.bl true) h' := by
    rw [law_body]
    have e1 : evS pg 4000 (cP 29) (.asg (.nm 1) (.call 30 [.var 0])) [some (.lis (nums ns)), none, none, none, none, none, none, none, none, none, none, none, none, none, none, none, none, none, none, none, none, none] [] = .nx [some (.lis (nums ns)), some (.ref 0), none, none, none, none, none, none, none, none, none, none, none, none, none, none, none, none, none, none, none, none] [.lst (nums ds), .lst (nums ns)] := by
      simp only [evSs, s_exp, s_asg, s_par, s_aug, s_ret, s_ife, e_var, e_lit, e_glo, e_neg, e_not, e_bin, e_and, e_or, e_ite, e_cmp, e_chn, e_tup, e_lst, e_sub, e_call, e_blt, e_isi, evEs, evT, evI, List.getElem?_cons_succ, List.getElem?_cons_zero, bind_ok, then_ok, nx_then, rt_then, give_some, Option.map_some, t_int, t_abs, iabs_nat, b_add, b_sub, neg_i, tr_bl, s_fr0, s_fr1, Tg.put, Tg.puts, setsP, List.set_cons_succ, List.set_cons_zero, if_true, if_false, Bool.false_eq_true, Bool.not_true, Bool.not_false, c_lt, c_le, c_gt, c_ge, c_eq, c_ne, isi_t, len2, bind_exc, then_exc, ex_then, d0]
    have e2 : evS pg 4000 (cP 29) (.asg (.nm 2) (.lst [.lit (.int 0)])) [some (.lis (nums ns)), some (.ref 0), none, none, none, none, none, none, none, none, none, none, none, none, none, none, none, none, none, none, none, none] [.lst (nums ds), .lst (nums ns)] = .nx [some (.lis (nums ns)), some (.ref 0), some (.ref 2), none, none, none, none, none, none, none, none, none, none, none, none, none, none, none, none, none, none, none] (hp ds ns 0 []) := by
      simp only [evSs, s_exp, s_asg, s_par, s_aug, s_ret, s_ife, e_var, e_lit, e_glo, e_neg, e_not, e_bin, e_and, e_or, e_ite, e_cmp, e_chn, e_tup, e_lst, e_sub, e_call, e_blt, e_isi, evEs, evT, evI, List.getElem?_cons_succ, List.getElem?_cons_zero, bind_ok, then_ok, nx_then, rt_then, give_some, Option.map_some, t_int, t_abs, iabs_nat, b_add, b_sub, neg_i, tr_bl, s_fr0, s_fr1, Tg.put, Tg.puts, setsP, List.set_cons_succ, List.set_cons_zero, if_true, if_false, Bool.false_eq_true, Bool.not_true, Bool.not_false, c_lt, c_le, c_gt, c_ge, c_eq, c_ne, isi_t, len2, bind_exc, then_exc, ex_then, N]
    rw [evSs, e1, nx_then, evSs, e2, nx_then]
    exact e
  refine ⟨_, enter2 run⟩
end
end My

/-! text E46 -/
set_option Elab.async false
set_option linter.all false
set_option maxRecDepth 100000
set_option maxHeartbeats 0
namespace My
open PySem PySem.Spec PyProof.Rows L2 Ev
theorem law_at : pg.defs[46]? = some f_law := rfl
end My
open PySem PySem.Spec PyProof.Rows L2 PySem.W
theorem PySem.Challenge.cw_drawnwrought_k46_whole_ford_circles_holds : PySem.Challenge.rw_drawnwrought_k46_whole_ford_circles.Holds := by
  w_on; o_law
  refine HandSHeadRun.head_any (r := OpenLaw.row PySem.Challenge.rw_drawnwrought_k46_whole_ford_circles) (q := view (OpenLaw.row PySem.Challenge.rw_drawnwrought_k46_whole_ford_circles).prog [57]) (H := My.hk) (ob := My.ob) (M := 4000) (loose := My.loose) (d := HandSHeadRun.topDef PySem.Challenge.pw_drawnwrought_k46_whole_ford_circles 57) (kwd := []) My.ob_eq (by kernel_rfl) (fun s => by kernel_rfl) My.run (by kernel_rfl) (by kernel_rfl) (by kernel_rfl) (by rfl) (by first | assumption | decide +kernel) (by decide +kernel) ⟨rfl, rfl, rfl, rfl, rfl, by decide +kernel⟩ ?hw ?hc
  case hw => w_witness2
  case hc =>
    refine Ev.walk_ev (l := PySem.Challenge.rw_drawnwrought_k46_whole_ford_circles) (n := 63) (k := 29) (F := 4000) rfl (by decide) (by kernel_rfl) ⟨rfl, by decide, by decide⟩ ?_
    intro w mg h Y G
    obtain ⟨K, KX, sd, b⟩ := Y
    exact ⟨K, My.ck, 46, My.f_law, KX, Ev.wk_of KX G My.allD sd b, My.law_at, rfl, rfl, My.main⟩

