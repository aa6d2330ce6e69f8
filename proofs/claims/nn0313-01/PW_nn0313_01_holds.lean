import PyProof.Rows.All
import Wide.All
import OpenK.AllK
import Wide.FinOn
import PySem.Challenge.RW_nn0313_01
set_option Elab.async false
namespace Mine
section
open PySem
set_option autoImplicit false

/-- signs of the second run (see Sim) -/
inductive Sy where
  | net (t : Nat) | msk (b : Bool) | full

inductive V where
  | none | bool (b : Bool) | int (i : Int) | str (s : Str) | tup (xs : List V) | ref (n : Nat) | rng (a b s : Int) | sym (s : Sy)

inductive Atom where
  | i (n : Int) | s (x : Str)
deriving DecidableEq

inductive O where
  | list (xs : List V)
  | idict (es : List (Int × V))
  | tdict (es : List (List Atom × V))
  | sdict (es : List (Str × V))
  | inst (c d : Nat)
  | ns (fs : List (Str × V))

abbrev St := List O
abbrev Rho := List (Option V)

/-- built-in functions -/
inductive BI where
  | len | range | min | max | list | sum | int | tuple | sorted
deriving DecidableEq

inductive DK where
  | i | t | s
deriving DecidableEq

inductive X where
  | loc (i : Nat) | cnone | cint (n : Int) | cstr (s : Str) | cbool (b : Bool)
  | bin (op : Operator) (a b : X) | neg (a : X)
  | cmp (op : CmpOp) (a b : X) | or2 (a b : X) | ite (t a b : X)
  | list (xs : X) | tup (xs : X) | dict (k : DK) (xs : X)
  | sub (a i : X) | slc (a lo hi : X) | attr (o : X) (name : Str)
  | call (f : Nat) (xs : X) | new (c : Nat) (xs : X) | meth (o : X) (m : Str) (xs : X) | bi (b : BI) (xs : X)
  | comp (elt : X) (tgt : List Str) (iter cond : X)
  | comp2 (elt : X) (tgt : List Str) (iter : X) (tgt2 : List Str) (iter2 : X)
  | nil | cons (a b : X)

inductive S where
  | nil | cons (a b : S)
  | asg (i : Nat) (e : X) | unp (is : List Nat) (e : X) | att (o : X) (name : Str) (e : X) | sub (o i e : X)
  | aug (o : X) (name : Str) (e : X) | cond (t : X) (a b : S) | loop (t : X) (b : S) | for_ (is : List Nat) (many : Bool) (it : X) (b : S)
  | ret (e : X) | exp (e : X)

noncomputable def maxLen : Nat := 2 ^ 20

/-! what a value is -/
noncomputable def V.isTrue? : V → Option Bool
  | .bool b => some b
  | .int i => some (decide (i ≠ 0))
  | _ => Option.none
noncomputable def asI : V → Option Int
  | .int i => some i
  | _ => Option.none
noncomputable def asS : V → Option Str
  | .str i => some i
  | _ => Option.none
noncomputable def asB : V → Option Bool
  | .bool i => some i
  | _ => Option.none
noncomputable def asR : V → Option Nat
  | .ref n => some n
  | _ => Option.none
noncomputable def asT : V → Option (List V)
  | .tup xs => some xs
  | _ => Option.none
noncomputable def asY : V → Option Sy
  | .sym s => some s
  | _ => Option.none
noncomputable def oL : O → Option (List V)
  | .list xs => some xs
  | _ => Option.none
noncomputable def oI : O → Option (List (Int × V))
  | .idict xs => some xs
  | _ => Option.none
noncomputable def oT : O → Option (List (List Atom × V))
  | .tdict xs => some xs
  | _ => Option.none
noncomputable def oS : O → Option (List (Str × V))
  | .sdict xs => some xs
  | _ => Option.none
noncomputable def oN : O → Option (List (Str × V))
  | .ns xs => some xs
  | _ => Option.none
noncomputable def oC : O → Option (Nat × Nat)
  | .inst c d => some (c, d)
  | _ => Option.none
noncomputable def one {α : Type} : List α → Option α
  | [a] => some a
  | _ => Option.none
noncomputable def two {α : Type} : List α → Option (α × α)
  | [a, b] => some (a, b)
  | _ => Option.none
noncomputable def three {α : Type} : List α → Option (α × α × α)
  | [a, b, c] => some (a, b, c)
  | _ => Option.none
/-- a test, then on -/
noncomputable def need {α : Type} (b : Bool) (x : Option α) : Option α := if b = true then x else Option.none

noncomputable def listAt (H : St) (n : Nat) : Option (List V) := H[n]?.bind oL
noncomputable def idictAt (H : St) (n : Nat) : Option (List (Int × V)) := H[n]?.bind oI
noncomputable def asL (H : St) (v : V) : Option (List V) := (asR v).bind (listAt H)
noncomputable def mapO {α β : Type} (f : α → Option β) : List α → Option (List β)
  | [] => some []
  | x :: r => (f x).bind fun y => (mapO f r).map (y :: ·)
noncomputable def intsOf (xs : List V) : Option (List Int) := mapO asI xs
noncomputable def asAtom : V → Option Atom
  | .int i => some (.i i)
  | .str s => some (.s s)
  | _ => Option.none
noncomputable def atomsOf (xs : List V) : Option (List Atom) := mapO asAtom xs
noncomputable def asKey (v : V) : Option (List Atom) := (asT v).bind atomsOf

/-! steps -/
noncomputable def mk (o : O) (H : St) : V × St := (.ref H.length, H ++ [o])
noncomputable def newL (xs : List V) (H : St) : Option (V × St) := need (decide (xs.length ≤ maxLen)) (some (.ref H.length, H ++ [.list xs]))

noncomputable def mulOk (a b : Int) : Bool := decide (a.natAbs < 2 ^ 64) || decide (b.natAbs < 2 ^ 64)
noncomputable def binI (op : Operator) (a b : Int) : Option Int := match op with
  | .Add => some (a + b)
  | .Sub => some (a - b)
  | .Mult => need (mulOk a b) (some (a * b))
  | .FloorDiv => need (decide (b ≠ 0 ∧ b.natAbs < 2 ^ 100)) (some (a.fdiv b))
  | .Mod => need (decide (b ≠ 0)) (some (a.fmod b))
  | .Pow => need (decide (0 ≤ b ∧ b ≤ 1024 ∧ a.natAbs ≤ 2)) (some (a ^ b.toNat))
  | .BitAnd => some (Builtin.bitAnd a b)
  | .BitOr => some (Builtin.bitOr a b)
  | .BitXor => some (Builtin.bitXor a b)
  | _ => Option.none
/-- of signs -/
noncomputable def asM : Sy → Option Bool
  | .msk b => some b
  | _ => Option.none
noncomputable def isFull : Sy → Bool
  | .full => true
  | _ => false
noncomputable def mskOf (v : V) : Option Bool := (asY v).bind asM
noncomputable def fullV (v : V) : Bool := match asY v with
  | some s => isFull s
  | Option.none => false
noncomputable def zeroV (v : V) : Bool := match asI v with
  | some i => decide (i = 0)
  | Option.none => false
noncomputable def binY (op : Operator) (a b : V) : Option Bool := (mskOf b).bind fun y =>
  need (decide (op = .Sub) && fullV a) (some (!y)) <|> need (decide (op = .BitAnd) && fullV a) (some y) <|> need (decide (op = .BitOr) && zeroV a) (some y) <|>
  need (decide (op = .BitAnd)) ((mskOf a).map fun x => x && y) <|> need (decide (op = .BitOr)) ((mskOf a).map fun x => x || y)
noncomputable def binop (op : Operator) (a b : V) (H : St) : Option (V × St) :=
  (asI a).bind (fun x => (asI b).bind fun y => (binI op x y).map fun z => (.int z, H)) <|>
  need (decide (op = .Add)) ((asL H a).bind fun xs => (asL H b).bind fun ys => newL (xs ++ ys) H) <|>
  need (decide (op = .Mult)) ((asL H a).bind fun xs => (one xs).bind fun x => (asI b).bind fun k => need (decide (-1000 ≤ k ∧ k ≤ 1000)) (newL (List.replicate k.toNat x) H)) <|>
  (binY op a b).map fun z => (.sym (.msk z), H)

noncomputable def cmpI : CmpOp → Int → Int → Option Bool
  | .Eq, a, b => some (decide (a = b))
  | .NotEq, a, b => some (decide (a ≠ b))
  | .Lt, a, b => some (decide (a < b))
  | .LtE, a, b => some (decide (a ≤ b))
  | .Gt, a, b => some (decide (b < a))
  | .GtE, a, b => some (decide (b ≤ a))
  | _, _, _ => Option.none
/-- is the key in the dict at n -/
noncomputable def hasKey (H : St) (d k : V) : Option Bool := (asR d).bind fun n => H[n]?.bind fun o =>
  (oI o).bind (fun es => (asI k).map fun i => (es.lookup i).isSome) <|> (oT o).bind (fun es => (asKey k).map fun as => (es.lookup as).isSome)
noncomputable def cmpE (op : CmpOp) (a b : V) (H : St) : Option Bool := (asI a).bind (fun x => (asI b).bind fun y => cmpI op x y) <|>
    need (decide (op = .Eq)) ((asS a).bind fun x => (asS b).map fun y => decide (x = y)) <|>
    need (decide (op = .Eq)) ((asB a).bind fun x => (asB b).map fun y => decide (x = y)) <|>
    need (decide (op = .Eq)) ((asL H a).bind fun xs => (asL H b).bind fun ys => (intsOf xs).bind fun is => (intsOf ys).map fun js => decide (is = js)) <|>
    need (decide (op = .NotEq)) ((asL H a).bind fun xs => (asL H b).bind fun ys => (intsOf xs).bind fun is => (intsOf ys).map fun js => decide (is ≠ js))
noncomputable def cmpop (op : CmpOp) (a b : V) (H : St) : Option Bool := if op = .In then hasKey H b a else if op = .NotIn then (hasKey H b a).map (!·) else cmpE op a b H

noncomputable def idx? (xs : List V) (i : Int) : Option V := if 0 ≤ i then xs[i.toNat]? else need (decide (-(xs.length : Int) ≤ i)) xs[(xs.length + i).toNat]?
noncomputable def subO (o : O) (i : V) : Option V :=
  (oL o).bind (fun xs => (asI i).bind (idx? xs)) <|> (oI o).bind (fun es => (asI i).bind fun k => es.lookup k) <|> (oS o).bind (fun es => (asS i).bind fun k => es.lookup k) <|>
  (oT o).bind (fun es => (asKey i).bind fun k => es.lookup k)
noncomputable def subscr (a i : V) (H : St) : Option V :=
  (asT a).bind (fun xs => (asI i).bind fun k => need (decide (0 ≤ k ∧ k < 1000)) xs[k.toNat]?) <|> (asR a).bind fun n => H[n]?.bind fun o => subO o i

noncomputable def isNo : V → Bool
  | .none => true
  | _ => false
noncomputable def sliceL (xs : List V) (lo hi : V) : Option (List V) :=
  need (isNo lo) ((asI hi).bind fun k => need (decide (0 ≤ k)) (some (xs.take k.toNat))) <|> need (isNo hi) ((asI lo).bind fun k => need (decide (0 ≤ k)) (some (xs.drop k.toNat)))

noncomputable def rangeL (a b s : Int) : List V :=
  if s = 1 then (List.range (b - a).toNat).map fun (j : Nat) => V.int (a + (j : Int))
  else if s = 2 then (List.range ((b - a + 1) / 2).toNat).map fun (j : Nat) => V.int (a + 2 * (j : Int))
  else if s = -1 then (List.range (a - b).toNat).map fun (j : Nat) => V.int (a - (j : Int))
  else []
noncomputable def rangeOk (a b s : Int) : Bool := (s = 1 || s = 2 || s = -1) && decide (a.natAbs < 2 ^ 20) && decide (b.natAbs < 2 ^ 20)

/-- what a for goes over -/
inductive Src where
  | lst (n len : Nat) | fix (items : List V)
noncomputable def Src.len : Src → Nat
  | .lst _ k => k
  | .fix xs => xs.length
/-- it stands as it stood -/
noncomputable def Src.ok (H : St) : Src → Bool
  | .lst n k => match listAt H n with
    | some xs => decide (xs.length = k)
    | Option.none => false
  | .fix _ => true
noncomputable def Src.get (H : St) (i : Nat) : Src → Option V
  | .lst n k => (listAt H n).bind fun xs => need (decide (xs.length = k)) xs[i]?
  | .fix xs => xs[i]?
noncomputable def asG : V → Option (Int × Int × Int)
  | .rng a b s => some (a, b, s)
  | _ => Option.none
noncomputable def source (v : V) (H : St) : Option Src :=
  (asR v).bind (fun n => (listAt H n).map fun xs => .lst n xs.length) <|> (asG v).bind (fun g => need (rangeOk g.1 g.2.1 g.2.2) (some (.fix (rangeL g.1 g.2.1 g.2.2)))) <|> (asT v).map .fix

noncomputable def sumL (xs : List V) : Option Int := (intsOf xs).map List.sum
noncomputable def insI (x : Int) : List Int → List Int
  | [] => [x]
  | y :: r => if x ≤ y then x :: y :: r else y :: insI x r
noncomputable def sortI : List Int → List Int
  | [] => []
  | x :: r => insI x (sortI r)

noncomputable def biRange (vs : List V) (H : St) : Option (V × St) := (intsOf vs).bind fun is =>
  (one is).map (fun b => (.rng 0 b 1, H)) <|> (two is).map (fun p => (.rng p.1 p.2 1, H)) <|> (three is).bind fun p => need (decide (p.2.2 ≠ 0 ∧ p.2.2.natAbs < 1000)) (some (.rng p.1 p.2.1 p.2.2, H))
noncomputable def biTwo (f : Int → Int → Int) (vs : List V) (H : St) : Option (V × St) := (two vs).bind fun p => (asI p.1).bind fun a => (asI p.2).map fun b => (.int (f a b), H)
noncomputable def builtin (b : BI) (vs : List V) (H : St) : Option (V × St) := match b with
  | .len => (one vs).bind fun v => (asL H v).map fun xs => (.int xs.length, H)
  | .range => biRange vs H
  | .min => biTwo (fun a b => if b < a then b else a) vs H
  | .max => biTwo (fun a b => if a < b then b else a) vs H
  | .list => (one vs).bind fun v => ((asL H v) <|> asT v).bind fun xs => newL xs H
  | .sum => (one vs).bind fun v => (asL H v).bind fun xs => (sumL xs).map fun z => (.int z, H)
  | .int => (one vs).bind fun v => (asB v).map fun b => (.int (if b then 1 else 0), H)
  | .tuple => (one vs).bind fun v => ((asL H v) <|> asT v).map fun xs => (.tup xs, H)
  | .sorted => (one vs).bind fun v => (asT v).bind fun xs => (intsOf xs).bind fun is => need (decide (xs.length < 64)) (newL ((sortI is).map .int) H)

/-- a text and a tuple of ints -/
noncomputable def flat2 (v : V) : Option (Str × List Int) := (asT v).bind fun xs => (two xs).bind fun p => (asS p.1).bind fun s => (asT p.2).bind fun ys => (intsOf ys).bind fun is => need (s.cps.all (· < 0x110000)) (some (s, is))

/-- methods of lists and dicts -/
noncomputable def lmeth (n : Nat) (m : Str) (vs : List V) (H : St) : Option (V × St) := (listAt H n).bind fun xs => (one vs).bind fun x =>
  need (decide (m = "append")) (need (decide (xs.length < maxLen)) (some (.none, H.set n (.list (xs ++ [x]))))) <|>
  need (decide (m = "count")) ((flat2 x).bind fun k => (mapO flat2 xs).map fun ks => (.int (ks.filter (· = k)).length, H))
noncomputable def dmeth (n : Nat) (m : Str) (vs : List V) (H : St) : Option (V × St) := (idictAt H n).bind fun es => (two vs).bind fun p => (asI p.1).bind fun k =>
  need (decide (m = "get")) (some ((es.lookup k).getD p.2, H))

noncomputable def setO (n : Nat) (o : O) (i v : V) (H : St) : Option St :=
  (oL o).bind (fun xs => (asI i).bind fun k => need (decide (0 ≤ k ∧ k < xs.length)) (some (H.set n (.list (xs.set k.toNat v))))) <|>
  (oI o).bind (fun es => (asI i).bind fun k => need (decide (es.length < maxLen)) (some (H.set n (.idict ((k, v) :: es))))) <|>
  (oT o).bind fun es => (asKey i).bind fun k => need (decide (es.length < maxLen)) (some (H.set n (.tdict ((k, v) :: es))))
noncomputable def setAt (a i v : V) (H : St) : Option St := (asR a).bind fun n => H[n]?.bind fun o => setO n o i v H

noncomputable def fsAt (o : V) (H : St) : Option (Nat × Nat × List (Str × V)) := (asR o).bind fun n => (H[n]?.bind oC).bind fun c => (H[c.2]?.bind oN).map fun fs => (c.1, c.2, fs)
noncomputable def getAt (o : V) (name : Str) (H : St) : Option V := (fsAt o H).bind fun x => x.2.2.lookup name
noncomputable def putF (name : Str) (v : V) : List (Str × V) → List (Str × V)
  | [] => [(name, v)]
  | e :: r => if e.1 = name then (name, v) :: r else e :: putF name v r
noncomputable def setAttr (o : V) (name : Str) (v : V) (H : St) : Option St := (fsAt o H).bind fun x => need (decide (x.2.2.length < 500)) (some (H.set x.2.1 (.ns (putF name v x.2.2))))
noncomputable def attrNames : List Str := ["netlist", "made", "opposite", "name", "count", "inputs", "outputs", "cells"]

noncomputable def pairUp : List V → Option (List (V × V))
  | [] => some []
  | [_] => Option.none
  | a :: b :: r => (pairUp r).map ((a, b) :: ·)
noncomputable def keyed {κ : Type} (f : V → Option κ) (es : List (V × V)) : Option (List (κ × V)) := mapO (fun e => (f e.1).map (·, e.2)) es
noncomputable def mkDict (k : DK) (vs : List V) (H : St) : Option (V × St) := (pairUp vs).bind fun es => need (decide (es.length ≤ 15)) (match k with
  | .i => (keyed asI es).map fun es => mk (.idict es.reverse) H
  | .s => (keyed asS es).map fun es => mk (.sdict es.reverse) H
  | .t => (keyed asKey es).bind fun es => need es.isEmpty (some (mk (.tdict []) H)))

/-- over the items -/
noncomputable def mapL (src : Src) (f : V → St → Option (List V × St)) : Nat → Nat → St → Option (List V × St)
  | 0, _, H => need (src.ok H) (some ([], H))
  | k + 1, i, H => (src.get H i).bind fun x => (f x H).bind fun r => (mapL src f k (i + 1) r.2).map fun q => (r.1 ++ q.1, q.2)

inductive Fl where
  | next | ret (v : V)
noncomputable def Fl.val : Fl → V
  | .next => .none
  | .ret v => v
/-- on, if nothing is handed back -/
noncomputable def onward (q : Fl × Rho × St) (f : Rho → St → Option (Fl × Rho × St)) : Option (Fl × Rho × St) := match q.1 with
  | .next => f q.2.1 q.2.2
  | .ret v => some (.ret v, q.2)

noncomputable def forL (src : Src) (f : V → Rho → St → Option (Fl × Rho × St)) : Nat → Nat → Rho → St → Option (Fl × Rho × St)
  | 0, _, ρ, H => need (src.ok H) (some (.next, ρ, H))
  | k + 1, i, ρ, H => (src.get H i).bind fun x => (f x ρ H).bind fun r => onward r (forL src f k (i + 1))

noncomputable def tst (x : V × St) : Option (Bool × St) := x.1.isTrue?.map (·, x.2)

noncomputable def whileL (t : Rho → St → Option (V × St)) (f : Rho → St → Option (Fl × Rho × St)) : Nat → Rho → St → Option (Fl × Rho × St)
  | 0, _, _ => Option.none
  | n + 1, ρ, H => ((t ρ H).bind tst).bind fun r => if r.1 then (f ρ r.2).bind fun q => onward q (whileL t f n) else some (.next, ρ, r.2)

noncomputable def bindT (tgt : List Str) (v : V) : Option (List (Option V)) := if tgt.length = 1 then some [some v] else (asT v).bind fun xs => need (decide (xs.length = tgt.length)) (some (xs.map some))
noncomputable def setSlots : List Nat → List V → Rho → Option Rho
  | [], [], ρ => some ρ
  | i :: is, v :: vs, ρ => setSlots is vs (ρ.set i (some v))
  | _, _, _ => Option.none
noncomputable def bindFor (is : List Nat) (many : Bool) (v : V) (ρ : Rho) : Option Rho := if many then (asT v).bind fun vs => setSlots is vs ρ else setSlots is [v] ρ

structure Prg where
  /-- (function's number of slots, its defaults for the last parameters, its body, number of params) -/
  fn : Nat → Option (Nat × List V × S × Nat)
  meth : Nat → Str → Option Nat
  init : Nat → Option Nat

section
variable (P : Prg) (cf : Nat → List V → St → Option (V × St))

noncomputable def locR (i : Nat) (ρ : Rho) (H : St) : Option (V × St) := (ρ[i]?.join).map (·, H)
/-- the values of a row of arguments -/
noncomputable def vals (x : V × St) : Option (List V × St) := (asT x.1).map (·, x.2)
/-- a method of x -/
noncomputable def methR (m : Str) (args : St → Option (List V × St)) (x : V × St) : Option (V × St) :=
  match fsAt x.1 x.2 with
  | some y => (P.meth y.1 m).bind fun f => (args x.2).bind fun z => cf f (x.1 :: z.1) z.2
  | Option.none => (asR x.1).bind fun n => match listAt x.2 n with
    | some _ => (args x.2).bind fun y => lmeth n m y.1 y.2
    | Option.none => need (idictAt x.2 n).isSome ((args x.2).bind fun y => dmeth n m y.1 y.2)
noncomputable def newR (c : Nat) (x : List V × St) : Option (V × St) := (P.init c).bind fun f =>
    (cf f (.ref x.2.length :: x.1) (x.2 ++ [.inst c (x.2.length + 1), .ns []])).bind fun r => need (isNo r.1) (some (.ref x.2.length, r.2))

abbrev M := Rho → St → Option (V × St)
abbrev Mx := Rho → St → Option (Fl × Rho × St)
/-! what each shape does, of what its parts do -/
noncomputable def mVal (v : V) : M := fun _ H => some (v, H)
noncomputable def mBin (op : Operator) (a b : M) : M := fun ρ H => (a ρ H).bind fun x => (b ρ x.2).bind fun y => binop op x.1 y.1 y.2
noncomputable def mNeg (a : M) : M := fun ρ H => (a ρ H).bind fun x => (asI x.1).map fun n => (.int (-n), x.2)
noncomputable def mCmp (op : CmpOp) (a b : M) : M := fun ρ H => (a ρ H).bind fun x => (b ρ x.2).bind fun y => (cmpop op x.1 y.1 y.2).map fun b => (.bool b, y.2)
noncomputable def mOr (a b : M) : M := fun ρ H => ((a ρ H).bind tst).bind fun x => if x.1 = true then some (.bool true, x.2) else b ρ x.2
noncomputable def mIte (t a b : M) : M := fun ρ H => ((t ρ H).bind tst).bind fun x => if x.1 = true then a ρ x.2 else b ρ x.2
/-- a row's values -/
noncomputable def row (xs : M) : Rho → St → Option (List V × St) := fun ρ H => (xs ρ H).bind vals
noncomputable def mList (xs : M) : M := fun ρ H => (row xs ρ H).bind fun x => newL x.1 x.2
noncomputable def mTup (xs : M) : M := fun ρ H => (row xs ρ H).bind fun x => need (decide (x.1.length ≤ 100)) (some (.tup x.1, x.2))
noncomputable def mDict (k : DK) (xs : M) : M := fun ρ H => (row xs ρ H).bind fun x => mkDict k x.1 x.2
noncomputable def mSub (a i : M) : M := fun ρ H => (a ρ H).bind fun x => (i ρ x.2).bind fun y => (subscr x.1 y.1 y.2).map (·, y.2)
noncomputable def mSlc (a lo hi : M) : M := fun ρ H => (a ρ H).bind fun x => (lo ρ x.2).bind fun y => (hi ρ y.2).bind fun z => (asL z.2 x.1).bind fun xs => (sliceL xs y.1 z.1).bind fun r => newL r z.2
noncomputable def mAttr (o : M) (name : Str) : M := fun ρ H => (o ρ H).bind fun x => (getAt x.1 name x.2).map (·, x.2)
noncomputable def mCall (f : Nat) (xs : M) : M := fun ρ H => (row xs ρ H).bind fun x => cf f x.1 x.2
noncomputable def mNew (c : Nat) (xs : M) : M := fun ρ H => (row xs ρ H).bind (newR P cf c)
noncomputable def mMeth (o : M) (m : Str) (xs : M) : M := fun ρ H => (o ρ H).bind (methR P cf m (row xs ρ))
noncomputable def mBi (b : BI) (xs : M) : M := fun ρ H => (row xs ρ H).bind fun x => builtin b x.1 x.2
noncomputable def turn1 (elt : M) (tgt : List Str) (cond : M) (ρ : Rho) (v : V) (H : St) : Option (List V × St) := (bindT tgt v).bind fun bs => ((cond (ρ ++ bs) H).bind tst).bind fun c =>
      if c.1 = true then (elt (ρ ++ bs) c.2).map fun y => ([y.1], y.2) else some ([], c.2)
noncomputable def turn2 (elt : M) (tgt2 : List Str) (ρ : Rho) (v2 : V) (H : St) : Option (List V × St) := (bindT tgt2 v2).bind fun bs2 => (elt (ρ ++ bs2) H).map fun y => ([y.1], y.2)
noncomputable def mComp (elt : M) (tgt : List Str) (iter cond : M) : M := fun ρ H => (iter ρ H).bind fun x => (source x.1 x.2).bind fun src => (mapL src (turn1 elt tgt cond ρ) src.len 0 x.2).bind fun r => newL r.1 r.2
noncomputable def turn21 (elt : M) (tgt tgt2 : List Str) (iter2 : M) (ρ : Rho) (v : V) (H : St) : Option (List V × St) := (bindT tgt v).bind fun bs => (iter2 (ρ ++ bs) H).bind fun x2 => (source x2.1 x2.2).bind fun src2 =>
      mapL src2 (turn2 elt tgt2 (ρ ++ bs)) src2.len 0 x2.2
noncomputable def mComp2 (elt : M) (tgt : List Str) (iter : M) (tgt2 : List Str) (iter2 : M) : M := fun ρ H => (iter ρ H).bind fun x => (source x.1 x.2).bind fun src => (mapL src (turn21 elt tgt tgt2 iter2 ρ) src.len 0 x.2).bind fun r => newL r.1 r.2
noncomputable def mCons (a r : M) : M := fun ρ H => (a ρ H).bind fun x => (row r ρ x.2).map fun y => (.tup (x.1 :: y.1), y.2)

noncomputable def ev : X → M := @X.rec (fun _ => M) locR (mVal .none) (fun n => mVal (.int n)) (fun s => mVal (.str s)) (fun b => mVal (.bool b))
  (fun op _ _ a b => mBin op a b) (fun _ a => mNeg a) (fun op _ _ a b => mCmp op a b) (fun _ _ a b => mOr a b) (fun _ _ _ t a b => mIte t a b)
  (fun _ xs => mList xs) (fun _ xs => mTup xs) (fun k _ xs => mDict k xs) (fun _ _ a i => mSub a i) (fun _ _ _ a lo hi => mSlc a lo hi) (fun _ name o => mAttr o name)
  (fun f _ xs => mCall cf f xs) (fun c _ xs => mNew P cf c xs) (fun _ m _ o xs => mMeth P cf o m xs) (fun b _ xs => mBi b xs)
  (fun _ tgt _ _ elt iter cond => mComp elt tgt iter cond) (fun _ tgt _ tgt2 _ elt iter iter2 => mComp2 elt tgt iter tgt2 iter2) (mVal (.tup [])) (fun _ _ a r => mCons a r)

noncomputable def sCons (a r : Mx) : Mx := fun ρ H => (a ρ H).bind fun q => onward q r
noncomputable def sAsg (i : Nat) (e : M) : Mx := fun ρ H => (e ρ H).map fun x => (.next, ρ.set i (some x.1), x.2)
noncomputable def sUnp (is : List Nat) (e : M) : Mx := fun ρ H => (e ρ H).bind fun x => (asT x.1).bind fun vs => (setSlots is vs ρ).map fun ρ => (.next, ρ, x.2)
noncomputable def sAtt (o : M) (name : Str) (e : M) : Mx := fun ρ H => (e ρ H).bind fun x => (o ρ x.2).bind fun y => (setAttr y.1 name x.1 y.2).map fun H => (.next, ρ, H)
noncomputable def sSub (o i e : M) : Mx := fun ρ H => (e ρ H).bind fun x => (o ρ x.2).bind fun y => (i ρ y.2).bind fun z => (setAt y.1 z.1 x.1 z.2).map fun H => (.next, ρ, H)
noncomputable def sAug (o : M) (name : Str) (e : M) : Mx := fun ρ H => (o ρ H).bind fun x => (getAt x.1 name x.2).bind fun v => (e ρ x.2).bind fun y => (asI v).bind fun a => (asI y.1).bind fun b =>
    (setAttr x.1 name (.int (a + b)) y.2).map fun H => (.next, ρ, H)
noncomputable def sCond (t : M) (a b : Mx) : Mx := fun ρ H => ((t ρ H).bind tst).bind fun x => if x.1 = true then a ρ x.2 else b ρ x.2
noncomputable def turnF (is : List Nat) (many : Bool) (b : Mx) (v : V) (ρ : Rho) (H : St) : Option (Fl × Rho × St) := (bindFor is many v ρ).bind fun ρ => b ρ H
noncomputable def sFor (is : List Nat) (many : Bool) (it : M) (b : Mx) : Mx := fun ρ H => (it ρ H).bind fun x => (source x.1 x.2).bind fun src => forL src (turnF is many b) src.len 0 ρ x.2
noncomputable def sRet (e : M) : Mx := fun ρ H => (e ρ H).map fun x => (.ret x.1, ρ, x.2)
noncomputable def sExp (e : M) : Mx := fun ρ H => (e ρ H).map fun x => (.next, ρ, x.2)

/-- statements -/
noncomputable def ex : S → Mx := @S.rec (fun _ => Mx) (fun ρ H => some (.next, ρ, H)) (fun _ _ a r => sCons a r) (fun i e => sAsg i (ev P cf e)) (fun is e => sUnp is (ev P cf e))
  (fun o name e => sAtt (ev P cf o) name (ev P cf e)) (fun o i e => sSub (ev P cf o) (ev P cf i) (ev P cf e)) (fun o name e => sAug (ev P cf o) name (ev P cf e)) (fun t _ _ a b => sCond (ev P cf t) a b)
  (fun t _ b => whileL (ev P cf t) b 100) (fun is many it _ b => sFor is many (ev P cf it) b) (fun e => sRet (ev P cf e)) (fun e => sExp (ev P cf e))
end

/-- the frame of a call -/
noncomputable def frameOf (e : Nat × List V × S × Nat) (args : List V) : Option Rho := need (decide (args.length ≤ e.2.2.2 ∧ e.2.2.2 ≤ args.length + e.2.1.length))
  (some ((args ++ e.2.1.drop (args.length + e.2.1.length - e.2.2.2)).map some ++ List.replicate (e.1 - e.2.2.2) Option.none))
noncomputable def runFn (P : Prg) (cf : Nat → List V → St → Option (V × St)) (f : Nat) (args : List V) (H : St) : Option (V × St) :=
  (P.fn f).bind fun e => (frameOf e args).bind fun ρ => (ex P cf e.2.2.1 ρ H).map fun q => (q.1.val, q.2.2)
/-- a call of def f -/
noncomputable def callN (P : Prg) : Nat → Nat → List V → St → Option (V × St)
  | 0, _, _, _ => Option.none
  | k + 1, f, args, H => runFn P (callN P k) f args H
end
end Mine

namespace Mine
section
open PySem
set_option maxRecDepth 10000

noncomputable def b_Gatesdd_initdd : S :=
  (.cons (.att (.loc 0) "netlist" (.loc 1)) (.cons (.att (.loc 0) "made" (.dict .t .nil)) (.cons (.att (.loc 0) "opposite" (.dict .i .nil)) .nil)))

noncomputable def s_Gatesdd_initdd : List Str := ["self", "netlist"]

noncomputable def b_Gates_pair : S :=
  (.cons (.asg 4 (.bi .min (.cons (.loc 2) (.cons (.loc 3) .nil)))) (.cons (.asg 5 (.bi .max (.cons (.loc 2) (.cons (.loc 3) .nil)))) (.cons (.asg 6 (.tup (.cons (.loc 1) (.cons (.loc 4) (.cons (.loc 5) .nil))))) (.cons (.cond (.cmp .NotIn (.loc 6) (.attr (.loc 0) "made"))
    (.cons (.sub (.attr (.loc 0) "made") (.loc 6) (.meth (.attr (.loc 0) "netlist") "add_cell" (.cons (.loc 1) (.cons (.tup (.cons (.loc 4) (.cons (.loc 5) .nil))) .nil)))) .nil)
    .nil) (.cons (.ret (.sub (.attr (.loc 0) "made") (.loc 6))) .nil)))))

noncomputable def s_Gates_pair : List Str := ["self", "kind", "first", "second", "low", "high", "key"]

noncomputable def b_Gates_are_opposite : S :=
  (.cons (.ret (.cmp .Eq (.meth (.attr (.loc 0) "opposite") "get" (.cons (.loc 1) (.cons (.neg (.cint 1)) .nil))) (.loc 2))) .nil)

noncomputable def s_Gates_are_opposite : List Str := ["self", "first", "second"]

noncomputable def b_Gates_inv : S :=
  (.cons (.cond (.or2 (.cmp .Eq (.loc 1) (.cint 0)) (.cmp .Eq (.loc 1) (.cint 1)))
    (.cons (.ret (.bin .Sub (.cint 1) (.loc 1))) .nil)
    .nil) (.cons (.cond (.cmp .NotIn (.loc 1) (.attr (.loc 0) "opposite"))
    (.cons (.asg 2 (.meth (.attr (.loc 0) "netlist") "add_cell" (.cons (.cstr "not") (.cons (.tup (.cons (.loc 1) .nil)) .nil)))) (.cons (.sub (.attr (.loc 0) "opposite") (.loc 1) (.loc 2)) (.cons (.sub (.attr (.loc 0) "opposite") (.loc 2) (.loc 1)) .nil)))
    .nil) (.cons (.ret (.sub (.attr (.loc 0) "opposite") (.loc 1))) .nil)))

noncomputable def s_Gates_inv : List Str := ["self", "a", "out"]

noncomputable def b_Gates_both : S :=
  (.cons (.cond (.or2 (.cmp .Eq (.loc 1) (.cint 0)) (.or2 (.cmp .Eq (.loc 2) (.cint 0)) (.meth (.loc 0) "are_opposite" (.cons (.loc 1) (.cons (.loc 2) .nil)))))
    (.cons (.ret (.cint 0)) .nil)
    .nil) (.cons (.cond (.or2 (.cmp .Eq (.loc 1) (.cint 1)) (.cmp .Eq (.loc 1) (.loc 2)))
    (.cons (.ret (.loc 2)) .nil)
    .nil) (.cons (.cond (.cmp .Eq (.loc 2) (.cint 1))
    (.cons (.ret (.loc 1)) .nil)
    .nil) (.cons (.ret (.meth (.loc 0) "pair" (.cons (.cstr "and") (.cons (.loc 1) (.cons (.loc 2) .nil))))) .nil))))

noncomputable def s_Gates_both : List Str := ["self", "a", "b"]

noncomputable def b_Gates_either : S :=
  (.cons (.cond (.or2 (.cmp .Eq (.loc 1) (.cint 1)) (.or2 (.cmp .Eq (.loc 2) (.cint 1)) (.meth (.loc 0) "are_opposite" (.cons (.loc 1) (.cons (.loc 2) .nil)))))
    (.cons (.ret (.cint 1)) .nil)
    .nil) (.cons (.cond (.or2 (.cmp .Eq (.loc 1) (.cint 0)) (.cmp .Eq (.loc 1) (.loc 2)))
    (.cons (.ret (.loc 2)) .nil)
    .nil) (.cons (.cond (.cmp .Eq (.loc 2) (.cint 0))
    (.cons (.ret (.loc 1)) .nil)
    .nil) (.cons (.ret (.meth (.loc 0) "pair" (.cons (.cstr "or") (.cons (.loc 1) (.cons (.loc 2) .nil))))) .nil))))

noncomputable def s_Gates_either : List Str := ["self", "a", "b"]

noncomputable def b_Gates_differ : S :=
  (.cons (.cond (.cmp .Eq (.loc 1) (.loc 2))
    (.cons (.ret (.cint 0)) .nil)
    .nil) (.cons (.cond (.meth (.loc 0) "are_opposite" (.cons (.loc 1) (.cons (.loc 2) .nil)))
    (.cons (.ret (.cint 1)) .nil)
    .nil) (.cons (.cond (.or2 (.cmp .Eq (.loc 1) (.cint 0)) (.cmp .Eq (.loc 1) (.cint 1)))
    (.cons (.ret (.ite (.cmp .Eq (.loc 1) (.cint 1)) (.meth (.loc 0) "inv" (.cons (.loc 2) .nil)) (.loc 2))) .nil)
    .nil) (.cons (.cond (.or2 (.cmp .Eq (.loc 2) (.cint 0)) (.cmp .Eq (.loc 2) (.cint 1)))
    (.cons (.ret (.ite (.cmp .Eq (.loc 2) (.cint 1)) (.meth (.loc 0) "inv" (.cons (.loc 1) .nil)) (.loc 1))) .nil)
    .nil) (.cons (.ret (.meth (.loc 0) "pair" (.cons (.cstr "xor") (.cons (.loc 1) (.cons (.loc 2) .nil))))) .nil)))))

noncomputable def s_Gates_differ : List Str := ["self", "a", "b"]

noncomputable def b_Gates_same : S :=
  (.cons (.ret (.meth (.loc 0) "inv" (.cons (.meth (.loc 0) "differ" (.cons (.loc 1) (.cons (.loc 2) .nil))) .nil))) .nil)

noncomputable def s_Gates_same : List Str := ["self", "a", "b"]

noncomputable def b_Gates_mux : S :=
  (.cons (.cond (.or2 (.cmp .Eq (.loc 1) (.cint 0)) (.cmp .Eq (.loc 2) (.loc 3)))
    (.cons (.ret (.loc 2)) .nil)
    .nil) (.cons (.cond (.cmp .Eq (.loc 1) (.cint 1))
    (.cons (.ret (.loc 3)) .nil)
    .nil) (.cons (.cond (.or2 (.cmp .Eq (.loc 2) (.cint 0)) (.cmp .Eq (.loc 2) (.loc 1)))
    (.cons (.ret (.meth (.loc 0) "both" (.cons (.loc 1) (.cons (.loc 3) .nil)))) .nil)
    .nil) (.cons (.cond (.or2 (.cmp .Eq (.loc 3) (.cint 1)) (.cmp .Eq (.loc 3) (.loc 1)))
    (.cons (.ret (.meth (.loc 0) "either" (.cons (.loc 1) (.cons (.loc 2) .nil)))) .nil)
    .nil) (.cons (.cond (.or2 (.cmp .Eq (.loc 2) (.cint 1)) (.meth (.loc 0) "are_opposite" (.cons (.loc 2) (.cons (.loc 1) .nil))))
    (.cons (.ret (.meth (.loc 0) "either" (.cons (.meth (.loc 0) "inv" (.cons (.loc 1) .nil)) (.cons (.loc 3) .nil)))) .nil)
    .nil) (.cons (.cond (.or2 (.cmp .Eq (.loc 3) (.cint 0)) (.meth (.loc 0) "are_opposite" (.cons (.loc 3) (.cons (.loc 1) .nil))))
    (.cons (.ret (.meth (.loc 0) "both" (.cons (.meth (.loc 0) "inv" (.cons (.loc 1) .nil)) (.cons (.loc 2) .nil)))) .nil)
    .nil) (.cons (.cond (.meth (.loc 0) "are_opposite" (.cons (.loc 2) (.cons (.loc 3) .nil)))
    (.cons (.ret (.meth (.loc 0) "differ" (.cons (.loc 1) (.cons (.loc 2) .nil)))) .nil)
    .nil) (.cons (.asg 4 (.tup (.cons (.cstr "mux") (.cons (.loc 1) (.cons (.loc 2) (.cons (.loc 3) .nil)))))) (.cons (.cond (.cmp .NotIn (.loc 4) (.attr (.loc 0) "made"))
    (.cons (.sub (.attr (.loc 0) "made") (.loc 4) (.meth (.attr (.loc 0) "netlist") "add_cell" (.cons (.cstr "mux") (.cons (.tup (.cons (.loc 1) (.cons (.loc 2) (.cons (.loc 3) .nil)))) .nil)))) .nil)
    .nil) (.cons (.ret (.sub (.attr (.loc 0) "made") (.loc 4))) .nil))))))))))

noncomputable def s_Gates_mux : List Str := ["self", "s", "a", "b", "key"]

noncomputable def b_word_not : S :=
  (.cons (.ret (.comp (.meth (.loc 0) "inv" (.cons (.loc 2) .nil)) ["bit"] (.loc 1) (.cbool true))) .nil)

noncomputable def s_word_not : List Str := ["g", "u"]

noncomputable def b_word_and : S :=
  (.cons (.ret (.comp (.meth (.loc 0) "both" (.cons (.sub (.loc 1) (.loc 3)) (.cons (.sub (.loc 2) (.loc 3)) .nil))) ["place"] (.bi .range (.cons (.bi .len (.cons (.loc 1) .nil)) .nil)) (.cbool true))) .nil)

noncomputable def s_word_and : List Str := ["g", "u", "v"]

noncomputable def b_word_or : S :=
  (.cons (.ret (.comp (.meth (.loc 0) "either" (.cons (.sub (.loc 1) (.loc 3)) (.cons (.sub (.loc 2) (.loc 3)) .nil))) ["place"] (.bi .range (.cons (.bi .len (.cons (.loc 1) .nil)) .nil)) (.cbool true))) .nil)

noncomputable def s_word_or : List Str := ["g", "u", "v"]

noncomputable def b_word_xor : S :=
  (.cons (.ret (.comp (.meth (.loc 0) "differ" (.cons (.sub (.loc 1) (.loc 3)) (.cons (.sub (.loc 2) (.loc 3)) .nil))) ["place"] (.bi .range (.cons (.bi .len (.cons (.loc 1) .nil)) .nil)) (.cbool true))) .nil)

noncomputable def s_word_xor : List Str := ["g", "u", "v"]

noncomputable def b_word_mux : S :=
  (.cons (.ret (.comp (.meth (.loc 0) "mux" (.cons (.loc 1) (.cons (.sub (.loc 2) (.loc 4)) (.cons (.sub (.loc 3) (.loc 4)) .nil)))) ["place"] (.bi .range (.cons (.bi .len (.cons (.loc 2) .nil)) .nil)) (.cbool true))) .nil)

noncomputable def s_word_mux : List Str := ["g", "s", "u", "v"]

noncomputable def b_all_of : S :=
  (.cons (.asg 2 (.bi .list (.cons (.loc 1) .nil))) (.cons (.loop (.cmp .Gt (.bi .len (.cons (.loc 2) .nil)) (.cint 1))
    (.cons (.asg 3 (.list .nil)) (.cons (.for_ [4] false (.bi .range (.cons (.cint 0) (.cons (.bin .Sub (.bi .len (.cons (.loc 2) .nil)) (.cint 1)) (.cons (.cint 2) .nil))))
    (.cons (.exp (.meth (.loc 3) "append" (.cons (.meth (.loc 0) "both" (.cons (.sub (.loc 2) (.loc 4)) (.cons (.sub (.loc 2) (.bin .Add (.loc 4) (.cint 1))) .nil))) .nil))) .nil)) (.cons (.cond (.cmp .Eq (.bin .Mod (.bi .len (.cons (.loc 2) .nil)) (.cint 2)) (.cint 1))
    (.cons (.exp (.meth (.loc 3) "append" (.cons (.sub (.loc 2) (.neg (.cint 1))) .nil))) .nil)
    .nil) (.cons (.asg 2 (.loc 3)) .nil))))) (.cons (.ret (.ite (.cmp .Eq (.bi .len (.cons (.loc 2) .nil)) (.cint 1)) (.sub (.loc 2) (.cint 0)) (.cint 1))) .nil)))

noncomputable def s_all_of : List Str := ["g", "u", "rows", "joined", "place"]

noncomputable def b_any_of : S :=
  (.cons (.ret (.meth (.loc 0) "inv" (.cons (.call 14 (.cons (.loc 0) (.cons (.call 9 (.cons (.loc 0) (.cons (.loc 1) .nil))) .nil))) .nil))) .nil)

noncomputable def s_any_of : List Str := ["g", "u"]

noncomputable def b_parity : S :=
  (.cons (.asg 2 (.cint 0)) (.cons (.for_ [3] false (.loc 1)
    (.cons (.asg 2 (.meth (.loc 0) "differ" (.cons (.loc 2) (.cons (.loc 3) .nil)))) .nil)) (.cons (.ret (.loc 2)) .nil)))

noncomputable def s_parity : List Str := ["g", "u", "total", "bit"]

noncomputable def b_equal_words : S :=
  (.cons (.ret (.call 14 (.cons (.loc 0) (.cons (.comp (.meth (.loc 0) "same" (.cons (.sub (.loc 1) (.loc 3)) (.cons (.sub (.loc 2) (.loc 3)) .nil))) ["place"] (.bi .range (.cons (.bi .len (.cons (.loc 1) .nil)) .nil)) (.cbool true)) .nil)))) .nil)

noncomputable def s_equal_words : List Str := ["g", "u", "v"]

noncomputable def b_less_words : S :=
  (.cons (.asg 4 (.bi .list (.cons (.loc 1) .nil))) (.cons (.asg 5 (.bi .list (.cons (.loc 2) .nil))) (.cons (.cond (.loc 3)
    (.cons (.asg 6 (.bin .Sub (.bi .len (.cons (.loc 1) .nil)) (.cint 1))) (.cons (.sub (.loc 4) (.loc 6) (.meth (.loc 0) "inv" (.cons (.sub (.loc 1) (.loc 6)) .nil))) (.cons (.sub (.loc 5) (.loc 6) (.meth (.loc 0) "inv" (.cons (.sub (.loc 2) (.loc 6)) .nil))) .nil)))
    .nil) (.cons (.asg 7 (.sub (.call 19 (.cons (.loc 0) (.cons (.loc 4) (.cons (.call 9 (.cons (.loc 0) (.cons (.loc 5) .nil))) (.cons (.cint 1) .nil))))) (.cint 1))) (.cons (.ret (.meth (.loc 0) "inv" (.cons (.loc 7) .nil))) .nil)))))

noncomputable def s_less_words : List Str := ["g", "u", "v", "signed", "first", "second", "top", "carry"]

noncomputable def b_add_words : S :=
  (.cons (.asg 4 (.list .nil)) (.cons (.for_ [5] false (.bi .range (.cons (.bi .len (.cons (.loc 1) .nil)) .nil))
    (.cons (.asg 6 (.meth (.loc 0) "differ" (.cons (.sub (.loc 1) (.loc 5)) (.cons (.sub (.loc 2) (.loc 5)) .nil)))) (.cons (.exp (.meth (.loc 4) "append" (.cons (.meth (.loc 0) "differ" (.cons (.loc 6) (.cons (.loc 3) .nil))) .nil))) (.cons (.asg 7 (.meth (.loc 0) "both" (.cons (.sub (.loc 1) (.loc 5)) (.cons (.sub (.loc 2) (.loc 5)) .nil)))) (.cons (.asg 3 (.meth (.loc 0) "either" (.cons (.loc 7) (.cons (.meth (.loc 0) "both" (.cons (.loc 6) (.cons (.loc 3) .nil))) .nil)))) .nil))))) (.cons (.ret (.tup (.cons (.loc 4) (.cons (.loc 3) .nil)))) .nil)))

noncomputable def s_add_words : List Str := ["g", "u", "v", "carry", "total", "place", "half", "made"]

noncomputable def b_sub_words : S :=
  (.cons (.ret (.sub (.call 19 (.cons (.loc 0) (.cons (.loc 1) (.cons (.call 9 (.cons (.loc 0) (.cons (.loc 2) .nil))) (.cons (.cint 1) .nil))))) (.cint 0))) .nil)

noncomputable def s_sub_words : List Str := ["g", "u", "v"]

noncomputable def b_neg_word : S :=
  (.cons (.ret (.sub (.call 19 (.cons (.loc 0) (.cons (.bin .Mult (.list (.cons (.cint 0) .nil)) (.bi .len (.cons (.loc 1) .nil))) (.cons (.call 9 (.cons (.loc 0) (.cons (.loc 1) .nil))) (.cons (.cint 1) .nil))))) (.cint 0))) .nil)

noncomputable def s_neg_word : List Str := ["g", "u"]

noncomputable def b_magnitude : S :=
  (.cons (.ret (.call 13 (.cons (.loc 0) (.cons (.sub (.loc 1) (.neg (.cint 1))) (.cons (.loc 1) (.cons (.call 21 (.cons (.loc 0) (.cons (.loc 1) .nil))) .nil)))))) .nil)

noncomputable def s_magnitude : List Str := ["g", "u"]

noncomputable def b_mul_words : S :=
  (.cons (.asg 3 (.bi .len (.cons (.loc 1) .nil))) (.cons (.asg 4 (.bin .Mult (.list (.cons (.cint 0) .nil)) (.loc 3))) (.cons (.for_ [5] false (.bi .range (.cons (.bi .min (.cons (.loc 3) (.cons (.bi .len (.cons (.loc 2) .nil)) .nil))) .nil))
    (.cons (.asg 6 (.bin .Mult (.list (.cons (.cint 0) .nil)) (.loc 5))) (.cons (.for_ [7] false (.slc (.loc 1) .cnone (.bin .Sub (.loc 3) (.loc 5)))
    (.cons (.exp (.meth (.loc 6) "append" (.cons (.meth (.loc 0) "both" (.cons (.loc 7) (.cons (.sub (.loc 2) (.loc 5)) .nil))) .nil))) .nil)) (.cons (.asg 4 (.sub (.call 19 (.cons (.loc 0) (.cons (.loc 4) (.cons (.loc 6) (.cons (.cint 0) .nil))))) (.cint 0))) .nil)))) (.cons (.ret (.loc 4)) .nil))))

noncomputable def s_mul_words : List Str := ["g", "u", "v", "width", "total", "place", "row", "bit"]

noncomputable def b_divide_words : S :=
  (.cons (.asg 3 (.bi .len (.cons (.loc 1) .nil))) (.cons (.asg 4 (.bin .Mult (.list (.cons (.cint 0) .nil)) (.loc 3))) (.cons (.asg 5 (.bin .Mult (.list (.cons (.cint 0) .nil)) (.loc 3))) (.cons (.asg 6 (.call 9 (.cons (.loc 0) (.cons (.bin .Add (.bi .list (.cons (.loc 2) .nil)) (.list (.cons (.cint 0) .nil))) .nil)))) (.cons (.for_ [7] false (.bi .range (.cons (.bin .Sub (.loc 3) (.cint 1)) (.cons (.neg (.cint 1)) (.cons (.neg (.cint 1)) .nil))))
    (.cons (.asg 8 (.bin .Add (.list (.cons (.sub (.loc 1) (.loc 7)) .nil)) (.loc 5))) (.cons (.unp [9, 10] (.call 19 (.cons (.loc 0) (.cons (.loc 8) (.cons (.loc 6) (.cons (.cint 1) .nil)))))) (.cons (.sub (.loc 4) (.loc 7) (.loc 10)) (.cons (.asg 5 (.slc (.call 13 (.cons (.loc 0) (.cons (.loc 10) (.cons (.loc 8) (.cons (.loc 9) .nil))))) .cnone (.loc 3))) .nil))))) (.cons (.ret (.tup (.cons (.loc 4) (.cons (.loc 5) .nil)))) .nil))))))

noncomputable def s_divide_words : List Str := ["g", "u", "v", "width", "quotient", "rest", "minus", "place", "wide", "less", "fits"]

noncomputable def b_signed_divide : S :=
  (.cons (.unp [3, 4] (.call 24 (.cons (.loc 0) (.cons (.call 22 (.cons (.loc 0) (.cons (.loc 1) .nil))) (.cons (.call 22 (.cons (.loc 0) (.cons (.loc 2) .nil))) .nil))))) (.cons (.asg 5 (.meth (.loc 0) "differ" (.cons (.sub (.loc 1) (.neg (.cint 1))) (.cons (.sub (.loc 2) (.neg (.cint 1))) .nil)))) (.cons (.asg 3 (.call 13 (.cons (.loc 0) (.cons (.loc 5) (.cons (.loc 3) (.cons (.call 21 (.cons (.loc 0) (.cons (.loc 3) .nil))) .nil)))))) (.cons (.asg 4 (.call 13 (.cons (.loc 0) (.cons (.sub (.loc 1) (.neg (.cint 1))) (.cons (.loc 4) (.cons (.call 21 (.cons (.loc 0) (.cons (.loc 4) .nil))) .nil)))))) (.cons (.ret (.tup (.cons (.loc 3) (.cons (.loc 4) .nil)))) .nil)))))

noncomputable def s_signed_divide : List Str := ["g", "u", "v", "quotient", "rest", "turned"]

noncomputable def b_moved_word : S :=
  (.cons (.asg 4 (.bi .len (.cons (.loc 0) .nil))) (.cons (.cond (.cmp .GtE (.loc 1) (.loc 4))
    (.cons (.ret (.bin .Mult (.list (.cons (.loc 3) .nil)) (.loc 4))) .nil)
    .nil) (.cons (.cond (.loc 2)
    (.cons (.ret (.bin .Add (.bi .list (.cons (.slc (.loc 0) (.loc 1) .cnone) .nil)) (.bin .Mult (.list (.cons (.loc 3) .nil)) (.loc 1)))) .nil)
    .nil) (.cons (.ret (.bin .Add (.bin .Mult (.list (.cons (.loc 3) .nil)) (.loc 1)) (.bi .list (.cons (.slc (.loc 0) .cnone (.bin .Sub (.loc 4) (.loc 1))) .nil)))) .nil))))

noncomputable def s_moved_word : List Str := ["u", "count", "right", "fill", "width"]

noncomputable def b_shift_words : S :=
  (.cons (.asg 5 (.bi .len (.cons (.loc 1) .nil))) (.cons (.asg 6 (.bi .list (.cons (.loc 1) .nil))) (.cons (.asg 7 (.cint 1)) (.cons (.for_ [8] false (.loc 2)
    (.cons (.asg 6 (.call 13 (.cons (.loc 0) (.cons (.loc 8) (.cons (.loc 6) (.cons (.call 26 (.cons (.loc 6) (.cons (.loc 7) (.cons (.loc 3) (.cons (.loc 4) .nil))))) .nil)))))) (.cons (.cond (.cmp .Lt (.loc 7) (.loc 5))
    (.cons (.asg 7 (.bin .Mult (.loc 7) (.cint 2))) .nil)
    .nil) .nil))) (.cons (.ret (.loc 6)) .nil)))))

noncomputable def s_shift_words : List Str := ["g", "u", "amount", "right", "fill", "width", "word", "count", "bit"]

noncomputable def b_decode : S :=
  (.cons (.asg 3 (.list (.cons (.cint 1) .nil))) (.cons (.for_ [4] false (.loc 1)
    (.cons (.asg 5 (.comp (.meth (.loc 0) "both" (.cons (.loc 7) (.cons (.meth (.loc 0) "inv" (.cons (.loc 4) .nil)) .nil))) ["row"] (.loc 3) (.cbool true))) (.cons (.asg 6 (.comp (.meth (.loc 0) "both" (.cons (.loc 7) (.cons (.loc 4) .nil))) ["row"] (.loc 3) (.cbool true))) (.cons (.cond (.cmp .Lt (.bi .len (.cons (.loc 5) .nil)) (.loc 2))
    (.cons (.asg 3 (.slc (.bin .Add (.loc 5) (.loc 6)) .cnone (.loc 2))) .nil)
    (.cons (.asg 3 (.loc 5)) .nil)) .nil)))) (.cons (.loop (.cmp .Lt (.bi .len (.cons (.loc 3) .nil)) (.loc 2))
    (.cons (.exp (.meth (.loc 3) "append" (.cons (.cint 0) .nil))) .nil)) (.cons (.ret (.slc (.loc 3) .cnone (.loc 2))) .nil))))

noncomputable def s_decode : List Str := ["g", "nets", "count", "rows", "bit", "low", "high"]

noncomputable def b_Netlistdd_initdd : S :=
  (.cons (.att (.loc 0) "name" (.loc 1)) (.cons (.att (.loc 0) "count" (.cint 2)) (.cons (.att (.loc 0) "inputs" (.list .nil)) (.cons (.att (.loc 0) "outputs" (.list .nil)) (.cons (.att (.loc 0) "cells" (.list .nil)) .nil)))))

noncomputable def s_Netlistdd_initdd : List Str := ["self", "name"]

noncomputable def b_Netlist_new_net : S :=
  (.cons (.asg 1 (.attr (.loc 0) "count")) (.cons (.aug (.loc 0) "count" (.cint 1)) (.cons (.ret (.loc 1)) .nil)))

noncomputable def s_Netlist_new_net : List Str := ["self", "net"]

noncomputable def b_Netlist_new_nets : S :=
  (.cons (.ret (.comp (.meth (.loc 0) "new_net" .nil) ["bit"] (.bi .range (.cons (.loc 1) .nil)) (.cbool true))) .nil)

noncomputable def s_Netlist_new_nets : List Str := ["self", "width"]

noncomputable def b_Netlist_add_input : S :=
  (.cons (.asg 3 (.meth (.loc 0) "new_nets" (.cons (.loc 2) .nil))) (.cons (.exp (.meth (.attr (.loc 0) "inputs") "append" (.cons (.tup (.cons (.loc 1) (.cons (.bi .list (.cons (.loc 3) .nil)) .nil))) .nil))) (.cons (.ret (.loc 3)) .nil)))

noncomputable def s_Netlist_add_input : List Str := ["self", "name", "width", "nets"]

noncomputable def b_Netlist_add_cell : S :=
  (.cons (.asg 4 (.meth (.loc 0) "new_net" .nil)) (.cons (.exp (.meth (.loc 0) "drive" (.cons (.loc 4) (.cons (.loc 1) (.cons (.loc 2) (.cons (.loc 3) .nil)))))) (.cons (.ret (.loc 4)) .nil)))

noncomputable def s_Netlist_add_cell : List Str := ["self", "kind", "ins", "param", "out"]

noncomputable def b_Netlist_drive : S :=
  (.cons (.exp (.meth (.attr (.loc 0) "cells") "append" (.cons (.tup (.cons (.loc 2) (.cons (.loc 1) (.cons (.bi .tuple (.cons (.loc 3) .nil)) (.cons (.loc 4) .nil))))) .nil))) .nil)

noncomputable def s_Netlist_drive : List Str := ["self", "out", "kind", "ins", "param"]

noncomputable def b__law_pick : S :=
  (.cons (.cond (.cmp .Eq (.sub (.loc 0) (.cint 2)) (.cint 0))
    (.cons (.cond (.cmp .Eq (.sub (.loc 0) (.cint 1)) (.bi .len (.cons (.sub (.loc 0) (.cint 0)) .nil)))
    (.cons (.sub (.loc 0) (.cint 3) (.bin .Mod (.bin .Mult (.sub (.loc 0) (.cint 3)) (.cint 48271)) (.cint 2147483647))) (.cons (.ret (.bin .Mod (.bin .FloorDiv (.sub (.loc 0) (.cint 3)) (.cint 7)) (.loc 1))) .nil))
    .nil) (.cons (.asg 2 (.sub (.sub (.loc 0) (.cint 0)) (.sub (.loc 0) (.cint 1)))) (.cons (.sub (.loc 0) (.cint 1) (.bin .Add (.sub (.loc 0) (.cint 1)) (.cint 1))) (.cons (.sub (.loc 0) (.cint 2) (.ite (.cmp .GtE (.loc 2) (.cint 0)) (.loc 2) (.neg (.loc 2)))) .nil))))
    .nil) (.cons (.asg 3 (.bin .Mod (.sub (.loc 0) (.cint 2)) (.loc 1))) (.cons (.sub (.loc 0) (.cint 2) (.bin .FloorDiv (.sub (.loc 0) (.cint 2)) (.loc 1))) (.cons (.ret (.loc 3)) .nil))))

noncomputable def s__law_pick : List Str := ["hand", "limit", "number", "digit"]

noncomputable def b__law_table : S :=
  (.cons (.cond (.cmp .Eq (.loc 0) (.cstr "lut"))
    (.cons (.ret (.loc 1)) .nil)
    .nil) (.cons (.cond (.cmp .Eq (.loc 0) (.cstr "cell"))
    (.cons (.ret (.sub (.loc 1) (.cint 1))) .nil)
    .nil) (.cons (.ret (.sub (.dict .s (.cons (.cstr "buf") (.cons (.cint 2) (.cons (.cstr "not") (.cons (.cint 1) (.cons (.cstr "and") (.cons (.cint 8) (.cons (.cstr "or") (.cons (.cint 14) (.cons (.cstr "xor") (.cons (.cint 6) (.cons (.cstr "nand") (.cons (.cint 7) (.cons (.cstr "nor") (.cons (.cint 1) (.cons (.cstr "xnor") (.cons (.cint 9) (.cons (.cstr "mux") (.cons (.cint 228) .nil))))))))))))))))))) (.loc 0))) .nil)))

noncomputable def s__law_table : List Str := ["kind", "param"]

noncomputable def b__law_word : S :=
  (.cons (.asg 3 (.cint 0)) (.cons (.for_ [4] false (.bi .range (.cons (.bin .Pow (.cint 2) (.bi .len (.cons (.loc 1) .nil))) .nil))
    (.cons (.cond (.cmp .Eq (.bin .Mod (.bin .FloorDiv (.loc 0) (.bin .Pow (.cint 2) (.loc 4))) (.cint 2)) (.cint 1))
    (.cons (.asg 5 (.loc 2)) (.cons (.for_ [6] false (.bi .range (.cons (.bi .len (.cons (.loc 1) .nil)) .nil))
    (.cons (.asg 5 (.bin .BitAnd (.loc 5) (.ite (.cmp .Eq (.bin .Mod (.bin .FloorDiv (.loc 4) (.bin .Pow (.cint 2) (.loc 6))) (.cint 2)) (.cint 1)) (.sub (.loc 1) (.loc 6)) (.bin .Sub (.loc 2) (.sub (.loc 1) (.loc 6)))))) .nil)) (.cons (.asg 3 (.bin .BitOr (.loc 3) (.loc 5))) .nil)))
    .nil) .nil)) (.cons (.ret (.loc 3)) .nil)))

noncomputable def s__law_word : List Str := ["table", "words", "full", "total", "row", "part", "turn"]

noncomputable def b__law_words : S :=
  (.cons (.asg 1 (.comp2 (.loc 11) ["name", "nets"] (.attr (.loc 0) "inputs") ["one"] (.loc 10))) (.cons (.asg 2 (.bin .Sub (.bin .Pow (.cint 2) (.bin .Pow (.cint 2) (.bi .len (.cons (.loc 1) .nil)))) (.cint 1))) (.cons (.asg 3 (.dict .i (.cons (.cint 0) (.cons (.cint 0) (.cons (.cint 1) (.cons (.loc 2) .nil)))))) (.cons (.for_ [4] false (.bi .range (.cons (.bi .len (.cons (.loc 1) .nil)) .nil))
    (.cons (.sub (.loc 3) (.sub (.loc 1) (.loc 4)) (.bi .sum (.cons (.comp (.bin .Pow (.cint 2) (.loc 9)) ["row"] (.bi .range (.cons (.bin .Pow (.cint 2) (.bi .len (.cons (.loc 1) .nil))) .nil)) (.cmp .Eq (.bin .Mod (.bin .FloorDiv (.loc 9) (.bin .Pow (.cint 2) (.loc 4))) (.cint 2)) (.cint 1))) .nil))) .nil)) (.cons (.for_ [5, 6, 7, 8] true (.attr (.loc 0) "cells")
    (.cons (.sub (.loc 3) (.loc 6) (.call 37 (.cons (.call 36 (.cons (.loc 5) (.cons (.loc 8) .nil))) (.cons (.comp (.sub (.loc 3) (.loc 9)) ["one"] (.loc 7) (.cbool true)) (.cons (.loc 2) .nil))))) .nil)) (.cons (.ret (.tup (.cons (.loc 3) (.cons (.bin .Pow (.cint 2) (.bi .len (.cons (.loc 1) .nil))) .nil)))) .nil))))))

noncomputable def s__law_words : List Str := ["net", "keys", "full", "words", "turn", "kind", "out", "ins", "param"]

noncomputable def b__law_number : S :=
  (.cons (.ret (.bi .sum (.cons (.comp (.bin .Mult (.bin .Mod (.bin .FloorDiv (.sub (.loc 0) (.sub (.loc 1) (.loc 3))) (.bin .Pow (.cint 2) (.loc 2))) (.cint 2)) (.bin .Pow (.cint 2) (.loc 3))) ["step"] (.bi .range (.cons (.bi .len (.cons (.loc 1) .nil)) .nil)) (.cbool true)) .nil))) .nil)

noncomputable def s__law_number : List Str := ["words", "nets", "row"]

noncomputable def b__law_bits : S :=
  (.cons (.asg 3 (.list .nil)) (.cons (.for_ [4] false (.loc 2)
    (.cons (.asg 5 (.call 35 (.cons (.loc 0) (.cons (.cint 8) .nil)))) (.cons (.cond (.cmp .Eq (.loc 5) (.cint 5))
    (.cons (.asg 4 (.sub (.loc 2) (.call 35 (.cons (.loc 0) (.cons (.bi .len (.cons (.loc 2) .nil)) .nil))))) .nil)
    .nil) (.cons (.cond (.cmp .Eq (.loc 5) (.cint 6))
    (.cons (.asg 4 (.meth (.loc 1) "inv" (.cons (.loc 4) .nil))) .nil)
    .nil) (.cons (.exp (.meth (.loc 3) "append" (.cons (.ite (.cmp .Eq (.loc 5) (.cint 7)) (.call 35 (.cons (.loc 0) (.cons (.cint 2) .nil))) (.loc 4)) .nil))) .nil))))) (.cons (.ret (.loc 3)) .nil)))

noncomputable def s__law_bits : List Str := ["hand", "g", "nets", "found", "net", "kind"]

noncomputable def b__law_signed : S :=
  (.cons (.ret (.ite (.cmp .GtE (.loc 0) (.bin .Pow (.cint 2) (.bin .Sub (.loc 1) (.cint 1)))) (.bin .Sub (.loc 0) (.bin .Pow (.cint 2) (.loc 1))) (.loc 0))) .nil)

noncomputable def s__law_signed : List Str := ["value", "wide"]

noncomputable def b__law_divided : S :=
  (.cons (.cond (.cmp .Eq (.loc 1) (.cint 0))
    (.cons (.ret (.tup (.cons (.bin .Sub (.bin .Pow (.cint 2) (.loc 2)) (.cint 1)) (.cons (.loc 0) .nil)))) .nil)
    .nil) (.cons (.ret (.tup (.cons (.bin .FloorDiv (.loc 0) (.loc 1)) (.cons (.bin .Mod (.loc 0) (.loc 1)) .nil)))) .nil))

noncomputable def s__law_divided : List Str := ["u", "v", "wide"]

noncomputable def b__law_signed_divided : S :=
  (.cons (.asg 0 (.call 41 (.cons (.loc 0) (.cons (.loc 2) .nil)))) (.cons (.asg 1 (.call 41 (.cons (.loc 1) (.cons (.loc 2) .nil)))) (.cons (.cond (.cmp .Eq (.loc 1) (.cint 0))
    (.cons (.ret (.tup (.cons (.ite (.cmp .Lt (.loc 0) (.cint 0)) (.cint 1) (.neg (.cint 1))) (.cons (.loc 0) .nil)))) .nil)
    .nil) (.cons (.asg 3 (.bin .FloorDiv (.ite (.cmp .GtE (.loc 0) (.cint 0)) (.loc 0) (.neg (.loc 0))) (.ite (.cmp .GtE (.loc 1) (.cint 0)) (.loc 1) (.neg (.loc 1))))) (.cons (.asg 4 (.ite (.cmp .Eq (.cmp .Lt (.loc 0) (.cint 0)) (.cmp .Lt (.loc 1) (.cint 0))) (.loc 3) (.neg (.loc 3)))) (.cons (.ret (.tup (.cons (.loc 4) (.cons (.bin .Sub (.loc 0) (.bin .Mult (.loc 4) (.loc 1))) .nil)))) .nil))))))

noncomputable def s__law_signed_divided : List Str := ["u", "v", "wide", "size", "times_in"]

noncomputable def b__law_due : S :=
  (.cons (.asg 7 (.bin .Pow (.cint 2) (.loc 4))) (.cons (.cond (.cmp .Eq (.loc 0) (.cint 0))
    (.cons (.ret (.list (.cons (.bin .Mod (.bin .Add (.bin .Add (.loc 1) (.loc 2)) (.loc 3)) (.loc 7)) (.cons (.bin .FloorDiv (.bin .Add (.bin .Add (.loc 1) (.loc 2)) (.loc 3)) (.loc 7)) .nil)))) .nil)
    .nil) (.cons (.cond (.cmp .Eq (.loc 0) (.cint 1))
    (.cons (.ret (.list (.cons (.bin .Mod (.bin .Sub (.loc 1) (.loc 2)) (.loc 7)) (.cons (.bin .Mod (.neg (.loc 1)) (.loc 7)) .nil)))) .nil)
    .nil) (.cons (.cond (.cmp .Eq (.loc 0) (.cint 2))
    (.cons (.ret (.list (.cons (.bin .Mod (.bin .Mult (.loc 1) (.loc 2)) (.loc 7)) .nil))) .nil)
    .nil) (.cons (.cond (.cmp .Eq (.loc 0) (.cint 3))
    (.cons (.ret (.bi .list (.cons (.call 42 (.cons (.loc 1) (.cons (.loc 2) (.cons (.loc 4) .nil)))) .nil))) .nil)
    .nil) (.cons (.cond (.cmp .Eq (.loc 0) (.cint 4))
    (.cons (.ret (.comp (.bin .Mod (.loc 10) (.loc 7)) ["part"] (.call 43 (.cons (.loc 1) (.cons (.loc 2) (.cons (.loc 4) .nil)))) (.cbool true))) .nil)
    .nil) (.cons (.cond (.cmp .Eq (.loc 0) (.cint 5))
    (.cons (.asg 8 (.sub (.list (.cons (.cint 0) (.cons (.cint 1) (.cons (.loc 3) (.cons (.bin .FloorDiv (.loc 1) (.bin .Pow (.cint 2) (.bin .Sub (.loc 4) (.cint 1)))) .nil))))) (.loc 6))) (.cons (.cond (.loc 5)
    (.cons (.ret (.list (.cons (.bin .Mod (.bin .FloorDiv (.bin .Add (.loc 1) (.bin .Mult (.loc 8) (.bin .Sub (.bin .Pow (.cint 2) (.bin .Add (.loc 4) (.loc 2))) (.loc 7)))) (.bin .Pow (.cint 2) (.loc 2))) (.loc 7)) .nil))) .nil)
    .nil) (.cons (.ret (.list (.cons (.bin .Mod (.bin .Add (.bin .Mult (.loc 1) (.bin .Pow (.cint 2) (.loc 2))) (.bin .Mult (.loc 8) (.bin .Sub (.bin .Pow (.cint 2) (.loc 2)) (.cint 1)))) (.loc 7)) .nil))) .nil)))
    .nil) (.cons (.cond (.cmp .Eq (.loc 0) (.cint 6))
    (.cons (.ret (.list (.cons (.bi .int (.cons (.cmp .Eq (.loc 1) (.loc 2)) .nil)) (.cons (.bi .int (.cons (.cmp .Lt (.loc 1) (.loc 2)) .nil)) (.cons (.bi .int (.cons (.cmp .Lt (.call 41 (.cons (.loc 1) (.cons (.loc 4) .nil))) (.call 41 (.cons (.loc 2) (.cons (.loc 4) .nil)))) .nil)) .nil))))) .nil)
    .nil) (.cons (.cond (.cmp .Eq (.loc 0) (.cint 7))
    (.cons (.ret (.list (.cons (.bin .Sub (.bin .Sub (.loc 7) (.cint 1)) (.loc 1)) (.cons (.bin .BitAnd (.loc 1) (.loc 2)) (.cons (.bin .BitOr (.loc 1) (.loc 2)) (.cons (.bin .BitXor (.loc 1) (.loc 2)) (.cons (.ite (.cmp .Eq (.loc 3) (.cint 1)) (.loc 2) (.loc 1)) .nil))))))) .nil)
    .nil) (.cons (.asg 9 (.bi .sum (.cons (.comp (.bin .Mod (.bin .FloorDiv (.loc 1) (.bin .Pow (.cint 2) (.loc 10))) (.cint 2)) ["step"] (.bi .range (.cons (.loc 4) .nil)) (.cbool true)) .nil))) (.cons (.ret (.list (.cons (.bi .int (.cons (.cmp .Eq (.loc 9) (.loc 4)) .nil)) (.cons (.bi .int (.cons (.cmp .Gt (.loc 9) (.cint 0)) .nil)) (.cons (.bin .Mod (.loc 9) (.cint 2)) (.cons (.bin .Mod (.bin .Pow (.cint 2) (.loc 1)) (.bin .Pow (.cint 2) (.loc 5))) .nil)))))) .nil)))))))))))

noncomputable def s__law_due : List Str := ["which", "u", "v", "c", "wide", "right", "top", "total", "fill", "set_bits_in"]

noncomputable def b_law : S :=
  (.cons (.asg 1 (.slc (.loc 0) .cnone (.cint 63))) (.cons (.asg 2 (.list (.cons (.loc 1) (.cons (.cint 0) (.cons (.cint 0) (.cons (.bin .Mult (.bin .Mod (.bi .sum (.cons (.loc 1) .nil)) (.cint 100003)) (.cint 7)) .nil)))))) (.cons (.asg 3 (.bin .Add (.cint 1) (.call 35 (.cons (.loc 2) (.cons (.cint 3) .nil))))) (.cons (.asg 4 (.call 35 (.cons (.loc 2) (.cons (.cint 9) .nil)))) (.cons (.asg 5 (.new 1 (.cons (.cstr "m") .nil))) (.cons (.asg 6 (.new 0 (.cons (.loc 5) .nil))) (.cons (.asg 7 (.call 40 (.cons (.loc 2) (.cons (.loc 6) (.cons (.meth (.loc 5) "add_input" (.cons (.cstr "u") (.cons (.loc 3) .nil))) .nil))))) (.cons (.asg 8 (.call 40 (.cons (.loc 2) (.cons (.loc 6) (.cons (.meth (.loc 5) "add_input" (.cons (.cstr "v") (.cons (.loc 3) .nil))) .nil))))) (.cons (.asg 9 (.sub (.list (.cons (.cint 0) (.cons (.cint 1) (.cons (.sub (.loc 7) (.cint 0)) (.cons (.meth (.loc 6) "inv" (.cons (.sub (.loc 8) (.cint 0)) .nil)) .nil))))) (.call 35 (.cons (.loc 2) (.cons (.cint 4) .nil))))) (.cons (.asg 10 (.call 35 (.cons (.loc 2) (.cons (.cint 2) .nil)))) (.cons (.asg 11 (.call 35 (.cons (.loc 2) (.cons (.cint 4) .nil)))) (.cons (.cond (.cmp .Eq (.loc 4) (.cint 0))
    (.cons (.unp [12, 13] (.call 19 (.cons (.loc 6) (.cons (.loc 7) (.cons (.loc 8) (.cons (.loc 9) .nil)))))) (.cons (.asg 14 (.list (.cons (.loc 12) (.cons (.list (.cons (.loc 13) .nil)) .nil)))) .nil))
    (.cons (.cond (.cmp .Eq (.loc 4) (.cint 1))
    (.cons (.asg 14 (.list (.cons (.call 20 (.cons (.loc 6) (.cons (.loc 7) (.cons (.loc 8) .nil)))) (.cons (.call 21 (.cons (.loc 6) (.cons (.loc 7) .nil))) .nil)))) .nil)
    (.cons (.cond (.cmp .Eq (.loc 4) (.cint 2))
    (.cons (.asg 14 (.list (.cons (.call 23 (.cons (.loc 6) (.cons (.loc 7) (.cons (.loc 8) .nil)))) .nil))) .nil)
    (.cons (.cond (.cmp .Eq (.loc 4) (.cint 3))
    (.cons (.asg 14 (.bi .list (.cons (.call 24 (.cons (.loc 6) (.cons (.loc 7) (.cons (.loc 8) .nil)))) .nil))) .nil)
    (.cons (.cond (.cmp .Eq (.loc 4) (.cint 4))
    (.cons (.asg 14 (.bi .list (.cons (.call 25 (.cons (.loc 6) (.cons (.loc 7) (.cons (.loc 8) .nil)))) .nil))) .nil)
    (.cons (.cond (.cmp .Eq (.loc 4) (.cint 5))
    (.cons (.asg 14 (.list (.cons (.call 27 (.cons (.loc 6) (.cons (.loc 7) (.cons (.loc 8) (.cons (.cmp .Eq (.loc 10) (.cint 1)) (.cons (.sub (.list (.cons (.cint 0) (.cons (.cint 1) (.cons (.loc 9) (.cons (.sub (.loc 7) (.neg (.cint 1))) .nil))))) (.loc 11)) .nil)))))) .nil))) .nil)
    (.cons (.cond (.cmp .Eq (.loc 4) (.cint 6))
    (.cons (.asg 14 (.list (.cons (.list (.cons (.call 17 (.cons (.loc 6) (.cons (.loc 7) (.cons (.loc 8) .nil)))) .nil)) (.cons (.list (.cons (.call 18 (.cons (.loc 6) (.cons (.loc 7) (.cons (.loc 8) (.cons (.cbool false) .nil))))) .nil)) (.cons (.list (.cons (.call 18 (.cons (.loc 6) (.cons (.loc 7) (.cons (.loc 8) (.cons (.cbool true) .nil))))) .nil)) .nil))))) .nil)
    (.cons (.cond (.cmp .Eq (.loc 4) (.cint 7))
    (.cons (.asg 14 (.list (.cons (.call 9 (.cons (.loc 6) (.cons (.loc 7) .nil))) (.cons (.call 10 (.cons (.loc 6) (.cons (.loc 7) (.cons (.loc 8) .nil)))) (.cons (.call 11 (.cons (.loc 6) (.cons (.loc 7) (.cons (.loc 8) .nil)))) (.cons (.call 12 (.cons (.loc 6) (.cons (.loc 7) (.cons (.loc 8) .nil)))) (.cons (.call 13 (.cons (.loc 6) (.cons (.loc 9) (.cons (.loc 7) (.cons (.loc 8) .nil))))) .nil))))))) .nil)
    (.cons (.asg 10 (.bin .Add (.cint 1) (.call 35 (.cons (.loc 2) (.cons (.cint 9) .nil))))) (.cons (.asg 14 (.list (.cons (.list (.cons (.call 14 (.cons (.loc 6) (.cons (.loc 7) .nil))) .nil)) (.cons (.list (.cons (.call 15 (.cons (.loc 6) (.cons (.loc 7) .nil))) .nil)) (.cons (.list (.cons (.call 16 (.cons (.loc 6) (.cons (.loc 7) .nil))) .nil)) (.cons (.call 28 (.cons (.loc 6) (.cons (.loc 7) (.cons (.loc 10) .nil)))) .nil)))))) (.cons (.cond (.cmp .NotEq (.bi .len (.cons (.sub (.loc 14) (.cint 3)) .nil)) (.loc 10))
    (.cons (.ret (.cbool false)) .nil)
    .nil) .nil)))) .nil)) .nil)) .nil)) .nil)) .nil)) .nil)) .nil)) (.cons (.unp [15, 16] (.call 38 (.cons (.loc 5) .nil))) (.cons (.for_ [17] false (.bi .range (.cons (.loc 16) .nil))
    (.cons (.asg 18 (.call 44 (.cons (.loc 4) (.cons (.call 39 (.cons (.loc 15) (.cons (.loc 7) (.cons (.loc 17) .nil)))) (.cons (.call 39 (.cons (.loc 15) (.cons (.loc 8) (.cons (.loc 17) .nil)))) (.cons (.bin .Mod (.bin .FloorDiv (.sub (.loc 15) (.loc 9)) (.bin .Pow (.cint 2) (.loc 17))) (.cint 2)) (.cons (.loc 3) (.cons (.loc 10) (.cons (.loc 11) .nil))))))))) (.cons (.cond (.cmp .NotEq (.comp (.call 39 (.cons (.loc 15) (.cons (.loc 20) (.cons (.loc 17) .nil)))) ["nets"] (.loc 14) (.cbool true)) (.loc 18))
    (.cons (.ret (.cbool false)) .nil)
    .nil) .nil))) (.cons (.asg 19 (.comp (.tup (.cons (.sub (.loc 20) (.cint 0)) (.cons (.ite (.cmp .Eq (.sub (.loc 20) (.cint 0)) (.cstr "mux")) (.sub (.loc 20) (.cint 2)) (.bi .tuple (.cons (.bi .sorted (.cons (.sub (.loc 20) (.cint 2)) .nil)) .nil))) .nil))) ["cell"] (.attr (.loc 5) "cells") (.cbool true))) (.cons (.ret (.cmp .Eq (.comp (.loc 20) ["one"] (.loc 19) (.cmp .Gt (.meth (.loc 19) "count" (.cons (.loc 20) .nil)) (.cint 1))) (.list .nil))) .nil))))))))))))))))

noncomputable def s_law : List Str := ["script", "cells", "hand", "wide", "which", "net", "g", "u", "v", "c", "right", "top", "total", "carry", "told", "words", "rows", "row", "due", "seen"]

noncomputable def fnTab : Nat → Option (Nat × List V × S × Nat)
  | 0 => some (2, [], b_Gatesdd_initdd, 2)
  | 1 => some (7, [], b_Gates_pair, 4)
  | 2 => some (3, [], b_Gates_are_opposite, 3)
  | 3 => some (3, [], b_Gates_inv, 2)
  | 4 => some (3, [], b_Gates_both, 3)
  | 5 => some (3, [], b_Gates_either, 3)
  | 6 => some (3, [], b_Gates_differ, 3)
  | 7 => some (3, [], b_Gates_same, 3)
  | 8 => some (5, [], b_Gates_mux, 4)
  | 9 => some (2, [], b_word_not, 2)
  | 10 => some (3, [], b_word_and, 3)
  | 11 => some (3, [], b_word_or, 3)
  | 12 => some (3, [], b_word_xor, 3)
  | 13 => some (4, [], b_word_mux, 4)
  | 14 => some (5, [], b_all_of, 2)
  | 15 => some (2, [], b_any_of, 2)
  | 16 => some (4, [], b_parity, 2)
  | 17 => some (3, [], b_equal_words, 3)
  | 18 => some (8, [], b_less_words, 4)
  | 19 => some (8, [], b_add_words, 4)
  | 20 => some (3, [], b_sub_words, 3)
  | 21 => some (2, [], b_neg_word, 2)
  | 22 => some (2, [], b_magnitude, 2)
  | 23 => some (8, [], b_mul_words, 3)
  | 24 => some (11, [], b_divide_words, 3)
  | 25 => some (6, [], b_signed_divide, 3)
  | 26 => some (5, [], b_moved_word, 4)
  | 27 => some (9, [], b_shift_words, 5)
  | 28 => some (7, [], b_decode, 3)
  | 29 => some (2, [], b_Netlistdd_initdd, 2)
  | 30 => some (2, [], b_Netlist_new_net, 1)
  | 31 => some (2, [], b_Netlist_new_nets, 2)
  | 32 => some (4, [], b_Netlist_add_input, 3)
  | 33 => some (5, [.none], b_Netlist_add_cell, 4)
  | 34 => some (5, [.none], b_Netlist_drive, 5)
  | 35 => some (4, [], b__law_pick, 2)
  | 36 => some (2, [], b__law_table, 2)
  | 37 => some (7, [], b__law_word, 3)
  | 38 => some (9, [], b__law_words, 1)
  | 39 => some (3, [], b__law_number, 3)
  | 40 => some (6, [], b__law_bits, 3)
  | 41 => some (2, [], b__law_signed, 2)
  | 42 => some (3, [], b__law_divided, 3)
  | 43 => some (5, [], b__law_signed_divided, 3)
  | 44 => some (10, [], b__law_due, 7)
  | 45 => some (20, [], b_law, 1)
  | _ => Option.none

noncomputable def methTab (c : Nat) (m : Str) : Option Nat := match c with
  | 0 => ([("pair", 1), ("are_opposite", 2), ("inv", 3), ("both", 4), ("either", 5), ("differ", 6), ("same", 7), ("mux", 8)] : List (Str × Nat)).lookup m
  | 1 => ([("new_net", 30), ("new_nets", 31), ("add_input", 32), ("add_cell", 33), ("drive", 34)] : List (Str × Nat)).lookup m
  | _ => Option.none

noncomputable def initTab : Nat → Option Nat
  | 0 => some 0
  | 1 => some 29
  | _ => Option.none

noncomputable def prg : Prg := ⟨fnTab, methTab, initTab⟩
end
end Mine

namespace Mine
section
open PySem
set_option autoImplicit false

inductive Kd where
  | not | and | or | xor | mux
deriving DecidableEq
noncomputable def Kd.str : Kd → Str
  | .not => "not" | .and => "and" | .or => "or" | .xor => "xor" | .mux => "mux"
structure Cell where
  kd : Kd
  out : Int
  ins : List Int
noncomputable def Cell.v (c : Cell) : V := .tup [.str c.kd.str, .int c.out, .tup (c.ins.map .int), .none]
noncomputable def Cell.key (c : Cell) : List Atom := .s c.kd.str :: c.ins.map .i
noncomputable def xorB (a b : Bool) : Bool := if a = true then !b else b
noncomputable def gate : Kd → List Bool → Bool
  | .not, [a] => !a
  | .and, [a, b] => a && b
  | .or, [a, b] => a || b
  | .xor, [a, b] => xorB a b
  | .mux, [s, a, b] => if s = true then b else a
  | _, _ => false

/-- the law's own state -/
structure NS where
  script : List V
  hi : Int
  hr : Int
  hs : Int
  inputs : List V
  keys : List Int
  count : Int
  cells : List Cell
  made : List (List Atom × Int)
  opp : List (Int × Int)

noncomputable def B (st : NS) (tl : List O) : St :=
  .list st.script :: .list [.ref 0, .int st.hi, .int st.hr, .int st.hs] :: .inst 1 3 :: .ns [("name", .str "m"), ("count", .int st.count), ("inputs", .ref 4), ("outputs", .ref 5), ("cells", .ref 6)] ::
  .list st.inputs :: .list [] :: .list (st.cells.map Cell.v) :: .inst 0 8 :: .ns [("netlist", .ref 2), ("made", .ref 9), ("opposite", .ref 10)] ::
  .tdict (st.made.map fun e => (e.1, .int e.2)) :: .idict (st.opp.map fun e => (e.1, .int e.2)) :: tl

/-! values of nets -/
noncomputable def base (inp : Int → Bool) : Int → Bool := fun n => if n = 0 then false else if n = 1 then true else inp n
noncomputable def step1 (e : Int → Bool) (c : Cell) : Int → Bool := fun n => if n = c.out then gate c.kd (c.ins.map e) else e n
noncomputable def nval (cs : List Cell) (inp : Int → Bool) : Int → Bool := cs.foldl step1 (base inp)

theorem nval_snoc (cs : List Cell) (c : Cell) (inp : Int → Bool) : nval (cs ++ [c]) inp = step1 (nval cs inp) c := by
  unfold nval; rw [List.foldl_append]; rfl
theorem nval_app (inp : Int → Bool) (n : Int) (cs : List Cell) : ∀ ds : List Cell, (∀ d ∈ ds, d.out ≠ n) → nval (cs ++ ds) inp n = nval cs inp n := by
  intro ds
  induction ds generalizing cs with
  | nil => intro _; rw [List.append_nil]
  | cons d ds ih =>
    intro h
    rw [show cs ++ d :: ds = (cs ++ [d]) ++ ds by simp, ih (cs ++ [d]) fun x hx => h x (List.mem_cons_of_mem _ hx), nval_snoc]
    exact if_neg fun e => h d List.mem_cons_self e.symm
theorem nval_out (inp : Int → Bool) (cs : List Cell) (c : Cell) (ds : List Cell) (h1 : ∀ d ∈ ds, d.out ≠ c.out) (h2 : ∀ x ∈ c.ins, (∀ d ∈ ds, d.out ≠ x) ∧ x ≠ c.out) :
    nval (cs ++ c :: ds) inp c.out = gate c.kd (c.ins.map (nval (cs ++ c :: ds) inp)) := by
  have e : cs ++ c :: ds = (cs ++ [c]) ++ ds := by simp
  rw [e, nval_app inp _ _ ds h1]
  have e2 : c.ins.map (nval ((cs ++ [c]) ++ ds) inp) = c.ins.map (nval cs inp) := List.map_congr_left fun x hx => by
    rw [nval_app inp x _ ds (h2 x hx).1, nval_snoc]
    exact if_neg (h2 x hx).2
  rw [e2, nval_snoc]
  exact if_pos rfl

structure Inv (st : NS) : Prop where
  two : 2 ≤ st.count
  outs : ∀ c ∈ st.cells, 2 ≤ c.out ∧ c.out < st.count ∧ c.out ∉ st.keys ∧ ∀ x ∈ c.ins, 0 ≤ x ∧ x < c.out
  inc : st.cells.Pairwise fun c d => c.out < d.out
  keys : ∀ k ∈ st.keys, 2 ≤ k ∧ k < st.count
  all : ∀ n, 2 ≤ n → n < st.count → n ∈ st.keys ∨ ∃ c ∈ st.cells, c.out = n
  made : ∀ k o, st.made.lookup k = some o → ∃ c ∈ st.cells, c.out = o ∧ k = c.key
  opp : ∀ a b, st.opp.lookup a = some b → (0 ≤ a ∧ a < st.count) ∧ (0 ≤ b ∧ b < st.count) ∧ ∀ inp, nval st.cells inp b = !nval st.cells inp a
  has : ∀ c ∈ st.cells, (c.kd = .not ∧ ∃ a, c.ins = [a] ∧ (st.opp.lookup a).isSome = true) ∨ (c.kd ≠ .not ∧ (st.made.lookup c.key).isSome = true)
  shape : ∀ c ∈ st.cells, (c.kd = .mux ∧ c.ins.length = 3) ∨ (c.kd = .not ∧ c.ins.length = 1) ∨ (c.kd ≠ .mux ∧ ∃ a b, c.ins = [a, b] ∧ a ≤ b)
  nodup : (st.cells.map Cell.key).Nodup
  szm : st.made.length ≤ st.cells.length
  szo : st.opp.length ≤ 2 * st.cells.length

noncomputable def Net (st : NS) (n : Int) : Prop := 0 ≤ n ∧ n < st.count

theorem Inv.val {st : NS} (I : Inv st) {c : Cell} (h : c ∈ st.cells) (inp : Int → Bool) : nval st.cells inp c.out = gate c.kd (c.ins.map (nval st.cells inp)) := by
  obtain ⟨cs, ds, e⟩ := List.append_of_mem h
  have hp := I.inc
  rw [e] at hp ⊢
  have hd : ∀ d ∈ ds, c.out < d.out := (List.pairwise_cons.mp (List.pairwise_append.mp hp).2.1).1
  refine nval_out inp cs c ds (fun d hd' => (by have := hd d hd'; lia)) fun x hx => ?_
  have h4 := (I.outs c h).2.2.2 x hx
  exact ⟨fun d hd' => by have := hd d hd'; lia, by lia⟩

/-- what a step of the netlist keeps -/
structure Ext (st st' : NS) : Prop where
  inv : Inv st'
  hand : st'.script = st.script ∧ st'.hi = st.hi ∧ st'.hr = st.hr ∧ st'.hs = st.hs ∧ st'.inputs = st.inputs ∧ st'.keys = st.keys
  le : st.count ≤ st'.count
  val : ∀ inp n, n < st.count → nval st'.cells inp n = nval st.cells inp n

theorem Ext.refl {st : NS} (I : Inv st) : Ext st st := ⟨I, ⟨rfl, rfl, rfl, rfl, rfl, rfl⟩, Int.le_refl _, fun _ _ _ => rfl⟩
theorem Ext.trans {a b c : NS} (x : Ext a b) (y : Ext b c) : Ext a c where
  inv := y.inv
  hand := ⟨y.hand.1.trans x.hand.1, y.hand.2.1.trans x.hand.2.1, y.hand.2.2.1.trans x.hand.2.2.1, y.hand.2.2.2.1.trans x.hand.2.2.2.1, y.hand.2.2.2.2.1.trans x.hand.2.2.2.2.1, y.hand.2.2.2.2.2.trans x.hand.2.2.2.2.2⟩
  le := Int.le_trans x.le y.le
  val := fun inp n h => (y.val inp n (Int.lt_of_lt_of_le h x.le)).trans (x.val inp n h)
theorem Ext.net {a b : NS} (x : Ext a b) {n : Int} (h : Net a n) : Net b n := ⟨h.1, Int.lt_of_lt_of_le h.2 x.le⟩

/-- one more cell -/
noncomputable def addC (st : NS) (kd : Kd) (ins : List Int) (made : List (List Atom × Int)) (opp : List (Int × Int)) : NS :=
  { st with count := st.count + 1, cells := st.cells ++ [⟨kd, st.count, ins⟩], made := made, opp := opp }

theorem lookup_cons' {α β : Type} [BEq α] [LawfulBEq α] [DecidableEq α] (a x : α) (b : β) (l : List (α × β)) : ((a, b) :: l).lookup x = if x = a then some b else l.lookup x := by
  rw [List.lookup_cons]
  by_cases h : x = a
  · subst h; simp
  · have : (x == a) = false := by simpa using h
    rw [this, if_neg h]

theorem addC_val {st : NS} (kd : Kd) (ins : List Int) (inp : Int → Bool) (n : Int) (h : n < st.count) : nval (st.cells ++ [⟨kd, st.count, ins⟩]) inp n = nval st.cells inp n :=
  nval_app inp n _ _ fun d hd => by rw [List.mem_singleton.mp hd]; show st.count ≠ n; lia
theorem addC_new {st : NS} (kd : Kd) (ins : List Int) (inp : Int → Bool) : nval (st.cells ++ [⟨kd, st.count, ins⟩]) inp st.count = gate kd (ins.map (nval st.cells inp)) := by
  rw [nval_snoc]; exact if_pos rfl

theorem addC_inv {st : NS} (I : Inv st) {kd : Kd} {ins : List Int} (hi : ∀ x ∈ ins, Net st x) {made : List (List Atom × Int)} {opp : List (Int × Int)}
    (hm : ∀ k o, made.lookup k = some o → st.made.lookup k = some o ∨ (k = (⟨kd, st.count, ins⟩ : Cell).key ∧ o = st.count)) (hm2 : ∀ k, (st.made.lookup k).isSome = true → (made.lookup k).isSome = true)
    (ho : ∀ a b, opp.lookup a = some b → st.opp.lookup a = some b ∨ ((Net (addC st kd ins made opp) a ∧ Net (addC st kd ins made opp) b) ∧ ∀ inp, nval (addC st kd ins made opp).cells inp b = !nval (addC st kd ins made opp).cells inp a))
    (ho2 : ∀ k, (st.opp.lookup k).isSome = true → (opp.lookup k).isSome = true)
    (hh : (kd = .not ∧ ∃ a, ins = [a] ∧ (opp.lookup a).isSome = true) ∨ (kd ≠ .not ∧ (made.lookup (⟨kd, st.count, ins⟩ : Cell).key).isSome = true))
    (hs : (kd = .mux ∧ ins.length = 3) ∨ (kd = .not ∧ ins.length = 1) ∨ (kd ≠ .mux ∧ ∃ a b, ins = [a, b] ∧ a ≤ b)) (hn : (⟨kd, st.count, ins⟩ : Cell).key ∉ st.cells.map Cell.key)
    (z1 : made.length ≤ st.cells.length + 1) (z2 : opp.length ≤ 2 * st.cells.length + 2) : Ext st (addC st kd ins made opp) := by
  refine ⟨⟨?_, ?_, ?_, ?_, ?_, ?_, ?_, ?_, ?_, ?_, ?_, ?_⟩, ⟨rfl, rfl, rfl, rfl, rfl, rfl⟩, ?_, fun inp n h => addC_val kd ins inp n h⟩
  · have := I.two; show 2 ≤ st.count + 1; lia
  · intro c hc
    rcases List.mem_append.mp hc with hc | hc
    · obtain ⟨a, b, c', d⟩ := I.outs c hc
      exact ⟨a, by show _ < st.count + 1; lia, c', d⟩
    · rw [List.mem_singleton.mp hc]
      refine ⟨I.two, by show st.count < st.count + 1; lia, fun h => ?_, fun x hx => hi x hx⟩
      have := (I.keys _ h).2
      exact absurd this (Int.lt_irrefl _)
  · refine List.pairwise_append.mpr ⟨I.inc, List.pairwise_singleton _ _, fun c hc d hd => ?_⟩
    rw [List.mem_singleton.mp hd]
    exact (I.outs c hc).2.1
  · intro k hk
    have := I.keys k hk
    exact ⟨this.1, by show _ < st.count + 1; lia⟩
  · intro n h1 h2
    have h2 : n < st.count + 1 := h2
    rcases Int.lt_or_le n st.count with h | h
    · rcases I.all n h1 h with h | ⟨c, hc, e⟩
      · exact .inl h
      · exact .inr ⟨c, List.mem_append_left _ hc, e⟩
    · exact .inr ⟨_, List.mem_append_right _ List.mem_cons_self, by show st.count = n; lia⟩
  · intro k o h
    rcases hm k o h with h | ⟨rfl, rfl⟩
    · obtain ⟨c, hc, r⟩ := I.made k o h
      exact ⟨c, List.mem_append_left _ hc, r⟩
    · exact ⟨_, List.mem_append_right _ List.mem_cons_self, rfl, rfl⟩
  · intro a b h
    rcases ho a b h with h | ⟨⟨h1, h2⟩, h3⟩
    · obtain ⟨⟨a1, a2⟩, ⟨b1, b2⟩, c⟩ := I.opp a b h
      refine ⟨⟨a1, by show a < st.count + 1; lia⟩, ⟨b1, by show b < st.count + 1; lia⟩, fun inp => ?_⟩
      show nval (st.cells ++ [_]) inp b = !nval (st.cells ++ [_]) inp a
      rw [addC_val kd ins inp b b2, addC_val kd ins inp a a2]
      exact c inp
    · exact ⟨h1, h2, h3⟩
  · intro c hc
    rcases List.mem_append.mp hc with hc | hc
    · rcases I.has c hc with ⟨h1, a, h2, h3⟩ | ⟨h1, h2⟩
      · exact .inl ⟨h1, a, h2, ho2 a h3⟩
      · exact .inr ⟨h1, hm2 _ h2⟩
    · rw [List.mem_singleton.mp hc]; exact hh
  · intro c hc
    rcases List.mem_append.mp hc with hc | hc
    · exact I.shape c hc
    · rw [List.mem_singleton.mp hc]; exact hs
  · show ((st.cells ++ [_]).map Cell.key).Nodup
    rw [List.map_append]
    refine List.nodup_append.mpr ⟨I.nodup, by simp, fun x hx y hy e => ?_⟩
    rw [List.map_singleton] at hy
    rw [e, List.mem_singleton.mp hy] at hx
    exact hn hx
  · show made.length ≤ (st.cells ++ [_]).length
    rw [List.length_append, List.length_singleton]; exact z1
  · show opp.length ≤ 2 * (st.cells ++ [_]).length
    rw [List.length_append, List.length_singleton]; lia
  · show st.count ≤ st.count + 1; lia

/-- a cell under a key -/
theorem add_made {st : NS} (I : Inv st) {kd : Kd} {ins : List Int} (hi : ∀ x ∈ ins, Net st x) (hk : kd ≠ .not) (hs : (kd = .mux ∧ ins.length = 3) ∨ (kd ≠ .mux ∧ ∃ a b, ins = [a, b] ∧ a ≤ b))
    (hl : st.made.lookup (.s kd.str :: ins.map .i) = Option.none) : Ext st (addC st kd ins ((.s kd.str :: ins.map .i, st.count) :: st.made) st.opp) := by
  have hn : (⟨kd, st.count, ins⟩ : Cell).key ∉ st.cells.map Cell.key := by
    intro h
    obtain ⟨c, hc, e⟩ := List.mem_map.mp h
    rcases I.has c hc with ⟨h1, a, h2, _⟩ | ⟨_, h2⟩
    · have : Atom.s c.kd.str = Atom.s kd.str := (List.cons.inj e).1
      rw [h1] at this
      cases kd <;> first | exact hk rfl | (injection this with this; exact absurd this (by decide))
    · rw [e] at h2
      rw [show (⟨kd, st.count, ins⟩ : Cell).key = .s kd.str :: ins.map .i from rfl, hl] at h2
      cases h2
  refine addC_inv I hi (fun k o h => ?_) (fun k h => ?_) (fun a b h => .inl h) (fun _ h => h) (.inr ⟨hk, ?_⟩) (hs.imp id .inr) hn ?_ ?_
  · rw [lookup_cons'] at h
    split at h
    · rename_i e; cases h; exact .inr ⟨e, rfl⟩
    · exact .inl h
  · rw [lookup_cons']; split
    · rfl
    · exact h
  · show (List.lookup (Atom.s kd.str :: ins.map Atom.i) _).isSome = true
    rw [lookup_cons', if_pos rfl]; rfl
  · have := I.szm; rw [List.length_cons]; lia
  · have := I.szo; lia

theorem add_not {st : NS} (I : Inv st) {a : Int} (ha : Net st a) (hl : st.opp.lookup a = Option.none) : Ext st (addC st .not [a] st.made ((st.count, a) :: (a, st.count) :: st.opp)) := by
  have hne : a ≠ st.count := by have := ha.2; lia
  have hi : ∀ x ∈ [a], Net st x := fun x hx => by rw [List.mem_singleton.mp hx]; exact ha
  have hva : ∀ inp, nval (st.cells ++ [⟨.not, st.count, [a]⟩]) inp st.count = !nval (st.cells ++ [⟨.not, st.count, [a]⟩]) inp a := fun inp => by
    rw [addC_new .not [a] inp, addC_val _ _ inp a ha.2]; rfl
  refine addC_inv I hi (fun k o h => .inl h) (fun _ h => h) (fun x y h => ?_) (fun k h => ?_) (.inl ⟨rfl, a, rfl, ?_⟩) (.inr (.inl ⟨rfl, rfl⟩)) ?_ ?_ ?_
  · have n1 : ∀ m o, Net (addC st .not [a] m o) a := fun m o => ⟨ha.1, by show a < st.count + 1; have := ha.2; lia⟩
    have n2 : ∀ m o, Net (addC st .not [a] m o) st.count := fun m o => ⟨by have := I.two; lia, by show st.count < st.count + 1; lia⟩
    rw [lookup_cons', lookup_cons'] at h
    split at h
    · rename_i e; cases h; subst e
      refine .inr ⟨⟨n2 _ _, n1 _ _⟩, fun inp => ?_⟩
      show nval (st.cells ++ [_]) inp a = !nval (st.cells ++ [_]) inp st.count
      rw [hva inp, Bool.not_not]
    · split at h
      · rename_i e; cases h; subst e
        exact .inr ⟨⟨n1 _ _, n2 _ _⟩, hva⟩
      · exact .inl h
  · rw [lookup_cons', lookup_cons']
    split
    · rfl
    · split
      · rfl
      · exact h
  · rw [lookup_cons', lookup_cons', if_neg hne, if_pos rfl]; rfl
  · intro h
    obtain ⟨c, hc, e⟩ := List.mem_map.mp h
    have e1 : Atom.s c.kd.str = Atom.s Kd.not.str := (List.cons.inj e).1
    have e2 : c.ins.map Atom.i = [Atom.i a] := (List.cons.inj e).2
    rcases I.has c hc with ⟨h1, b, h2, h3⟩ | ⟨h1, _⟩
    · rw [h2] at e2
      have : b = a := by simpa using e2
      rw [this, hl] at h3; cases h3
    · have : ∀ k : Kd, k ≠ .not → Atom.s k.str ≠ Atom.s Kd.not.str := by intro k; cases k <;> decide
      exact this _ h1 e1
  · have := I.szm; lia
  · have := I.szo; simp only [List.length_cons]; lia
end
end Mine

namespace Mine
section
open PySem
set_option autoImplicit false

/-- a gate's call: an int, and the netlist behind it -/
noncomputable def GP (tl : List O) (r : Option (V × St)) (Q : Int → NS → Prop) : Prop := ∃ y st', r = some (.int y, B st' tl) ∧ Q y st'
noncomputable def BP (tl : List O) (x : Option (Fl × Rho × St)) (Q : Int → NS → Prop) : Prop := ∃ fl ρ' H', x = some (fl, ρ', H') ∧ ∃ y st', fl.val = .int y ∧ H' = B st' tl ∧ Q y st'
section
variable {tl : List O} {Q : Int → NS → Prop} {ρ : Rho} {H : St}
theorem GP.some {y : Int} {st' : NS} {r : Option (V × St)} (e : r = some (.int y, B st' tl)) (q : Q y st') : GP tl r Q := ⟨y, st', e, q⟩
theorem GP.mono {Q' : Int → NS → Prop} {r : Option (V × St)} (h : GP tl r Q) (hq : ∀ y st', Q y st' → Q' y st') : GP tl r Q' := let ⟨y, st', e, q⟩ := h; ⟨y, st', e, hq y st' q⟩
theorem GP.run {P : Prg} {n f : Nat} {args : List V} {b : S} {ρ₀ : Rho} (h : callN P (n + 1) f args H = (ex P (callN P n) b ρ₀ H).map fun q => (q.1.val, q.2.2)) (hb : BP tl (ex P (callN P n) b ρ₀ H) Q) : GP tl (callN P (n + 1) f args H) Q := by
  obtain ⟨fl, ρ', H', e, y, st', e1, e2, q⟩ := hb
  refine ⟨y, st', ?_, q⟩
  rw [h, e]
  simp only [Option.map_some, e1, e2]
theorem BP.ret {e : M} (h : GP tl (e ρ H) Q) : BP tl (sRet e ρ H) Q := by
  obtain ⟨y, st', e1, q⟩ := h
  refine ⟨.ret (.int y), ρ, B st' tl, ?_, y, st', rfl, rfl, q⟩
  unfold sRet; rw [e1]; rfl
theorem BP.ret' {e : M} {r : Mx} (h : BP tl (sRet e ρ H) Q) : BP tl (sCons (sRet e) r ρ H) Q := by
  obtain ⟨fl, ρ', H', e1, y, st', e2, e3, q⟩ := h
  refine ⟨fl, ρ', H', ?_, y, st', e2, e3, q⟩
  obtain ⟨x, e4, e5⟩ := Option.map_eq_some_iff.mp e1
  cases e5
  unfold sCons; rw [e1]; rfl
/-- an if that hands back, else on -/
theorem BP.cond {t : M} {e : M} {n r : Mx} {d : Bool} (h : (t ρ H).bind tst = some (d, H)) (ht : d = true → BP tl (sRet e ρ H) Q) (hf : d = false → BP tl (r ρ H) Q) :
    BP tl (sCons (sCond t (sCons (sRet e) n) (fun ρ H => some (.next, ρ, H))) r ρ H) Q := by
  cases d with
  | true =>
    obtain ⟨fl, ρ', H', e1, y, st', e2, e3, q⟩ := BP.ret' (r := n) (ht rfl)
    refine ⟨fl, ρ', H', ?_, y, st', e2, e3, q⟩
    obtain ⟨x, e4, e5⟩ := Option.bind_eq_some_iff.mp e1
    obtain ⟨z, e6, e7⟩ := Option.map_eq_some_iff.mp e4
    subst e7
    cases e5
    unfold sCons sCond at *
    rw [h]
    simp only [Option.bind_some, if_true, e1]
    rfl
  | false =>
    obtain ⟨fl, ρ', H', e1, r1⟩ := hf rfl
    refine ⟨fl, ρ', H', ?_, r1⟩
    unfold sCons sCond
    rw [h]
    exact e1
theorem BP.condOr {t1 t2 : M} {a : Mx} {r : Mx} (h : BP tl (sCons (sCond t1 a (fun ρ H => some (.next, ρ, H))) (sCons (sCond t2 a (fun ρ H => some (.next, ρ, H))) r) ρ H) Q) {d : Bool} (hd : (t1 ρ H).bind tst = some (d, H)) (ha : ∃ v H', a ρ H = some (.ret v, ρ, H')) :
    BP tl (sCons (sCond (mOr t1 t2) a (fun ρ H => some (.next, ρ, H))) r ρ H) Q := by
  obtain ⟨fl, ρ', H', e1, r1⟩ := h
  refine ⟨fl, ρ', H', ?_, r1⟩
  unfold sCons sCond mOr at *
  rw [hd] at e1 ⊢
  cases d with
  | true =>
    obtain ⟨v, H', e2⟩ := ha
    simp only [Option.bind_some, if_true, e2, onward] at e1
    simp only [Option.bind_some, if_true, tst, V.isTrue?, Option.map_some, e2, onward]
    exact e1
  | false => exact e1
/-- a name -/
theorem BP.asg {i : Nat} {e : M} {r : Mx} {v : V} {H1 : St} (h : e ρ H = some (v, H1)) (hr : BP tl (r (ρ.set i (some v)) H1) Q) : BP tl (sCons (sAsg i e) r ρ H) Q := by
  obtain ⟨fl, ρ', H', e1, r1⟩ := hr
  refine ⟨fl, ρ', H', ?_, r1⟩
  unfold sCons sAsg; rw [h]; exact e1
theorem BP.sub {o i e : M} {v x k : V} {r : Mx} {H1 H2 : St} (h1 : e ρ H = some (v, H1)) (h2 : o ρ H1 = some (x, H1)) (h3 : i ρ H1 = some (k, H1)) (h4 : setAt x k v H1 = some H2) (hr : BP tl (r ρ H2) Q) : BP tl (sCons (sSub o i e) r ρ H) Q := by
  obtain ⟨fl, ρ', H', e1, r1⟩ := hr
  refine ⟨fl, ρ', H', ?_, r1⟩
  unfold sCons sSub; rw [h1]; simp only [Option.bind_some]; rw [h2]; simp only [Option.bind_some]; rw [h3]; simp only [Option.bind_some]; rw [h4]; exact e1
/-- an if whose part goes on -/
theorem BP.when {t : M} {a r : Mx} {d : Bool} (h : (t ρ H).bind tst = some (d, H)) (ht : d = true → BP tl (sCons a r ρ H) Q) (hf : d = false → BP tl (r ρ H) Q) : BP tl (sCons (sCond t a (fun ρ H => some (.next, ρ, H))) r ρ H) Q := by
  have e : sCons (sCond t a (fun ρ H => some (.next, ρ, H))) r ρ H = if d = true then sCons a r ρ H else r ρ H := by
    unfold sCons sCond; rw [h]; cases d <;> rfl
  rw [e]
  cases d with
  | true => exact ht rfl
  | false => exact hf rfl
end

theorem sCons_flat {a b r : Mx} {ρ : Rho} {H : St} : sCons (sCons a b) r ρ H = sCons a (sCons b r) ρ H := by
  unfold sCons
  cases a ρ H with
  | none => rfl
  | some q => obtain ⟨f, ρ1, H1⟩ := q; cases f <;> rfl
theorem BP.flat {tl : List O} {Q : Int → NS → Prop} {a b r : Mx} {ρ : Rho} {H : St} (h : BP tl (sCons a (sCons b r) ρ H) Q) : BP tl (sCons (sCons a b) r ρ H) Q := sCons_flat ▸ h
theorem BP.nil {tl : List O} {Q : Int → NS → Prop} {r : Mx} {ρ : Rho} {H : St} (h : BP tl (r ρ H) Q) : BP tl (sCons (fun ρ H => some (.next, ρ, H)) r ρ H) Q := h

theorem new_net_eq (n : Nat) (st : NS) (tl : List O) : callN prg (n + 1) 30 [.ref 2] (B st tl) = some (.int st.count, B { st with count := st.count + 1 } tl) := by kernel_rfl

theorem opp_lookup (l : List (Int × Int)) (a : Int) : (l.map fun e => (e.1, V.int e.2)).lookup a = (l.lookup a).map V.int := by
  induction l with
  | nil => rfl
  | cons e r ih =>
    obtain ⟨x, y⟩ := e
    rw [List.map_cons, lookup_cons', lookup_cons', ih]
    split <;> rfl
theorem made_lookup (l : List (List Atom × Int)) (a : List Atom) : (l.map fun e => (e.1, V.int e.2)).lookup a = (l.lookup a).map V.int := by
  induction l with
  | nil => rfl
  | cons e r ih =>
    obtain ⟨x, y⟩ := e
    rw [List.map_cons, lookup_cons', lookup_cons', ih]
    split <;> rfl

theorem run_eq {P : Prg} {n f : Nat} {args : List V} {b : S} {ρ₀ ρ' : Rho} {fl : Fl} {H H' : St} (h : callN P (n + 1) f args H = (ex P (callN P n) b ρ₀ H).map fun q => (q.1.val, q.2.2)) (hb : ex P (callN P n) b ρ₀ H = some (fl, ρ', H')) : callN P (n + 1) f args H = some (fl.val, H') := by
  rw [h, hb]; rfl
theorem cons_eq {a r : Mx} {ρ ρ1 : Rho} {H H1 : St} {x : Option (Fl × Rho × St)} (h : a ρ H = some (.next, ρ1, H1)) (hr : r ρ1 H1 = x) : sCons a r ρ H = x := by unfold sCons; rw [h]; exact hr
theorem consr_eq {a r : Mx} {ρ ρ1 : Rho} {H H1 : St} {v : V} (h : a ρ H = some (.ret v, ρ1, H1)) : sCons a r ρ H = some (.ret v, ρ1, H1) := by unfold sCons; rw [h]; rfl
theorem exp_eq {e : M} {ρ : Rho} {H H1 : St} {v : V} (h : e ρ H = some (v, H1)) : sExp e ρ H = some (.next, ρ, H1) := by unfold sExp; rw [h]; rfl
theorem asg_eq {i : Nat} {e : M} {ρ : Rho} {H H1 : St} {v : V} (h : e ρ H = some (v, H1)) : sAsg i e ρ H = some (.next, ρ.set i (some v), H1) := by unfold sAsg; rw [h]; rfl
theorem ret_eq {e : M} {ρ : Rho} {H H1 : St} {v : V} (h : e ρ H = some (v, H1)) : sRet e ρ H = some (.ret v, ρ, H1) := by unfold sRet; rw [h]; rfl

theorem append_eq (st : NS) (tl : List O) (c : Cell) (h : st.cells.length < maxLen) : lmeth 6 "append" [c.v] (B st tl) = some (.none, B { st with cells := st.cells ++ [c] } tl) := by
  have e3 : lmeth 6 "append" [c.v] (B st tl) = (need true (need (decide ((st.cells.map Cell.v).length < maxLen)) (some (V.none, (B st tl).set 6 (.list (st.cells.map Cell.v ++ [c.v]))))) <|> Option.none) := by kernel_rfl
  rw [e3, List.length_map, decide_eq_true h]
  show some _ = some _
  unfold B
  rw [List.map_append]
  rfl
theorem drive_eq (n : Nat) (st : NS) (tl : List O) (kd : Kd) (o : Int) (ins : List Int) (h : st.cells.length < maxLen) :
    callN prg (n + 1) 34 [.ref 2, .int o, .str kd.str, .tup (ins.map .int), .none] (B st tl) = some (.none, B { st with cells := st.cells ++ [⟨kd, o, ins⟩] } tl) := by
  refine run_eq (b := b_Netlist_drive) (ρ₀ := [some (.ref 2), some (.int o), some (.str kd.str), some (.tup (ins.map .int)), some .none]) (by kernel_rfl) (cons_eq (exp_eq (Eq.trans ?_ (append_eq st tl ⟨kd, o, ins⟩ h))) rfl)
  kernel_rfl
theorem add_cell_eq (n : Nat) (st : NS) (tl : List O) (kd : Kd) (ins : List Int) (h : st.cells.length < maxLen) :
    callN prg (n + 2) 33 [.ref 2, .str kd.str, .tup (ins.map .int)] (B st tl) = some (.int st.count, B { st with count := st.count + 1, cells := st.cells ++ [⟨kd, st.count, ins⟩] } tl) := by
  refine run_eq (b := b_Netlist_add_cell) (ρ₀ := [some (.ref 2), some (.str kd.str), some (.tup (ins.map .int)), some .none, Option.none]) (by kernel_rfl) (cons_eq (asg_eq (v := .int st.count) (H1 := B { st with count := st.count + 1 } tl) ?_) (cons_eq (exp_eq (Eq.trans ?_ (drive_eq n { st with count := st.count + 1 } tl kd st.count ins h))) (consr_eq (ret_eq (v := .int st.count) ?_))))
  · kernel_rfl
  · kernel_rfl
  · kernel_rfl
end
end Mine

namespace Mine
section
open PySem
set_option autoImplicit false

theorem cmp_eq {op : CmpOp} {a b : M} {ρ : Rho} {H H1 H2 : St} {x y : V} {d : Bool} (h1 : a ρ H = some (x, H1)) (h2 : b ρ H1 = some (y, H2)) (h3 : cmpop op x y H2 = some d) : mCmp op a b ρ H = some (.bool d, H2) := by
  unfold mCmp; rw [h1]; simp only [Option.bind_some]; rw [h2]; simp only [Option.bind_some]; rw [h3]; rfl
theorem sub_eq {a i : M} {ρ : Rho} {H H1 H2 : St} {x y z : V} (h1 : a ρ H = some (x, H1)) (h2 : i ρ H1 = some (y, H2)) (h3 : subscr x y H2 = some z) : mSub a i ρ H = some (z, H2) := by
  unfold mSub; rw [h1]; simp only [Option.bind_some]; rw [h2]; simp only [Option.bind_some]; rw [h3]; rfl
theorem tst_eq {r : Option (V × St)} {d : Bool} {H : St} (h : r = some (.bool d, H)) : r.bind tst = some (d, H) := by rw [h]; rfl

/-- the number that the other side of a has -/
noncomputable def oppOf (st : NS) (a : Int) : Int := (st.opp.lookup a).getD (-1)
theorem get_eq (st : NS) (tl : List O) (a : Int) : dmeth 10 "get" [.int a, .int (-1)] (B st tl) = some (.int (oppOf st a), B st tl) := by
  have e : dmeth 10 "get" [.int a, .int (-1)] (B st tl) = some (((st.opp.map fun e => (e.1, V.int e.2)).lookup a).getD (.int (-1)), B st tl) := by kernel_rfl
  rw [e, opp_lookup]
  unfold oppOf
  cases st.opp.lookup a <;> rfl
theorem are_eq (n : Nat) (st : NS) (tl : List O) (a b : Int) : callN prg (n + 1) 2 [.ref 7, .int a, .int b] (B st tl) = some (.bool (decide (oppOf st a = b)), B st tl) := by
  refine run_eq (b := b_Gates_are_opposite) (ρ₀ := [some (.ref 7), some (.int a), some (.int b)]) (by kernel_rfl) (consr_eq (ret_eq (cmp_eq (x := .int (oppOf st a)) (y := .int b) (H1 := B st tl) (H2 := B st tl) (Eq.trans ?_ (get_eq st tl a)) ?_ ?_)))
  · kernel_rfl
  · kernel_rfl
  · kernel_rfl
theorem opp_val {st : NS} (I : Inv st) {a b : Int} (hb : Net st b) (h : oppOf st a = b) (inp : Int → Bool) : nval st.cells inp b = !nval st.cells inp a := by
  unfold oppOf at h
  cases e : st.opp.lookup a with
  | none => rw [e] at h; have := hb.1; simp at h; lia
  | some x => rw [e] at h; simp at h; subst h; exact (I.opp a x e).2.2 inp

/-- what a gate's call gives -/
noncomputable def GS (st : NS) (tl : List O) (r : Option (V × St)) (k : Nat) (F : (Int → Bool) → Bool) : Prop := GP tl r fun y st' => Ext st st' ∧ Net st' y ∧ st'.cells.length ≤ st.cells.length + k ∧ ∀ inp, nval st'.cells inp y = F inp
noncomputable def Room2 (st : NS) : Prop := st.cells.length ≤ 400000

theorem Inv.net0 {st : NS} (I : Inv st) : Net st 0 := ⟨by lia, by have := I.two; lia⟩
theorem Inv.net1 {st : NS} (I : Inv st) : Net st 1 := ⟨by lia, by have := I.two; lia⟩
theorem Inv.low {st : NS} (I : Inv st) (inp : Int → Bool) {n : Int} (h : n < 2) : nval st.cells inp n = base inp n := by
  have := nval_app inp n [] st.cells fun d hd => by have := (I.outs d hd).1; lia
  exact this
theorem Inv.val0 {st : NS} (I : Inv st) (inp : Int → Bool) : nval st.cells inp 0 = false := I.low inp (by lia)
theorem Inv.val1 {st : NS} (I : Inv st) (inp : Int → Bool) : nval st.cells inp 1 = true := I.low inp (by lia)
theorem GS.same {st : NS} (I : Inv st) {tl : List O} {r : Option (V × St)} {k : Nat} {F : (Int → Bool) → Bool} {y : Int} (e : r = some (.int y, B st tl)) (hy : Net st y) (hF : ∀ inp, nval st.cells inp y = F inp) : GS st tl r k F :=
  .some e ⟨Ext.refl I, hy, Nat.le_add_right _ _, hF⟩
theorem max20 : maxLen = 1048576 := by decide

theorem setMade (st : NS) (tl : List O) (ks : List V) (as : List Atom) (hk : atomsOf ks = some as) (o : Int) (h : st.made.length < maxLen) : setAt (.ref 9) (.tup ks) (.int o) (B st tl) = some (B { st with made := (as, o) :: st.made } tl) := by
  have e : setAt (.ref 9) (.tup ks) (.int o) (B st tl) = (atomsOf ks).bind fun k => need (decide ((st.made.map fun e => (e.1, V.int e.2)).length < maxLen)) (some ((B st tl).set 9 (.tdict ((k, .int o) :: st.made.map fun e => (e.1, V.int e.2))))) := by kernel_rfl
  rw [e, hk, Option.bind_some, List.length_map, decide_eq_true h]
  rfl
theorem subMade (st : NS) (tl : List O) (ks : List V) (as : List Atom) (hk : atomsOf ks = some as) : subscr (.ref 9) (.tup ks) (B st tl) = (st.made.lookup as).map V.int := by
  have e : subscr (.ref 9) (.tup ks) (B st tl) = (atomsOf ks).bind fun k => (st.made.map fun e => (e.1, V.int e.2)).lookup k := by kernel_rfl
  rw [e, hk, Option.bind_some, made_lookup]
theorem hasMade (st : NS) (tl : List O) (ks : List V) (as : List Atom) (hk : atomsOf ks = some as) : cmpop .NotIn (.tup ks) (.ref 9) (B st tl) = some (!(st.made.lookup as).isSome) := by
  have e : cmpop .NotIn (.tup ks) (.ref 9) (B st tl) = ((atomsOf ks).map fun k => ((st.made.map fun e => (e.1, V.int e.2)).lookup k).isSome).map (!·) := by kernel_rfl
  rw [e, hk, Option.map_some, made_lookup, Option.isSome_map]; rfl

noncomputable def lo (a b : Int) : Int := if b < a then b else a
noncomputable def hi (a b : Int) : Int := if a < b then b else a
theorem lo_hi (a b : Int) : lo a b ≤ hi a b ∧ ((lo a b = a ∧ hi a b = b) ∨ (lo a b = b ∧ hi a b = a)) := by
  unfold lo hi; split <;> split <;> lia
theorem gate_comm {kd : Kd} (h1 : kd ≠ .not) (h2 : kd ≠ .mux) (a b : Bool) : gate kd [a, b] = gate kd [b, a] := by
  cases kd <;> cases a <;> cases b <;> first | rfl | exact absurd rfl h1 | exact absurd rfl h2

theorem new_in {st : NS} (I : Inv st) {kd : Kd} {ins : List Int} {m : List (List Atom × Int)} {o : List (Int × Int)} : Net (addC st kd ins m o) st.count := ⟨by have := I.two; lia, by show st.count < st.count + 1; lia⟩
theorem new_len {st : NS} {kd : Kd} {ins : List Int} {m : List (List Atom × Int)} {o : List (Int × Int)} : (addC st kd ins m o).cells.length ≤ st.cells.length + 1 := by
  show (st.cells ++ [_]).length ≤ _
  rw [List.length_append]; exact Nat.le_refl _
theorem Kd.str_inj {a b : Kd} (h : a.str = b.str) : a = b := by
  cases a <;> cases b <;> first | rfl | exact absurd h (by decide)
theorem map_i_inj : ∀ {a b : List Int}, a.map Atom.i = b.map Atom.i → a = b
  | [], [], _ => rfl
  | _ :: _, _ :: _, h => by
    rw [List.map_cons, List.map_cons] at h
    obtain ⟨h1, h2⟩ := List.cons.inj h
    rw [Atom.i.inj h1, map_i_inj h2]
theorem made_val {st : NS} (I : Inv st) {kd : Kd} {ins : List Int} {o : Int} (h : st.made.lookup (.s kd.str :: ins.map .i) = some o) : Net st o ∧ ∀ inp, nval st.cells inp o = gate kd (ins.map (nval st.cells inp)) := by
  obtain ⟨c, hc, rfl, e⟩ := I.made _ _ h
  obtain ⟨e1, e2⟩ := List.cons.inj e
  rw [Kd.str_inj (Atom.s.inj e1), map_i_inj e2]
  have := I.outs c hc
  exact ⟨⟨by lia, this.2.1⟩, fun inp => I.val hc inp⟩

theorem pair_spec (n : Nat) {st : NS} (tl : List O) (I : Inv st) (hr : Room2 st) {kd : Kd} (h1 : kd ≠ .not) (h2 : kd ≠ .mux) {a b : Int} (ha : Net st a) (hb : Net st b) :
    GS st tl (callN prg (n + 3) 1 [.ref 7, .str kd.str, .int a, .int b] (B st tl)) 1 fun inp => gate kd [nval st.cells inp a, nval st.cells inp b] := by
  have hsz := I.szm
  have hr : st.cells.length ≤ 400000 := hr
  obtain ⟨hlh, hor⟩ := lo_hi a b
  have hlo : Net st (lo a b) := by rcases hor with h | h <;> rw [h.1] <;> assumption
  have hhi : Net st (hi a b) := by rcases hor with h | h <;> rw [h.2] <;> assumption
  have hk : atomsOf [.str kd.str, .int (lo a b), .int (hi a b)] = some [.s kd.str, .i (lo a b), .i (hi a b)] := rfl
  have hg : ∀ inp, gate kd [nval st.cells inp (lo a b), nval st.cells inp (hi a b)] = gate kd [nval st.cells inp a, nval st.cells inp b] := fun inp => by
    rcases hor with h | h <;> rw [h.1, h.2]
    exact gate_comm h1 h2 _ _
  refine GP.run (b := b_Gates_pair) (ρ₀ := [some (.ref 7), some (.str kd.str), some (.int a), some (.int b), Option.none, Option.none, Option.none]) (by kernel_rfl)
    (BP.asg (v := .int (lo a b)) (H1 := B st tl) (by kernel_rfl) (BP.asg (v := .int (hi a b)) (H1 := B st tl) (by kernel_rfl) (BP.asg (v := .tup [.str kd.str, .int (lo a b), .int (hi a b)]) (H1 := B st tl) (by kernel_rfl)
      (BP.when (d := !(st.made.lookup [.s kd.str, .i (lo a b), .i (hi a b)]).isSome) (tst_eq (cmp_eq (x := .tup [.str kd.str, .int (lo a b), .int (hi a b)]) (y := .ref 9) (H1 := B st tl) (H2 := B st tl) (by kernel_rfl) (by kernel_rfl) (hasMade st tl _ _ hk))) (fun hd => ?_) fun hd => ?_))))
  · have hl : st.made.lookup [.s kd.str, .i (lo a b), .i (hi a b)] = Option.none := by simpa using hd
    have X := add_made (ins := [lo a b, hi a b]) I (fun x hx => by
      rcases List.mem_cons.mp hx with rfl | hx
      · exact hlo
      · rw [List.mem_singleton.mp hx]; exact hhi) h1 (.inr ⟨h2, _, _, rfl, hlh⟩) hl
    refine BP.flat (BP.sub (v := .int st.count) (x := .ref 9) (k := .tup [.str kd.str, .int (lo a b), .int (hi a b)]) (H1 := B { st with count := st.count + 1, cells := st.cells ++ [⟨kd, st.count, [lo a b, hi a b]⟩] } tl) (H2 := B (addC st kd [lo a b, hi a b] ((.s kd.str :: [lo a b, hi a b].map .i, st.count) :: st.made) st.opp) tl)
      (Eq.trans ?_ (add_cell_eq n st tl kd [lo a b, hi a b] (by rw [max20]; lia))) ?_ ?_ (setMade { st with count := st.count + 1, cells := st.cells ++ [⟨kd, st.count, [lo a b, hi a b]⟩] } tl _ _ hk st.count (by rw [max20]; show st.made.length < _; lia)) (BP.nil ?_))
    · kernel_rfl
    · kernel_rfl
    · kernel_rfl
    · refine BP.ret' (BP.ret (GP.some (st' := addC st kd [lo a b, hi a b] ((.s kd.str :: [lo a b, hi a b].map .i, st.count) :: st.made) st.opp) (y := st.count) (sub_eq (x := .ref 9) (y := .tup [.str kd.str, .int (lo a b), .int (hi a b)]) (H1 := B (addC st kd [lo a b, hi a b] ((.s kd.str :: [lo a b, hi a b].map .i, st.count) :: st.made) st.opp) tl) ?_ ?_ ((subMade _ tl _ _ hk).trans ?_)) ⟨X, new_in I, new_len, fun inp => ?_⟩))
      · kernel_rfl
      · kernel_rfl
      · show Option.map V.int (List.lookup _ (_ :: _)) = _
        rw [lookup_cons']
        exact congrArg (Option.map V.int) (if_pos rfl)
      · exact (addC_new kd [lo a b, hi a b] inp).trans (hg inp)
  · have hl : (st.made.lookup [.s kd.str, .i (lo a b), .i (hi a b)]).isSome = true := by simpa using hd
    obtain ⟨o, ho⟩ := Option.isSome_iff_exists.mp hl
    obtain ⟨h3, h4⟩ := made_val I (kd := kd) (ins := [lo a b, hi a b]) ho
    refine BP.ret' (BP.ret (GP.some (st' := st) (y := o) (sub_eq (x := .ref 9) (y := .tup [.str kd.str, .int (lo a b), .int (hi a b)]) (H1 := B st tl) ?_ ?_ ((subMade _ tl _ _ hk).trans (by rw [ho]; rfl))) ⟨Ext.refl I, h3, Nat.le_add_right _ _, fun inp => (h4 inp).trans (hg inp)⟩))
    · kernel_rfl
    · kernel_rfl
end
end Mine

namespace Mine
section
open PySem
set_option autoImplicit false

theorem or_eq {t1 t2 : M} {ρ : Rho} {H : St} {d1 d2 : Bool} (h1 : t1 ρ H = some (.bool d1, H)) (h2 : t2 ρ H = some (.bool d2, H)) : mOr t1 t2 ρ H = some (.bool (d1 || d2), H) := by
  unfold mOr; rw [h1]; cases d1 with
  | true => rfl
  | false => exact h2
theorem row_cons {a r : M} {ρ : Rho} {H H1 H2 : St} {x : V} {xs : List V} (h1 : a ρ H = some (x, H1)) (h2 : row r ρ H1 = some (xs, H2)) : row (mCons a r) ρ H = some (x :: xs, H2) := by
  show (mCons a r ρ H).bind vals = _
  unfold mCons; rw [h1, Option.bind_some, h2]; rfl
theorem meth_eq {P : Prg} {cf : Nat → List V → St → Option (V × St)} {o args : M} {m : Str} {ρ : Rho} {H H1 H2 : St} {v : V} {y : Nat × Nat × List (Str × V)} {f : Nat} {vs : List V} (h1 : o ρ H = some (v, H1)) (h2 : fsAt v H1 = some y) (h3 : P.meth y.1 m = some f) (h4 : row args ρ H1 = some (vs, H2)) :
    mMeth P cf o m args ρ H = cf f (v :: vs) H2 := by
  unfold mMeth methR; rw [h1, Option.bind_some, h2]; simp only [h3, Option.bind_some, h4]
theorem GP.of_eq {tl : List O} {Q : Int → NS → Prop} {r r' : Option (V × St)} (e : r = r') (h : GP tl r' Q) : GP tl r Q := e ▸ h
theorem GS.mono {st : NS} {tl : List O} {r : Option (V × St)} {k k' : Nat} {F : (Int → Bool) → Bool} (h : GS st tl r k F) (hk : k ≤ k') : GS st tl r k' F :=
  GP.mono h fun _ _ q => ⟨q.1, q.2.1, Nat.le_trans q.2.2.1 (Nat.add_le_add_left hk _), q.2.2.2⟩
theorem GS.congr {st : NS} {tl : List O} {r : Option (V × St)} {k : Nat} {F G : (Int → Bool) → Bool} (h : GS st tl r k F) (hk : ∀ inp, F inp = G inp) : GS st tl r k G :=
  GP.mono h fun _ _ q => ⟨q.1, q.2.1, q.2.2.1, fun inp => (q.2.2.2 inp).trans (hk inp)⟩
/-- one gate behind another -/
theorem GS.after {st st' : NS} {tl : List O} {r : Option (V × St)} {k j : Nat} {F : (Int → Bool) → Bool} (x : Ext st st') (hl : st'.cells.length ≤ st.cells.length + j) (h : GS st' tl r k F) : GS st tl r (j + k) F :=
  GP.mono h fun _ _ q => ⟨x.trans q.1, q.2.1, by have := q.2.2.1; lia, q.2.2.2⟩

theorem hasOpp (st : NS) (tl : List O) (a : Int) : cmpop .NotIn (.int a) (.ref 10) (B st tl) = some (!(st.opp.lookup a).isSome) := by
  have e : cmpop .NotIn (.int a) (.ref 10) (B st tl) = some (!((st.opp.map fun e => (e.1, V.int e.2)).lookup a).isSome) := by kernel_rfl
  rw [e, opp_lookup, Option.isSome_map]
theorem subOpp (st : NS) (tl : List O) (a : Int) : subscr (.ref 10) (.int a) (B st tl) = (st.opp.lookup a).map V.int := by
  have e : subscr (.ref 10) (.int a) (B st tl) = ((st.opp.map fun e => (e.1, V.int e.2)).lookup a <|> (Option.none <|> Option.none)) := by kernel_rfl
  rw [e, opp_lookup]
  cases st.opp.lookup a <;> rfl
theorem setOpp (st : NS) (tl : List O) (a o : Int) (h : st.opp.length < maxLen) : setAt (.ref 10) (.int a) (.int o) (B st tl) = some (B { st with opp := (a, o) :: st.opp } tl) := by
  have e : setAt (.ref 10) (.int a) (.int o) (B st tl) = (need (decide ((st.opp.map fun e => (e.1, V.int e.2)).length < maxLen)) (some ((B st tl).set 10 (.idict ((a, .int o) :: st.opp.map fun e => (e.1, V.int e.2))))) <|> Option.none) := by kernel_rfl
  rw [e, List.length_map, decide_eq_true h]
  rfl

theorem inv_spec (n : Nat) {st : NS} (tl : List O) (I : Inv st) (hr : Room2 st) {a : Int} (ha : Net st a) :
    GS st tl (callN prg (n + 3) 3 [.ref 7, .int a] (B st tl)) 1 fun inp => !nval st.cells inp a := by
  have hsz := I.szo
  have hr : st.cells.length ≤ 400000 := hr
  refine GP.run (b := b_Gates_inv) (ρ₀ := [some (.ref 7), some (.int a), Option.none]) (by kernel_rfl)
    (BP.cond (d := decide (a = 0) || decide (a = 1)) (tst_eq (or_eq (by kernel_rfl) (by kernel_rfl))) (fun hd => ?_) fun _ =>
      BP.when (d := !(st.opp.lookup a).isSome) (tst_eq (cmp_eq (x := .int a) (y := .ref 10) (H1 := B st tl) (H2 := B st tl) (by kernel_rfl) (by kernel_rfl) (hasOpp st tl a))) (fun hd => ?_) fun hd => ?_)
  · refine BP.ret (GS.same I (y := 1 - a) (by kernel_rfl) ?_ fun inp => ?_)
    · have := I.two
      rcases Bool.or_eq_true .. ▸ hd with h | h <;> have h := of_decide_eq_true h <;> subst h <;> constructor <;> lia
    · rcases Bool.or_eq_true .. ▸ hd with h | h <;> have h := of_decide_eq_true h <;> subst h
      · rw [show (1 - 0 : Int) = 1 from rfl, I.val0, I.val1]; rfl
      · rw [show (1 - 1 : Int) = 0 from rfl, I.val0, I.val1]; rfl
  · have hl : st.opp.lookup a = Option.none := by simpa using hd
    have X := add_not I ha hl
    refine BP.flat (BP.asg (v := .int st.count) (H1 := B { st with count := st.count + 1, cells := st.cells ++ [⟨.not, st.count, [a]⟩] } tl) (Eq.trans ?_ (add_cell_eq n st tl .not [a] (by rw [max20]; lia)))
      (BP.flat (BP.sub (v := .int st.count) (x := .ref 10) (k := .int a) (H1 := B { st with count := st.count + 1, cells := st.cells ++ [⟨.not, st.count, [a]⟩] } tl) ?_ ?_ ?_ (setOpp { st with count := st.count + 1, cells := st.cells ++ [⟨.not, st.count, [a]⟩] } tl a st.count (by rw [max20]; show st.opp.length < _; lia))
        (BP.flat (BP.sub (v := .int a) (x := .ref 10) (k := .int st.count) (H1 := B { st with count := st.count + 1, cells := st.cells ++ [⟨.not, st.count, [a]⟩], opp := (a, st.count) :: st.opp } tl) ?_ ?_ ?_ (setOpp { st with count := st.count + 1, cells := st.cells ++ [⟨.not, st.count, [a]⟩], opp := (a, st.count) :: st.opp } tl st.count a (by rw [max20]; show st.opp.length + 1 < _; lia))
          (BP.nil (BP.ret' (BP.ret (GP.some (st' := addC st .not [a] st.made ((st.count, a) :: (a, st.count) :: st.opp)) (y := st.count) (sub_eq (x := .ref 10) (y := .int a) (H1 := B (addC st .not [a] st.made ((st.count, a) :: (a, st.count) :: st.opp)) tl) ?_ ?_ ((subOpp _ tl a).trans ?_)) ⟨X, new_in I, new_len, fun inp => ?_⟩)))))))))
    iterate 9 (first | kernel_rfl | skip; rotate_left)
    · show Option.map V.int (List.lookup a (_ :: _ :: _)) = _
      have hne : ¬ a = st.count := by have := ha.2; lia
      rw [lookup_cons', if_neg hne, lookup_cons', if_pos rfl]; rfl
    · exact (addC_new .not [a] inp)
  · have hl : (st.opp.lookup a).isSome = true := by simpa using hd
    obtain ⟨o, ho⟩ := Option.isSome_iff_exists.mp hl
    have h3 := I.opp a o ho
    refine BP.ret' (BP.ret (GP.some (st' := st) (y := o) (sub_eq (x := .ref 10) (y := .int a) (H1 := B st tl) ?_ ?_ ((subOpp _ tl a).trans (by rw [ho]; rfl))) ⟨Ext.refl I, h3.2.1, Nat.le_add_right _ _, h3.2.2⟩))
    · kernel_rfl
    · kernel_rfl
end
end Mine

namespace Mine
section
open PySem
set_option autoImplicit false

theorem or3 {a b c : Prop} [Decidable a] [Decidable b] [Decidable c] (h : (decide a || (decide b || decide c)) = true) : a ∨ b ∨ c := by
  rcases Bool.or_eq_true .. ▸ h with h | h
  · exact .inl (of_decide_eq_true h)
  · rcases Bool.or_eq_true .. ▸ h with h | h
    · exact .inr (.inl (of_decide_eq_true h))
    · exact .inr (.inr (of_decide_eq_true h))
theorem or2' {a b : Prop} [Decidable a] [Decidable b] (h : (decide a || decide b) = true) : a ∨ b := by
  rcases Bool.or_eq_true .. ▸ h with h | h
  · exact .inl (of_decide_eq_true h)
  · exact .inr (of_decide_eq_true h)
theorem nor2 {a b : Prop} [Decidable a] [Decidable b] (h : (decide a || decide b) = false) : ¬ a ∧ ¬ b := by
  have := Bool.or_eq_false_iff.mp h
  exact ⟨of_decide_eq_false this.1, of_decide_eq_false this.2⟩

section
variable {st : NS} (tl : List O) (I : Inv st) {a b : Int} (ha : Net st a) (hb : Net st b)
include I ha hb

theorem both_spec (n : Nat) (hr : Room2 st) :
    GS st tl (callN prg (n + 4) 4 [.ref 7, .int a, .int b] (B st tl)) 1 fun inp => nval st.cells inp a && nval st.cells inp b := by
  refine GP.run (b := b_Gates_both) (ρ₀ := [some (.ref 7), some (.int a), some (.int b)]) (by kernel_rfl)
    (BP.cond (d := decide (a = 0) || (decide (b = 0) || decide (oppOf st a = b))) (tst_eq (or_eq (by kernel_rfl) (or_eq (by kernel_rfl) (Eq.trans (by kernel_rfl) (are_eq (n + 2) st tl a b))))) (fun hd => ?_) fun _ =>
      BP.cond (d := decide (a = 1) || decide (a = b)) (tst_eq (or_eq (by kernel_rfl) (by kernel_rfl))) (fun hd => ?_) fun _ =>
      BP.cond (d := decide (b = 1)) (tst_eq (by kernel_rfl)) (fun hd => ?_) fun _ =>
      BP.ret' (BP.ret (GP.of_eq (r' := callN prg (n + 3) 1 [.ref 7, .str Kd.and.str, .int a, .int b] (B st tl)) (by kernel_rfl) (pair_spec n tl I hr (by decide) (by decide) ha hb))))
  · refine BP.ret (GS.same I (y := 0) (by kernel_rfl) I.net0 fun inp => ?_)
    rw [I.val0]
    rcases or3 hd with h | h | h
    · rw [h, I.val0]; rfl
    · rw [h, I.val0, Bool.and_false]
    · rw [opp_val I hb h inp, Bool.and_not_self]
  · refine BP.ret (GS.same I (y := b) (by kernel_rfl) hb fun inp => ?_)
    rcases or2' hd with h | h
    · rw [h, I.val1, Bool.true_and]
    · rw [h, Bool.and_self]
  · refine BP.ret (GS.same I (y := a) (by kernel_rfl) ha fun inp => ?_)
    rw [of_decide_eq_true hd, I.val1, Bool.and_true]

theorem either_spec (n : Nat) (hr : Room2 st) :
    GS st tl (callN prg (n + 4) 5 [.ref 7, .int a, .int b] (B st tl)) 1 fun inp => nval st.cells inp a || nval st.cells inp b := by
  refine GP.run (b := b_Gates_either) (ρ₀ := [some (.ref 7), some (.int a), some (.int b)]) (by kernel_rfl)
    (BP.cond (d := decide (a = 1) || (decide (b = 1) || decide (oppOf st a = b))) (tst_eq (or_eq (by kernel_rfl) (or_eq (by kernel_rfl) (Eq.trans (by kernel_rfl) (are_eq (n + 2) st tl a b))))) (fun hd => ?_) fun _ =>
      BP.cond (d := decide (a = 0) || decide (a = b)) (tst_eq (or_eq (by kernel_rfl) (by kernel_rfl))) (fun hd => ?_) fun _ =>
      BP.cond (d := decide (b = 0)) (tst_eq (by kernel_rfl)) (fun hd => ?_) fun _ =>
      BP.ret' (BP.ret (GP.of_eq (r' := callN prg (n + 3) 1 [.ref 7, .str Kd.or.str, .int a, .int b] (B st tl)) (by kernel_rfl) (pair_spec n tl I hr (by decide) (by decide) ha hb))))
  · refine BP.ret (GS.same I (y := 1) (by kernel_rfl) I.net1 fun inp => ?_)
    rw [I.val1]
    rcases or3 hd with h | h | h
    · rw [h, I.val1]; rfl
    · rw [h, I.val1, Bool.or_true]
    · rw [opp_val I hb h inp, Bool.or_not_self]
  · refine BP.ret (GS.same I (y := b) (by kernel_rfl) hb fun inp => ?_)
    rcases or2' hd with h | h
    · rw [h, I.val0, Bool.false_or]
    · rw [h, Bool.or_self]
  · refine BP.ret (GS.same I (y := a) (by kernel_rfl) ha fun inp => ?_)
    rw [of_decide_eq_true hd, I.val0, Bool.or_false]

theorem differ_spec (n : Nat) (hr : Room2 st) :
    GS st tl (callN prg (n + 4) 6 [.ref 7, .int a, .int b] (B st tl)) 1 fun inp => xorB (nval st.cells inp a) (nval st.cells inp b) := by
  refine GP.run (b := b_Gates_differ) (ρ₀ := [some (.ref 7), some (.int a), some (.int b)]) (by kernel_rfl)
    (BP.cond (d := decide (a = b)) (tst_eq (by kernel_rfl)) (fun hd => ?_) fun _ =>
      BP.cond (d := decide (oppOf st a = b)) (tst_eq (Eq.trans (by kernel_rfl) (are_eq (n + 2) st tl a b))) (fun hd => ?_) fun _ =>
      BP.cond (d := decide (a = 0) || decide (a = 1)) (tst_eq (or_eq (by kernel_rfl) (by kernel_rfl))) (fun hd => ?_) fun _ =>
      BP.cond (d := decide (b = 0) || decide (b = 1)) (tst_eq (or_eq (by kernel_rfl) (by kernel_rfl))) (fun hd => ?_) fun _ =>
      BP.ret' (BP.ret (GP.of_eq (r' := callN prg (n + 3) 1 [.ref 7, .str Kd.xor.str, .int a, .int b] (B st tl)) (by kernel_rfl) (pair_spec n tl I hr (by decide) (by decide) ha hb))))
  · refine BP.ret (GS.same I (y := 0) (by kernel_rfl) I.net0 fun inp => ?_)
    rw [I.val0, of_decide_eq_true hd]
    cases nval st.cells inp b <;> rfl
  · refine BP.ret (GS.same I (y := 1) (by kernel_rfl) I.net1 fun inp => ?_)
    rw [I.val1, opp_val I hb (of_decide_eq_true hd) inp]
    cases nval st.cells inp a <;> rfl
  · rcases or2' hd with h | h
    · subst h
      exact BP.ret (GS.same I (y := b) (by kernel_rfl) hb fun inp => by rw [I.val0]; rfl)
    · subst h
      exact BP.ret (GP.of_eq (r' := callN prg (n + 3) 3 [.ref 7, .int b] (B st tl)) (by kernel_rfl) ((inv_spec n tl I hr hb).congr fun inp => by rw [I.val1]; rfl))
  · rcases or2' hd with h | h
    · subst h
      exact BP.ret (GS.same I (y := a) (by kernel_rfl) ha fun inp => by rw [I.val0]; cases nval st.cells inp a <;> rfl)
    · subst h
      exact BP.ret (GP.of_eq (r' := callN prg (n + 3) 3 [.ref 7, .int a] (B st tl)) (by kernel_rfl) ((inv_spec n tl I hr ha).congr fun inp => by rw [I.val1]; cases nval st.cells inp a <;> rfl))

theorem same_spec (n : Nat) (hr : st.cells.length ≤ 300000) :
    GS st tl (callN prg (n + 5) 7 [.ref 7, .int a, .int b] (B st tl)) 2 fun inp => !xorB (nval st.cells inp a) (nval st.cells inp b) := by
  obtain ⟨y, st', e, q⟩ := differ_spec tl I ha hb n (show _ ≤ _ by lia)
  refine GP.run (b := b_Gates_same) (ρ₀ := [some (.ref 7), some (.int a), some (.int b)]) (by kernel_rfl) (BP.ret' (BP.ret (GP.of_eq (meth_eq (v := .ref 7) (y := (0, 8, [("netlist", .ref 2), ("made", .ref 9), ("opposite", .ref 10)])) (f := 3) (H1 := B st tl) (H2 := B st' tl) (vs := [.int y]) ?_ ?_ ?_ (row_cons (H1 := B st' tl) (x := .int y) (Eq.trans ?_ e) ?_)) ?_)))
  · kernel_rfl
  · kernel_rfl
  · kernel_rfl
  · kernel_rfl
  · kernel_rfl
  · exact (GS.after (k := 1) (j := 1) q.1 q.2.2.1 (inv_spec (n + 1) tl q.1.inv (show _ ≤ _ by have := q.2.2.1; lia) q.2.1)).congr fun inp => by rw [q.2.2.2 inp]
end
end
end Mine

namespace Mine
section
open PySem
set_option autoImplicit false

theorem mux_spec (n : Nat) {st : NS} (tl : List O) (I : Inv st) {s a b : Int} (hs : Net st s) (ha : Net st a) (hb : Net st b) (hr : st.cells.length ≤ 300000) :
    GS st tl (callN prg (n + 5) 8 [.ref 7, .int s, .int a, .int b] (B st tl)) 2 fun inp => if nval st.cells inp s = true then nval st.cells inp b else nval st.cells inp a := by
  have hr2 : Room2 st := by show _ ≤ _; lia
  have hsz := I.szm
  have hk : atomsOf [.str Kd.mux.str, .int s, .int a, .int b] = some [.s Kd.mux.str, .i s, .i a, .i b] := rfl
  refine GP.run (b := b_Gates_mux) (ρ₀ := [some (.ref 7), some (.int s), some (.int a), some (.int b), Option.none]) (by kernel_rfl)
    (BP.cond (d := decide (s = 0) || decide (a = b)) (tst_eq (or_eq (by kernel_rfl) (by kernel_rfl))) (fun hd => ?_) fun _ =>
      BP.cond (d := decide (s = 1)) (tst_eq (by kernel_rfl)) (fun hd => ?_) fun _ =>
      BP.cond (d := decide (a = 0) || decide (a = s)) (tst_eq (or_eq (by kernel_rfl) (by kernel_rfl))) (fun hd => ?_) fun _ =>
      BP.cond (d := decide (b = 1) || decide (b = s)) (tst_eq (or_eq (by kernel_rfl) (by kernel_rfl))) (fun hd => ?_) fun _ =>
      BP.cond (d := decide (a = 1) || decide (oppOf st a = s)) (tst_eq (or_eq (by kernel_rfl) (Eq.trans (by kernel_rfl) (are_eq (n + 3) st tl a s)))) (fun hd => ?_) fun _ =>
      BP.cond (d := decide (b = 0) || decide (oppOf st b = s)) (tst_eq (or_eq (by kernel_rfl) (Eq.trans (by kernel_rfl) (are_eq (n + 3) st tl b s)))) (fun hd => ?_) fun _ =>
      BP.cond (d := decide (oppOf st a = b)) (tst_eq (Eq.trans (by kernel_rfl) (are_eq (n + 3) st tl a b))) (fun hd => ?_) fun _ =>
      (BP.asg (v := .tup [.str Kd.mux.str, .int s, .int a, .int b]) (H1 := B st tl) (by kernel_rfl)
      (BP.when (d := !(st.made.lookup [.s Kd.mux.str, .i s, .i a, .i b]).isSome) (tst_eq (cmp_eq (x := .tup [.str Kd.mux.str, .int s, .int a, .int b]) (y := .ref 9) (H1 := B st tl) (H2 := B st tl) (by kernel_rfl) (by kernel_rfl) (hasMade st tl _ _ hk))) (fun hd => ?_) fun hd => ?_)))
  · refine BP.ret (GS.same I (y := a) (by kernel_rfl) ha fun inp => ?_)
    rcases or2' hd with h | h
    · rw [h, I.val0]; rfl
    · rw [h, ite_self]
  · refine BP.ret (GS.same I (y := b) (by kernel_rfl) hb fun inp => ?_)
    rw [of_decide_eq_true hd, I.val1]; rfl
  · refine BP.ret (GP.of_eq (r' := callN prg (n + 4) 4 [.ref 7, .int s, .int b] (B st tl)) (by kernel_rfl) (GS.congr ((both_spec tl I hs hb n hr2).mono (by lia)) fun inp => ?_))
    rcases or2' hd with h | h
    · rw [h, I.val0]; cases nval st.cells inp s <;> rfl
    · rw [h]; cases nval st.cells inp s <;> rfl
  · refine BP.ret (GP.of_eq (r' := callN prg (n + 4) 5 [.ref 7, .int s, .int a] (B st tl)) (by kernel_rfl) (GS.congr ((either_spec tl I hs ha n hr2).mono (by lia)) fun inp => ?_))
    rcases or2' hd with h | h
    · rw [h, I.val1]; cases nval st.cells inp s <;> rfl
    · rw [h]; cases nval st.cells inp s <;> rfl
  · obtain ⟨y, st', e, q⟩ := inv_spec (n + 1) tl I hr2 hs
    refine BP.ret (GP.of_eq (meth_eq (v := .ref 7) (y := (0, 8, [("netlist", .ref 2), ("made", .ref 9), ("opposite", .ref 10)])) (f := 5) (H1 := B st tl) (H2 := B st' tl) (vs := [.int y, .int b]) (by kernel_rfl) (by kernel_rfl) (by kernel_rfl) (row_cons (H1 := B st' tl) (x := .int y) (Eq.trans (by kernel_rfl) e) (by kernel_rfl))) ?_)
    refine (GS.after (k := 1) (j := 1) q.1 q.2.2.1 (either_spec tl q.1.inv q.2.1 (q.1.net hb) n (show _ ≤ _ by have := q.2.2.1; lia))).congr fun inp => ?_
    rw [q.2.2.2 inp, q.1.val inp b hb.2]
    show (!nval st.cells inp s || nval st.cells inp b) = _
    rcases or2' hd with h | h
    · rw [h, I.val1]; cases nval st.cells inp s <;> rfl
    · rw [opp_val I hs h inp]; cases nval st.cells inp a <;> cases nval st.cells inp b <;> rfl
  · obtain ⟨y, st', e, q⟩ := inv_spec (n + 1) tl I hr2 hs
    refine BP.ret (GP.of_eq (meth_eq (v := .ref 7) (y := (0, 8, [("netlist", .ref 2), ("made", .ref 9), ("opposite", .ref 10)])) (f := 4) (H1 := B st tl) (H2 := B st' tl) (vs := [.int y, .int a]) (by kernel_rfl) (by kernel_rfl) (by kernel_rfl) (row_cons (H1 := B st' tl) (x := .int y) (Eq.trans (by kernel_rfl) e) (by kernel_rfl))) ?_)
    refine (GS.after (k := 1) (j := 1) q.1 q.2.2.1 (both_spec tl q.1.inv q.2.1 (q.1.net ha) n (show _ ≤ _ by have := q.2.2.1; lia))).congr fun inp => ?_
    rw [q.2.2.2 inp, q.1.val inp a ha.2]
    show (!nval st.cells inp s && nval st.cells inp a) = _
    rcases or2' hd with h | h
    · rw [h, I.val0]; cases nval st.cells inp s <;> rfl
    · rw [opp_val I hs h inp]; cases nval st.cells inp b <;> cases nval st.cells inp a <;> rfl
  · refine BP.ret (GP.of_eq (r' := callN prg (n + 4) 6 [.ref 7, .int s, .int a] (B st tl)) (by kernel_rfl) (GS.congr ((differ_spec tl I hs ha n hr2).mono (by lia)) fun inp => ?_))
    rw [opp_val I hb (of_decide_eq_true hd) inp]; rfl
  · have hl : st.made.lookup [.s Kd.mux.str, .i s, .i a, .i b] = Option.none := by simpa using hd
    have X := add_made (ins := [s, a, b]) (kd := .mux) I (fun x hx => by
      rcases List.mem_cons.mp hx with rfl | hx
      · exact hs
      · rcases List.mem_cons.mp hx with rfl | hx
        · exact ha
        · rw [List.mem_singleton.mp hx]; exact hb) (by decide) (.inl ⟨rfl, rfl⟩) hl
    refine BP.flat (BP.sub (v := .int st.count) (x := .ref 9) (k := .tup [.str Kd.mux.str, .int s, .int a, .int b]) (H1 := B { st with count := st.count + 1, cells := st.cells ++ [⟨.mux, st.count, [s, a, b]⟩] } tl) (H2 := B (addC st .mux [s, a, b] ((.s Kd.mux.str :: [s, a, b].map .i, st.count) :: st.made) st.opp) tl)
      (Eq.trans ?_ (add_cell_eq (n + 2) st tl .mux [s, a, b] (by rw [max20]; lia))) ?_ ?_ (setMade { st with count := st.count + 1, cells := st.cells ++ [⟨.mux, st.count, [s, a, b]⟩] } tl _ _ hk st.count (by rw [max20]; show st.made.length < _; lia)) (BP.nil ?_))
    · kernel_rfl
    · kernel_rfl
    · kernel_rfl
    · refine BP.ret' (BP.ret (GP.some (st' := addC st .mux [s, a, b] ((.s Kd.mux.str :: [s, a, b].map .i, st.count) :: st.made) st.opp) (y := st.count) (sub_eq (x := .ref 9) (y := .tup [.str Kd.mux.str, .int s, .int a, .int b]) (H1 := B (addC st .mux [s, a, b] ((.s Kd.mux.str :: [s, a, b].map .i, st.count) :: st.made) st.opp) tl) ?_ ?_ ((subMade _ tl _ _ hk).trans ?_)) ⟨X, new_in I, Nat.le_trans new_len (Nat.le_succ _), fun inp => ?_⟩))
      · kernel_rfl
      · kernel_rfl
      · show Option.map V.int (List.lookup _ (_ :: _)) = _
        rw [lookup_cons']
        exact congrArg (Option.map V.int) (if_pos rfl)
      · exact addC_new .mux [s, a, b] inp
  · have hl : (st.made.lookup [.s Kd.mux.str, .i s, .i a, .i b]).isSome = true := by simpa using hd
    obtain ⟨o, ho⟩ := Option.isSome_iff_exists.mp hl
    obtain ⟨h3, h4⟩ := made_val I (kd := .mux) (ins := [s, a, b]) ho
    refine BP.ret' (BP.ret (GP.some (st' := st) (y := o) (sub_eq (x := .ref 9) (y := .tup [.str Kd.mux.str, .int s, .int a, .int b]) (H1 := B st tl) ?_ ?_ ((subMade _ tl _ _ hk).trans (by rw [ho]; rfl))) ⟨Ext.refl I, h3, Nat.le_add_right _ _, h4⟩))
    · kernel_rfl
    · kernel_rfl
end
end Mine

namespace Mine
section
open PySem
set_option autoImplicit false

/-! the second run: nets as tables -/
noncomputable def asNet : Sy → Option Nat
  | .net t => some t
  | _ => Option.none
noncomputable def netT (full : Nat) (v : V) : Option Nat := ((asY v).bind asNet) <|> (asI v).bind fun i => if i = 0 then some 0 else if i = 1 then some full else Option.none
noncomputable def gateT (full f : Nat) (ts : List Nat) : Option Nat :=
  if f = 3 then (one ts).map fun a => full ^^^ a else if f = 4 then (two ts).map fun p => p.1 &&& p.2 else if f = 5 then (two ts).map fun p => p.1 ||| p.2 else
  if f = 6 then (two ts).map fun p => p.1 ^^^ p.2 else if f = 7 then (two ts).map fun p => full ^^^ (p.1 ^^^ p.2) else if f = 8 then (three ts).map fun p => (p.1 &&& p.2.2) ||| ((full ^^^ p.1) &&& p.2.1) else Option.none
noncomputable def isGate (f : Nat) : Bool := decide (3 ≤ f ∧ f ≤ 8)
/-- one more call of a gate -/
noncomputable def tick (H : St) : Option St := (H[2]?.bind oC).bind fun c => need (decide (c.1 < 100000)) (some (H.set 2 (.inst (c.1 + 1) c.2)))
noncomputable def headR (as : List V) : Option (Nat × List V) := as.head?.bind fun g => (asR g).map fun n => (n, as.tail)
noncomputable def gateA (full f : Nat) (args : List V) (H : St) : Option (V × St) := (headR args).bind fun p => need (decide (p.1 = 0)) ((mapO (netT full) p.2).bind fun ts => (gateT full f ts).bind fun t => (tick H).map fun H' => (.sym (.net t), H'))
/-- functions that the second run may call -/
noncomputable def okF (f : Nat) : Bool := decide (9 ≤ f ∧ f ≤ 28) || decide (f = 37) || decide (41 ≤ f ∧ f ≤ 44)
noncomputable def callA (P : Prg) (full : Nat) : Nat → Nat → List V → St → Option (V × St)
  | 0, _, _, _ => Option.none
  | k + 1, f, args, H => if isGate f = true then gateA full f args H else need (okF f) (runFn P (callA P full k) f args H)

noncomputable def A (c : Nat) (L : List (List V)) : St := .inst 0 1 :: .ns [] :: .inst c 0 :: L.map .list

/-- what the signs stand for -/
structure Sc where
  al : (Int → Bool) → Nat
  m : Nat
  r : Nat
  R : Nat
  K : Nat
  hal : ∀ inp, al inp < m
  hr : r < R
  hK : K ≤ 90000

/-- both runs' state -/
structure W where
  c : Nat
  L : List (List V)
  st : NS
  ι : List Nat
  tl : List O
noncomputable def W.h2 (w : W) : St := A w.c w.L
noncomputable def W.h1 (w : W) : St := B w.st w.tl

inductive SR (sc : Sc) (w : W) : V → V → Prop
  | none : SR sc w .none .none
  | bool (b : Bool) : SR sc w (.bool b) (.bool b)
  | int (i : Int) : SR sc w (.int i) (.int i)
  | str (s : Str) : SR sc w (.str s) (.str s)
  | rng (a b s : Int) : SR sc w (.rng a b s) (.rng a b s)
  | ref (j i : Nat) : w.ι[j]? = some i → SR sc w (.ref (j + 3)) (.ref (i + 11))
  | g : SR sc w (.ref 0) (.ref 7)
  | tup (xs ys : List V) : xs.length = ys.length → (∀ (k : Nat) (x y : V), xs[k]? = some x → ys[k]? = some y → SR sc w x y) → SR sc w (.tup xs) (.tup ys)
  | net (t : Nat) (n : Int) : Net w.st n → (∀ inp, nval w.st.cells inp n = t.testBit (sc.al inp)) → SR sc w (.sym (.net t)) (.int n)
  | msk (b : Bool) (n : Nat) : n < 2 ^ sc.R → n.testBit sc.r = b → SR sc w (.sym (.msk b)) (.int (n : Int))
  | full : SR sc w (.sym .full) (.int ((2 ^ sc.R - 1 : Nat) : Int))

noncomputable def SRs (sc : Sc) (w : W) (xs ys : List V) : Prop := xs.length = ys.length ∧ ∀ (k : Nat) (x y : V), xs[k]? = some x → ys[k]? = some y → SR sc w x y
noncomputable def SRho (sc : Sc) (w : W) (ρ2 ρ1 : Rho) : Prop := ρ2.length = ρ1.length ∧ ∀ (i : Nat) (x : V), ρ2[i]? = some (some x) → ∃ y, ρ1[i]? = some (some y) ∧ SR sc w x y

structure Ok (sc : Sc) (w : W) : Prop where
  inv : Inv w.st
  len : w.ι.length = w.L.length
  inj : ∀ j j' i : Nat, w.ι[j]? = some i → w.ι[j']? = some i → j = j'
  lists : ∀ (j : Nat) (xs : List V), w.L[j]? = some xs → ∃ i ys, w.ι[j]? = some i ∧ w.tl[i]? = some (.list ys) ∧ SRs sc w xs ys
  cap : w.st.cells.length ≤ 2 * w.c + sc.K
  lim : w.c ≤ 100000

structure Go (w w' : W) : Prop where
  ext : Ext w.st w'.st
  io : ∀ j i : Nat, w.ι[j]? = some i → w'.ι[j]? = some i
  rest : ∀ (i : Nat) (o : O), (∀ j : Nat, w.ι[j]? ≠ some i) → w.tl[i]? = some o → w'.tl[i]? = some o ∧ ∀ j : Nat, w'.ι[j]? ≠ some i
  cle : w.c ≤ w'.c
  same : w'.c = w.c → w'.st = w.st

theorem Go.refl {w : W} (I : Inv w.st) : Go w w := ⟨Ext.refl I, fun _ _ h => h, fun _ _ h e => ⟨e, h⟩, Nat.le_refl _, fun _ => rfl⟩
theorem Go.trans {a b c : W} (x : Go a b) (y : Go b c) : Go a c := ⟨x.ext.trans y.ext, fun j i h => y.io j i (x.io j i h), fun i o h e => let ⟨e', h'⟩ := x.rest i o h e; y.rest i o h' e', Nat.le_trans x.cle y.cle, fun h => (y.same (by have := x.cle; have := y.cle; lia)).trans (x.same (by have := x.cle; have := y.cle; lia))⟩

section
variable {sc : Sc} {w w' : W}
theorem SR.mono {a b : V} (h : SR sc w a b) (g : Go w w') : SR sc w' a b := by
  induction h with
  | none => exact .none
  | bool b => exact .bool b
  | int i => exact .int i
  | str s => exact .str s
  | rng a b s => exact .rng a b s
  | ref j i h => exact .ref j i (g.io j i h)
  | g => exact .g
  | tup xs ys h _ ih => exact .tup xs ys h ih
  | net t n h1 h2 => exact .net t n (g.ext.net h1) fun inp => (g.ext.val inp n h1.2).trans (h2 inp)
  | msk b n h1 h2 => exact .msk b n h1 h2
  | full => exact .full
theorem SRs.mono {xs ys : List V} (h : SRs sc w xs ys) (g : Go w w') : SRs sc w' xs ys := ⟨h.1, fun k x y e1 e2 => (h.2 k x y e1 e2).mono g⟩
theorem SRho.mono {ρ2 ρ1 : Rho} (h : SRho sc w ρ2 ρ1) (g : Go w w') : SRho sc w' ρ2 ρ1 := ⟨h.1, fun i x e => let ⟨y, e1, e2⟩ := h.2 i x e; ⟨y, e1, e2.mono g⟩⟩

theorem SRs.nil : SRs sc w [] [] := ⟨rfl, fun _ _ _ h => by cases h⟩
theorem SRs.cons {x y : V} {xs ys : List V} (h : SR sc w x y) (hs : SRs sc w xs ys) : SRs sc w (x :: xs) (y :: ys) := by
  refine ⟨congrArg (· + 1) hs.1, fun k a b e1 e2 => ?_⟩
  cases k with
  | zero => cases e1; cases e2; exact h
  | succ k => exact hs.2 k a b e1 e2
theorem SRs.uncons {x : V} {xs zs : List V} (h : SRs sc w (x :: xs) zs) : ∃ y ys, zs = y :: ys ∧ SR sc w x y ∧ SRs sc w xs ys := by
  cases zs with
  | nil => cases h.1
  | cons y ys => exact ⟨y, ys, rfl, h.2 0 x y rfl rfl, Nat.succ.inj h.1, fun k a b e1 e2 => h.2 (k + 1) a b e1 e2⟩
theorem SRs.nil_inv {zs : List V} (h : SRs sc w [] zs) : zs = [] := List.length_eq_zero_iff.mp h.1.symm
theorem SRs.get {xs ys : List V} (h : SRs sc w xs ys) {k : Nat} {x : V} (e : xs[k]? = some x) : ∃ y, ys[k]? = some y ∧ SR sc w x y := by
  obtain ⟨hk, e1⟩ := List.getElem?_eq_some_iff.mp e
  have hk' : k < ys.length := h.1 ▸ hk
  exact ⟨ys[k], List.getElem?_eq_getElem hk', h.2 k x _ e (List.getElem?_eq_getElem hk')⟩
theorem SRs.app {xs ys xs' ys' : List V} (h : SRs sc w xs ys) (h' : SRs sc w xs' ys') : SRs sc w (xs ++ xs') (ys ++ ys') := by
  induction xs generalizing ys with
  | nil => cases h.nil_inv; exact h'
  | cons x xs ih => obtain ⟨y, ys, rfl, h1, h2⟩ := h.uncons; exact (ih h2).cons h1
theorem SRs.one {x y : V} (h : SR sc w x y) : SRs sc w [x] [y] := SRs.nil.cons h
theorem SRs.set {xs ys : List V} (h : SRs sc w xs ys) {x y : V} (hx : SR sc w x y) (k : Nat) : SRs sc w (xs.set k x) (ys.set k y) := by
  refine ⟨by simp [h.1], fun j a b e1 e2 => ?_⟩
  rw [List.getElem?_set] at e1 e2
  by_cases hj : k = j
  · rw [if_pos hj] at e1 e2
    by_cases hl : k < xs.length
    · rw [if_pos hl] at e1; rw [if_pos (h.1 ▸ hl)] at e2; cases e1; cases e2; exact hx
    · rw [if_neg hl] at e1; cases e1
  · rw [if_neg hj] at e1 e2; exact h.2 j a b e1 e2
theorem SRs.take {xs ys : List V} (h : SRs sc w xs ys) (k : Nat) : SRs sc w (xs.take k) (ys.take k) := by
  refine ⟨by simp [h.1], fun j a b e1 e2 => ?_⟩
  rw [List.getElem?_take] at e1 e2
  by_cases hj : j < k
  · rw [if_pos hj] at e1 e2; exact h.2 j a b e1 e2
  · rw [if_neg hj] at e1; cases e1
theorem SRs.drop {xs ys : List V} (h : SRs sc w xs ys) (k : Nat) : SRs sc w (xs.drop k) (ys.drop k) := by
  refine ⟨by simp [h.1], fun j a b e1 e2 => ?_⟩
  rw [List.getElem?_drop] at e1 e2
  exact h.2 _ a b e1 e2
theorem SRs.rep {x y : V} (h : SR sc w x y) (n : Nat) : SRs sc w (List.replicate n x) (List.replicate n y) := by
  induction n with
  | zero => exact .nil
  | succ n ih => exact ih.cons h

/-! what a related value is -/
theorem SR.int_inv {i : Int} {b : V} (h : SR sc w (.int i) b) : b = .int i := by cases h; rfl
theorem SR.bool_inv {i : Bool} {b : V} (h : SR sc w (.bool i) b) : b = .bool i := by cases h; rfl
theorem SR.str_inv {i : Str} {b : V} (h : SR sc w (.str i) b) : b = .str i := by cases h; rfl
theorem SR.none_inv {b : V} (h : SR sc w .none b) : b = .none := by cases h; rfl
theorem SR.rng_inv {x y z : Int} {b : V} (h : SR sc w (.rng x y z) b) : b = .rng x y z := by cases h; rfl
theorem SR.tup_inv {xs : List V} {b : V} (h : SR sc w (.tup xs) b) : ∃ ys, b = .tup ys ∧ SRs sc w xs ys := by cases h with | tup _ ys h1 h2 => exact ⟨ys, rfl, h1, h2⟩
theorem SR.ref_inv {n : Nat} {b : V} (h : SR sc w (.ref n) b) : (n = 0 ∧ b = .ref 7) ∨ ∃ j i, n = j + 3 ∧ b = .ref (i + 11) ∧ w.ι[j]? = some i := by
  cases h with
  | ref j i h => exact .inr ⟨j, i, rfl, rfl, h⟩
  | g => exact .inl ⟨rfl, rfl⟩
theorem SR.net_inv {t : Nat} {b : V} (h : SR sc w (.sym (.net t)) b) : ∃ n, b = .int n ∧ Net w.st n ∧ ∀ inp, nval w.st.cells inp n = t.testBit (sc.al inp) := by
  cases h with | net _ n h1 h2 => exact ⟨n, rfl, h1, h2⟩
theorem SR.msk_inv {c : Bool} {b : V} (h : SR sc w (.sym (.msk c)) b) : ∃ n : Nat, b = .int n ∧ n < 2 ^ sc.R ∧ n.testBit sc.r = c := by
  cases h with | msk _ n h1 h2 => exact ⟨n, rfl, h1, h2⟩
theorem SR.full_inv {b : V} (h : SR sc w (.sym .full) b) : b = .int ((2 ^ sc.R - 1 : Nat) : Int) := by cases h; rfl
end

theorem asI_inv {v : V} {i : Int} (h : asI v = some i) : v = .int i := by cases v <;> first | cases h; rfl | cases h
theorem asS_inv {v : V} {i : Str} (h : asS v = some i) : v = .str i := by cases v <;> first | cases h; rfl | cases h
theorem asB_inv {v : V} {i : Bool} (h : asB v = some i) : v = .bool i := by cases v <;> first | cases h; rfl | cases h
theorem asR_inv {v : V} {i : Nat} (h : asR v = some i) : v = .ref i := by cases v <;> first | cases h; rfl | cases h
theorem asT_inv {v : V} {i : List V} (h : asT v = some i) : v = .tup i := by cases v <;> first | cases h; rfl | cases h
theorem asG_inv {v : V} {i : Int × Int × Int} (h : asG v = some i) : v = .rng i.1 i.2.1 i.2.2 := by cases v <;> first | cases h; rfl | cases h
theorem asY_inv {v : V} {i : Sy} (h : asY v = some i) : v = .sym i := by cases v <;> first | cases h; rfl | cases h
theorem oL_inv {v : O} {i : List V} (h : oL v = some i) : v = .list i := by cases v <;> first | cases h; rfl | cases h
theorem need_inv {α : Type} {b : Bool} {x : Option α} {y : α} (h : need b x = some y) : b = true ∧ x = some y := by
  cases b with
  | true => exact ⟨rfl, h⟩
  | false => cases h
theorem need_true {α : Type} {b : Bool} {x : Option α} (h : b = true) : need b x = x := by rw [h]; rfl
theorem alt_inv {α : Type} {a b : Option α} {x : α} (h : (a <|> b) = some x) : a = some x ∨ (a = Option.none ∧ b = some x) := by
  cases a with
  | none => exact .inr ⟨rfl, h⟩
  | some y => exact .inl h
theorem alt_left {α : Type} {a b : Option α} {x : α} (h : a = some x) : (a <|> b) = some x := by rw [h]; rfl
theorem alt_right {α : Type} {a b : Option α} {x : α} (h1 : a = Option.none) (h : b = some x) : (a <|> b) = some x := by rw [h1]; exact h
theorem bind_inv {α β : Type} {a : Option α} {f : α → Option β} {x : β} (h : a.bind f = some x) : ∃ y, a = some y ∧ f y = some x := Option.bind_eq_some_iff.mp h
theorem map_inv {α β : Type} {a : Option α} {f : α → β} {x : β} (h : a.map f = some x) : ∃ y, a = some y ∧ f y = x := Option.map_eq_some_iff.mp h
theorem bind_at {α β : Type} {a : Option α} {f : α → Option β} {y : α} {x : Option β} (h : a = some y) (h2 : f y = x) : a.bind f = x := by rw [h]; exact h2
theorem map_at {α β : Type} {a : Option α} {f : α → β} {y : α} (h : a = some y) : a.map f = some (f y) := by rw [h]; rfl
theorem one_inv {α : Type} {xs : List α} {x : α} (h : one xs = some x) : xs = [x] := by
  match xs, h with
  | [a], h => cases h; rfl
theorem two_inv {α : Type} {xs : List α} {x : α × α} (h : two xs = some x) : xs = [x.1, x.2] := by
  match xs, h with
  | [a, b], h => cases h; rfl
theorem three_inv {α : Type} {xs : List α} {x : α × α × α} (h : three xs = some x) : xs = [x.1, x.2.1, x.2.2] := by
  match xs, h with
  | [a, b, c], h => cases h; rfl
end
end Mine

namespace Mine
section
open PySem
set_option autoImplicit false

noncomputable def Sim {τ2 τ1 : Type} (sc : Sc) (w : W) (r2 : Option τ2) (r1 : Option τ1) (Q : W → τ2 → τ1 → Prop) : Prop :=
  ∀ x, r2 = some x → ∃ w' y, r1 = some y ∧ Go w w' ∧ Ok sc w' ∧ Q w' x y
/-- a value and the heap -/
noncomputable def QE (sc : Sc) (w : W) (x y : V × St) : Prop := ∃ a b, x = (a, w.h2) ∧ y = (b, w.h1) ∧ SR sc w a b
noncomputable def QR (sc : Sc) (w : W) (x y : List V × St) : Prop := ∃ a b, x = (a, w.h2) ∧ y = (b, w.h1) ∧ SRs sc w a b
noncomputable def QB (w : W) (x y : Bool × St) : Prop := ∃ a, x = (a, w.h2) ∧ y = (a, w.h1)

section
variable {sc : Sc} {w : W} {α2 α1 τ2 τ1 : Type} {Q : W → τ2 → τ1 → Prop} {R : W → α2 → α1 → Prop}
theorem Sim.bind {r2 : Option α2} {r1 : Option α1} {k2 : α2 → Option τ2} {k1 : α1 → Option τ1} (h : Sim sc w r2 r1 R) (hk : ∀ w' x y, Go w w' → Ok sc w' → R w' x y → Sim sc w' (k2 x) (k1 y) Q) : Sim sc w (r2.bind k2) (r1.bind k1) Q := by
  intro z hz
  obtain ⟨x, e1, e2⟩ := bind_inv hz
  obtain ⟨w', y, e3, g, o, q⟩ := h x e1
  obtain ⟨w'', y', e4, g', o', q'⟩ := hk w' x y g o q z e2
  exact ⟨w'', y', bind_at e3 e4, g.trans g', o', q'⟩
theorem Sim.map {r2 : Option α2} {r1 : Option α1} {k2 : α2 → τ2} {k1 : α1 → τ1} (h : Sim sc w r2 r1 R) (hk : ∀ w' x y, Go w w' → R w' x y → Q w' (k2 x) (k1 y)) : Sim sc w (r2.map k2) (r1.map k1) Q := by
  intro z hz
  obtain ⟨x, e1, rfl⟩ := map_inv hz
  obtain ⟨w', y, e3, g, o, q⟩ := h x e1
  exact ⟨w', _, map_at e3, g, o, hk w' x y g q⟩
/-- no step -/
theorem Sim.here (o : Ok sc w) {x : τ2} {y : τ1} (q : Q w x y) : Sim sc w (some x) (some y) Q := by
  intro z hz; cases hz; exact ⟨w, y, rfl, Go.refl o.inv, o, q⟩
theorem Sim.pure (o : Ok sc w) {r2 : Option τ2} {r1 : Option τ1} (h : ∀ x, r2 = some x → ∃ y, r1 = some y ∧ Q w x y) : Sim sc w r2 r1 Q := by
  intro z hz; obtain ⟨y, e, q⟩ := h z hz; exact ⟨w, y, e, Go.refl o.inv, o, q⟩
theorem Sim.bindE {r2 r1 : Option (V × St)} {k2 : V × St → Option τ2} {k1 : V × St → Option τ1} (h : Sim sc w r2 r1 (QE sc)) (hk : ∀ w' a b, Go w w' → Ok sc w' → SR sc w' a b → Sim sc w' (k2 (a, w'.h2)) (k1 (b, w'.h1)) Q) : Sim sc w (r2.bind k2) (r1.bind k1) Q :=
  h.bind fun w' _ _ g o ⟨a, b, e1, e2, s⟩ => e1 ▸ e2 ▸ hk w' a b g o s
theorem Sim.bindR {r2 r1 : Option (List V × St)} {k2 : List V × St → Option τ2} {k1 : List V × St → Option τ1} (h : Sim sc w r2 r1 (QR sc)) (hk : ∀ w' a b, Go w w' → Ok sc w' → SRs sc w' a b → Sim sc w' (k2 (a, w'.h2)) (k1 (b, w'.h1)) Q) : Sim sc w (r2.bind k2) (r1.bind k1) Q :=
  h.bind fun w' _ _ g o ⟨a, b, e1, e2, s⟩ => e1 ▸ e2 ▸ hk w' a b g o s
theorem Sim.bindB {r2 r1 : Option (Bool × St)} {k2 : Bool × St → Option τ2} {k1 : Bool × St → Option τ1} (h : Sim sc w r2 r1 QB) (hk : ∀ w' a, Go w w' → Ok sc w' → Sim sc w' (k2 (a, w'.h2)) (k1 (a, w'.h1)) Q) : Sim sc w (r2.bind k2) (r1.bind k1) Q :=
  h.bind fun w' _ _ g o ⟨a, e1, e2⟩ => e1 ▸ e2 ▸ hk w' a g o
/-- a reading that both sides do alike -/
theorem Sim.read {β : Type} {f2 f1 : Option β} {k2 : β → Option τ2} {k1 : β → Option τ1} (h : ∀ i, f2 = some i → f1 = some i) (hk : ∀ i, Sim sc w (k2 i) (k1 i) Q) : Sim sc w (f2.bind k2) (f1.bind k1) Q := by
  intro z hz
  obtain ⟨i, e1, e2⟩ := bind_inv hz
  obtain ⟨w', y, e3, r⟩ := hk i z e2
  exact ⟨w', y, bind_at (h i e1) e3, r⟩
theorem Sim.need {b2 b1 : Bool} {r2 : Option τ2} {r1 : Option τ1} (hb : b2 = true → b1 = true) (h : Sim sc w r2 r1 Q) : Sim sc w (Mine.need b2 r2) (Mine.need b1 r1) Q := by
  intro z hz
  obtain ⟨e1, e2⟩ := need_inv hz
  rw [need_true (hb e1)]; exact h z e2

theorem SR.asI {a b : V} (h : SR sc w a b) (i : Int) (e : asI a = some i) : asI b = some i := by
  have := asI_inv e; subst this; rw [h.int_inv]; rfl
theorem SR.asS {a b : V} (h : SR sc w a b) (i : Str) (e : asS a = some i) : asS b = some i := by
  have := asS_inv e; subst this; rw [h.str_inv]; rfl
theorem SR.asB {a b : V} (h : SR sc w a b) (i : Bool) (e : asB a = some i) : asB b = some i := by
  have := asB_inv e; subst this; rw [h.bool_inv]; rfl
theorem SRs.asT {a b : V} (h : SR sc w a b) (xs : List V) (e : asT a = some xs) : ∃ ys, asT b = some ys ∧ SRs sc w xs ys := by
  have := asT_inv e; subst this
  obtain ⟨ys, rfl, h2⟩ := h.tup_inv
  exact ⟨ys, rfl, h2⟩
theorem SR.isNo {a b : V} (h : SR sc w a b) : isNo a = true → isNo b = true := by
  intro e
  cases a with
  | none => rw [h.none_inv]; rfl
  | _ => cases e
theorem SRs.ints {xs ys : List V} (h : SRs sc w xs ys) : ∀ is, intsOf xs = some is → intsOf ys = some is := by
  induction xs generalizing ys with
  | nil => intro is e; cases h.nil_inv; exact e
  | cons x xs ih =>
    intro is e
    obtain ⟨y, ys, rfl, h1, h2⟩ := h.uncons
    obtain ⟨i, e1, e2⟩ := bind_inv e
    obtain ⟨js, e3, rfl⟩ := map_inv e2
    exact bind_at (h1.asI i e1) (map_at (ih h2 js e3))

/-! lists -/
theorem at_A (w : W) (j : Nat) : w.h2[j + 3]? = (w.L[j]?).map .list := by
  show (w.L.map O.list)[j]? = _
  rw [List.getElem?_map]
theorem at_B (w : W) (i : Nat) : w.h1[i + 11]? = w.tl[i]? := rfl
theorem asL_ok (o : Ok sc w) {a b : V} (h : SR sc w a b) (xs : List V) (e : asL w.h2 a = some xs) :
    ∃ j i ys, a = .ref (j + 3) ∧ b = .ref (i + 11) ∧ w.ι[j]? = some i ∧ w.L[j]? = some xs ∧ w.tl[i]? = some (.list ys) ∧ SRs sc w xs ys ∧ asL w.h1 b = some ys := by
  obtain ⟨n, e1, e2⟩ := bind_inv e
  have := asR_inv e1; subst this
  rcases h.ref_inv with ⟨rfl, rfl⟩ | ⟨j, i, rfl, rfl, hi⟩
  · cases e2
  · unfold listAt at e2
    rw [at_A] at e2
    obtain ⟨o', e3, e4⟩ := bind_inv e2
    obtain ⟨xs', e5, rfl⟩ := map_inv e3
    cases e4
    obtain ⟨i', ys, f1, f2, f3⟩ := o.lists j _ e5
    rw [hi] at f1; cases f1
    refine ⟨j, i, ys, rfl, rfl, hi, e5, f2, f3, ?_⟩
    show (w.tl[i]?).bind oL = _
    rw [f2]; rfl
theorem Sim.asL (o : Ok sc w) {a b : V} (h : SR sc w a b) {k2 : List V → Option τ2} {k1 : List V → Option τ1} (hk : ∀ xs ys, SRs sc w xs ys → Sim sc w (k2 xs) (k1 ys) Q) : Sim sc w ((Mine.asL w.h2 a).bind k2) ((Mine.asL w.h1 b).bind k1) Q := by
  intro z hz
  obtain ⟨xs, e1, e2⟩ := bind_inv hz
  obtain ⟨_, _, ys, _, _, _, _, _, f, e3⟩ := asL_ok o h xs e1
  obtain ⟨w', y, e4, r⟩ := hk xs ys f z e2
  exact ⟨w', y, bind_at e3 e4, r⟩

theorem newL_ok (o : Ok sc w) {xs ys : List V} (h : SRs sc w xs ys) : Sim sc w (newL xs w.h2) (newL ys w.h1) (QE sc) := by
  intro z hz
  obtain ⟨e1, e2⟩ := need_inv hz
  cases e2
  let w' : W := ⟨w.c, w.L ++ [xs], w.st, w.ι ++ [w.tl.length], w.tl ++ [.list ys]⟩
  have hlt : ∀ j i : Nat, w.ι[j]? = some i → i < w.tl.length := fun j i e => by
    obtain ⟨hj, _⟩ := List.getElem?_eq_some_iff.mp e
    rw [o.len] at hj
    obtain ⟨i', ys', f1, f2, _⟩ := o.lists j _ (List.getElem?_eq_getElem hj)
    rw [e] at f1; cases f1
    exact (List.getElem?_eq_some_iff.mp f2).1
  have hio : ∀ j i : Nat, w.ι[j]? = some i → w'.ι[j]? = some i := fun j i e => by
    show (w.ι ++ _)[j]? = _
    rw [List.getElem?_append_left (List.getElem?_eq_some_iff.mp e).1]; exact e
  have hnew : ∀ j i : Nat, w'.ι[j]? = some i → w.ι[j]? = some i ∨ (j = w.ι.length ∧ i = w.tl.length) := fun j i e => by
    have e : (w.ι ++ _)[j]? = some i := e
    rw [List.getElem?_append] at e
    by_cases hj : j < w.ι.length
    · rw [if_pos hj] at e; exact .inl e
    · rw [if_neg hj] at e
      cases hk : j - w.ι.length with
      | zero => rw [hk] at e; cases e; exact .inr ⟨by lia, rfl⟩
      | succ k => rw [hk] at e; cases e
  have g : Go w w' := by
    refine ⟨Ext.refl o.inv, hio, fun i ob hn e => ⟨?_, fun j e' => ?_⟩, Nat.le_refl _, fun _ => rfl⟩
    · show (w.tl ++ _)[i]? = _
      rw [List.getElem?_append_left (List.getElem?_eq_some_iff.mp e).1]; exact e
    · rcases hnew j i e' with h | ⟨_, rfl⟩
      · exact hn j h
      · exact absurd (List.getElem?_eq_some_iff.mp e).1 (Nat.lt_irrefl _)
  refine ⟨w', (.ref (w.tl.length + 11), w'.h1), ?_, g, ⟨o.inv, ?_, ?_, ?_, o.cap, o.lim⟩, ?_⟩
  · unfold newL
    rw [← h.1, need_true e1]; rfl
  · show (w.ι ++ _).length = (w.L ++ _).length
    rw [List.length_append, List.length_append, o.len]; rfl
  · intro j j' i e e'
    rcases hnew j i e with h1 | ⟨h1, h2⟩ <;> rcases hnew j' i e' with h3 | ⟨h3, h4⟩
    · exact o.inj j j' i h1 h3
    · have := hlt j i h1; lia
    · have := hlt j' i h3; lia
    · lia
  · intro j zs e
    have e : (w.L ++ _)[j]? = some zs := e
    rw [List.getElem?_append] at e
    by_cases hj : j < w.L.length
    · rw [if_pos hj] at e
      obtain ⟨i, ys', f1, f2, f3⟩ := o.lists j zs e
      refine ⟨i, ys', hio j i f1, ?_, f3.mono g⟩
      show (w.tl ++ _)[i]? = _
      rw [List.getElem?_append_left (List.getElem?_eq_some_iff.mp f2).1]; exact f2
    · rw [if_neg hj] at e
      cases hk : j - w.L.length with
      | zero =>
        rw [hk] at e; cases e
        have hj' : j = w.ι.length := by rw [o.len]; lia
        subst hj'
        refine ⟨w.tl.length, ys, ?_, ?_, h.mono g⟩
        · show (w.ι ++ _)[_]? = _
          rw [List.getElem?_append_right (Nat.le_refl _), Nat.sub_self]; rfl
        · show (w.tl ++ _)[_]? = _
          rw [List.getElem?_append_right (Nat.le_refl _), Nat.sub_self]; rfl
      | succ k => rw [hk] at e; cases e
  · refine ⟨_, _, ?_, rfl, .ref w.L.length w.tl.length ?_⟩
    · have e1 : w.h2.length = w.L.length + 3 := by
        show (w.L.map O.list).length + 3 = _
        rw [List.length_map]
      have e2 : w.h2 ++ [O.list xs] = w'.h2 := by
        show _ :: _ :: _ :: (w.L.map O.list ++ [O.list xs]) = _ :: _ :: _ :: (w.L ++ [xs]).map O.list
        rw [List.map_append]; rfl
      rw [e1, e2]
    · show (w.ι ++ _)[_]? = _
      rw [← o.len, List.getElem?_append_right (Nat.le_refl _), Nat.sub_self]; rfl

/-- a list written anew -/
theorem setL_ok (o : Ok sc w) {j i : Nat} {xs ys : List V} (hj : w.ι[j]? = some i) (h : SRs sc w xs ys) {zs : List V} (hl : w.L[j]? = some zs) :
    ∃ w', w.h2.set (j + 3) (.list xs) = w'.h2 ∧ w.h1.set (i + 11) (.list ys) = w'.h1 ∧ Go w w' ∧ Ok sc w' := by
  let w' : W := ⟨w.c, w.L.set j xs, w.st, w.ι, w.tl.set i (.list ys)⟩
  have g : Go w w' := by
    refine ⟨Ext.refl o.inv, fun _ _ e => e, fun k ob hn e => ⟨?_, hn⟩, Nat.le_refl _, fun _ => rfl⟩
    show (w.tl.set i _)[k]? = _
    rw [List.getElem?_set_ne (fun e => hn j (by rw [hj, e]))]; exact e
  have hjl : j < w.L.length := (List.getElem?_eq_some_iff.mp hl).1
  refine ⟨w', ?_, rfl, g, o.inv, ?_, o.inj, ?_, o.cap, o.lim⟩
  · show _ :: _ :: _ :: (w.L.map O.list).set j (O.list xs) = _ :: _ :: _ :: (w.L.set j xs).map O.list
    rw [List.map_set]
  · show w.ι.length = (w.L.set j xs).length
    rw [List.length_set]; exact o.len
  · intro k vs e
    have e : (w.L.set j xs)[k]? = some vs := e
    rw [List.getElem?_set] at e
    by_cases hk : j = k
    · subst hk
      rw [if_pos rfl, if_pos hjl] at e; cases e
      obtain ⟨i', ys', f1, f2, _⟩ := o.lists j zs hl
      rw [hj] at f1; cases f1
      refine ⟨i, ys, hj, ?_, h.mono g⟩
      show (w.tl.set i _)[i]? = _
      rw [List.getElem?_set_self (List.getElem?_eq_some_iff.mp f2).1]
    · rw [if_neg hk] at e
      obtain ⟨i', ys', f1, f2, f3⟩ := o.lists k vs e
      refine ⟨i', ys', f1, ?_, f3.mono g⟩
      show (w.tl.set i _)[i']? = _
      rw [List.getElem?_set_ne (fun e => hk (o.inj j k i hj (by rw [f1, e])))]; exact f2
end
end
end Mine

namespace Mine
section
open PySem
set_option autoImplicit false

theorem need_none {α : Type} (b : Bool) : need b (Option.none : Option α) = Option.none := by cases b <;> rfl
theorem alt_none {α : Type} {a b : Option α} (h1 : a = Option.none) (h2 : b = Option.none) : (a <|> b) = Option.none := by rw [h1]; exact h2
theorem and_inv {a b : Bool} (h : (a && b) = true) : a = true ∧ b = true := by cases a <;> cases b <;> first | exact ⟨rfl, rfl⟩ | cases h
theorem bitAnd_nat (x y : Nat) : Builtin.bitAnd (x : Int) (y : Int) = ((x &&& y : Nat) : Int) := rfl
theorem bitOr_nat (x y : Nat) : Builtin.bitOr (x : Int) (y : Int) = ((x ||| y : Nat) : Int) := by
  have h : ∀ n : Nat, Builtin.bitNot (n : Int) = Int.negSucc n := fun n => by rw [Int.negSucc_eq]; unfold Builtin.bitNot; lia
  unfold Builtin.bitOr
  rw [h, h]
  show Builtin.bitNot (Builtin.bitNot (((Builtin.bitNot (Int.negSucc x)).toNat ||| (Builtin.bitNot (Int.negSucc y)).toNat : Nat) : Int)) = _
  have h2 : ∀ n : Nat, Builtin.bitNot (Int.negSucc n) = (n : Int) := fun n => by rw [Int.negSucc_eq]; unfold Builtin.bitNot; lia
  rw [h2, h2, Int.toNat_natCast, Int.toNat_natCast, h, h2]

section
variable {sc : Sc} {w : W}

theorem asI_ref {n : Nat} : asI (.ref n) = Option.none := rfl
theorem fullV_inv {v : V} (h : fullV v = true) : v = .sym .full := by
  cases v <;> first | (rename_i s; cases s <;> first | rfl | cases h) | cases h
theorem zeroV_inv {v : V} (h : zeroV v = true) : v = .int 0 := by
  cases v <;> first | (rename_i i; exact congrArg V.int (of_decide_eq_true h)) | cases h
theorem mskOf_inv {v : V} {b : Bool} (h : mskOf v = some b) : v = .sym (.msk b) := by
  obtain ⟨s, e1, e2⟩ := bind_inv h
  rw [asY_inv e1]
  cases s <;> first | (cases e2; rfl) | cases e2

theorem binY_ok {op : Operator} {a b a' b' : V} (ha : SR sc w a a') (hb : SR sc w b b') {y : Bool} (h : binY op a b = some y) :
    ∃ i j : Int, ∃ n : Nat, a' = .int i ∧ b' = .int j ∧ binI op i j = some (n : Int) ∧ n < 2 ^ sc.R ∧ n.testBit sc.r = y := by
  obtain ⟨q, e1, h⟩ := bind_inv h
  have := mskOf_inv e1; subst this
  obtain ⟨n, rfl, hn, hq⟩ := hb.msk_inv
  have hr := sc.hr
  have hpos : 0 < 2 ^ sc.R := Nat.two_pow_pos _
  rcases alt_inv h with h | ⟨_, h⟩
  · obtain ⟨hh, e⟩ := need_inv h
    cases e
    obtain ⟨h1, h2⟩ := and_inv hh
    have := of_decide_eq_true h1; subst this
    have := fullV_inv h2; subst this
    rw [ha.full_inv]
    refine ⟨_, _, 2 ^ sc.R - 1 - n, rfl, rfl, congrArg some (by show ((2 ^ sc.R - 1 : Nat) : Int) - _ = _; lia), by lia, ?_⟩
    rw [show 2 ^ sc.R - 1 - n = 2 ^ sc.R - (n + 1) by lia, Nat.testBit_two_pow_sub_succ hn, decide_eq_true hr, hq]; rfl
  rcases alt_inv h with h | ⟨_, h⟩
  · obtain ⟨hh, e⟩ := need_inv h
    cases e
    obtain ⟨h1, h2⟩ := and_inv hh
    have := of_decide_eq_true h1; subst this
    have := fullV_inv h2; subst this
    rw [ha.full_inv]
    refine ⟨_, _, (2 ^ sc.R - 1) &&& n, rfl, rfl, congrArg some (bitAnd_nat _ _), Nat.lt_of_le_of_lt Nat.and_le_right hn, ?_⟩
    rw [Nat.testBit_and, Nat.testBit_two_pow_sub_one, decide_eq_true hr, hq]; rfl
  rcases alt_inv h with h | ⟨_, h⟩
  · obtain ⟨hh, e⟩ := need_inv h
    cases e
    obtain ⟨h1, h2⟩ := and_inv hh
    have := of_decide_eq_true h1; subst this
    have := zeroV_inv h2; subst this
    rw [ha.int_inv]
    exact ⟨_, _, 0 ||| n, rfl, rfl, congrArg some (bitOr_nat 0 n), by rw [Nat.zero_or]; exact hn, by rw [Nat.zero_or]; exact hq⟩
  rcases alt_inv h with h | ⟨_, h⟩
  · obtain ⟨h1, e⟩ := need_inv h
    have := of_decide_eq_true h1; subst this
    obtain ⟨x, e2, rfl⟩ := map_inv e
    have := mskOf_inv e2; subst this
    obtain ⟨m, rfl, hm, hx⟩ := ha.msk_inv
    exact ⟨_, _, m &&& n, rfl, rfl, congrArg some (bitAnd_nat _ _), Nat.lt_of_le_of_lt Nat.and_le_right hn, by rw [Nat.testBit_and, hx, hq]⟩
  · obtain ⟨h1, e⟩ := need_inv h
    have := of_decide_eq_true h1; subst this
    obtain ⟨x, e2, rfl⟩ := map_inv e
    have := mskOf_inv e2; subst this
    obtain ⟨m, rfl, hm, hx⟩ := ha.msk_inv
    exact ⟨_, _, m ||| n, rfl, rfl, congrArg some (bitOr_nat _ _), Nat.or_lt_two_pow hm hn, by rw [Nat.testBit_or, hx, hq]⟩

theorem binop_ok (o : Ok sc w) {op : Operator} {a b a' b' : V} (ha : SR sc w a a') (hb : SR sc w b b') : Sim sc w (binop op a b w.h2) (binop op a' b' w.h1) (QE sc) := by
  intro z hz
  rcases alt_inv hz with h | ⟨_, hz⟩
  · obtain ⟨x, e1, h⟩ := bind_inv h
    obtain ⟨y, e2, h⟩ := bind_inv h
    obtain ⟨r, e3, rfl⟩ := map_inv h
    exact ⟨w, _, alt_left (bind_at (ha.asI x e1) (bind_at (hb.asI y e2) (map_at e3))), Go.refl o.inv, o, _, _, rfl, rfl, .int r⟩
  rcases alt_inv hz with h | ⟨_, hz⟩
  · obtain ⟨h1, h⟩ := need_inv h
    obtain ⟨xs, e1, h⟩ := bind_inv h
    obtain ⟨ys, e2, h⟩ := bind_inv h
    obtain ⟨_, _, xs', _, rfl, _, _, _, s1, f1⟩ := asL_ok o ha xs e1
    obtain ⟨_, _, ys', _, rfl, _, _, _, s2, f2⟩ := asL_ok o hb ys e2
    obtain ⟨w', r, e3, rest⟩ := newL_ok o (s1.app s2) z h
    exact ⟨w', r, alt_right rfl (alt_left ((need_true h1).trans (bind_at f1 (bind_at f2 e3)))), rest⟩
  rcases alt_inv hz with h | ⟨_, hz⟩
  · obtain ⟨h1, h⟩ := need_inv h
    obtain ⟨xs, e1, h⟩ := bind_inv h
    obtain ⟨x, e2, h⟩ := bind_inv h
    obtain ⟨k, e3, h⟩ := bind_inv h
    obtain ⟨h2, h9⟩ := need_inv h
    obtain ⟨_, _, xs', _, rfl, _, _, _, s1, f1⟩ := asL_ok o ha xs e1
    have := one_inv e2; subst this
    obtain ⟨x', r', rfl, s2, s3⟩ := s1.uncons
    cases s3.nil_inv
    have := of_decide_eq_true h1; subst this
    obtain ⟨w', r, e4, rest⟩ := newL_ok o (SRs.rep s2 k.toNat) z h9
    exact ⟨w', r, alt_right rfl (alt_right rfl (alt_left (bind_at f1 (bind_at rfl (bind_at (hb.asI k e3) ((need_true h2).trans e4)))))), rest⟩
  · obtain ⟨y, e1, rfl⟩ := map_inv hz
    obtain ⟨i, j, n, rfl, rfl, e2, hn, hy⟩ := binY_ok ha hb e1
    exact ⟨w, _, alt_left (bind_at rfl (bind_at rfl (map_at e2))), Go.refl o.inv, o, _, _, rfl, rfl, .msk y n hn hy⟩

theorem cmpE_ok (o : Ok sc w) {op : CmpOp} {a b a' b' : V} (ha : SR sc w a a') (hb : SR sc w b b') {d : Bool} (h : cmpE op a b w.h2 = some d) : cmpE op a' b' w.h1 = some d := by
  rcases alt_inv h with h | ⟨_, h⟩
  · obtain ⟨x, e1, h⟩ := bind_inv h
    obtain ⟨y, e2, h⟩ := bind_inv h
    exact alt_left (bind_at (ha.asI x e1) (bind_at (hb.asI y e2) h))
  rcases alt_inv h with h | ⟨_, h⟩
  · obtain ⟨h1, h⟩ := need_inv h
    obtain ⟨x, e1, h⟩ := bind_inv h
    obtain ⟨y, e2, rfl⟩ := map_inv h
    have := asS_inv e1; subst this
    rw [ha.str_inv]
    exact alt_right rfl (alt_left ((need_true h1).trans (bind_at rfl (map_at (hb.asS y e2)))))
  rcases alt_inv h with h | ⟨_, h⟩
  · obtain ⟨h1, h⟩ := need_inv h
    obtain ⟨x, e1, h⟩ := bind_inv h
    obtain ⟨y, e2, rfl⟩ := map_inv h
    have := asB_inv e1; subst this
    rw [ha.bool_inv]
    exact alt_right rfl (alt_right (need_none _) (alt_left ((need_true h1).trans (bind_at rfl (map_at (hb.asB y e2))))))
  rcases alt_inv h with h | ⟨_, h⟩ <;>
  · obtain ⟨h1, h⟩ := need_inv h
    obtain ⟨xs, e1, h⟩ := bind_inv h
    obtain ⟨ys, e2, h⟩ := bind_inv h
    obtain ⟨is, e3, h⟩ := bind_inv h
    obtain ⟨js, e4, rfl⟩ := map_inv h
    obtain ⟨_, _, xs', _, rfl, _, _, _, s1, f1⟩ := asL_ok o ha xs e1
    obtain ⟨_, _, ys', _, rfl, _, _, _, s2, f2⟩ := asL_ok o hb ys e2
    have := of_decide_eq_true h1; subst this
    refine alt_right rfl (alt_right (need_none _) (alt_right (need_none _) ?_))
    first
      | exact alt_left ((need_true h1).trans (bind_at f1 (bind_at f2 (bind_at (s1.ints is e3) (map_at (s2.ints js e4))))))
      | exact alt_right rfl ((need_true h1).trans (bind_at f1 (bind_at f2 (bind_at (s1.ints is e3) (map_at (s2.ints js e4))))))

theorem idx_ok {xs ys : List V} (h : SRs sc w xs ys) {i : Int} {v : V} (e : idx? xs i = some v) : ∃ v', idx? ys i = some v' ∧ SR sc w v v' := by
  unfold idx? at *
  by_cases h0 : 0 ≤ i
  · rw [if_pos h0] at *; exact h.get e
  · rw [if_neg h0] at *
    obtain ⟨h1, e⟩ := need_inv e
    rw [h.1] at h1 e
    obtain ⟨v', e', s⟩ := h.get e
    exact ⟨v', (need_true h1).trans e', s⟩
theorem subscr_ok (o : Ok sc w) {a i a' i' : V} (ha : SR sc w a a') (hi : SR sc w i i') {v : V} (h : subscr a i w.h2 = some v) : ∃ v', subscr a' i' w.h1 = some v' ∧ SR sc w v v' := by
  rcases alt_inv h with h | ⟨_, h⟩
  · obtain ⟨xs, e1, q⟩ := bind_inv h
    obtain ⟨k, e2, q1⟩ := bind_inv q
    obtain ⟨h1, q2⟩ := need_inv q1
    have := asT_inv e1; subst this
    obtain ⟨ys, rfl, s⟩ := ha.tup_inv
    obtain ⟨v', e, s'⟩ := s.get q2
    exact ⟨v', alt_left (bind_at rfl (bind_at (hi.asI k e2) ((need_true h1).trans e))), s'⟩
  · obtain ⟨n, e1, q⟩ := bind_inv h
    have := asR_inv e1; subst this
    rcases ha.ref_inv with ⟨rfl, rfl⟩ | ⟨j, l, rfl, rfl, hl⟩
    · cases q
    · obtain ⟨ob, e2, q1⟩ := bind_inv q
      rw [at_A] at e2
      obtain ⟨xs, e3, rfl⟩ := map_inv e2
      obtain ⟨l', ys, f1, f2, s⟩ := o.lists j xs e3
      rw [hl] at f1; cases f1
      rcases alt_inv q1 with p | ⟨_, p⟩
      · obtain ⟨ys', e4, p1⟩ := bind_inv p
        cases e4
        obtain ⟨k, e5, p2⟩ := bind_inv p1
        obtain ⟨v', e6, s'⟩ := idx_ok s p2
        exact ⟨v', alt_right rfl (bind_at rfl (bind_at f2 (alt_left (bind_at rfl (bind_at (hi.asI k e5) e6))))), s'⟩
      · cases p

theorem slice_ok {xs ys : List V} (h : SRs sc w xs ys) {lo hi lo' hi' : V} (h1 : SR sc w lo lo') (h2 : SR sc w hi hi') {r : List V} (e : sliceL xs lo hi = some r) : ∃ r', sliceL ys lo' hi' = some r' ∧ SRs sc w r r' := by
  rcases alt_inv e with e | ⟨_, e⟩
  · obtain ⟨e1, e⟩ := need_inv e
    obtain ⟨k, e2, e⟩ := bind_inv e
    obtain ⟨e3, e⟩ := need_inv e
    cases e
    exact ⟨_, alt_left ((need_true (h1.isNo e1)).trans (bind_at (h2.asI k e2) (need_true e3))), h.take _⟩
  · obtain ⟨e1, e⟩ := need_inv e
    obtain ⟨k, e2, e⟩ := bind_inv e
    obtain ⟨e3, e⟩ := need_inv e
    cases e
    have hn := h2.isNo e1
    have : asI hi' = Option.none := by cases hi' <;> first | rfl | cases hn
    refine ⟨_, alt_right ?_ ((need_true hn).trans (bind_at (h1.asI k e2) (need_true e3))), h.drop _⟩
    rw [this]; exact need_none _
end
end
end Mine

namespace Mine
section
open PySem
set_option autoImplicit false

noncomputable def SrcR (sc : Sc) (w : W) (s2 s1 : Src) : Prop := (∃ j i k, s2 = .lst (j + 3) k ∧ s1 = .lst (i + 11) k ∧ w.ι[j]? = some i) ∨ ∃ xs ys, s2 = .fix xs ∧ s1 = .fix ys ∧ SRs sc w xs ys
/-- rows -/
noncomputable def QL (sc : Sc) (w : W) (x y : List V × St) : Prop := QR sc w x y
inductive FR (sc : Sc) (w : W) : Fl → Fl → Prop
  | next : FR sc w .next .next
  | ret (a b : V) : SR sc w a b → FR sc w (.ret a) (.ret b)
noncomputable def QX (sc : Sc) (w : W) (x y : Fl × Rho × St) : Prop := ∃ f2 f1 ρ2 ρ1, x = (f2, ρ2, w.h2) ∧ y = (f1, ρ1, w.h1) ∧ FR sc w f2 f1 ∧ SRho sc w ρ2 ρ1

section
variable {sc : Sc} {w w' : W}
theorem SrcR.mono {a b : Src} (h : SrcR sc w a b) (g : Go w w') : SrcR sc w' a b := by
  rcases h with ⟨j, i, k, e1, e2, e3⟩ | ⟨xs, ys, e1, e2, s⟩
  · exact .inl ⟨j, i, k, e1, e2, g.io j i e3⟩
  · exact .inr ⟨xs, ys, e1, e2, s.mono g⟩
theorem SrcR.len {a b : Src} (h : SrcR sc w a b) : a.len = b.len := by
  rcases h with ⟨j, i, k, rfl, rfl, e3⟩ | ⟨xs, ys, rfl, rfl, s⟩
  · rfl
  · exact s.1
theorem listAt_ok (o : Ok sc w) {j i : Nat} (hi : w.ι[j]? = some i) {xs : List V} (h : listAt w.h2 (j + 3) = some xs) : ∃ ys, listAt w.h1 (i + 11) = some ys ∧ SRs sc w xs ys := by
  obtain ⟨_, i', ys, e1, e2, _, _, _, s, f⟩ := asL_ok o (.ref j i hi) xs (show (asR (.ref (j + 3))).bind (listAt w.h2) = _ from h)
  cases e2
  exact ⟨ys, f, s⟩
theorem SrcR.okk (o : Ok sc w) {a b : Src} (h : SrcR sc w a b) (e : a.ok w.h2 = true) : b.ok w.h1 = true := by
  rcases h with ⟨j, i, k, rfl, rfl, e3⟩ | ⟨xs, ys, rfl, rfl, s⟩
  · have hs : ∀ H n, (Src.lst n k).ok H = match listAt H n with | some xs => decide (xs.length = k) | Option.none => false := fun _ _ => rfl
    rw [hs] at e ⊢
    cases hl : listAt w.h2 (j + 3) with
    | none => rw [hl] at e; cases e
    | some xs =>
      rw [hl] at e
      obtain ⟨ys, f, s⟩ := listAt_ok o e3 hl
      rw [f]
      exact decide_eq_true (s.1 ▸ of_decide_eq_true e)
  · rfl
theorem SrcR.gets (o : Ok sc w) {a b : Src} (h : SrcR sc w a b) {i : Nat} {x : V} (e : a.get w.h2 i = some x) : ∃ y, b.get w.h1 i = some y ∧ SR sc w x y := by
  rcases h with ⟨j, l, k, rfl, rfl, e3⟩ | ⟨xs, ys, rfl, rfl, s⟩
  · obtain ⟨xs, e1, e2⟩ := bind_inv e
    obtain ⟨e4, e5⟩ := need_inv e2
    obtain ⟨ys, f, s⟩ := listAt_ok o e3 e1
    obtain ⟨y, f2, f3⟩ := s.get e5
    exact ⟨y, bind_at f ((need_true (decide_eq_true (s.1 ▸ of_decide_eq_true e4))).trans f2), f3⟩
  · exact s.get e
theorem SRs.ofInts {α : Type} (f : α → Int) (l : List α) : SRs sc w (l.map fun j => V.int (f j)) (l.map fun j => V.int (f j)) := by
  induction l with
  | nil => exact .nil
  | cons a l ih => exact ih.cons (.int _)
theorem range_ok (a b s : Int) : SRs sc w (rangeL a b s) (rangeL a b s) := by
  unfold rangeL
  by_cases h1 : s = 1
  · rw [if_pos h1]; exact .ofInts _ _
  · rw [if_neg h1]
    by_cases h2 : s = 2
    · rw [if_pos h2]; exact .ofInts _ _
    · rw [if_neg h2]
      by_cases h3 : s = -1
      · rw [if_pos h3]; exact .ofInts _ _
      · rw [if_neg h3]; exact .nil
theorem source_ok (o : Ok sc w) {a b : V} (h : SR sc w a b) {s : Src} (e : source a w.h2 = some s) : ∃ s', source b w.h1 = some s' ∧ SrcR sc w s s' := by
  rcases alt_inv e with q | ⟨_, q⟩
  · obtain ⟨n, e1, q1⟩ := bind_inv q
    obtain ⟨xs, e2, rfl⟩ := map_inv q1
    have := asR_inv e1; subst this
    obtain ⟨j, i, ys, e3, rfl, e4, e5, e6, s, f⟩ := asL_ok o h xs (show (asR (.ref n)).bind (listAt w.h2) = _ from e2)
    cases e3
    exact ⟨_, alt_left (bind_at rfl (map_at f)), .inl ⟨j, i, _, rfl, by rw [s.1], e4⟩⟩
  rcases alt_inv q with q1 | ⟨_, q1⟩
  · obtain ⟨g, e1, q2⟩ := bind_inv q1
    obtain ⟨e2, e3⟩ := need_inv q2
    cases e3
    have := asG_inv e1; subst this
    rw [h.rng_inv]
    exact ⟨_, alt_right rfl (alt_left (bind_at rfl (need_true e2))), .inr ⟨_, _, rfl, rfl, range_ok _ _ _⟩⟩
  · obtain ⟨xs, e1, rfl⟩ := map_inv q1
    have := asT_inv e1; subst this
    obtain ⟨ys, rfl, s⟩ := h.tup_inv
    exact ⟨_, alt_right rfl (alt_right rfl (map_at rfl)), .inr ⟨_, _, rfl, rfl, s⟩⟩

theorem mapL_ok {f2 f1 : V → St → Option (List V × St)} (hf : ∀ w1 a b, Go w w1 → Ok sc w1 → SR sc w1 a b → Sim sc w1 (f2 a w1.h2) (f1 b w1.h1) (QR sc)) {s2 s1 : Src} :
    ∀ (k i : Nat) (w1 : W), Go w w1 → Ok sc w1 → SrcR sc w1 s2 s1 → Sim sc w1 (mapL s2 f2 k i w1.h2) (mapL s1 f1 k i w1.h1) (QR sc) := by
  intro k
  induction k with
  | zero => exact fun i w1 g o s => .need (s.okk o) (.here o ⟨_, _, rfl, rfl, .nil⟩)
  | succ k ih =>
    intro i w1 g o s
    refine Sim.bind (R := fun w' a b => w' = w1 ∧ SR sc w1 a b) (.pure o fun x e => let ⟨y, e1, e2⟩ := s.gets o e; ⟨y, e1, rfl, e2⟩) fun w2 a b _ _ ⟨e, q⟩ => ?_
    subst e
    refine (hf w2 a b g o q).bindR fun w3 xs ys g3 o3 q3 => ?_
    exact (ih (i + 1) w3 (g.trans g3) o3 (s.mono g3)).map fun w4 x y g4 ⟨xs', ys', e1, e2, q4⟩ => ⟨_, _, by rw [e1], by rw [e2], (q3.mono g4).app q4⟩

theorem onward_ok {x y : Fl × Rho × St} {f2 f1 : Rho → St → Option (Fl × Rho × St)} (o : Ok sc w) (h : QX sc w x y) (hf : ∀ ρ2 ρ1, SRho sc w ρ2 ρ1 → Sim sc w (f2 ρ2 w.h2) (f1 ρ1 w.h1) (QX sc)) : Sim sc w (onward x f2) (onward y f1) (QX sc) := by
  obtain ⟨a, b, ρ2, ρ1, rfl, rfl, h, hr⟩ := h
  cases h with
  | next => exact hf ρ2 ρ1 hr
  | ret u v s => exact .here o ⟨_, _, _, _, rfl, rfl, .ret u v s, hr⟩
theorem forL_ok {f2 f1 : V → Rho → St → Option (Fl × Rho × St)} (hf : ∀ w1 a b ρ2 ρ1, Ok sc w1 → SR sc w1 a b → SRho sc w1 ρ2 ρ1 → Sim sc w1 (f2 a ρ2 w1.h2) (f1 b ρ1 w1.h1) (QX sc)) {s2 s1 : Src} :
    ∀ (k i : Nat) (w1 : W) (ρ2 ρ1 : Rho), Ok sc w1 → SrcR sc w1 s2 s1 → SRho sc w1 ρ2 ρ1 → Sim sc w1 (forL s2 f2 k i ρ2 w1.h2) (forL s1 f1 k i ρ1 w1.h1) (QX sc) := by
  intro k
  induction k with
  | zero => exact fun i w1 ρ2 ρ1 o s r => .need (s.okk o) (.here o ⟨_, _, _, _, rfl, rfl, .next, r⟩)
  | succ k ih =>
    intro i w1 ρ2 ρ1 o s r
    refine Sim.bind (R := fun w' a b => w' = w1 ∧ SR sc w1 a b) (.pure o fun x e => let ⟨y, e1, e2⟩ := s.gets o e; ⟨y, e1, rfl, e2⟩) fun w2 a b _ _ ⟨e, q⟩ => ?_
    subst e
    exact (hf w2 a b ρ2 ρ1 o q r).bind fun w3 x y g3 o3 q3 => onward_ok o3 q3 fun ρ2 ρ1 r => ih (i + 1) w3 ρ2 ρ1 o3 (s.mono g3) r
theorem tst_ok (o : Ok sc w) {a b : V} (h : SR sc w a b) {H2 H1 : St} (e2 : H2 = w.h2) (e1 : H1 = w.h1) : Sim sc w (tst (a, H2)) (tst (b, H1)) QB := by
  subst e2 e1
  intro z hz
  obtain ⟨t, e, rfl⟩ := map_inv hz
  cases a with
  | bool c => cases e; rw [h.bool_inv]; exact ⟨w, _, rfl, Go.refl o.inv, o, _, rfl, rfl⟩
  | int i => cases e; rw [h.int_inv]; exact ⟨w, _, rfl, Go.refl o.inv, o, _, rfl, rfl⟩
  | _ => cases e
theorem test_ok {r2 r1 : Option (V × St)} (h : Sim sc w r2 r1 (QE sc)) : Sim sc w (r2.bind tst) (r1.bind tst) QB := h.bindE fun _ _ _ _ o s => tst_ok o s rfl rfl
theorem whileL_ok {t2 t1 : Rho → St → Option (V × St)} {f2 f1 : Rho → St → Option (Fl × Rho × St)} (ht : ∀ w1 ρ2 ρ1, Ok sc w1 → SRho sc w1 ρ2 ρ1 → Sim sc w1 (t2 ρ2 w1.h2) (t1 ρ1 w1.h1) (QE sc))
    (hf : ∀ w1 ρ2 ρ1, Ok sc w1 → SRho sc w1 ρ2 ρ1 → Sim sc w1 (f2 ρ2 w1.h2) (f1 ρ1 w1.h1) (QX sc)) : ∀ (k : Nat) (w1 : W) (ρ2 ρ1 : Rho), Ok sc w1 → SRho sc w1 ρ2 ρ1 → Sim sc w1 (whileL t2 f2 k ρ2 w1.h2) (whileL t1 f1 k ρ1 w1.h1) (QX sc) := by
  intro k
  induction k with
  | zero => exact fun w1 ρ2 ρ1 o r x hx => by cases hx
  | succ k ih =>
    intro w1 ρ2 ρ1 o r
    refine (test_ok (ht w1 ρ2 ρ1 o r)).bindB fun w2 d g2 o2 => ?_
    cases d with
    | true => exact (hf w2 ρ2 ρ1 o2 (r.mono g2)).bind fun w3 x y g3 o3 q3 => onward_ok o3 q3 fun ρ2 ρ1 r => ih w3 ρ2 ρ1 o3 r
    | false => exact .here o2 ⟨_, _, _, _, rfl, rfl, .next, r.mono g2⟩

/-! built-ins -/
noncomputable def okBI : BI → Bool
  | .tuple => false
  | .sorted => false
  | _ => true
theorem SRs.one_ok {xs ys : List V} (h : SRs sc w xs ys) {x : V} (e : Mine.one xs = some x) : ∃ y, Mine.one ys = some y ∧ SR sc w x y := by
  have := one_inv e; subst this
  obtain ⟨y, r, rfl, h1, h2⟩ := h.uncons
  cases h2.nil_inv
  exact ⟨y, rfl, h1⟩
theorem SRs.two_ok {xs ys : List V} (h : SRs sc w xs ys) {x : V × V} (e : Mine.two xs = some x) : ∃ y, Mine.two ys = some y ∧ SR sc w x.1 y.1 ∧ SR sc w x.2 y.2 := by
  have := two_inv e; subst this
  obtain ⟨y, r, rfl, h1, h2⟩ := h.uncons
  obtain ⟨z, r, rfl, h3, h4⟩ := h2.uncons
  cases h4.nil_inv
  exact ⟨(y, z), rfl, h1, h3⟩
theorem Sim.val (o : Ok sc w) {a b : V} (h : SR sc w a b) : Sim sc w (some (a, w.h2)) (some (b, w.h1)) (QE sc) := .here o ⟨_, _, rfl, rfl, h⟩
theorem Sim.one {τ2 τ1 : Type} {Q : W → τ2 → τ1 → Prop} {xs ys : List V} (h : SRs sc w xs ys) {k2 : V → Option τ2} {k1 : V → Option τ1} (hk : ∀ a b, SR sc w a b → Sim sc w (k2 a) (k1 b) Q) : Sim sc w ((Mine.one xs).bind k2) ((Mine.one ys).bind k1) Q := by
  intro z hz
  obtain ⟨x, e1, e2⟩ := bind_inv hz
  obtain ⟨y, e3, s⟩ := h.one_ok e1
  obtain ⟨w', r, e4, rest⟩ := hk x y s z e2
  exact ⟨w', r, bind_at e3 e4, rest⟩
theorem biTwo_ok (o : Ok sc w) (f : Int → Int → Int) {xs ys : List V} (h : SRs sc w xs ys) : Sim sc w (biTwo f xs w.h2) (biTwo f ys w.h1) (QE sc) := by
  intro z hz
  obtain ⟨x, e1, e2⟩ := bind_inv hz
  obtain ⟨y, e3, s1, s2⟩ := h.two_ok e1
  obtain ⟨i, e4, e5⟩ := bind_inv e2
  obtain ⟨j, e6, rfl⟩ := map_inv e5
  exact ⟨w, _, bind_at e3 (bind_at (s1.asI i e4) (map_at (s2.asI j e6))), Go.refl o.inv, o, _, _, rfl, rfl, .int _⟩
theorem builtin_ok (o : Ok sc w) {b : BI} (hb : okBI b = true) {xs ys : List V} (h : SRs sc w xs ys) : Sim sc w (builtin b xs w.h2) (builtin b ys w.h1) (QE sc) := by
  cases b with
  | len =>
    exact .one h fun a b s => by
      intro z hz
      obtain ⟨l, e1, rfl⟩ := map_inv hz
      obtain ⟨_, _, l', _, _, _, _, _, s', f⟩ := asL_ok o s l e1
      exact ⟨w, _, map_at f, Go.refl o.inv, o, _, _, rfl, rfl, by rw [s'.1]; exact .int _⟩
  | range =>
    refine Sim.read h.ints fun is z hz => ?_
    rcases alt_inv hz with q | ⟨q1, q⟩
    · obtain ⟨b, e, rfl⟩ := map_inv q
      exact ⟨w, _, alt_left (map_at e), Go.refl o.inv, o, _, _, rfl, rfl, .rng _ _ _⟩
    rcases alt_inv q with q | ⟨q2, q⟩
    · obtain ⟨p, e, rfl⟩ := map_inv q
      have := two_inv e; subst this
      exact ⟨w, _, alt_right rfl (alt_left (map_at rfl)), Go.refl o.inv, o, _, _, rfl, rfl, .rng _ _ _⟩
    · obtain ⟨p, e, q3⟩ := bind_inv q
      obtain ⟨e2, e3⟩ := need_inv q3
      cases e3
      have := three_inv e; subst this
      exact ⟨w, _, alt_right rfl (alt_right rfl (bind_at rfl (need_true e2))), Go.refl o.inv, o, _, _, rfl, rfl, .rng _ _ _⟩
  | min => exact biTwo_ok o _ h
  | max => exact biTwo_ok o _ h
  | list =>
    exact .one h fun a b s => by
      intro z hz
      obtain ⟨l, e1, e2⟩ := bind_inv hz
      rcases alt_inv e1 with q | ⟨_, q⟩
      · obtain ⟨_, _, l', _, _, _, _, _, s', f⟩ := asL_ok o s l q
        obtain ⟨w', r, e3, rest⟩ := newL_ok o s' z e2
        exact ⟨w', r, bind_at (alt_left f) e3, rest⟩
      · have := asT_inv q; subst this
        obtain ⟨l', rfl, s'⟩ := s.tup_inv
        obtain ⟨w', r, e3, rest⟩ := newL_ok o s' z e2
        exact ⟨w', r, bind_at (alt_right rfl rfl) e3, rest⟩
  | sum =>
    exact .one h fun a b s => .asL o s fun l l' s' => by
      intro z hz
      obtain ⟨t, e1, rfl⟩ := map_inv hz
      obtain ⟨is, e2, rfl⟩ := map_inv e1
      exact ⟨w, _, map_at (map_at (s'.ints is e2)), Go.refl o.inv, o, _, _, rfl, rfl, .int _⟩
  | int =>
    exact .one h fun a b s => by
      intro z hz
      obtain ⟨t, e1, rfl⟩ := map_inv hz
      exact ⟨w, _, map_at (s.asB t e1), Go.refl o.inv, o, _, _, rfl, rfl, .int _⟩
  | tuple => cases hb
  | sorted => cases hb

/-! writes -/
theorem lmeth_ok (o : Ok sc w) {m : Str} (hm : decide (m = "count") = false) {j i : Nat} (hi : w.ι[j]? = some i) {xs ys : List V} (h : SRs sc w xs ys) : Sim sc w (lmeth (j + 3) m xs w.h2) (lmeth (i + 11) m ys w.h1) (QE sc) := by
  intro z hz
  obtain ⟨l, e1, e2⟩ := bind_inv hz
  obtain ⟨l', f1, s⟩ := listAt_ok o hi e1
  obtain ⟨x, e3, e4⟩ := bind_inv e2
  obtain ⟨y, f2, sx⟩ := h.one_ok e3
  rcases alt_inv e4 with q | ⟨_, q⟩
  · obtain ⟨h1, q2⟩ := need_inv q
    obtain ⟨h2, q3⟩ := need_inv q2
    cases q3
    have hl : w.L[j]? = some l := by
      unfold listAt at e1
      rw [at_A] at e1
      obtain ⟨ob, p1, p2⟩ := bind_inv e1
      obtain ⟨l2, p3, rfl⟩ := map_inv p1
      cases p2; exact p3
    obtain ⟨w', g1, g2, g3, g4⟩ := setL_ok o hi (s.app (.one sx)) hl
    refine ⟨w', (.none, w'.h1), bind_at f1 (bind_at f2 (alt_left ((need_true h1).trans ((need_true ?_).trans (by rw [g2]))))), g3, g4, _, _, by rw [g1], rfl, .none⟩
    rw [← s.1]; exact h2
  · obtain ⟨h1, _⟩ := need_inv q
    rw [hm] at h1; cases h1
theorem setAt_ok (o : Ok sc w) {a i v a' i' v' : V} (ha : SR sc w a a') (hi : SR sc w i i') (hv : SR sc w v v') {H : St} (h : setAt a i v w.h2 = some H) : ∃ w', H = w'.h2 ∧ setAt a' i' v' w.h1 = some w'.h1 ∧ Go w w' ∧ Ok sc w' := by
  obtain ⟨n, e1, q⟩ := bind_inv h
  have := asR_inv e1; subst this
  rcases ha.ref_inv with ⟨rfl, rfl⟩ | ⟨j, l, rfl, rfl, hl⟩
  · cases q
  · obtain ⟨ob, e2, q1⟩ := bind_inv q
    rw [at_A] at e2
    obtain ⟨xs, e3, rfl⟩ := map_inv e2
    obtain ⟨l', ys, f1, f2, s⟩ := o.lists j xs e3
    rw [hl] at f1; cases f1
    rcases alt_inv q1 with p | ⟨_, p⟩
    · obtain ⟨ys', e4, p1⟩ := bind_inv p
      cases e4
      obtain ⟨k, e5, p2⟩ := bind_inv p1
      obtain ⟨h1, p3⟩ := need_inv p2
      cases p3
      obtain ⟨w', g1, g2, g3, g4⟩ := setL_ok o hl (s.set hv k.toNat) e3
      refine ⟨w', g1, bind_at rfl (bind_at f2 (alt_left (bind_at rfl (bind_at (hi.asI k e5) ((need_true ?_).trans (by rw [g2])))))), g3, g4⟩
      rw [← s.1]; exact h1
    · cases p
end
end
end Mine

namespace Mine
section
open PySem
set_option autoImplicit false

section
variable {sc : Sc} {w : W}
noncomputable def NV (sc : Sc) (w : W) (t : Nat) (n : Int) : Prop := Net w.st n ∧ ∀ inp, nval w.st.cells inp n = t.testBit (sc.al inp)
theorem netT_ok (o : Ok sc w) {a b : V} (h : SR sc w a b) {t : Nat} (e : netT (2 ^ sc.m - 1) a = some t) : ∃ n, b = .int n ∧ NV sc w t n := by
  rcases alt_inv e with q | ⟨_, q⟩
  · obtain ⟨s, e1, e2⟩ := bind_inv q
    have := asY_inv e1; subst this
    cases s with
    | net u => cases e2; obtain ⟨n, rfl, h1, h2⟩ := h.net_inv; exact ⟨n, rfl, h1, h2⟩
    | msk b => cases e2
    | full => cases e2
  · obtain ⟨i, e1, e2⟩ := bind_inv q
    have := asI_inv e1; subst this
    rw [h.int_inv]
    refine ⟨i, rfl, ?_⟩
    by_cases h0 : i = 0
    · rw [if_pos h0] at e2; cases e2; subst h0
      exact ⟨o.inv.net0, fun inp => by rw [o.inv.val0, Nat.zero_testBit]⟩
    · rw [if_neg h0] at e2
      by_cases h1 : i = 1
      · rw [if_pos h1] at e2; cases e2; subst h1
        exact ⟨o.inv.net1, fun inp => by rw [o.inv.val1, Nat.testBit_two_pow_sub_one, decide_eq_true (sc.hal inp)]⟩
      · rw [if_neg h1] at e2; cases e2
theorem nets_ok (o : Ok sc w) : ∀ {r r1 : List V} {ts : List Nat}, SRs sc w r r1 → mapO (netT (2 ^ sc.m - 1)) r = some ts →
    ∃ ns : List Int, r1 = ns.map .int ∧ ts.length = ns.length ∧ ∀ (k t : Nat) (n : Int), ts[k]? = some t → ns[k]? = some n → NV sc w t n := by
  intro r
  induction r with
  | nil => intro r1 ts h e; cases e; cases h.nil_inv; exact ⟨[], rfl, rfl, fun _ _ _ e => by cases e⟩
  | cons x r ih =>
    intro r1 ts h e
    obtain ⟨t, e1, q⟩ := bind_inv e
    obtain ⟨us, e2, rfl⟩ := map_inv q
    obtain ⟨y, r1', rfl, h1, h2⟩ := h.uncons
    obtain ⟨n, rfl, hn⟩ := netT_ok o h1 e1
    obtain ⟨ns, rfl, hl, hk⟩ := ih h2 e2
    refine ⟨n :: ns, rfl, congrArg (· + 1) hl, fun k a b q1 q2 => ?_⟩
    cases k with
    | zero => cases q1; cases q2; exact hn
    | succ k => exact hk k a b q1 q2
theorem gate_done (o : Ok sc w) (hc : w.c < 100000) {t : Nat} {r : Option (V × St)} {F : (Int → Bool) → Bool} (h : GS w.st w.tl r 2 F) (hF : ∀ inp, F inp = t.testBit (sc.al inp)) :
    ∃ w' y, A (w.c + 1) w.L = w'.h2 ∧ r = some (y, w'.h1) ∧ Go w w' ∧ Ok sc w' ∧ SR sc w' (.sym (.net t)) y := by
  obtain ⟨y, st', e, hE, hN, hl, hv⟩ := h
  let w' : W := ⟨w.c + 1, w.L, st', w.ι, w.tl⟩
  have g : Go w w' := ⟨hE, fun _ _ e => e, fun _ _ hn e => ⟨e, hn⟩, Nat.le_succ _, fun e => absurd e (Nat.succ_ne_self w.c)⟩
  refine ⟨w', .int y, rfl, e, g, ⟨hE.inv, o.len, o.inj, fun j xs e => ?_, ?_, hc⟩, .net t y hN fun inp => (hv inp).trans (hF inp)⟩
  · obtain ⟨i, ys, f1, f2, s⟩ := o.lists j xs e
    exact ⟨i, ys, f1, f2, s.mono g⟩
  · have := o.cap
    show st'.cells.length ≤ 2 * (w.c + 1) + sc.K
    lia
theorem list1 {α : Type} {l : List α} (h : 1 = l.length) : ∃ a, l = [a] := by
  match l, h with
  | [a], _ => exact ⟨a, rfl⟩
theorem list2 {α : Type} {l : List α} (h : 2 = l.length) : ∃ a b, l = [a, b] := by
  match l, h with
  | [a, b], _ => exact ⟨a, b, rfl⟩
theorem list3 {α : Type} {l : List α} (h : 3 = l.length) : ∃ a b c, l = [a, b, c] := by
  match l, h with
  | [a, b, c], _ => exact ⟨a, b, c, rfl⟩

theorem gate_ok (n : Nat) (o : Ok sc w) {f : Nat} (hf : isGate f = true) {args args1 : List V} (h : SRs sc w args args1) : Sim sc w (gateA (2 ^ sc.m - 1) f args w.h2) (callN prg (n + 5) f args1 w.h1) (QE sc) := by
  intro z hz
  obtain ⟨p, e1, q⟩ := bind_inv hz
  obtain ⟨g, e2, e3⟩ := bind_inv e1
  obtain ⟨k, e4, rfl⟩ := map_inv e3
  obtain ⟨hk, q⟩ := need_inv q
  have hk : k = 0 := of_decide_eq_true hk
  subst hk
  cases args with
  | nil => cases e2
  | cons a r =>
    cases e2
    have := asR_inv e4; subst this
    obtain ⟨b, r1, rfl, h1, h2⟩ := h.uncons
    rcases h1.ref_inv with ⟨_, rfl⟩ | ⟨j, _, e, _⟩
    · obtain ⟨ts, e5, q1⟩ := bind_inv q
      obtain ⟨t, e6, q2⟩ := bind_inv q1
      obtain ⟨H', e7, rfl⟩ := map_inv q2
      have ht : tick w.h2 = need (decide (w.c < 100000)) (some (A (w.c + 1) w.L)) := rfl
      rw [ht] at e7
      obtain ⟨hc, e8⟩ := need_inv e7
      cases e8
      have hc := of_decide_eq_true hc
      have hK := sc.hK
      have hcap := o.cap
      have hr3 : w.st.cells.length ≤ 300000 := by lia
      have hr2 : Room2 w.st := by show _ ≤ _; lia
      obtain ⟨ns, rfl, hl, hn⟩ := nets_ok o h2 e5
      have hb : 3 ≤ f ∧ f ≤ 8 := of_decide_eq_true hf
      have fin : ∀ {F : (Int → Bool) → Bool}, GS w.st w.tl (callN prg (n + 5) f (.ref 7 :: ns.map .int) w.h1) 2 F → (∀ inp, F inp = t.testBit (sc.al inp)) →
          ∃ w' y, callN prg (n + 5) f (.ref 7 :: ns.map .int) w.h1 = some y ∧ Go w w' ∧ Ok sc w' ∧ QE sc w' (.sym (.net t), A (w.c + 1) w.L) y := fun hg hF => by
        obtain ⟨w', y, g1, g2, g3, g4, g5⟩ := gate_done o hc hg hF
        exact ⟨w', _, g2, g3, g4, _, _, by rw [g1], rfl, g5⟩
      rcases (show f = 3 ∨ f = 4 ∨ f = 5 ∨ f = 6 ∨ f = 7 ∨ f = 8 by lia) with rfl | rfl | rfl | rfl | rfl | rfl
      · obtain ⟨u, e9, rfl⟩ := map_inv (show (one ts).map _ = some t from e6)
        have := one_inv e9; subst this
        obtain ⟨x, rfl⟩ := list1 hl
        have N := hn 0 u x rfl rfl
        refine fin ((inv_spec (n + 2) w.tl o.inv hr2 N.1).mono (by lia)) fun inp => ?_
        rw [Nat.testBit_xor, Nat.testBit_two_pow_sub_one, decide_eq_true (sc.hal inp), N.2 inp, Bool.true_xor]
      · obtain ⟨u, e9, rfl⟩ := map_inv (show (two ts).map _ = some t from e6)
        have := two_inv e9; subst this
        obtain ⟨x, y, rfl⟩ := list2 hl
        have N := hn 0 _ x rfl rfl
        have N' := hn 1 _ y rfl rfl
        refine fin ((both_spec w.tl o.inv N.1 N'.1 (n + 1) hr2).mono (by lia)) fun inp => ?_
        rw [Nat.testBit_and, N.2 inp, N'.2 inp]
      · obtain ⟨u, e9, rfl⟩ := map_inv (show (two ts).map _ = some t from e6)
        have := two_inv e9; subst this
        obtain ⟨x, y, rfl⟩ := list2 hl
        have N := hn 0 _ x rfl rfl
        have N' := hn 1 _ y rfl rfl
        refine fin ((either_spec w.tl o.inv N.1 N'.1 (n + 1) hr2).mono (by lia)) fun inp => ?_
        rw [Nat.testBit_or, N.2 inp, N'.2 inp]
      · obtain ⟨u, e9, rfl⟩ := map_inv (show (two ts).map _ = some t from e6)
        have := two_inv e9; subst this
        obtain ⟨x, y, rfl⟩ := list2 hl
        have N := hn 0 _ x rfl rfl
        have N' := hn 1 _ y rfl rfl
        refine fin ((differ_spec w.tl o.inv N.1 N'.1 (n + 1) hr2).mono (by lia)) fun inp => ?_
        rw [Nat.testBit_xor, N.2 inp, N'.2 inp]
        cases u.1.testBit (sc.al inp) <;> cases u.2.testBit (sc.al inp) <;> rfl
      · obtain ⟨u, e9, rfl⟩ := map_inv (show (two ts).map _ = some t from e6)
        have := two_inv e9; subst this
        obtain ⟨x, y, rfl⟩ := list2 hl
        have N := hn 0 _ x rfl rfl
        have N' := hn 1 _ y rfl rfl
        refine fin (same_spec w.tl o.inv N.1 N'.1 n hr3) fun inp => ?_
        rw [Nat.testBit_xor, Nat.testBit_xor, Nat.testBit_two_pow_sub_one, decide_eq_true (sc.hal inp), N.2 inp, N'.2 inp, Bool.true_xor]
        cases u.1.testBit (sc.al inp) <;> cases u.2.testBit (sc.al inp) <;> rfl
      · obtain ⟨u, e9, rfl⟩ := map_inv (show (three ts).map _ = some t from e6)
        have := three_inv e9; subst this
        obtain ⟨x, y, z, rfl⟩ := list3 hl
        have N := hn 0 _ x rfl rfl
        have N' := hn 1 _ y rfl rfl
        have N'' := hn 2 _ z rfl rfl
        refine fin (mux_spec n w.tl o.inv N.1 N'.1 N''.1 hr3) fun inp => ?_
        rw [Nat.testBit_or, Nat.testBit_and, Nat.testBit_and, Nat.testBit_xor, Nat.testBit_two_pow_sub_one, decide_eq_true (sc.hal inp), N.2 inp, N'.2 inp, N''.2 inp, Bool.true_xor]
        cases u.1.testBit (sc.al inp) <;> cases u.2.1.testBit (sc.al inp) <;> cases u.2.2.testBit (sc.al inp) <;> rfl
    · cases e
end
end
end Mine

namespace Mine
section
open PySem
set_option autoImplicit false

noncomputable def okX : X → Bool := @X.rec (fun _ => Bool) (fun _ => true) true (fun _ => true) (fun _ => true) (fun _ => true)
  (fun _ _ _ a b => a && b) (fun _ a => a) (fun op _ _ a b => decide (op ≠ .In ∧ op ≠ .NotIn) && (a && b)) (fun _ _ a b => a && b) (fun _ _ _ t a b => t && (a && b))
  (fun _ xs => xs) (fun _ xs => xs) (fun _ _ _ => false) (fun _ _ a i => a && i) (fun _ _ _ a lo hi => a && (lo && hi)) (fun _ _ _ => false)
  (fun _ _ xs => xs) (fun _ _ _ => false) (fun _ m _ o xs => !decide (m = "count") && (o && xs)) (fun b _ xs => okBI b && xs)
  (fun _ _ _ _ elt iter cond => elt && (iter && cond)) (fun _ _ _ _ _ _ _ _ => false) true (fun _ _ a r => a && r)
noncomputable def okS : S → Bool := @S.rec (fun _ => Bool) true (fun _ _ a r => a && r) (fun _ e => okX e) (fun _ e => okX e) (fun _ _ _ => false) (fun o i e => okX o && (okX i && okX e)) (fun _ _ _ => false)
  (fun t _ _ a b => okX t && (a && b)) (fun t _ b => okX t && b) (fun _ _ it _ b => okX it && b) (fun e => okX e) (fun e => okX e)

noncomputable def SimM (sc : Sc) (d2 d1 : M) : Prop := ∀ (w : W) (ρ2 ρ1 : Rho), Ok sc w → SRho sc w ρ2 ρ1 → Sim sc w (d2 ρ2 w.h2) (d1 ρ1 w.h1) (QE sc)
noncomputable def SimX (sc : Sc) (d2 d1 : Mx) : Prop := ∀ (w : W) (ρ2 ρ1 : Rho), Ok sc w → SRho sc w ρ2 ρ1 → Sim sc w (d2 ρ2 w.h2) (d1 ρ1 w.h1) (QX sc)
noncomputable def SimC (sc : Sc) (cf2 cf1 : Nat → List V → St → Option (V × St)) : Prop := ∀ (f : Nat) (w : W) (as bs : List V), Ok sc w → SRs sc w as bs → Sim sc w (cf2 f as w.h2) (cf1 f bs w.h1) (QE sc)

section
variable {sc : Sc} {w : W}
theorem SRho.app {ρ2 ρ1 b2 b1 : Rho} (h : SRho sc w ρ2 ρ1) (h' : SRho sc w b2 b1) : SRho sc w (ρ2 ++ b2) (ρ1 ++ b1) := by
  refine ⟨by rw [List.length_append, List.length_append, h.1, h'.1], fun i x e => ?_⟩
  rw [List.getElem?_append] at e ⊢
  rw [← h.1]
  by_cases hi : i < ρ2.length
  · rw [if_pos hi] at e ⊢; exact h.2 i x e
  · rw [if_neg hi] at e ⊢; exact h'.2 _ x e
theorem SRho.set {ρ2 ρ1 : Rho} (h : SRho sc w ρ2 ρ1) {a b : V} (s : SR sc w a b) (i : Nat) : SRho sc w (ρ2.set i (some a)) (ρ1.set i (some b)) := by
  refine ⟨by simp [h.1], fun j x e => ?_⟩
  rw [List.getElem?_set] at e ⊢
  rw [← h.1]
  by_cases hj : i = j
  · rw [if_pos hj] at e ⊢
    by_cases hl : i < ρ2.length
    · rw [if_pos hl] at e ⊢; cases e; exact ⟨b, rfl, s⟩
    · rw [if_neg hl] at e; cases e
  · rw [if_neg hj] at e ⊢; exact h.2 j x e
theorem SRs.rho {xs ys : List V} (h : SRs sc w xs ys) : SRho sc w (xs.map some) (ys.map some) := by
  refine ⟨by simp [h.1], fun i x e => ?_⟩
  rw [List.getElem?_map] at e ⊢
  obtain ⟨y, e1, e2⟩ := map_inv e
  cases e2
  obtain ⟨z, f, s⟩ := h.get e1
  exact ⟨z, map_at f, s⟩
theorem bindT_ok {tgt : List Str} {a b : V} (s : SR sc w a b) {bs : List (Option V)} (h : bindT tgt a = some bs) : ∃ bs', bindT tgt b = some bs' ∧ SRho sc w bs bs' := by
  unfold bindT at h ⊢
  by_cases h1 : tgt.length = 1
  · rw [if_pos h1] at h ⊢; cases h; exact ⟨_, rfl, (SRs.one s).rho⟩
  · rw [if_neg h1] at h ⊢
    obtain ⟨xs, e1, e2⟩ := bind_inv h
    obtain ⟨e3, e4⟩ := need_inv e2
    cases e4
    have := asT_inv e1; subst this
    obtain ⟨ys, rfl, s'⟩ := s.tup_inv
    exact ⟨_, bind_at rfl (need_true (s'.1 ▸ e3)), s'.rho⟩
theorem setSlots_ok : ∀ {is : List Nat} {vs vs' : List V} {ρ2 ρ1 ρ : Rho}, SRs sc w vs vs' → SRho sc w ρ2 ρ1 → setSlots is vs ρ2 = some ρ → ∃ ρ', setSlots is vs' ρ1 = some ρ' ∧ SRho sc w ρ ρ' := by
  intro is
  induction is with
  | nil =>
    intro vs vs' ρ2 ρ1 ρ s r e
    cases vs with
    | nil => cases e; cases s.nil_inv; exact ⟨_, rfl, r⟩
    | cons v vs => cases e
  | cons i is ih =>
    intro vs vs' ρ2 ρ1 ρ s r e
    cases vs with
    | nil => cases e
    | cons v vs =>
      obtain ⟨v', vs', rfl, s1, s2⟩ := s.uncons
      exact ih s2 (r.set s1 i) e
theorem bindFor_ok {is : List Nat} {many : Bool} {a b : V} {ρ2 ρ1 ρ : Rho} (s : SR sc w a b) (r : SRho sc w ρ2 ρ1) (e : bindFor is many a ρ2 = some ρ) : ∃ ρ', bindFor is many b ρ1 = some ρ' ∧ SRho sc w ρ ρ' := by
  cases many with
  | false => exact setSlots_ok (SRs.one s) r e
  | true =>
    obtain ⟨xs, e1, e2⟩ := bind_inv (show (asT a).bind (fun vs => setSlots is vs ρ2) = some ρ from e)
    have := asT_inv e1; subst this
    obtain ⟨ys, rfl, s'⟩ := s.tup_inv
    exact setSlots_ok s' r e2

theorem row_ok {a2 a1 : M} (h : SimM sc a2 a1) (w : W) (ρ2 ρ1 : Rho) (o : Ok sc w) (r : SRho sc w ρ2 ρ1) : Sim sc w (row a2 ρ2 w.h2) (row a1 ρ1 w.h1) (QR sc) :=
  (h w ρ2 ρ1 o r).bindE fun w1 a b _ o1 s => by
    intro z hz
    obtain ⟨xs, e1, rfl⟩ := map_inv hz
    have := asT_inv e1; cases this
    obtain ⟨ys, rfl, s'⟩ := s.tup_inv
    exact ⟨w1, _, map_at rfl, Go.refl o1.inv, o1, _, _, rfl, rfl, s'⟩
section
variable {a2 a1 b2 b1 c2 c1 : M} (ha : SimM sc a2 a1) (hb : SimM sc b2 b1) (hc : SimM sc c2 c1)
include ha
theorem mBin_ok {op : Operator} (hb : SimM sc b2 b1) : SimM sc (mBin op a2 b2) (mBin op a1 b1) := fun w ρ2 ρ1 o r =>
  (ha w ρ2 ρ1 o r).bindE fun w1 _ _ g1 o1 s1 => (hb w1 ρ2 ρ1 o1 (r.mono g1)).bindE fun _ _ _ g2 o2 s2 => binop_ok o2 (s1.mono g2) s2
theorem mNeg_ok : SimM sc (mNeg a2) (mNeg a1) := fun w ρ2 ρ1 o r =>
  (ha w ρ2 ρ1 o r).bindE fun w1 a b _ o1 s => .pure o1 fun x e => by
    obtain ⟨i, e1, rfl⟩ := map_inv e
    exact ⟨_, map_at (s.asI i e1), _, _, rfl, rfl, .int _⟩
theorem mCmp_ok {op : CmpOp} (hop : op ≠ .In ∧ op ≠ .NotIn) (hb : SimM sc b2 b1) : SimM sc (mCmp op a2 b2) (mCmp op a1 b1) := fun w ρ2 ρ1 o r =>
  (ha w ρ2 ρ1 o r).bindE fun w1 _ _ g1 o1 s1 => (hb w1 ρ2 ρ1 o1 (r.mono g1)).bindE fun w2 _ _ g2 o2 s2 => .pure o2 fun x e => by
    obtain ⟨d, e1, rfl⟩ := map_inv e
    unfold cmpop at e1
    rw [if_neg hop.1, if_neg hop.2] at e1
    refine ⟨_, map_at (y := d) ?_, _, _, rfl, rfl, .bool d⟩
    unfold cmpop
    rw [if_neg hop.1, if_neg hop.2]
    exact cmpE_ok o2 (s1.mono g2) s2 e1
theorem mOr_ok (hb : SimM sc b2 b1) : SimM sc (mOr a2 b2) (mOr a1 b1) := fun w ρ2 ρ1 o r =>
  (test_ok (ha w ρ2 ρ1 o r)).bindB fun w1 d g1 o1 => by
    cases d with
    | true => exact .val o1 (.bool true)
    | false => exact hb w1 ρ2 ρ1 o1 (r.mono g1)
theorem mIte_ok (hb : SimM sc b2 b1) (hc : SimM sc c2 c1) : SimM sc (mIte a2 b2 c2) (mIte a1 b1 c1) := fun w ρ2 ρ1 o r =>
  (test_ok (ha w ρ2 ρ1 o r)).bindB fun w1 d g1 o1 => by
    cases d with
    | true => exact hb w1 ρ2 ρ1 o1 (r.mono g1)
    | false => exact hc w1 ρ2 ρ1 o1 (r.mono g1)
theorem mList_ok : SimM sc (mList a2) (mList a1) := fun w ρ2 ρ1 o r => (row_ok ha w ρ2 ρ1 o r).bindR fun _ _ _ _ o1 s => newL_ok o1 s
theorem mTup_ok : SimM sc (mTup a2) (mTup a1) := fun w ρ2 ρ1 o r => (row_ok ha w ρ2 ρ1 o r).bindR fun _ xs ys _ o1 s => .need (fun e => by rw [← s.1]; exact e) (.val o1 (.tup xs ys s.1 s.2))
theorem mSub_ok (hb : SimM sc b2 b1) : SimM sc (mSub a2 b2) (mSub a1 b1) := fun w ρ2 ρ1 o r =>
  (ha w ρ2 ρ1 o r).bindE fun w1 _ _ g1 o1 s1 => (hb w1 ρ2 ρ1 o1 (r.mono g1)).bindE fun w2 _ _ g2 o2 s2 => .pure o2 fun x e => by
    obtain ⟨v, e1, rfl⟩ := map_inv e
    obtain ⟨v', e2, s⟩ := subscr_ok o2 (s1.mono g2) s2 e1
    exact ⟨_, map_at e2, _, _, rfl, rfl, s⟩
theorem mSlc_ok (hb : SimM sc b2 b1) (hc : SimM sc c2 c1) : SimM sc (mSlc a2 b2 c2) (mSlc a1 b1 c1) := fun w ρ2 ρ1 o r =>
  (ha w ρ2 ρ1 o r).bindE fun w1 _ _ g1 o1 s1 => (hb w1 ρ2 ρ1 o1 (r.mono g1)).bindE fun w2 _ _ g2 o2 s2 => (hc w2 ρ2 ρ1 o2 (r.mono (g1.trans g2))).bindE fun w3 _ _ g3 o3 s3 =>
    .asL o3 (s1.mono (g2.trans g3)) fun xs ys s => by
      intro z hz
      obtain ⟨q, e1, e2⟩ := bind_inv hz
      obtain ⟨q', e3, s'⟩ := slice_ok s (s2.mono g3) s3 e1
      obtain ⟨w', y, e4, rest⟩ := newL_ok o3 s' z e2
      exact ⟨w', y, bind_at e3 e4, rest⟩
theorem mCall_ok {cf2 cf1 : Nat → List V → St → Option (V × St)} (hcf : SimC sc cf2 cf1) {f : Nat} : SimM sc (mCall cf2 f a2) (mCall cf1 f a1) := fun w ρ2 ρ1 o r =>
  (row_ok ha w ρ2 ρ1 o r).bindR fun w1 _ _ _ o1 s => hcf f w1 _ _ o1 s
theorem mBi_ok {b : BI} (hb : okBI b = true) : SimM sc (mBi b a2) (mBi b a1) := fun w ρ2 ρ1 o r => (row_ok ha w ρ2 ρ1 o r).bindR fun _ _ _ _ o1 s => builtin_ok o1 hb s
theorem mCons_ok (hb : SimM sc b2 b1) : SimM sc (mCons a2 b2) (mCons a1 b1) := fun w ρ2 ρ1 o r =>
  (ha w ρ2 ρ1 o r).bindE fun w1 _ _ g1 o1 s1 => (row_ok hb w1 ρ2 ρ1 o1 (r.mono g1)).map fun _ _ _ g2 ⟨xs, ys, e1, e2, s⟩ => by
    subst e1 e2
    have := (s.cons (s1.mono g2))
    exact ⟨_, _, rfl, rfl, .tup _ _ this.1 this.2⟩
theorem mMeth_ok {cf2 cf1 : Nat → List V → St → Option (V × St)} (hcf : SimC sc cf2 cf1) {m : Str} (hm : decide (m = "count") = false) (hb : SimM sc b2 b1) : SimM sc (mMeth prg cf2 a2 m b2) (mMeth prg cf1 a1 m b1) := fun w ρ2 ρ1 o r =>
  (ha w ρ2 ρ1 o r).bindE fun w1 a b g1 o1 s1 => by
    intro z hz
    cases hR : asR a with
    | none =>
      have hn : fsAt a w1.h2 = Option.none := by unfold fsAt; rw [hR]; rfl
      unfold methR at hz
      simp only [hn, hR] at hz
      cases hz
    | some n =>
      have := asR_inv hR; subst this
      rcases s1.ref_inv with ⟨rfl, rfl⟩ | ⟨j, i, rfl, rfl, hi⟩
      · have hz : (prg.meth 0 m).bind (fun f => (row b2 ρ2 w1.h2).bind fun z => cf2 f (.ref 0 :: z.1) z.2) = some z := hz
        have hg : methR prg cf1 m (row b1 ρ1) (.ref 7, w1.h1) = (prg.meth 0 m).bind (fun f => (row b1 ρ1 w1.h1).bind fun z => cf1 f (.ref 7 :: z.1) z.2) := rfl
        rw [hg]
        exact (Sim.read (Q := QE sc) (fun _ e => e) fun f => (row_ok hb w1 ρ2 ρ1 o1 (r.mono g1)).bindR fun w2 _ _ _ o2 s => hcf f w2 _ _ o2 (s.cons .g)) z hz
      · have h2 : fsAt (.ref (j + 3)) w1.h2 = Option.none := by
          show ((w1.h2[j + 3]?).bind oC).bind _ = _
          rw [at_A]
          cases w1.L[j]? <;> rfl
        have hz : (match listAt w1.h2 (j + 3) with
            | some _ => (row b2 ρ2 w1.h2).bind fun y => lmeth (j + 3) m y.1 y.2
            | Option.none => need (idictAt w1.h2 (j + 3)).isSome ((row b2 ρ2 w1.h2).bind fun y => dmeth (j + 3) m y.1 y.2)) = some z := by
          unfold methR at hz
          simp only [h2] at hz
          exact hz
        cases hl : listAt w1.h2 (j + 3) with
        | none =>
          rw [hl] at hz
          obtain ⟨e, _⟩ := need_inv hz
          have : idictAt w1.h2 (j + 3) = Option.none := by
            unfold idictAt; rw [at_A]; cases w1.L[j]? <;> rfl
          rw [this] at e; cases e
        | some l =>
          rw [hl] at hz
          obtain ⟨l', f, _⟩ := listAt_ok o1 hi hl
          have hf : (w1.h1[i + 11]?).bind oL = some l' := f
          obtain ⟨ob, p1, p2⟩ := bind_inv hf
          have hoL := oL_inv p2; subst hoL
          have h3 : fsAt (.ref (i + 11)) w1.h1 = Option.none := by
            show ((w1.h1[i + 11]?).bind oC).bind _ = _
            rw [p1]; rfl
          have hg : methR prg cf1 m (row b1 ρ1) (.ref (i + 11), w1.h1) = (row b1 ρ1 w1.h1).bind fun y => lmeth (i + 11) m y.1 y.2 := by
            have hg : methR prg cf1 m (row b1 ρ1) (.ref (i + 11), w1.h1) = (match fsAt (.ref (i + 11)) w1.h1 with
              | some y => (prg.meth y.1 m).bind fun f => (row b1 ρ1 w1.h1).bind fun z => cf1 f (.ref (i + 11) :: z.1) z.2
              | Option.none => (asR (.ref (i + 11))).bind fun n => match listAt w1.h1 n with
                | some _ => (row b1 ρ1 w1.h1).bind fun y => lmeth n m y.1 y.2
                | Option.none => need (idictAt w1.h1 n).isSome ((row b1 ρ1 w1.h1).bind fun y => dmeth n m y.1 y.2)) := rfl
            rw [hg, h3]
            show (match listAt w1.h1 (i + 11) with
                | some _ => (row b1 ρ1 w1.h1).bind fun y => lmeth (i + 11) m y.1 y.2
                | Option.none => need (idictAt w1.h1 (i + 11)).isSome ((row b1 ρ1 w1.h1).bind fun y => dmeth (i + 11) m y.1 y.2)) = _
            rw [f]
          rw [hg]
          exact ((row_ok hb w1 ρ2 ρ1 o1 (r.mono g1)).bindR (Q := QE sc) fun w2 _ _ g2 o2 s => lmeth_ok o2 hm (g2.io j i hi) s) z hz
theorem mComp_ok {tgt : List Str} (hb : SimM sc b2 b1) (hc : SimM sc c2 c1) : SimM sc (mComp a2 tgt b2 c2) (mComp a1 tgt b1 c1) := fun w ρ2 ρ1 o r =>
  (hb w ρ2 ρ1 o r).bindE fun w1 x x' g1 o1 s1 => by
    refine Sim.bind (R := fun w' a b => w' = w1 ∧ SrcR sc w1 a b) (.pure o1 fun s e => let ⟨s', e1, e2⟩ := source_ok o1 s1 e; ⟨s', e1, rfl, e2⟩) fun w2 s s' _ _ ⟨e, q⟩ => ?_
    subst e
    show Sim sc w2 ((mapL s _ s.len 0 w2.h2).bind _) ((mapL s' _ s'.len 0 w2.h1).bind _) _
    rw [← q.len]
    refine (mapL_ok (fun w3 a b g3 o3 sab => ?_) s.len 0 w2 (Go.refl o1.inv) o1 q).bindR fun _ _ _ _ o4 s4 => newL_ok o4 s4
    refine Sim.bind (R := fun w' bs bs' => w' = w3 ∧ SRho sc w3 bs bs') (.pure o3 fun bs e => let ⟨bs', e1, e2⟩ := bindT_ok sab e; ⟨bs', e1, rfl, e2⟩) fun w4 bs bs' _ _ ⟨e, rb⟩ => ?_
    subst e
    have rr := (r.mono (g1.trans g3)).app rb
    refine (test_ok (hc w4 _ _ o3 rr)).bindB fun w5 d g5 o5 => ?_
    cases d with
    | true => exact (ha w5 _ _ o5 (rr.mono g5)).map fun _ _ _ _ ⟨u, v, e1, e2, s⟩ => ⟨_, _, by rw [e1], by rw [e2], .one s⟩
    | false => exact .here o5 ⟨_, _, rfl, rfl, .nil⟩
end
end
end
end Mine

namespace Mine
section
open PySem
set_option autoImplicit false

section
variable {sc : Sc} {cf2 cf1 : Nat → List V → St → Option (V × St)} (hcf : SimC sc cf2 cf1)
include hcf
theorem ev_ok : ∀ e : X, okX e = true → SimM sc (ev prg cf2 e) (ev prg cf1 e) := by
  intro e
  induction e with
  | loc i =>
    exact fun _ w ρ2 ρ1 o r => .pure o fun x e => by
      obtain ⟨v, e1, rfl⟩ := map_inv e
      obtain ⟨y, f, s⟩ := r.2 i v (Option.join_eq_some_iff.mp e1)
      exact ⟨_, map_at (Option.join_eq_some_iff.mpr f), _, _, rfl, rfl, s⟩
  | cnone => exact fun _ w ρ2 ρ1 o r => .val o .none
  | cint n => exact fun _ w ρ2 ρ1 o r => .val o (.int n)
  | cstr s => exact fun _ w ρ2 ρ1 o r => .val o (.str s)
  | cbool b => exact fun _ w ρ2 ρ1 o r => .val o (.bool b)
  | bin op a b iha ihb => exact fun h => mBin_ok (iha (and_inv h).1) (ihb (and_inv h).2)
  | neg a iha => exact fun h => mNeg_ok (iha h)
  | cmp op a b iha ihb => exact fun h => mCmp_ok (iha (and_inv (and_inv h).2).1) (of_decide_eq_true (and_inv h).1) (ihb (and_inv (and_inv h).2).2)
  | or2 a b iha ihb => exact fun h => mOr_ok (iha (and_inv h).1) (ihb (and_inv h).2)
  | ite t a b iht iha ihb => exact fun h => mIte_ok (iht (and_inv h).1) (iha (and_inv (and_inv h).2).1) (ihb (and_inv (and_inv h).2).2)
  | list xs ih => exact fun h => mList_ok (ih h)
  | tup xs ih => exact fun h => mTup_ok (ih h)
  | dict k xs => exact fun h => by cases h
  | sub a i iha ihi => exact fun h => mSub_ok (iha (and_inv h).1) (ihi (and_inv h).2)
  | slc a lo hi iha ihl ihh => exact fun h => mSlc_ok (iha (and_inv h).1) (ihl (and_inv (and_inv h).2).1) (ihh (and_inv (and_inv h).2).2)
  | attr o name => exact fun h => by cases h
  | call f xs ih => exact fun h => mCall_ok (ih h) hcf
  | new c xs => exact fun h => by cases h
  | meth o m xs iho ihx => exact fun h => mMeth_ok (iho (and_inv (and_inv h).2).1) hcf (by have := (and_inv h).1; simpa using this) (ihx (and_inv (and_inv h).2).2)
  | bi b xs ih => exact fun h => mBi_ok (ih (and_inv h).2) (and_inv h).1
  | comp elt tgt iter cond ihe ihi ihc => exact fun h => mComp_ok (ihe (and_inv h).1) (ihi (and_inv (and_inv h).2).1) (ihc (and_inv (and_inv h).2).2)
  | comp2 => exact fun h => by cases h
  | nil => exact fun _ w ρ2 ρ1 o r => .val o (.tup [] [] rfl fun _ _ _ e => by cases e)
  | cons a b iha ihb => exact fun h => mCons_ok (iha (and_inv h).1) (ihb (and_inv h).2)

theorem ex_ok : ∀ s : S, okS s = true → SimX sc (ex prg cf2 s) (ex prg cf1 s) := by
  intro s
  induction s with
  | nil => exact fun _ w ρ2 ρ1 o r => .here o ⟨_, _, _, _, rfl, rfl, .next, r⟩
  | cons a b iha ihb => exact fun h w ρ2 ρ1 o r => (iha (and_inv h).1 w ρ2 ρ1 o r).bind fun w1 _ _ _ o1 q => onward_ok o1 q fun ρ2 ρ1 r => ihb (and_inv h).2 w1 ρ2 ρ1 o1 r
  | asg i e => exact fun h w ρ2 ρ1 o r => (ev_ok hcf e h w ρ2 ρ1 o r).map fun _ _ _ g ⟨a, b, e1, e2, s⟩ => ⟨_, _, _, _, by rw [e1], by rw [e2], .next, (r.mono g).set s i⟩
  | unp is e =>
    exact fun h w ρ2 ρ1 o r => (ev_ok hcf e h w ρ2 ρ1 o r).bindE fun w1 a b g o1 s => .pure o1 fun x e => by
      obtain ⟨vs, e1, e2⟩ := bind_inv e
      obtain ⟨ρ, e3, rfl⟩ := map_inv e2
      have := asT_inv e1; cases this
      obtain ⟨ys, rfl, s'⟩ := s.tup_inv
      obtain ⟨ρ', f, r'⟩ := setSlots_ok s' (r.mono g) e3
      exact ⟨_, bind_at rfl (map_at f), _, _, _, _, rfl, rfl, .next, r'⟩
  | att => exact fun h => by cases h
  | sub o i e =>
    exact fun h w ρ2 ρ1 ok r => (ev_ok hcf e (and_inv (and_inv h).2).2 w ρ2 ρ1 ok r).bindE fun w1 _ _ g1 o1 s1 => (ev_ok hcf o (and_inv h).1 w1 ρ2 ρ1 o1 (r.mono g1)).bindE fun w2 _ _ g2 o2 s2 =>
      (ev_ok hcf i (and_inv (and_inv h).2).1 w2 ρ2 ρ1 o2 (r.mono (g1.trans g2))).bindE fun w3 _ _ g3 o3 s3 => by
        intro z hz
        obtain ⟨H, e1, rfl⟩ := map_inv hz
        obtain ⟨w4, rfl, e2, g4, o4⟩ := setAt_ok o3 (s2.mono g3) s3 (s1.mono (g2.trans g3)) e1
        exact ⟨w4, _, map_at e2, g4, o4, _, _, _, _, rfl, rfl, .next, r.mono (((g1.trans g2).trans g3).trans g4)⟩
  | aug => exact fun h => by cases h
  | cond t a b iha ihb =>
    exact fun h w ρ2 ρ1 o r => (test_ok (ev_ok hcf t (and_inv h).1 w ρ2 ρ1 o r)).bindB fun w1 d g1 o1 => by
      cases d with
      | true => exact iha (and_inv (and_inv h).2).1 w1 ρ2 ρ1 o1 (r.mono g1)
      | false => exact ihb (and_inv (and_inv h).2).2 w1 ρ2 ρ1 o1 (r.mono g1)
  | loop t b ihb => exact fun h w ρ2 ρ1 o r => whileL_ok (fun w1 ρ2 ρ1 o r => ev_ok hcf t (and_inv h).1 w1 ρ2 ρ1 o r) (fun w1 ρ2 ρ1 o r => ihb (and_inv h).2 w1 ρ2 ρ1 o r) 100 w ρ2 ρ1 o r
  | for_ is many it b ihb =>
    exact fun h w ρ2 ρ1 o r => (ev_ok hcf it (and_inv h).1 w ρ2 ρ1 o r).bindE fun w1 x x' g1 o1 s1 => by
      refine Sim.bind (R := fun w' a b => w' = w1 ∧ SrcR sc w1 a b) (.pure o1 fun s e => let ⟨s', e1, e2⟩ := source_ok o1 s1 e; ⟨s', e1, rfl, e2⟩) fun w2 s s' _ _ ⟨e, q⟩ => ?_
      subst e
      show Sim sc w2 (forL s _ s.len 0 ρ2 w2.h2) (forL s' _ s'.len 0 ρ1 w2.h1) _
      rw [← q.len]
      refine forL_ok (fun w3 a c ρ2 ρ1 o3 sab r3 => ?_) s.len 0 w2 ρ2 ρ1 o1 q (r.mono g1)
      refine Sim.bind (R := fun w' bs bs' => w' = w3 ∧ SRho sc w3 bs bs') (.pure o3 fun bs e => let ⟨bs', e1, e2⟩ := bindFor_ok sab r3 e; ⟨bs', e1, rfl, e2⟩) fun w4 bs bs' _ _ ⟨e, rb⟩ => ?_
      subst e
      exact ihb (and_inv h).2 w4 _ _ o3 rb
  | ret e => exact fun h w ρ2 ρ1 o r => (ev_ok hcf e h w ρ2 ρ1 o r).map fun _ _ _ g ⟨a, b, e1, e2, s⟩ => ⟨_, _, _, _, by rw [e1], by rw [e2], .ret a b s, r.mono g⟩
  | exp e => exact fun h w ρ2 ρ1 o r => (ev_ok hcf e h w ρ2 ρ1 o r).map fun _ _ _ g ⟨a, b, e1, e2, s⟩ => ⟨_, _, _, _, by rw [e1], by rw [e2], .next, r.mono g⟩
end

theorem FR.vals {sc : Sc} {w : W} {a b : Fl} (h : FR sc w a b) : SR sc w a.val b.val := by
  cases h with
  | next => exact .none
  | ret _ _ s => exact s
/-- the functions' texts -/
noncomputable def okFn (f : Nat) : Bool := match prg.fn f with
  | some e => e.2.1.isEmpty && okS e.2.2.1
  | Option.none => true
theorem okFns : ((List.range 46).all fun f => !okF f || okFn f) = true := by kernel_rfl
theorem okF_lt {f : Nat} (h : okF f = true) : f < 46 := by
  unfold okF at h
  simp only [Bool.or_eq_true, decide_eq_true_eq] at h
  lia
theorem okFn_of {f : Nat} (h : okF f = true) {e : Nat × List V × S × Nat} (he : prg.fn f = some e) : e.2.1 = [] ∧ okS e.2.2.1 = true := by
  have := List.all_eq_true.mp okFns f (List.mem_range.mpr (okF_lt h))
  rw [h] at this
  have : okFn f = true := this
  unfold okFn at this
  rw [he] at this
  exact ⟨List.isEmpty_iff.mp (and_inv this).1, (and_inv this).2⟩
theorem frame_ok {sc : Sc} {w : W} {e : Nat × List V × S × Nat} (hd : e.2.1 = []) {as bs : List V} (h : SRs sc w as bs) {ρ : Rho} (hf : frameOf e as = some ρ) : ∃ ρ', frameOf e bs = some ρ' ∧ SRho sc w ρ ρ' := by
  obtain ⟨e1, e2⟩ := need_inv hf
  cases e2
  refine ⟨_, need_true (by rw [← h.1]; exact e1), ?_⟩
  rw [hd]
  refine SRho.app (h.app ?_).rho ⟨rfl, fun i x e => ?_⟩
  · rw [List.drop_nil, List.drop_nil]; exact .nil
  · obtain ⟨_, q⟩ := List.getElem?_eq_some_iff.mp e
    rw [List.getElem_replicate] at q; cases q

theorem callA_ok (sc : Sc) : ∀ k n : Nat, k + 5 ≤ n → SimC sc (callA prg (2 ^ sc.m - 1) k) (callN prg n) := by
  intro k
  induction k with
  | zero => exact fun n _ f w as bs o s z hz => by cases hz
  | succ k ih =>
    intro n hn f w as bs o s
    obtain ⟨n, rfl⟩ := Nat.exists_eq_add_of_le hn
    cases hg : isGate f with
    | true =>
      have hc : callA prg (2 ^ sc.m - 1) (k + 1) f as w.h2 = gateA (2 ^ sc.m - 1) f as w.h2 := if_pos hg
      rw [hc, show k + 1 + 5 + n = (k + 1 + n) + 5 by lia]
      exact gate_ok _ o hg s
    | false =>
      have hc : callA prg (2 ^ sc.m - 1) (k + 1) f as w.h2 = need (okF f) (runFn prg (callA prg (2 ^ sc.m - 1) k) f as w.h2) := if_neg (by rw [hg]; exact Bool.false_ne_true)
      rw [hc, show k + 1 + 5 + n = (k + 5 + n) + 1 by lia]
      intro z hz
      obtain ⟨hf, hz⟩ := need_inv hz
      refine (Sim.bind (R := fun w' a b => w' = w ∧ a = b ∧ prg.fn f = some a) (.pure o fun x e => ⟨x, e, rfl, rfl, e⟩) fun w1 e e' _ _ ⟨h1, h2, h3⟩ => ?_ : Sim sc w (runFn prg (callA prg (2 ^ sc.m - 1) k) f as w.h2) (runFn prg (callN prg (k + 5 + n)) f bs w.h1) (QE sc)) z hz
      subst h1 h2
      obtain ⟨hd, hb⟩ := okFn_of hf h3
      refine Sim.bind (R := fun w' a b => w' = w1 ∧ SRho sc w1 a b) (.pure o fun x e => let ⟨y, e1, e2⟩ := frame_ok hd s e; ⟨y, e1, rfl, e2⟩) fun w2 ρ2 ρ1 _ _ ⟨h1, r⟩ => ?_
      subst h1
      exact (ex_ok (ih (k + 5 + n) (by lia)) e.2.2.1 hb w2 ρ2 ρ1 o r).map fun _ _ _ _ ⟨_, _, _, _, e1, e2, fr, _⟩ => ⟨_, _, by rw [e1], by rw [e2], fr.vals⟩
end
end Mine

namespace Mine
section
open PySem
set_option autoImplicit false

noncomputable def nthS : Nat → S → S
  | 0, .cons a _ => a
  | n + 1, .cons _ r => nthS n r
  | _, _ => .nil
noncomputable def dropS : Nat → S → S
  | 0, s => s
  | n + 1, .cons _ r => dropS n r
  | _, _ => .nil
noncomputable def elseOf : S → S
  | .cond _ _ b => b
  | _ => .nil
noncomputable def bodyFor : S → S
  | .for_ _ _ _ b => b
  | _ => .nil
noncomputable def elseN : Nat → S → S
  | 0, s => s
  | n + 1, s => elseN n (nthS 0 (elseOf s))
noncomputable def chainS : S := nthS 11 b_law
noncomputable def thenOf : S → S
  | .cond _ a _ => a
  | _ => .nil
/-- its branches -/
noncomputable def branchS (k : Nat) : S := thenOf (elseN k chainS)
/-- its last branch, behind the pick -/
noncomputable def lastS : S := dropS 1 (elseOf (elseN 7 chainS))
noncomputable def rowS : S := bodyFor (nthS 13 b_law)

/-- the table of variable j, of N rows -/
noncomputable def tabV (N j : Nat) : Nat := (List.range N).foldl (fun t a => if a.testBit j then t + 2 ^ a else t) 0
noncomputable def tabs (N a k : Nat) : List V := (List.range k).map fun j => V.sym (.net (tabV N (a + j)))
noncomputable def ρ2 (w which right top : Nat) : Rho :=
  [Option.none, Option.none, Option.none, some (.int w), some (.int which), Option.none, some (.ref 0), some (.ref 3), some (.ref 4), some (.sym (.net (tabV (2 ^ (2 * w + 1)) (2 * w)))), some (.int right), some (.int top)] ++ List.replicate 8 Option.none
noncomputable def run2 (s : S) (w which right top : Nat) : Option (Fl × Rho × St) :=
  ex prg (callA prg (2 ^ (2 ^ (2 * w + 1)) - 1) 7) s (ρ2 w which right top) (A 0 [tabs (2 ^ (2 * w + 1)) 0 w, tabs (2 ^ (2 * w + 1)) w w])
noncomputable def isNext : Fl → Bool
  | .next => true
  | _ => false
noncomputable def toldV (w : Nat) (ρ : Rho) (H : St) : Option (List (List Nat)) := (ρ[14]?.join).bind fun v => (asL H v).bind fun ls => mapO (fun l => (asL H l).bind (mapO (netT (2 ^ (2 ^ (2 * w + 1)) - 1)))) ls
noncomputable def keptV (w : Nat) (H : St) (i a : Nat) : Bool := decide ((listAt H i).bind (mapO (netT (2 ^ (2 ^ (2 * w + 1)) - 1))) = some ((List.range w).map fun j => tabV (2 ^ (2 * w + 1)) (a + j)))
noncomputable def told2 (s : S) (w which right top : Nat) : Option (List (List Nat)) := (run2 s w which right top).bind fun q => need (isNext q.1 && (keptV w q.2.2 3 0 && keptV w q.2.2 4 w)) (toldV w q.2.1 q.2.2)
noncomputable def num (a : Nat) : List Nat → Int
  | [] => 0
  | t :: r => (if t.testBit a then 1 else 0) + 2 * num a r
noncomputable def bitsOf (a k : Nat) : Int := (a % 2 ^ k : Nat)
noncomputable def due2 (w which right top a : Nat) : Option (List Int) := (callA prg (2 ^ 1 - 1) 7 44 [.int which, .int (bitsOf a w), .int (bitsOf (a / 2 ^ w) w), .int (bitsOf (a / 2 ^ (2 * w)) 1), .int w, .int right, .int top] (A 100000 [])).bind fun r => (asL r.2 r.1).bind intsOf
noncomputable def okRun (s : S) (w which right top : Nat) : Bool := match told2 s w which right top with
  | some ts => (decide (ts.length ≤ 20) && ts.all (fun t => decide (t.length ≤ 20))) && (List.range (2 ^ (2 * w + 1))).all fun a => decide (due2 w which right top a = some (ts.map (num a)))
  | Option.none => false
end
end Mine

namespace Mine
section
open PySem
set_option autoImplicit false

/-- slot i is not written -/
noncomputable def keepS (i : Nat) : S → Bool := @S.rec (fun _ => Bool) true (fun _ _ a r => a && r) (fun j _ => decide (j ≠ i)) (fun is _ => decide (i ∉ is)) (fun _ _ _ => true) (fun _ _ _ => true) (fun _ _ _ => true)
  (fun _ _ _ a b => a && b) (fun _ _ b => b) (fun is _ _ _ b => decide (i ∉ is) && b) (fun _ => true) (fun _ => true)

noncomputable def Keeps (i : Nat) (d : Mx) : Prop := ∀ (ρ : Rho) (H : St) (q : Fl × Rho × St), d ρ H = some q → q.2.1[i]? = ρ[i]?
theorem setSlots_keeps {i : Nat} : ∀ {is : List Nat} {vs : List V} {ρ ρ' : Rho}, i ∉ is → setSlots is vs ρ = some ρ' → ρ'[i]? = ρ[i]? := by
  intro is
  induction is with
  | nil =>
    intro vs ρ ρ' _ e
    cases vs with
    | nil => cases e; rfl
    | cons => cases e
  | cons j is ih =>
    intro vs ρ ρ' h e
    cases vs with
    | nil => cases e
    | cons v vs =>
      rw [ih (fun h' => h (List.mem_cons_of_mem _ h')) e]
      exact List.getElem?_set_ne fun e => h (by rw [e]; exact List.mem_cons_self)
theorem onward_keeps {i : Nat} {f : Rho → St → Option (Fl × Rho × St)} (hf : Keeps i f) {q q' : Fl × Rho × St} (e : onward q f = some q') : q'.2.1[i]? = q.2.1[i]? := by
  obtain ⟨a, ρ, H⟩ := q
  cases a with
  | next => exact hf ρ H q' e
  | ret v => cases e; rfl
theorem Keeps.cons {i : Nat} {a b : Mx} (ha : Keeps i a) (hb : Keeps i b) : Keeps i (sCons a b) := fun ρ H q e => by
  obtain ⟨q1, e1, e2⟩ := bind_inv e
  rw [onward_keeps hb e2, ha ρ H q1 e1]
theorem Keeps.cond {i : Nat} {t : M} {a b : Mx} (ha : Keeps i a) (hb : Keeps i b) : Keeps i (sCond t a b) := fun ρ H q e => by
  obtain ⟨⟨d, H1⟩, e1, e2⟩ := bind_inv e
  cases d with
  | true => exact ha ρ H1 q e2
  | false => exact hb ρ H1 q e2
theorem ex_keeps {P : Prg} {cf : Nat → List V → St → Option (V × St)} (i : Nat) : ∀ s : S, keepS i s = true → Keeps i (ex P cf s) := by
  intro s
  induction s with
  | nil => exact fun _ ρ H q e => by cases e; rfl
  | cons a b iha ihb => exact fun h => (iha (and_inv h).1).cons (ihb (and_inv h).2)
  | asg j e =>
    exact fun h ρ H q e => by
      obtain ⟨x, _, rfl⟩ := map_inv e
      exact List.getElem?_set_ne (of_decide_eq_true (show decide (j ≠ i) = true from h))
  | unp is e =>
    exact fun h ρ H q e => by
      obtain ⟨x, _, e2⟩ := bind_inv e
      obtain ⟨vs, _, e3⟩ := bind_inv e2
      obtain ⟨ρ', e4, rfl⟩ := map_inv e3
      exact setSlots_keeps (of_decide_eq_true (show decide (i ∉ is) = true from h)) e4
  | att o n e =>
    exact fun h ρ H q e => by
      obtain ⟨x, _, e2⟩ := bind_inv e
      obtain ⟨y, _, e3⟩ := bind_inv e2
      obtain ⟨_, _, rfl⟩ := map_inv e3
      rfl
  | sub o j e =>
    exact fun h ρ H q e => by
      obtain ⟨x, _, e2⟩ := bind_inv e
      obtain ⟨y, _, e3⟩ := bind_inv e2
      obtain ⟨z, _, e4⟩ := bind_inv e3
      obtain ⟨_, _, rfl⟩ := map_inv e4
      rfl
  | aug o n e =>
    exact fun h ρ H q e => by
      obtain ⟨x, _, e2⟩ := bind_inv e
      obtain ⟨y, _, e3⟩ := bind_inv e2
      obtain ⟨z, _, e4⟩ := bind_inv e3
      obtain ⟨_, _, e5⟩ := bind_inv e4
      obtain ⟨_, _, e6⟩ := bind_inv e5
      obtain ⟨_, _, rfl⟩ := map_inv e6
      rfl
  | cond t a b iha ihb => exact fun h => (iha (and_inv h).1).cond (ihb (and_inv h).2)
  | loop t b ihb =>
    exact fun h => by
      have hb := ihb h
      have : ∀ k, Keeps i (whileL (ev P cf t) (ex P cf b) k) := by
        intro k
        induction k with
        | zero => exact fun ρ H q e => by cases e
        | succ k ih =>
          intro ρ H q e
          obtain ⟨⟨d, H1⟩, _, e2⟩ := bind_inv e
          cases d with
          | true =>
            obtain ⟨q1, e3, e4⟩ := bind_inv (show (ex P cf b ρ H1).bind _ = _ from e2)
            rw [onward_keeps ih e4, hb ρ H1 q1 e3]
          | false => cases e2; rfl
      exact this 100
  | for_ is many it b ihb =>
    exact fun h ρ H q e => by
      have hb := ihb (and_inv h).2
      have hi : i ∉ is := of_decide_eq_true (and_inv h).1
      obtain ⟨x, _, e2⟩ := bind_inv e
      obtain ⟨src, _, e3⟩ := bind_inv e2
      have : ∀ k j, Keeps i (forL src (turnF is many (ex P cf b)) k j) := by
        intro k
        induction k with
        | zero =>
          intro j ρ H q e
          obtain ⟨_, e⟩ := need_inv e
          cases e; rfl
        | succ k ih =>
          intro j ρ H q e
          obtain ⟨v, _, e2⟩ := bind_inv e
          obtain ⟨q1, e4, e5⟩ := bind_inv e2
          obtain ⟨ρ', e6, e7⟩ := bind_inv e4
          rw [onward_keeps (ih _) e5, hb _ _ _ e7]
          cases many with
          | false => exact setSlots_keeps hi e6
          | true =>
            obtain ⟨vs, _, e8⟩ := bind_inv (show (asT v).bind _ = _ from e6)
            exact setSlots_keeps hi e8
      exact this _ _ _ _ _ e3
  | ret e =>
    exact fun h ρ H q e => by
      obtain ⟨x, _, rfl⟩ := map_inv e
      rfl
  | exp e =>
    exact fun h ρ H q e => by
      obtain ⟨x, _, rfl⟩ := map_inv e
      rfl
end
end Mine

namespace Mine
section
open PySem
set_option autoImplicit false

noncomputable def valB : List Bool → Nat
  | [] => 0
  | b :: r => (if b = true then 1 else 0) + 2 * valB r
theorem valB_lt : ∀ l : List Bool, valB l < 2 ^ l.length
  | [] => Nat.zero_lt_one
  | b :: r => by
    have := valB_lt r
    show (if b = true then 1 else 0) + 2 * valB r < 2 ^ (r.length + 1)
    rw [Nat.pow_succ]
    cases b
    · show 0 + _ < _; lia
    · show 1 + _ < _; lia
theorem valB_bit : ∀ (l : List Bool) (j : Nat), (valB l).testBit j = l[j]?.getD false
  | [], j => Nat.zero_testBit j
  | b :: r, 0 => by
    rw [Nat.testBit_zero]
    cases b
    · show decide ((0 + 2 * valB r) % 2 = 1) = false
      exact decide_eq_false (by lia)
    · show decide ((1 + 2 * valB r) % 2 = 1) = true
      exact decide_eq_true (by lia)
  | b :: r, j + 1 => by
    rw [Nat.testBit_succ]
    have : valB (b :: r) / 2 = valB r := by
      cases b
      · show (0 + 2 * valB r) / 2 = _; lia
      · show (1 + 2 * valB r) / 2 = _; lia
    rw [this]; exact valB_bit r j

noncomputable def tabOk (w : Nat) : Bool := (List.range (2 ^ (2 * w + 1))).all fun a => (List.range (2 * w + 1)).all fun j => (tabV (2 ^ (2 * w + 1)) j).testBit a == a.testBit j
theorem tabOk_1 : tabOk 1 = true := by kernel_rfl
theorem tabOk_2 : tabOk 2 = true := by kernel_rfl
theorem tabOk_3 : tabOk 3 = true := by kernel_rfl
theorem tab_bit {w : Nat} (hw : 1 ≤ w ∧ w ≤ 3) {j a : Nat} (hj : j < 2 * w + 1) (ha : a < 2 ^ (2 * w + 1)) : (tabV (2 ^ (2 * w + 1)) j).testBit a = a.testBit j := by
  have h : tabOk w = true := by
    rcases (show w = 1 ∨ w = 2 ∨ w = 3 by lia) with rfl | rfl | rfl
    · exact tabOk_1
    · exact tabOk_2
    · exact tabOk_3
  have h1 := List.all_eq_true.mp h a (List.mem_range.mpr ha)
  have h2 := List.all_eq_true.mp h1 j (List.mem_range.mpr hj)
  exact eq_of_beq h2

/-- a list of nets has these tables -/
noncomputable def NVs (st : NS) (al : (Int → Bool) → Nat) (ts : List Nat) (ns : List Int) : Prop := ts.length = ns.length ∧ ∀ (k t : Nat) (n : Int), ts[k]? = some t → ns[k]? = some n → Net st n ∧ ∀ inp, nval st.cells inp n = t.testBit (al inp)
noncomputable def Lst (tl : List O) (v : V) (ns : List Int) : Prop := ∃ i, v = .ref (i + 11) ∧ tl[i]? = some (.list (ns.map .int))
noncomputable def Told (st : NS) (tl : List O) (al : (Int → Bool) → Nat) : List (List Nat) → List V → Prop
  | [], [] => True
  | t :: ts, r :: rs => (∃ ns, Lst tl r ns ∧ NVs st al t ns) ∧ Told st tl al ts rs
  | _, _ => False
theorem told_ok {sc : Sc} {w : W} (o : Ok sc w) : ∀ {ls rs : List V} {ts : List (List Nat)}, SRs sc w ls rs → mapO (fun l => (asL w.h2 l).bind (mapO (netT (2 ^ sc.m - 1)))) ls = some ts → Told w.st w.tl sc.al ts rs := by
  intro ls
  induction ls with
  | nil => intro rs ts s e; cases e; cases s.nil_inv; exact trivial
  | cons l ls ih =>
    intro rs ts s e
    obtain ⟨t, e1, e2⟩ := bind_inv e
    obtain ⟨us, e3, rfl⟩ := map_inv e2
    obtain ⟨r, rs, rfl, s1, s2⟩ := s.uncons
    obtain ⟨xs, e4, e5⟩ := bind_inv e1
    obtain ⟨j, i, ys, _, rfl, _, _, f1, s3, _⟩ := asL_ok o s1 xs e4
    obtain ⟨ns, rfl, hl, hk⟩ := nets_ok o s3 e5
    exact ⟨⟨ns, ⟨i, rfl, f1⟩, hl, hk⟩, ih s2 e3⟩
theorem lst_ok {sc : Sc} {w : W} (o : Ok sc w) {j i : Nat} (hi : w.ι[j]? = some i) {ts : List Nat} (h : (listAt w.h2 (j + 3)).bind (mapO (netT (2 ^ sc.m - 1))) = some ts) : ∃ ns : List Int, w.tl[i]? = some (.list (ns.map .int)) ∧ NVs w.st sc.al ts ns := by
  obtain ⟨xs, e4, e5⟩ := bind_inv h
  obtain ⟨_, _, ys, e1, e2, _, _, f1, s3, _⟩ := asL_ok o (.ref j i hi) xs (show (asR (.ref (j + 3))).bind (listAt w.h2) = _ from e4)
  cases e2
  obtain ⟨ns, rfl, hl, hk⟩ := nets_ok o s3 e5
  exact ⟨ns, f1, hl, hk⟩

theorem SRho.cons {sc : Sc} {w : W} {a b : Option V} {r r' : Rho} (h : ∀ x, a = some x → ∃ y, b = some y ∧ SR sc w x y) (hs : SRho sc w r r') : SRho sc w (a :: r) (b :: r') := by
  refine ⟨congrArg (· + 1) hs.1, fun i x e => ?_⟩
  cases i with
  | zero =>
    have e : a = some x := by simpa using e
    obtain ⟨y, e1, e2⟩ := h x e
    exact ⟨y, by rw [e1]; rfl, e2⟩
  | succ i => exact hs.2 i x e
theorem SRho.skip {sc : Sc} {w : W} {b : Option V} {r r' : Rho} (hs : SRho sc w r r') : SRho sc w (Option.none :: r) (b :: r') := .cons (fun _ e => by cases e) hs
theorem SRho.some {sc : Sc} {w : W} {a b : V} {r r' : Rho} (h : SR sc w a b) (hs : SRho sc w r r') : SRho sc w (some a :: r) (some b :: r') := .cons (fun _ e => by cases e; exact ⟨b, rfl, h⟩) hs
theorem SRho.blank {sc : Sc} {w : W} (n : Nat) {r : Rho} (h : r.length = n) : SRho sc w (List.replicate n Option.none) r := by
  refine ⟨by rw [List.length_replicate, h], fun i x e => ?_⟩
  obtain ⟨_, q⟩ := List.getElem?_eq_some_iff.mp e
  rw [List.getElem_replicate] at q; cases q

/-- the tables of the words and the carry -/
noncomputable def alOf (cells : List Cell) (ns : List Int) (inp : Int → Bool) : Nat := valB (ns.map (nval cells inp))
theorem base_net {w : Nat} (hw : 1 ≤ w ∧ w ≤ 3) {st : NS} {ns : List Int} (hn : ns.length = 2 * w + 1) {j : Nat} {n : Int} (hj : ns[j]? = some n) (inp : Int → Bool) : nval st.cells inp n = (tabV (2 ^ (2 * w + 1)) j).testBit (alOf st.cells ns inp) := by
  have hlt := (List.getElem?_eq_some_iff.mp hj).1
  have := valB_lt (ns.map (nval st.cells inp))
  rw [List.length_map, hn] at this
  unfold alOf
  rw [tab_bit hw (hn ▸ hlt) this, valB_bit, List.getElem?_map, hj]; rfl
theorem tabs_ok {sc : Sc} {w : W} {N a k : Nat} {ns : List Int} (hk : ns.length = k) (h : ∀ (j : Nat) (n : Int), ns[j]? = some n → Net w.st n ∧ ∀ inp, nval w.st.cells inp n = (tabV N (a + j)).testBit (sc.al inp)) : SRs sc w (tabs N a k) (ns.map .int) := by
  refine ⟨by simp [tabs, hk], fun j x y e1 e2 => ?_⟩
  unfold tabs at e1
  rw [List.getElem?_map] at e1 e2
  obtain ⟨i, e3, rfl⟩ := map_inv e1
  obtain ⟨n, e4, rfl⟩ := map_inv e2
  have : i = j := by
    obtain ⟨hl, e5⟩ := List.getElem?_eq_some_iff.mp e3
    rw [List.getElem_range] at e5; exact e5.symm
  subst this
  have := h _ n e4
  exact .net _ n this.1 this.2

theorem chain_sim {s : S} (hs : okS s = true) {w which right top : Nat} (hw : 1 ≤ w ∧ w ≤ 3) {ts : List (List Nat)} (hrun : told2 s w which right top = some ts) {st : NS} {tl : List O} (I : Inv st) (hcells : st.cells.length ≤ 1000)
    {us vs : List Int} {c : Int} (hu : us.length = w) (hv : vs.length = w) (hnet : ∀ n ∈ us ++ vs ++ [c], Net st n) {iu iv : Nat} (hne : iu ≠ iv) (hiu : tl[iu]? = some (.list (us.map .int))) (hiv : tl[iv]? = some (.list (vs.map .int)))
    {a0 a1 a2 a5 : Option V} {rest : Rho} (hrest : rest.length = 8) :
    ∃ ρ' st' tl' it rs us' vs', ex prg (callN prg 12) s (a0 :: a1 :: a2 :: some (.int w) :: some (.int which) :: a5 :: some (.ref 7) :: some (.ref (iu + 11)) :: some (.ref (iv + 11)) :: some (.int c) :: some (.int right) :: some (.int top) :: rest) (B st tl) = some (.next, ρ', B st' tl') ∧
      Ext st st' ∧ (∀ i o, i ≠ iu → i ≠ iv → tl[i]? = some o → tl'[i]? = some o) ∧ ρ'[14]? = some (some (.ref (it + 11))) ∧ tl'[it]? = some (.list rs) ∧ Told st' tl' (alOf st.cells (us ++ vs ++ [c])) ts rs ∧
      tl'[iu]? = some (.list (us'.map .int)) ∧ tl'[iv]? = some (.list (vs'.map .int)) ∧ NVs st' (alOf st.cells (us ++ vs ++ [c])) ((List.range w).map fun j => tabV (2 ^ (2 * w + 1)) (0 + j)) us' ∧
      NVs st' (alOf st.cells (us ++ vs ++ [c])) ((List.range w).map fun j => tabV (2 ^ (2 * w + 1)) (w + j)) vs' ∧ st'.cells.length ≤ 201000 := by
  have hlen : (us ++ vs ++ [c]).length = 2 * w + 1 := by simp [hu, hv]; lia
  have hal : ∀ inp, alOf st.cells (us ++ vs ++ [c]) inp < 2 ^ (2 * w + 1) := fun inp => by
    have := valB_lt ((us ++ vs ++ [c]).map (nval st.cells inp))
    rw [List.length_map, hlen] at this
    exact this
  let sc : Sc := ⟨alOf st.cells (us ++ vs ++ [c]), 2 ^ (2 * w + 1), 0, 1, 1000, hal, Nat.zero_lt_one, by lia⟩
  let w0 : W := ⟨0, [tabs (2 ^ (2 * w + 1)) 0 w, tabs (2 ^ (2 * w + 1)) w w], st, [iu, iv], tl⟩
  have hU : SRs sc w0 (tabs (2 ^ (2 * w + 1)) 0 w) (us.map .int) := tabs_ok hu fun j n e => by
    have e' : (us ++ vs ++ [c])[0 + j]? = some n := by
      rw [Nat.zero_add, List.append_assoc, List.getElem?_append_left (List.getElem?_eq_some_iff.mp e).1]; exact e
    exact ⟨hnet n (List.mem_of_getElem? e'), base_net hw hlen e'⟩
  have hV : SRs sc w0 (tabs (2 ^ (2 * w + 1)) w w) (vs.map .int) := tabs_ok hv fun j n e => by
    have e' : (us ++ vs ++ [c])[w + j]? = some n := by
      rw [List.append_assoc, List.getElem?_append_right (by lia), List.getElem?_append_left (by rw [hu, Nat.add_sub_cancel_left]; exact (List.getElem?_eq_some_iff.mp e).1), hu, Nat.add_sub_cancel_left]; exact e
    exact ⟨hnet n (List.mem_of_getElem? e'), base_net hw hlen e'⟩
  have hC : SR sc w0 (.sym (.net (tabV (2 ^ (2 * w + 1)) (2 * w)))) (.int c) := by
    have e' : (us ++ vs ++ [c])[2 * w]? = some c := by
      rw [List.getElem?_append_right (by simp [hu, hv]; lia), List.length_append, hu, hv, show 2 * w - (w + w) = 0 by lia]; rfl
    exact .net _ c (hnet c (List.mem_of_getElem? e')) (base_net hw hlen e')
  have o : Ok sc w0 := by
    refine ⟨I, rfl, fun j j' i e e' => ?_, fun j xs e => ?_, by show st.cells.length ≤ 2 * 0 + 1000; lia, Nat.zero_le _⟩
    · match j, j', e, e' with
      | 0, 0, _, _ => rfl
      | 1, 1, _, _ => rfl
      | 0, 1, e, e' => cases e; cases e'; exact absurd rfl hne
      | 1, 0, e, e' => cases e; cases e'; exact absurd rfl hne
    · match j, e with
      | 0, e => cases e; exact ⟨iu, _, rfl, hiu, hU⟩
      | 1, e => cases e; exact ⟨iv, _, rfl, hiv, hV⟩
  have r : SRho sc w0 (ρ2 w which right top) (a0 :: a1 :: a2 :: some (.int w) :: some (.int which) :: a5 :: some (.ref 7) :: some (.ref (iu + 11)) :: some (.ref (iv + 11)) :: some (.int c) :: some (.int right) :: some (.int top) :: rest) :=
    .skip (.skip (.skip (.some (.int _) (.some (.int _) (.skip (.some .g (.some (.ref 0 iu rfl) (.some (.ref 1 iv rfl) (.some hC (.some (.int _) (.some (.int _) (.blank 8 hrest))))))))))))
  obtain ⟨q, e1, e2⟩ := bind_inv hrun
  obtain ⟨e3, e4⟩ := need_inv e2
  obtain ⟨e5, e6⟩ := and_inv e3
  obtain ⟨e7, e8⟩ := and_inv e6
  obtain ⟨w', y, e9, g, o', f2, f1, ρa, ρb, rfl, rfl, fr, rr⟩ := ex_ok (callA_ok sc 7 12 (by lia)) s hs w0 _ _ o r q e1
  cases fr with
  | ret => cases e5
  | next =>
    obtain ⟨v, p1, p2⟩ := bind_inv e4
    obtain ⟨ls, p3, p4⟩ := bind_inv p2
    obtain ⟨v', p5, p6⟩ := rr.2 14 v (Option.join_eq_some_iff.mp p1)
    obtain ⟨_, it, rs, _, rfl, _, _, p7, p8, _⟩ := asL_ok o' p6 ls p3
    obtain ⟨us', u1, u2⟩ := lst_ok o' (g.io 0 iu rfl) (of_decide_eq_true e7)
    obtain ⟨vs', v1, v2⟩ := lst_ok o' (g.io 1 iv rfl) (of_decide_eq_true e8)
    refine ⟨ρb, w'.st, w'.tl, it, rs, us', vs', e9, g.ext, fun i ob h1 h2 e => (g.rest i ob (fun j => ?_) e).1, p5, p7, told_ok o' p8 p4, u1, v1, u2, v2, ?_⟩
    · match j with
      | 0 => exact fun e => h1 (Option.some.inj e).symm
      | 1 => exact fun e => h2 (Option.some.inj e).symm
      | j + 2 => exact fun e => by cases e
    · have := o'.cap
      have := o'.lim
      show w'.st.cells.length ≤ _
      have h2 : sc.K = 1000 := rfl
      lia
end
end Mine

namespace Mine
section
open PySem
set_option autoImplicit false

noncomputable def HH (sc : List V) (hi hr hs : Int) (T : List O) : St := .list sc :: .list [.ref 0, .int hi, .int hr, .int hs] :: T
structure HK (sc : List V) (hi hr hs : Int) : Prop where
  hi0 : 0 ≤ hi
  hi1 : hi ≤ sc.length
  hr0 : 0 ≤ hr
  hs0 : 0 ≤ hs
  hs1 : hs < 2147483648
  allInt : ∀ v ∈ sc, ∃ i, v = .int i

theorem cond_t {t : M} {a b : Mx} {ρ : Rho} {H H1 : St} {x : Option (Fl × Rho × St)} (h : (t ρ H).bind tst = some (true, H1)) (ha : a ρ H1 = x) : sCond t a b ρ H = x := by
  unfold sCond; rw [h]; exact ha
theorem cond_f {t : M} {a b : Mx} {ρ : Rho} {H H1 : St} {x : Option (Fl × Rho × St)} (h : (t ρ H).bind tst = some (false, H1)) (ha : b ρ H1 = x) : sCond t a b ρ H = x := by
  unfold sCond; rw [h]; exact ha
theorem bin_eq {op : Operator} {a b : M} {ρ : Rho} {H H1 H2 : St} {i j k : Int} (h1 : a ρ H = some (.int i, H1)) (h2 : b ρ H1 = some (.int j, H2)) (h3 : binI op i j = some k) : mBin op a b ρ H = some (.int k, H2) := by
  unfold mBin; rw [h1, Option.bind_some, h2, Option.bind_some]
  exact alt_left (bind_at rfl (bind_at rfl (map_at h3)))
theorem ite_t {t a b : M} {ρ : Rho} {H H1 : St} {x : Option (V × St)} (h : (t ρ H).bind tst = some (true, H1)) (ha : a ρ H1 = x) : mIte t a b ρ H = x := by
  unfold mIte; rw [h]; exact ha
theorem ite_f {t a b : M} {ρ : Rho} {H H1 : St} {x : Option (V × St)} (h : (t ρ H).bind tst = some (false, H1)) (ha : b ρ H1 = x) : mIte t a b ρ H = x := by
  unfold mIte; rw [h]; exact ha
theorem bin_h {op : Operator} {a b : M} {ρ : Rho} {H : St} {i j k : Int} (h1 : a ρ H = some (.int i, H)) (h2 : b ρ H = some (.int j, H)) (h3 : binI op i j = some k) : mBin op a b ρ H = some (.int k, H) := bin_eq h1 h2 h3
theorem cmp_h {op : CmpOp} {a b : M} {ρ : Rho} {H : St} {x y : V} {d : Bool} (h1 : a ρ H = some (x, H)) (h2 : b ρ H = some (y, H)) (h3 : cmpop op x y H = some d) : (mCmp op a b ρ H).bind tst = some (d, H) := tst_eq (cmp_eq h1 h2 h3)
theorem sub_h {a i : M} {ρ : Rho} {H : St} {x y z : V} (h1 : a ρ H = some (x, H)) (h2 : i ρ H = some (y, H)) (h3 : subscr x y H = some z) : mSub a i ρ H = some (z, H) := sub_eq h1 h2 h3
/-- a write under a key -/
theorem subw_eq {o i e : M} {ρ : Rho} {v x k : V} {H H1 H2 : St} (h1 : e ρ H = some (v, H1)) (h2 : o ρ H1 = some (x, H1)) (h3 : i ρ H1 = some (k, H1)) (h4 : setAt x k v H1 = some H2) : sSub o i e ρ H = some (.next, ρ, H2) := by
  unfold sSub; rw [h1, Option.bind_some, h2, Option.bind_some, h3, Option.bind_some, h4]; rfl
theorem fmod_ok {a : Int} {L : Nat} (h : 1 ≤ L) : 0 ≤ a.fmod L ∧ a.fmod L < L := ⟨Int.fmod_nonneg_of_pos a (by lia), Int.fmod_lt_of_pos a (by lia)⟩
theorem binMod {a : Int} {L : Nat} (h : 1 ≤ L) : binI .Mod a L = some (a.fmod L) := need_true (decide_eq_true (by lia))
theorem binDiv {a : Int} {L : Nat} (h : 1 ≤ L ∧ L ≤ 1000) : binI .FloorDiv a L = some (a.fdiv L) := need_true (decide_eq_true ⟨by lia, Nat.lt_of_le_of_lt h.2 (by decide)⟩)
theorem binMul {a : Int} {b : Int} (h : b.natAbs < 2 ^ 64) : binI .Mult a b = some (a * b) := need_true (by unfold mulOk; rw [decide_eq_true h, Bool.or_true])

theorem pick_end (n : Nat) {L : Nat} (hL : 1 ≤ L ∧ L ≤ 1000) {sc : List V} {hi hr hs : Int} (T : List O) (K : HK sc hi hr hs) {x : Option V} :
    ∃ d hr', ex prg (callN prg n) (dropS 1 b__law_pick) [some (.ref 1), some (.int L), x, Option.none] (HH sc hi hr hs T) = some (.ret (.int d), [some (.ref 1), some (.int L), x, some (.int d)], HH sc hi hr' hs T) ∧ (0 ≤ d ∧ d < L) ∧ HK sc hi hr' hs :=
  ⟨hr.fmod L, hr.fdiv L, cons_eq (asg_eq (bin_h (i := hr) (j := L) (by kernel_rfl) (by kernel_rfl) (binMod hL.1)))
      (cons_eq (subw_eq (v := .int (hr.fdiv L)) (x := .ref 1) (k := .int 2) (H1 := HH sc hi hr hs T) (H2 := HH sc hi (hr.fdiv L) hs T) (bin_h (i := hr) (j := L) (by kernel_rfl) (by kernel_rfl) (binDiv hL)) (by kernel_rfl) (by kernel_rfl) (by kernel_rfl))
        (consr_eq (ret_eq (v := .int (hr.fmod L)) (H1 := HH sc hi (hr.fdiv L) hs T) (by kernel_rfl)))),
    fmod_ok hL.1, K.hi0, K.hi1, Int.fdiv_nonneg K.hr0 (by lia), K.hs0, K.hs1, K.allInt⟩

theorem pick_spec (n : Nat) {L : Nat} (hL : 1 ≤ L ∧ L ≤ 1000) {sc : List V} {hi hr hs : Int} (T : List O) (K : HK sc hi hr hs) :
    ∃ d hi' hr' hs', callN prg (n + 1) 35 [.ref 1, .int L] (HH sc hi hr hs T) = some (.int d, HH sc hi' hr' hs' T) ∧ (0 ≤ d ∧ d < L) ∧ HK sc hi' hr' hs' := by
  have run : ∀ {fl : Fl} {ρ' : Rho} {H' : St}, ex prg (callN prg n) b__law_pick [some (.ref 1), some (.int L), Option.none, Option.none] (HH sc hi hr hs T) = some (fl, ρ', H') → callN prg (n + 1) 35 [.ref 1, .int L] (HH sc hi hr hs T) = some (fl.val, H') := fun e =>
    run_eq (b := b__law_pick) (ρ₀ := [some (.ref 1), some (.int L), Option.none, Option.none]) (by kernel_rfl) e
  by_cases h0 : hr = 0
  · subst h0
    by_cases h1 : hi = sc.length
    · subst h1
      have hm : 0 ≤ (hs * 48271).fmod 2147483647 ∧ (hs * 48271).fmod 2147483647 < 2147483647 := fmod_ok (L := 2147483647) (by decide)
      refine ⟨(((hs * 48271).fmod 2147483647).fdiv 7).fmod L, sc.length, 0, (hs * 48271).fmod 2147483647, run (consr_eq (cond_t (H1 := HH sc sc.length 0 hs T) (by kernel_rfl) (consr_eq (cond_t (H1 := HH sc sc.length 0 hs T) ?_
        (cons_eq (subw_eq (v := .int ((hs * 48271).fmod 2147483647)) (x := .ref 1) (k := .int 3) (H1 := HH sc sc.length 0 hs T) (H2 := HH sc sc.length 0 ((hs * 48271).fmod 2147483647) T)
            (bin_h (i := hs * 48271) (j := 2147483647) (bin_h (i := hs) (j := 48271) (by kernel_rfl) (by kernel_rfl) (binMul (by decide))) (by kernel_rfl) (by rfl)) (by kernel_rfl) (by kernel_rfl) (by kernel_rfl))
          (consr_eq (ret_eq (bin_h (i := ((hs * 48271).fmod 2147483647).fdiv 7) (j := L) (by kernel_rfl) (by kernel_rfl) (binMod hL.1))))))))), fmod_ok hL.1, K.hi0, K.hi1, Int.le_refl _, hm.1, by lia, K.allInt⟩
      exact cmp_h (d := true) (x := .int sc.length) (y := .int sc.length) (by kernel_rfl) (by kernel_rfl) (congrArg some (decide_eq_true rfl))
    · have hlt : hi.toNat < sc.length := by have := K.hi0; have := K.hi1; lia
      obtain ⟨m, hm⟩ := K.allInt _ (List.getElem_mem hlt)
      have hget : idx? sc hi = some (.int m) := by unfold idx?; rw [if_pos K.hi0, List.getElem?_eq_getElem hlt, hm]
      have hnum : (ev prg (callN prg n) (.sub (.sub (.loc 0) (.cint 0)) (.sub (.loc 0) (.cint 1)))) [some (.ref 1), some (.int L), Option.none, Option.none] (HH sc hi 0 hs T) = some (.int m, HH sc hi 0 hs T) :=
        sub_h (x := .ref 0) (y := .int hi) (by kernel_rfl) (by kernel_rfl) (alt_right rfl (bind_at rfl (bind_at rfl (alt_left (bind_at rfl (bind_at rfl hget))))))
      have hite : (ev prg (callN prg n) (.ite (.cmp .GtE (.loc 2) (.cint 0)) (.loc 2) (.neg (.loc 2)))) [some (.ref 1), some (.int L), some (.int m), Option.none] (HH sc (hi + 1) 0 hs T) = some (.int (if 0 ≤ m then m else -m), HH sc (hi + 1) 0 hs T) := by
        by_cases h2 : 0 ≤ m
        · rw [if_pos h2]
          exact ite_t (H1 := HH sc (hi + 1) 0 hs T) (cmp_h (d := true) (x := .int m) (y := .int 0) (by kernel_rfl) (by kernel_rfl) (congrArg some (decide_eq_true h2))) (by kernel_rfl)
        · rw [if_neg h2]
          exact ite_f (H1 := HH sc (hi + 1) 0 hs T) (cmp_h (d := false) (x := .int m) (y := .int 0) (by kernel_rfl) (by kernel_rfl) (congrArg some (decide_eq_false h2))) (by kernel_rfl)
      have K' : HK sc (hi + 1) (if 0 ≤ m then m else -m) hs := ⟨by have := K.hi0; lia, by have := K.hi1; lia, by split <;> lia, K.hs0, K.hs1, K.allInt⟩
      obtain ⟨d, hr', e, hd, K''⟩ := pick_end n hL T K' (x := some (.int m))
      refine ⟨d, hi + 1, hr', hs, run (cons_eq (ρ1 := [some (.ref 1), some (.int L), some (.int m), Option.none]) (H1 := HH sc (hi + 1) (if 0 ≤ m then m else -m) hs T) (cond_t (H1 := HH sc hi 0 hs T) (by kernel_rfl)
        (cons_eq (ρ1 := [some (.ref 1), some (.int L), Option.none, Option.none]) (H1 := HH sc hi 0 hs T) (cond_f (H1 := HH sc hi 0 hs T) ?_ rfl) (cons_eq (asg_eq hnum)
          (cons_eq (H1 := HH sc (hi + 1) 0 hs T) (subw_eq (v := .int (hi + 1)) (x := .ref 1) (k := .int 1) (H1 := HH sc hi 0 hs T) (by kernel_rfl) (by kernel_rfl) (by kernel_rfl) (by kernel_rfl))
            (cons_eq (H1 := HH sc (hi + 1) (if 0 ≤ m then m else -m) hs T) (subw_eq (v := .int (if 0 ≤ m then m else -m)) (x := .ref 1) (k := .int 2) (H1 := HH sc (hi + 1) 0 hs T) hite (by kernel_rfl) (by kernel_rfl) (by kernel_rfl)) rfl))))) e), hd, K''⟩
      exact cmp_h (d := false) (x := .int hi) (y := .int sc.length) (by kernel_rfl) (by kernel_rfl) (congrArg some (decide_eq_false h1))
  · obtain ⟨d, hr', e, hd, K'⟩ := pick_end n hL T K (x := Option.none)
    refine ⟨d, hi, hr', hs, run (cons_eq (ρ1 := [some (.ref 1), some (.int L), Option.none, Option.none]) (H1 := HH sc hi hr hs T) (cond_f (H1 := HH sc hi hr hs T) ?_ rfl) e), hd, K'⟩
    exact cmp_h (d := false) (x := .int hr) (y := .int 0) (by kernel_rfl) (by kernel_rfl) (congrArg some (decide_eq_false h0))
end
end Mine

namespace Mine
section
open PySem
set_option autoImplicit false

/-- what a step of the law's start keeps -/
structure Nx (st st' : NS) : Prop where
  inv : Inv st'
  hk : HK st'.script st'.hi st'.hr st'.hs
  inputs : st'.inputs = st.inputs
  keys : st'.keys = st.keys
  le : st.count ≤ st'.count
  val : ∀ inp n, n < st.count → nval st'.cells inp n = nval st.cells inp n
theorem Nx.trans {a b c : NS} (x : Nx a b) (y : Nx b c) : Nx a c := ⟨y.inv, y.hk, y.inputs.trans x.inputs, y.keys.trans x.keys, Int.le_trans x.le y.le, fun inp n h => (y.val inp n (Int.lt_of_lt_of_le h x.le)).trans (x.val inp n h)⟩
theorem Nx.refl {a : NS} (I : Inv a) (K : HK a.script a.hi a.hr a.hs) : Nx a a := ⟨I, K, rfl, rfl, Int.le_refl _, fun _ _ _ => rfl⟩
theorem Nx.net {a b : NS} (x : Nx a b) {n : Int} (h : Net a n) : Net b n := ⟨h.1, Int.lt_of_lt_of_le h.2 x.le⟩
theorem Ext.nx {a b : NS} (x : Ext a b) (K : HK a.script a.hi a.hr a.hs) : Nx a b := by
  obtain ⟨h1, h2, h3, h4, h5, h6⟩ := x.hand
  exact ⟨x.inv, by rw [h1, h2, h3, h4]; exact K, h5, h6, x.le, x.val⟩
theorem pickB (n : Nat) {L : Nat} (hL : 1 ≤ L ∧ L ≤ 1000) {st : NS} (tl : List O) (I : Inv st) (K : HK st.script st.hi st.hr st.hs) :
    ∃ d st', callN prg (n + 1) 35 [.ref 1, .int L] (B st tl) = some (.int d, B st' tl) ∧ (0 ≤ d ∧ d < L) ∧ Nx st st' ∧ st'.cells = st.cells := by
  obtain ⟨d, hi, hr, hs, e, hd, K'⟩ := pick_spec n hL _ K
  exact ⟨d, { st with hi := hi, hr := hr, hs := hs }, e, hd, ⟨⟨I.two, I.outs, I.inc, I.keys, I.all, I.made, I.opp, I.has, I.shape, I.nodup, I.szm, I.szo⟩, K', rfl, rfl, Int.le_refl _, fun _ _ _ => rfl⟩, rfl⟩

/-- an append to a list -/
theorem append_to {P : Prg} {cf : Nat → List V → St → Option (V × St)} {o args : M} {ρ : Rho} {H H1 : St} {n : Nat} {x : V} {xs ys : List V} (h1 : o ρ H = some (.ref n, H)) (h2 : H[n]? = some (.list ys)) (h3 : row args ρ H = some ([x], H1)) (h4 : H1[n]? = some (.list xs)) (hl : xs.length < maxLen) :
    mMeth P cf o "append" args ρ H = some (.none, H1.set n (.list (xs ++ [x]))) := by
  have hf : fsAt (.ref n) H = Option.none := by
    show ((H[n]?).bind oC).bind _ = _
    rw [h2]; rfl
  have hl1 : listAt H n = some ys := by unfold listAt; rw [h2]; rfl
  have hl2 : listAt H1 n = some xs := by unfold listAt; rw [h4]; rfl
  unfold mMeth
  rw [h1, Option.bind_some]
  show (match fsAt (.ref n) H with
    | some y => _
    | Option.none => (asR (.ref n)).bind fun m => match listAt H m with
      | some _ => (row args ρ H).bind fun y => lmeth m "append" y.1 y.2
      | Option.none => _) = _
  rw [hf]
  show (match listAt H n with
      | some _ => (row args ρ H).bind fun y => lmeth n "append" y.1 y.2
      | Option.none => _) = _
  rw [hl1]
  show (row args ρ H).bind _ = _
  rw [h3, Option.bind_some]
  exact bind_at hl2 (bind_at (y := x) rfl (alt_left ((need_true rfl).trans (need_true (decide_eq_true hl)))))
theorem call_eq {cf : Nat → List V → St → Option (V × St)} {f : Nat} {args : M} {ρ : Rho} {H H1 : St} {vs : List V} (h : row args ρ H = some (vs, H1)) : mCall cf f args ρ H = cf f vs H1 := by
  unfold mCall; rw [h]; rfl
theorem row_one {a : M} {ρ : Rho} {H H1 : St} {x : V} (h1 : a ρ H = some (x, H1)) : row (mCons a (mVal (.tup []))) ρ H = some ([x], H1) := row_cons h1 rfl
theorem exp_to {e : M} {ρ : Rho} {H H1 : St} {v : V} (h : e ρ H = some (v, H1)) : sExp e ρ H = some (.next, ρ, H1) := exp_eq h
theorem len_at {n : Nat} {xs : List V} {H : St} (h : H[n]? = some (.list xs)) : builtin .len [.ref n] H = some (.int xs.length, H) := by
  show (asL H (.ref n)).map _ = _
  exact map_at (show (H[n]?).bind oL = some xs by rw [h]; rfl)
theorem sub_at {n : Nat} {xs : List V} {H : St} (h : H[n]? = some (.list xs)) {i : Int} {x : V} (hx : idx? xs i = some x) : subscr (.ref n) (.int i) H = some x :=
  alt_right rfl (bind_at rfl (bind_at h (alt_left (bind_at rfl (bind_at rfl hx)))))
theorem idx_nat {xs : List V} {i : Int} (h : 0 ≤ i) : idx? xs i = xs[i.toNat]? := if_pos h
theorem int_at {ns : List Int} {k : Nat} (h : k < ns.length) : ∃ n, ns[k]? = some n ∧ (ns.map V.int)[k]? = some (.int n) := ⟨ns[k], List.getElem?_eq_getElem h, by rw [List.getElem?_map, List.getElem?_eq_getElem h]; rfl⟩

noncomputable def bitS : S := bodyFor (nthS 1 b__law_bits)
theorem bit_ok (m : Nat) {st : NS} {tl : List O} (I : Inv st) (K : HK st.script st.hi st.hr st.hs) (hr : st.cells.length ≤ 1000) {i j : Nat} {ns fs : List Int} (hj : tl[j]? = some (.list (ns.map .int))) (hi : tl[i]? = some (.list (fs.map .int))) (hns : ∀ n ∈ ns, Net st n) (hw : 1 ≤ ns.length ∧ ns.length ≤ 3) (hf : fs.length ≤ 100)
    {n : Int} (hn : Net st n) {x5 : Option V} :
    ∃ ρ4 ρ5 st' q, ex prg (callN prg (m + 4)) bitS [some (.ref 1), some (.ref 7), some (.ref (j + 11)), some (.ref (i + 11)), some (.int n), x5] (B st tl) =
      some (.next, [some (.ref 1), some (.ref 7), some (.ref (j + 11)), some (.ref (i + 11)), ρ4, ρ5], B st' (tl.set i (.list ((fs ++ [q]).map .int)))) ∧ Nx st st' ∧ Net st' q ∧ st'.cells.length ≤ st.cells.length + 1 := by
  obtain ⟨d, st1, e1, hd, N1, c1⟩ := pickB (m + 3) (L := 8) (by lia) tl I K
  -- the second statement
  have h2 : ∃ n2 st2, ex prg (callN prg (m + 4)) (nthS 1 bitS) [some (.ref 1), some (.ref 7), some (.ref (j + 11)), some (.ref (i + 11)), some (.int n), some (.int d)] (B st1 tl) =
      some (.next, [some (.ref 1), some (.ref 7), some (.ref (j + 11)), some (.ref (i + 11)), some (.int n2), some (.int d)], B st2 tl) ∧ Nx st st2 ∧ Net st2 n2 ∧ st2.cells = st.cells := by
    by_cases h5 : d = 5
    · obtain ⟨p, st2, e2, hp, N2, c2⟩ := pickB (m + 3) (L := ns.length) (by lia) tl N1.inv N1.hk
      obtain ⟨n2, q1, q2⟩ := int_at (ns := ns) (k := p.toNat) (by lia)
      refine ⟨n2, st2, cond_t (H1 := B st1 tl) (cmp_h (d := true) (x := .int d) (y := .int 5) (by kernel_rfl) (by kernel_rfl) (congrArg some (decide_eq_true h5)))
        (cons_eq (asg_eq (sub_eq (x := .ref (j + 11)) (y := .int p) (z := .int n2) (H1 := B st1 tl) (H2 := B st2 tl) (by kernel_rfl) ?_ (sub_at (show (B st2 tl)[j + 11]? = _ from hj) (by rw [idx_nat hp.1]; exact q2)))) rfl), N1.trans N2, N2.net (N1.net (hns n2 (List.mem_of_getElem? q1))), c2.trans c1⟩
      have hrow : row (ev prg (callN prg (m + 4)) (.cons (.loc 0) (.cons (.bi .len (.cons (.loc 2) .nil)) .nil))) [some (.ref 1), some (.ref 7), some (.ref (j + 11)), some (.ref (i + 11)), some (.int n), some (.int d)] (B st1 tl) = some ([.ref 1, .int ns.length], B st1 tl) :=
        row_cons (H1 := B st1 tl) (by kernel_rfl) (row_one (Eq.trans (b := builtin .len [.ref (j + 11)] (B st1 tl)) (by kernel_rfl) (by rw [len_at (show (B st1 tl)[j + 11]? = _ from hj), List.length_map])))
      exact (call_eq hrow).trans e2
    · exact ⟨n, st1, cond_f (H1 := B st1 tl) (cmp_h (d := false) (x := .int d) (y := .int 5) (by kernel_rfl) (by kernel_rfl) (congrArg some (decide_eq_false h5))) rfl, N1, N1.net hn, c1⟩
  obtain ⟨n2, st2, e2, N2, hn2, c2⟩ := h2
  have h3 : ∃ n3 st3, ex prg (callN prg (m + 4)) (nthS 2 bitS) [some (.ref 1), some (.ref 7), some (.ref (j + 11)), some (.ref (i + 11)), some (.int n2), some (.int d)] (B st2 tl) =
      some (.next, [some (.ref 1), some (.ref 7), some (.ref (j + 11)), some (.ref (i + 11)), some (.int n3), some (.int d)], B st3 tl) ∧ Nx st st3 ∧ Net st3 n3 ∧ st3.cells.length ≤ st.cells.length + 1 := by
    by_cases h6 : d = 6
    · obtain ⟨y, st3, e3, E3, hy, hl, _⟩ := inv_spec (m + 1) tl N2.inv (show _ ≤ _ by rw [c2]; lia) hn2
      exact ⟨y, st3, cond_t (H1 := B st2 tl) (cmp_h (d := true) (x := .int d) (y := .int 6) (by kernel_rfl) (by kernel_rfl) (congrArg some (decide_eq_true h6)))
        (cons_eq (asg_eq (v := .int y) (H1 := B st3 tl) (Eq.trans (by kernel_rfl) e3)) rfl), N2.trans (E3.nx N2.hk), hy, by rw [c2] at hl; exact hl⟩
    · exact ⟨n2, st2, cond_f (H1 := B st2 tl) (cmp_h (d := false) (x := .int d) (y := .int 6) (by kernel_rfl) (by kernel_rfl) (congrArg some (decide_eq_false h6))) rfl, N2, hn2, by rw [c2]; lia⟩
  obtain ⟨n3, st3, e3, N3, hn3, l3⟩ := h3
  have h4 : ∃ q st4, ev prg (callN prg (m + 4)) (.ite (.cmp .Eq (.loc 5) (.cint 7)) (.call 35 (.cons (.loc 0) (.cons (.cint 2) .nil))) (.loc 4)) [some (.ref 1), some (.ref 7), some (.ref (j + 11)), some (.ref (i + 11)), some (.int n3), some (.int d)] (B st3 tl) =
      some (.int q, B st4 tl) ∧ Nx st st4 ∧ Net st4 q ∧ st4.cells.length ≤ st.cells.length + 1 := by
    by_cases h7 : d = 7
    · obtain ⟨q, st4, e4, hq, N4, c4⟩ := pickB (m + 3) (L := 2) (by lia) tl N3.inv N3.hk
      refine ⟨q, st4, ite_t (H1 := B st3 tl) (cmp_h (d := true) (x := .int d) (y := .int 7) (by kernel_rfl) (by kernel_rfl) (congrArg some (decide_eq_true h7))) (Eq.trans (by kernel_rfl) e4), N3.trans N4, ⟨hq.1, ?_⟩, by rw [c4]; exact l3⟩
      have := N4.inv.two
      have h8 : q < 2 := hq.2
      lia
    · exact ⟨n3, st3, ite_f (H1 := B st3 tl) (cmp_h (d := false) (x := .int d) (y := .int 7) (by kernel_rfl) (by kernel_rfl) (congrArg some (decide_eq_false h7))) (by kernel_rfl), N3, hn3, l3⟩
  obtain ⟨q, st4, e4, N4, hq, l4⟩ := h4
  refine ⟨some (.int n3), some (.int d), st4, q, cons_eq (asg_eq (v := .int d) (H1 := B st1 tl) (Eq.trans (by kernel_rfl) e1)) (cons_eq e2 (cons_eq e3 (cons_eq (exp_to (append_to (n := i + 11) (x := .int q) (xs := fs.map .int) (ys := fs.map .int) (H1 := B st4 tl) (by kernel_rfl) hi (row_one e4) hi ?_)) (x := some (.next, [some (.ref 1), some (.ref 7), some (.ref (j + 11)), some (.ref (i + 11)), some (.int n3), some (.int d)], B st4 (tl.set i (.list ((fs ++ [q]).map .int))))) ?_))), N4, hq, l4⟩
  · rw [max20, List.length_map]; lia
  · rw [List.map_append]; rfl

theorem bits_loop (m : Nat) {i j : Nat} (hij : i ≠ j) {ns : List Int} (hw : 1 ≤ ns.length ∧ ns.length ≤ 3) : ∀ (k p : Nat) (st : NS) (tl : List O) (fs : List Int) (ρ4 ρ5 : Option V), p + k = ns.length → Inv st → HK st.script st.hi st.hr st.hs → st.cells.length + k ≤ 1000 →
    tl[j]? = some (.list (ns.map .int)) → tl[i]? = some (.list (fs.map .int)) → (∀ n ∈ ns, Net st n) → (∀ n ∈ fs, Net st n) → fs.length = p →
    ∃ (ρ4' ρ5' : Option V) (st' : NS) (fs' : List Int), forL (.lst (j + 11) ns.length) (turnF [4] false (ex prg (callN prg (m + 4)) bitS)) k p [some (.ref 1), some (.ref 7), some (.ref (j + 11)), some (.ref (i + 11)), ρ4, ρ5] (B st tl) =
      some (.next, [some (.ref 1), some (.ref 7), some (.ref (j + 11)), some (.ref (i + 11)), ρ4', ρ5'], B st' (tl.set i (.list (fs'.map .int)))) ∧ Nx st st' ∧ (∀ n ∈ fs', Net st' n) ∧ fs'.length = ns.length ∧ st'.cells.length ≤ st.cells.length + k := by
  intro k
  induction k with
  | zero =>
    intro p st tl fs ρ4 ρ5 hp I K hc hj hi hns hfs hl
    refine ⟨ρ4, ρ5, st, fs, ?_, Nx.refl I K, hfs, by lia, Nat.le_refl _⟩
    have hset : tl.set i (.list (fs.map .int)) = tl := by
      obtain ⟨h, e⟩ := List.getElem?_eq_some_iff.mp hi
      rw [← e, List.set_getElem_self]
    rw [hset]
    refine need_true ?_
    have : Src.ok (B st tl) (.lst (j + 11) ns.length) = match (tl[j]?).bind oL with | some xs => decide (xs.length = ns.length) | Option.none => false := rfl
    rw [this, hj]
    exact decide_eq_true (List.length_map _)
  | succ k ih =>
    intro p st tl fs ρ4 ρ5 hp I K hc hj hi hns hfs hl
    obtain ⟨n, q1, q2⟩ := int_at (ns := ns) (k := p) (by lia)
    obtain ⟨a4, a5, st1, q, e1, N1, hq, l1⟩ := bit_ok m I K (by lia) hj hi hns hw (by lia) (hns n (List.mem_of_getElem? q1)) (x5 := ρ5)
    have hil : i < tl.length := (List.getElem?_eq_some_iff.mp hi).1
    obtain ⟨b4, b5, st2, fs', e2, N2, hf2, l2, c2⟩ := ih (p + 1) st1 (tl.set i (.list ((fs ++ [q]).map .int))) (fs ++ [q]) a4 a5 (by lia) N1.inv N1.hk (by lia) (by rw [List.getElem?_set_ne hij]; exact hj) (List.getElem?_set_self hil)
      (fun n hn => N1.net (hns n hn)) (fun n hn => by
        rcases List.mem_append.mp hn with hn | hn
        · exact N1.net (hfs n hn)
        · rw [List.mem_singleton.mp hn]; exact hq) (by rw [List.length_append, hl]; rfl)
    refine ⟨b4, b5, st2, fs', ?_, N1.trans N2, hf2, l2, by lia⟩
    have hget : Src.get (B st tl) p (.lst (j + 11) ns.length) = some (.int n) := by
      refine bind_at (show (tl[j]?).bind oL = some (ns.map .int) by rw [hj]; rfl) ((need_true (decide_eq_true (List.length_map _))).trans q2)
    rw [List.set_set] at e2
    refine bind_at hget (bind_at (y := (Fl.next, [some (.ref 1), some (.ref 7), some (.ref (j + 11)), some (.ref (i + 11)), a4, a5], B st1 (tl.set i (.list ((fs ++ [q]).map .int))))) (Eq.trans ?_ e1) e2)
    rfl
theorem bits_ok (m : Nat) {st : NS} {tl : List O} (I : Inv st) (K : HK st.script st.hi st.hr st.hs) (hc : st.cells.length + 3 ≤ 1000) {j : Nat} {ns : List Int} (hj : tl[j]? = some (.list (ns.map .int))) (hns : ∀ n ∈ ns, Net st n) (hw : 1 ≤ ns.length ∧ ns.length ≤ 3) :
    ∃ (st' : NS) (fs : List Int), callN prg (m + 5) 40 [.ref 1, .ref 7, .ref (j + 11)] (B st tl) = some (.ref (tl.length + 11), B st' (tl ++ [.list (fs.map .int)])) ∧ Nx st st' ∧ (∀ n ∈ fs, Net st' n) ∧ fs.length = ns.length ∧ st'.cells.length ≤ st.cells.length + 3 := by
  have hjl : j < tl.length := (List.getElem?_eq_some_iff.mp hj).1
  have hj' : (tl ++ [O.list []])[j]? = some (.list (ns.map .int)) := by rw [List.getElem?_append_left hjl]; exact hj
  have hi' : (tl ++ [O.list []])[tl.length]? = some (.list (([] : List Int).map .int)) := by rw [List.getElem?_append_right (Nat.le_refl _), Nat.sub_self]; rfl
  obtain ⟨a4, a5, st', fs, e, N, hfs, hl, c⟩ := bits_loop m (i := tl.length) (j := j) (by lia) hw ns.length 0 st (tl ++ [.list []]) [] Option.none Option.none (Nat.zero_add _) I K (by lia) hj' hi' hns (fun _ h => by cases h) rfl
  refine ⟨st', fs, ?_, N, hfs, hl, by lia⟩
  rw [List.set_append_right _ _ (Nat.le_refl _), Nat.sub_self] at e
  refine run_eq (fl := .ret (.ref (tl.length + 11))) (b := b__law_bits) (ρ₀ := [some (.ref 1), some (.ref 7), some (.ref (j + 11)), Option.none, Option.none, Option.none]) (ρ' := [some (.ref 1), some (.ref 7), some (.ref (j + 11)), some (.ref (tl.length + 11)), a4, a5]) (by kernel_rfl)
    (cons_eq (asg_eq (v := .ref (tl.length + 11)) (H1 := B st (tl ++ [.list []])) (by kernel_rfl)) (cons_eq (ρ1 := [some (.ref 1), some (.ref 7), some (.ref (j + 11)), some (.ref (tl.length + 11)), a4, a5]) (H1 := B st' (tl ++ [.list (fs.map .int)])) ?_ (consr_eq (ret_eq (v := .ref (tl.length + 11)) (H1 := B st' (tl ++ [.list (fs.map .int)])) (by kernel_rfl)))))
  show (ev prg (callN prg (m + 4)) (.loc 2) _ _).bind _ = _
  refine bind_at (y := (.ref (j + 11), B st (tl ++ [.list []]))) (by kernel_rfl) (bind_at (y := .lst (j + 11) ns.length) (alt_left (bind_at rfl ?_)) e)
  show ((B st (tl ++ [.list []]))[j + 11]?.bind oL).map _ = _
  rw [show (B st (tl ++ [.list []]))[j + 11]? = _ from hj']
  show some (Src.lst (j + 11) (ns.map V.int).length) = _
  rw [List.length_map]
end
end Mine

namespace Mine
section
open PySem
set_option autoImplicit false

theorem intsOf_map (ns : List Int) : intsOf (ns.map .int) = some ns := by
  induction ns with
  | nil => rfl
  | cons n ns ih => exact bind_at rfl (map_at (show mapO asI (ns.map .int) = some ns from ih))

/-- further input nets -/
noncomputable def addK (st : NS) : Nat → NS
  | 0 => st
  | k + 1 => addK { st with count := st.count + 1, keys := st.keys ++ [st.count] } k
noncomputable def newNets (st : NS) : Nat → List Int
  | 0 => []
  | k + 1 => st.count :: newNets { st with count := st.count + 1, keys := st.keys ++ [st.count] } k
structure InK (st st' : NS) (ks : List Int) : Prop where
  inv : Inv st'
  hand : st'.script = st.script ∧ st'.hi = st.hi ∧ st'.hr = st.hr ∧ st'.hs = st.hs
  keys : st'.keys = st.keys ++ ks
  nod : st.keys.Nodup → st'.keys.Nodup
  cells : st'.cells = st.cells
  le : st.count ≤ st'.count
  nets : ∀ n ∈ ks, Net st' n
theorem addK_ok : ∀ (k : Nat) (st : NS), Inv st → (newNets st k).length = k ∧ InK st (addK st k) (newNets st k) := by
  intro k
  induction k with
  | zero => exact fun st I => ⟨rfl, I, ⟨rfl, rfl, rfl, rfl⟩, (List.append_nil _).symm, id, rfl, Int.le_refl _, fun _ h => by cases h⟩
  | succ k ih =>
    intro st I
    have h2 := I.two
    obtain ⟨hl, J⟩ := ih { st with count := st.count + 1, keys := st.keys ++ [st.count] } (by
      refine ⟨by show 2 ≤ st.count + 1; lia, fun c hc => ?_, I.inc, fun n hn => ?_, fun n h1 h3 => ?_, I.made, fun a b h => ?_, I.has, I.shape, I.nodup, I.szm, I.szo⟩
      · obtain ⟨p, q, r, s⟩ := I.outs c hc
        refine ⟨p, by show _ < st.count + 1; lia, fun h => ?_, s⟩
        rcases List.mem_append.mp h with h | h
        · exact r h
        · have := List.mem_singleton.mp h; lia
      · rcases List.mem_append.mp hn with h | h
        · have := I.keys n h
          exact ⟨this.1, by show _ < st.count + 1; lia⟩
        · rw [List.mem_singleton.mp h]
          exact ⟨h2, by show _ < st.count + 1; lia⟩
      · have h3 : n < st.count + 1 := h3
        rcases Int.lt_or_le n st.count with h | h
        · rcases I.all n h1 h with h | h
          · exact .inl (List.mem_append_left _ h)
          · exact .inr h
        · exact .inl (List.mem_append_right _ (by rw [show n = st.count by lia]; exact List.mem_cons_self))
      · obtain ⟨⟨a1, a2⟩, ⟨b1, b2⟩, e⟩ := I.opp a b h
        exact ⟨⟨a1, by show _ < st.count + 1; lia⟩, ⟨b1, by show _ < st.count + 1; lia⟩, e⟩)
    refine ⟨congrArg (· + 1) hl, J.inv, J.hand, ?_, fun h => J.nod ?_, J.cells, ?_, fun n hn => ?_⟩
    · have := J.keys
      show (addK _ k).keys = _
      rw [this]; show (st.keys ++ [st.count]) ++ _ = _; rw [List.append_assoc]; rfl
    · refine List.nodup_append.mpr ⟨h, by simp, fun a ha b hb => ?_⟩
      have := (I.keys a ha).2
      rw [List.mem_singleton.mp hb]; lia
    · have : st.count + 1 ≤ (addK _ k).count := J.le
      show st.count ≤ (addK _ k).count
      lia
    · rcases List.mem_cons.mp hn with rfl | hn
      · have : st.count + 1 ≤ (addK _ k).count := J.le
        exact ⟨by lia, by show _ < (addK _ k).count; lia⟩
      · exact J.nets n hn
theorem addU (m : Nat) (st : NS) {w : Nat} (hw : w = 1 ∨ w = 2 ∨ w = 3) : callN prg (m + 3) 32 [.ref 2, .str "u", .int w] (B { st with inputs := [] } []) =
    some (.ref 11, B { addK st w with inputs := [.tup [.str "u", .ref 12]] } [.list ((newNets st w).map .int), .list ((newNets st w).map .int)]) := by
  rcases hw with rfl | rfl | rfl
  · kernel_rfl
  · kernel_rfl
  · kernel_rfl
theorem addV (m : Nat) (st : NS) (a b c : O) {w : Nat} (hw : w = 1 ∨ w = 2 ∨ w = 3) : callN prg (m + 3) 32 [.ref 2, .str "v", .int w] (B { st with inputs := [.tup [.str "u", .ref 12]] } [a, b, c]) =
    some (.ref 14, B { addK st w with inputs := [.tup [.str "u", .ref 12], .tup [.str "v", .ref 15]] } [a, b, c, .list ((newNets st w).map .int), .list ((newNets st w).map .int)]) := by
  rcases hw with rfl | rfl | rfl
  · kernel_rfl
  · kernel_rfl
  · kernel_rfl

theorem Inv.inp {st : NS} (I : Inv st) (x : List V) : Inv { st with inputs := x } := ⟨I.two, I.outs, I.inc, I.keys, I.all, I.made, I.opp, I.has, I.shape, I.nodup, I.szm, I.szo⟩
theorem fmod_nat {a : Int} {b : Nat} (h : 1 ≤ b) : 0 ≤ a.fmod b ∧ a.fmod b < b := fmod_ok h

theorem list_eq {a : M} {ρ : Rho} {H H1 : St} {xs : List V} {z : Option (V × St)} (h : row a ρ H = some (xs, H1)) (h2 : newL xs H1 = z) : mList a ρ H = z := by
  unfold mList; rw [h]; exact h2
/-- the netlist as it starts -/
noncomputable def st00 (sc : List V) (hi hr hs : Int) : NS := ⟨sc, hi, hr, hs, [], [], 2, [], [], []⟩
theorem st00_inv (sc : List V) (hi hr hs : Int) : Inv (st00 sc hi hr hs) where
  two := Int.le_refl _
  outs := fun c h => by cases h
  inc := List.Pairwise.nil
  keys := fun c h => by cases h
  all := fun n h1 h2 => by have : n < 2 := h2; lia
  made := fun k o h => by cases h
  opp := fun k o h => by cases h
  has := fun c h => by cases h
  shape := fun c h => by cases h
  nodup := List.nodup_nil
  szm := Nat.le_refl _
  szo := Nat.zero_le _

theorem row_h {a r : M} {ρ : Rho} {H H2 : St} {x : V} {xs : List V} (h1 : a ρ H = some (x, H)) (h2 : row r ρ H = some (xs, H2)) : row (mCons a r) ρ H = some (x :: xs, H2) := row_cons h1 h2

/-- where the operation starts -/
structure At (st : NS) (tl : List O) (w : Nat) (us vs : List Int) (c : Int) : Prop where
  inv : Inv st
  hk : HK st.script st.hi st.hr st.hs
  inputs : st.inputs = [.tup [.str "u", .ref 12], .tup [.str "v", .ref 15]]
  tl : ∃ ku kv cl, tl = [.list (ku.map .int), .list (ku.map .int), .list (us.map .int), .list (kv.map .int), .list (kv.map .int), .list (vs.map .int), .list cl] ∧ st.keys = ku ++ kv ∧ ku.length = w ∧ kv.length = w
  nod : st.keys.Nodup
  ul : us.length = w
  vl : vs.length = w
  nets : ∀ n ∈ us ++ vs ++ [c], Net st n
  cells : st.cells.length ≤ 20

theorem start_ok {sc : List V} (hsc : ∃ ns : List Int, sc = ns.map .int) : ∃ (w which right top : Nat) (us vs : List Int) (c : Int) (st : NS) (tl : List O), (1 ≤ w ∧ w ≤ 3) ∧ which < 9 ∧ right < 2 ∧ top < 4 ∧ At st tl w us vs c ∧
    ∀ x, ex prg (callN prg 12) (dropS 11 b_law) [Option.none, some (.ref 0), some (.ref 1), some (.int w), some (.int which), some (.ref 2), some (.ref 7), some (.ref (2 + 11)), some (.ref (5 + 11)), some (.int c), some (.int right), some (.int top),
      Option.none, Option.none, Option.none, Option.none, Option.none, Option.none, Option.none, Option.none] (B st tl) = x →
    ex prg (callN prg 12) (dropS 1 b_law) ((List.replicate 20 Option.none).set 1 (some (.ref 0))) [.list sc] = x := by
  obtain ⟨ns, rfl⟩ := hsc
  have hm : 0 ≤ ns.sum.fmod 100003 ∧ ns.sum.fmod 100003 < 100003 := fmod_nat (b := 100003) (by decide)
  have K0 : HK (ns.map .int) 0 0 (ns.sum.fmod 100003 * 7) := ⟨Int.le_refl _, by lia, Int.le_refl _, by have := hm.1; lia, by have := hm.2; lia, fun v hv => by obtain ⟨i, _, rfl⟩ := List.mem_map.mp hv; exact ⟨i, rfl⟩⟩
  obtain ⟨d1, hi1, hr1, hs1, e1, hd1, K1⟩ := pick_spec 11 (L := 3) (by lia) [] K0
  obtain ⟨d2, hi2, hr2, hs2, e2, hd2, K2⟩ := pick_spec 11 (L := 9) (by lia) [] K1
  obtain ⟨w, hw, rfl⟩ : ∃ w : Nat, (w = 1 ∨ w = 2 ∨ w = 3) ∧ d1 = (w : Int) - 1 := ⟨d1.toNat + 1, by lia, by lia⟩
  obtain ⟨which, hwh, rfl⟩ : ∃ k : Nat, k < 9 ∧ d2 = (k : Int) := ⟨d2.toNat, by lia, by lia⟩
  have hw13 : 1 ≤ w ∧ w ≤ 3 := by lia
  -- the words
  have I0 := st00_inv (ns.map .int) hi2 hr2 hs2
  obtain ⟨lu, JU⟩ := addK_ok w _ I0
  have IU := JU.inv.inp [.tup [.str "u", .ref 12]]
  have KU : HK (addK (st00 (ns.map .int) hi2 hr2 hs2) w).script (addK (st00 (ns.map .int) hi2 hr2 hs2) w).hi (addK (st00 (ns.map .int) hi2 hr2 hs2) w).hr (addK (st00 (ns.map .int) hi2 hr2 hs2) w).hs := by
    obtain ⟨h1, h2, h3, h4⟩ := JU.hand
    rw [h1, h2, h3, h4]; exact K2
  have aU := addU 9 (st00 (ns.map .int) hi2 hr2 hs2) hw
  generalize addK (st00 (ns.map .int) hi2 hr2 hs2) w = sU at *
  generalize newNets (st00 (ns.map .int) hi2 hr2 hs2) w = ku at *
  obtain ⟨s1, us, eU, NU, hus, lus, cu⟩ := bits_ok 7 (st := { sU with inputs := [.tup [.str "u", .ref 12]] }) (tl := [.list (ku.map .int), .list (ku.map .int)]) (j := 0) (ns := ku) IU KU (by show sU.cells.length + 3 ≤ 1000; rw [JU.cells]; show 0 + 3 ≤ 1000; lia) rfl JU.nets (by lia)
  have eS1 : ({ s1 with inputs := [.tup [.str "u", .ref 12]] } : NS) = s1 := by
    have := NU.inputs
    have : s1.inputs = [.tup [.str "u", .ref 12]] := this
    rw [← this]
  obtain ⟨lv, JV⟩ := addK_ok w _ NU.inv
  have IV := JV.inv.inp [.tup [.str "u", .ref 12], .tup [.str "v", .ref 15]]
  have KV : HK (addK s1 w).script (addK s1 w).hi (addK s1 w).hr (addK s1 w).hs := by
    obtain ⟨h1, h2, h3, h4⟩ := JV.hand
    rw [h1, h2, h3, h4]; exact NU.hk
  have aV := addV 9 s1 (.list (ku.map .int)) (.list (ku.map .int)) (.list (us.map .int)) hw
  rw [eS1] at aV
  have hnuV : ∀ n ∈ us, Net (addK s1 w) n := fun n hn => by
    have := hus n hn
    exact ⟨this.1, Int.lt_of_lt_of_le this.2 JV.le⟩
  have cU0 : sU.cells = [] := JU.cells
  have cu' : s1.cells.length ≤ 3 := by have : s1.cells.length ≤ sU.cells.length + 3 := cu; rw [cU0] at this; exact this
  have cV0 : (addK s1 w).cells = s1.cells := JV.cells
  generalize addK s1 w = sV at *
  generalize newNets s1 w = kv at *
  obtain ⟨s2, vs, eV, NV2, hvs, lvs, cv⟩ := bits_ok 7 (st := { sV with inputs := [.tup [.str "u", .ref 12], .tup [.str "v", .ref 15]] }) (tl := [.list (ku.map .int), .list (ku.map .int), .list (us.map .int), .list (kv.map .int), .list (kv.map .int)]) (j := 3) (ns := kv) IV KV (by show sV.cells.length + 3 ≤ 1000; rw [cV0]; lia) rfl JV.nets (by lia)
  have cv' : s2.cells.length ≤ 6 := by have : s2.cells.length ≤ sV.cells.length + 3 := cv; rw [cV0] at this; lia
  obtain ⟨u0, p1, p2⟩ := int_at (ns := us) (k := 0) (by lia)
  obtain ⟨v0, p3, p4⟩ := int_at (ns := vs) (k := 0) (by lia)
  have hv0 : Net s2 v0 := hvs v0 (List.mem_of_getElem? p3)
  have hus2 : ∀ n ∈ us, Net s2 n := fun n hn => NV2.net (hnuV n hn)
  obtain ⟨y, s3, e3, E3, hy, hl3, _⟩ := inv_spec 9 [.list (ku.map .int), .list (ku.map .int), .list (us.map .int), .list (kv.map .int), .list (kv.map .int), .list (vs.map .int)] NV2.inv (show _ ≤ _ by lia) hv0
  have N3 := E3.nx NV2.hk
  obtain ⟨d4, s4, e4, hd4, N4, c4⟩ := pickB 11 (L := 4) (by lia) [.list (ku.map .int), .list (ku.map .int), .list (us.map .int), .list (kv.map .int), .list (kv.map .int), .list (vs.map .int), .list [.int 0, .int 1, .int u0, .int y]] N3.inv N3.hk
  obtain ⟨d5, s5, e5, hd5, N5, c5⟩ := pickB 11 (L := 2) (by lia) [.list (ku.map .int), .list (ku.map .int), .list (us.map .int), .list (kv.map .int), .list (kv.map .int), .list (vs.map .int), .list [.int 0, .int 1, .int u0, .int y]] N4.inv N4.hk
  obtain ⟨d6, s6, e6, hd6, N6, c6⟩ := pickB 11 (L := 4) (by lia) [.list (ku.map .int), .list (ku.map .int), .list (us.map .int), .list (kv.map .int), .list (kv.map .int), .list (vs.map .int), .list [.int 0, .int 1, .int u0, .int y]] N5.inv N5.hk
  have N36 := (N4.trans N5).trans N6
  have N26 := N3.trans N36
  obtain ⟨right, hrt, rfl⟩ : ∃ k : Nat, k < 2 ∧ d5 = (k : Int) := ⟨d5.toNat, by lia, by lia⟩
  obtain ⟨top, htp, rfl⟩ : ∃ k : Nat, k < 4 ∧ d6 = (k : Int) := ⟨d6.toNat, by lia, by lia⟩
  have hc : ∃ c, ([0, 1, u0, y] : List Int)[d4.toNat]? = some c ∧ Net s6 c := by
    have h4 : d4.toNat < 4 := by lia
    have := N6.inv.two
    match d4.toNat, h4 with
    | 0, _ => exact ⟨0, rfl, N6.inv.net0⟩
    | 1, _ => exact ⟨1, rfl, N6.inv.net1⟩
    | 2, _ => exact ⟨u0, rfl, N26.net (hus2 u0 (List.mem_of_getElem? p1))⟩
    | 3, _ => exact ⟨y, rfl, N36.net hy⟩
  obtain ⟨c, hc1, hc2⟩ := hc
  refine ⟨w, which, right, top, us, vs, c, s6, [.list (ku.map .int), .list (ku.map .int), .list (us.map .int), .list (kv.map .int), .list (kv.map .int), .list (vs.map .int), .list [.int 0, .int 1, .int u0, .int y]], hw13, hwh, hrt, htp,
    ⟨N26.inv, N26.hk, N26.inputs.trans (NV2.inputs), ⟨ku, kv, _, rfl, ?_, lu, lv⟩, ?_, lus.trans lu, lvs.trans lv, fun n hn => ?_, ?_⟩, fun x hx => ?_⟩
  · have k1 : s2.keys = sV.keys := NV2.keys
    have k2 : s1.keys = sU.keys := NU.keys
    have k3 : sU.keys = [] ++ ku := JU.keys
    rw [N26.keys, k1, JV.keys, k2, k3]; rfl
  · have k1 : s2.keys = sV.keys := NV2.keys
    have k2 : s1.keys = sU.keys := NU.keys
    rw [N26.keys, k1]
    exact JV.nod (k2 ▸ JU.nod List.nodup_nil)
  · rcases List.mem_append.mp hn with hn | hn
    · rcases List.mem_append.mp hn with hn | hn
      · exact N26.net (hus2 n hn)
      · exact N26.net (hvs n hn)
    · rw [List.mem_singleton.mp hn]; exact hc2
  · rw [c6, c5, c4]; lia
  · have eSum : (ev prg (callN prg 12) (.bin .Mult (.bin .Mod (.bi .sum (.cons (.loc 1) .nil)) (.cint 100003)) (.cint 7))) ((List.replicate 20 Option.none).set 1 (some (.ref 0))) [.list (ns.map .int)] = some (.int (ns.sum.fmod 100003 * 7), [.list (ns.map .int)]) := by
      refine bin_h (i := ns.sum.fmod 100003) (j := 7) (bin_h (i := ns.sum) (j := 100003) (Eq.trans (b := (sumL (ns.map .int)).map fun z => (V.int z, [O.list (ns.map .int)])) (by kernel_rfl) (map_at (map_at (intsOf_map ns)))) (by kernel_rfl) (by rfl)) (by kernel_rfl) (binMul (by decide))
    have e0 : (ev prg (callN prg 12) (.list (.cons (.loc 1) (.cons (.cint 0) (.cons (.cint 0) (.cons (.bin .Mult (.bin .Mod (.bi .sum (.cons (.loc 1) .nil)) (.cint 100003)) (.cint 7)) .nil)))))) ((List.replicate 20 Option.none).set 1 (some (.ref 0))) [.list (ns.map .int)] = some (.ref 1, HH (ns.map .int) 0 0 (ns.sum.fmod 100003 * 7) []) := by
      have hrow := row_h (a := ev prg (callN prg 12) (.loc 1)) (x := .ref 0) (H := [.list (ns.map .int)]) (ρ := (List.replicate 20 Option.none).set 1 (some (.ref 0))) (by kernel_rfl) (row_h (a := ev prg (callN prg 12) (.cint 0)) (x := .int 0) (by kernel_rfl) (row_h (a := ev prg (callN prg 12) (.cint 0)) (x := .int 0) (by kernel_rfl) (row_one eSum)))
      exact list_eq hrow (by kernel_rfl)
    refine cons_eq (asg_eq e0) (cons_eq (asg_eq (v := .int w) (H1 := HH (ns.map .int) hi1 hr1 hs1 []) ?_) (cons_eq (asg_eq (v := .int which) (H1 := HH (ns.map .int) hi2 hr2 hs2 []) ?_) (cons_eq (asg_eq (v := .ref 2) (H1 := HH (ns.map .int) hi2 hr2 hs2 [.inst 1 3, .ns [("name", .str "m"), ("count", .int 2), ("inputs", .ref 4), ("outputs", .ref 5), ("cells", .ref 6)], .list [], .list [], .list []]) ?_)
      (cons_eq (asg_eq (v := .ref 7) (H1 := B (st00 (ns.map .int) hi2 hr2 hs2) []) ?_) (cons_eq (asg_eq (v := .ref 13) (H1 := B s1 [.list (ku.map .int), .list (ku.map .int), .list (us.map .int)]) ?_) (cons_eq (asg_eq (v := .ref 16) (H1 := B s2 [.list (ku.map .int), .list (ku.map .int), .list (us.map .int), .list (kv.map .int), .list (kv.map .int), .list (vs.map .int)]) ?_)
        (cons_eq (asg_eq (v := .int c) (H1 := B s4 [.list (ku.map .int), .list (ku.map .int), .list (us.map .int), .list (kv.map .int), .list (kv.map .int), .list (vs.map .int), .list [.int 0, .int 1, .int u0, .int y]]) ?_)
          (cons_eq (asg_eq (v := .int right) (H1 := B s5 [.list (ku.map .int), .list (ku.map .int), .list (us.map .int), .list (kv.map .int), .list (kv.map .int), .list (vs.map .int), .list [.int 0, .int 1, .int u0, .int y]]) (Eq.trans ?_ e5)) (cons_eq (asg_eq (v := .int top) (Eq.trans ?_ e6)) hx)))))))))
    · exact bin_eq (i := 1) (j := w - 1) (H1 := HH (ns.map .int) 0 0 (ns.sum.fmod 100003 * 7) []) (by kernel_rfl) (Eq.trans (by kernel_rfl) e1) (congrArg some (by show 1 + ((w : Int) - 1) = w; lia))
    · exact Eq.trans (by kernel_rfl) e2
    · kernel_rfl
    · kernel_rfl
    · exact (call_eq (row_cons (x := .ref 1) (H1 := B (st00 (ns.map .int) hi2 hr2 hs2) []) (by kernel_rfl) (row_cons (x := .ref 7) (H1 := B (st00 (ns.map .int) hi2 hr2 hs2) []) (by kernel_rfl) (row_one (Eq.trans (by kernel_rfl) aU))))).trans eU
    · exact (call_eq (row_cons (x := .ref 1) (H1 := B s1 [.list (ku.map .int), .list (ku.map .int), .list (us.map .int)]) (by kernel_rfl) (row_cons (x := .ref 7) (H1 := B s1 [.list (ku.map .int), .list (ku.map .int), .list (us.map .int)]) (by kernel_rfl) (row_one (Eq.trans (by kernel_rfl) aV))))).trans eV
    · refine sub_eq (x := .ref 17) (y := .int d4) (H1 := B s3 [.list (ku.map .int), .list (ku.map .int), .list (us.map .int), .list (kv.map .int), .list (kv.map .int), .list (vs.map .int), .list [.int 0, .int 1, .int u0, .int y]]) ?_ (Eq.trans ?_ e4) (sub_at (n := 17) (xs := [.int 0, .int 1, .int u0, .int y]) rfl ?_)
      · refine list_eq (xs := [.int 0, .int 1, .int u0, .int y]) (H1 := B s3 [.list (ku.map .int), .list (ku.map .int), .list (us.map .int), .list (kv.map .int), .list (kv.map .int), .list (vs.map .int)]) (row_h (x := .int 0) (by kernel_rfl) (row_h (x := .int 1) (by kernel_rfl) (row_h (x := .int u0) (sub_h (x := .ref 13) (y := .int 0) (by kernel_rfl) (by kernel_rfl) (sub_at (n := 13) (xs := us.map .int) rfl ?_)) (row_one ?_)))) (by kernel_rfl)
        · exact (idx_nat (Int.le_refl 0)).trans p2
        · refine (meth_eq (v := .ref 7) (y := (0, 8, [("netlist", .ref 2), ("made", .ref 9), ("opposite", .ref 10)])) (f := 3) (H1 := B s2 [.list (ku.map .int), .list (ku.map .int), .list (us.map .int), .list (kv.map .int), .list (kv.map .int), .list (vs.map .int)]) (by kernel_rfl) (by kernel_rfl) (by kernel_rfl) (row_one (sub_h (x := .ref 16) (y := .int 0) (by kernel_rfl) (by kernel_rfl) (sub_at (n := 16) (xs := vs.map .int) rfl ?_)))).trans e3
          exact (idx_nat (Int.le_refl 0)).trans p4
      · kernel_rfl
      · rw [idx_nat hd4.1]
        exact (List.getElem?_map (f := V.int) (l := [0, 1, u0, y])).trans (map_at hc1)
    · kernel_rfl
    · kernel_rfl
end
end Mine

namespace Mine
section
open PySem
set_option autoImplicit false
theorem rc10 : ∀ r t : Nat, okRun (branchS 0) 1 0 r t = true := fun _ _ => by kernel_rfl
theorem rc11 : ∀ r t : Nat, okRun (branchS 1) 1 1 r t = true := fun _ _ => by kernel_rfl
theorem rc12 : ∀ r t : Nat, okRun (branchS 2) 1 2 r t = true := fun _ _ => by kernel_rfl
theorem rc13 : ∀ r t : Nat, okRun (branchS 3) 1 3 r t = true := fun _ _ => by kernel_rfl
theorem rc14 : ∀ r t : Nat, okRun (branchS 4) 1 4 r t = true := fun _ _ => by kernel_rfl
theorem rc1500 : okRun (branchS 5) 1 5 0 0 = true := by kernel_rfl
theorem rc1501 : okRun (branchS 5) 1 5 0 1 = true := by kernel_rfl
theorem rc1502 : okRun (branchS 5) 1 5 0 2 = true := by kernel_rfl
theorem rc1503 : okRun (branchS 5) 1 5 0 3 = true := by kernel_rfl
theorem rc1510 : okRun (branchS 5) 1 5 1 0 = true := by kernel_rfl
theorem rc1511 : okRun (branchS 5) 1 5 1 1 = true := by kernel_rfl
theorem rc1512 : okRun (branchS 5) 1 5 1 2 = true := by kernel_rfl
theorem rc1513 : okRun (branchS 5) 1 5 1 3 = true := by kernel_rfl
theorem rc16 : ∀ r t : Nat, okRun (branchS 6) 1 6 r t = true := fun _ _ => by kernel_rfl
theorem rc17 : ∀ r t : Nat, okRun (branchS 7) 1 7 r t = true := fun _ _ => by kernel_rfl
theorem rl11 : ∀ t : Nat, okRun lastS 1 8 1 t = true := fun _ => by kernel_rfl
theorem rl12 : ∀ t : Nat, okRun lastS 1 8 2 t = true := fun _ => by kernel_rfl
theorem rl13 : ∀ t : Nat, okRun lastS 1 8 3 t = true := fun _ => by kernel_rfl
theorem rl14 : ∀ t : Nat, okRun lastS 1 8 4 t = true := fun _ => by kernel_rfl
theorem rl15 : ∀ t : Nat, okRun lastS 1 8 5 t = true := fun _ => by kernel_rfl
theorem rl16 : ∀ t : Nat, okRun lastS 1 8 6 t = true := fun _ => by kernel_rfl
theorem rl17 : ∀ t : Nat, okRun lastS 1 8 7 t = true := fun _ => by kernel_rfl
theorem rl18 : ∀ t : Nat, okRun lastS 1 8 8 t = true := fun _ => by kernel_rfl
theorem rl19 : ∀ t : Nat, okRun lastS 1 8 9 t = true := fun _ => by kernel_rfl
theorem rc20 : ∀ r t : Nat, okRun (branchS 0) 2 0 r t = true := fun _ _ => by kernel_rfl
theorem rc21 : ∀ r t : Nat, okRun (branchS 1) 2 1 r t = true := fun _ _ => by kernel_rfl
theorem rc22 : ∀ r t : Nat, okRun (branchS 2) 2 2 r t = true := fun _ _ => by kernel_rfl
theorem rc23 : ∀ r t : Nat, okRun (branchS 3) 2 3 r t = true := fun _ _ => by kernel_rfl
theorem rc24 : ∀ r t : Nat, okRun (branchS 4) 2 4 r t = true := fun _ _ => by kernel_rfl
theorem rc2500 : okRun (branchS 5) 2 5 0 0 = true := by kernel_rfl
theorem rc2501 : okRun (branchS 5) 2 5 0 1 = true := by kernel_rfl
theorem rc2502 : okRun (branchS 5) 2 5 0 2 = true := by kernel_rfl
theorem rc2503 : okRun (branchS 5) 2 5 0 3 = true := by kernel_rfl
theorem rc2510 : okRun (branchS 5) 2 5 1 0 = true := by kernel_rfl
theorem rc2511 : okRun (branchS 5) 2 5 1 1 = true := by kernel_rfl
theorem rc2512 : okRun (branchS 5) 2 5 1 2 = true := by kernel_rfl
theorem rc2513 : okRun (branchS 5) 2 5 1 3 = true := by kernel_rfl
theorem rc26 : ∀ r t : Nat, okRun (branchS 6) 2 6 r t = true := fun _ _ => by kernel_rfl
theorem rc27 : ∀ r t : Nat, okRun (branchS 7) 2 7 r t = true := fun _ _ => by kernel_rfl
theorem rl21 : ∀ t : Nat, okRun lastS 2 8 1 t = true := fun _ => by kernel_rfl
theorem rl22 : ∀ t : Nat, okRun lastS 2 8 2 t = true := fun _ => by kernel_rfl
theorem rl23 : ∀ t : Nat, okRun lastS 2 8 3 t = true := fun _ => by kernel_rfl
theorem rl24 : ∀ t : Nat, okRun lastS 2 8 4 t = true := fun _ => by kernel_rfl
theorem rl25 : ∀ t : Nat, okRun lastS 2 8 5 t = true := fun _ => by kernel_rfl
theorem rl26 : ∀ t : Nat, okRun lastS 2 8 6 t = true := fun _ => by kernel_rfl
theorem rl27 : ∀ t : Nat, okRun lastS 2 8 7 t = true := fun _ => by kernel_rfl
theorem rl28 : ∀ t : Nat, okRun lastS 2 8 8 t = true := fun _ => by kernel_rfl
theorem rl29 : ∀ t : Nat, okRun lastS 2 8 9 t = true := fun _ => by kernel_rfl
theorem rc30 : ∀ r t : Nat, okRun (branchS 0) 3 0 r t = true := fun _ _ => by kernel_rfl
theorem rc31 : ∀ r t : Nat, okRun (branchS 1) 3 1 r t = true := fun _ _ => by kernel_rfl
theorem rc32 : ∀ r t : Nat, okRun (branchS 2) 3 2 r t = true := fun _ _ => by kernel_rfl
theorem rc33 : ∀ r t : Nat, okRun (branchS 3) 3 3 r t = true := fun _ _ => by kernel_rfl
theorem rc34 : ∀ r t : Nat, okRun (branchS 4) 3 4 r t = true := fun _ _ => by kernel_rfl
theorem rc3500 : okRun (branchS 5) 3 5 0 0 = true := by kernel_rfl
theorem rc3501 : okRun (branchS 5) 3 5 0 1 = true := by kernel_rfl
theorem rc3502 : okRun (branchS 5) 3 5 0 2 = true := by kernel_rfl
theorem rc3503 : okRun (branchS 5) 3 5 0 3 = true := by kernel_rfl
theorem rc3510 : okRun (branchS 5) 3 5 1 0 = true := by kernel_rfl
theorem rc3511 : okRun (branchS 5) 3 5 1 1 = true := by kernel_rfl
theorem rc3512 : okRun (branchS 5) 3 5 1 2 = true := by kernel_rfl
theorem rc3513 : okRun (branchS 5) 3 5 1 3 = true := by kernel_rfl
theorem rc36 : ∀ r t : Nat, okRun (branchS 6) 3 6 r t = true := fun _ _ => by kernel_rfl
theorem rc37 : ∀ r t : Nat, okRun (branchS 7) 3 7 r t = true := fun _ _ => by kernel_rfl
theorem rl31 : ∀ t : Nat, okRun lastS 3 8 1 t = true := fun _ => by kernel_rfl
theorem rl32 : ∀ t : Nat, okRun lastS 3 8 2 t = true := fun _ => by kernel_rfl
theorem rl33 : ∀ t : Nat, okRun lastS 3 8 3 t = true := fun _ => by kernel_rfl
theorem rl34 : ∀ t : Nat, okRun lastS 3 8 4 t = true := fun _ => by kernel_rfl
theorem rl35 : ∀ t : Nat, okRun lastS 3 8 5 t = true := fun _ => by kernel_rfl
theorem rl36 : ∀ t : Nat, okRun lastS 3 8 6 t = true := fun _ => by kernel_rfl
theorem rl37 : ∀ t : Nat, okRun lastS 3 8 7 t = true := fun _ => by kernel_rfl
theorem rl38 : ∀ t : Nat, okRun lastS 3 8 8 t = true := fun _ => by kernel_rfl
theorem rl39 : ∀ t : Nat, okRun lastS 3 8 9 t = true := fun _ => by kernel_rfl
end
end Mine

namespace Mine
section
open PySem
set_option autoImplicit false

theorem run_all {w which right top : Nat} (hw : 1 ≤ w ∧ w ≤ 3) (hk : which < 8) (hr : right < 2) (ht : top < 4) : okRun (branchS which) w which right top = true := by
  rcases (show w = 1 ∨ w = 2 ∨ w = 3 by lia) with rfl | rfl | rfl
  · rcases (show which = 0 ∨ which = 1 ∨ which = 2 ∨ which = 3 ∨ which = 4 ∨ which = 5 ∨ which = 6 ∨ which = 7 by lia) with rfl | rfl | rfl | rfl | rfl | rfl | rfl | rfl
    · exact rc10 right top
    · exact rc11 right top
    · exact rc12 right top
    · exact rc13 right top
    · exact rc14 right top
    · rcases (show right = 0 ∨ right = 1 by lia) with rfl | rfl
      · rcases (show top = 0 ∨ top = 1 ∨ top = 2 ∨ top = 3 by lia) with rfl | rfl | rfl | rfl
        · exact rc1500
        · exact rc1501
        · exact rc1502
        · exact rc1503
      · rcases (show top = 0 ∨ top = 1 ∨ top = 2 ∨ top = 3 by lia) with rfl | rfl | rfl | rfl
        · exact rc1510
        · exact rc1511
        · exact rc1512
        · exact rc1513
    · exact rc16 right top
    · exact rc17 right top
  · rcases (show which = 0 ∨ which = 1 ∨ which = 2 ∨ which = 3 ∨ which = 4 ∨ which = 5 ∨ which = 6 ∨ which = 7 by lia) with rfl | rfl | rfl | rfl | rfl | rfl | rfl | rfl
    · exact rc20 right top
    · exact rc21 right top
    · exact rc22 right top
    · exact rc23 right top
    · exact rc24 right top
    · rcases (show right = 0 ∨ right = 1 by lia) with rfl | rfl
      · rcases (show top = 0 ∨ top = 1 ∨ top = 2 ∨ top = 3 by lia) with rfl | rfl | rfl | rfl
        · exact rc2500
        · exact rc2501
        · exact rc2502
        · exact rc2503
      · rcases (show top = 0 ∨ top = 1 ∨ top = 2 ∨ top = 3 by lia) with rfl | rfl | rfl | rfl
        · exact rc2510
        · exact rc2511
        · exact rc2512
        · exact rc2513
    · exact rc26 right top
    · exact rc27 right top
  · rcases (show which = 0 ∨ which = 1 ∨ which = 2 ∨ which = 3 ∨ which = 4 ∨ which = 5 ∨ which = 6 ∨ which = 7 by lia) with rfl | rfl | rfl | rfl | rfl | rfl | rfl | rfl
    · exact rc30 right top
    · exact rc31 right top
    · exact rc32 right top
    · exact rc33 right top
    · exact rc34 right top
    · rcases (show right = 0 ∨ right = 1 by lia) with rfl | rfl
      · rcases (show top = 0 ∨ top = 1 ∨ top = 2 ∨ top = 3 by lia) with rfl | rfl | rfl | rfl
        · exact rc3500
        · exact rc3501
        · exact rc3502
        · exact rc3503
      · rcases (show top = 0 ∨ top = 1 ∨ top = 2 ∨ top = 3 by lia) with rfl | rfl | rfl | rfl
        · exact rc3510
        · exact rc3511
        · exact rc3512
        · exact rc3513
    · exact rc36 right top
    · exact rc37 right top
theorem run_last {w right : Nat} (hw : 1 ≤ w ∧ w ≤ 3) (hr : 1 ≤ right ∧ right ≤ 9) (top : Nat) : okRun lastS w 8 right top = true := by
  rcases (show w = 1 ∨ w = 2 ∨ w = 3 by lia) with rfl | rfl | rfl
  · rcases (show right = 1 ∨ right = 2 ∨ right = 3 ∨ right = 4 ∨ right = 5 ∨ right = 6 ∨ right = 7 ∨ right = 8 ∨ right = 9 by lia) with rfl | rfl | rfl | rfl | rfl | rfl | rfl | rfl | rfl
    · exact rl11 top
    · exact rl12 top
    · exact rl13 top
    · exact rl14 top
    · exact rl15 top
    · exact rl16 top
    · exact rl17 top
    · exact rl18 top
    · exact rl19 top
  · rcases (show right = 1 ∨ right = 2 ∨ right = 3 ∨ right = 4 ∨ right = 5 ∨ right = 6 ∨ right = 7 ∨ right = 8 ∨ right = 9 by lia) with rfl | rfl | rfl | rfl | rfl | rfl | rfl | rfl | rfl
    · exact rl21 top
    · exact rl22 top
    · exact rl23 top
    · exact rl24 top
    · exact rl25 top
    · exact rl26 top
    · exact rl27 top
    · exact rl28 top
    · exact rl29 top
  · rcases (show right = 1 ∨ right = 2 ∨ right = 3 ∨ right = 4 ∨ right = 5 ∨ right = 6 ∨ right = 7 ∨ right = 8 ∨ right = 9 by lia) with rfl | rfl | rfl | rfl | rfl | rfl | rfl | rfl | rfl
    · exact rl31 top
    · exact rl32 top
    · exact rl33 top
    · exact rl34 top
    · exact rl35 top
    · exact rl36 top
    · exact rl37 top
    · exact rl38 top
    · exact rl39 top

theorem okRun_inv {s : S} {w which right top : Nat} (h : okRun s w which right top = true) : ∃ ts, told2 s w which right top = some ts ∧ (ts.length ≤ 20 ∧ ∀ t ∈ ts, t.length ≤ 20) ∧ ∀ a, a < 2 ^ (2 * w + 1) → due2 w which right top a = some (ts.map (num a)) := by
  unfold okRun at h
  cases e : told2 s w which right top with
  | none => rw [e] at h; cases h
  | some ts =>
    rw [e] at h
    exact ⟨ts, rfl, ⟨of_decide_eq_true (and_inv (and_inv h).1).1, fun t ht => of_decide_eq_true (List.all_eq_true.mp (and_inv (and_inv h).1).2 t ht)⟩, fun a ha => of_decide_eq_true (List.all_eq_true.mp (and_inv h).2 a (List.mem_range.mpr ha))⟩

theorem split1 {α : Type} {n : Nat} {l : List α} (h : l.length = n + 1) : ∃ a r, l = a :: r ∧ r.length = n := by
  cases l with
  | nil => cases h
  | cons a r => exact ⟨a, r, rfl, Nat.succ.inj h⟩
theorem list8 {α : Type} {l : List α} (h : l.length = 8) : ∃ a0 a1 a2 a3 a4 a5 a6 a7, l = [a0, a1, a2, a3, a4, a5, a6, a7] := by
  obtain ⟨a0, l0, e0, h⟩ := split1 h
  obtain ⟨a1, l1, e1, h⟩ := split1 h
  obtain ⟨a2, l2, e2, h⟩ := split1 h
  obtain ⟨a3, l3, e3, h⟩ := split1 h
  obtain ⟨a4, l4, e4, h⟩ := split1 h
  obtain ⟨a5, l5, e5, h⟩ := split1 h
  obtain ⟨a6, l6, e6, h⟩ := split1 h
  obtain ⟨a7, l7, e7, h⟩ := split1 h
  rw [e0, e1, e2, e3, e4, e5, e6, e7, List.eq_nil_of_length_eq_zero h]
  exact ⟨a0, a1, a2, a3, a4, a5, a6, a7, rfl⟩
noncomputable def keepBr (s : S) : Bool := ([0, 1, 2, 3, 4, 5, 6, 7, 8, 9, 10, 11, 19, 20] : List Nat).all (fun i => keepS i s) && okS s
theorem keep_branch : (List.range 8).all (fun k => keepBr (branchS k)) = true := by kernel_rfl
theorem keep_last : keepBr lastS = true := by kernel_rfl
theorem keepBr_inv {s : S} (h : keepBr s = true) : okS s = true ∧ ∀ i : Nat, i ∈ [0, 1, 2, 3, 4, 5, 6, 7, 8, 9, 10, 11, 19, 20] → keepS i s = true :=
  ⟨(and_inv h).2, fun i hi => List.all_eq_true.mp (and_inv h).1 i hi⟩

theorem else_step {t : M} {a b : Mx} {ρ ρ' : Rho} {H H' : St} (h : (t ρ H).bind tst = some (false, H)) (hb : b ρ H = some (.next, ρ', H')) : sCond t a (sCons b (fun ρ H => some (.next, ρ, H))) ρ H = some (.next, ρ', H') :=
  cond_f h (cons_eq hb rfl)
theorem which_test (n k j : Nat) {r : List (Option V)} {a0 a1 a2 a3 : Option V} (H : St) (d : Bool) (h : decide ((k : Int) = (j : Int)) = d) : (ev prg (callN prg n) (.cmp .Eq (.loc 4) (.cint j)) (a0 :: a1 :: a2 :: a3 :: some (.int k) :: r) H).bind tst = some (d, H) :=
  cmp_h (x := .int k) (y := .int j) (by kernel_rfl) (by kernel_rfl) (congrArg some h)
theorem chain_eq (n : Nat) {k : Nat} (hk : k < 8) {r : List (Option V)} {a0 a1 a2 a3 : Option V} {H H' : St} {ρ' : Rho} (h : ex prg (callN prg n) (branchS k) (a0 :: a1 :: a2 :: a3 :: some (.int k) :: r) H = some (.next, ρ', H')) : ex prg (callN prg n) chainS (a0 :: a1 :: a2 :: a3 :: some (.int k) :: r) H = some (.next, ρ', H') := by
  rcases (show k = 0 ∨ k = 1 ∨ k = 2 ∨ k = 3 ∨ k = 4 ∨ k = 5 ∨ k = 6 ∨ k = 7 by lia) with rfl | rfl | rfl | rfl | rfl | rfl | rfl | rfl
  · exact cond_t (which_test n 0 0 H true rfl) h
  · exact else_step (which_test n 1 0 H false rfl) (cond_t (which_test n 1 1 H true rfl) h)
  · exact else_step (which_test n 2 0 H false rfl) (else_step (which_test n 2 1 H false rfl) (cond_t (which_test n 2 2 H true rfl) h))
  · exact else_step (which_test n 3 0 H false rfl) (else_step (which_test n 3 1 H false rfl) (else_step (which_test n 3 2 H false rfl) (cond_t (which_test n 3 3 H true rfl) h)))
  · exact else_step (which_test n 4 0 H false rfl) (else_step (which_test n 4 1 H false rfl) (else_step (which_test n 4 2 H false rfl) (else_step (which_test n 4 3 H false rfl) (cond_t (which_test n 4 4 H true rfl) h))))
  · exact else_step (which_test n 5 0 H false rfl) (else_step (which_test n 5 1 H false rfl) (else_step (which_test n 5 2 H false rfl) (else_step (which_test n 5 3 H false rfl) (else_step (which_test n 5 4 H false rfl) (cond_t (which_test n 5 5 H true rfl) h)))))
  · exact else_step (which_test n 6 0 H false rfl) (else_step (which_test n 6 1 H false rfl) (else_step (which_test n 6 2 H false rfl) (else_step (which_test n 6 3 H false rfl) (else_step (which_test n 6 4 H false rfl) (else_step (which_test n 6 5 H false rfl) (cond_t (which_test n 6 6 H true rfl) h))))))
  · exact else_step (which_test n 7 0 H false rfl) (else_step (which_test n 7 1 H false rfl) (else_step (which_test n 7 2 H false rfl) (else_step (which_test n 7 3 H false rfl) (else_step (which_test n 7 4 H false rfl) (else_step (which_test n 7 5 H false rfl) (else_step (which_test n 7 6 H false rfl) (cond_t (which_test n 7 7 H true rfl) h)))))))
theorem chain_eq8 (n : Nat) {r : List (Option V)} {a0 a1 a2 a3 : Option V} {H H1 H' : St} {ρ1 ρ' : Rho} (h1 : ex prg (callN prg n) (nthS 0 (elseOf (elseN 7 chainS))) (a0 :: a1 :: a2 :: a3 :: some (.int (8 : Nat)) :: r) H = some (.next, ρ1, H1)) (h2 : ex prg (callN prg n) lastS ρ1 H1 = some (.next, ρ', H')) :
    ex prg (callN prg n) chainS (a0 :: a1 :: a2 :: a3 :: some (.int (8 : Nat)) :: r) H = some (.next, ρ', H') :=
  else_step (which_test n 8 0 H false rfl) (else_step (which_test n 8 1 H false rfl) (else_step (which_test n 8 2 H false rfl) (else_step (which_test n 8 3 H false rfl) (else_step (which_test n 8 4 H false rfl) (else_step (which_test n 8 5 H false rfl) (else_step (which_test n 8 6 H false rfl) (cond_f (which_test n 8 7 H false rfl) (cons_eq h1 h2))))))))
end
end Mine

namespace Mine
section
open PySem
set_option autoImplicit false

/-- where the words of the nets are asked for -/
structure Af (w which : Nat) (c : Int) (right top it : Nat) (st : NS) (tl : List O) : Prop where
  inv : Inv st
  inputs : st.inputs = [.tup [.str "u", .ref 12], .tup [.str "v", .ref 15]]
  cells : st.cells.length ≤ 201000
  keys : ∃ ku kv, tl[1]? = some (.list (ku.map .int)) ∧ tl[4]? = some (.list (kv.map .int)) ∧ st.keys = ku ++ kv ∧ ku.length = w ∧ kv.length = w
  nod : st.keys.Nodup
  told : ∃ (al : (Int → Bool) → Nat) (ts : List (List Nat)) (rs : List V) (us vs : List Int), (∀ inp, al inp < 2 ^ (2 * w + 1)) ∧ tl[it]? = some (.list rs) ∧ Told st tl al ts rs ∧
    tl[2]? = some (.list (us.map .int)) ∧ tl[5]? = some (.list (vs.map .int)) ∧ NVs st al ((List.range w).map fun j => tabV (2 ^ (2 * w + 1)) (0 + j)) us ∧ NVs st al ((List.range w).map fun j => tabV (2 ^ (2 * w + 1)) (w + j)) vs ∧
    (Net st c ∧ ∀ inp, nval st.cells inp c = (tabV (2 ^ (2 * w + 1)) (2 * w)).testBit (al inp)) ∧ (ts.length ≤ 20 ∧ ∀ t ∈ ts, t.length ≤ 20) ∧ ∀ a, a < 2 ^ (2 * w + 1) → due2 w which right top a = some (ts.map (num a))

theorem slots_of {ρ : Rho} {ρ0 : Rho} (h : ∀ i : Nat, i ∈ [0, 1, 2, 3, 4, 5, 6, 7, 8, 9, 10, 11, 19, 20] → ρ[i]? = ρ0[i]?) (hl : ρ0.length = 20) {x : Option V} (h14 : ρ[14]? = some x) :
    ∃ r12 r13 r15 r16 r17 r18 r19, ρ = ρ0.take 12 ++ [r12, r13, x, r15, r16, r17, r18, r19] := by
  have hlen : ρ.length = 20 := by
    have h1 := h 19 (by simp)
    have h2 := h 20 (by simp)
    rw [List.getElem?_eq_none (show ρ0.length ≤ 20 by lia)] at h2
    have := List.getElem?_eq_none_iff.mp h2
    rw [List.getElem?_eq_getElem (show 19 < ρ0.length by lia)] at h1
    have := (List.getElem?_eq_some_iff.mp h1).1
    lia
  have h12 : ρ.take 12 = ρ0.take 12 := List.ext_getElem? fun i => by
    rw [List.getElem?_take, List.getElem?_take]
    by_cases hi : i < 12
    · rw [if_pos hi, if_pos hi]
      exact h i ((by decide : ∀ i < 12, i ∈ ([0, 1, 2, 3, 4, 5, 6, 7, 8, 9, 10, 11, 19, 20] : List Nat)) i hi)
    · rw [if_neg hi, if_neg hi]
  have hd : (ρ.drop 12).length = 8 := by rw [List.length_drop, hlen]
  obtain ⟨a0, a1, a2, a3, a4, a5, a6, a7, e⟩ := list8 hd
  have e14 : (ρ.drop 12)[2]? = some x := by rw [List.getElem?_drop]; exact h14
  rw [e] at e14
  have e14 : a2 = x := Option.some.inj e14
  refine ⟨a0, a1, a3, a4, a5, a6, a7, ?_⟩
  rw [← h12, ← e14, ← e, List.take_append_drop]

theorem run_part {s : S} {w which right top : Nat} (hw : 1 ≤ w ∧ w ≤ 3) (hk : keepBr s = true) (hrun : okRun s w which right top = true) {st : NS} {tl : List O} {us vs : List Int} {c : Int} (A : At st tl w us vs c) :
    ∃ it st' tl' r12 r13 r15 r16 r17 r18 r19, ex prg (callN prg 12) s [Option.none, some (.ref 0), some (.ref 1), some (.int w), some (.int which), some (.ref 2), some (.ref 7), some (.ref (2 + 11)), some (.ref (5 + 11)), some (.int c), some (.int right), some (.int top),
      Option.none, Option.none, Option.none, Option.none, Option.none, Option.none, Option.none, Option.none] (B st tl) =
      some (.next, [Option.none, some (.ref 0), some (.ref 1), some (.int w), some (.int which), some (.ref 2), some (.ref 7), some (.ref (2 + 11)), some (.ref (5 + 11)), some (.int c), some (.int right), some (.int top), r12, r13, some (.ref (it + 11)), r15, r16, r17, r18, r19], B st' tl') ∧
      Af w which c right top it st' tl' := by
  obtain ⟨ts, ht, hlen20, hdue⟩ := okRun_inv hrun
  obtain ⟨ku, kv, cl, rfl, hkeys, hku, hkv⟩ := A.tl
  obtain ⟨hs, hkeep⟩ := keepBr_inv hk
  obtain ⟨ρ', st', tl', it, rs, us', vs', e, E, hrest, h14, hit, hT, hu', hv', nu, nv, hc⟩ := chain_sim (tl := [.list (ku.map .int), .list (ku.map .int), .list (us.map .int), .list (kv.map .int), .list (kv.map .int), .list (vs.map .int), .list cl]) hs hw ht A.inv (by have := A.cells; lia) A.ul A.vl A.nets (iu := 2) (iv := 5) (by decide) rfl rfl (a0 := Option.none) (a1 := some (.ref 0)) (a2 := some (.ref 1)) (a5 := some (.ref 2))
    (rest := [Option.none, Option.none, Option.none, Option.none, Option.none, Option.none, Option.none, Option.none]) rfl
  obtain ⟨r12, r13, r15, r16, r17, r18, r19, rfl⟩ := slots_of (fun i hi => ex_keeps i s (hkeep i hi) _ _ _ e) rfl h14
  have hin := E.hand.2.2.2.2
  have hlen : (us ++ vs ++ [c]).length = 2 * w + 1 := by simp [A.ul, A.vl]; lia
  refine ⟨it, st', tl', r12, r13, r15, r16, r17, r18, r19, e, ⟨E.inv, hin.1.trans A.inputs, hc, ⟨ku, kv, hrest 1 _ (by decide) (by decide) rfl, hrest 4 _ (by decide) (by decide) rfl, hin.2.trans hkeys, hku, hkv⟩, hin.2 ▸ A.nod,
    ⟨_, ts, rs, us', vs', fun inp => ?_, hit, hT, hu', hv', nu, nv, ⟨E.net (A.nets c (by simp)), fun inp => ?_⟩, hlen20, hdue⟩⟩⟩
  · have := valB_lt ((us ++ vs ++ [c]).map (nval st.cells inp))
    rw [List.length_map, hlen] at this
    exact this
  · rw [E.val inp c (A.nets c (by simp)).2]
    refine base_net hw hlen ?_ inp
    rw [List.getElem?_append_right (by simp [A.ul, A.vl]; lia), List.length_append, A.ul, A.vl, show 2 * w - (w + w) = 0 by lia]; rfl

theorem mid_ok {w which right top : Nat} (hw : 1 ≤ w ∧ w ≤ 3) (hk : which < 9) (hr : right < 2) (ht : top < 4) {st : NS} {tl : List O} {us vs : List Int} {c : Int} (A : At st tl w us vs c) :
    ∃ right' it st' tl' r12 r13 r15 r16 r17 r18 r19, ex prg (callN prg 12) chainS [Option.none, some (.ref 0), some (.ref 1), some (.int w), some (.int which), some (.ref 2), some (.ref 7), some (.ref (2 + 11)), some (.ref (5 + 11)), some (.int c), some (.int right), some (.int top),
      Option.none, Option.none, Option.none, Option.none, Option.none, Option.none, Option.none, Option.none] (B st tl) =
      some (.next, [Option.none, some (.ref 0), some (.ref 1), some (.int w), some (.int which), some (.ref 2), some (.ref 7), some (.ref (2 + 11)), some (.ref (5 + 11)), some (.int c), some (.int (right' : Nat)), some (.int top), r12, r13, some (.ref (it + 11)), r15, r16, r17, r18, r19], B st' tl') ∧
      Af w which c right' top it st' tl' := by
  by_cases h8 : which < 8
  · obtain ⟨it, st', tl', r12, r13, r15, r16, r17, r18, r19, e, F⟩ := run_part hw (List.all_eq_true.mp keep_branch which (List.mem_range.mpr h8)) (run_all hw h8 hr ht) A
    exact ⟨right, it, st', tl', r12, r13, r15, r16, r17, r18, r19, chain_eq 12 h8 e, F⟩
  · obtain rfl : which = 8 := by lia
    obtain ⟨d, st1, e1, hd, N, hcell⟩ := pickB 11 (L := 9) (by lia) tl A.inv A.hk
    obtain ⟨k, hk9, rfl⟩ : ∃ k : Nat, k < 9 ∧ d = (k : Int) := ⟨d.toNat, by lia, by lia⟩
    have A1 : At st1 tl w us vs c := by
      obtain ⟨ku, kv, cl, htl, hkeys, hku, hkv⟩ := A.tl
      exact ⟨N.inv, N.hk, N.inputs.trans A.inputs, ⟨ku, kv, cl, htl, N.keys.trans hkeys, hku, hkv⟩, N.keys ▸ A.nod, A.ul, A.vl, fun n hn => N.net (A.nets n hn), hcell ▸ A.cells⟩
    obtain ⟨it, st', tl', r12, r13, r15, r16, r17, r18, r19, e, F⟩ := run_part (right := 1 + k) hw keep_last (run_last hw (by lia) top) A1
    refine ⟨1 + k, it, st', tl', r12, r13, r15, r16, r17, r18, r19, chain_eq8 12 (asg_eq (v := .int ((1 + k : Nat) : Int)) (H1 := B st1 tl) ?_) e, F⟩
    exact bin_eq (i := 1) (j := k) (H1 := B st tl) (by kernel_rfl) (Eq.trans (by kernel_rfl) e1) (congrArg some (by show (1 : Int) + k = ((1 + k : Nat) : Int); lia))
end
end Mine

namespace Mine
section
open PySem
set_option autoImplicit false

noncomputable def numB : List Bool → Int
  | [] => 0
  | b :: r => (if b = true then 1 else 0) + 2 * numB r
noncomputable def terms : List Bool → Nat → List Int
  | [], _ => []
  | b :: r, p => (if b = true then 1 else 0) * 2 ^ p :: terms r (p + 1)
theorem terms_sum : ∀ (bs : List Bool) (p : Nat), (terms bs p).sum = 2 ^ p * numB bs
  | [], p => (Int.mul_zero _).symm
  | b :: r, p => by
    show (if b = true then 1 else 0) * 2 ^ p + (terms r (p + 1)).sum = 2 ^ p * ((if b = true then 1 else 0) + 2 * numB r)
    rw [terms_sum r (p + 1), Int.pow_succ, Int.mul_add, Int.mul_comm (2 ^ p) (if b = true then 1 else 0), Int.mul_assoc]
theorem terms_zero (bs : List Bool) : (terms bs 0).sum = numB bs := by rw [terms_sum]; exact Int.one_mul _

/-- a word's bit in row r -/
theorem bit_at (m r : Nat) : ((m : Int).fdiv (2 ^ r)).fmod 2 = if m.testBit r = true then 1 else 0 := by
  rw [Nat.testBit_eq_decide_div_mod_eq]
  have h : ((m : Int).fdiv (2 ^ r)).fmod 2 = ((m / 2 ^ r % 2 : Nat) : Int) := by
    rw [show ((2 : Int) ^ r) = ((2 ^ r : Nat) : Int) by simp, Int.fdiv_eq_ediv_of_nonneg _ (Int.natCast_nonneg _), Int.fmod_eq_emod_of_nonneg _ (by decide)]
    show ((m / 2 ^ r : Nat) : Int) % 2 = _
    lia
  rw [h]
  have := Nat.mod_lt (m / 2 ^ r) (show 0 < 2 by decide)
  by_cases h1 : m / 2 ^ r % 2 = 1
  · rw [h1]; rfl
  · rw [show m / 2 ^ r % 2 = 0 by lia]; rfl

theorem pow_bin {r : Nat} (h : r ≤ 1024) : binI .Pow 2 (r : Int) = some (2 ^ r) :=
  (need_true (decide_eq_true ⟨by lia, by lia, by decide⟩)).trans (by rw [Int.toNat_natCast])
theorem pow_ne (r : Nat) : (2 : Int) ^ r ≠ 0 := by
  have := Nat.two_pow_pos r
  rw [show ((2 : Int) ^ r) = ((2 ^ r : Nat) : Int) by simp]; lia
theorem pow_abs {r : Nat} (h : r < 64) : ((2 : Int) ^ r).natAbs < 2 ^ 64 := by
  rw [show ((2 : Int) ^ r) = ((2 ^ r : Nat) : Int) by simp, Int.natAbs_natCast]
  exact Nat.pow_lt_pow_right (by decide) h
theorem div_bin {a : Int} {r : Nat} (h : r < 64) : binI .FloorDiv a (2 ^ r) = some (a.fdiv (2 ^ r)) :=
  need_true (decide_eq_true ⟨pow_ne r, Nat.lt_trans (pow_abs h) (by decide)⟩)

/-- words of the nets -/
noncomputable def WD (es : List (Int × V)) (R : Nat) (F : Nat → Int → Bool) (n : Int) : Prop := ∃ m : Nat, es.lookup n = some (.int m) ∧ m < 2 ^ R ∧ ∀ r, r < R → m.testBit r = F r n
theorem sub_dict {H : St} {d : Nat} {es : List (Int × V)} (h : H[d]? = some (.idict es)) {n : Int} {v : V} (e : es.lookup n = some v) : subscr (.ref d) (.int n) H = some v :=
  alt_right rfl (bind_at rfl (bind_at h (alt_right rfl (alt_left (bind_at rfl (bind_at rfl e))))))
/-- words[x] // 2 ** r % 2 -/
theorem bit_ev {x r : M} {ρ : Rho} {H : St} {d : Nat} {es : List (Int × V)} (h : H[d]? = some (.idict es)) {n : Int} {k R : Nat} {F : Nat → Int → Bool} (hx : x ρ H = some (.int n, H)) (hr : r ρ H = some (.int k, H)) (hk : k < R) (hR : R ≤ 64) (hw : WD es R F n) {w : M} (hwd : w ρ H = some (.ref d, H)) :
    mBin .Mod (mBin .FloorDiv (mSub w x) (mBin .Pow (mVal (.int 2)) r)) (mVal (.int 2)) ρ H = some (.int (if F k n = true then 1 else 0), H) := by
  obtain ⟨m, e1, e2, e3⟩ := hw
  refine bin_h (i := (m : Int).fdiv (2 ^ k)) (j := 2) (bin_h (i := m) (j := 2 ^ k) (sub_h hwd hx (sub_dict h e1)) (bin_h (i := 2) (j := k) rfl hr (pow_bin (by lia))) (div_bin (by lia))) rfl ?_
  rw [show binI .Mod ((m : Int).fdiv (2 ^ k)) 2 = some (((m : Int).fdiv (2 ^ k)).fmod 2) from rfl, bit_at, e3 k hk]

noncomputable def numC : X := .comp (.bin .Mult (.bin .Mod (.bin .FloorDiv (.sub (.loc 0) (.sub (.loc 1) (.loc 3))) (.bin .Pow (.cint 2) (.loc 2))) (.cint 2)) (.bin .Pow (.cint 2) (.loc 3))) ["step"] (.bi .range (.cons (.bi .len (.cons (.loc 1) .nil)) .nil)) (.cbool true)
theorem num_loop (n : Nat) {H : St} {d j : Nat} {es : List (Int × V)} (hd : H[d]? = some (.idict es)) {ns : List Int} (hj : H[j]? = some (.list (ns.map .int))) (hl : ns.length ≤ 20) {k R : Nat} {F : Nat → Int → Bool} (hk : k < R) (hR : R ≤ 64) (hw : ∀ x ∈ ns, WD es R F x) :
    ∀ (c p : Nat), p + c = ns.length → mapL (.fix ((List.range ns.length).map fun (i : Nat) => V.int (0 + (i : Int)))) (turn1 (ev prg (callN prg n) (.bin .Mult (.bin .Mod (.bin .FloorDiv (.sub (.loc 0) (.sub (.loc 1) (.loc 3))) (.bin .Pow (.cint 2) (.loc 2))) (.cint 2)) (.bin .Pow (.cint 2) (.loc 3)))) ["step"] (ev prg (callN prg n) (.cbool true)) [some (.ref d), some (.ref j), some (.int k)]) c p H =
      some ((terms ((ns.drop p).map (F k)) p).map .int, H) := by
  intro c
  induction c with
  | zero =>
    intro p hp
    rw [List.drop_eq_nil_of_le (by lia)]; rfl
  | succ c ih =>
    intro p hp
    have hpl : p < ns.length := by lia
    have hget : Src.get H p (.fix ((List.range ns.length).map fun (i : Nat) => V.int (0 + (i : Int)))) = some (.int p) := by
      show ((List.range ns.length).map _)[p]? = _
      rw [List.getElem?_map, List.getElem?_range hpl]
      exact congrArg (fun z => some (V.int z)) (Int.zero_add _)
    rw [List.drop_eq_getElem_cons hpl]
    have hidx : idx? (ns.map V.int) (p : Int) = some (.int ns[p]) := by
      rw [idx_nat (by lia), Int.toNat_natCast, List.getElem?_map, List.getElem?_eq_getElem hpl]; rfl
    have hbit := bit_ev (ρ := [some (.ref d), some (.ref j), some (.int k), some (.int p)]) (x := ev prg (callN prg n) (.sub (.loc 1) (.loc 3))) (r := ev prg (callN prg n) (.loc 2)) (w := ev prg (callN prg n) (.loc 0)) hd (sub_h (x := .ref j) (y := .int p) (by kernel_rfl) (by kernel_rfl) (sub_at hj hidx)) (by kernel_rfl) hk hR (hw ns[p] (List.getElem_mem hpl)) (by kernel_rfl)
    have helt : ev prg (callN prg n) (.bin .Mult (.bin .Mod (.bin .FloorDiv (.sub (.loc 0) (.sub (.loc 1) (.loc 3))) (.bin .Pow (.cint 2) (.loc 2))) (.cint 2)) (.bin .Pow (.cint 2) (.loc 3))) [some (.ref d), some (.ref j), some (.int k), some (.int p)] H = some (.int ((if F k ns[p] = true then 1 else 0) * 2 ^ p), H) :=
      bin_h hbit (bin_h (i := 2) (j := p) (by kernel_rfl) (by kernel_rfl) (pow_bin (by lia))) (binMul (pow_abs (by lia)))
    refine bind_at hget (bind_at (y := ([.int ((if F k ns[p] = true then 1 else 0) * 2 ^ p)], H)) ?_ ?_)
    · refine bind_at (y := [some (.int p)]) (by rfl) (bind_at (y := (true, H)) (by rfl) ?_)
      show Option.map _ (ev prg (callN prg n) _ [some (.ref d), some (.ref j), some (.int k), some (.int p)] H) = _
      rw [helt]; rfl
    · rw [ih (p + 1) (by lia)]; rfl
theorem last_at (H : St) (o : O) : (H ++ [o])[H.length]? = some o := by rw [List.getElem?_append_right (Nat.le_refl _), Nat.sub_self]; rfl
theorem number_ok (n : Nat) {H : St} {d j : Nat} {es : List (Int × V)} (hd : H[d]? = some (.idict es)) {ns : List Int} (hj : H[j]? = some (.list (ns.map .int))) (hl : ns.length ≤ 20) {k R : Nat} {F : Nat → Int → Bool} (hk : k < R) (hR : R ≤ 64) (hw : ∀ x ∈ ns, WD es R F x) :
    ∃ o, callN prg (n + 1) 39 [.ref d, .ref j, .int k] H = some (.int (numB (ns.map (F k))), H ++ [o]) := by
  refine ⟨.list ((terms (ns.map (F k)) 0).map .int), run_eq (fl := .ret (.int (numB (ns.map (F k))))) (b := b__law_number) (ρ₀ := [some (.ref d), some (.ref j), some (.int k)]) (ρ' := [some (.ref d), some (.ref j), some (.int k)]) (by kernel_rfl) (consr_eq (ret_eq ?_))⟩
  have hcomp : ev prg (callN prg n) numC [some (.ref d), some (.ref j), some (.int k)] H = some (.ref H.length, H ++ [.list ((terms (ns.map (F k)) 0).map .int)]) := by
    have hlen : ev prg (callN prg n) (.bi .len (.cons (.loc 1) .nil)) [some (.ref d), some (.ref j), some (.int k)] H = some (.int ns.length, H) :=
      Eq.trans (b := builtin .len [.ref j] H) (by kernel_rfl) (by rw [len_at hj, List.length_map])
    have hrange : ev prg (callN prg n) (.bi .range (.cons (.bi .len (.cons (.loc 1) .nil)) .nil)) [some (.ref d), some (.ref j), some (.int k)] H = some (.rng 0 ns.length 1, H) := by
      show (row (mCons (ev prg (callN prg n) (.bi .len (.cons (.loc 1) .nil))) (mVal (.tup []))) _ _).bind _ = _
      rw [row_one hlen]; rfl
    have hloop := num_loop n hd hj hl hk hR hw ns.length 0 (Nat.zero_add _)
    have hr : rangeL 0 ns.length 1 = (List.range ns.length).map fun (i : Nat) => V.int (0 + (i : Int)) := by
      unfold rangeL
      rw [if_pos rfl, Int.sub_zero, Int.toNat_natCast]
    show (ev prg (callN prg n) (.bi .range (.cons (.bi .len (.cons (.loc 1) .nil)) .nil)) _ _).bind _ = _
    refine bind_at hrange (bind_at (y := .fix (rangeL 0 ns.length 1)) (alt_right rfl (alt_left (bind_at rfl (need_true ?_)))) ?_)
    · show ((_ && _) && _) = true
      rw [decide_eq_true (show (ns.length : Int).natAbs < 2 ^ 20 by lia)]; rfl
    · rw [hr]
      refine bind_at (y := ((terms ((ns.drop 0).map (F k)) 0).map .int, H)) ?_ ?_
      · show mapL _ _ ((List.range ns.length).map _).length 0 H = _
        rw [List.length_map, List.length_range]; exact hloop
      · refine need_true (decide_eq_true ?_)
        have : ∀ (bs : List Bool) (p : Nat), (terms bs p).length = bs.length := by
          intro bs
          induction bs with
          | nil => exact fun _ => rfl
          | cons b bs ih => exact fun p => congrArg (· + 1) (ih _)
        rw [max20, List.length_map, this, List.length_map]
        show (ns.drop 0).length ≤ _
        rw [List.drop_zero]; lia
  show (row (mCons (ev prg (callN prg n) numC) (mVal (.tup []))) _ _).bind _ = _
  rw [row_one hcomp]
  show (asL (H ++ [_]) (.ref H.length)).bind _ = _
  refine bind_at (y := (terms (ns.map (F k)) 0).map .int) ?_ ?_
  · show ((H ++ [_])[H.length]?).bind oL = _
    rw [last_at]; rfl
  · show ((intsOf _).map List.sum).map _ = _
    rw [intsOf_map, Option.map_some, Option.map_some, terms_zero]
end
end Mine

namespace Mine
section
open PySem
set_option autoImplicit false

/-- the scene without nets -/
noncomputable def scP (r R : Nat) (hr : r < R) : Sc := ⟨fun _ => 0, 1, r, R, 1000, fun _ => Nat.zero_lt_one, hr, by lia⟩
/-- what was there stands -/
noncomputable def Tk (tl tl' : List O) : Prop := ∀ (i : Nat) (o : O), tl[i]? = some o → tl'[i]? = some o
theorem Tk.refl (tl : List O) : Tk tl tl := fun _ _ e => e
theorem Tk.trans {a b c : List O} (x : Tk a b) (y : Tk b c) : Tk a c := fun i o e => y i o (x i o e)
theorem Tk.app (tl : List O) (xs : List O) : Tk tl (tl ++ xs) := fun i o e => by rw [List.getElem?_append_left (List.getElem?_eq_some_iff.mp e).1]; exact e

theorem ok_one {st : NS} (I : Inv st) (hc : st.cells.length ≤ 201000) {r R : Nat} (hr : r < R) {tl : List O} {i : Nat} {xs ys : List V} (h : tl[i]? = some (.list ys)) (hs : SRs (scP r R hr) ⟨100000, [xs], st, [i], tl⟩ xs ys) : Ok (scP r R hr) ⟨100000, [xs], st, [i], tl⟩ := by
  refine ⟨I, rfl, fun j j' k e e' => ?_, fun j zs e => ?_, show st.cells.length ≤ 2 * 100000 + 1000 by lia, Nat.le_refl _⟩
  · match j, j', e, e' with
    | 0, 0, _, _ => rfl
  · match j, e with
    | 0, e => cases e; exact ⟨i, ys, rfl, h, hs⟩
theorem ok_none {st : NS} (I : Inv st) (hc : st.cells.length ≤ 201000) {r R : Nat} (hr : r < R) (tl : List O) : Ok (scP r R hr) ⟨100000, [], st, [], tl⟩ :=
  ⟨I, rfl, fun _ _ _ e => (by cases e), fun _ _ e => (by cases e), show st.cells.length ≤ 2 * 100000 + 1000 by lia, Nat.le_refl _⟩
theorem go_st {sc : Sc} {w w' : W} (hc : w.c = 100000) (g : Go w w') (o : Ok sc w') : w'.st = w.st := g.same (by have := o.lim; have := g.cle; lia)
theorem pure_call {sc : Sc} (hm : sc.m = 1) {w : W} (hc : w.c = 100000) (o : Ok sc w) {k n f : Nat} (hk : k + 5 ≤ n) {as bs : List V} (hs : SRs sc w as bs) {x : V × St} (e : callA prg (2 ^ 1 - 1) k f as w.h2 = some x) :
    ∃ w' a y, x = (a, w'.h2) ∧ callN prg n f bs (B w.st w.tl) = some (y, B w.st w'.tl) ∧ Ok sc w' ∧ SR sc w' a y ∧ Go w w' := by
  obtain ⟨w', y, e1, g, o', a, b, rfl, rfl, s⟩ := callA_ok sc k n hk f w as bs o hs x (by rw [hm]; exact e)
  have hst := go_st hc g o'
  refine ⟨w', a, b, rfl, ?_, o', s, g⟩
  have e1 : callN prg n f bs (B w.st w.tl) = some (b, B w'.st w'.tl) := e1
  rw [hst] at e1
  exact e1
theorem pure_ev {sc : Sc} (hm : sc.m = 1) {w : W} (hc : w.c = 100000) (o : Ok sc w) {k n : Nat} (hk : k + 5 ≤ n) {e : X} (he : okX e = true) {ρ2 ρ1 : Rho} (hs : SRho sc w ρ2 ρ1) {x : V × St} (h : ev prg (callA prg (2 ^ 1 - 1) k) e ρ2 w.h2 = some x) :
    ∃ w' a y, x = (a, w'.h2) ∧ ev prg (callN prg n) e ρ1 (B w.st w.tl) = some (y, B w.st w'.tl) ∧ Ok sc w' ∧ SR sc w' a y ∧ Go w w' := by
  have hcf := callA_ok sc k n hk
  rw [hm] at hcf
  obtain ⟨w', y, e1, g, o', a, b, rfl, rfl, s⟩ := ev_ok hcf e he w ρ2 ρ1 o hs x h
  have hst := go_st hc g o'
  refine ⟨w', a, b, rfl, ?_, o', s, g⟩
  have e1 : ev prg (callN prg n) e ρ1 (B w.st w.tl) = some (b, B w'.st w'.tl) := e1
  rw [hst] at e1
  exact e1
end
end Mine

namespace Mine
section
open PySem
set_option autoImplicit false

noncomputable def tableOf : Kd → Int
  | .not => 1 | .and => 8 | .or => 14 | .xor => 6 | .mux => 228
theorem table_ok (n : Nat) (kd : Kd) (H : St) : ∃ o, callN prg (n + 1) 36 [.str kd.str, .none] H = some (.int (tableOf kd), H ++ [o]) := by
  refine ⟨.sdict [("mux", .int 228), ("xnor", .int 9), ("nor", .int 1), ("nand", .int 7), ("xor", .int 6), ("or", .int 14), ("and", .int 8), ("not", .int 1), ("buf", .int 2)], ?_⟩
  have fin : ∀ {s : Str} {i : Int}, (([("mux", .int 228), ("xnor", .int 9), ("nor", .int 1), ("nand", .int 7), ("xor", .int 6), ("or", .int 14), ("and", .int 8), ("not", .int 1), ("buf", .int 2)] : List (Str × V)).lookup s = some (.int i)) →
      subscr (.ref H.length) (.str s) (H ++ [.sdict [("mux", .int 228), ("xnor", .int 9), ("nor", .int 1), ("nand", .int 7), ("xor", .int 6), ("or", .int 14), ("and", .int 8), ("not", .int 1), ("buf", .int 2)]]) = some (.int i) := fun h =>
    alt_right rfl (bind_at rfl (bind_at (last_at H _) (alt_right rfl (alt_right rfl (alt_left (bind_at rfl (bind_at rfl h)))))))
  have c1 : ∀ s : Str, s = "lut" ∨ s = "cell" → decide (kd.str = s) = false := fun s hs => by rcases hs with rfl | rfl <;> cases kd <;> decide
  have hlk : (([("mux", .int 228), ("xnor", .int 9), ("nor", .int 1), ("nand", .int 7), ("xor", .int 6), ("or", .int 14), ("and", .int 8), ("not", .int 1), ("buf", .int 2)] : List (Str × V)).lookup kd.str = some (.int (tableOf kd))) := by cases kd <;> kernel_rfl
  refine run_eq (fl := .ret (.int (tableOf kd))) (b := b__law_table) (ρ₀ := [some (.str kd.str), some .none]) (ρ' := [some (.str kd.str), some .none]) (by kernel_rfl) (cons_eq (ρ1 := [some (.str kd.str), some .none]) (H1 := H) (cond_f (H1 := H) (cmp_h (d := false) (x := .str kd.str) (y := .str "lut") (by kernel_rfl) (by kernel_rfl) (congrArg some (c1 _ (.inl rfl)))) rfl)
    (cons_eq (ρ1 := [some (.str kd.str), some .none]) (H1 := H) (cond_f (H1 := H) (cmp_h (d := false) (x := .str kd.str) (y := .str "cell") (by kernel_rfl) (by kernel_rfl) (congrArg some (c1 _ (.inr rfl)))) rfl)
      (consr_eq (ret_eq (sub_eq (x := .ref H.length) (y := .str kd.str) (H1 := H ++ [.sdict [("mux", .int 228), ("xnor", .int 9), ("nor", .int 1), ("nand", .int 7), ("xor", .int 6), ("or", .int 14), ("and", .int 8), ("not", .int 1), ("buf", .int 2)]]) (by kernel_rfl) (by kernel_rfl) (fin hlk))))))

noncomputable def bools (p : Bool → Bool) : Bool := p false && p true
theorem bools_inv {p : Bool → Bool} (h : bools p = true) (b : Bool) : p b = true := by
  cases b
  · exact (and_inv h).1
  · exact (and_inv h).2
noncomputable def mskIs (r : Option (V × St)) (b : Bool) : Bool := match r with
  | some x => decide (mskOf x.1 = some b)
  | Option.none => false
noncomputable def wordOk (kd : Kd) (bs : List Bool) : Bool := mskIs (callA prg (2 ^ 1 - 1) 2 37 [.int (tableOf kd), .ref 3, .sym .full] (A 100000 [bs.map fun b => V.sym (.msk b)])) (gate kd bs)
theorem word_1 : bools (fun a => wordOk .not [a]) = true := by kernel_rfl
theorem word_2 : bools (fun a => bools fun b => wordOk .and [a, b] && (wordOk .or [a, b] && wordOk .xor [a, b])) = true := by kernel_rfl
theorem word_3 : bools (fun a => bools fun b => bools fun c => wordOk .mux [a, b, c]) = true := by kernel_rfl
theorem word_all {kd : Kd} {ins : List Int} (h : (kd = .mux ∧ ins.length = 3) ∨ (kd = .not ∧ ins.length = 1) ∨ (kd ≠ .mux ∧ ∃ a b, ins = [a, b] ∧ a ≤ b)) (hn : kd = .not → ins.length = 1) (f : Int → Bool) : wordOk kd (ins.map f) = true := by
  rcases h with ⟨rfl, h⟩ | ⟨rfl, h⟩ | ⟨h1, a, b, rfl, _⟩
  · obtain ⟨a, b, c, rfl⟩ := list3 h.symm
    exact bools_inv (bools_inv (bools_inv word_3 (f a)) (f b)) (f c)
  · obtain ⟨a, rfl⟩ := list1 h.symm
    exact bools_inv word_1 (f a)
  · have := bools_inv (bools_inv word_2 (f a)) (f b)
    cases kd
    · exact absurd (show 2 = 1 from hn rfl) (by decide)
    · exact (and_inv this).1
    · exact (and_inv (and_inv this).2).1
    · exact (and_inv (and_inv this).2).2
    · exact absurd rfl h1

/-- one cell's word -/
theorem word_ok {st : NS} (I : Inv st) (hc : st.cells.length ≤ 201000) {tl : List O} {i : Nat} {kd : Kd} {ins : List Int} {ms : List Nat} (hl : ms.length = ins.length) (hi : tl[i]? = some (.list (ms.map fun m : Nat => V.int m))) {R : Nat} (hR : 0 < R) {F : Nat → Int → Bool}
    (hm : ∀ (k m : Nat) (n : Int), ms[k]? = some m → ins[k]? = some n → m < 2 ^ R ∧ ∀ r, r < R → m.testBit r = F r n) (hs : (kd = .mux ∧ ins.length = 3) ∨ (kd = .not ∧ ins.length = 1) ∨ (kd ≠ .mux ∧ ∃ a b, ins = [a, b] ∧ a ≤ b)) (hn : kd = .not → ins.length = 1) (n : Nat) :
    ∃ (m : Nat) (tl' : List O), callN prg (n + 7) 37 [.int (tableOf kd), .ref (i + 11), .int ((2 ^ R - 1 : Nat) : Int)] (B st tl) = some (.int m, B st tl') ∧ (∀ k o, k ≠ i → tl[k]? = some o → tl'[k]? = some o) ∧ m < 2 ^ R ∧ ∀ r, r < R → m.testBit r = gate kd (ins.map (F r)) := by
  have key : ∀ r, r < R → ∃ (m : Nat) (tl' : List O), callN prg (n + 7) 37 [.int (tableOf kd), .ref (i + 11), .int ((2 ^ R - 1 : Nat) : Int)] (B st tl) = some (.int m, B st tl') ∧ (∀ k o, k ≠ i → tl[k]? = some o → tl'[k]? = some o) ∧ m < 2 ^ R ∧ m.testBit r = gate kd (ins.map (F r)) := by
    intro r hr
    have hS : SRs (scP r R hr) ⟨100000, [(ins.map (F r)).map fun b => V.sym (.msk b)], st, [i], tl⟩ ((ins.map (F r)).map fun b => V.sym (.msk b)) (ms.map fun m : Nat => V.int m) := by
      refine ⟨by simp [hl], fun k x y e1 e2 => ?_⟩
      rw [List.getElem?_map, List.getElem?_map] at e1
      rw [List.getElem?_map] at e2
      obtain ⟨b, e3, rfl⟩ := map_inv e1
      obtain ⟨z, e4, rfl⟩ := map_inv e3
      obtain ⟨m, e5, rfl⟩ := map_inv e2
      have := hm k m z e5 e4
      exact .msk _ m this.1 (this.2 r hr)
    have o := ok_one I hc hr hi hS
    have hw := word_all hs hn (F r)
    unfold wordOk mskIs at hw
    cases he : callA prg (2 ^ 1 - 1) 2 37 [.int (tableOf kd), .ref 3, .sym .full] (A 100000 [(ins.map (F r)).map fun b => V.sym (.msk b)]) with
    | none => rw [he] at hw; cases hw
    | some x =>
      rw [he] at hw
      obtain ⟨w', a, y, rfl, e1, _, s, g⟩ := pure_call (sc := scP r R hr) rfl rfl o (n := n + 7) (by lia) (f := 37) (bs := [.int (tableOf kd), .ref (i + 11), .int ((2 ^ R - 1 : Nat) : Int)]) (((SRs.one .full).cons (.ref 0 i rfl)).cons (.int _)) he
      have := mskOf_inv (of_decide_eq_true hw)
      have this : a = _ := this
      subst this
      obtain ⟨m, rfl, h1, h2⟩ := s.msk_inv
      refine ⟨m, w'.tl, e1, fun k ob hk e => (g.rest k ob (fun j => ?_) e).1, h1, h2⟩
      match j with
      | 0 => exact fun e => hk (Option.some.inj e).symm
      | j + 1 => exact fun e => by cases e
  obtain ⟨m, tl', e, hrest, h1, _⟩ := key 0 hR
  refine ⟨m, tl', e, hrest, h1, fun r hr => ?_⟩
  obtain ⟨m', _, e', _, _, h2⟩ := key r hr
  rw [e] at e'
  injection e' with e'
  injection e' with e1 e2
  injection e1 with e1
  rw [Int.ofNat.inj e1]; exact h2
end
end Mine

namespace Mine
section
open PySem
set_option autoImplicit false

noncomputable def maskOf (es : List (Int × V)) (n : Int) : Nat := match es.lookup n with
  | some (.int i) => i.toNat
  | _ => 0
theorem WD.mask {es : List (Int × V)} {R : Nat} {F : Nat → Int → Bool} {n : Int} (h : WD es R F n) : es.lookup n = some (.int (maskOf es n)) ∧ maskOf es n < 2 ^ R ∧ ∀ r, r < R → (maskOf es n).testBit r = F r n := by
  obtain ⟨m, e1, e2, e3⟩ := h
  have : maskOf es n = m := by unfold maskOf; rw [e1]; exact Int.toNat_natCast m
  rw [this]; exact ⟨e1, e2, e3⟩
theorem WD.put {es : List (Int × V)} {R : Nat} {F : Nat → Int → Bool} {n out : Int} {v : V} (h : WD es R F n) (hn : n ≠ out) : WD ((out, v) :: es) R F n := by
  obtain ⟨m, e1, e2⟩ := h
  exact ⟨m, by rw [lookup_cons', if_neg hn]; exact e1, e2⟩
theorem WD.new {es : List (Int × V)} {R : Nat} {F : Nat → Int → Bool} {out : Int} {m : Nat} (h1 : m < 2 ^ R) (h2 : ∀ r, r < R → m.testBit r = F r out) : WD ((out, .int m) :: es) R F out :=
  ⟨m, by rw [lookup_cons', if_pos rfl], h1, h2⟩

theorem masks_loop (n : Nat) {H : St} {d : Nat} {es : List (Int × V)} (hd : H[d]? = some (.idict es)) {R : Nat} {F : Nat → Int → Bool} {ins : List Int} (hw : ∀ x ∈ ins, WD es R F x) {a0 a1 a2 a4 a5 a6 a7 a8 : Option V} :
    ∀ (c p : Nat), p + c = ins.length → mapL (.fix (ins.map .int)) (turn1 (ev prg (callN prg n) (.sub (.loc 3) (.loc 9))) ["one"] (ev prg (callN prg n) (.cbool true)) [a0, a1, a2, some (.ref d), a4, a5, a6, a7, a8]) c p H = some (((ins.drop p).map fun x => V.int (maskOf es x)), H) := by
  intro c
  induction c with
  | zero =>
    intro p hp
    rw [List.drop_eq_nil_of_le (by lia)]; rfl
  | succ c ih =>
    intro p hp
    have hpl : p < ins.length := by lia
    rw [List.drop_eq_getElem_cons hpl]
    have hget : Src.get H p (.fix (ins.map .int)) = some (.int ins[p]) := by
      show (ins.map V.int)[p]? = _
      rw [List.getElem?_map, List.getElem?_eq_getElem hpl]; rfl
    refine bind_at hget (bind_at (y := ([.int (maskOf es ins[p])], H)) ?_ ?_)
    · refine bind_at (y := [some (.int ins[p])]) (by rfl) (bind_at (y := (true, H)) (by rfl) ?_)
      show Option.map _ (ev prg (callN prg n) (.sub (.loc 3) (.loc 9)) [a0, a1, a2, some (.ref d), a4, a5, a6, a7, a8, some (.int ins[p])] H) = _
      rw [show ev prg (callN prg n) (.sub (.loc 3) (.loc 9)) [a0, a1, a2, some (.ref d), a4, a5, a6, a7, a8, some (.int ins[p])] H = some (.int (maskOf es ins[p]), H) from
        sub_h (x := .ref d) (y := .int ins[p]) (by kernel_rfl) (by kernel_rfl) (sub_dict hd (hw ins[p] (List.getElem_mem hpl)).mask.1)]
      rfl
    · rw [ih (p + 1) (by lia)]; rfl

theorem comp_eq {elt iter cond : M} {tgt : List Str} {ρ : Rho} {H H1 H2 : St} {x : V} {src : Src} {xs : List V} {z : Option (V × St)} (h1 : iter ρ H = some (x, H1)) (h2 : source x H1 = some src) (h3 : mapL src (turn1 elt tgt cond ρ) src.len 0 H1 = some (xs, H2)) (h4 : newL xs H2 = z) : mComp elt tgt iter cond ρ H = z := by
  unfold mComp; rw [h1, Option.bind_some, h2, Option.bind_some, h3]; exact h4
theorem setDict {st : NS} {tl : List O} {wd : Nat} {es : List (Int × V)} (h : tl[wd]? = some (.idict es)) (hl : es.length < maxLen) (n : Int) (v : V) : setAt (.ref (wd + 11)) (.int n) v (B st tl) = some (B st (tl.set wd (.idict ((n, v) :: es)))) :=
  bind_at rfl (bind_at (show (B st tl)[wd + 11]? = _ from h) (alt_right rfl (alt_left (bind_at rfl (bind_at rfl (need_true (decide_eq_true hl)))))))

noncomputable def cellB : S := bodyFor (nthS 4 b__law_words)
/-- but for one place -/
noncomputable def Tx (wd : Nat) (tl tl' : List O) : Prop := ∀ (k : Nat) (o : O), k ≠ wd → tl[k]? = some o → tl'[k]? = some o
theorem Tx.trans {wd : Nat} {a b c : List O} (x : Tx wd a b) (y : Tx wd b c) : Tx wd a c := fun k o h e => y k o h (x k o h e)

theorem cell_step (n : Nat) {st : NS} (I : Inv st) (hc : st.cells.length ≤ 201000) {tl : List O} {wd : Nat} {es : List (Int × V)} (hd : tl[wd]? = some (.idict es)) (hel : es.length < maxLen) {R : Nat} (hR : 0 < R) {F : Nat → Int → Bool} {kd : Kd} {ins : List Int} (hw : ∀ x ∈ ins, WD es R F x)
    (hs : (kd = .mux ∧ ins.length = 3) ∨ (kd = .not ∧ ins.length = 1) ∨ (kd ≠ .mux ∧ ∃ a b, ins = [a, b] ∧ a ≤ b)) (hn : kd = .not → ins.length = 1) {a0 a1 a4 : Option V} {out : Int} :
    ∃ (m : Nat) (tl' : List O), ex prg (callN prg (n + 7)) cellB [a0, a1, some (.int ((2 ^ R - 1 : Nat) : Int)), some (.ref (wd + 11)), a4, some (.str kd.str), some (.int out), some (.tup (ins.map .int)), some .none] (B st tl) =
      some (.next, [a0, a1, some (.int ((2 ^ R - 1 : Nat) : Int)), some (.ref (wd + 11)), a4, some (.str kd.str), some (.int out), some (.tup (ins.map .int)), some .none], B st tl') ∧
      tl'[wd]? = some (.idict ((out, .int m) :: es)) ∧ Tx wd tl tl' ∧ m < 2 ^ R ∧ ∀ r, r < R → m.testBit r = gate kd (ins.map (F r)) := by
  obtain ⟨o1, e1⟩ := table_ok (n + 6) kd (B st tl)
  have e1 : callN prg (n + 7) 36 [.str kd.str, .none] (B st tl) = some (.int (tableOf kd), B st (tl ++ [o1])) := e1
  have hil : ins.length ≤ 3 := by rcases hs with ⟨_, h⟩ | ⟨_, h⟩ | ⟨_, a, b, rfl, _⟩ <;> first | lia | exact (by decide : 2 ≤ 3)
  have hwl : wd < tl.length := (List.getElem?_eq_some_iff.mp hd).1
  have hd1 : (tl ++ [o1])[wd]? = some (.idict es) := Tk.app tl [o1] wd _ hd
  have hms := masks_loop (n + 7) (H := B st (tl ++ [o1])) (d := wd + 11) hd1 hw (a0 := a0) (a1 := a1) (a2 := some (.int ((2 ^ R - 1 : Nat) : Int))) (a4 := a4) (a5 := some (.str kd.str)) (a6 := some (.int out)) (a7 := some (.tup (ins.map .int))) (a8 := some .none) ins.length 0 (Nat.zero_add _)
  have hcomp : ev prg (callN prg (n + 7)) (.comp (.sub (.loc 3) (.loc 9)) ["one"] (.loc 7) (.cbool true)) [a0, a1, some (.int ((2 ^ R - 1 : Nat) : Int)), some (.ref (wd + 11)), a4, some (.str kd.str), some (.int out), some (.tup (ins.map .int)), some .none] (B st (tl ++ [o1])) =
      some (.ref ((tl ++ [o1]).length + 11), B st ((tl ++ [o1]) ++ [.list ((ins.map (maskOf es)).map fun m : Nat => V.int m)])) := by
    refine comp_eq (x := .tup (ins.map .int)) (H1 := B st (tl ++ [o1])) (src := .fix (ins.map .int)) (xs := (ins.drop 0).map fun x => V.int (maskOf es x)) (H2 := B st (tl ++ [o1])) (by kernel_rfl) (alt_right rfl (alt_right rfl rfl)) ?_ ?_
    · show mapL _ _ (ins.map V.int).length 0 _ = _
      rw [List.length_map]; exact hms
    · rw [List.drop_zero, List.map_map]
      exact need_true (decide_eq_true (by rw [max20, List.length_map]; lia))
  have hi : ((tl ++ [o1]) ++ [O.list ((ins.map (maskOf es)).map fun m : Nat => V.int m)])[(tl ++ [o1]).length]? = some (.list ((ins.map (maskOf es)).map fun m : Nat => V.int m)) := last_at _ _
  obtain ⟨m, tl3, e3, k3, h1, h2⟩ := word_ok I hc (ins := ins) (ms := ins.map (maskOf es)) (List.length_map _) hi hR (F := F) (fun k m x q1 q2 => by
    rw [List.getElem?_map, q2] at q1
    cases q1
    exact (hw x (List.mem_of_getElem? q2)).mask.2) hs hn n
  have hd3 : tl3[wd]? = some (.idict es) := k3 wd _ (by rw [List.length_append]; show wd ≠ _ + 1; lia) (Tk.app _ _ wd _ hd1)
  refine ⟨m, tl3.set wd (.idict ((out, .int m) :: es)), cons_eq (subw_eq (v := .int m) (x := .ref (wd + 11)) (k := .int out) (H1 := B st tl3) ((call_eq (row_cons (x := .int (tableOf kd)) (Eq.trans (by kernel_rfl) e1) (row_cons hcomp (row_one (x := .int ((2 ^ R - 1 : Nat) : Int)) (by kernel_rfl))))).trans e3) (by kernel_rfl) (by kernel_rfl) (setDict hd3 hel out _)) rfl,
    List.getElem?_set_self (List.getElem?_eq_some_iff.mp hd3).1, fun k ob hk e => ?_, h1, h2⟩
  rw [List.getElem?_set_ne (fun h => hk h.symm)]
  have hkl := (List.getElem?_eq_some_iff.mp e).1
  exact k3 k ob (by rw [List.length_append]; show k ≠ _ + 1; lia) (Tk.app _ _ k _ (Tk.app _ _ k _ e))
end
end Mine

namespace Mine
section
open PySem
set_option autoImplicit false

noncomputable def inpOf : List Int → Nat → Int → Bool
  | [], _, _ => false
  | k :: ks, r, n => if n = k then r.testBit 0 else inpOf ks (r / 2) n
theorem inpOf_at : ∀ {ks : List Int} {r j : Nat} {n : Int}, ks.Nodup → ks[j]? = some n → inpOf ks r n = r.testBit j
  | [], _, _, _, _, e => by cases e
  | k :: ks, r, 0, n, _, e => by cases e; exact if_pos rfl
  | k :: ks, r, j + 1, n, h, e => by
    have hm : n ∈ ks := List.mem_of_getElem? e
    have hne : ¬ n = k := fun h' => (List.nodup_cons.mp h).1 (h' ▸ hm)
    show (if n = k then _ else _) = _
    rw [if_neg hne, inpOf_at (List.nodup_cons.mp h).2 e, ← Nat.testBit_succ]
noncomputable def FN (st : NS) (r : Nat) (n : Int) : Bool := nval st.cells (inpOf st.keys r) n

/-- the table of variable j among R rows, as a check -/
noncomputable def tabOk2 (K : Nat) : Bool := (List.range K).all fun j => decide (tabV (2 ^ K) j < 2 ^ (2 ^ K)) && (List.range (2 ^ K)).all fun a => (tabV (2 ^ K) j).testBit a == a.testBit j
theorem tabOk2_all : (tabOk2 2 && (tabOk2 4 && tabOk2 6)) = true := by kernel_rfl
theorem tab_row {w : Nat} (hw : 1 ≤ w ∧ w ≤ 3) {j : Nat} (hj : j < 2 * w) : tabV (2 ^ (2 * w)) j < 2 ^ (2 ^ (2 * w)) ∧ ∀ a, a < 2 ^ (2 * w) → (tabV (2 ^ (2 * w)) j).testBit a = a.testBit j := by
  have h : tabOk2 (2 * w) = true := by
    rcases (show w = 1 ∨ w = 2 ∨ w = 3 by lia) with rfl | rfl | rfl
    · exact (and_inv tabOk2_all).1
    · exact (and_inv (and_inv tabOk2_all).2).1
    · exact (and_inv (and_inv tabOk2_all).2).2
  have h1 := List.all_eq_true.mp h j (List.mem_range.mpr hj)
  obtain ⟨h2, h3⟩ := and_inv h1
  exact ⟨of_decide_eq_true h2, fun a ha => eq_of_beq (List.all_eq_true.mp h3 a (List.mem_range.mpr ha))⟩

noncomputable def sumE : X := .bi .sum (.cons (.comp (.bin .Pow (.cint 2) (.loc 9)) ["row"] (.bi .range (.cons (.bin .Pow (.cint 2) (.bi .len (.cons (.loc 1) .nil))) .nil)) (.cmp .Eq (.bin .Mod (.bin .FloorDiv (.loc 9) (.bin .Pow (.cint 2) (.loc 4))) (.cint 2)) (.cint 1))) .nil)
noncomputable def sumRun (ks : List Int) (t : Nat) : Option (V × St) := ev prg (callA prg (2 ^ 1 - 1) 1) sumE [Option.none, some (.ref 3), Option.none, Option.none, some (.int t), Option.none, Option.none, Option.none, Option.none] (A 100000 [ks.map .int])
noncomputable def sumIs (ks : List Int) (t : Nat) (m : Nat) : Bool := match (sumRun ks t).bind fun x => asI x.1 with
  | some i => decide (i = m)
  | Option.none => false
noncomputable def sumAll (K : Nat) (f : Nat → Bool) : Bool := (List.range K).all f
theorem sum_2 (a b : Int) : (sumAll 2 fun t => sumIs [a, b] t (tabV 4 t)) = true := by kernel_rfl
theorem sum_4 (a b c d : Int) : (sumAll 4 fun t => sumIs [a, b, c, d] t (tabV 16 t)) = true := by kernel_rfl
theorem sum_6 (a b c d e f : Int) : (sumAll 6 fun t => sumIs [a, b, c, d, e, f] t (tabV 64 t)) = true := by kernel_rfl
theorem sumIs_inv {ks : List Int} {t m : Nat} (h : sumIs ks t m = true) : ∃ x, sumRun ks t = some x ∧ x.1 = .int m := by
  unfold sumIs at h
  cases e : (sumRun ks t).bind fun x => asI x.1 with
  | none => rw [e] at h; cases h
  | some i =>
    rw [e] at h
    obtain ⟨x, e1, e2⟩ := bind_inv e
    have : i = (m : Int) := of_decide_eq_true h
    subst this
    exact ⟨x, e1, asI_inv e2⟩
theorem sum_run {w : Nat} (hw : 1 ≤ w ∧ w ≤ 3) {ks : List Int} (hk : ks.length = 2 * w) {t : Nat} (ht : t < 2 * w) : ∃ x, sumRun ks t = some x ∧ x.1 = .int (tabV (2 ^ (2 * w)) t) := by
  refine sumIs_inv ?_
  rcases (show w = 1 ∨ w = 2 ∨ w = 3 by lia) with rfl | rfl | rfl
  · match ks, hk with
    | [a, b], _ => exact List.all_eq_true.mp (sum_2 a b) t (List.mem_range.mpr ht)
  · match ks, hk with
    | [a, b, c, d], _ => exact List.all_eq_true.mp (sum_4 a b c d) t (List.mem_range.mpr ht)
  · match ks, hk with
    | [a, b, c, d, e, f], _ => exact List.all_eq_true.mp (sum_6 a b c d e f) t (List.mem_range.mpr ht)
theorem keep_run {w : Nat} (hw : 1 ≤ w ∧ w ≤ 3) {ks : List Int} (hk : ks.length = 2 * w) {t : Nat} (ht : t < 2 * w) : (sumRun ks t).bind (fun x => listAt x.2 3) = some (ks.map .int) := by
  rcases (show w = 1 ∨ w = 2 ∨ w = 3 by lia) with rfl | rfl | rfl
  · match ks, hk with
    | [a, b], _ => rcases (show t = 0 ∨ t = 1 by lia) with rfl | rfl <;> kernel_rfl
  · match ks, hk with
    | [a, b, c, d], _ => rcases (show t = 0 ∨ t = 1 ∨ t = 2 ∨ t = 3 by lia) with rfl | rfl | rfl | rfl <;> kernel_rfl
  · match ks, hk with
    | [a, b, c, d, e, f], _ => rcases (show t = 0 ∨ t = 1 ∨ t = 2 ∨ t = 3 ∨ t = 4 ∨ t = 5 by lia) with rfl | rfl | rfl | rfl | rfl | rfl <;> kernel_rfl
theorem vals_eq {sc : Sc} {w : W} : ∀ {ks : List Int} {ys : List V}, SRs sc w (ks.map .int) ys → ys = ks.map .int
  | [], ys, h => h.nil_inv
  | k :: ks, ys, h => by
    obtain ⟨y, ys, rfl, h1, h2⟩ := SRs.uncons h
    rw [h1.int_inv, vals_eq h2]; rfl
theorem sumE_ok : okX sumE = true := by kernel_rfl
/-- the sum in the law's own heap -/
theorem sum_ev {w : Nat} (hw : 1 ≤ w ∧ w ≤ 3) {st : NS} (I : Inv st) (hc : st.cells.length ≤ 201000) {tl : List O} {k0 : Nat} {ks : List Int} (hk : ks.length = 2 * w) (hi : tl[k0]? = some (.list (ks.map .int))) {t : Nat} (ht : t < 2 * w) {a0 a2 a3 a5 a6 a7 a8 : Option V} (n : Nat) :
    ∃ tl', ev prg (callN prg (n + 6)) sumE [a0, some (.ref (k0 + 11)), a2, a3, some (.int t), a5, a6, a7, a8] (B st tl) = some (.int (tabV (2 ^ (2 * w)) t), B st tl') ∧ Tk tl tl' := by
  obtain ⟨x, e, e2⟩ := sum_run hw hk ht
  have hS : SRs (scP 0 1 Nat.zero_lt_one) ⟨100000, [ks.map .int], st, [k0], tl⟩ (ks.map .int) (ks.map .int) := .ofInts (fun j => j) ks
  have o := ok_one I hc Nat.zero_lt_one hi hS
  have hρ : SRho (scP 0 1 Nat.zero_lt_one) ⟨100000, [ks.map .int], st, [k0], tl⟩ [Option.none, some (.ref 3), Option.none, Option.none, some (.int t), Option.none, Option.none, Option.none, Option.none] [a0, some (.ref (k0 + 11)), a2, a3, some (.int t), a5, a6, a7, a8] :=
    .skip (.some (.ref 0 k0 rfl) (.skip (.skip (.some (.int _) (.blank 4 rfl)))))
  obtain ⟨w', a, y, rfl, e3, o', s, g⟩ := pure_ev (sc := scP 0 1 Nat.zero_lt_one) rfl rfl o (k := 1) (n := n + 6) (by lia) sumE_ok hρ e
  have e2 : a = _ := e2
  subst e2
  rw [s.int_inv] at e3
  have hkeep := keep_run hw hk ht
  rw [show sumRun ks t = _ from e, Option.bind_some] at hkeep
  obtain ⟨ys, f1, f2⟩ := listAt_ok o' (g.io 0 k0 rfl) hkeep
  have f3 : (w'.tl[k0]?).bind oL = some ys := f1
  obtain ⟨ob, f4, f5⟩ := bind_inv f3
  have := oL_inv f5; subst this
  rw [vals_eq f2] at f4
  refine ⟨w'.tl, e3, fun k ob e4 => ?_⟩
  by_cases hk0 : k = k0
  · subst hk0
    rw [hi] at e4; cases e4; exact f4
  · refine (g.rest k ob (fun j => ?_) e4).1
    match j with
    | 0 => exact fun e => hk0 (Option.some.inj e).symm
    | j + 1 => exact fun e => by cases e
end
end Mine

namespace Mine
section
open PySem
set_option autoImplicit false

theorem for_step {src : Src} {f : V → Rho → St → Option (Fl × Rho × St)} {k i : Nat} {ρ ρ1 : Rho} {H H1 : St} {v : V} {x : Option (Fl × Rho × St)} (h1 : src.get H i = some v) (h2 : f v ρ H = some (.next, ρ1, H1)) (h3 : forL src f k (i + 1) ρ1 H1 = x) : forL src f (k + 1) i ρ H = x :=
  bind_at h1 (bind_at h2 h3)
theorem for_eq {is : List Nat} {many : Bool} {it : M} {b : Mx} {ρ : Rho} {H H1 : St} {v : V} {src : Src} {x : Option (Fl × Rho × St)} (h1 : it ρ H = some (v, H1)) (h2 : source v H1 = some src) (h3 : forL src (turnF is many b) src.len 0 ρ H1 = x) : sFor is many it b ρ H = x := by
  unfold sFor; rw [h1, Option.bind_some, h2]; exact h3
theorem range_nat (K : Nat) : rangeL 0 K 1 = (List.range K).map fun (i : Nat) => V.int (0 + (i : Int)) := by
  unfold rangeL
  rw [if_pos rfl, Int.sub_zero, Int.toNat_natCast]
theorem range_get {K p : Nat} (hp : p < K) (H : St) : Src.get H p (.fix (rangeL 0 K 1)) = some (.int p) := by
  show (rangeL 0 K 1)[p]? = _
  rw [range_nat, List.getElem?_map, List.getElem?_range hp]
  exact congrArg (fun z => some (V.int z)) (Int.zero_add _)
theorem range_src {K : Nat} (hK : K < 2 ^ 20) {H : St} : source (.rng 0 K 1) H = some (.fix (rangeL 0 K 1)) := by
  refine alt_right rfl (alt_left (bind_at rfl (need_true ?_)))
  show ((_ && _) && _) = true
  rw [decide_eq_true (show (K : Int).natAbs < 2 ^ 20 by lia)]; rfl
theorem range_len (K : Nat) : (Src.fix (rangeL 0 K 1)).len = K := by
  show (rangeL 0 K 1).length = K
  rw [range_nat, List.length_map, List.length_range]

noncomputable def sumB : S := bodyFor (nthS 3 b__law_words)
theorem sums_loop {w : Nat} (hw : 1 ≤ w ∧ w ≤ 3) (n : Nat) {st : NS} (I : Inv st) (hc : st.cells.length ≤ 201000) {ks : List Int} (hks : st.keys = ks) (hnod : ks.Nodup) (hk : ks.length = 2 * w) {k0 wd : Nat} (hne : k0 ≠ wd) {full : Option V} {a5 a6 a7 a8 : Option V} :
    ∀ (c p : Nat) (tl : List O) (es : List (Int × V)) (a4 : Option V), p + c = 2 * w → tl[k0]? = some (.list (ks.map .int)) → tl[wd]? = some (.idict es) → es.length = 2 + p → WD es (2 ^ (2 * w)) (FN st) 0 → WD es (2 ^ (2 * w)) (FN st) 1 → (∀ (j : Nat) (x : Int), j < p → ks[j]? = some x → WD es (2 ^ (2 * w)) (FN st) x) →
    ∃ (tl' : List O) (es' : List (Int × V)) (a4' : Option V), forL (.fix (rangeL 0 (2 * w : Nat) 1)) (turnF [4] false (ex prg (callN prg (n + 6)) sumB)) c p [some (.ref 2), some (.ref (k0 + 11)), full, some (.ref (wd + 11)), a4, a5, a6, a7, a8] (B st tl) =
      some (.next, [some (.ref 2), some (.ref (k0 + 11)), full, some (.ref (wd + 11)), a4', a5, a6, a7, a8], B st tl') ∧ Tx wd tl tl' ∧ tl'[wd]? = some (.idict es') ∧ es'.length = 2 + 2 * w ∧ WD es' (2 ^ (2 * w)) (FN st) 0 ∧ WD es' (2 ^ (2 * w)) (FN st) 1 ∧ ∀ x ∈ ks, WD es' (2 ^ (2 * w)) (FN st) x := by
  intro c
  induction c with
  | zero =>
    intro p tl es a4 hp hk0 hd hl w0 w1 hj
    refine ⟨tl, es, a4, need_true rfl, fun _ _ _ e => e, hd, by lia, w0, w1, fun x hx => ?_⟩
    obtain ⟨j, hjl, e⟩ := List.getElem_of_mem hx
    exact hj j x (by lia) (by rw [List.getElem?_eq_getElem hjl, e])
  | succ c ih =>
    intro p tl es a4 hp hk0 hd hl w0 w1 hj
    obtain ⟨x, q1, q2⟩ := int_at (ns := ks) (k := p) (by lia)
    have hxk := I.keys x (hks ▸ List.mem_of_getElem? q1)
    obtain ⟨tl1, e1, k1⟩ := sum_ev hw I hc hk hk0 (t := p) (by lia) n (a0 := some (.ref 2)) (a2 := full) (a3 := some (.ref (wd + 11))) (a5 := a5) (a6 := a6) (a7 := a7) (a8 := a8)
    have hkey : ev prg (callN prg (n + 6)) (.sub (.loc 1) (.loc 4)) [some (.ref 2), some (.ref (k0 + 11)), full, some (.ref (wd + 11)), some (.int p), a5, a6, a7, a8] (B st tl1) = some (.int x, B st tl1) :=
      sub_h (x := .ref (k0 + 11)) (y := .int p) (by kernel_rfl) (by kernel_rfl) (sub_at (show (B st tl1)[k0 + 11]? = _ from k1 _ _ hk0) (by rw [idx_nat (by lia), Int.toNat_natCast]; exact q2))
    have htab := tab_row hw (j := p) (by lia)
    have hFx : ∀ r, r < 2 ^ (2 * w) → (tabV (2 ^ (2 * w)) p).testBit r = FN st r x := fun r hr => by
      rw [htab.2 r hr]
      have h1 := nval_app (inpOf st.keys r) x [] st.cells fun d hd e => (I.outs d hd).2.2.1 (by rw [e, hks]; exact List.mem_of_getElem? q1)
      have h1 : FN st r x = base (inpOf st.keys r) x := h1
      rw [h1]
      unfold base
      rw [if_neg (by lia), if_neg (by lia), hks, inpOf_at hnod q1]
    obtain ⟨tl2, es2, a4', e2, t2, r2⟩ := ih (p + 1) (tl1.set wd (.idict ((x, .int (tabV (2 ^ (2 * w)) p)) :: es))) ((x, .int (tabV (2 ^ (2 * w)) p)) :: es) (some (.int p)) (by lia) (by rw [List.getElem?_set_ne (Ne.symm hne)]; exact k1 _ _ hk0) (List.getElem?_set_self (List.getElem?_eq_some_iff.mp (k1 _ _ hd)).1)
      (by rw [List.length_cons]; lia) (w0.put (by lia)) (w1.put (by lia)) (fun j y hjp hy => by
        by_cases hjx : j = p
        · subst hjx
          rw [q1] at hy; cases hy
          exact .new htab.1 hFx
        · refine (hj j y (by lia) hy).put fun e => ?_
          subst e
          obtain ⟨h1, h2⟩ := List.getElem?_eq_some_iff.mp q1
          obtain ⟨h3, h4⟩ := List.getElem?_eq_some_iff.mp hy
          exact List.pairwise_iff_getElem.mp hnod j p h3 h1 (by lia) (h4.trans h2.symm))
    refine ⟨tl2, es2, a4', for_step (range_get (by lia) _) (ρ1 := [some (.ref 2), some (.ref (k0 + 11)), full, some (.ref (wd + 11)), some (.int p), a5, a6, a7, a8]) (H1 := B st (tl1.set wd (.idict ((x, .int (tabV (2 ^ (2 * w)) p)) :: es)))) ?_ e2, ?_, r2⟩
    · exact cons_eq (subw_eq (H1 := B st tl1) (v := .int (tabV (2 ^ (2 * w)) p)) (x := .ref (wd + 11)) (k := .int x) e1 (by kernel_rfl) hkey (setDict (k1 _ _ hd) (by rw [max20]; lia) _ _)) rfl
    · refine Tx.trans (fun k o hkw e => ?_) t2
      rw [List.getElem?_set_ne (Ne.symm hkw)]
      exact k1 k o e
end
end Mine

namespace Mine
section
open PySem
set_option autoImplicit false

theorem lookup_dom {st : NS} (I : Inv st) {es : List (Int × V)} {R p : Nat} (w0 : WD es R (FN st) 0) (w1 : WD es R (FN st) 1) (wk : ∀ x ∈ st.keys, WD es R (FN st) x) (wc : ∀ (j : Nat) (c : Cell), j < p → st.cells[j]? = some c → WD es R (FN st) c.out)
    {c : Cell} (hp : st.cells[p]? = some c) : ∀ x ∈ c.ins, WD es R (FN st) x := by
  intro x hx
  have ho := I.outs c (List.mem_of_getElem? hp)
  have hxo := ho.2.2.2 x hx
  rcases (show x = 0 ∨ x = 1 ∨ 2 ≤ x by lia) with h | h | h
  · rw [h]; exact w0
  · rw [h]; exact w1
  · rcases I.all x h (by lia) with h | ⟨d, hd, e⟩
    · exact wk x h
    · subst e
      obtain ⟨j, hj, e⟩ := List.getElem_of_mem hd
      obtain ⟨hpl, e2⟩ := List.getElem?_eq_some_iff.mp hp
      refine wc j d (Nat.lt_of_not_le fun hjp => ?_) (by rw [List.getElem?_eq_getElem hj, e])
      rcases Nat.lt_or_eq_of_le hjp with h | h
      · have := List.pairwise_iff_getElem.mp I.inc p j hpl hj h
        rw [e, e2] at this; lia
      · subst h
        have : d = c := e.symm.trans e2
        subst this; lia

theorem cells_loop (n : Nat) {st : NS} (I : Inv st) (hc : st.cells.length ≤ 201000) {R : Nat} (hR : 0 < R) {wd : Nat} {a0 a1 : Option V} :
    ∀ (c p : Nat) (tl : List O) (es : List (Int × V)) (a4 a5 a6 a7 a8 : Option V), p + c = st.cells.length → tl[wd]? = some (.idict es) → es.length ≤ 10 + p → WD es R (FN st) 0 → WD es R (FN st) 1 → (∀ x ∈ st.keys, WD es R (FN st) x) → (∀ (j : Nat) (c : Cell), j < p → st.cells[j]? = some c → WD es R (FN st) c.out) →
    ∃ (tl' : List O) (es' : List (Int × V)) (b5 b6 b7 b8 : Option V), forL (.lst 6 st.cells.length) (turnF [5, 6, 7, 8] true (ex prg (callN prg (n + 7)) cellB)) c p [a0, a1, some (.int ((2 ^ R - 1 : Nat) : Int)), some (.ref (wd + 11)), a4, a5, a6, a7, a8] (B st tl) =
      some (.next, [a0, a1, some (.int ((2 ^ R - 1 : Nat) : Int)), some (.ref (wd + 11)), a4, b5, b6, b7, b8], B st tl') ∧ Tx wd tl tl' ∧ tl'[wd]? = some (.idict es') ∧ ∀ x, Net st x → WD es' R (FN st) x := by
  intro c
  induction c with
  | zero =>
    intro p tl es a4 a5 a6 a7 a8 hp hd hl w0 w1 wk wc
    refine ⟨tl, es, a5, a6, a7, a8, need_true ?_, fun _ _ _ e => e, hd, fun x hx => ?_⟩
    · have : Src.ok (B st tl) (.lst 6 st.cells.length) = decide ((st.cells.map Cell.v).length = st.cells.length) := rfl
      rw [this]; exact decide_eq_true (List.length_map _)
    · rcases (show x = 0 ∨ x = 1 ∨ 2 ≤ x by have := hx.1; lia) with h | h | h
      · rw [h]; exact w0
      · rw [h]; exact w1
      · rcases I.all x h hx.2 with h | ⟨d, hd, e⟩
        · exact wk x h
        · subst e
          obtain ⟨j, hj, e⟩ := List.getElem_of_mem hd
          exact wc j d (by lia) (by rw [List.getElem?_eq_getElem hj, e])
  | succ c ih =>
    intro p tl es a4 a5 a6 a7 a8 hp hd hl w0 w1 wk wc
    have hpl : p < st.cells.length := by lia
    have hcp : st.cells[p]? = some st.cells[p] := List.getElem?_eq_getElem hpl
    generalize st.cells[p] = cl at hcp
    have hmem := List.mem_of_getElem? hcp
    have hsh := I.shape cl hmem
    have hnot : cl.kd = .not → cl.ins.length = 1 := fun h => by
      rcases hsh with ⟨h1, _⟩ | ⟨_, h1⟩ | ⟨_, a, b, h2, _⟩
      · rw [h] at h1; cases h1
      · exact h1
      · rcases I.has cl hmem with ⟨_, x, h3, _⟩ | ⟨h3, _⟩
        · rw [h3]; rfl
        · exact absurd h h3
    obtain ⟨m, tl1, e1, d1, t1, m1, m2⟩ := cell_step n I hc hd (by rw [max20]; lia) hR (lookup_dom I w0 w1 wk wc hcp) hsh hnot (a0 := a0) (a1 := a1) (a4 := a4) (out := cl.out)
    have hout := I.outs cl hmem
    have hval : ∀ r, r < R → m.testBit r = FN st r cl.out := fun r hr => (m2 r hr).trans (I.val hmem (inpOf st.keys r)).symm
    obtain ⟨tl2, es2, b5, b6, b7, b8, e2, t2, r2⟩ := ih (p + 1) tl1 _ a4 (some (.str cl.kd.str)) (some (.int cl.out)) (some (.tup (cl.ins.map .int))) (some .none) (by lia) d1 (by rw [List.length_cons]; lia) (w0.put (by lia)) (w1.put (by lia)) (fun x hx => (wk x hx).put fun e => hout.2.2.1 (e ▸ hx)) (fun j d hj hjd => by
      by_cases hjp : j = p
      · subst hjp
        rw [hcp] at hjd; cases hjd
        exact .new m1 hval
      · refine (wc j d (by lia) hjd).put ?_
        obtain ⟨h1, h2⟩ := List.getElem?_eq_some_iff.mp hjd
        obtain ⟨h3, h4⟩ := List.getElem?_eq_some_iff.mp hcp
        have := List.pairwise_iff_getElem.mp I.inc j p h1 h3 (by lia)
        rw [h2, h4] at this
        exact Int.ne_of_lt this)
    have hget : Src.get (B st tl) p (.lst 6 st.cells.length) = some cl.v := by
      show (listAt (B st tl) 6).bind (fun xs => need (decide (xs.length = st.cells.length)) xs[p]?) = _
      refine bind_at (y := st.cells.map Cell.v) rfl ((need_true (decide_eq_true (List.length_map _))).trans ?_)
      rw [List.getElem?_map, hcp]; rfl
    exact ⟨tl2, es2, b5, b6, b7, b8, for_step hget (ρ1 := [a0, a1, some (.int ((2 ^ R - 1 : Nat) : Int)), some (.ref (wd + 11)), a4, some (.str cl.kd.str), some (.int cl.out), some (.tup (cl.ins.map .int)), some .none]) (H1 := B st tl1) e1 e2, t1.trans t2, r2⟩

/-- an int's power of two -/
theorem pow_ev {a : M} {ρ : Rho} {H : St} {k : Nat} (h : a ρ H = some (.int k, H)) (hk : k ≤ 1024) : mBin .Pow (mVal (.int 2)) a ρ H = some (.int ((2 ^ k : Nat) : Int), H) :=
  (bin_h (i := 2) (j := k) rfl h (pow_bin hk)).trans (by rw [show ((2 : Int) ^ k) = ((2 ^ k : Nat) : Int) by simp])

noncomputable def keysE : X := .comp2 (.loc 11) ["name", "nets"] (.attr (.loc 0) "inputs") ["one"] (.loc 10)
theorem keys_ev (n : Nat) {w : Nat} (hw : 1 ≤ w ∧ w ≤ 3) (st : NS) (hin : st.inputs = [.tup [.str "u", .ref 12], .tup [.str "v", .ref 15]]) {ku kv : List Int} (hu : ku.length = w) (hv : kv.length = w) (x0 x2 x3 : O) (T : List O) :
    ev prg (callN prg n) keysE [some (.ref 2), Option.none, Option.none, Option.none, Option.none, Option.none, Option.none, Option.none, Option.none] (B st (x0 :: .list (ku.map .int) :: x2 :: x3 :: .list (kv.map .int) :: T)) =
      some (.ref ((x0 :: .list (ku.map .int) :: x2 :: x3 :: .list (kv.map .int) :: T).length + 11), B st ((x0 :: .list (ku.map .int) :: x2 :: x3 :: .list (kv.map .int) :: T) ++ [.list ((ku ++ kv).map .int)])) := by
  have es : st = { st with inputs := [.tup [.str "u", .ref 12], .tup [.str "v", .ref 15]] } := by rw [← hin]
  rw [es]
  rcases (show w = 1 ∨ w = 2 ∨ w = 3 by lia) with rfl | rfl | rfl
  · obtain ⟨a, rfl⟩ := list1 hu.symm
    obtain ⟨b, rfl⟩ := list1 hv.symm
    kernel_rfl
  · obtain ⟨a, a', rfl⟩ := list2 hu.symm
    obtain ⟨b, b', rfl⟩ := list2 hv.symm
    kernel_rfl
  · obtain ⟨a, a', a'', rfl⟩ := list3 hu.symm
    obtain ⟨b, b', b'', rfl⟩ := list3 hv.symm
    kernel_rfl

/-- the run of the words' function, of its parts -/
theorem words_run {st : NS} {tl T1 T2 T3 T4 : List O} {k0 wd K R m : Nat} {fu : Int} {a4 b5 b6 b7 b8 : Option V}
    (h1 : ev prg (callN prg 11) keysE [some (.ref 2), Option.none, Option.none, Option.none, Option.none, Option.none, Option.none, Option.none, Option.none] (B st tl) = some (.ref (k0 + 11), B st T1))
    (h2 : ev prg (callN prg 11) (.bin .Sub (.bin .Pow (.cint 2) (.bin .Pow (.cint 2) (.bi .len (.cons (.loc 1) .nil)))) (.cint 1)) [some (.ref 2), some (.ref (k0 + 11)), Option.none, Option.none, Option.none, Option.none, Option.none, Option.none, Option.none] (B st T1) = some (.int fu, B st T1))
    (h3 : T1.length = wd) (h4 : T2 = T1 ++ [.idict [(1, .int fu), (0, .int 0)]])
    (h5 : ev prg (callN prg 11) (.bi .len (.cons (.loc 1) .nil)) [some (.ref 2), some (.ref (k0 + 11)), some (.int fu), some (.ref (wd + 11)), Option.none, Option.none, Option.none, Option.none, Option.none] (B st T2) = some (.int (K : Nat), B st T2)) (hK : K < 2 ^ 20)
    (h6 : forL (.fix (rangeL 0 (K : Nat) 1)) (turnF [4] false (ex prg (callN prg 11) sumB)) K 0 [some (.ref 2), some (.ref (k0 + 11)), some (.int fu), some (.ref (wd + 11)), Option.none, Option.none, Option.none, Option.none, Option.none] (B st T2) = some (.next, [some (.ref 2), some (.ref (k0 + 11)), some (.int fu), some (.ref (wd + 11)), a4, Option.none, Option.none, Option.none, Option.none], B st T3))
    (hm : m = st.cells.length)
    (h7 : forL (.lst 6 m) (turnF [5, 6, 7, 8] true (ex prg (callN prg 11) cellB)) m 0 [some (.ref 2), some (.ref (k0 + 11)), some (.int fu), some (.ref (wd + 11)), a4, Option.none, Option.none, Option.none, Option.none] (B st T3) = some (.next, [some (.ref 2), some (.ref (k0 + 11)), some (.int fu), some (.ref (wd + 11)), a4, b5, b6, b7, b8], B st T4))
    (h8 : ev prg (callN prg 11) (.bin .Pow (.cint 2) (.bi .len (.cons (.loc 1) .nil))) [some (.ref 2), some (.ref (k0 + 11)), some (.int fu), some (.ref (wd + 11)), a4, b5, b6, b7, b8] (B st T4) = some (.int (R : Nat), B st T4)) :
    callN prg 12 38 [.ref 2] (B st tl) = some (.tup [.ref (wd + 11), .int (R : Nat)], B st T4) := by
  subst h3 h4
  refine run_eq (fl := .ret (.tup [.ref (T1.length + 11), .int (R : Nat)])) (b := b__law_words) (ρ₀ := [some (.ref 2), Option.none, Option.none, Option.none, Option.none, Option.none, Option.none, Option.none, Option.none]) (ρ' := [some (.ref 2), some (.ref (k0 + 11)), some (.int fu), some (.ref (T1.length + 11)), a4, b5, b6, b7, b8]) (by kernel_rfl) ?_
  refine cons_eq (asg_eq (v := .ref (k0 + 11)) (H1 := B st T1) h1) (cons_eq (asg_eq (v := .int fu) (H1 := B st T1) h2) (cons_eq (asg_eq (v := .ref (T1.length + 11)) (H1 := B st (T1 ++ [.idict [(1, .int fu), (0, .int 0)]])) ?_) ?_))
  · kernel_rfl
  refine cons_eq (ρ1 := [some (.ref 2), some (.ref (k0 + 11)), some (.int fu), some (.ref (T1.length + 11)), a4, Option.none, Option.none, Option.none, Option.none]) (H1 := B st T3) (for_eq (v := .rng 0 (K : Nat) 1) (src := .fix (rangeL 0 (K : Nat) 1)) (H1 := B st (T1 ++ [.idict [(1, .int fu), (0, .int 0)]])) ?_ (range_src hK) ?_) ?_
  · show (row (mCons (ev prg (callN prg 11) (.bi .len (.cons (.loc 1) .nil))) (mVal (.tup []))) _ _).bind _ = _
    refine bind_at (row_one h5) rfl
  · rw [range_len]; exact h6
  refine cons_eq (ρ1 := [some (.ref 2), some (.ref (k0 + 11)), some (.int fu), some (.ref (T1.length + 11)), a4, b5, b6, b7, b8]) (H1 := B st T4) (for_eq (v := .ref 6) (src := .lst 6 m) (H1 := B st T3) (by kernel_rfl) ?_ h7) (consr_eq (ret_eq (v := .tup [.ref (T1.length + 11), .int (R : Nat)]) (H1 := B st T4) ?_))
  · refine alt_left (bind_at (y := 6) rfl ?_)
    show (some (st.cells.map Cell.v)).map _ = _
    rw [hm]
    show some (Src.lst 6 (st.cells.map Cell.v).length) = _
    rw [List.length_map]
  · show (row (mCons (ev prg (callN prg 11) (.loc 3)) (mCons (ev prg (callN prg 11) (.bin .Pow (.cint 2) (.bi .len (.cons (.loc 1) .nil)))) (mVal (.tup [])))) _ _).bind _ = _
    refine bind_at (row_h (x := .ref (T1.length + 11)) (by kernel_rfl) (row_one h8)) rfl

theorem words_ok {w : Nat} (hw : 1 ≤ w ∧ w ≤ 3) {which right top it : Nat} {c : Int} {st : NS} {tl : List O} (F : Af w which c right top it st tl) :
    ∃ (wd : Nat) (es : List (Int × V)) (tl' : List O), callN prg 12 38 [.ref 2] (B st tl) = some (.tup [.ref (wd + 11), .int ((2 ^ (2 * w) : Nat) : Int)], B st tl') ∧ Tk tl tl' ∧ tl'[wd]? = some (.idict es) ∧ ∀ x, Net st x → WD es (2 ^ (2 * w)) (FN st) x := by
  have I := F.inv
  have hc := F.cells
  obtain ⟨ku, kv, h1, h4, hkeys, hku, hkv⟩ := F.keys
  have hnod := F.nod
  have hkl : (ku ++ kv).length = 2 * w := by rw [List.length_append]; lia
  -- the list of nets
  have hshape : ∃ x0 x2 x3 T, tl = x0 :: .list (ku.map .int) :: x2 :: x3 :: .list (kv.map .int) :: T := by
    match tl, h1, h4 with
    | x0 :: x1 :: x2 :: x3 :: x4 :: T, h1, h4 => cases h1; cases h4; exact ⟨x0, x2, x3, T, rfl⟩
  have hkeysE : ev prg (callN prg 11) keysE [some (.ref 2), Option.none, Option.none, Option.none, Option.none, Option.none, Option.none, Option.none, Option.none] (B st tl) = some (.ref (tl.length + 11), B st (tl ++ [.list ((ku ++ kv).map .int)])) := by
    obtain ⟨x0, x2, x3, T, rfl⟩ := hshape
    exact keys_ev 11 hw st F.inputs hku hkv x0 x2 x3 T
  have hk0 : (tl ++ [O.list ((ku ++ kv).map .int)])[tl.length]? = some (.list ((ku ++ kv).map .int)) := last_at _ _
  have hlenE : ∀ {a2 a3 a4 a5 a6 a7 a8 : Option V} {T : List O}, T[tl.length]? = some (.list ((ku ++ kv).map .int)) → ev prg (callN prg 11) (.bi .len (.cons (.loc 1) .nil)) [some (.ref 2), some (.ref (tl.length + 11)), a2, a3, a4, a5, a6, a7, a8] (B st T) = some (.int ((2 * w : Nat) : Int), B st T) := fun h =>
    Eq.trans (b := builtin .len [.ref (tl.length + 11)] (B st _)) (by kernel_rfl) (by rw [len_at (show (B st _)[tl.length + 11]? = _ from h), List.length_map, hkl])
  have hR64 : 2 ^ (2 * w) ≤ 64 := by rcases (show w = 1 ∨ w = 2 ∨ w = 3 by lia) with rfl | rfl | rfl <;> decide
  have hRpos : 0 < 2 ^ (2 * w) := Nat.two_pow_pos _
  have hfullpos : 0 < 2 ^ 2 ^ (2 * w) := Nat.two_pow_pos _
  generalize hRdef : 2 ^ (2 * w) = R at *
  have hfull : ev prg (callN prg 11) (.bin .Sub (.bin .Pow (.cint 2) (.bin .Pow (.cint 2) (.bi .len (.cons (.loc 1) .nil)))) (.cint 1)) [some (.ref 2), some (.ref (tl.length + 11)), Option.none, Option.none, Option.none, Option.none, Option.none, Option.none, Option.none] (B st (tl ++ [.list ((ku ++ kv).map .int)])) =
      some (.int ((2 ^ R - 1 : Nat) : Int), B st (tl ++ [.list ((ku ++ kv).map .int)])) :=
    bin_h (i := ((2 ^ R : Nat) : Int)) (j := 1) (pow_ev (hRdef ▸ pow_ev (hlenE hk0) (by lia)) (by lia)) (by kernel_rfl) (congrArg some (show ((2 ^ R : Nat) : Int) - 1 = _ by lia))
  subst hRdef
  have hd2 : ((tl ++ [O.list ((ku ++ kv).map .int)]) ++ [O.idict [(1, .int ((2 ^ 2 ^ (2 * w) - 1 : Nat) : Int)), (0, .int ((0 : Nat) : Int))]])[(tl ++ [O.list ((ku ++ kv).map .int)]).length]? = some (.idict [(1, .int ((2 ^ 2 ^ (2 * w) - 1 : Nat) : Int)), (0, .int ((0 : Nat) : Int))]) := last_at _ _
  have hwdl : (tl ++ [O.list ((ku ++ kv).map .int)]).length = tl.length + 1 := by rw [List.length_append]; rfl
  rw [hwdl] at hd2
  have hk2 : ((tl ++ [O.list ((ku ++ kv).map .int)]) ++ [O.idict [(1, .int ((2 ^ 2 ^ (2 * w) - 1 : Nat) : Int)), (0, .int ((0 : Nat) : Int))]])[tl.length]? = some (.list ((ku ++ kv).map .int)) := Tk.app _ _ _ _ hk0
  have w0 : WD [((1 : Int), V.int ((2 ^ 2 ^ (2 * w) - 1 : Nat) : Int)), (0, .int ((0 : Nat) : Int))] (2 ^ (2 * w)) (FN st) 0 :=
    (WD.new (m := 0) hfullpos fun r _ => by rw [Nat.zero_testBit]; exact (I.val0 _).symm).put (by decide)
  have w1 : WD [((1 : Int), V.int ((2 ^ 2 ^ (2 * w) - 1 : Nat) : Int)), (0, .int ((0 : Nat) : Int))] (2 ^ (2 * w)) (FN st) 1 :=
    WD.new (by lia) fun r hr => by rw [Nat.testBit_two_pow_sub_one, decide_eq_true hr]; exact (I.val1 _).symm
  obtain ⟨tl3, es3, a4, e3, t3, d3, l3, z0, z1, zk⟩ := sums_loop hw 5 I hc hkeys (hkeys ▸ hnod) hkl (k0 := tl.length) (wd := tl.length + 1) (by lia) (full := some (.int ((2 ^ 2 ^ (2 * w) - 1 : Nat) : Int))) (a5 := Option.none) (a6 := Option.none) (a7 := Option.none) (a8 := Option.none)
    (2 * w) 0 _ _ Option.none (Nat.zero_add _) hk2 hd2 rfl w0 w1 (fun j x h => by lia)
  obtain ⟨tl4, es4, b5, b6, b7, b8, e4, t4, d4, r4⟩ := cells_loop 4 I hc hRpos (wd := tl.length + 1) (a0 := some (.ref 2)) (a1 := some (.ref (tl.length + 11))) st.cells.length 0 tl3 es3 a4 Option.none Option.none Option.none Option.none (Nat.zero_add _) d3 (by lia) z0 z1 (hkeys ▸ zk) (fun j c h => by lia)
  have hk4 : tl4[tl.length]? = some (.list ((ku ++ kv).map .int)) := t4 _ _ (by lia) (t3 _ _ (by lia) hk2)
  refine ⟨tl.length + 1, es4, tl4, words_run hkeysE hfull hwdl rfl (hlenE hk2) (by lia) e3 rfl e4 (pow_ev (hlenE hk4) (by lia)), fun k o e => ?_, d4, r4⟩
  have hkl := (List.getElem?_eq_some_iff.mp e).1
  exact t4 k o (by lia) (t3 k o (by lia) (Tk.app _ _ k o (Tk.app _ _ k o e)))
end
end Mine

namespace Mine
section
open PySem
set_option autoImplicit false

theorem Told.mono {st : NS} {tl tl' : List O} {al : (Int → Bool) → Nat} (h : Tk tl tl') : ∀ {ts : List (List Nat)} {rs : List V}, Told st tl al ts rs → Told st tl' al ts rs
  | [], [], _ => trivial
  | _ :: _, _ :: _, ⟨⟨ns, ⟨i, e1, e2⟩, n⟩, r⟩ => ⟨⟨ns, ⟨i, e1, h _ _ e2⟩, n⟩, Told.mono h r⟩
theorem Told.length {st : NS} {tl : List O} {al : (Int → Bool) → Nat} : ∀ {ts : List (List Nat)} {rs : List V}, Told st tl al ts rs → rs.length = ts.length
  | [], [], _ => rfl
  | _ :: _, _ :: _, ⟨_, r⟩ => congrArg (· + 1) (Told.length r)
theorem Told.get {st : NS} {tl : List O} {al : (Int → Bool) → Nat} : ∀ {ts : List (List Nat)} {rs : List V} {p : Nat} (_ : Told st tl al ts rs) (hp : p < ts.length), ∃ r ns, rs[p]? = some r ∧ Lst tl r ns ∧ NVs st al ts[p] ns
  | [], [], _, _, hp => absurd hp (Nat.not_lt_zero _)
  | _ :: _, _ :: _, 0, ⟨⟨ns, h1, h2⟩, _⟩, _ => ⟨_, ns, rfl, h1, h2⟩
  | _ :: _, _ :: _, p + 1, ⟨_, r⟩, hp => Told.get r (Nat.lt_of_succ_lt_succ hp)

theorem nvs_bits {st : NS} {al : (Int → Bool) → Nat} {ts : List Nat} {ns : List Int} (h : NVs st al ts ns) (r : Nat) : ns.map (FN st r) = ts.map fun t => t.testBit (al (inpOf st.keys r)) := by
  refine List.ext_getElem (by simp [h.1]) fun k h1 h2 => ?_
  rw [List.getElem_map, List.getElem_map]
  rw [List.length_map] at h1 h2
  exact (h.2 k _ _ (List.getElem?_eq_getElem h2) (List.getElem?_eq_getElem h1)).2 _
theorem numB_num (a : Nat) : ∀ ts : List Nat, numB (ts.map fun t => t.testBit a) = num a ts
  | [] => rfl
  | t :: ts => by
    show (if t.testBit a = true then 1 else 0) + 2 * numB (ts.map fun t => t.testBit a) = (if t.testBit a then 1 else 0) + 2 * num a ts
    rw [numB_num a ts]
theorem numB_range (a : Nat) : ∀ k s : Nat, numB ((List.range' s k).map fun j => a.testBit j) = ((a / 2 ^ s % 2 ^ k : Nat) : Int)
  | 0, s => by show (0 : Int) = _; rw [Nat.pow_zero, Nat.mod_one]; rfl
  | k + 1, s => by
    show (if a.testBit s = true then 1 else 0) + 2 * numB ((List.range' (s + 1) k).map fun j => a.testBit j) = _
    rw [numB_range a k (s + 1), Nat.pow_succ 2 k, Nat.mul_comm (2 ^ k) 2, Nat.mod_mul, Nat.pow_succ, ← Nat.div_div_eq_div_mul, Nat.testBit_eq_decide_div_mod_eq]
    have := Nat.mod_lt (a / 2 ^ s) (show 0 < 2 by decide)
    by_cases h1 : a / 2 ^ s % 2 = 1
    · rw [h1]; simp
    · rw [show a / 2 ^ s % 2 = 0 by lia]; simp
theorem word_num {w s N a : Nat} (hs : s + w ≤ N) (ht : ∀ j, j < N → (tabV (2 ^ N) j).testBit a = a.testBit j) : numB (((List.range w).map fun j => tabV (2 ^ N) (s + j)).map fun t => t.testBit a) = bitsOf (a / 2 ^ s) w := by
  rw [List.map_map]
  have : (List.range w).map ((fun t => t.testBit a) ∘ fun j => tabV (2 ^ N) (s + j)) = (List.range' s w).map fun j => a.testBit j := by
    rw [List.range'_eq_map_range, List.map_map]
    refine List.map_congr_left fun j hj => ?_
    have := List.mem_range.mp hj
    exact ht (s + j) (by lia)
  rw [this, numB_range]; rfl

theorem intsOf_inv : ∀ {ys : List V} {is : List Int}, intsOf ys = some is → ys = is.map .int
  | [], _, e => by cases e; rfl
  | y :: ys, _, e => by
    obtain ⟨i, e1, e2⟩ := bind_inv e
    obtain ⟨js, e3, rfl⟩ := map_inv e2
    rw [asI_inv e1, intsOf_inv e3]; rfl

/-- the words stand -/
structure RI (w it wd : Nat) (c : Int) (ts : List (List Nat)) (al : (Int → Bool) → Nat) (us vs : List Int) (rs : List V) (es : List (Int × V)) (st : NS) (tl : List O) : Prop where
  wd : tl[wd]? = some (.idict es)
  it : tl[it]? = some (.list rs)
  told : Told st tl al ts rs
  u : tl[2]? = some (.list (us.map .int))
  v : tl[5]? = some (.list (vs.map .int))
theorem RI.mono {w it wd : Nat} {c : Int} {ts : List (List Nat)} {al : (Int → Bool) → Nat} {us vs : List Int} {rs : List V} {es : List (Int × V)} {st : NS} {tl tl' : List O} (h : RI w it wd c ts al us vs rs es st tl) (k : Tk tl tl') : RI w it wd c ts al us vs rs es st tl' :=
  ⟨k _ _ h.wd, k _ _ h.it, h.told.mono k, k _ _ h.u, k _ _ h.v⟩

theorem B_app (st : NS) (tl : List O) (o : O) : B st tl ++ [o] = B st (tl ++ [o]) := rfl

section
variable {w it wd : Nat} {c : Int} {ts : List (List Nat)} {al : (Int → Bool) → Nat} {us vs : List Int} {rs : List V} {es : List (Int × V)} {st : NS} {R r : Nat} (hr : r < R) (hR : R ≤ 64) (hW : ∀ x, Net st x → WD es R (FN st) x) (hts : ∀ t ∈ ts, t.length ≤ 20)
include hr hR hW hts
theorem told_loop (n : Nat) {ρ : Rho} (hρ : ρ.length = 20) (h15 : ρ[15]? = some (some (.ref (wd + 11)))) (h17 : ρ[17]? = some (some (.int r))) : ∀ (k p : Nat) (tl : List O), p + k = ts.length → RI w it wd c ts al us vs rs es st tl →
    ∃ tl', mapL (.lst (it + 11) rs.length) (turn1 (ev prg (callN prg (n + 1)) (.call 39 (.cons (.loc 15) (.cons (.loc 20) (.cons (.loc 17) .nil))))) ["nets"] (ev prg (callN prg (n + 1)) (.cbool true)) ρ) k p (B st tl) = some (((ts.drop p).map fun t => V.int (num (al (inpOf st.keys r)) t)), B st tl') ∧ Tk tl tl' := by
  intro k
  induction k with
  | zero =>
    intro p tl hp h
    refine ⟨tl, ?_, Tk.refl tl⟩
    rw [List.drop_eq_nil_of_le (by lia)]
    refine need_true ?_
    have : Src.ok (B st tl) (.lst (it + 11) rs.length) = match (tl[it]?).bind oL with | some xs => decide (xs.length = rs.length) | Option.none => false := rfl
    rw [this, h.it]
    exact decide_eq_true rfl
  | succ k ih =>
    intro p tl hp h
    have hpl : p < ts.length := by lia
    obtain ⟨v, ns, e1, ⟨i, rfl, e2⟩, hn⟩ := h.told.get hpl
    obtain ⟨o, e3⟩ := number_ok n (H := B st tl) (d := wd + 11) (j := i + 11) h.wd e2 (hn.1 ▸ hts _ (List.getElem_mem hpl)) hr hR (F := FN st) (fun x hx => by
      obtain ⟨q, hq, e⟩ := List.getElem_of_mem hx
      exact hW x (hn.2 q _ x (List.getElem?_eq_getElem (hn.1 ▸ hq)) (by rw [List.getElem?_eq_getElem hq, e])).1)
    rw [nvs_bits hn r, numB_num] at e3
    obtain ⟨tl', e4, k4⟩ := ih (p + 1) (tl ++ [o]) (by lia) (h.mono (Tk.app _ _))
    refine ⟨tl', ?_, (Tk.app tl [o]).trans k4⟩
    rw [List.drop_eq_getElem_cons hpl]
    refine bind_at (y := .ref (i + 11)) ?_ (bind_at (y := ([.int (num (al (inpOf st.keys r)) ts[p])], B st (tl ++ [o]))) ?_ ?_)
    · show ((tl[it]?).bind oL).bind (fun xs => need (decide (xs.length = rs.length)) xs[p]?) = _
      rw [h.it]
      exact (need_true (decide_eq_true rfl)).trans e1
    · refine bind_at (y := [some (.ref (i + 11))]) (by rfl) (bind_at (y := (true, B st tl)) (by rfl) ?_)
      show Option.map _ (ev prg (callN prg (n + 1)) (.call 39 (.cons (.loc 15) (.cons (.loc 20) (.cons (.loc 17) .nil)))) (ρ ++ [some (.ref (i + 11))]) (B st tl)) = _
      have g15 : (ρ ++ [some (V.ref (i + 11))])[15]? = some (some (.ref (wd + 11))) := by rw [List.getElem?_append_left (by lia)]; exact h15
      have g17 : (ρ ++ [some (V.ref (i + 11))])[17]? = some (some (.int r)) := by rw [List.getElem?_append_left (by lia)]; exact h17
      have g20 : (ρ ++ [some (V.ref (i + 11))])[20]? = some (some (.ref (i + 11))) := by rw [List.getElem?_append_right (by lia), hρ]; rfl
      have loc_eq : ∀ {q : Nat} {v : V}, (ρ ++ [some (V.ref (i + 11))])[q]? = some (some v) → ev prg (callN prg (n + 1)) (.loc q) (ρ ++ [some (.ref (i + 11))]) (B st tl) = some (v, B st tl) := fun e => map_at (Option.join_eq_some_iff.mpr e)
      rw [show ev prg (callN prg (n + 1)) (.call 39 (.cons (.loc 15) (.cons (.loc 20) (.cons (.loc 17) .nil)))) (ρ ++ [some (.ref (i + 11))]) (B st tl) = some (.int (num (al (inpOf st.keys r)) ts[p]), B st tl ++ [o]) from
        (call_eq (row_h (loc_eq g15) (row_h (loc_eq g20) (row_one (loc_eq g17))))).trans e3]
      rfl
    · rw [e4]; rfl
end
end
end Mine

namespace Mine
section
open PySem
set_option autoImplicit false

theorem cmp_lists {H : St} {a b : Nat} {is : List Int} (ha : H[a]? = some (.list (is.map .int))) (hb : H[b]? = some (.list (is.map .int))) : cmpop .NotEq (.ref a) (.ref b) H = some false := by
  have h1 : asL H (.ref a) = some (is.map .int) := by show (H[a]?).bind oL = _; rw [ha]; rfl
  have h2 : asL H (.ref b) = some (is.map .int) := by show (H[b]?).bind oL = _; rw [hb]; rfl
  show cmpE .NotEq (.ref a) (.ref b) H = _
  refine alt_right rfl (alt_right rfl (alt_right rfl (alt_right rfl ((need_true rfl).trans (bind_at h1 (bind_at h2 (bind_at (intsOf_map is) ((map_at (intsOf_map is)).trans ?_))))))))
  exact congrArg some (decide_eq_false fun h => h rfl)

theorem due_run {st : NS} (I : Inv st) (hc : st.cells.length ≤ 201000) {w which right top a : Nat} {is : List Int} (h : due2 w which right top a = some is) (tl : List O) :
    ∃ i tl', callN prg 12 44 [.int which, .int (bitsOf a w), .int (bitsOf (a / 2 ^ w) w), .int (bitsOf (a / 2 ^ (2 * w)) 1), .int w, .int right, .int top] (B st tl) = some (.ref (i + 11), B st tl') ∧ Tk tl tl' ∧ tl'[i]? = some (.list (is.map .int)) := by
  obtain ⟨x, e, h1⟩ := bind_inv h
  obtain ⟨xs, h2, h3⟩ := bind_inv h1
  obtain ⟨w', b, y, rfl, e1, o', s, g⟩ := pure_call (sc := scP 0 1 Nat.zero_lt_one) rfl rfl (ok_none I hc Nat.zero_lt_one tl) (k := 7) (n := 12) (by lia) (((((((SRs.nil.cons (.int _)).cons (.int _)).cons (.int _)).cons (.int _)).cons (.int _)).cons (.int _)).cons (.int _)) e
  obtain ⟨j, i, ys, _, rfl, _, _, h4, s', _⟩ := asL_ok o' s xs h2
  refine ⟨i, w'.tl, e1, fun k ob hk => (g.rest k ob (fun _ e => by cases e) hk).1, ?_⟩
  rw [h4, intsOf_inv (s'.ints is h3)]

section
variable {w which right top it wd : Nat} {c : Int} {ts : List (List Nat)} {al : (Int → Bool) → Nat} {us vs : List Int} {rs : List V} {es : List (Int × V)} {st : NS} (hw : 1 ≤ w ∧ w ≤ 3) (I : Inv st) (hc : st.cells.length ≤ 201000) (hW : ∀ x, Net st x → WD es (2 ^ (2 * w)) (FN st) x) (hts : ts.length ≤ 20 ∧ ∀ t ∈ ts, t.length ≤ 20)
  (hal : ∀ inp, al inp < 2 ^ (2 * w + 1)) (hu : NVs st al ((List.range w).map fun j => tabV (2 ^ (2 * w + 1)) (0 + j)) us) (hv : NVs st al ((List.range w).map fun j => tabV (2 ^ (2 * w + 1)) (w + j)) vs)
  (hcn : Net st c ∧ ∀ inp, nval st.cells inp c = (tabV (2 ^ (2 * w + 1)) (2 * w)).testBit (al inp)) (hdue : ∀ a, a < 2 ^ (2 * w + 1) → due2 w which right top a = some (ts.map (num a)))
include hw I hc hW hts hal hu hv hcn hdue
theorem row_step {r : Nat} (hr : r < 2 ^ (2 * w)) {tl : List O} (h : RI w it wd c ts al us vs rs es st tl) {r12 r13 r16 r18 r19 : Option V} :
    ∃ x18 tl', ex prg (callN prg 12) rowS [Option.none, some (.ref 0), some (.ref 1), some (.int w), some (.int which), some (.ref 2), some (.ref 7), some (.ref 13), some (.ref 16), some (.int c), some (.int right), some (.int top), r12, r13, some (.ref (it + 11)), some (.ref (wd + 11)), r16, some (.int r), r18, r19] (B st tl) =
      some (.next, [Option.none, some (.ref 0), some (.ref 1), some (.int w), some (.int which), some (.ref 2), some (.ref 7), some (.ref 13), some (.ref 16), some (.int c), some (.int right), some (.int top), r12, r13, some (.ref (it + 11)), some (.ref (wd + 11)), r16, some (.int r), x18, r19], B st tl') ∧ Tk tl tl' := by
  have hR64 : 2 ^ (2 * w) ≤ 64 := by rcases (show w = 1 ∨ w = 2 ∨ w = 3 by lia) with rfl | rfl | rfl <;> decide
  have ha := hal (inpOf st.keys r)
  have htab : ∀ j, j < 2 * w + 1 → (tabV (2 ^ (2 * w + 1)) j).testBit (al (inpOf st.keys r)) = (al (inpOf st.keys r)).testBit j := fun j hj => tab_bit hw hj ha
  have hul : us.length = w := by have := hu.1; rw [List.length_map, List.length_range] at this; exact this.symm
  have hvl : vs.length = w := by have := hv.1; rw [List.length_map, List.length_range] at this; exact this.symm
  have hnu : ∀ x ∈ us, Net st x := fun x hx => by
    obtain ⟨q, hq, e⟩ := List.getElem_of_mem hx
    exact (hu.2 q _ x (List.getElem?_eq_getElem (hu.1 ▸ hq)) (by rw [List.getElem?_eq_getElem hq, e])).1
  have hnv : ∀ x ∈ vs, Net st x := fun x hx => by
    obtain ⟨q, hq, e⟩ := List.getElem_of_mem hx
    exact (hv.2 q _ x (List.getElem?_eq_getElem (hv.1 ▸ hq)) (by rw [List.getElem?_eq_getElem hq, e])).1
  obtain ⟨o1, e1⟩ := number_ok 11 (H := B st tl) (d := wd + 11) (j := 13) h.wd h.u (by lia) hr hR64 (F := FN st) (fun x hx => hW x (hnu x hx))
  rw [nvs_bits hu r, word_num (by lia) htab, Nat.pow_zero, Nat.div_one, B_app] at e1
  have h1 := h.mono (Tk.app tl [o1])
  obtain ⟨o2, e2⟩ := number_ok 11 (H := B st (tl ++ [o1])) (d := wd + 11) (j := 16) h1.wd h1.v (by lia) hr hR64 (F := FN st) (fun x hx => hW x (hnv x hx))
  rw [nvs_bits hv r, word_num (by lia) htab, B_app] at e2
  have h2 := h1.mono (Tk.app _ [o2])
  have hcb : (if FN st r c = true then 1 else 0 : Int) = bitsOf (al (inpOf st.keys r) / 2 ^ (2 * w)) 1 := by
    have : FN st r c = (al (inpOf st.keys r)).testBit (2 * w) := (hcn.2 _).trans (htab (2 * w) (by lia))
    rw [this, Nat.testBit_eq_decide_div_mod_eq]
    unfold bitsOf
    rw [Nat.pow_one]
    have := Nat.mod_lt (al (inpOf st.keys r) / 2 ^ (2 * w)) (show 0 < 2 by decide)
    by_cases h1 : al (inpOf st.keys r) / 2 ^ (2 * w) % 2 = 1
    · rw [h1]; rfl
    · rw [show al (inpOf st.keys r) / 2 ^ (2 * w) % 2 = 0 by lia]; rfl
  obtain ⟨i3, tl3, e3, k3, l3⟩ := due_run I hc (hdue _ ha) ((tl ++ [o1]) ++ [o2])
  have h3 := h2.mono k3
  obtain ⟨tl4, e4, k4⟩ := told_loop hr hR64 hW hts.2 11 (ρ := [Option.none, some (.ref 0), some (.ref 1), some (.int w), some (.int which), some (.ref 2), some (.ref 7), some (.ref 13), some (.ref 16), some (.int c), some (.int right), some (.int top), r12, r13, some (.ref (it + 11)), some (.ref (wd + 11)), r16, some (.int r), some (.ref (i3 + 11)), r19]) rfl rfl rfl ts.length 0 tl3 (Nat.zero_add _) h3
  rw [List.drop_zero] at e4
  refine ⟨some (.ref (i3 + 11)), tl4 ++ [.list ((ts.map (num (al (inpOf st.keys r)))).map .int)], cons_eq (asg_eq (v := .ref (i3 + 11)) (H1 := B st tl3) ?_) (cons_eq (cond_f (H1 := B st (tl4 ++ [.list ((ts.map (num (al (inpOf st.keys r)))).map .int)])) (tst_eq (cmp_eq (x := .ref (tl4.length + 11)) (y := .ref (i3 + 11)) (H1 := B st (tl4 ++ [.list ((ts.map (num (al (inpOf st.keys r)))).map .int)])) ?_ (by kernel_rfl) (cmp_lists (is := ts.map (num (al (inpOf st.keys r)))) ?_ ?_))) rfl) rfl),
    (((Tk.app tl [o1]).trans (Tk.app _ [o2])).trans k3).trans (k4.trans (Tk.app _ _))⟩
  · have hcbit := bit_ev (F := FN st) (ρ := [Option.none, some (.ref 0), some (.ref 1), some (.int w), some (.int which), some (.ref 2), some (.ref 7), some (.ref 13), some (.ref 16), some (.int c), some (.int right), some (.int top), r12, r13, some (.ref (it + 11)), some (.ref (wd + 11)), r16, some (.int r), r18, r19])
      (H := B st ((tl ++ [o1]) ++ [o2])) (d := wd + 11) h2.wd (x := ev prg (callN prg 12) (.loc 9)) (r := ev prg (callN prg 12) (.loc 17)) (w := ev prg (callN prg 12) (.loc 15)) (n := c) (k := r) (by kernel_rfl) (by kernel_rfl) hr hR64 (hW c hcn.1) (by kernel_rfl)
    rw [hcb] at hcbit
    exact (call_eq (row_h (x := .int which) (by kernel_rfl) (row_cons (Eq.trans (by kernel_rfl) e1) (row_cons (Eq.trans (by kernel_rfl) e2) (row_h hcbit (row_h (x := .int w) (by kernel_rfl) (row_h (x := .int right) (by kernel_rfl) (row_one (x := .int top) (by kernel_rfl))))))))).trans e3
  · refine comp_eq (x := .ref (it + 11)) (H1 := B st tl3) (src := .lst (it + 11) rs.length) (by kernel_rfl) (alt_left (bind_at rfl (map_at ?_))) (show mapL _ _ rs.length 0 _ = _ by rw [h3.told.length]; rw [h3.told.length] at e4; exact e4) ?_
    · show (tl3[it]?).bind oL = some rs
      rw [h3.it]; rfl
    · rw [List.map_map]
      refine need_true (decide_eq_true ?_)
      rw [max20, List.length_map]; lia
  · exact last_at tl4 _
  · exact Tk.app tl4 _ _ _ (k4 _ _ l3)

theorem rows_loop {r12 r13 r16 r19 : Option V} : ∀ (k p : Nat) (tl : List O) (x17 x18 : Option V), p + k = 2 ^ (2 * w) → RI w it wd c ts al us vs rs es st tl →
    ∃ y17 y18 tl', forL (.fix (rangeL 0 (2 ^ (2 * w) : Nat) 1)) (turnF [17] false (ex prg (callN prg 12) rowS)) k p [Option.none, some (.ref 0), some (.ref 1), some (.int w), some (.int which), some (.ref 2), some (.ref 7), some (.ref 13), some (.ref 16), some (.int c), some (.int right), some (.int top), r12, r13, some (.ref (it + 11)), some (.ref (wd + 11)), r16, x17, x18, r19] (B st tl) =
      some (.next, [Option.none, some (.ref 0), some (.ref 1), some (.int w), some (.int which), some (.ref 2), some (.ref 7), some (.ref 13), some (.ref 16), some (.int c), some (.int right), some (.int top), r12, r13, some (.ref (it + 11)), some (.ref (wd + 11)), r16, y17, y18, r19], B st tl') ∧ Tk tl tl' := by
  intro k
  induction k with
  | zero => exact fun p tl x17 x18 _ _ => ⟨x17, x18, tl, need_true rfl, Tk.refl tl⟩
  | succ k ih =>
    intro p tl x17 x18 hp h
    obtain ⟨x, tl1, e1, k1⟩ := row_step hw I hc hW hts hal hu hv hcn hdue (r := p) (by lia) h (r12 := r12) (r13 := r13) (r16 := r16) (r18 := x18) (r19 := r19)
    obtain ⟨y17, y18, tl2, e2, k2⟩ := ih (p + 1) tl1 (some (.int p)) x (by lia) (h.mono k1)
    exact ⟨y17, y18, tl2, for_step (range_get (by lia) _) e1 e2, k1.trans k2⟩
end
end
end Mine

namespace Mine
section
open PySem
set_option autoImplicit false

noncomputable def Cell.seen (c : Cell) : V := .tup [.str c.kd.str, .tup (c.ins.map .int)]
noncomputable def Cell.flat (c : Cell) : Str × List Int := (c.kd.str, c.ins)
noncomputable def seenX : X := .tup (.cons (.sub (.loc 20) (.cint 0)) (.cons (.ite (.cmp .Eq (.sub (.loc 20) (.cint 0)) (.cstr "mux")) (.sub (.loc 20) (.cint 2)) (.bi .tuple (.cons (.bi .sorted (.cons (.sub (.loc 20) (.cint 2)) .nil)) .nil))) .nil))

theorem sorted_eq {xs : List Int} (h : sortI xs = xs) (hl : xs.length < 64) (H : St) : builtin .sorted [.tup (xs.map .int)] H = newL (xs.map .int) H := by
  have : builtin .sorted [.tup (xs.map .int)] H = (intsOf (xs.map .int)).bind fun is => need (decide ((xs.map V.int).length < 64)) (newL ((sortI is).map .int) H) := rfl
  rw [this, intsOf_map, Option.bind_some, h, List.length_map]
  exact need_true (decide_eq_true hl)
theorem tuple_eq {n : Nat} {xs : List V} {H : St} (h : H[n]? = some (.list xs)) : builtin .tuple [.ref n] H = some (.tup xs, H) := by
  have : builtin .tuple [.ref n] H = ((H[n]?.bind oL) <|> Option.none).map fun xs => (.tup xs, H) := rfl
  rw [this, h]; rfl
theorem seen_one (n : Nat) {st : NS} {tl : List O} {ρ : Rho} {c : Cell} (h20 : ρ[20]? = some (some c.v)) (hs : (c.kd = .mux ∧ c.ins.length = 3) ∨ (c.kd = .not ∧ c.ins.length = 1) ∨ (c.kd ≠ .mux ∧ ∃ a b, c.ins = [a, b] ∧ a ≤ b)) :
    ∃ tl', ev prg (callN prg n) seenX ρ (B st tl) = some (c.seen, B st tl') ∧ Tk tl tl' := by
  have hl : ∀ T, ev prg (callN prg n) (.loc 20) ρ (B st T) = some (c.v, B st T) := fun T => map_at (Option.join_eq_some_iff.mpr h20)
  have g0 : ∀ T, ev prg (callN prg n) (.sub (.loc 20) (.cint 0)) ρ (B st T) = some (.str c.kd.str, B st T) := fun T => sub_h (hl T) (y := .int 0) rfl rfl
  have g2 : ∀ T, ev prg (callN prg n) (.sub (.loc 20) (.cint 2)) ρ (B st T) = some (.tup (c.ins.map .int), B st T) := fun T => sub_h (hl T) (y := .int 2) rfl rfl
  have fin : ∀ T, ev prg (callN prg n) (.ite (.cmp .Eq (.sub (.loc 20) (.cint 0)) (.cstr "mux")) (.sub (.loc 20) (.cint 2)) (.bi .tuple (.cons (.bi .sorted (.cons (.sub (.loc 20) (.cint 2)) .nil)) .nil))) ρ (B st tl) = some (.tup (c.ins.map .int), B st T) →
      ev prg (callN prg n) seenX ρ (B st tl) = some (c.seen, B st T) := fun T e => by
    show (row (mCons (ev prg (callN prg n) (.sub (.loc 20) (.cint 0))) (mCons (ev prg (callN prg n) (.ite (.cmp .Eq (.sub (.loc 20) (.cint 0)) (.cstr "mux")) (.sub (.loc 20) (.cint 2)) (.bi .tuple (.cons (.bi .sorted (.cons (.sub (.loc 20) (.cint 2)) .nil)) .nil)))) (mVal (.tup [])))) _ _).bind _ = _
    exact bind_at (row_h (g0 tl) (row_one e)) rfl
  by_cases hm : c.kd = .mux
  · exact ⟨tl, fin tl (ite_t (H1 := B st tl) (cmp_h (d := true) (g0 tl) (y := .str "mux") rfl (congrArg some (decide_eq_true (by rw [hm]; rfl)))) (g2 tl)), Tk.refl tl⟩
  · have hne : c.kd.str ≠ ("mux" : Str) := fun h => hm (Kd.str_inj h)
    have hsort : sortI c.ins = c.ins ∧ c.ins.length < 64 := by
      rcases hs with ⟨h, _⟩ | ⟨_, h⟩ | ⟨_, a, b, h, hab⟩
      · exact absurd h hm
      · obtain ⟨a, h⟩ := list1 h.symm
        rw [h]; exact ⟨rfl, (by decide : 1 < 64)⟩
      · rw [h]; exact ⟨(if_pos hab), (by decide : 2 < 64)⟩
    have hsorted : ev prg (callN prg n) (.bi .sorted (.cons (.sub (.loc 20) (.cint 2)) .nil)) ρ (B st tl) = some (.ref (tl.length + 11), B st (tl ++ [.list (c.ins.map .int)])) := by
      show (row (mCons (ev prg (callN prg n) (.sub (.loc 20) (.cint 2))) (mVal (.tup []))) _ _).bind _ = _
      refine bind_at (row_one (g2 tl)) ((sorted_eq hsort.1 hsort.2 _).trans ?_)
      exact need_true (decide_eq_true (by rw [max20, List.length_map]; lia))
    refine ⟨tl ++ [.list (c.ins.map .int)], fin _ (ite_f (H1 := B st tl) (cmp_h (d := false) (g0 tl) (y := .str "mux") rfl (congrArg some (decide_eq_false hne))) ?_), Tk.app _ _⟩
    show (row (mCons (ev prg (callN prg n) (.bi .sorted (.cons (.sub (.loc 20) (.cint 2)) .nil))) (mVal (.tup []))) _ _).bind _ = _
    exact bind_at (row_one hsorted) (tuple_eq (last_at tl _))

theorem seen_loop (n : Nat) {st : NS} (I : Inv st) {ρ : Rho} (hρ : ρ.length = 20) : ∀ (k p : Nat) (tl : List O), p + k = st.cells.length →
    ∃ tl', mapL (.lst 6 st.cells.length) (turn1 (ev prg (callN prg n) seenX) ["cell"] (ev prg (callN prg n) (.cbool true)) ρ) k p (B st tl) = some ((st.cells.drop p).map Cell.seen, B st tl') ∧ Tk tl tl' := by
  intro k
  induction k with
  | zero =>
    intro p tl hp
    refine ⟨tl, ?_, Tk.refl tl⟩
    rw [List.drop_eq_nil_of_le (by lia)]
    refine need_true ?_
    have : Src.ok (B st tl) (.lst 6 st.cells.length) = decide ((st.cells.map Cell.v).length = st.cells.length) := rfl
    rw [this]; exact decide_eq_true (List.length_map _)
  | succ k ih =>
    intro p tl hp
    have hpl : p < st.cells.length := by lia
    obtain ⟨tl1, e1, k1⟩ := seen_one n (st := st) (tl := tl) (ρ := ρ ++ [some st.cells[p].v]) (c := st.cells[p]) (by rw [List.getElem?_append_right (by lia), hρ]; rfl) (I.shape _ (List.getElem_mem hpl))
    obtain ⟨tl2, e2, k2⟩ := ih (p + 1) tl1 (by lia)
    refine ⟨tl2, ?_, k1.trans k2⟩
    rw [List.drop_eq_getElem_cons hpl]
    refine bind_at (y := st.cells[p].v) ?_ (bind_at (y := ([st.cells[p].seen], B st tl1)) ?_ ?_)
    · show (listAt (B st tl) 6).bind (fun xs => need (decide (xs.length = st.cells.length)) xs[p]?) = _
      refine bind_at (y := st.cells.map Cell.v) rfl ((need_true (decide_eq_true (List.length_map _))).trans ?_)
      rw [List.getElem?_map, List.getElem?_eq_getElem hpl]; rfl
    · refine bind_at (y := [some st.cells[p].v]) (by rfl) (bind_at (y := (true, B st tl)) (by rfl) ?_)
      show Option.map _ (ev prg (callN prg n) seenX (ρ ++ [some st.cells[p].v]) (B st tl)) = _
      rw [e1]; rfl
    · rw [e2]; rfl

theorem flat_ok (c : Cell) : flat2 c.seen = some c.flat := by
  refine bind_at (y := [.str c.kd.str, .tup (c.ins.map .int)]) rfl (bind_at (y := (.str c.kd.str, .tup (c.ins.map .int))) rfl (bind_at (y := c.kd.str) rfl (bind_at (y := c.ins.map .int) rfl (bind_at (intsOf_map c.ins) (need_true ?_)))))
  cases c.kd <;> kernel_rfl
theorem flats : ∀ cs : List Cell, mapO flat2 (cs.map Cell.seen) = some (cs.map Cell.flat)
  | [] => rfl
  | c :: cs => bind_at (flat_ok c) (map_at (flats cs))
theorem flat_nodup {st : NS} (I : Inv st) : (st.cells.map Cell.flat).Nodup := by
  have h := List.pairwise_map.mp I.nodup
  refine List.pairwise_map.mpr (h.imp fun {a b} hab e => hab ?_)
  obtain ⟨e1, e2⟩ := Prod.mk.inj e
  show Atom.s a.kd.str :: a.ins.map Atom.i = Atom.s b.kd.str :: b.ins.map Atom.i
  rw [e1, e2]
theorem once {α : Type} [DecidableEq α] {l : List α} (h : l.Nodup) (k : α) : (l.filter (· = k)).length ≤ 1 := by
  have hp : (l.filter (· = k)).Pairwise (· ≠ ·) := h.sublist List.filter_sublist
  have ha : ∀ x ∈ l.filter (· = k), x = k := fun x hx => of_decide_eq_true (List.mem_filter.mp hx).2
  match l.filter (· = k), hp, ha with
  | [], _, _ => exact Nat.zero_le _
  | [x], _, _ => exact Nat.le_refl _
  | x :: y :: r, hp, ha =>
    have h1 := ha x List.mem_cons_self
    have h2 := ha y (List.mem_cons_of_mem _ List.mem_cons_self)
    exact absurd (h1.trans h2.symm) ((List.pairwise_cons.mp hp).1 y List.mem_cons_self)
end
end Mine

namespace Mine
section
open PySem
set_option autoImplicit false

theorem count_eq {P : Prg} {cf : Nat → List V → St → Option (V × St)} {o args : M} {ρ : Rho} {H : St} {n : Nat} {x : V} {xs : List V} {k : Str × List Int} {ks : List (Str × List Int)} (h1 : o ρ H = some (.ref n, H)) (h2 : H[n]? = some (.list xs)) (h3 : row args ρ H = some ([x], H)) (h4 : flat2 x = some k) (h5 : mapO flat2 xs = some ks) :
    mMeth P cf o "count" args ρ H = some (.int (ks.filter (· = k)).length, H) := by
  have hf : fsAt (.ref n) H = Option.none := by
    show ((H[n]?).bind oC).bind _ = _
    rw [h2]; rfl
  have hl1 : listAt H n = some xs := by unfold listAt; rw [h2]; rfl
  unfold mMeth
  rw [h1, Option.bind_some]
  show (match fsAt (.ref n) H with
    | some y => _
    | Option.none => (asR (.ref n)).bind fun m => match listAt H m with
      | some _ => (row args ρ H).bind fun y => lmeth m "count" y.1 y.2
      | Option.none => _) = _
  rw [hf]
  show (match listAt H n with
      | some _ => (row args ρ H).bind fun y => lmeth n "count" y.1 y.2
      | Option.none => _) = _
  rw [hl1]
  show (row args ρ H).bind _ = _
  rw [h3, Option.bind_some]
  have hn : need (decide (("count" : Str) = "append")) (need (decide (xs.length < maxLen)) (some (V.none, H.set n (.list (xs ++ [x]))))) = Option.none := by kernel_rfl
  exact bind_at hl1 (bind_at (y := x) rfl (alt_right hn ((need_true rfl).trans (bind_at h4 (map_at h5)))))

noncomputable def onceX : X := .cmp .Gt (.meth (.loc 19) "count" (.cons (.loc 20) .nil)) (.cint 1)
theorem once_loop (n : Nat) {st : NS} (I : Inv st) {tl : List O} {sn : Nat} (hsn : tl[sn]? = some (.list (st.cells.map Cell.seen))) {ρ : Rho} (hρ : ρ.length = 20) (h19 : ρ[19]? = some (some (.ref (sn + 11)))) : ∀ (k p : Nat), p + k = st.cells.length →
    mapL (.lst (sn + 11) st.cells.length) (turn1 (ev prg (callN prg n) (.loc 20)) ["one"] (ev prg (callN prg n) onceX) ρ) k p (B st tl) = some ([], B st tl) := by
  intro k
  induction k with
  | zero =>
    intro p hp
    refine need_true ?_
    have : Src.ok (B st tl) (.lst (sn + 11) st.cells.length) = match (tl[sn]?).bind oL with | some xs => decide (xs.length = st.cells.length) | Option.none => false := rfl
    rw [this, hsn]
    exact decide_eq_true (List.length_map _)
  | succ k ih =>
    intro p hp
    have hpl : p < st.cells.length := by lia
    have g19 : (ρ ++ [some st.cells[p].seen])[19]? = some (some (.ref (sn + 11))) := by rw [List.getElem?_append_left (by lia)]; exact h19
    have g20 : (ρ ++ [some st.cells[p].seen])[20]? = some (some st.cells[p].seen) := by rw [List.getElem?_append_right (by lia), hρ]; rfl
    have loc_eq : ∀ {q : Nat} {v : V}, (ρ ++ [some st.cells[p].seen])[q]? = some (some v) → ev prg (callN prg n) (.loc q) (ρ ++ [some st.cells[p].seen]) (B st tl) = some (v, B st tl) := fun e => map_at (Option.join_eq_some_iff.mpr e)
    have hc : ev prg (callN prg n) onceX (ρ ++ [some st.cells[p].seen]) (B st tl) = some (.bool false, B st tl) := by
      have h1 := once (flat_nodup I) st.cells[p].flat
      refine cmp_eq (y := .int 1) (count_eq (loc_eq g19) (show (B st tl)[sn + 11]? = _ from hsn) (row_one (loc_eq g20)) (flat_ok _) (flats st.cells)) rfl ?_
      exact congrArg some (decide_eq_false (by lia))
    refine bind_at (y := st.cells[p].seen) ?_ (bind_at (y := ([], B st tl)) ?_ ?_)
    · show ((tl[sn]?).bind oL).bind (fun xs => need (decide (xs.length = st.cells.length)) xs[p]?) = _
      rw [hsn]
      refine bind_at (y := st.cells.map Cell.seen) rfl ((need_true (decide_eq_true (List.length_map _))).trans ?_)
      rw [List.getElem?_map, List.getElem?_eq_getElem hpl]; rfl
    · refine bind_at (y := [some st.cells[p].seen]) (by rfl) (bind_at (y := (false, B st tl)) ?_ (by rfl))
      exact bind_at hc rfl
    · rw [ih (p + 1) (by lia)]; rfl

/-- the law's end -/
theorem end_ok {st : NS} (I : Inv st) (hc : st.cells.length ≤ 201000) (tl : List O) {a0 a1 a2 a3 a4 a6 a7 a8 a9 a10 a11 a12 a13 a14 a15 a16 a17 a18 a19 : Option V} :
    ∃ ρ' H', ex prg (callN prg 12) (dropS 14 b_law) [a0, a1, a2, a3, a4, some (.ref 2), a6, a7, a8, a9, a10, a11, a12, a13, a14, a15, a16, a17, a18, a19] (B st tl) = some (.ret (.bool true), ρ', H') := by
  obtain ⟨tl1, e1, _⟩ := seen_loop 12 I (ρ := [a0, a1, a2, a3, a4, some (.ref 2), a6, a7, a8, a9, a10, a11, a12, a13, a14, a15, a16, a17, a18, a19]) rfl st.cells.length 0 tl (Nat.zero_add _)
  rw [List.drop_zero] at e1
  have hsn : (tl1 ++ [O.list (st.cells.map Cell.seen)])[tl1.length]? = some (.list (st.cells.map Cell.seen)) := last_at _ _
  have e2 := once_loop 12 I hsn (ρ := [a0, a1, a2, a3, a4, some (.ref 2), a6, a7, a8, a9, a10, a11, a12, a13, a14, a15, a16, a17, a18, some (.ref (tl1.length + 11))]) rfl rfl st.cells.length 0 (Nat.zero_add _)
  refine ⟨_, B st ((tl1 ++ [O.list (st.cells.map Cell.seen)]) ++ [O.list [], O.list []]), cons_eq (asg_eq (v := .ref (tl1.length + 11)) (H1 := B st (tl1 ++ [O.list (st.cells.map Cell.seen)])) ?_) (consr_eq (ret_eq (cmp_eq (x := .ref ((tl1 ++ [O.list (st.cells.map Cell.seen)]).length + 11)) (y := .ref ((tl1 ++ [O.list (st.cells.map Cell.seen)]).length + 1 + 11)) (H1 := B st ((tl1 ++ [O.list (st.cells.map Cell.seen)]) ++ [O.list []])) ?_ ?_ ?_)))⟩
  · refine comp_eq (x := .ref 6) (H1 := B st tl) (src := .lst 6 st.cells.length) (by kernel_rfl) (alt_left (bind_at (y := 6) rfl ?_)) e1 (need_true (decide_eq_true (by rw [max20, List.length_map]; lia)))
    show some (Src.lst 6 (st.cells.map Cell.v).length) = _
    rw [List.length_map]
  · refine comp_eq (x := .ref (tl1.length + 11)) (H1 := B st (tl1 ++ [O.list (st.cells.map Cell.seen)])) (src := .lst (tl1.length + 11) st.cells.length) (xs := []) (H2 := B st (tl1 ++ [O.list (st.cells.map Cell.seen)])) (by kernel_rfl) (alt_left (bind_at (y := tl1.length + 11) rfl ?_)) e2 (by rfl)
    show (((tl1 ++ [O.list (st.cells.map Cell.seen)])[tl1.length]?).bind oL).map _ = _
    rw [hsn]
    show some (Src.lst (tl1.length + 11) (st.cells.map Cell.seen).length) = _
    rw [List.length_map]
  · have : (.ref ((tl1 ++ [O.list (st.cells.map Cell.seen)]).length + 1 + 11) : V) = .ref (((tl1 ++ [O.list (st.cells.map Cell.seen)]) ++ [O.list []]).length + 11) := by rw [List.length_append (as := tl1 ++ [O.list (st.cells.map Cell.seen)])]; rfl
    rw [this]
    refine list_eq (xs := []) (H1 := B st ((tl1 ++ [O.list (st.cells.map Cell.seen)]) ++ [O.list []])) (by rfl) ?_
    show some (V.ref (((tl1 ++ [O.list (st.cells.map Cell.seen)]) ++ [O.list []]).length + 11), B st (((tl1 ++ [O.list (st.cells.map Cell.seen)]) ++ [O.list []]) ++ [O.list []])) = _
    rw [List.append_assoc (tl1 ++ [O.list (st.cells.map Cell.seen)]) [O.list []] [O.list []]]; rfl
  · have g1 : ((tl1 ++ [O.list (st.cells.map Cell.seen)]) ++ [O.list [], O.list []])[(tl1 ++ [O.list (st.cells.map Cell.seen)]).length]? = some (.list []) := by rw [List.getElem?_append_right (Nat.le_refl _), Nat.sub_self]; rfl
    have g2 : ((tl1 ++ [O.list (st.cells.map Cell.seen)]) ++ [O.list [], O.list []])[(tl1 ++ [O.list (st.cells.map Cell.seen)]).length + 1]? = some (.list []) := by rw [List.getElem?_append_right (Nat.le_add_right _ 1), Nat.add_sub_cancel_left]; rfl
    have h1 : asL (B st ((tl1 ++ [O.list (st.cells.map Cell.seen)]) ++ [O.list [], O.list []])) (.ref ((tl1 ++ [O.list (st.cells.map Cell.seen)]).length + 11)) = some [] := by
      show (((tl1 ++ [O.list (st.cells.map Cell.seen)]) ++ [O.list [], O.list []])[(tl1 ++ [O.list (st.cells.map Cell.seen)]).length]?).bind oL = _
      rw [g1]; rfl
    have h2 : asL (B st ((tl1 ++ [O.list (st.cells.map Cell.seen)]) ++ [O.list [], O.list []])) (.ref ((tl1 ++ [O.list (st.cells.map Cell.seen)]).length + 1 + 11)) = some [] := by
      show (((tl1 ++ [O.list (st.cells.map Cell.seen)]) ++ [O.list [], O.list []])[(tl1 ++ [O.list (st.cells.map Cell.seen)]).length + 1]?).bind oL = _
      rw [g2]; rfl
    exact alt_right rfl (alt_right rfl (alt_right rfl (alt_left ((need_true rfl).trans (bind_at h1 (bind_at h2 rfl))))))
end
end Mine

namespace Mine
section
open PySem
set_option autoImplicit false

theorem law_runs {sc : List V} (hsc : ∃ ns : List Int, sc = ns.map .int) : ∃ ρ' H', ex prg (callN prg 12) (dropS 1 b_law) ((List.replicate 20 Option.none).set 1 (some (.ref 0))) [.list sc] = some (.ret (.bool true), ρ', H') := by
  obtain ⟨w, which, right, top, us, vs, c, st, tl, hw, hk, hr, ht, A, go⟩ := start_ok hsc
  obtain ⟨right', it, st1, tl1, r12, r13, r15, r16, r17, r18, r19, e1, F⟩ := mid_ok hw hk hr ht A
  obtain ⟨wd, es, tl2, e2, k2, d2, W2⟩ := words_ok hw F
  obtain ⟨al, ts, rs, us', vs', hal, hit, hT, hu, hv, nu, nv, hc, h20, hdue⟩ := F.told
  have RI0 : RI w it wd c ts al us' vs' rs es st1 tl2 := ⟨d2, k2 _ _ hit, hT.mono k2, k2 _ _ hu, k2 _ _ hv⟩
  obtain ⟨y17, y18, tl3, e3, _⟩ := rows_loop hw F.inv F.cells W2 h20 hal nu nv hc hdue (r12 := r12) (r13 := r13) (r16 := some (.int ((2 ^ (2 * w) : Nat) : Int))) (r19 := r19) (2 ^ (2 * w)) 0 tl2 r17 r18 (Nat.zero_add _) RI0
  obtain ⟨ρ', H', e4⟩ := end_ok F.inv F.cells tl3 (a0 := Option.none) (a1 := some (.ref 0)) (a2 := some (.ref 1)) (a3 := some (.int w)) (a4 := some (.int which)) (a6 := some (.ref 7)) (a7 := some (.ref 13)) (a8 := some (.ref 16)) (a9 := some (.int c)) (a10 := some (.int right')) (a11 := some (.int top)) (a12 := r12) (a13 := r13)
    (a14 := some (.ref (it + 11))) (a15 := some (.ref (wd + 11))) (a16 := some (.int ((2 ^ (2 * w) : Nat) : Int))) (a17 := y17) (a18 := y18) (a19 := r19)
  refine ⟨ρ', H', go _ (cons_eq e1 (cons_eq (ρ1 := [Option.none, some (.ref 0), some (.ref 1), some (.int w), some (.int which), some (.ref 2), some (.ref 7), some (.ref 13), some (.ref 16), some (.int c), some (.int right'), some (.int top), r12, r13, some (.ref (it + 11)), some (.ref (wd + 11)), some (.int ((2 ^ (2 * w) : Nat) : Int)), r17, r18, r19]) (H1 := B st1 tl2) ?_ (cons_eq ?_ e4)))⟩
  · show (mCall (callN prg 12) 38 (mCons (ev prg (callN prg 12) (.loc 5)) (mVal (.tup []))) _ _).bind _ = _
    rw [(call_eq (row_one (x := .ref 2) (by kernel_rfl))).trans e2]
    rfl
  · have hRb : 2 ^ (2 * w) < 2 ^ 20 := Nat.pow_lt_pow_right (by decide) (by lia)
    exact for_eq (v := .rng 0 (2 ^ (2 * w) : Nat) 1) (src := .fix (rangeL 0 (2 ^ (2 * w) : Nat) 1)) (H1 := B st1 tl2) (by kernel_rfl) (range_src hRb) (by rw [range_len]; exact e3)
end
end Mine

namespace Mine.L1
section
open PySem PySem.W PyProof.Rows

set_option maxRecDepth 10000

/-! ### kinds of keys -/
noncomputable def atomIs : Atom → Value → Bool
  | .i n, v => Value.isInt n v
  | .s x, v => Value.isStrOf x v

theorem atomIs_i {n : Int} {v : Value} (h : atomIs (.i n) v = true) : ∃ t, v = .int n t := Value.isInt_shape h
theorem atomIs_s {x : Str} {v : Value} (h : atomIs (.s x) v = true) : ∃ t, v = .str x t := Value.isStrOf_shape h

section
variable {prog : Program} {w : World} {A : Around} {E : Value → Shared → Prop} {s : Shared}
theorem eqBool_int_str {a : Int} {b : Str} {t u : Tok} {Q : Bool → Shared → Prop} (h : Q false s) : wpAny (model prog w) A (eqBool (.int a t) (.str b u)) Q E s := by
  unfold eqBool
  refine wpAny_holding ?_
  show wpAny _ _ (if (Value.int a t == Value.str b u) = true then _ else _) Q E s
  rw [if_neg (by simp)]
  refine wpAny_bind (wpAny_mono (Q := fun v s' => v = .bool false ∧ s' = s) (E := E) (show wpAny _ _ (compareOp .Eq (.int a t) (.str b u)) _ _ _ from EqMixed.eq_int_str ⟨rfl, rfl⟩) ?_ fun _ _ x => x)
  rintro v s' ⟨rfl, rfl⟩
  exact wpAny_truthy_bool h
theorem eqBool_str_int {a : Int} {b : Str} {t u : Tok} {Q : Bool → Shared → Prop} (h : Q false s) : wpAny (model prog w) A (eqBool (.str b u) (.int a t)) Q E s := by
  unfold eqBool
  refine wpAny_holding ?_
  show wpAny _ _ (if (Value.str b u == Value.int a t) = true then _ else _) Q E s
  rw [if_neg (by simp)]
  refine wpAny_bind (wpAny_mono (Q := fun v s' => v = .bool false ∧ s' = s) (E := E) (show wpAny _ _ (compareOp .Eq (.str b u) (.int a t)) _ _ _ from EqMixed.eq_str_int ⟨rfl, rfl⟩) ?_ fun _ _ x => x)
  rintro v s' ⟨rfl, rfl⟩
  exact wpAny_truthy_bool h
end

noncomputable def atomHash (w : World) : Atom → Int
  | .i n => hashInt n
  | .s x => hashStr w x

noncomputable def atomKind (prog : Program) (w : World) : KeyKind prog w Atom where
  is := atomIs
  hash := atomHash w
  inj := fun v a b ha hb => by
    cases a <;> cases b
    · exact congrArg Atom.i (Value.isInt_inj _ _ _ ha hb)
    · obtain ⟨t, rfl⟩ := atomIs_i ha; cases hb
    · obtain ⟨t, rfl⟩ := atomIs_s ha; cases hb
    · exact congrArg Atom.s (Value.isStrOf_inj _ _ _ ha hb)
  byValue := fun k v h => by
    cases k
    · obtain ⟨t, rfl⟩ := atomIs_i h; rfl
    · obtain ⟨t, rfl⟩ := atomIs_s h; rfl
  pyHash := fun {A E s k v Q} hv h => by
    cases k
    · obtain ⟨t, rfl⟩ := atomIs_i hv; exact wpAny_pyHash_int h
    · obtain ⟨t, rfl⟩ := atomIs_s hv; exact wpAny_pyHash_str h
  eqBool := fun {A E s a b u v Q} hu hv h => by
    cases a <;> cases b
    · obtain ⟨t, rfl⟩ := atomIs_i hu; obtain ⟨t', rfl⟩ := atomIs_i hv
      refine wpAny_eqBool_int ?_
      simp only [Atom.i.injEq] at h
      exact h
    · obtain ⟨t, rfl⟩ := atomIs_i hu; obtain ⟨t', rfl⟩ := atomIs_s hv
      exact eqBool_int_str (by simpa using h)
    · obtain ⟨t, rfl⟩ := atomIs_s hu; obtain ⟨t', rfl⟩ := atomIs_i hv
      exact eqBool_str_int (by simpa using h)
    · obtain ⟨t, rfl⟩ := atomIs_s hu; obtain ⟨t', rfl⟩ := atomIs_s hv
      refine wpAny_eqBool_str ?_
      simpa using h
  «strs» := fun k x t v h => by
    cases k with
    | i n => cases h
    | s y =>
      obtain ⟨u, hu⟩ := atomIs_s h
      injection hu with hx
      subst hx
      cases v <;> rfl

/-! ### the relation of abstract and concrete states -/
abbrev listObj (vs : List Value) (n : Nat) : Obj := { cls := .type "list", data := .seq vs.toArray n }
abbrev tupObj (vs : List Value) (n : Nat) : Obj := { cls := .type "tuple", data := .seq vs.toArray n }

mutual
inductive VR (ι : List Addr) (h : Heap) : V → Value → Prop
  | none : VR ι h .none .none
  | bool (b : Bool) : VR ι h (.bool b) (.bool b)
  | int (i : Int) (t : Tok) : VR ι h (.int i) (.int i t)
  | str (s : Str) (t : Tok) : VR ι h (.str s) (.str s t)
  | ref (n : Nat) (a : Addr) : ι[n]? = some a → VR ι h (.ref n) (.ref a)
  | rng (a b c : Int) (r : Addr) (t u v : Tok) : IsRange h r a b c t u v → VR ι h (.rng a b c) (.ref r)
  | tup (xs : List V) (vs : List Value) (a : Addr) (n : Nat) : h.get? a = some (tupObj vs n) → VRs ι h xs vs → VR ι h (.tup xs) (.ref a)
inductive VRs (ι : List Addr) (h : Heap) : List V → List Value → Prop
  | nil : VRs ι h [] []
  | cons {v : V} {x : Value} {vs : List V} {xs : List Value} : VR ι h v x → VRs ι h vs xs → VRs ι h (v :: vs) (x :: xs)
end

noncomputable def frozen (o : Obj) : Bool := (match o.data with | .seq .. => true | .fields .. => true | _ => false) && (o.cls == .type "tuple" || o.cls == .type "range")
noncomputable def Frz (h h' : Heap) : Prop := ∀ b o, h.get? b = some o → frozen o = true → h'.get? b = some o

theorem Frz.refl (h : Heap) : Frz h h := fun _ _ e _ => e
theorem Frz.trans {h₁ h₂ h₃ : Heap} (x : Frz h₁ h₂) (y : Frz h₂ h₃) : Frz h₁ h₃ := fun b o e f => y b o (x b o e f) f

mutual
theorem VR.mono {ι ι' : List Addr} {h h' : Heap} (hp : ι <+: ι') (hf : Frz h h') : ∀ {v : V} {x : Value}, VR ι h v x → VR ι' h' v x
  | _, _, .none => .none
  | _, _, .bool b => .bool b
  | _, _, .int i t => .int i t
  | _, _, .str s t => .str s t
  | _, _, .ref n a e => .ref n a (by
      obtain ⟨r, rfl⟩ := hp
      rw [List.getElem?_append_left (List.getElem?_eq_some_iff.mp e).1]; exact e)
  | _, _, .rng a b c r t u v e => .rng a b c r t u v (hf _ _ e rfl)
  | _, _, .tup xs vs a n e q => .tup xs vs a n (hf _ _ e rfl) (VRs.mono hp hf q)
theorem VRs.mono {ι ι' : List Addr} {h h' : Heap} (hp : ι <+: ι') (hf : Frz h h') : ∀ {v : List V} {x : List Value}, VRs ι h v x → VRs ι' h' v x
  | _, _, .nil => .nil
  | _, _, .cons a b => .cons (VR.mono hp hf a) (VRs.mono hp hf b)
end

theorem VR.int_inv {ι : List Addr} {h : Heap} {n : Int} {x : Value} (q : VR ι h (.int n) x) : ∃ t, x = .int n t := by cases q; exact ⟨_, rfl⟩
theorem VR.str_inv {ι : List Addr} {h : Heap} {n : Str} {x : Value} (q : VR ι h (.str n) x) : ∃ t, x = .str n t := by cases q; exact ⟨_, rfl⟩
theorem VR.bool_inv {ι : List Addr} {h : Heap} {b : Bool} {x : Value} (q : VR ι h (.bool b) x) : x = .bool b := by cases q; rfl
theorem VR.none_inv {ι : List Addr} {h : Heap} {x : Value} (q : VR ι h .none x) : x = .none := by cases q; rfl
theorem VR.ref_inv {ι : List Addr} {h : Heap} {n : Nat} {x : Value} (q : VR ι h (.ref n) x) : ∃ a, x = .ref a ∧ ι[n]? = some a := by cases q; exact ⟨_, rfl, by assumption⟩
theorem VR.rng_inv {ι : List Addr} {h : Heap} {a b c : Int} {x : Value} (q : VR ι h (.rng a b c) x) : ∃ r t u v, x = .ref r ∧ IsRange h r a b c t u v := by cases q; exact ⟨_, _, _, _, rfl, by assumption⟩
theorem VR.tup_inv {ι : List Addr} {h : Heap} {xs : List V} {x : Value} (q : VR ι h (.tup xs) x) : ∃ vs a n, x = .ref a ∧ h.get? a = some (tupObj vs n) ∧ VRs ι h xs vs := by cases q; exact ⟨_, _, _, rfl, by assumption, by assumption⟩
theorem VR.sym_inv {ι : List Addr} {h : Heap} {y : Sy} {x : Value} (q : VR ι h (.sym y) x) : False := by cases q
theorem VRs.length {ι : List Addr} {h : Heap} : ∀ {v : List V} {x : List Value}, VRs ι h v x → v.length = x.length
  | _, _, .nil => rfl
  | _, _, .cons _ b => by simp [VRs.length b]
theorem VRs.one_inv {ι : List Addr} {h : Heap} {v : V} {vs : List Value} (q : VRs ι h [v] vs) : ∃ y, vs = [y] ∧ VR ι h v y := by cases q with | cons a b => cases b; exact ⟨_, rfl, a⟩
theorem VRs.get {ι : List Addr} {h : Heap} : ∀ {v : List V} {x : List Value}, VRs ι h v x → ∀ {i : Nat} {a : V}, v[i]? = some a → ∃ y, x[i]? = some y ∧ VR ι h a y
  | _, _, .nil, _, _, e => by simp at e
  | _, _, .cons p q, 0, _, e => by simp at e; subst e; exact ⟨_, rfl, p⟩
  | _, _, .cons p q, i + 1, _, e => by simp at e; exact VRs.get q e
theorem VRs.append {ι : List Addr} {h : Heap} : ∀ {v : List V} {x : List Value} {v' : List V} {x' : List Value}, VRs ι h v x → VRs ι h v' x' → VRs ι h (v ++ v') (x ++ x')
  | _, _, _, _, .nil, q => q
  | _, _, _, _, .cons a b, q => .cons a (VRs.append b q)
theorem VRs.take {ι : List Addr} {h : Heap} : ∀ {v : List V} {x : List Value} (n : Nat), VRs ι h v x → VRs ι h (v.take n) (x.take n)
  | _, _, 0, _ => .nil
  | _, _, _ + 1, .nil => .nil
  | _, _, n + 1, .cons a b => .cons a (VRs.take n b)
theorem VRs.drop {ι : List Addr} {h : Heap} : ∀ {v : List V} {x : List Value} (n : Nat), VRs ι h v x → VRs ι h (v.drop n) (x.drop n)
  | _, _, 0, q => q
  | _, _, _ + 1, .nil => .nil
  | _, _, n + 1, .cons a b => VRs.drop n b
theorem VRs.set {ι : List Addr} {h : Heap} : ∀ {v : List V} {x : List Value} (n : Nat) {a : V} {y : Value}, VRs ι h v x → VR ι h a y → VRs ι h (v.set n a) (x.set n y)
  | _, _, _, _, _, .nil, _ => .nil
  | _, _, 0, _, _, .cons _ b, q => .cons q b
  | _, _, n + 1, _, _, .cons a b, q => .cons a (VRs.set n b q)
theorem VRs.replicate {ι : List Addr} {h : Heap} {a : V} {y : Value} (q : VR ι h a y) : ∀ n, VRs ι h (List.replicate n a) (List.replicate n y)
  | 0 => .nil
  | n + 1 => .cons q (VRs.replicate q n)

/-- one abstract value where one is -/
noncomputable def OV (ι : List Addr) (h : Heap) : Option V → Option Value → Prop
  | some v, some x => VR ι h v x
  | Option.none, Option.none => True
  | _, _ => False
theorem OV.mono {ι ι' : List Addr} {h h' : Heap} (hp : ι <+: ι') (hf : Frz h h') {v : Option V} {x : Option Value} (q : OV ι h v x) : OV ι' h' v x := by
  cases v <;> cases x <;> first | exact q | exact VR.mono hp hf q

inductive FR (ι : List Addr) (h : Heap) : List (Str × V) → List DictEntry → Prop
  | nil : FR ι h [] []
  | cons {x : Str} {v : V} {t : Tok} {hs : Int} {y : Value} {fs : List (Str × V)} {es : List DictEntry} : VR ι h v y → FR ι h fs es → FR ι h ((x, v) :: fs) (⟨hs, .str x t, y⟩ :: es)
theorem FR.mono {ι ι' : List Addr} {h h' : Heap} (hp : ι <+: ι') (hf : Frz h h') {fs es} (q : FR ι h fs es) : FR ι' h' fs es := by
  induction q with
  | nil => exact .nil
  | cons a _ ih => exact .cons (a.mono hp hf) ih

section
variable (prog : Program) (w : World) (ca : Nat → Addr)

noncomputable def OR (ι : List Addr) (h : Heap) (a : Addr) : O → Prop
  | .list xs => ∃ vs n, h.get? a = some (listObj vs n) ∧ VRs ι h xs vs ∧ xs.length ≤ maxLen
  | .idict es => ∃ kvs, h.DictOf (intKind prog w) a kvs ∧ (∀ k, OV ι h (es.lookup k) (valueAt kvs k)) ∧ kvs.length ≤ es.length ∧ es.length ≤ maxLen
  | .sdict es => ∃ kvs, h.DictOf (PySem.strKind prog w) a kvs ∧ (∀ k, OV ι h (es.lookup k) (valueAt kvs k)) ∧ kvs.length ≤ es.length ∧ es.length ≤ maxLen
  | .tdict es => ∃ xs, h.DictOfH (tupleKind (atomKind prog w)) a xs ∧ (∀ k, OV ι h (es.lookup k) ((atKey xs k).map (·.2))) ∧ xs.length ≤ es.length ∧ es.length ≤ maxLen
  | .inst c d => ∃ D, ι[d]? = some D ∧ h.get? a = some (instObj (ca c) D) ∧ c ≤ 1
  | .ns fs => ∃ es n, h.get? a = some (dictOf es n) ∧ FR ι h fs es ∧ (∀ f ∈ fs, f.1 ∈ attrNames) ∧ fs.length ≤ 500

theorem DictOf_at {K : Type} [DecidableEq K] {prog : Program} {w : World} {knd : PySem.KeyKind prog w K} {h h' : Heap} {a : Addr} {f} (hm : h.DictOf knd a f) (e : ∀ o, h.get? a = some o → h'.get? a = some o) : h'.DictOf knd a f :=
  let ⟨o, es, ep, ho, r⟩ := hm; ⟨o, es, ep, e _ ho, r⟩
theorem DictOfH_at {h h' : Heap} {a : Addr} {xs} (hm : h.DictOfH (tupleKind (atomKind prog w)) a xs) (e : ∀ o, h.get? a = some o → h'.get? a = some o) (hf : Frz h h') : h'.DictOfH (tupleKind (atomKind prog w)) a xs := by
  obtain ⟨o, es, ep, ho, hx, hd, he, hi, hn⟩ := hm
  refine ⟨o, es, ep, e _ ho, hx, hd, he, fun x hxm => ?_, hn⟩
  obtain ⟨o', items, n, ho', hc, r⟩ := hi x hxm
  exact ⟨o', items, n, hf _ _ ho' (by simp [frozen, hc, r.1]), hc, r⟩

variable {prog w ca} in
theorem OR.mono {ι ι' : List Addr} {h h' : Heap} {a : Addr} {o : O} (q : OR prog w ca ι h a o) (hp : ι <+: ι') (hf : Frz h h') (e : ∀ o, h.get? a = some o → h'.get? a = some o) : OR prog w ca ι' h' a o := by
  cases o with
  | list xs => obtain ⟨vs, n, h1, h2, h3⟩ := q; exact ⟨vs, n, e _ h1, h2.mono hp hf, h3⟩
  | idict es => obtain ⟨f, h1, h2, h3⟩ := q; exact ⟨f, DictOf_at h1 e, fun k => (h2 k).mono hp hf, h3⟩
  | sdict es => obtain ⟨f, h1, h2, h3⟩ := q; exact ⟨f, DictOf_at h1 e, fun k => (h2 k).mono hp hf, h3⟩
  | tdict es => obtain ⟨xs, h1, h2, h3⟩ := q; exact ⟨xs, DictOfH_at prog w h1 e hf, fun k => (h2 k).mono hp hf, h3⟩
  | inst c d =>
    obtain ⟨D, h1, h2, h3⟩ := q
    refine ⟨D, ?_, e _ h2, h3⟩
    obtain ⟨r, rfl⟩ := hp
    rw [List.getElem?_append_left (List.getElem?_eq_some_iff.mp h1).1]; exact h1
  | ns fs => obtain ⟨es, n, h1, h2, h3⟩ := q; exact ⟨es, n, e _ h1, h2.mono hp hf, h3⟩

variable {prog w ca} in
theorem OR.alive {ι : List Addr} {h : Heap} {a : Addr} {o : O} (q : OR prog w ca ι h a o) : ∃ ob, h.get? a = some ob ∧ frozen ob = false := by
  cases o with
  | list xs => obtain ⟨vs, n, h1, _⟩ := q; exact ⟨_, h1, rfl⟩
  | idict es => obtain ⟨f, ⟨o, _, _, ho, hx, _⟩, _⟩ := q; exact ⟨o, ho, by simp [frozen, hx.1]⟩
  | sdict es => obtain ⟨f, ⟨o, _, _, ho, hx, _⟩, _⟩ := q; exact ⟨o, ho, by simp [frozen, hx.1]⟩
  | tdict es => obtain ⟨f, ⟨o, _, _, ho, hx, _⟩, _⟩ := q; exact ⟨o, ho, by simp [frozen, hx.1]⟩
  | inst c d => obtain ⟨D, _, h1, _⟩ := q; exact ⟨_, h1, rfl⟩
  | ns fs => obtain ⟨es, n, h1, _⟩ := q; exact ⟨_, h1, rfl⟩

structure Rel (h₀ : Heap) (L₀ : Addr) (ι : List Addr) (H : St) (h : Heap) : Prop where
  len : ι.length = H.length
  nodup : ι.Nodup
  base : ∀ b o, h₀.get? b = some o → h.get? b = some o
  fresh : ∀ a ∈ ι, h₀.objs.size ≤ a
  sys : sysModules < h₀.objs.size
  ns0 : ∃ m, h.Ns L₀ m
  apart0 : L₀ ∉ ι
  above0 : h₀.objs.size ≤ L₀
  obj : ∀ (n : Nat) (a : Addr) (o : O), ι[n]? = some a → H[n]? = some o → OR prog w ca ι h a o
end

/-- a step of the concrete state: what it may change -/
structure Go (L₀ : Addr) (X : Addr → Prop) (ι ι' : List Addr) (s s' : Shared) : Prop where
  pre : ι <+: ι'
  new : ∀ a ∈ ι', a ∈ ι ∨ s.heap.get? a = Option.none
  ext : ∀ b o, s.heap.get? b = some o → b ∉ ι → ¬ X b → b ≠ L₀ → s'.heap.get? b = some o
  ns0 : ¬ X L₀ → ∀ m, s.heap.Ns L₀ m → s'.heap.Ns L₀ m
  live : ∀ b, (s.heap.get? b).isSome = true → (s'.heap.get? b).isSome = true
  frz : Frz s.heap s'.heap
  gens : s'.gens = s.gens
  os : s'.os = s.os

variable {L₀ : Addr}
theorem Go.refl (X : Addr → Prop) (ι : List Addr) (s : Shared) : Go L₀ X ι ι s s := ⟨List.prefix_rfl, fun _ h => .inl h, fun _ _ e _ _ _ => e, fun _ _ h => h, fun _ h => h, Frz.refl _, rfl, rfl⟩
theorem Go.toks {X : Addr → Prop} {ι ι' : List Addr} {s s' : Shared} (g : Go L₀ X ι ι' s s') (t : Nat) : Go L₀ X ι ι' s { s' with toks := t } := ⟨g.pre, g.new, g.ext, g.ns0, g.live, g.frz, g.gens, g.os⟩
theorem Go.trans {X : Addr → Prop} {ι ι' ι'' : List Addr} {s s' s'' : Shared} (x : Go L₀ X ι ι' s s') (y : Go L₀ X ι' ι'' s' s'') : Go L₀ X ι ι'' s s'' where
  pre := x.pre.trans y.pre
  new := fun a ha => (y.new a ha).elim (x.new a) fun h => by
    cases e : s.heap.get? a with
    | none => exact .inr rfl
    | some o => have := x.live a (by rw [e]; rfl); rw [h] at this; cases this
  ext := fun b o e h1 h2 h3 => y.ext b o (x.ext b o e h1 h2 h3) (fun h => (x.new b h).elim h1 fun h => by rw [h] at e; cases e) h2 h3
  ns0 := fun h m n => y.ns0 h m (x.ns0 h m n)
  live := fun b h => y.live b (x.live b h)
  frz := x.frz.trans y.frz
  gens := y.gens.trans x.gens
  os := y.os.trans x.os
theorem Go.weaken {X Y : Addr → Prop} {ι ι' : List Addr} {s s' : Shared} (g : Go L₀ X ι ι' s s') (h : ∀ b, X b → Y b ∨ s.heap.get? b = Option.none) : Go L₀ Y ι ι' s s' where
  pre := g.pre
  new := g.new
  ext := fun b o e h1 h2 h3 => g.ext b o e h1 (fun hx => (h b hx).elim h2 fun hs => by rw [hs] at e; cases e) h3
  ns0 := fun hY m n => g.ns0 (fun hx => (h _ hx).elim hY fun hs => by obtain ⟨o, _, _, ho, _⟩ := n; rw [hs] at ho; cases ho) m n
  live := g.live
  frz := g.frz
  gens := g.gens
  os := g.os

abbrev No : Addr → Prop := fun _ => False

end
end Mine.L1

namespace Mine.L1
section
open PySem PySem.W PyProof.Rows
set_option maxRecDepth 10000

noncomputable def Room (k : Nat) (A : Around) : Prop := A.handled = Option.none ∧ A.depth + k + 8 < recursionLimit ∧ A.units + 8 * k + 64 < cLine
theorem Room.in1 {k : Nat} {A : Around} (h : Room (k + 1) A) : Room k A.in1 := ⟨h.1, by have := h.2.1; show A.depth + _ + _ < _; lia, by have := h.2.2; show A.units + 1 + _ + _ < _; lia⟩
theorem Room.deeper {k : Nat} {A : Around} {env : Env} (h : Room (k + 1) A) : Room k (A.deeper env) := ⟨h.1, by have := h.2.1; show A.depth + 1 + _ + _ < _; lia, by have := h.2.2; show A.units + 3 + _ + _ < _; lia⟩
theorem Room.le {k j : Nat} {A : Around} (h : Room k A) (hj : j ≤ k) : Room j A := ⟨h.1, by have := h.2.1; lia, by have := h.2.2; lia⟩
theorem Room.depth {k : Nat} {A : Around} (h : Room k A) : A.depth < recursionLimit := by have := h.2.1; lia
theorem Room.units {k : Nat} {A : Around} (h : Room k A) : A.units + 60 < cLine := by have := h.2.2; lia

section
variable (h₀ : Heap)

structure EnvR (L₀ : Addr) (sl : List Str) (env : Env) (ρ : Rho) (ι : List Addr) (h : Heap) : Prop where
  kind : env.scope.kind = .function
  glob : env.globals = mainGlobals
  bi : env.builtins = builtinsNs
  apart : env.locals ∉ ι
  above : h₀.objs.size ≤ env.locals
  ns : ∃ m, h.Ns env.locals m ∧ ∀ (i : Nat) (x : Str) (v : V), sl[i]? = some x → ρ[i]? = some (some v) → env.kindOf x = some .local → ∃ y, m x = some y ∧ VR ι h v y
  cell : ∀ (i : Nat) (x : Str), sl[i]? = some x → (env.kindOf x = some .cell ∨ env.kindOf x = some .free) → ∃ c ov, env.cells.lookup x = some c ∧ c ∉ ι ∧ (h₀.objs.size ≤ c ∧ c ≠ L₀) ∧ h.IsCell c ov ∧ ∀ v, ρ[i]? = some (some v) → ∃ y, ov = some y ∧ VR ι h v y
  inj : ∀ x y c, env.cells.lookup x = some c → env.cells.lookup y = some c → x = y
  len : ρ.length = sl.length

variable {h₀} {L₀ : Addr}
theorem Ns_alive {h : Heap} {a : Addr} {m} (n : h.Ns a m) : ∃ o, h.get? a = some o := let ⟨o, _, _, ho, _⟩ := n; ⟨o, ho⟩
theorem Ns_at {h h' : Heap} {a : Addr} {m} (n : h.Ns a m) (e : ∀ o, h.get? a = some o → h'.get? a = some o) : h'.Ns a m := let ⟨o, es, ep, ho, r⟩ := n; ⟨o, es, ep, e _ ho, r⟩
theorem IsCell_at {h h' : Heap} {a : Addr} {v} (n : h.IsCell a v) (e : ∀ o, h.get? a = some o → h'.get? a = some o) : h'.IsCell a v := let ⟨o, ho, r⟩ := n; ⟨o, e _ ho, r⟩
theorem IsCell_alive {h : Heap} {a : Addr} {v} (n : h.IsCell a v) : ∃ o, h.get? a = some o := let ⟨o, ho, _⟩ := n; ⟨o, ho⟩

theorem Go.notin {X : Addr → Prop} {ι ι' : List Addr} {s s' : Shared} (g : Go L₀ X ι ι' s s') {b : Addr} {o : Obj} (e : s.heap.get? b = some o) (h : b ∉ ι) : b ∉ ι' :=
  fun hb => (g.new b hb).elim h fun hs => by rw [hs] at e; cases e
theorem Go.ns {ι ι' : List Addr} {s s' : Shared} (g : Go L₀ No ι ι' s s') {a : Addr} {m} (n : s.heap.Ns a m) (h : a ∉ ι) : s'.heap.Ns a m := by
  by_cases e : a = L₀
  · subst e; exact g.ns0 (fun x => x) m n
  · exact Ns_at n fun o ho => g.ext _ _ ho h (fun x => x) e
theorem Go.isCell {ι ι' : List Addr} {s s' : Shared} (g : Go L₀ No ι ι' s s') {a : Addr} {v} (n : s.heap.IsCell a v) (h : a ∉ ι) (h0 : a ≠ L₀) : s'.heap.IsCell a v :=
  IsCell_at n fun o ho => g.ext _ _ ho h (fun x => x) h0

theorem EnvR.mono {sl : List Str} {env : Env} {ρ : Rho} {ι ι' : List Addr} {s s' : Shared} (q : EnvR h₀ L₀ sl env ρ ι s.heap) (g : Go L₀ No ι ι' s s') : EnvR h₀ L₀ sl env ρ ι' s'.heap where
  kind := q.kind
  glob := q.glob
  bi := q.bi
  apart := by obtain ⟨m, hn, _⟩ := q.ns; obtain ⟨o, ho⟩ := Ns_alive hn; exact g.notin ho q.apart
  above := q.above
  ns := by
    obtain ⟨m, hn, hv⟩ := q.ns
    refine ⟨m, g.ns hn q.apart, fun i x v h1 h2 h3 => ?_⟩
    obtain ⟨y, h4, h5⟩ := hv i x v h1 h2 h3
    exact ⟨y, h4, h5.mono g.pre g.frz⟩
  cell := fun i x h1 h2 => by
    obtain ⟨c, ov, e1, e2, e3, e4, e5⟩ := q.cell i x h1 h2
    obtain ⟨o, ho⟩ := IsCell_alive e4
    refine ⟨c, ov, e1, g.notin ho e2, e3, g.isCell e4 e2 e3.2, fun v hv => ?_⟩
    obtain ⟨y, h4, h5⟩ := e5 v hv
    exact ⟨y, h4, h5.mono g.pre g.frz⟩
  inj := q.inj
  len := q.len
end

section
variable {prog : Program} {w : World} {ca : Nat → Addr} {h₀ : Heap} {L₀ : Addr}

theorem Rel.big {ι : List Addr} {H : St} {h : Heap} (R : Rel prog w ca h₀ L₀ ι H h) : h₀.objs.size ≤ h.objs.size := by
  obtain ⟨m, n⟩ := R.ns0
  obtain ⟨o, ho⟩ := Ns_alive n
  exact Nat.le_trans R.above0 (Nat.le_of_lt (Heap.lt_size ho))
theorem Rel.mono {ι : List Addr} {H : St} {h h' : Heap} (R : Rel prog w ca h₀ L₀ ι H h) (hb : ∀ b o, h.get? b = some o → h₀.get? b = some o → h'.get? b = some o)
    (hi : ∀ a ∈ ι, ∀ o, h.get? a = some o → h'.get? a = some o) (hf : Frz h h') (h0 : ∃ m, h'.Ns L₀ m) : Rel prog w ca h₀ L₀ ι H h' where
  len := R.len
  sys := R.sys
  nodup := R.nodup
  base := fun b o e => hb b o (R.base b o e) e
  fresh := R.fresh
  ns0 := h0
  apart0 := R.apart0
  above0 := R.above0
  obj := fun n a o h1 h2 => (R.obj n a o h1 h2).mono List.prefix_rfl hf (hi a (List.mem_of_getElem? h1))

theorem push_size (h : Heap) (o : Obj) : (h.push o).objs.size = h.objs.size + 1 := by simp [Heap.push]
theorem Frz.push (h : Heap) (o : Obj) : Frz h (h.push o) := fun _ _ e _ => Heap.get?_push_of_some o e
theorem live_push (h : Heap) (o : Obj) (b : Addr) (e : (h.get? b).isSome = true) : ((h.push o).get? b).isSome = true := by
  obtain ⟨x, hx⟩ := Option.isSome_iff_exists.mp e
  rw [Heap.get?_push_of_some o hx]; rfl
theorem get?_size (h : Heap) : h.get? h.objs.size = Option.none := by
  cases e : h.get? h.objs.size with
  | none => rfl
  | some o => exact absurd (Heap.lt_size e) (Nat.lt_irrefl _)
theorem Rel.push {ι : List Addr} {H : St} {h : Heap} (R : Rel prog w ca h₀ L₀ ι H h) (o : Obj) : Rel prog w ca h₀ L₀ ι H (h.push o) :=
  R.mono (fun _ _ e _ => Heap.get?_push_of_some o e) (fun _ _ _ e => Heap.get?_push_of_some o e) (Frz.push h o) (by obtain ⟨m, n⟩ := R.ns0; exact ⟨m, n.push o⟩)
theorem Go.push (X : Addr → Prop) (ι : List Addr) (s : Shared) (o : Obj) : Go L₀ X ι ι s { s with heap := s.heap.push o } :=
  ⟨List.prefix_rfl, fun _ h => .inl h, fun _ _ e _ _ _ => Heap.get?_push_of_some o e, fun _ m n => n.push o, live_push _ o, Frz.push _ o, rfl, rfl⟩
theorem Go.alloc (X : Addr → Prop) (ι : List Addr) (s : Shared) (o : Obj) : Go L₀ X ι (ι ++ [s.heap.objs.size]) s { s with heap := s.heap.push o } :=
  ⟨List.prefix_append _ _, fun a h => (List.mem_append.mp h).imp id fun h => by rw [List.mem_singleton.mp h]; exact get?_size _, fun _ _ e _ _ _ => Heap.get?_push_of_some o e, fun _ m n => n.push o, live_push _ o, Frz.push _ o, rfl, rfl⟩

theorem Rel.lt {ι : List Addr} {H : St} {h : Heap} (R : Rel prog w ca h₀ L₀ ι H h) {a : Addr} (ha : a ∈ ι) : ∃ o, h.get? a = some o ∧ frozen o = false := by
  obtain ⟨n, hn⟩ := List.mem_iff_getElem?.mp ha
  have hl : n < H.length := by rw [← R.len]; exact (List.getElem?_eq_some_iff.mp hn).1
  exact (R.obj n a _ hn (List.getElem?_eq_getElem hl)).alive

/-- a new tracked object -/
theorem Rel.track {ι : List Addr} {H : St} {h h' : Heap} {a : Addr} (R : Rel prog w ca h₀ L₀ ι H h') (ha : a ∉ ι) (h0 : a ≠ L₀) (hs : h₀.objs.size ≤ a) {o : O}
    (ho : OR prog w ca (ι ++ [a]) h' a o) : Rel prog w ca h₀ L₀ (ι ++ [a]) (H ++ [o]) h' where
  len := by simp [R.len]
  nodup := by
    refine List.nodup_append.mpr ⟨R.nodup, by simp, fun x hx b hb => ?_⟩
    rw [List.mem_singleton.mp hb]
    rintro rfl
    exact ha hx
  base := R.base
  fresh := fun x hx => (List.mem_append.mp hx).elim (R.fresh x) fun h => by rw [List.mem_singleton.mp h]; exact hs
  sys := R.sys
  ns0 := R.ns0
  apart0 := fun h => (List.mem_append.mp h).elim R.apart0 fun h => h0 (List.mem_singleton.mp h).symm
  above0 := R.above0
  obj := fun n x o' h1 h2 => by
    rcases Nat.lt_trichotomy n ι.length with hn | hn | hn
    · rw [List.getElem?_append_left hn] at h1
      rw [List.getElem?_append_left (by rw [← R.len]; exact hn)] at h2
      exact (R.obj n x o' h1 h2).mono (List.prefix_append _ _) (Frz.refl _) fun _ e => e
    · subst hn
      rw [List.getElem?_append_right (Nat.le_refl _)] at h1
      rw [R.len, List.getElem?_append_right (Nat.le_refl _)] at h2
      simp at h1 h2
      subst h1 h2
      exact ho
    · rw [List.getElem?_append_right (by lia)] at h1
      have : n - ι.length ≠ 0 := by lia
      simp [this] at h1

theorem Rel.alloc {ι : List Addr} {H : St} {h : Heap} (R : Rel prog w ca h₀ L₀ ι H h) {ob : Obj} {o : O}
    (ho : OR prog w ca (ι ++ [h.objs.size]) (h.push ob) h.objs.size o) : Rel prog w ca h₀ L₀ (ι ++ [h.objs.size]) (H ++ [o]) (h.push ob) := by
  refine (R.push ob).track (h := h) (fun hx => ?_) ?_ R.big ho
  · obtain ⟨o, ho, _⟩ := R.lt hx
    exact Nat.lt_irrefl _ (Heap.lt_size ho)
  · rintro e
    obtain ⟨m, n⟩ := R.ns0
    obtain ⟨o, ho⟩ := Ns_alive n
    rw [← e] at ho
    exact Nat.lt_irrefl _ (Heap.lt_size ho)

theorem Go.upd (X : Addr → Prop) {ι : List Addr} {s : Shared} {h' : Heap} {a : Addr} (ha : a ∈ ι) (h0 : L₀ ∉ ι) {o o' : Obj} (ho : s.heap.get? a = some o) (ho' : h'.get? a = some o') (hf : frozen o = false) (hs : Heap.SameBut a s.heap h') : Go L₀ X ι ι s { s with heap := h' } where
  pre := List.prefix_rfl
  new := fun _ h => .inl h
  ext := fun b o' e h1 _ _ => (hs.2 b (fun h => h1 (h ▸ ha))).trans e
  ns0 := fun _ m n => n.sameBut hs fun h => h0 (h ▸ ha)
  live := fun b e => by
    by_cases h : b = a
    · subst h; show (h'.get? b).isSome = true; rw [ho']; rfl
    · show (h'.get? b).isSome = true; rw [hs.2 b h]; exact e
  frz := fun b o' e h1 => (hs.2 b (fun h => by subst h; rw [ho] at e; cases e; rw [hf] at h1; cases h1)).trans e
  gens := rfl
  os := rfl

theorem Rel.upd {ι : List Addr} {H : St} {h h' : Heap} (R : Rel prog w ca h₀ L₀ ι H h) {n : Nat} {a : Addr} (hn : ι[n]? = some a) (hs : Heap.SameBut a h h') {o : O}
    (ho : OR prog w ca ι h' a o) : Rel prog w ca h₀ L₀ ι (H.set n o) h' := by
  obtain ⟨ob, hob, hfr⟩ := R.lt (List.mem_of_getElem? hn)
  have hlt : n < H.length := by rw [← R.len]; exact (List.getElem?_eq_some_iff.mp hn).1
  have hf : Frz h h' := fun b o' e h1 => (hs.2 b (fun h => by subst h; rw [hob] at e; cases e; rw [hfr] at h1; cases h1)).trans e
  refine ⟨by simp [R.len], R.nodup, fun b o' e => (hs.2 b ?_).trans (R.base b o' e), R.fresh, R.sys, ?_, R.apart0, R.above0, fun j b o' h1 h2 => ?_⟩
  · rintro rfl
    exact absurd (Heap.lt_size e) (Nat.not_lt.mpr (R.fresh b (List.mem_of_getElem? hn)))
  · obtain ⟨m, nn⟩ := R.ns0
    exact ⟨m, nn.sameBut hs fun h => R.apart0 (h ▸ List.mem_of_getElem? hn)⟩
  · by_cases hj : j = n
    · subst hj
      rw [hn] at h1; cases h1
      rw [List.getElem?_set_self hlt] at h2; cases h2
      exact ho
    · rw [List.getElem?_set_ne (fun h => hj h.symm)] at h2
      have hab : b ≠ a := fun h => hj ((List.getElem?_inj (List.getElem?_eq_some_iff.mp h1).1 R.nodup).mp (by rw [h1, hn, h]))
      exact (R.obj j b o' h1 h2).mono List.prefix_rfl hf fun o e => (hs.2 b hab).trans e

variable (prog w ca h₀ L₀)
/-- what an expression does -/
noncomputable def EOk (sl : List Str) (sc : Scope) (k : Nat) (e : Expr) (d : Rho → St → Option (V × St)) : Prop :=
  ∀ (A : Around) (env : Env) (ρ : Rho) (ι : List Addr) (H : St) (s : Shared) (v : V) (H' : St), env.scope = sc → Room k A → EnvR h₀ L₀ sl env ρ ι s.heap → Rel prog w ca h₀ L₀ ι H s.heap → d ρ H = some (v, H') →
    ∀ (Q : Value → Shared → Prop) (E : Value → Shared → Prop), (∀ x ι' s', Go L₀ No ι ι' s s' → Rel prog w ca h₀ L₀ ι' H' s'.heap → VR ι' s'.heap v x → Q x s') → wpAny (model prog w) A (eval e env) Q E s

noncomputable def TOk (sl : List Str) (sc : Scope) (k : Nat) (e : Expr) (d : Rho → St → Option (Bool × St)) : Prop :=
  ∀ (A : Around) (env : Env) (ρ : Rho) (ι : List Addr) (H : St) (s : Shared) (b : Bool) (H' : St), env.scope = sc → Room k A → EnvR h₀ L₀ sl env ρ ι s.heap → Rel prog w ca h₀ L₀ ι H s.heap → d ρ H = some (b, H') →
    ∀ (Q : Bool → Shared → Prop) (E : Value → Shared → Prop), (∀ ι' s', Go L₀ No ι ι' s s' → Rel prog w ca h₀ L₀ ι' H' s'.heap → Q b s') → wpAny (model prog w) A (isTrue e env (eval e env)) Q E s

noncomputable def EsOk (sl : List Str) (sc : Scope) (k : Nat) (es : List Expr) (d : Rho → St → Option (List V × St)) : Prop :=
  ∀ (A : Around) (env : Env) (ρ : Rho) (ι : List Addr) (H : St) (s : Shared) (v : List V) (H' : St) (pos : Pos), env.scope = sc → Room k A → EnvR h₀ L₀ sl env ρ ι s.heap → Rel prog w ca h₀ L₀ ι H s.heap → d ρ H = some (v, H') →
    ∀ (Q : List Value → Shared → Prop) (E : Value → Shared → Prop), (∀ x ι' s', Go L₀ No ι ι' s s' → Rel prog w ca h₀ L₀ ι' H' s'.heap → VRs ι' s'.heap v x → Q x s') → wpAny (model prog w) A (spliced (backTo pos (starEach es env))) Q E s

/-- what a step on values does -/
noncomputable def VOk (k : Nat) (r : Option (V × St)) (H : St) (ι : List Addr) (A : Around) (s : Shared) (t : Sem Value) : Prop :=
  ∀ (v : V) (H' : St), r = some (v, H') → Room k A → Rel prog w ca h₀ L₀ ι H s.heap → ∀ (Q : Value → Shared → Prop) (E : Value → Shared → Prop), (∀ x ι' s', Go L₀ No ι ι' s s' → Rel prog w ca h₀ L₀ ι' H' s'.heap → VR ι' s'.heap v x → Q x s') → wpAny (model prog w) A t Q E s
variable {prog w ca h₀ L₀}

variable {sl : List Str} {sc : Scope} {k : Nat}

/-! names, constants -/
theorem EOk.loc {x : Str} {pos : Pos} {i : Nat} (hi : sl[i]? = some x) (hk : sc.names.lookup x = some .local ∨ sc.names.lookup x = some .cell ∨ sc.names.lookup x = some .free)
    (hd : (x == ("__debug__" : Str)) = false) (hc : (x == ("__classdict__" : Str)) = false) : EOk prog w ca h₀ L₀ sl sc k (.Name x pos) (locR i) := by
  intro A env ρ ι H s v H' hsc hr he hR hd' Q E hQ
  subst hsc
  obtain ⟨u, hu, e⟩ := Option.map_eq_some_iff.mp hd'
  cases e
  have hρ : ρ[i]? = some (some v) := by
    cases h : ρ[i]? with
    | none => rw [h] at hu; cases hu
    | some o => rw [h] at hu; exact congrArg some hu
  refine wpAny_Name ?_ hd
  rcases hk with hk | hk | hk
  · obtain ⟨m, hn, hv⟩ := he.ns
    obtain ⟨y, h1, h2⟩ := hv i x v hi hρ hk
    exact wpAny_loadName_local he.kind hk hn h1 (hQ _ _ _ (Go.refl _ _ _) hR h2)
  · obtain ⟨c, ov, e1, _, _, e4, e5⟩ := he.cell i x hi (.inl hk)
    obtain ⟨y, rfl, h2⟩ := e5 v hρ
    exact wpAny_loadName_cell he.kind hk e1 e4 (hQ _ _ _ (Go.refl _ _ _) hR h2)
  · obtain ⟨c, ov, e1, _, _, e4, e5⟩ := he.cell i x hi (.inr hk)
    obtain ⟨y, rfl, h2⟩ := e5 v hρ
    exact wpAny_loadName_free he.kind hk e1 e4 (hQ _ _ _ (Go.refl _ _ _) hR h2) hc

theorem EOk.cint {n : Int} {kd : Nat} {pos : Pos} : EOk prog w ca h₀ L₀ sl sc k (.Constant (.int n) kd pos) (mVal (.int n)) := by
  intro A env ρ ι H s v H' hsc hr he hR hd Q E hQ
  cases hd
  exact wpAny_Constant_int (hQ _ _ _ ((Go.refl _ _ _).toks _) hR (.int _ _))
theorem EOk.cstr {x : Str} {kd : Nat} {pos : Pos} : EOk prog w ca h₀ L₀ sl sc k (.Constant (.str x) kd pos) (mVal (.str x)) := by
  intro A env ρ ι H s v H' hsc hr he hR hd Q E hQ
  cases hd
  exact wpAny_Constant_str (hQ _ _ _ ((Go.refl _ _ _).toks _) hR (.str _ _))
theorem EOk.cbool {b : Bool} {kd : Nat} {pos : Pos} : EOk prog w ca h₀ L₀ sl sc k (.Constant (.bool b) kd pos) (mVal (.bool b)) := by
  intro A env ρ ι H s v H' hsc hr he hR hd Q E hQ
  cases hd
  exact wpAny_Constant_bool (hQ _ _ _ (Go.refl _ _ _) hR (.bool _))

/-! two expressions, then a step -/
theorem EOk.two {e₁ e₂ : Expr} {d₁ d₂ : Rho → St → Option (V × St)} (h1 : EOk prog w ca h₀ L₀ sl sc k e₁ d₁) (h2 : EOk prog w ca h₀ L₀ sl sc k e₂ d₂) {α : Type} {f : V → V → St → Option α}
    {A : Around} {env : Env} {ρ : Rho} {ι : List Addr} {H : St} {s : Shared} {r : α} (hsc : env.scope = sc) (hr : Room k A) (he : EnvR h₀ L₀ sl env ρ ι s.heap) (hR : Rel prog w ca h₀ L₀ ι H s.heap)
    (hd : ((d₁ ρ H).bind fun x => (d₂ ρ x.2).bind fun y => f x.1 y.1 y.2) = some r) {E : Value → Shared → Prop} {β : Type} {t : Value → Value → Sem β} {P : β → Shared → Prop}
    (hQ : ∀ a b H' x y ι' s', f a b H' = some r → Go L₀ No ι ι' s s' → Rel prog w ca h₀ L₀ ι' H' s'.heap → VR ι' s'.heap a x → VR ι' s'.heap b y → wpAny (model prog w) A (t x y) P E s') :
    wpAny (model prog w) A (eval e₁ env) (fun x s₁ => wpAny (model prog w) A (eval e₂ env) (fun y s₂ => wpAny (model prog w) A (t x y) P E s₂) E s₁) E s := by
  obtain ⟨⟨a, H1⟩, e1, hd⟩ := Option.bind_eq_some_iff.mp hd
  obtain ⟨⟨b, H2⟩, e2, hd⟩ := Option.bind_eq_some_iff.mp hd
  exact h1 A env ρ ι H s a H1 hsc hr he hR e1 _ _ fun x ι1 s1 g1 R1 V1 => h2 A env ρ ι1 H1 s1 b H2 hsc hr (he.mono g1) R1 e2 _ _ fun y ι2 s2 g2 R2 V2 =>
    hQ a b H2 x y ι2 s2 hd (g1.trans g2) R2 (V1.mono g2.pre g2.frz) V2

theorem EOk.bin_of {e₁ e₂ : Expr} {op : Operator} {pos : Pos} {d₁ d₂ : Rho → St → Option (V × St)} (h1 : EOk prog w ca h₀ L₀ sl sc k e₁ d₁) (h2 : EOk prog w ca h₀ L₀ sl sc k e₂ d₂)
    (hb : ∀ a b x y H ι s A, VR ι s.heap a x → VR ι s.heap b y → VOk prog w ca h₀ L₀ k (binop op a b H) H ι A s (binaryOp op x y)) :
    EOk prog w ca h₀ L₀ sl sc k (.BinOp e₁ op e₂ pos) (mBin op d₁ d₂) := by
  intro A env ρ ι H s v H' hsc hr he hR hd Q E hQ
  refine wpAny_BinOp (EOk.two h1 h2 hsc hr he hR hd fun a b H2 x y ι2 s2 e g R2 Va Vb => ?_)
  exact hb a b x y H2 ι2 s2 A Va Vb _ _ e hr R2 _ _ fun z ι3 s3 g3 R3 V3 => hQ z ι3 s3 (g.trans g3) R3 V3

theorem EOk.neg {e : Expr} {pos : Pos} {d : Rho → St → Option (V × St)} (h1 : EOk prog w ca h₀ L₀ sl sc k e d) :
    EOk prog w ca h₀ L₀ sl sc k (.UnaryOp .USub e pos) (mNeg d) := by
  intro A env ρ ι H s v H' hsc hr he hR hd Q E hQ
  obtain ⟨⟨a, H1⟩, e1, hd⟩ := bind_inv hd
  obtain ⟨n, e2, e⟩ := map_inv hd
  cases e
  refine wpAny_UnaryOp (h1 A env ρ ι H s a H1 hsc hr he hR e1 _ _ fun x ι1 s1 g1 R1 V1 => ?_)
  obtain rfl : a = .int n := asI_inv e2
  obtain ⟨t, rfl⟩ := V1.int_inv
  exact neg_int (hQ _ _ _ (g1.toks _) R1 (.int _ _))
end
end
end Mine.L1

namespace Mine.L1
section
open PySem PySem.W PyProof.Rows
set_option maxRecDepth 10000

section
variable {prog : Program} {w : World} {ca : Nat → Addr} {h₀ : Heap} {L₀ : Addr}
variable {sl : List Str} {sc : Scope} {k : Nat}

theorem mulOk_ok {a b : Int} (h : mulOk a b = true) : IntMulOk a b := by
  rcases Bool.or_eq_true_iff.mp h with h | h
  · exact IntMulOk.of_left (intBits_le_64 (by have := of_decide_eq_true h; lia) (by have := of_decide_eq_true h; lia))
  · exact IntMulOk.of_right (intBits_le_64 (by have := of_decide_eq_true h; lia) (by have := of_decide_eq_true h; lia))

theorem log2_lt {n : Nat} (h : n < 2 ^ 100) : n.log2 < 9000 := by
  rcases Nat.eq_zero_or_pos n with h0 | hp
  · rw [h0]; decide
  · have := (Nat.log2_lt (Nat.ne_of_gt hp)).mpr h; lia
theorem intBits_two {a : Int} (h : a.natAbs ≤ 2) : Builtin.Int.intBits a ≤ 2 := by
  have : a = 0 ∨ a = 1 ∨ a = -1 ∨ a = 2 ∨ a = -2 := by lia
  rcases this with rfl | rfl | rfl | rfl | rfl <;> decide

theorem binI_ok {op : Operator} {a b z : Int} (h : binI op a b = some z) {A : Around} {E : Value → Shared → Prop} {s : Shared} {t u : Tok} {Q : Value → Shared → Prop}
    (hQ : Q (.int z s.toks) { s with toks := s.toks + 1 }) : wpAny (model prog w) A (binaryOp op (.int a t) (.int b u)) Q E s := by
  cases op
  case Add => cases h; exact add_int hQ
  case Sub => cases h; exact sub_int hQ
  case Mult =>
    obtain ⟨hm, h⟩ := need_inv (show need (mulOk a b) _ = _ from h)
    cases h; exact mul_int hQ (mulOk_ok hm)
  case Mod =>
    obtain ⟨hm, h⟩ := need_inv (show need (decide (b ≠ 0)) _ = _ from h)
    cases h; exact mod_int (of_decide_eq_true hm) hQ
  case FloorDiv =>
    obtain ⟨hm, h⟩ := need_inv (show need (decide (b ≠ 0 ∧ b.natAbs < 2 ^ 100)) _ = _ from h)
    have hb := of_decide_eq_true hm
    cases h
    exact floordiv_int hb.1 hQ (.inl (PyProof.noPylong_of_log2 (log2_lt hb.2)))
  case Pow =>
    obtain ⟨hm, h⟩ := need_inv (show need (decide (0 ≤ b ∧ b ≤ 1024 ∧ a.natAbs ≤ 2)) _ = _ from h)
    obtain ⟨h1, h2, h3⟩ := of_decide_eq_true hm
    cases h
    refine pow_int h1 ?_ hQ
    have h4 := intBits_two h3
    have h5 : (Builtin.Int.intBits a : Int) ≤ 2 := by exact_mod_cast h4
    calc (Builtin.Int.intBits a : Int) * b ≤ 2 * b := Int.mul_le_mul_of_nonneg_right h5 h1
      _ ≤ 2 ^ 27 := by lia
  case BitOr => cases h; exact or_int hQ
  case BitXor => cases h; exact xor_int hQ
  case BitAnd => cases h; exact and_int hQ
  all_goals cases h

theorem Rel.at {ι : List Addr} {H : St} {h : Heap} (R : Rel prog w ca h₀ L₀ ι H h) {n : Nat} {a : Addr} (e : ι[n]? = some a) {o : O} (ho : H[n]? = some o) : OR prog w ca ι h a o := R.obj n a o e ho

theorem listAt_some {H : St} {n : Nat} {xs : List V} (h : listAt H n = some xs) : H[n]? = some (.list xs) := by
  obtain ⟨o, e1, e2⟩ := bind_inv h
  rw [e1, oL_inv e2]

theorem Rel.list {ι : List Addr} {H : St} {h : Heap} (R : Rel prog w ca h₀ L₀ ι H h) {n : Nat} {a : Addr} (e : ι[n]? = some a) {xs : List V} (ho : listAt H n = some xs) :
    ∃ vs m, h.get? a = some (listObj vs m) ∧ VRs ι h xs vs ∧ xs.length ≤ maxLen := R.obj n a _ e (listAt_some ho)

theorem isList_of {h : Heap} {a : Addr} {vs : List Value} {m : Nat} (e : h.get? a = some (listObj vs m)) : h.IsList a vs.toArray := ⟨_, e, rfl, m, rfl⟩

/-- a new list -/
theorem newL_ok {xs : List V} {H : St} {v : V} {H' : St} (hd : newL xs H = some (v, H')) {ι : List Addr} {s : Shared} (hR : Rel prog w ca h₀ L₀ ι H s.heap) {vs : List Value} (hv : VRs ι s.heap xs vs) :
    v = .ref H.length ∧ H' = H ++ [.list xs] ∧ xs.length ≤ maxLen ∧ vs.length ≤ sizeLine ∧
    Go L₀ No ι (ι ++ [s.heap.objs.size]) s { s with heap := s.heap.push (listObj vs 0) } ∧ Rel prog w ca h₀ L₀ (ι ++ [s.heap.objs.size]) H' (s.heap.push (listObj vs 0)) ∧
    VR (ι ++ [s.heap.objs.size]) (s.heap.push (listObj vs 0)) v (.ref s.heap.objs.size) := by
  obtain ⟨hl, hd⟩ := need_inv hd
  have hl := of_decide_eq_true hl
  cases hd
  have hlen := hv.length
  refine ⟨rfl, rfl, hl, by rw [sizeLine_eq]; unfold maxLen at hl; lia, Go.alloc _ _ _ _, hR.alloc ⟨vs, 0, Heap.get?_push_size _ rfl, hv.mono (List.prefix_append _ _) (Frz.push _ _), hl⟩, .ref _ _ ?_⟩
  rw [← hR.len, List.getElem?_append_right (Nat.le_refl _)]; simp

/-- a list by its value -/
theorem Rel.asL {ι : List Addr} {H : St} {h : Heap} (R : Rel prog w ca h₀ L₀ ι H h) {v : V} {x : Value} (hv : VR ι h v x) {xs : List V} (ho : asL H v = some xs) :
    ∃ n a vs m, v = .ref n ∧ x = .ref a ∧ ι[n]? = some a ∧ listAt H n = some xs ∧ h.get? a = some (listObj vs m) ∧ VRs ι h xs vs ∧ xs.length ≤ maxLen := by
  obtain ⟨n, e1, e2⟩ := bind_inv ho
  have := asR_inv e1; subst this
  obtain ⟨a, rfl, e3⟩ := hv.ref_inv
  obtain ⟨vs, m, r⟩ := R.list e3 e2
  exact ⟨n, a, vs, m, rfl, rfl, e3, e2, r⟩

theorem rep_flat {α : Type} (x : α) (k : Nat) : (List.replicate k [x]).flatten = List.replicate k x := lm_rep_flat_one x k

theorem binop_ok {op : Operator} {a b : V} {x y : Value} {H : St} {ι : List Addr} {s : Shared} {A : Around} (ha : VR ι s.heap a x) (hb : VR ι s.heap b y) :
    VOk prog w ca h₀ L₀ k (binop op a b H) H ι A s (binaryOp op x y) := by
  intro v H' hd hr hR Q E hQ
  rcases alt_inv hd with hd | ⟨_, hd⟩
  · obtain ⟨i, e1, hd⟩ := bind_inv hd
    obtain ⟨j, e2, hd⟩ := bind_inv hd
    obtain ⟨z, hz, e⟩ := map_inv hd
    cases e
    obtain rfl := asI_inv e1
    obtain rfl := asI_inv e2
    obtain ⟨t, rfl⟩ := ha.int_inv
    obtain ⟨u, rfl⟩ := hb.int_inv
    exact binI_ok hz (hQ _ _ _ ((Go.refl _ _ _).toks _) hR (.int _ _))
  rcases alt_inv hd with hd | ⟨_, hd⟩
  · obtain ⟨hop, hd⟩ := need_inv hd
    obtain rfl := of_decide_eq_true hop
    obtain ⟨xs, h1, q1⟩ := bind_inv hd
    obtain ⟨ys, h2, q2⟩ := bind_inv q1
    obtain ⟨_, _, vs, i, rfl, rfl, _, _, e1, e2, e3⟩ := hR.asL ha h1
    obtain ⟨_, _, us, j, rfl, rfl, _, _, e4, e5, e6⟩ := hR.asL hb h2
    have hv := e2.append e5
    obtain ⟨_, _, hl, hsz, g, R', V'⟩ := newL_ok q2 hR hv
    refine concat_meets ⟨_, e1, rfl⟩ ⟨_, e4, rfl⟩ noFill_list_add seq_list_add PySem.F.slot_list_add PySem.F.entry_list_add (PySem.F.args_list_add_2 _ _)
      (list_addW _ _ vs.toArray us.toArray i j Option.none Option.none #[] #[] (by simpa using hsz)) ⟨e1, e4, ?_⟩
    have e : vs.toArray ++ us.toArray = (vs ++ us).toArray := by simp
    rw [e]
    exact hQ _ _ _ g R' V'
  rcases alt_inv hd with hd | ⟨_, hd⟩
  · obtain ⟨hop, hd⟩ := need_inv hd
    obtain rfl := of_decide_eq_true hop
    obtain ⟨xs, h1, q1⟩ := bind_inv hd
    obtain ⟨x, h3, q2⟩ := bind_inv q1
    obtain ⟨z, h2, q3⟩ := bind_inv q2
    obtain ⟨hz, q4⟩ := need_inv q3
    have hz := of_decide_eq_true hz
    obtain ⟨_, _, vs, i, rfl, rfl, _, _, e1, e2, e3⟩ := hR.asL ha h1
    obtain rfl := one_inv h3
    obtain rfl := asI_inv h2
    obtain ⟨u, rfl⟩ := hb.int_inv
    obtain ⟨y, rfl, hy⟩ := e2.one_inv
    have hv := VRs.replicate hy z.toNat
    obtain ⟨_, _, hl, hsz, g, R', V'⟩ := newL_ok q4 hR hv
    refine wpAny_binaryOp_repeat_ref (T := "list") (U := "int") (by decide) ⟨_, e1, rfl⟩ (fun s' => typeIs_int s' z u) noFill_list_mul PySem.F.fills_int_mul PySem.F.slot_int_rmul repeat_list PySem.F.slot_int_index.lookup
      (call_meets PySem.F.slot_int_rmul (typeIs_int s z u) PySem.F.entry_int_rmul (PySem.F.args_int_rmul_2 _ _) (lm_int_rmul_list_any z u _ [y].toArray i Option.none #[])
        ⟨e1, rfl, ⟨_, e1, rfl⟩, call_meets PySem.F.slot_list_mul ⟨_, e1, rfl⟩ PySem.F.entry_list_mul (PySem.F.args_list_mul_2 _ _)
          (lm_list_mul_any _ [y].toArray i Option.none #[] z u (by simp [Builtin.List.listFitsIndex]; lia) (by simp; lia) (by simp [Builtin.List.listTooLong, sizeLine]; lia))
          ⟨e1, ?_⟩⟩)
    rw [listMul_foldl_if]
    have e : (List.replicate z.toNat ([y].toArray).toList).flatten.toArray = (List.replicate z.toNat y).toArray := by
      show (List.replicate z.toNat [y]).flatten.toArray = _
      rw [rep_flat]
    rw [e]
    exact hQ _ _ _ g R' V'
  · obtain ⟨y, e1, _⟩ := map_inv hd
    obtain ⟨q, e2, _⟩ := bind_inv e1
    obtain rfl := mskOf_inv e2
    exact hb.sym_inv.elim
end
end
end Mine.L1

namespace Mine.L1
section
open PySem PySem.W PyProof.Rows
set_option maxRecDepth 10000

section
variable {prog : Program} {w : World} {ca : Nat → Addr} {h₀ : Heap} {L₀ : Addr}
variable {sl : List Str} {sc : Scope} {k : Nat}

theorem Rel.notSys {ι : List Addr} {H : St} {h : Heap} (R : Rel prog w ca h₀ L₀ ι H h) {n : Nat} {a : Addr} (e : ι[n]? = some a) : (a == sysModules) = false := by
  have h1 := R.fresh a (List.mem_of_getElem? e)
  have h2 := R.sys
  exact beq_eq_false_iff_ne.mpr (by rintro rfl; exact absurd h1 (Nat.not_le.mpr h2))

theorem intsOf_ints {ι : List Addr} {h : Heap} : ∀ {xs : List V} {vs : List Value} {ns : List Int}, VRs ι h xs vs → intsOf xs = some ns → IntsAre vs ns
  | _, _, _, .nil, e => by cases e; exact .nil
  | _, _, _, .cons p q, e => by
    obtain ⟨i, e1, e2⟩ := bind_inv e
    obtain ⟨ms, h1, rfl⟩ := map_inv e2
    obtain rfl := asI_inv e1
    obtain ⟨t, rfl⟩ := p.int_inv
    exact .cons _ _ (intsOf_ints q h1)

theorem atomsOf_items {ι : List Addr} {h : Heap} : ∀ {xs : List V} {vs : List Value} {ks : List Atom}, VRs ι h xs vs → atomsOf xs = some ks → ItemsAre (atomKind prog w) ks vs
  | _, _, _, .nil, e => by cases e; exact .nil
  | v :: _, _, _, .cons p q, e => by
    obtain ⟨i, e1, e2⟩ := bind_inv e
    obtain ⟨ms, h1, rfl⟩ := map_inv e2
    refine .cons ?_ (atomsOf_items q h1)
    cases v with
    | int n => cases e1; obtain ⟨t, rfl⟩ := p.int_inv; simp [atomKind, atomIs, Value.isInt]
    | str n => cases e1; obtain ⟨t, rfl⟩ := p.str_inv; simp [atomKind, atomIs, Value.isStrOf]
    | _ => cases e1

theorem tupKey {ι : List Addr} {h : Heap} {v : V} {x : Value} (q : VR ι h v x) {ks : List Atom} (e : asKey v = some ks) : ∃ a, x = .ref a ∧ (tupleKind (atomKind prog w)).is h ks a := by
  obtain ⟨xs, e1, e2⟩ := bind_inv e
  obtain rfl := asT_inv e1
  obtain ⟨vs, a, n, rfl, h1, h2⟩ := q.tup_inv
  exact ⟨a, rfl, _, _, _, h1, rfl, rfl, atomsOf_items h2 e2⟩

theorem str_dec (x y : Str) : (x == y) = decide (x = y) := by by_cases hab : x = y <;> simp [hab]
theorem int_dec (x y : Int) : (x != y) = decide (x ≠ y) := by by_cases hab : x = y <;> simp [hab]
theorem not_dec {α : Type} [DecidableEq α] (x y : α) : (!decide (x = y)) = decide (x ≠ y) := by by_cases hab : x = y <;> simp [hab]
theorem OV_isSome {ι : List Addr} {h : Heap} {a : Option V} {b : Option Value} (q : OV ι h a b) : b.isSome = a.isSome := by
  cases a <;> cases b <;> first | rfl | exact q.elim

theorem oI_inv {v : O} {i : List (Int × V)} (h : oI v = some i) : v = .idict i := by cases v <;> first | cases h; rfl | cases h
theorem oT_inv {v : O} {i : List (List Atom × V)} (h : oT v = some i) : v = .tdict i := by cases v <;> first | cases h; rfl | cases h
theorem oS_inv {v : O} {i : List (Str × V)} (h : oS v = some i) : v = .sdict i := by cases v <;> first | cases h; rfl | cases h
theorem oN_inv {v : O} {i : List (Str × V)} (h : oN v = some i) : v = .ns i := by cases v <;> first | cases h; rfl | cases h
theorem oC_inv {v : O} {i : Nat × Nat} (h : oC v = some i) : v = .inst i.1 i.2 := by cases v <;> first | cases h; rfl | cases h

theorem hasKey_ok {op : CmpOp} (hop : op = .In ∨ op = .NotIn) {H : St} {dv key : V} {b : Bool} (hd : hasKey H dv key = some b) {ι : List Addr} {s : Shared} {x y : Value} {A : Around} (hr : Room k A)
    (hR : Rel prog w ca h₀ L₀ ι H s.heap) (hv : VR ι s.heap dv y) (hx : VR ι s.heap key x) {Q : Value → Shared → Prop} {E : Value → Shared → Prop}
    (hQ : ∀ t, Q (.bool (if op = .In then b else !b)) { s with toks := t }) : wpAny (model prog w) A (compareOp op x y) Q E s := by
  obtain ⟨n, e1, hd1⟩ := bind_inv hd
  obtain ⟨o, ho, hd2⟩ := bind_inv hd1
  obtain rfl := asR_inv e1
  obtain ⟨a, rfl, hn⟩ := hv.ref_inv
  rcases alt_inv hd2 with q | ⟨_, q⟩
  · obtain ⟨es, e2, q1⟩ := bind_inv q
    obtain ⟨i, e3, rfl⟩ := map_inv q1
    obtain rfl := oI_inv e2
    obtain rfl := asI_inv e3
    obtain ⟨t, rfl⟩ := hx.int_inv
    obtain ⟨f, h0, h2, h3, h4⟩ := hR.obj n a _ hn ho
    have h1 := h0.mapOf
    have e := OV_isSome (h2 i)
    rcases hop with rfl | rfl
    · refine wpAny_in_of (k := i) (by simp [intKind, Value.isInt]) (hR.notSys hn) h1 ?_
      rw [e]; exact hQ _
    · refine wpAny_notIn_of (k := i) (by simp [intKind, Value.isInt]) (hR.notSys hn) h1 ?_
      rw [e]; exact hQ _
  · obtain ⟨es, e2, q1⟩ := bind_inv q
    obtain ⟨as, ha, rfl⟩ := map_inv q1
    obtain rfl := oT_inv e2
    obtain ⟨ys, h1, h2, h3⟩ := hR.obj n a _ hn ho
    obtain ⟨c, rfl, hk⟩ := tupKey (prog := prog) (w := w) hx ha
    have e2 := OV_isSome (h2 as)
    rw [Option.isSome_map] at e2
    have room : A.in1.units < cLine := by have := hr.units; show A.units + 1 < _; lia
    rcases hop with rfl | rfl
    · refine wpAny_in_heap (knd := tupleKind (atomKind prog w)) room hk (hR.notSys hn) h1 ?_
      rw [e2]; exact hQ _
    · refine wpAny_notIn_heap (knd := tupleKind (atomKind prog w)) room hk (hR.notSys hn) h1 ?_
      rw [e2]; exact hQ _

theorem cmpI_ok {op : CmpOp} {a b : Int} {z : Bool} (h : cmpI op a b = some z) {A : Around} {E : Value → Shared → Prop} {s : Shared} {t u : Tok} {Q : Value → Shared → Prop}
    (hQ : Q (.bool z) s) : wpAny (model prog w) A (compareOp op (.int a t) (.int b u)) Q E s := by
  cases op
  case Eq => cases h; exact eq_int (by rw [show (a == b) = decide (a = b) from rfl]; exact hQ)
  case NotEq => cases h; refine ne_int ?_; rw [int_dec]; exact hQ
  case Lt => cases h; exact lt_int hQ
  case LtE => cases h; exact le_int hQ
  case Gt => cases h; exact gt_int hQ
  case GtE => cases h; exact ge_int hQ
  all_goals cases h

theorem cmpop_ok {op : CmpOp} {a b : V} {x y : Value} {H : St} {ι : List Addr} {s : Shared} {A : Around} (ha : VR ι s.heap a x) (hb : VR ι s.heap b y) {z : Bool} (hd : cmpop op a b H = some z)
    (hr : Room k A) (hR : Rel prog w ca h₀ L₀ ι H s.heap) {Q : Value → Shared → Prop} {E : Value → Shared → Prop} (hQ : ∀ t, Q (.bool z) { s with toks := t }) : wpAny (model prog w) A (compareOp op x y) Q E s := by
  have hu : A.units + 64 < cLine := by have := hr.2.2; lia
  unfold cmpop at hd
  by_cases h1 : op = .In
  · rw [if_pos h1] at hd; subst h1
    exact hasKey_ok (.inl rfl) hd hr hR hb ha hQ
  rw [if_neg h1] at hd
  by_cases h2 : op = .NotIn
  · rw [if_pos h2] at hd; subst h2
    obtain ⟨b, h1, rfl⟩ := map_inv hd
    exact hasKey_ok (.inr rfl) h1 hr hR hb ha hQ
  rw [if_neg h2] at hd
  rcases alt_inv hd with q | ⟨_, q⟩
  · obtain ⟨i, e1, q1⟩ := bind_inv q
    obtain ⟨j, e2, q2⟩ := bind_inv q1
    obtain rfl := asI_inv e1
    obtain rfl := asI_inv e2
    obtain ⟨t, rfl⟩ := ha.int_inv
    obtain ⟨u, rfl⟩ := hb.int_inv
    exact cmpI_ok q2 (hQ _)
  rcases alt_inv q with q | ⟨_, q⟩
  · obtain ⟨hop, q0⟩ := need_inv q
    obtain rfl := of_decide_eq_true hop
    obtain ⟨i, e1, q1⟩ := bind_inv q0
    obtain ⟨j, e2, rfl⟩ := map_inv q1
    obtain rfl := asS_inv e1
    obtain rfl := asS_inv e2
    obtain ⟨t, rfl⟩ := ha.str_inv
    obtain ⟨u, rfl⟩ := hb.str_inv
    refine eq_str ?_
    rw [str_dec]; exact hQ _
  rcases alt_inv q with q | ⟨_, q⟩
  · obtain ⟨hop, q0⟩ := need_inv q
    obtain rfl := of_decide_eq_true hop
    obtain ⟨i, e1, q1⟩ := bind_inv q0
    obtain ⟨j, e2, rfl⟩ := map_inv q1
    obtain rfl := asB_inv e1
    obtain rfl := asB_inv e2
    obtain rfl := ha.bool_inv
    obtain rfl := hb.bool_inv
    refine eq_bool ?_
    have e : ∀ x y : Bool, (x == y) = decide (x = y) := by intro x y; cases x <;> cases y <;> rfl
    rw [e]; exact hQ _
  rcases alt_inv q with q | ⟨_, q⟩
  · obtain ⟨hop, q0⟩ := need_inv q
    obtain rfl := of_decide_eq_true hop
    obtain ⟨us, e1, q1⟩ := bind_inv q0
    obtain ⟨ws, e2, q2⟩ := bind_inv q1
    obtain ⟨is, e3, q3⟩ := bind_inv q2
    obtain ⟨js, e4, rfl⟩ := map_inv q3
    obtain ⟨_, _, vs, i, rfl, rfl, _, _, f1, f2, _⟩ := hR.asL ha e1
    obtain ⟨_, _, vs', j, rfl, rfl, _, _, f4, f5, _⟩ := hR.asL hb e2
    exact eq_intsK (isList_of f1) (intsOf_ints f2 e3) (isList_of f4) (intsOf_ints f5 e4) hu (hQ _)
  · obtain ⟨hop, q0⟩ := need_inv q
    obtain rfl := of_decide_eq_true hop
    obtain ⟨us, e1, q1⟩ := bind_inv q0
    obtain ⟨ws, e2, q2⟩ := bind_inv q1
    obtain ⟨is, e3, q3⟩ := bind_inv q2
    obtain ⟨js, e4, rfl⟩ := map_inv q3
    obtain ⟨_, _, vs, i, rfl, rfl, _, _, f1, f2, _⟩ := hR.asL ha e1
    obtain ⟨_, _, vs', j, rfl, rfl, _, _, f4, f5, _⟩ := hR.asL hb e2
    refine ne_intsK (isList_of f1) (intsOf_ints f2 e3) (isList_of f4) (intsOf_ints f5 e4) hu ?_
    rw [not_dec]; exact hQ _

theorem EOk.cmp {e₁ e₂ : Expr} {op : CmpOp} {pos : Pos} {d₁ d₂ : Rho → St → Option (V × St)} (h1 : EOk prog w ca h₀ L₀ sl sc k e₁ d₁) (h2 : EOk prog w ca h₀ L₀ sl sc k e₂ d₂) (hm : behindInMarks op e₂ = false) :
    EOk prog w ca h₀ L₀ sl sc k (.Compare e₁ [op] [e₂] pos) (mCmp op d₁ d₂) := by
  intro A env ρ ι H s v H' hsc hr he hR hd Q E hQ
  refine wpAny_Compare1 (EOk.two (f := fun a b H => (cmpop op a b H).map fun b => (V.bool b, H)) h1 h2 hsc hr he hR hd fun a b H2 x y ι2 s2 e g R2 Va Vb => ?_) hm
  obtain ⟨z, hz, e⟩ := Option.map_eq_some_iff.mp e
  cases e
  exact cmpop_ok Va Vb hz hr R2 fun t => hQ _ _ _ (g.toks t) R2 (.bool _)

theorem TOk.cmp {e₁ e₂ : Expr} {op : CmpOp} {pos : Pos} {d₁ d₂ : Rho → St → Option (V × St)} (h1 : EOk prog w ca h₀ L₀ sl sc k e₁ d₁) (h2 : EOk prog w ca h₀ L₀ sl sc k e₂ d₂) (hm : behindInMarks op e₂ = false) :
    TOk prog w ca h₀ L₀ sl sc k (.Compare e₁ [op] [e₂] pos) (fun ρ H => (mCmp op d₁ d₂ ρ H).bind tst) := by
  intro A env ρ ι H s v H' hsc hr he hR hd Q E hQ
  have hd : ((d₁ ρ H).bind fun x => (d₂ ρ x.2).bind fun y => (cmpop op x.1 y.1 y.2).map fun b => (b, y.2)) = some (v, H') := by
    obtain ⟨z, e1, e2⟩ := bind_inv hd
    obtain ⟨x, e3, e4⟩ := bind_inv e1
    obtain ⟨y, e5, e6⟩ := bind_inv e4
    obtain ⟨b, e7, rfl⟩ := map_inv e6
    cases e2
    exact bind_at e3 (bind_at e5 (map_at e7))
  refine wpAny_isTrue_Compare1 (EOk.two (f := fun a b H => (cmpop op a b H).map fun b => (b, H)) h1 h2 hsc hr he hR hd fun a b H2 x y ι2 s2 e g R2 Va Vb => ?_) hm
  obtain ⟨z, hz, e⟩ := Option.map_eq_some_iff.mp e
  cases e
  exact cmpop_ok Va Vb hz hr R2 fun t => wpAny_truthy_bool (hQ _ _ (g.toks t) R2)

theorem isTrue_inv {v : V} {b : Bool} (h : v.isTrue? = some b) : v = .bool b ∨ ∃ i, v = .int i ∧ b = decide (i ≠ 0) := by
  cases v with
  | bool c => cases h; exact .inl rfl
  | int i => cases h; exact .inr ⟨i, rfl, rfl⟩
  | _ => cases h
/-- a test by a value -/
theorem TOk.value {e : Expr} {d : Rho → St → Option (V × St)} (h : EOk prog w ca h₀ L₀ sl sc k e d)
    (he : ∀ env whole, isTrue e env whole = (do let v ← whole; standAt e.pos; holding [v] (truthy v))) :
    TOk prog w ca h₀ L₀ sl sc k e (fun ρ H => (d ρ H).bind tst) := by
  intro A env ρ ι H s v H' hsc hr hE hR hd Q E hQ
  obtain ⟨⟨a, H1⟩, e1, hd⟩ := bind_inv hd
  obtain ⟨b, hb, e⟩ := map_inv hd
  cases e
  refine wpAny_isTrue_value (h A env ρ ι H s a H1 hsc hr hE hR e1 _ _ fun x ι1 s1 g1 R1 V1 => ?_) (he _ _)
  rcases isTrue_inv hb with rfl | ⟨i, rfl, rfl⟩
  · obtain rfl := V1.bool_inv
    exact wpAny_truthy_bool (hQ _ _ g1 R1)
  · obtain ⟨t, rfl⟩ := V1.int_inv
    refine truthy_int ?_
    rw [int_dec]; exact hQ _ _ g1 R1

theorem EOk.ite {t a b : Expr} {pos : Pos} {dt : Rho → St → Option (V × St)} {da db : Rho → St → Option (V × St)} (ht : TOk prog w ca h₀ L₀ sl sc k t (fun ρ H => (dt ρ H).bind tst)) (ha : EOk prog w ca h₀ L₀ sl sc k a da) (hb : EOk prog w ca h₀ L₀ sl sc k b db) :
    EOk prog w ca h₀ L₀ sl sc k (.IfExp t a b pos) (mIte dt da db) := by
  intro A env ρ ι H s v H' hsc hr he hR hd Q E hQ
  obtain ⟨⟨c, H1⟩, e1, hd⟩ := Option.bind_eq_some_iff.mp hd
  refine wpAny_IfExp (ht A env ρ ι H s c H1 hsc hr he hR e1 _ _ fun ι1 s1 g1 R1 => ?_)
  cases c
  · exact hb A env ρ ι1 H1 s1 v H' hsc hr (he.mono g1) R1 hd _ _ fun x ι2 s2 g2 R2 V2 => hQ x ι2 s2 (g1.trans g2) R2 V2
  · exact ha A env ρ ι1 H1 s1 v H' hsc hr (he.mono g1) R1 hd _ _ fun x ι2 s2 g2 R2 V2 => hQ x ι2 s2 (g1.trans g2) R2 V2

/-- «or» of tests -/
noncomputable def OrOk (prog : Program) (w : World) (ca : Nat → Addr) (h₀ : Heap) (L₀ : Addr) (sl : List Str) (sc : Scope) (k : Nat) (es : List Expr) (d : Rho → St → Option (Bool × St)) : Prop :=
  ∀ (A : Around) (env : Env) (ρ : Rho) (ι : List Addr) (H : St) (s : Shared) (b : Bool) (H' : St), env.scope = sc → Room k A → EnvR h₀ L₀ sl env ρ ι s.heap → Rel prog w ca h₀ L₀ ι H s.heap → d ρ H = some (b, H') →
    ∀ (Q : Bool → Shared → Prop) (E : Value → Shared → Prop), (∀ ι' s', Go L₀ No ι ι' s s' → Rel prog w ca h₀ L₀ ι' H' s'.heap → Q b s') → wpAny (model prog w) A (allTrue .Or es env) Q E s
theorem OrOk.nil : OrOk prog w ca h₀ L₀ sl sc k [] (fun _ H => some (false, H)) := by
  intro A env ρ ι H s v H' hsc hr he hR hd Q E hQ
  cases hd
  exact wpAny_allTrue_Or_nil (hQ _ _ (Go.refl _ _ _) hR)
theorem OrOk.one {e : Expr} {dt : Rho → St → Option (Bool × St)} (ht : TOk prog w ca h₀ L₀ sl sc k e dt) : OrOk prog w ca h₀ L₀ sl sc k [e] dt := by
  intro A env ρ ι H s v H' hsc hr he hR hd Q E hQ
  refine wpAny_allTrue_Or_cons (ht A env ρ ι H s v H' hsc hr he hR hd _ _ fun ι1 s1 g1 R1 => ?_)
  cases v
  · exact wpAny_allTrue_Or_nil (hQ _ _ g1 R1)
  · exact hQ _ _ g1 R1
theorem OrOk.cons {e : Expr} {es : List Expr} {dt dr : Rho → St → Option (V × St)} (ht : TOk prog w ca h₀ L₀ sl sc k e (fun ρ H => (dt ρ H).bind tst)) (hr' : OrOk prog w ca h₀ L₀ sl sc k es (fun ρ H => (dr ρ H).bind tst)) :
    OrOk prog w ca h₀ L₀ sl sc k (e :: es) (fun ρ H => (mOr dt dr ρ H).bind tst) := by
  intro A env ρ ι H s v H' hsc hr he hR hd Q E hQ
  have hd : (((dt ρ H).bind tst).bind fun x => if x.1 = true then some (true, x.2) else (dr ρ x.2).bind tst) = some (v, H') := by
    obtain ⟨z, e1, e2⟩ := bind_inv hd
    obtain ⟨⟨c, H1⟩, e3, e4⟩ := bind_inv e1
    refine bind_at e3 ?_
    cases c with
    | true => cases e4; cases e2; rfl
    | false => exact bind_at e4 e2
  obtain ⟨⟨c, H1⟩, e1, hd⟩ := bind_inv hd
  refine wpAny_allTrue_Or_cons (ht A env ρ ι H s c H1 hsc hr he hR e1 _ _ fun ι1 s1 g1 R1 => ?_)
  cases c
  · exact hr' A env ρ ι1 H1 s1 v H' hsc hr (he.mono g1) R1 hd _ _ fun ι2 s2 g2 R2 => hQ ι2 s2 (g1.trans g2) R2
  · cases hd; exact hQ _ _ g1 R1
theorem TOk.or_ {es : List Expr} {pos : Pos} {d : Rho → St → Option (Bool × St)} (h : OrOk prog w ca h₀ L₀ sl sc k es d) : TOk prog w ca h₀ L₀ sl sc k (.BoolOp .Or es pos) d := by
  intro A env ρ ι H s v H' hsc hr he hR hd Q E hQ
  exact wpAny_isTrue_BoolOp (h A env ρ ι H s v H' hsc hr he hR hd _ _ hQ)

/-! lists, tuples -/
theorem EsOk.nil : EsOk prog w ca h₀ L₀ sl sc k [] (row (mVal (.tup []))) := by
  intro A env ρ ι H s v H' pos hsc hr he hR hd Q E hQ
  cases hd
  exact Calls.spliced_nil (hQ _ _ _ (Go.refl _ _ _) hR .nil)
theorem EsOk.cons {e : Expr} {es : List Expr} {d ds : Rho → St → Option (V × St)} (h1 : EOk prog w ca h₀ L₀ sl sc k e d) (h2 : EsOk prog w ca h₀ L₀ sl sc k es (row ds))
    (hst : ∀ env, starEach (e :: es) env = (false, eval e env) :: starEach es env) :
    EsOk prog w ca h₀ L₀ sl sc k (e :: es) (row (mCons d ds)) := by
  intro A env ρ ι H s v H' pos hsc hr he hR hd Q E hQ
  obtain ⟨⟨a, H1⟩, b, e1, e2, rfl⟩ : ∃ x y, d ρ H = some x ∧ row ds ρ x.2 = some (y, H') ∧ v = x.1 :: y := by
    obtain ⟨z, q1, q2⟩ := bind_inv hd
    obtain ⟨x, q3, q4⟩ := bind_inv q1
    obtain ⟨y, q5, rfl⟩ := map_inv q4
    cases q2
    exact ⟨x, _, q3, q5, rfl⟩
  rw [hst]
  show wpAny _ _ (spliced ((false, eval e env) :: backTo pos (starEach es env))) _ _ _
  exact Calls.spliced_cons (h1 A env ρ ι H s a H1 hsc hr he hR e1 _ _ fun x ι1 s1 g1 R1 V1 => h2 A env ρ ι1 H1 s1 b H' pos hsc hr (he.mono g1) R1 e2 _ _ fun y ι2 s2 g2 R2 V2 =>
    hQ _ _ _ (g1.trans g2) R2 (.cons (V1.mono g2.pre g2.frz) V2))
theorem EOk.list {es : List Expr} {pos : Pos} {ds : Rho → St → Option (V × St)} (h : EsOk prog w ca h₀ L₀ sl sc k es (row ds)) :
    EOk prog w ca h₀ L₀ sl sc k (.List es pos) (mList ds) := by
  intro A env ρ ι H s v H' hsc hr he hR hd Q E hQ
  obtain ⟨⟨a, H1⟩, e1, hd⟩ := bind_inv hd
  refine wpAny_List_spliced (h A env ρ ι H s a H1 pos hsc hr he hR e1 _ _ fun x ι1 s1 g1 R1 V1 => ?_)
  obtain ⟨_, _, _, hsz, g, R', V'⟩ := newL_ok hd R1 V1
  exact ⟨hsz, hQ _ _ _ (g1.trans g) R' V'⟩
theorem EOk.tup {es : List Expr} {n : Nat} {pos : Pos} {ds : Rho → St → Option (V × St)} (h : EsOk prog w ca h₀ L₀ sl sc k es (row ds)) :
    EOk prog w ca h₀ L₀ sl sc k (.Tuple es n pos) (mTup ds) := by
  intro A env ρ ι H s v H' hsc hr he hR hd Q E hQ
  obtain ⟨⟨a, H1⟩, e1, hd⟩ := bind_inv hd
  obtain ⟨hl, hd⟩ := need_inv hd
  have hl : a.length ≤ 100 := of_decide_eq_true hl
  cases hd
  refine wpAny_Tuple_spliced (h A env ρ ι H s a _ pos hsc hr he hR e1 _ _ fun x ι1 s1 g1 R1 V1 => ?_)
  have hlen := V1.length
  exact ⟨by rw [sizeLine_eq]; lia, hQ _ _ _ (g1.trans (Go.push _ _ _ _)) (R1.push _) (.tup _ x _ 0 (Heap.get?_push_size _ rfl) (V1.mono List.prefix_rfl (Frz.push _ _)))⟩
end
end
end Mine.L1

namespace Mine.L1
section
open PySem PySem.W PyProof.Rows
set_option maxRecDepth 10000

/-- what is known of the text's classes -/
structure ClsFacts (K : Frag) (h₀ : Heap) (ca : Nat → Addr) : Prop where
  inK : K.In h₀
  get : ∀ c ≤ 1, ∀ x : Str, plainGet K (ca c) x = true
  dict : ∀ c ≤ 1, hasDictIn K (ca c) = true
  own : ∀ c ≤ 1, ∀ x ∈ attrNames, findIn K (.ref (ca c)) x = some Option.none
  setter : ∀ c ≤ 1, findIn K (.ref (ca c)) "__setattr__" = some (some (.builtin "object.__setattr__"))
  plain : ∀ c ≤ 1, plainOver K (ca c) = true

section
variable {prog : Program} {w : World} {ca : Nat → Addr} {h₀ : Heap} {L₀ : Addr}
variable {sl : List Str} {sc : Scope} {k : Nat}

theorem subscripted_any (slice : Expr) (o i : Value) : ∃ ops, subscripted slice false o i = operate ops (getItem o i) := by
  cases slice <;> first | exact ⟨_, rfl⟩ | skip
  rename_i st _
  cases st <;> exact ⟨_, rfl⟩

theorem upto_ok {vs : List Value} {q : Int} (h : 0 ≤ q) : slicePick vs.toArray Option.none (some q) Option.none = (vs.take q.toNat).toArray := by
  obtain ⟨n, rfl⟩ := Int.eq_ofNat_of_zero_le h
  rw [slicePick_upto' vs.toArray n]; simp
theorem from_ok {vs : List Value} {q : Int} (h : 0 ≤ q) : slicePick vs.toArray (some q) Option.none Option.none = (vs.drop q.toNat).toArray := by
  obtain ⟨n, rfl⟩ := Int.eq_ofNat_of_zero_le h
  rw [slicePick_from' vs.toArray n]; simp

theorem typeIs_ref {s : Shared} {a : Addr} {o : Obj} {T : String} (h : s.heap.get? a = some o) (hc : o.cls = .type T) : s.TypeIs (.ref a) T := ⟨o, h, hc⟩

theorem OV_get {ι : List Addr} {h : Heap} {a : Option V} {b : Option Value} {v : V} (q : OV ι h a b) (e : a = some v) : ∃ y, b = some y ∧ VR ι h v y := by
  subst e
  cases b with
  | none => exact q.elim
  | some y => exact ⟨y, rfl, q⟩

theorem maxLen_eq : maxLen = 1048576 := by decide

theorem subscr_ok {value slice : Expr} {a i v : V} {x y : Value} {H : St} {ι : List Addr} {s : Shared} {A : Around} (ha : VR ι s.heap a x) (hi : VR ι s.heap i y) (hd : subscr a i H = some v)
    (hr : Room k A) (hR : Rel prog w ca h₀ L₀ ι H s.heap) {Q : Value → Shared → Prop} {E : Value → Shared → Prop} (hQ : ∀ z t, VR ι s.heap v z → Q z { s with toks := t }) :
    wpAny (model prog w) A (subscriptTail value slice x y) Q E s := by
  obtain ⟨ops, hs⟩ := subscripted_any slice x y
  have room : A.in1.units < cLine := by have := hr.units; show A.units + 1 < _; lia
  rcases alt_inv hd with q | ⟨_, q⟩
  · obtain ⟨xs, e1, q1⟩ := bind_inv q
    obtain ⟨z, e2, q2⟩ := bind_inv q1
    obtain ⟨hz, q3⟩ := need_inv q2
    obtain ⟨hz, hz2⟩ := of_decide_eq_true hz
    obtain rfl := asT_inv e1
    obtain rfl := asI_inv e2
    obtain ⟨t, rfl⟩ := hi.int_inv
    obtain ⟨vs, a, n, rfl, h1, h2⟩ := ha.tup_inv
    obtain ⟨u, hu, hv⟩ := h2.get q3
    have hlt : z.toNat < xs.length := (List.getElem?_eq_some_iff.mp q3).1
    have hlen := h2.length
    refine tail_any (typeIs_ref h1 rfl) slot_tuple_getitem.lookup (getItem_tuple (items := vs.toArray) ⟨_, h1, rfl, n, rfl⟩ (by lia) ?_ (j := z.toNat) ?_ (by simpa using hu) (hQ _ _ hv)) hs
    · lia
    · unfold seqIndex?
      have h3 : ¬ z < 0 := by lia
      have h4 : (0 ≤ z ∧ z < ((vs.toArray.size : Nat) : Int)) := by simp; lia
      simp only [h3, if_false]
      rw [if_pos (by simp; simp at h4; lia)]
  · obtain ⟨n, e1, q1⟩ := bind_inv q
    obtain ⟨o, ho, q2⟩ := bind_inv q1
    obtain rfl := asR_inv e1
    obtain ⟨c, rfl, hn⟩ := ha.ref_inv
    rcases alt_inv q2 with p | ⟨_, p⟩
    · obtain ⟨xs, e2, p1⟩ := bind_inv p
      obtain ⟨z, e3, p2⟩ := bind_inv p1
      obtain rfl := oL_inv e2
      obtain rfl := asI_inv e3
      obtain ⟨t, rfl⟩ := hi.int_inv
      obtain ⟨vs, m, f1, f2, f3⟩ := hR.obj _ c _ hn ho
      have hlen := f2.length
      rw [maxLen_eq] at f3
      unfold idx? at p2
      by_cases hz : 0 ≤ z
      · rw [if_pos hz] at p2
        obtain ⟨u, hu, hv⟩ := f2.get p2
        have hlt : z.toNat < xs.length := (List.getElem?_eq_some_iff.mp p2).1
        exact tail_any (typeIs_ref f1 rfl) slot_list_getitem.lookup (wpAny_getItem_list (isList_of f1) hz (by lia) (by simpa using hu) (hQ _ _ hv)) hs
      · rw [if_neg hz] at p2
        obtain ⟨hz2, p3⟩ := need_inv p2
        have hz2 := of_decide_eq_true hz2
        obtain ⟨u, hu, hv⟩ := f2.get p3
        exact tail_any (typeIs_ref f1 rfl) slot_list_getitem.lookup (wpAny_getItem_list_neg (isList_of f1) (by lia) (by simp; lia) (by lia) (by simpa [Int.add_comm, hlen] using hu) (hQ _ _ hv)) hs
    rcases alt_inv p with p | ⟨_, p⟩
    · obtain ⟨es, e2, p1⟩ := bind_inv p
      obtain ⟨z, e3, p2⟩ := bind_inv p1
      obtain rfl := oI_inv e2
      obtain rfl := asI_inv e3
      obtain ⟨t, rfl⟩ := hi.int_inv
      obtain ⟨f, h0, h2, h3, h4⟩ := hR.obj _ c _ hn ho
      have h1 := h0.mapOf
      obtain ⟨u, hu, hv⟩ := OV_get (h2 z) p2
      exact tail_any h1.typeIs slot_dict_getitem.lookup (wpAny_getItem_of (k := z) (by simp [intKind, Value.isInt]) h1 hu (hQ _ _ hv)) hs
    rcases alt_inv p with p | ⟨_, p⟩
    · obtain ⟨es, e2, p1⟩ := bind_inv p
      obtain ⟨z, e3, p2⟩ := bind_inv p1
      obtain rfl := oS_inv e2
      obtain rfl := asS_inv e3
      obtain ⟨t, rfl⟩ := hi.str_inv
      obtain ⟨f, h0, h2, h3, h4⟩ := hR.obj _ c _ hn ho
      have h1 := h0.mapOf
      obtain ⟨u, hu, hv⟩ := OV_get (h2 z) p2
      exact tail_any h1.typeIs slot_dict_getitem.lookup (wpAny_getItem_of (k := z) (by simp [PySem.strKind, Value.isStrOf]) h1 hu (hQ _ _ hv)) hs
    · obtain ⟨es, e2, p1⟩ := bind_inv p
      obtain ⟨as, ha, e⟩ := bind_inv p1
      obtain rfl := oT_inv e2
      obtain ⟨ys, h1, h2, h3⟩ := hR.obj _ c _ hn ho
      obtain ⟨b, rfl, hk⟩ := tupKey (prog := prog) (w := w) hi ha
      obtain ⟨u, hu, hv⟩ := OV_get (h2 as) e
      obtain ⟨p, hp, rfl⟩ := map_inv hu
      exact tail_any (by obtain ⟨o, _, _, ho', hx, _⟩ := h1; exact ⟨o, ho', hx.1⟩) slot_dict_getitem.lookup (wpAny_getItem_heap (knd := tupleKind (atomKind prog w)) room hk h1 hp (hQ _ _ hv)) hs

theorem EOk.sub {e₁ e₂ : Expr} {pos : Pos} {d₁ d₂ : Rho → St → Option (V × St)} (h1 : EOk prog w ca h₀ L₀ sl sc k e₁ d₁) (h2 : EOk prog w ca h₀ L₀ sl sc k e₂ d₂) :
    EOk prog w ca h₀ L₀ sl sc k (.Subscript e₁ e₂ pos) (mSub d₁ d₂) := by
  intro A env ρ ι H s v H' hsc hr he hR hd Q E hQ
  refine Subscript_ (EOk.two (f := fun a b H => (subscr a b H).map (·, H)) h1 h2 hsc hr he hR hd fun a b H2 x y ι2 s2 e g R2 Va Vb => ?_)
  obtain ⟨z, hz, e⟩ := Option.map_eq_some_iff.mp e
  cases e
  exact subscr_ok Va Vb hz hr R2 fun z t hv => hQ _ _ _ (g.toks t) R2 hv

/-- a part of a slice -/
noncomputable def POk (prog : Program) (w : World) (ca : Nat → Addr) (h₀ : Heap) (L₀ : Addr) (sl : List Str) (sc : Scope) (k : Nat) (e : Option Expr) (d : Rho → St → Option (V × St)) : Prop :=
  ∀ (A : Around) (env : Env) (ρ : Rho) (ι : List Addr) (H : St) (s : Shared) (v : V) (H' : St), env.scope = sc → Room k A → EnvR h₀ L₀ sl env ρ ι s.heap → Rel prog w ca h₀ L₀ ι H s.heap → d ρ H = some (v, H') →
    ∀ (Q : Value → Shared → Prop) (E : Value → Shared → Prop), (∀ x ι' s', Go L₀ No ι ι' s s' → Rel prog w ca h₀ L₀ ι' H' s'.heap → VR ι' s'.heap v x → Q x s') → wpAny (model prog w) A (evalPart e env) Q E s
theorem POk.none : POk prog w ca h₀ L₀ sl sc k Option.none (mVal .none) := by
  intro A env ρ ι H s v H' hsc hr he hR hd Q E hQ
  cases hd
  exact wpAny_evalPart_none (hQ _ _ _ (Go.refl _ _ _) hR .none)
theorem POk.some {e : Expr} {d : Rho → St → Option (V × St)} (h : EOk prog w ca h₀ L₀ sl sc k e d) : POk prog w ca h₀ L₀ sl sc k (some e) d := by
  intro A env ρ ι H s v H' hsc hr he hR hd Q E hQ
  exact wpAny_evalPart_some (h A env ρ ι H s v H' hsc hr he hR hd Q E hQ)

theorem EOk.slc {e : Expr} {lo hi : Option Expr} {p pos : Pos} {d dl dh : Rho → St → Option (V × St)} (h1 : EOk prog w ca h₀ L₀ sl sc k e d) (h2 : POk prog w ca h₀ L₀ sl sc k lo dl) (h3 : POk prog w ca h₀ L₀ sl sc k hi dh) :
    EOk prog w ca h₀ L₀ sl sc k (.Subscript e (.Slice lo hi Option.none p) pos) (mSlc d dl dh) := by
  intro A env ρ ι H s v H' hsc hr he hR hd Q E hQ
  obtain ⟨⟨a, H1⟩, e1, hd1⟩ := bind_inv hd
  obtain ⟨⟨b, H2⟩, e2, hd2⟩ := bind_inv hd1
  obtain ⟨⟨c, H3⟩, e3, hd3⟩ := bind_inv hd2
  refine Subscript_ (h1 A env ρ ι H s a H1 hsc hr he hR e1 _ _ fun x ι1 s1 g1 R1 V1 => ?_)
  refine wpAny_Slice (h2 A env ρ ι1 H1 s1 b H2 hsc hr (he.mono g1) R1 e2 _ _ fun y ι2 s2 g2 R2 V2 => h3 A env ρ ι2 H2 s2 c H3 hsc hr (he.mono (g1.trans g2)) R2 e3 _ _ fun z ι3 s3 g3 R3 V3 => ?_)
  refine wpAny_evalPart_none ?_
  have V1' := V1.mono (g2.trans g3).pre (g2.trans g3).frz
  have V2' := V2.mono g3.pre g3.frz
  have g := (g1.trans (g2.trans g3))
  clear g1 g2 g3 V1 V2 R1 R2 e1 e2 e3
  obtain ⟨xs, hl, hd4⟩ := bind_inv hd3
  obtain ⟨r, hs, hd5⟩ := bind_inv hd4
  obtain ⟨n, l, vs, m, rfl, rfl, hn, _, f1, f2, f3⟩ := R3.asL V1' hl
  -- the slice object
  have gp := Go.push (L₀ := L₀) No ι3 s3 ({ cls := .type "slice", data := .fields #[y, z, .none] } : Obj)
  have Rp := R3.push ({ cls := .type "slice", data := .fields #[y, z, .none] } : Obj)
  have f1' := Heap.get?_push_of_some ({ cls := .type "slice", data := .fields #[y, z, .none] } : Obj) f1
  have hsl : (s3.heap.push ({ cls := .type "slice", data := .fields #[y, z, .none] } : Obj)).IsSliceOf s3.heap.objs.size y z .none := Heap.IsSliceOf.new _ _ _ _
  have key : ∃ plo phi, IsPart y plo ∧ IsPart z phi ∧ ∃ us, slicePick vs.toArray plo phi Option.none = us.toArray ∧ VRs ι3 s3.heap r us := by
    have no : ∀ {v : V}, isNo v = true → v = .none := fun {v} h => by cases v <;> first | rfl | cases h
    rcases alt_inv hs with q | ⟨_, q⟩
    · obtain ⟨h0, q1⟩ := need_inv q
      obtain ⟨i, h4, q2⟩ := bind_inv q1
      obtain ⟨h5, q3⟩ := need_inv q2
      cases q3
      obtain rfl := no h0
      obtain rfl := asI_inv h4
      obtain rfl := V2'.none_inv
      obtain ⟨t, rfl⟩ := V3.int_inv
      exact ⟨_, _, .none, .int _ _, _, upto_ok (of_decide_eq_true h5), f2.take _⟩
    · obtain ⟨h0, q1⟩ := need_inv q
      obtain ⟨i, h4, q2⟩ := bind_inv q1
      obtain ⟨h5, q3⟩ := need_inv q2
      cases q3
      obtain rfl := no h0
      obtain rfl := asI_inv h4
      obtain rfl := V3.none_inv
      obtain ⟨t, rfl⟩ := V2'.int_inv
      exact ⟨_, _, .int _ _, .none, _, from_ok (of_decide_eq_true h5), f2.drop _⟩
  obtain ⟨plo, phi, p1, p2, us, eu, vu⟩ := key
  obtain ⟨_, _, _, _, gn, Rn, Vn⟩ := newL_ok hd5 Rp (vu.mono gp.pre gp.frz)
  obtain ⟨ops, hs'⟩ := subscripted_any (.Slice lo hi Option.none p) (.ref l) (.ref s3.heap.objs.size)
  refine tail_any (s := { s3 with heap := s3.heap.push _ }) (typeIs_ref f1' rfl) slot_list_getitem.lookup (wpAny_getItem_list_slice (isList_of f1') hsl p1 p2 .none (by simp) ?_ (by rw [sizeLine_eq]; rw [maxLen_eq] at f3; have := f2.length; simp; lia)) hs'
  rw [eu]
  exact hQ _ _ _ (g.trans (gp.trans gn)) Rn Vn

/-! attributes -/
theorem FR_find {ι : List Addr} {h : Heap} {fs : List (Str × V)} {es : List DictEntry} (q : FR ι h fs es) (x : Str) :
    ∃ y, getL x es = some y ∧ OV ι h (fs.lookup x) y := by
  suffices hh : ∃ e, es.find? (·.key.isStr x) = e ∧ OV ι h (fs.lookup x) (e.map (·.val)) ∧ es.any (·.refKey) = false by
    obtain ⟨e, h1, h2, h3⟩ := hh
    unfold getL
    rw [h1]
    cases e with
    | none => rw [h3]; exact ⟨_, rfl, h2⟩
    | some e => exact ⟨_, rfl, h2⟩
  induction q with
  | nil => exact ⟨_, rfl, trivial, rfl⟩
  | @cons y v t hs z fs es a q ih =>
    obtain ⟨e, h1, h2, h3⟩ := ih
    simp only [List.find?_cons, List.lookup_cons]
    rw [show (Value.str y t).isStr x = (y == x) from rfl]
    by_cases hx : y = x
    · subst hx
      simp only [beq_self_eq_true]
      refine ⟨_, rfl, a, ?_⟩
      rw [List.any_cons, h3]; rfl
    · have e1 : (y == x) = false := by simpa using hx
      have e2 : (x == y) = false := by simpa using fun h => hx h.symm
      rw [e1, e2]
      refine ⟨_, rfl, by rw [h1]; exact h2, ?_⟩
      rw [List.any_cons, h3]; rfl

theorem handed_ok {ι : List Addr} {h : Heap} {v : V} {x : Value} (q : VR ι h v x) : handedIn x = true := by
  cases q <;> rfl

theorem fsAt_some {o : V} {H : St} {c d : Nat} {fs : List (Str × V)} (h : fsAt o H = some (c, d, fs)) : ∃ n, o = .ref n ∧ H[n]? = some (.inst c d) ∧ H[d]? = some (.ns fs) := by
  obtain ⟨n, e1, q⟩ := bind_inv h
  obtain ⟨cd, e2, q1⟩ := bind_inv q
  obtain ⟨ob, e3, e4⟩ := bind_inv e2
  obtain ⟨fs', e5, e6⟩ := map_inv q1
  obtain ⟨ob2, e7, e8⟩ := bind_inv e5
  cases e6
  exact ⟨n, asR_inv e1, by rw [e3, oC_inv e4], by rw [e7, oN_inv e8]⟩

theorem Rel.inst {ι : List Addr} {H : St} {h : Heap} (R : Rel prog w ca h₀ L₀ ι H h) {n : Nat} {a : Addr} (e : ι[n]? = some a) {c d : Nat} {fs : List (Str × V)} (h1 : H[n]? = some (.inst c d)) (h2 : H[d]? = some (.ns fs)) :
    ∃ D es m, ι[d]? = some D ∧ h.get? D = some (dictOf es m) ∧ FR ι h fs es ∧ (∀ f ∈ fs, f.1 ∈ attrNames) ∧ fs.length ≤ 500 ∧ c ≤ 1 ∧ PySem.W.InstAt h a (instObj (ca c) D) (ca c) (some (dictOf es m)) := by
  obtain ⟨D, e1, e2, e3⟩ := R.obj n a _ e h1
  obtain ⟨es, m, f1, f2, f3, f4⟩ := R.obj d D _ e1 h2
  exact ⟨D, es, m, e1, f1, f2, f3, f4, e3, ⟨e2, rfl, rfl, f1⟩⟩

variable {K : Frag} (CF : ClsFacts K h₀ ca)
include CF

theorem getAt_ok {name : Str} (hname : name ∈ attrNames) {o v : V} {x : Value} {H : St} {ι : List Addr} {s : Shared} {A : Around} (ho : VR ι s.heap o x) (hd : getAt o name H = some v) (hR : Rel prog w ca h₀ L₀ ι H s.heap)
    {expr : Bool} {Q : Value → Shared → Prop} {E : Value → Shared → Prop} (hQ : ∀ z t, VR ι s.heap v z → Q z { s with toks := t }) : wpAny (model prog w) A (getAttr x name expr) Q E s := by
  obtain ⟨⟨c, d, fs⟩, h1, h2⟩ := Option.bind_eq_some_iff.mp hd
  obtain ⟨n, rfl, i1, i2⟩ := fsAt_some h1
  cases ho with | ref _ a hn =>
  obtain ⟨D, es, m, e1, e2, e3, e4, e5, hc, I⟩ := hR.inst hn i1 i2
  obtain ⟨y, g1, g2⟩ := FR_find e3 name
  obtain ⟨z, rfl, hz⟩ := OV_get g2 h2
  have X : K.In s.heap := CF.inK.keeps hR.base
  exact get_value X I (plainGet_of (CF.get c hc name)).1 (findObj_own (CF.dict c hc) (CF.own c hc name hname) rfl g1) (handed_ok hz) (hQ _ _ hz)

theorem EOk.attr {x name : Str} {xp pos : Pos} {d : Rho → St → Option (V × St)} (hname : name ∈ attrNames) (h : EOk prog w ca h₀ L₀ sl sc k (.Name x xp) d) :
    EOk prog w ca h₀ L₀ sl sc k (.Attribute (.Name x xp) name pos) (mAttr d name) := by
  intro A env ρ ι H s v H' hsc hr he hR hd Q E hQ
  obtain ⟨⟨a, H1⟩, e1, hd⟩ := Option.bind_eq_some_iff.mp hd
  obtain ⟨z, hz, e⟩ := Option.map_eq_some_iff.mp hd
  cases e
  exact Attribute_name (h A env ρ ι H s a H1 hsc hr he hR e1 _ _ fun x ι1 s1 g1 R1 V1 => getAt_ok CF hname V1 hz R1 fun z t hv => hQ _ _ _ (g1.toks t) R1 hv)
end
end
end Mine.L1

namespace Mine.L1
section
open PySem PySem.W PyProof.Rows
set_option maxRecDepth 10000

theorem insI_perm (x : Int) : ∀ l : List Int, (insI x l).Perm (x :: l)
  | [] => .refl _
  | y :: r => by
    unfold insI
    split
    · exact .refl _
    · exact ((insI_perm x r).cons y).trans (.swap x y r)
theorem insI_sorted (x : Int) : ∀ l : List Int, l.Pairwise (· ≤ ·) → (insI x l).Pairwise (· ≤ ·)
  | [], _ => by simp [insI]
  | y :: r, h => by
    unfold insI
    obtain ⟨h1, h2⟩ := List.pairwise_cons.mp h
    split
    · rename_i hxy
      exact List.pairwise_cons.mpr ⟨fun z hz => by rcases List.mem_cons.mp hz with rfl | hz; exact hxy; exact Int.le_trans hxy (h1 z hz), h⟩
    · rename_i hxy
      refine List.pairwise_cons.mpr ⟨fun z hz => ?_, insI_sorted x r h2⟩
      rcases List.mem_cons.mp ((insI_perm x r).mem_iff.mp hz) with rfl | hz
      · lia
      · exact h1 z hz
theorem sortI_perm : ∀ l : List Int, (sortI l).Perm l
  | [] => .refl _
  | x :: r => (insI_perm x _).trans ((sortI_perm r).cons x)
theorem sortI_sorted : ∀ l : List Int, (sortI l).Pairwise (· ≤ ·)
  | [] => .nil
  | x :: r => insI_sorted x _ (sortI_sorted r)
theorem sorted_unique : ∀ {a b : List Int}, a.Perm b → a.Pairwise (· ≤ ·) → b.Pairwise (· ≤ ·) → a = b
  | [], b, p, _, _ => by simpa using p.symm.eq_nil.symm
  | x :: a, [], p, _, _ => by simpa using p.eq_nil
  | x :: a, y :: b, p, ha, hb => by
    obtain ⟨a1, a2⟩ := List.pairwise_cons.mp ha
    obtain ⟨b1, b2⟩ := List.pairwise_cons.mp hb
    have e : x = y := by
      have h1 : x ∈ y :: b := p.mem_iff.mp List.mem_cons_self
      have h2 : y ∈ x :: a := p.mem_iff.mpr List.mem_cons_self
      rcases List.mem_cons.mp h1 with h | h
      · exact h
      · rcases List.mem_cons.mp h2 with h' | h'
        · exact h'.symm
        · have := b1 x h; have := a1 y h'; lia
    subst e
    rw [sorted_unique ((List.perm_cons x).mp p) a2 b2]

section
variable {prog : Program} {w : World} {ca : Nat → Addr} {h₀ : Heap} {L₀ : Addr}
variable {sl : List Str} {sc : Scope} {k : Nat}

/-- a step that keeps all that stood -/
theorem Go.kept (X : Addr → Prop) (ι : List Addr) {s : Shared} {h' : Heap} (hk : ∀ b o, s.heap.get? b = some o → h'.get? b = some o) (t : Nat) : Go L₀ X ι ι s { s with heap := h', toks := t } :=
  ⟨List.prefix_rfl, fun _ h => .inl h, fun b o e _ _ _ => hk b o e, fun _ m n => Ns_at n (hk _), fun b h => by
    obtain ⟨o, ho⟩ := Option.isSome_iff_exists.mp h
    show (h'.get? b).isSome = true; rw [hk b o ho]; rfl, fun b o e _ => hk b o e, rfl, rfl⟩
theorem Rel.kept {ι : List Addr} {H : St} {h h' : Heap} (R : Rel prog w ca h₀ L₀ ι H h) (hk : ∀ b o, h.get? b = some o → h'.get? b = some o) : Rel prog w ca h₀ L₀ ι H h' :=
  R.mono (fun b o e _ => hk b o e) (fun a _ o e => hk a o e) (fun b o e _ => hk b o e) (by obtain ⟨m, n⟩ := R.ns0; exact ⟨m, Ns_at n (hk _)⟩)
theorem Rel.fresh_of {ι : List Addr} {H : St} {h : Heap} (R : Rel prog w ca h₀ L₀ ι H h) {a : Addr} (ha : h.get? a = Option.none) : a ∉ ι ∧ a ≠ L₀ := by
  constructor
  · intro hx; obtain ⟨o, ho, _⟩ := R.lt hx; rw [ha] at ho; cases ho
  · rintro rfl; obtain ⟨m, n⟩ := R.ns0; obtain ⟨o, ho⟩ := Ns_alive n; rw [ha] at ho; cases ho
theorem Go.tracked {X : Addr → Prop} {ι : List Addr} {s s' : Shared} (g : Go L₀ X ι ι s s') {a : Addr} (ha : s.heap.get? a = Option.none) : Go L₀ X ι (ι ++ [a]) s s' :=
  ⟨List.prefix_append _ _, fun b h => (List.mem_append.mp h).imp id fun h => by rw [List.mem_singleton.mp h]; exact ha, g.ext, g.ns0, g.live, g.frz, g.gens, g.os⟩

/-- a new list that a built-in has made at a -/
theorem newL_at {xs : List V} {H : St} {v : V} {H' : St} (hd : newL xs H = some (v, H')) {ι : List Addr} {s : Shared} (hR : Rel prog w ca h₀ L₀ ι H s.heap) {h' : Heap} {a : Addr} {vs : List Value} {n : Nat} (hv : VRs ι h' xs vs)
    (hk : ∀ b o, s.heap.get? b = some o → h'.get? b = some o) (ha : ∀ b o, s.heap.get? b = some o → b < a) (e : h'.get? a = some (listObj vs n)) (t : Nat) :
    Go L₀ No ι (ι ++ [a]) s { s with heap := h', toks := t } ∧ Rel prog w ca h₀ L₀ (ι ++ [a]) H' h' ∧ VR (ι ++ [a]) h' v (.ref a) := by
  have hn : s.heap.get? a = Option.none := by
    cases q : s.heap.get? a with
    | none => rfl
    | some o => exact absurd (ha a o q) (Nat.lt_irrefl _)
  have hb : h₀.objs.size ≤ a := by
    obtain ⟨m, n⟩ := hR.ns0
    obtain ⟨o, ho⟩ := Ns_alive n
    exact Nat.le_trans hR.above0 (Nat.le_of_lt (ha _ _ ho))
  obtain ⟨f1, f2⟩ := hR.fresh_of hn
  obtain ⟨hl, hd⟩ := need_inv hd
  have hl := of_decide_eq_true hl
  cases hd
  refine ⟨(Go.kept No ι hk t).tracked hn, (hR.kept hk).track (h := s.heap) f1 f2 hb ⟨vs, n, e, hv.mono (List.prefix_append _ _) (Frz.refl _), hl⟩, .ref _ _ ?_⟩
  rw [← hR.len, List.getElem?_append_right (Nat.le_refl _)]; simp

theorem sumL_ints {ι : List Addr} {h : Heap} : ∀ {xs : List V} {vs : List Value} {is : List Int}, VRs ι h xs vs → intsOf xs = some is → ∃ ys : List (Int × Tok), vs = ys.map (fun y => Value.int y.1 y.2) ∧ ys.map (·.1) = is
  | _, _, _, .nil, e => by cases e; exact ⟨[], rfl, rfl⟩
  | _, _, _, .cons p q, e => by
    obtain ⟨i, e1, e2⟩ := bind_inv e
    obtain ⟨m, h1, rfl⟩ := map_inv e2
    obtain rfl := asI_inv e1
    obtain ⟨t, rfl⟩ := p.int_inv
    obtain ⟨ys, rfl, rfl⟩ := sumL_ints q h1
    exact ⟨(i, t) :: ys, rfl, rfl⟩

theorem intVRs {ι : List Addr} {h : Heap} : ∀ {vs : List Value} {ns : List Int}, IntsAre vs ns → VRs ι h (ns.map V.int) vs
  | _, _, .nil => .nil
  | _, _, .cons n t r => .cons (.int n t) (intVRs r)

theorem newL_len {xs : List V} {H : St} {r : V × St} (hd : newL xs H = some r) : xs.length ≤ maxLen := of_decide_eq_true (need_inv hd).1
theorem VRs.two_inv {ι : List Addr} {h : Heap} {a b : V} {vs : List Value} (q : VRs ι h [a, b] vs) : ∃ x y, vs = [x, y] ∧ VR ι h a x ∧ VR ι h b y := by
  cases q with | cons p q => obtain ⟨y, rfl, h⟩ := q.one_inv; exact ⟨_, _, rfl, p, h⟩

/-- what is called for a built-in's name -/
noncomputable def biVal : BI → Value
  | .len => .builtin "len" | .range => .type "range" | .min => .builtin "min" | .max => .builtin "max" | .list => .type "list" | .sum => .builtin "sum" | .int => .type "int" | .tuple => .type "tuple" | .sorted => .builtin "sorted"

theorem sorted_tup {t : Addr} {vs : List Value} {n : Nat} {ns : List Int} {A : Around} {E : Value → Shared → Prop} {s : Shared} {Q : Value → Shared → Prop} (ht : s.heap.get? t = some (tupObj vs n)) (hI : IntsAre vs ns) (h64 : vs.length < 64)
    (h : ∀ (h' : Heap) (a : Addr) (out : List Value) (ns' : List Int) (e : Nat), (∀ b o, s.heap.get? b = some o → h'.get? b = some o) → (∀ b o, s.heap.get? b = some o → b < a) → h'.get? a = some (listObj out e) → IntsAre out ns' → ns'.Perm ns → ns'.Pairwise (· ≤ ·) → Q (.ref a) { s with heap := h' }) :
    wpAny (model prog w) A (call (.builtin "sorted") [.ref t]) Q E s := by
  refine Calls.call_function_entry kind_sorted plain_sorted entry_sorted (args_sorted1 _) ?_
  unfold Builtin.«sorted»
  refine wpAny_bind (m := checkCount "sorted" 1 1 _) (wpAny_pure ?_)
  refine wpAny_bind (wpAny_collect_seq t (.inr rfl) ht rfl rfl (fun h₁ hk => ?_) (by rw [sizeLine_eq, List.size_toArray]; lia))
  refine wpAny_bind (wpAny_newList ?_ (by rw [sizeLine_eq]; show vs.length ≤ 16777216; lia))
  have hoL : (h₁.push (seqObj "list" vs.toArray 0)).get? h₁.objs.size = some (seqObj "list" vs.toArray 0) := Heap.get?_push_size _ rfl
  refine wpAny_bind (wpAny_holding (wpAny_call_entry (s := { s with heap := h₁.push (seqObj "list" vs.toArray 0) }) slot_list_sort ⟨_, hoL, rfl⟩ entry_list_sort (list_sort_tree hoL hI h64 fun out ns' a1 a2 a3 => ⟨_, rfl, ?_⟩) (args_list_sort _)))
  refine wpAny_pure ⟨_, rfl, ?_⟩
  obtain ⟨e, he⟩ := sortedHeap_at (n := 0) (vs := vs) (out := out) hoL
  refine h _ _ out.toList ns' e (fun b o hb => ?_) (fun b o hb => Heap.lt_size (hk b o hb)) he a1 a2 a3
  have hb1 := hk b o hb
  have hlt := Heap.lt_size hb1
  rw [sortedHeap_old (Nat.ne_of_lt hlt) (by rw [size_push']; exact Nat.lt_succ_of_lt hlt)]
  exact Heap.get?_push_of_some _ hb1

theorem len_ok {l : Addr} {vs : List Value} {n : Nat} {A : Around} {E : Value → Shared → Prop} {s : Shared} {Q : Value → Shared → Prop} (hl : s.heap.get? l = some (listObj vs n)) (hz : vs.length ≤ maxLen)
    (h : ∀ t u, Q (.int vs.length t) { s with toks := u }) : wpAny (model prog w) A (call (.builtin "len") [.ref l]) Q E s := by
  rw [maxLen_eq] at hz
  refine Calls.call_function_entry kind_len plain_len entry_len (args_len1 _) ?_
  refine wpAny_mono (wpAny_len_body_list (isList_of hl) (by simp; lia) (h _ _)) (fun f s' h => h) (fun _ _ e => e)

theorem biTwo_inv {f : Int → Int → Int} {vs : List V} {xs : List Value} {H : St} {ι : List Addr} {h : Heap} (hv : VRs ι h vs xs) {v : V} {H' : St} (hd : biTwo f vs H = some (v, H')) : ∃ a b t u, xs = [.int a t, .int b u] ∧ v = .int (f a b) ∧ H' = H := by
  obtain ⟨p, e1, q⟩ := bind_inv hd
  obtain ⟨a, e2, q1⟩ := bind_inv q
  obtain ⟨b, e3, e⟩ := map_inv q1
  cases e
  obtain rfl := two_inv e1
  obtain ⟨x, y, rfl, h1, h2⟩ := hv.two_inv
  rw [asI_inv e2] at h1
  rw [asI_inv e3] at h2
  obtain ⟨t, rfl⟩ := h1.int_inv
  obtain ⟨u, rfl⟩ := h2.int_inv
  exact ⟨a, b, t, u, rfl, rfl, rfl⟩
theorem builtin_ok {b : BI} {vs : List V} {xs : List Value} {H : St} {ι : List Addr} {s : Shared} {A : Around} (hv : VRs ι s.heap vs xs) :
    VOk prog w ca h₀ L₀ k (builtin b vs H) H ι A s (call (biVal b) xs) := by
  intro v H' hd hr hR Q E hQ
  cases b with
  | len =>
    obtain ⟨a, e1, q⟩ := bind_inv hd
    obtain ⟨ys, e2, e⟩ := map_inv q
    cases e
    obtain rfl := one_inv e1
    obtain ⟨x, rfl, h1⟩ := hv.one_inv
    obtain ⟨_, a, us, m, rfl, rfl, _, _, f1, f2, f3⟩ := hR.asL h1 e2
    have hlen := f2.length
    refine len_ok f1 (by lia) fun t u => ?_
    rw [← hlen]
    exact hQ _ _ _ ((Go.refl _ _ _).toks _) hR (.int _ _)
  | range =>
    obtain ⟨is, e1, q⟩ := bind_inv (show biRange vs H = _ from hd)
    obtain ⟨ys, rfl, e2⟩ := sumL_ints hv e1
    rcases alt_inv q with q | ⟨_, q⟩
    · obtain ⟨b, e3, e⟩ := map_inv q
      cases e
      obtain rfl := one_inv e3
      match ys, e2 with
      | [(n, t)], e2 =>
        cases e2
        exact call_range_1 (hQ _ _ _ ((Go.push _ _ _ _).toks _) (hR.push _) (.rng _ _ _ _ _ _ _ (Heap.get?_push_size _ rfl)))
    rcases alt_inv q with q | ⟨_, q⟩
    · obtain ⟨b, e3, e⟩ := map_inv q
      cases e
      obtain rfl := two_inv e3
      match ys, e2 with
      | [(n, t), (n', t')], e2 =>
        cases e2
        exact call_range_2 (hQ _ _ _ ((Go.push _ _ _ _).toks _) (hR.push _) (.rng _ _ _ _ _ _ _ (Heap.get?_push_size _ rfl)))
    · obtain ⟨⟨b1, b2, b3⟩, e3, q1⟩ := bind_inv q
      obtain ⟨hc, e⟩ := need_inv q1
      have hc : b3 ≠ 0 ∧ b3.natAbs < 1000 := of_decide_eq_true hc
      cases e
      obtain rfl := three_inv e3
      match ys, e2 with
      | [(n, t), (n', t'), (n'', t'')], e2 =>
        cases e2
        exact call_range_3 hc.1 (hQ _ _ _ ((Go.push _ _ _ _).toks _) (hR.push _) (.rng _ _ _ _ _ _ _ (Heap.get?_push_size _ rfl))) (.inl (PyProof.noPylong_small (by have := hc.2; lia)))
  | min =>
    obtain ⟨a, b, t, u, rfl, rfl, rfl⟩ := biTwo_inv hv (show biTwo _ vs H = _ from hd)
    refine min_two_ints hr.1 fun h' tk hk => ?_
    have e : VR ι h' (V.int (if b < a then b else a)) (if b < a then Value.int b u else Value.int a t) := by
      split <;> exact .int _ _
    exact hQ _ _ _ (Go.kept _ _ hk _) (hR.kept hk) e
  | max =>
    obtain ⟨a, b, t, u, rfl, rfl, rfl⟩ := biTwo_inv hv (show biTwo _ vs H = _ from hd)
    refine max_two_ints hr.1 fun h' tk hk => ?_
    have e : VR ι h' (V.int (if a < b then b else a)) (if b > a then Value.int b u else Value.int a t) := by
      split <;> exact .int _ _
    exact hQ _ _ _ (Go.kept _ _ hk _) (hR.kept hk) e
  | list =>
    obtain ⟨a, e1, q⟩ := bind_inv hd
    obtain ⟨ys, e2, hd2⟩ := bind_inv q
    obtain rfl := one_inv e1
    obtain ⟨x, rfl, h1⟩ := hv.one_inv
    have hz := newL_len hd2
    rw [maxLen_eq] at hz
    rcases alt_inv e2 with e2 | ⟨_, e2⟩
    · obtain ⟨_, a, us, m, rfl, rfl, _, _, f1, f2, f3⟩ := hR.asL h1 e2
      have hlen := f2.length
      refine call_list_seq _ (.inl rfl) f1 rfl rfl (fun h' c' hk e => ?_) (by rw [sizeLine_eq, List.size_toArray]; lia)
      obtain ⟨g, R', V'⟩ := newL_at hd2 hR (f2.mono List.prefix_rfl fun b o e _ => hk b o e) hk (fun b o hb => Heap.lt_size hb) e s.toks
      exact hQ _ _ _ g R' V'
    · obtain rfl := asT_inv e2
      obtain ⟨us, a, n, rfl, f1, f2⟩ := h1.tup_inv
      have hlen := f2.length
      refine call_list_seq _ (.inr rfl) f1 rfl rfl (fun h' c' hk e => ?_) (by rw [sizeLine_eq, List.size_toArray]; lia)
      obtain ⟨g, R', V'⟩ := newL_at hd2 hR (f2.mono List.prefix_rfl fun b o e _ => hk b o e) hk (fun b o hb => Heap.lt_size hb) e s.toks
      exact hQ _ _ _ g R' V'
  | sum =>
    obtain ⟨a, e1, q⟩ := bind_inv hd
    obtain ⟨zs, e2, q1⟩ := bind_inv q
    obtain ⟨z, e3, e⟩ := map_inv q1
    obtain ⟨is, e4, rfl⟩ := map_inv e3
    cases e
    obtain rfl := one_inv e1
    obtain ⟨x, rfl, h1⟩ := hv.one_inv
    obtain ⟨_, a, us, m, rfl, rfl, _, _, f1, f2, f3⟩ := hR.asL h1 e2
    obtain ⟨xs, rfl, rfl⟩ := sumL_ints f2 e4
    have hl : s.heap.IsList a (intItems xs.toArray) := by
      have := isList_of f1
      unfold intItems
      simpa using this
    refine sum_intListG hr.1 hl fun h' tk t' hk => ?_
    have e : preSum (numAt xs.toArray) xs.toArray.size = (xs.map (·.1)).sum := by
      rw [preSum_eq, List.take_of_length_le (by simp)]
    rw [e]
    exact hQ _ _ _ (Go.kept _ _ hk _) (hR.kept hk) (.int _ _)
  | int =>
    obtain ⟨a, e1, q⟩ := bind_inv hd
    obtain ⟨c, e2, e⟩ := map_inv q
    cases e
    obtain rfl := one_inv e1
    obtain rfl := asB_inv e2
    obtain ⟨x, rfl, h1⟩ := hv.one_inv
    obtain rfl := h1.bool_inv
    exact call_int_bool (hQ _ _ _ ((Go.refl _ _ _).toks _) hR (.int _ _))
  | tuple =>
    obtain ⟨a, e1, q⟩ := bind_inv hd
    obtain ⟨ys, e2, e⟩ := map_inv q
    cases e
    obtain rfl := one_inv e1
    obtain ⟨x, rfl, h1⟩ := hv.one_inv
    rcases alt_inv e2 with e2 | ⟨_, e2⟩
    · obtain ⟨_, a, us, m, rfl, rfl, _, _, f1, f2, f3⟩ := hR.asL h1 e2
      have hlen := f2.length
      rw [maxLen_eq] at f3
      refine call_tuple_list (isList_of f1) (fun h' hk => ?_) (by rw [sizeLine_eq, List.size_toArray]; lia)
      have hk' : ∀ b o, s.heap.get? b = some o → (h'.push ({ cls := .type "tuple", data := .seq us.toArray } : Obj)).get? b = some o := fun b o e => Heap.get?_push_of_some _ (hk b o e)
      exact hQ _ _ _ (Go.kept _ _ hk' s.toks) (hR.kept hk') (.tup _ us _ 0 (Heap.get?_push_size _ rfl) (f2.mono List.prefix_rfl fun b o e _ => hk' b o e))
    · obtain rfl := asT_inv e2
      obtain ⟨us, a, n, rfl, f1, f2⟩ := h1.tup_inv
      exact call_tuple_same ⟨_, f1, rfl, n, rfl⟩ (hQ _ _ _ (Go.refl _ _ _) hR (.tup _ _ _ n f1 f2))
  | sorted =>
    obtain ⟨a, e1, q⟩ := bind_inv hd
    obtain ⟨ys, e2, q1⟩ := bind_inv q
    obtain ⟨is, e3, q2⟩ := bind_inv q1
    obtain ⟨hlt, hd2⟩ := need_inv q2
    have hlt := of_decide_eq_true hlt
    obtain rfl := one_inv e1
    obtain rfl := asT_inv e2
    obtain ⟨x, rfl, h1⟩ := hv.one_inv
    obtain ⟨us, a, n, rfl, f1, f2⟩ := h1.tup_inv
    have hlen := f2.length
    refine sorted_tup f1 (intsOf_ints f2 e3) (by lia) fun h' b out ns' e hk ha he hi hp hs => ?_
    have en : ns' = sortI is := sorted_unique (hp.trans (sortI_perm is).symm) hs (sortI_sorted is)
    subst en
    obtain ⟨g, R', V'⟩ := newL_at hd2 hR (intVRs hi) hk ha he s.toks
    exact hQ _ _ _ g R' V'
end
end
end Mine.L1

namespace Mine.L1
section
open PySem PySem.W PyProof.Rows
set_option maxRecDepth 10000

theorem valueAt_stored {K : Type} [DecidableEq K] (kvs : List (K × Value)) (k : K) (v : Value) (x : K) : valueAt (stored kvs k v) x = if x = k then some v else valueAt kvs x := by
  have hmap : ∀ l : List (K × Value), valueAt (l.map fun kv => if kv.1 = k then (kv.1, v) else kv) x = if x = k ∧ (l.any fun kv => kv.1 = k) = true then some v else valueAt l x := by
    intro l
    induction l with
    | nil => simp [valueAt]
    | cons e l ih =>
      unfold valueAt at ih ⊢
      simp only [List.map_cons, List.find?_cons, List.any_cons]
      by_cases h1 : e.1 = k
      · by_cases h2 : e.1 = x
        · simp [h1, ← h2]
        · have h3 : ¬ x = k := fun h => h2 (h1.trans h.symm)
          simp only [h1, if_true, h3, false_and, if_false]
          rw [h1] at h2
          simp only [h2, decide_false]
          rw [ih]; simp [h3]
      · simp only [h1, if_false, decide_false, Bool.false_or]
        by_cases h2 : e.1 = x
        · have h3 : ¬ x = k := fun h => h1 (h2.trans h)
          simp [h2, h3]
        · simp only [h2, decide_false]
          rw [ih]
  have happ : ∀ l : List (K × Value), (l.any fun kv => kv.1 = k) = false → valueAt (l ++ [(k, v)]) x = if x = k then some v else valueAt l x := by
    intro l
    induction l with
    | nil => intro _; by_cases h : x = k <;> simp [valueAt, h, eq_comm]
    | cons e l ih =>
      intro h
      simp only [List.any_cons, Bool.or_eq_false_iff, decide_eq_false_iff_not] at h
      have ih := ih h.2
      unfold valueAt at ih ⊢
      simp only [List.cons_append, List.find?_cons]
      by_cases h2 : e.1 = x
      · have h3 : ¬ x = k := fun h' => h.1 (h2.trans h')
        simp [h2, h3]
      · simp only [h2, decide_false]
        exact ih
  unfold stored
  split
  · rename_i h
    rw [hmap]
    by_cases hx : x = k
    · rw [if_pos ⟨hx, h⟩, if_pos hx]
    · rw [if_neg (fun q => hx q.1), if_neg hx]
  · rename_i h
    exact happ kvs (by simpa only [Bool.not_eq_true] using h)

theorem atKey_stored {K : Type} [DecidableEq K] (xs : List (K × Addr × Value)) (k : K) (a : Addr) (v : Value) (x : K) : (atKey (storedH xs k a v) x).map (·.2) = if x = k then some v else (atKey xs x).map (·.2) := by
  have hmap : ∀ l : List (K × Addr × Value), (atKey (l.map (putAt k v)) x).map (·.2) = if x = k ∧ (atKey l k).isSome = true then some v else (atKey l x).map (·.2) := by
    intro l
    induction l with
    | nil => simp [atKey]
    | cons e l ih =>
      unfold atKey at ih ⊢
      simp only [List.map_cons, List.find?_cons]
      by_cases h1 : e.1 = k
      · have e1 : (putAt k v e).1 = k := by simp [putAt, h1]
        have e2 : (putAt k v e).2.2 = v := by simp [putAt, h1]
        by_cases h2 : k = x
        · subst h2
          simp [e1, e2, h1]
        · have h3 : ¬ x = k := fun h => h2 h.symm
          simp only [e1, h2, decide_false, h1, h3, false_and, if_false]
          rw [ih]; simp [h3]
      · have e1 : putAt k v e = e := by simp [putAt, h1]
        rw [e1]
        simp only [h1, decide_false]
        by_cases h2 : e.1 = x
        · have h3 : ¬ x = k := fun h => h1 (h2.trans h)
          simp [h2, h3]
        · simp only [h2, decide_false]
          rw [ih]
  unfold storedH
  split
  · rename_i h
    rw [hmap]
    by_cases hx : x = k
    · rw [if_pos ⟨hx, h⟩, if_pos hx]
    · rw [if_neg (fun q => hx q.1), if_neg hx]
  · rename_i h
    have hn : atKey xs k = Option.none := by simpa using h
    clear h hmap
    induction xs with
    | nil => by_cases hx : x = k <;> simp [atKey, hx, eq_comm]
    | cons e l ih =>
      unfold atKey at hn ih ⊢
      simp only [List.find?_cons] at hn
      by_cases h1 : e.1 = k
      · simp [h1] at hn
      · simp only [h1, decide_false] at hn
        simp only [List.cons_append, List.find?_cons]
        by_cases h2 : e.1 = x
        · have h3 : ¬ x = k := fun h' => h1 (h2.trans h')
          simp [h2, h3]
        · simp only [h2, decide_false]
          exact ih hn

theorem storedH_length_le {K : Type} [DecidableEq K] (xs : List (K × Addr × Value)) (k : K) (a : Addr) (v : Value) : (storedH xs k a v).length ≤ xs.length + 1 := by
  unfold storedH
  split <;> simp

section
variable {prog : Program} {w : World} {ca : Nat → Addr} {h₀ : Heap} {L₀ : Addr}
variable {sl : List Str} {sc : Scope} {k : Nat}

theorem lookup_cons_eq {α β : Type} [BEq α] [LawfulBEq α] [DecidableEq α] (a x : α) (b : β) (l : List (α × β)) : ((a, b) :: l).lookup x = if x = a then some b else l.lookup x := by
  rw [List.lookup_cons]
  by_cases h : x = a
  · subst h; simp
  · have : (x == a) = false := by simpa using h
    rw [this, if_neg h]

/-- a list's new items -/
theorem Rel.setList {ι : List Addr} {H : St} {s : Shared} (R : Rel prog w ca h₀ L₀ ι H s.heap) {n : Nat} {a : Addr} (hn : ι[n]? = some a) {vs us : List Value} {i j : Nat} {h' : Heap} (ho : s.heap.get? a = some (listObj vs i))
    (hs : Heap.SameBut a s.heap h') (ho' : h'.get? a = some (listObj us j)) {ys : List V} (hv : VRs ι s.heap ys us) (hl : ys.length ≤ maxLen) :
    Go L₀ No ι ι s { s with heap := h' } ∧ Rel prog w ca h₀ L₀ ι (H.set n (.list ys)) h' := by
  have g : Go L₀ No ι ι s { s with heap := h' } := Go.upd No (List.mem_of_getElem? hn) R.apart0 ho ho' rfl hs
  exact ⟨g, R.upd hn hs ⟨us, j, ho', hv.mono List.prefix_rfl g.frz, hl⟩⟩

theorem append_ok {n : Nat} {a : Addr} {x : Value} {v : V} {xs : List V} {H : St} {ι : List Addr} {s : Shared} {A : Around} (hn : ι[n]? = some a) (ho : H[n]? = some (.list xs)) (hx : VR ι s.heap v x) (hl : xs.length < maxLen)
    (hR : Rel prog w ca h₀ L₀ ι H s.heap) {Q : Value → Shared → Prop} {E : Value → Shared → Prop} (hQ : ∀ s', Go L₀ No ι ι s s' → Rel prog w ca h₀ L₀ ι (H.set n (.list (xs ++ [v]))) s'.heap → Q .none s') :
    wpAny (model prog w) A (call (.builtin "list.append") [.ref a, x]) Q E s := by
  obtain ⟨vs, m, e1, e2, e3⟩ := hR.obj n a _ hn ho
  have hlen := e2.length
  rw [maxLen_eq] at e3
  refine append_at (its := vs.toArray) e1 (fun h' hs he => ?_) (by rw [sizeLine_eq, List.size_toArray]; lia)
  rw [show vs.toArray.push x = (vs ++ [x]).toArray by simp] at he
  obtain ⟨g, R'⟩ := hR.setList hn e1 hs he (e2.append (.cons hx .nil)) (by simp; exact hl)
  exact hQ _ g R'

/-! a text and a tuple of ints -/
theorem intsOf_inv : ∀ {xs : List V} {is : List Int}, intsOf xs = some is → xs = is.map V.int
  | [], _, e => by cases e; rfl
  | _ :: _, _, e => by
    obtain ⟨i, e1, e2⟩ := bind_inv e
    obtain ⟨ms, h1, rfl⟩ := map_inv e2
    obtain rfl := asI_inv e1
    rw [intsOf_inv h1]; rfl

abbrev Fk := Str × List Int
noncomputable def fkV (k : Fk) : V := .tup [.str k.1, .tup (k.2.map .int)]
noncomputable def fkD (k : Fk) : PyData := .tuple [.str k.1, .tuple (k.2.map .int)]
theorem flat2_inv {v : V} {k : Fk} (h : flat2 v = some k) : v = fkV k ∧ PyData.strOk k.1 = true := by
  obtain ⟨xs, e1, q1⟩ := bind_inv h
  obtain ⟨p, e2, q2⟩ := bind_inv q1
  obtain ⟨s, e3, q3⟩ := bind_inv q2
  obtain ⟨ys, e4, q4⟩ := bind_inv q3
  obtain ⟨is, e5, q5⟩ := bind_inv q4
  obtain ⟨hs, e⟩ := need_inv q5
  cases e
  refine ⟨?_, hs⟩
  rw [asT_inv e1, two_inv e2, asS_inv e3, asT_inv e4, intsOf_inv e5]; rfl

theorem reads_ints {ι : List Addr} {h : Heap} : ∀ {is : List Int} {vs : List Value}, VRs ι h (is.map V.int) vs → ∃ as, ReadsAll h vs (is.map PyData.int) as
  | [], _, q => by cases q; exact ⟨_, .nil⟩
  | i :: is, _, q => by
    cases q with | cons a b =>
    obtain ⟨t, rfl⟩ := a.int_inv
    obtain ⟨as, r⟩ := reads_ints b
    exact ⟨_, .cons (.int i t) r⟩
theorem reads_fk {ι : List Addr} {h : Heap} {k : Fk} {x : Value} (q : VR ι h (fkV k) x) : ∃ as, Reads h x (fkD k) as := by
  obtain ⟨vs, a, n, rfl, h1, h2⟩ := q.tup_inv
  obtain ⟨y, z, rfl, p1, p2⟩ := h2.two_inv
  obtain ⟨t, rfl⟩ := p1.str_inv
  obtain ⟨us, b, m, rfl, h3, h4⟩ := p2.tup_inv
  obtain ⟨as, r⟩ := reads_ints h4
  exact ⟨_, Reads.tuple h1 rfl rfl (.cons (.str _ _) (.cons (Reads.tuple h3 rfl rfl r) .nil))⟩
theorem canLay_ints : ∀ is : List Int, PyData.canLayAll0 (is.map PyData.int) = true
  | [] => by rw [List.map_nil, PyData.canLayAll0]
  | i :: is => by rw [List.map_cons, PyData.canLayAll0, canLay_ints is, PyData.canLay0]; rfl
theorem canLay_fk {k : Fk} (h : PyData.strOk k.1 = true) : (fkD k).canLay0 = true := by
  simp only [fkD, PyData.canLay0, PyData.canLayAll0, h, canLay_ints, Bool.and_self]
theorem depth_ints : ∀ is : List Int, PyData.depthAll (is.map PyData.int) = 0
  | [] => by rw [List.map_nil, PyData.depthAll]
  | i :: is => by rw [List.map_cons, PyData.depthAll, depth_ints is, PyData.depth]; rfl
theorem depth_fk (k : Fk) : (fkD k).depth = 2 := by
  simp only [fkD, PyData.depth, PyData.depthAll, depth_ints]; rfl
theorem eqv_ints : ∀ is js : List Int, PyData.eqvAll (is.map PyData.int) (js.map PyData.int) = decide (is = js)
  | [], [] => by rw [List.map_nil, PyData.eqvAll]; rfl
  | [], _ :: _ => by rw [List.map_nil, List.map_cons, PyData.eqvAll]; rfl
  | _ :: _, [] => by rw [List.map_nil, List.map_cons, PyData.eqvAll]; rfl
  | i :: is, j :: js => by
    rw [List.map_cons, List.map_cons, PyData.eqvAll, eqv_ints is js, PyData.eqv]
    by_cases h1 : i = j <;> by_cases h2 : is = js <;> simp [h1, h2]
theorem eqv_fk (a b : Fk) : PyData.eqv (fkD a) (fkD b) = decide (a = b) := by
  obtain ⟨s, is⟩ := a
  obtain ⟨r, js⟩ := b
  simp only [fkD, PyData.eqv, PyData.eqvAll, eqv_ints]
  by_cases h1 : s = r <;> by_cases h2 : is = js <;> simp [h1, h2]
theorem ints_inj {ι : List Addr} {h : Heap} : ∀ {is js : List Int} {vs : List Value}, VRs ι h (is.map V.int) vs → VRs ι h (js.map V.int) vs → is = js
  | [], [], _, _, _ => rfl
  | [], _ :: _, _, p, q => by cases p; cases q
  | _ :: _, [], _, p, q => by cases q; cases p
  | i :: is, j :: js, _, p, q => by
    cases p with | cons a b =>
    cases q with | cons a' b' =>
    obtain ⟨t, rfl⟩ := a.int_inv
    obtain ⟨u, e⟩ := a'.int_inv
    cases e
    rw [ints_inj b b']
theorem tupObj_inj {vs us : List Value} {n m : Nat} (e : tupObj vs n = tupObj us m) : vs = us := by
  have h := congrArg Obj.data e
  injection h with h1 _
  exact congrArg Array.toList h1
theorem fk_inj {ι : List Addr} {h : Heap} {a b : Fk} {x : Value} (p : VR ι h (fkV a) x) (q : VR ι h (fkV b) x) : a = b := by
  obtain ⟨vs, c, n, rfl, h1, h2⟩ := p.tup_inv
  obtain ⟨us, d, m, e, h3, h4⟩ := q.tup_inv
  cases e
  rw [h1] at h3
  obtain rfl := tupObj_inj (Option.some.inj h3)
  obtain ⟨y, z, rfl, p1, p2⟩ := h2.two_inv
  obtain ⟨y', z', e, q1, q2⟩ := h4.two_inv
  cases e
  obtain ⟨t, rfl⟩ := p1.str_inv
  obtain ⟨t', e⟩ := q1.str_inv
  injection e with e0 _
  obtain ⟨vs, c, n, rfl, h1, h2⟩ := p2.tup_inv
  obtain ⟨us, d, m, e, h3, h4⟩ := q2.tup_inv
  cases e
  rw [h1] at h3
  obtain rfl := tupObj_inj (Option.some.inj h3)
  exact Prod.ext e0 (ints_inj h2 h4)

theorem eqAt_fk {ι : List Addr} {s : Shared} {a b : Fk} {x y : Value} {A : Around} (hv : VR ι s.heap (fkV a) x) (hu : VR ι s.heap (fkV b) y) (p1 : PyData.strOk a.1 = true) (p2 : PyData.strOk b.1 = true) (hA : A.units + 2 < cLine) :
    PySem.SeqAt.EqAt A s x y (decide (a = b)) := by
  obtain ⟨as, r1⟩ := reads_fk hv
  obtain ⟨bs, r2⟩ := reads_fk hu
  rw [← eqv_fk]
  exact PySem.SeqAt.eqAt_reads _ _ A s x y as bs r1 r2 (canLay_fk p1) (canLay_fk p2) (by rw [depth_fk, depth_fk]; exact hA)

theorem flats_inv : ∀ {xs : List V} {ks : List Fk}, mapO flat2 xs = some ks → xs = ks.map fkV ∧ ∀ k ∈ ks, PyData.strOk k.1 = true
  | [], _, e => by cases e; exact ⟨rfl, fun k h => by cases h⟩
  | _ :: _, _, e => by
    obtain ⟨i, e1, e2⟩ := bind_inv e
    obtain ⟨ms, h1, rfl⟩ := map_inv e2
    obtain ⟨rfl, a⟩ := flat2_inv e1
    obtain ⟨rfl, b⟩ := flats_inv h1
    exact ⟨rfl, fun k h => (List.mem_cons.mp h).elim (fun e => by rw [e]; exact a) (b k)⟩

theorem VRs.mem {ι : List Addr} {h : Heap} : ∀ {ks : List Fk} {x : List Value}, VRs ι h (ks.map fkV) x → ∀ y ∈ x, ∃ a ∈ ks, VR ι h (fkV a) y
  | [], _, q, _, hy => by cases q; cases hy
  | _ :: _, _, q, y, hy => by
    cases q with | cons a b =>
    rcases List.mem_cons.mp hy with rfl | hy
    · exact ⟨_, List.mem_cons_self, a⟩
    · obtain ⟨z, hz, q⟩ := VRs.mem b y hy; exact ⟨z, List.mem_cons_of_mem _ hz, q⟩

open Classical in
theorem fk_dec {ι : List Addr} {h : Heap} {a b : Fk} {x : Value} (p : VR ι h (fkV b) x) : decide (VR ι h (fkV a) x) = decide (b = a) := by
  by_cases e : b = a
  · subst e; rw [decide_eq_true p, decide_eq_true rfl]
  · rw [decide_eq_false e, decide_eq_false fun q => e (fk_inj p q)]
open Classical in
theorem countP_fk {ι : List Addr} {h : Heap} (a : Fk) : ∀ {ks : List Fk} {x : List Value}, VRs ι h (ks.map fkV) x → x.countP (fun y => decide (VR ι h (fkV a) y)) = (ks.filter (· = a)).length
  | [], _, q => by cases q; rfl
  | b :: ks, _, q => by
    cases q with | cons p q =>
    rw [List.countP_cons, countP_fk a q, List.filter_cons, fk_dec p]
    by_cases e : b = a
    · rw [if_pos (decide_eq_true e), if_pos (decide_eq_true e)]; rfl
    · rw [if_neg (by rw [decide_eq_false e]; exact Bool.false_ne_true), if_neg (by rw [decide_eq_false e]; exact Bool.false_ne_true)]
      exact Nat.add_zero _

open Classical in
theorem count_ok {a : Addr} {x : Value} {c : Fk} {ks : List Fk} {vs : List Value} {m : Nat} {ι : List Addr} {s : Shared} {A : Around} (e1 : s.heap.get? a = some (listObj vs m)) (e2 : VRs ι s.heap (ks.map fkV) vs) (hx : VR ι s.heap (fkV c) x)
    (p1 : PyData.strOk c.1 = true) (p2 : ∀ k ∈ ks, PyData.strOk k.1 = true) (hr : Room k A) {Q : Value → Shared → Prop} {E : Value → Shared → Prop} (hQ : ∀ t u, Q (.int ((ks.filter (· = c)).length : Int) t) { s with toks := u }) :
    wpAny (model prog w) A (call (.builtin "list.count") [.ref a, x]) Q E s := by
  refine call_meets PySem.F.slot_list_count ⟨_, e1, rfl⟩ PySem.F.entry_list_count (PySem.F.args_list_count_2 _ _) (PySem.SeqAt.list_countAt a vs.toArray m Option.none #[] x (fun y => decide (VR ι s.heap (fkV c) y))) ⟨e1, fun y hy => ?_, ?_⟩
  · obtain ⟨u, hu, q⟩ := e2.mem y (by simpa using hy)
    rw [fk_dec q]
    exact eqAt_fk q hx (p2 u hu) p1 (by have := hr.units; show A.units + 1 + _ < _; lia)
  · rw [show vs.toArray.toList = vs from rfl, countP_fk c e2]
    exact hQ _ _
end
end
end Mine.L1

namespace Mine.L1
section
open PySem PySem.W PyProof.Rows
set_option maxRecDepth 10000
set_option autoImplicit false

section
variable {prog : Program} {w : World} {ca : Nat → Addr} {h₀ : Heap} {L₀ : Addr}
variable {sl : List Str} {sc : Scope} {k : Nat}

theorem setAt_ok {a i v : V} {x y z : Value} {H H' : St} {ι : List Addr} {s : Shared} {A : Around} (ha : VR ι s.heap a x) (hi : VR ι s.heap i y) (hv : VR ι s.heap v z) (hd : setAt a i v H = some H')
    (hr : Room k A) (hR : Rel prog w ca h₀ L₀ ι H s.heap) {Q : Unit → Shared → Prop} {E : Value → Shared → Prop} (hQ : ∀ s', Go L₀ No ι ι s s' → Rel prog w ca h₀ L₀ ι H' s'.heap → Q () s') :
    wpAny (model prog w) A (setItem x y z) Q E s := by
  have room : A.in1.units < cLine := by have := hr.units; show A.units + 1 < _; lia
  obtain ⟨n, e1, q1⟩ := bind_inv hd
  obtain ⟨o, ho, q2⟩ := bind_inv q1
  obtain rfl := asR_inv e1
  obtain ⟨c, rfl, hn⟩ := ha.ref_inv
  rcases alt_inv q2 with p | ⟨_, p⟩
  · obtain ⟨xs, e2, p1⟩ := bind_inv p
    obtain ⟨j, e3, p2⟩ := bind_inv p1
    obtain ⟨hj, e⟩ := need_inv p2
    have hj := of_decide_eq_true hj
    cases e
    obtain rfl := oL_inv e2
    obtain rfl := asI_inv e3
    obtain ⟨t, rfl⟩ := hi.int_inv
    obtain ⟨vs, m, f1, f2, f3⟩ := hR.obj _ c _ hn ho
    have hlen := f2.length
    have f3' := f3
    rw [maxLen_eq] at f3
    refine ki_setAt f1 hj.1 (by lia) (by rw [List.size_toArray]; lia) ?_
    have ho' := Heap.get?_update_self (Obj.mapSeq (·.setIfInBounds j.toNat z)) f1 rfl
    have es : Obj.mapSeq (·.setIfInBounds j.toNat z) (listObj vs m) = listObj (vs.set j.toNat z) m := by
      simp [Obj.mapSeq]
    rw [es] at ho'
    obtain ⟨g, R'⟩ := hR.setList hn f1 (Heap.SameBut.update ..) ho' (f2.set j.toNat hv) (by rw [List.length_set]; exact f3')
    exact hQ _ g R'
  rcases alt_inv p with p | ⟨_, p⟩
  · obtain ⟨es, e2, p1⟩ := bind_inv p
    obtain ⟨j, e3, p2⟩ := bind_inv p1
    obtain ⟨hlt, e⟩ := need_inv p2
    have hlt := of_decide_eq_true hlt
    cases e
    obtain rfl := oI_inv e2
    obtain rfl := asI_inv e3
    obtain ⟨t, rfl⟩ := hi.int_inv
    obtain ⟨kvs, h1, h2, h3, h4⟩ := hR.obj _ c _ hn ho
    rw [maxLen_eq] at hlt h4
    refine wpAny_setItem_pairs (k := j) (by simp [intKind, Value.isInt]) h1 (fun h' hm hs => ?_) (by rw [sizeLine_eq]; lia)
    obtain ⟨ob, hob, hfr⟩ := hR.lt (List.mem_of_getElem? hn)
    obtain ⟨ob', _, _, hob', _⟩ := id hm
    have g : Go L₀ No ι ι s { s with heap := h' } := Go.upd No (List.mem_of_getElem? hn) hR.apart0 hob hob' hfr hs
    refine hQ _ (g.toks _) (hR.upd hn hs ⟨_, hm, fun q => ?_, ?_, ?_⟩)
    · rw [valueAt_stored, lookup_cons_eq]
      by_cases e : q = j
      · rw [if_pos e, if_pos e]; exact hv.mono g.pre g.frz
      · rw [if_neg e, if_neg e]; exact (h2 q).mono g.pre g.frz
    · have := stored_length_le kvs j z; rw [List.length_cons]; lia
    · rw [maxLen_eq, List.length_cons]; lia
  · obtain ⟨es, e2, p1⟩ := bind_inv p
    obtain ⟨as, e3, p2⟩ := bind_inv p1
    obtain ⟨hlt, e⟩ := need_inv p2
    have hlt := of_decide_eq_true hlt
    cases e
    obtain rfl := oT_inv e2
    obtain ⟨ys, h1, h2, h3, h4⟩ := hR.obj _ c _ hn ho
    obtain ⟨b, rfl, hk⟩ := tupKey (prog := prog) (w := w) hi e3
    rw [maxLen_eq] at hlt h4
    refine wpAny_setItem_heap (knd := tupleKind (atomKind prog w)) room hk h1 (fun h' hm hs => ?_) (by rw [sizeLine_eq]; lia)
    obtain ⟨ob, hob, hfr⟩ := hR.lt (List.mem_of_getElem? hn)
    obtain ⟨ob', _, _, hob', _⟩ := id hm
    have g : Go L₀ No ι ι s { s with heap := h' } := Go.upd No (List.mem_of_getElem? hn) hR.apart0 hob hob' hfr hs
    refine hQ _ (g.toks _) (hR.upd hn hs ⟨_, hm, fun q => ?_, ?_, ?_⟩)
    · rw [atKey_stored, lookup_cons_eq]
      by_cases e : q = as
      · rw [if_pos e, if_pos e]; exact hv.mono g.pre g.frz
      · rw [if_neg e, if_neg e]; exact (h2 q).mono g.pre g.frz
    · have := storedH_length_le ys as b z; rw [List.length_cons]; lia
    · rw [maxLen_eq, List.length_cons]; lia
end
end
end Mine.L1

namespace Mine.L1
section
open PySem PySem.W PyProof.Rows
set_option maxRecDepth 10000
set_option autoImplicit false

section
variable {prog : Program} {w : World} {ca : Nat → Addr} {h₀ : Heap} {L₀ : Addr}
variable {sl : List Str} {sc : Scope} {k : Nat}

theorem Go.at {X : Addr → Prop} {ι ι' : List Addr} {s s' : Shared} (g : Go L₀ X ι ι' s s') {n : Nat} {b : Addr} (h : ι[n]? = some b) : ι'[n]? = some b := by
  obtain ⟨r, hr⟩ := g.pre
  rw [← hr, List.getElem?_append_left (List.getElem?_eq_some_iff.mp h).1]; exact h

/-- what a def does -/
noncomputable def FOk (prog : Program) (w : World) (ca : Nat → Addr) (h₀ : Heap) (L₀ : Addr) (f : Addr) (k : Nat) (F : List V → St → Option (V × St)) : Prop :=
  ∀ (A : Around) (ι : List Addr) (H : St) (s : Shared) (vs : List V) (xs : List Value) (v : V) (H' : St), Room k A → Rel prog w ca h₀ L₀ ι H s.heap → VRs ι s.heap vs xs → F vs H = some (v, H') →
    ∀ (Q : Value → Shared → Prop) (E : Value → Shared → Prop), (∀ x ι' s', Go L₀ No ι ι' s s' → Rel prog w ca h₀ L₀ ι' H' s'.heap → VR ι' s'.heap v x → Q x s') → wpAny (model prog w) A (call (.ref f) xs) Q E s

theorem FOk.le {f : Addr} {j : Nat} {F} (h : FOk prog w ca h₀ L₀ f j F) (hj : j ≤ k) : FOk prog w ca h₀ L₀ f k F :=
  fun A ι H s vs xs v H' hr => h A ι H s vs xs v H' (hr.le hj)

/-- is the thing called kept as a machine's or a frame's -/
noncomputable def Kept (prog : Program) (w : World) (h₀ : Heap) (f : Value) : Prop := ∀ h : Heap, (∀ b o, h₀.get? b = some o → h.get? b = some o) → ∃ k, (k = Keeper.frame ∨ k = Keeper.machine ∨ k = Keeper.boundFrame) ∧ Looks (model prog w) h (keeperOf f) k
theorem Kept.builtin (id : String) : Kept prog w h₀ (.builtin id) := fun _ _ => ⟨.machine, .inr (.inl rfl), Looks.of_pure rfl⟩
theorem Kept.type (id : String) : Kept prog w h₀ (.type id) := fun _ _ => ⟨.machine, .inr (.inl rfl), Looks.of_pure rfl⟩
theorem Kept.biVal (b : BI) : Kept prog w h₀ (biVal b) := by cases b <;> first | exact Kept.builtin _ | exact Kept.type _
theorem Kept.def {K : Frag} (hK : K.In h₀) {f : Value} (hk : keepIn K f = true) : Kept prog w h₀ f := fun h hb => keeps_K hk h (hK.keeps hb)

/-- no star in the arguments -/
noncomputable def NoStar (es : List Expr) : Prop := ∀ e ∈ es, ∀ rest env, starEach (e :: rest) env = (false, eval e env) :: starEach rest env
theorem NoStar.all {es : List Expr} (h : NoStar es) (env : Env) : ∀ x ∈ starEach es env, x.1 = false := by
  induction es with
  | nil => intro x hx; simp [starEach] at hx
  | cons e r ih =>
    intro x hx
    rw [h e List.mem_cons_self r env] at hx
    rcases List.mem_cons.mp hx with rfl | hx
    · rfl
    · exact ih (fun e he => h e (List.mem_cons_of_mem _ he)) x hx
theorem NoStar.back {es : List Expr} (h : NoStar es) (env : Env) (pos : Pos) : ∀ x ∈ backTo pos (starEach es env), x.1 = false := by
  intro x hx
  unfold backTo at hx
  obtain ⟨y, hy, rfl⟩ := List.mem_map.mp hx
  exact h.all env y hy

/-- the arguments, then the call -/
theorem callWith_ok {f : Value} {first : List Value} {es : List Expr} {ds : Rho → St → Option (List V × St)} (hf : Kept prog w h₀ f) (hes : EsOk prog w ca h₀ L₀ sl sc k es ds) (hst : NoStar es)
    {A : Around} {env : Env} {ρ : Rho} {ι : List Addr} {H H' : St} {s : Shared} {vs : List V} {pos : Pos} (hsc : env.scope = sc) (hr : Room k A) (he : EnvR h₀ L₀ sl env ρ ι s.heap) (hR : Rel prog w ca h₀ L₀ ι H s.heap) (hd : ds ρ H = some (vs, H'))
    {Q : Value → Shared → Prop} {E : Value → Shared → Prop} (hQ : ∀ xs ι' s', Go L₀ No ι ι' s s' → Rel prog w ca h₀ L₀ ι' H' s'.heap → VRs ι' s'.heap vs xs → wpAny (model prog w) A (call f (first ++ xs)) Q E s') :
    wpAny (model prog w) A (callWith pos f first (backTo pos (starEach es env)) []) Q E s := by
  have hno : ((backTo pos (starEach es env)).any (·.1) || ([] : List (Option Str × Sem Value)).any (·.1.isNone)) = false := by
    rw [Bool.or_eq_false_iff]
    exact ⟨List.any_eq_false.mpr fun x hx => by rw [hst.back env pos x hx]; exact Bool.false_ne_true, rfl⟩
  refine callWith_of (P := fun h => ∀ b o, h₀.get? b = some o → h.get? b = some o) hno (fun h hb => hf h hb) ?_
  have key := hes A env ρ ι H s vs H' pos hsc hr he hR hd
  cases hes' : backTo pos (starEach es env) with
  | nil =>
    rw [hes'] at key
    have e : evalArgs f true [] [] = (do let vs ← spliced []; pure ⟨vs, []⟩) := rfl
    rw [e]
    exact wpAny_bind (wpAny_mono (key (fun xs s' => (∀ b o, h₀.get? b = some o → s'.heap.get? b = some o) ∧ wpAny (model prog w) A (call f (first ++ xs)) Q E s') E fun xs ι' s' g R' V' => ⟨R'.base, hQ xs ι' s' g R' V'⟩) (fun _ _ h => wpAny_pure h) fun _ _ h => h)
  | cons x r =>
    obtain ⟨b, t⟩ := x
    have hb : b = false := hst.back env pos (b, t) (by rw [hes']; exact List.mem_cons_self)
    subst hb
    rw [hes'] at key
    exact Calls.evalArgs_plain (key _ _ fun xs ι' s' g R' V' => ⟨R'.base, hQ xs ι' s' g R' V'⟩)

theorem idictAt_some {H : St} {n : Nat} {xs : List (Int × V)} (h : idictAt H n = some xs) : H[n]? = some (.idict xs) := by
  obtain ⟨o, e1, e2⟩ := bind_inv h
  rw [e1, oI_inv e2]

theorem methR_inv {P : Prg} {cf : Nat → List V → St → Option (V × St)} {m : Str} {args : St → Option (List V × St)} {v : V} {H : St} {r : V × St} (h : methR P cf m args (v, H) = some r) :
    (∃ y f z, fsAt v H = some y ∧ P.meth y.1 m = some f ∧ args H = some z ∧ cf f (v :: z.1) z.2 = some r) ∨
    (∃ n ws z, v = .ref n ∧ listAt H n = some ws ∧ args H = some z ∧ lmeth n m z.1 z.2 = some r) ∨ (∃ n es z, v = .ref n ∧ idictAt H n = some es ∧ args H = some z ∧ dmeth n m z.1 z.2 = some r) := by
  unfold methR at h
  cases e : fsAt v H with
  | some y =>
    simp only [e] at h
    obtain ⟨f, e1, h⟩ := bind_inv h
    obtain ⟨z, e2, h⟩ := bind_inv h
    exact .inl ⟨y, f, z, rfl, e1, e2, h⟩
  | none =>
    simp only [e] at h
    obtain ⟨n, e1, p⟩ := bind_inv h
    clear h
    obtain rfl := asR_inv e1
    cases e2 : listAt H n with
    | some ws =>
      simp only [e2] at p
      obtain ⟨z, e3, p⟩ := bind_inv p
      exact .inr (.inl ⟨n, ws, z, rfl, e2, e3, p⟩)
    | none =>
      simp only [e2] at p
      obtain ⟨e4, p⟩ := need_inv p
      obtain ⟨es, e5⟩ := Option.isSome_iff_exists.mp e4
      obtain ⟨z, e3, p⟩ := bind_inv p
      exact .inr (.inr ⟨n, es, z, rfl, e5, e3, p⟩)

/-- a global name's value -/
noncomputable def GName (h₀ : Heap) (x : Str) (v : Value) : Prop := (∃ mg, h₀.Ns mainGlobals mg ∧ mg x = some v) ∨ (∃ mg mb, h₀.Ns mainGlobals mg ∧ mg x = Option.none ∧ h₀.Ns builtinsNs mb ∧ mb x = some v)

theorem Name_global {x : Str} {pos : Pos} {v : Value} (hg : GName h₀ x v) {A : Around} {env : Env} {ρ : Rho} {ι : List Addr} {H : St} {s : Shared} (he : EnvR h₀ L₀ sl env ρ ι s.heap) (hR : Rel prog w ca h₀ L₀ ι H s.heap)
    (hx : env.kindOf x = some .globalImplicit) (hd : (x == ("__debug__" : Str)) = false) {Q : Value → Shared → Prop} {E : Value → Shared → Prop} (hQ : Q v s) : wpAny (model prog w) A (eval (.Name x pos) env) Q E s := by
  refine Calls.Name_function_global he.kind hx ?_ hd
  rcases hg with ⟨mg, n, e⟩ | ⟨mg, mb, n, e, n2, e2⟩
  · exact Calls.loadGlobal_global (by rw [he.glob]; exact n.keeps hR.base) e hQ
  · exact Calls.loadGlobal_builtin (by rw [he.glob]; exact n.keeps hR.base) e (by rw [he.bi]; exact n2.keeps hR.base) e2 hQ

theorem eval_Call_Name {x : Str} {p pos : Pos} {es : List Expr} {env : Env} : eval (.Call (.Name x p) es [] pos) env = (do callWith pos (← eval (.Name x p) env) [] (backTo pos (starEach es env)) (backToKw pos (keywordEach [] env))) := rfl

theorem EOk.call_of {x : Str} {p pos : Pos} {es : List Expr} {ds : M} {f : Value} {F : List V → St → Option (V × St)} (hg : GName h₀ x f) (hf : Kept prog w h₀ f) (hk : sc.names.lookup x = some .globalImplicit) (hd' : (x == ("__debug__" : Str)) = false)
    (hes : EsOk prog w ca h₀ L₀ sl sc k es (row ds)) (hst : NoStar es) (hF : ∀ vs xs H ι s A, VRs ι s.heap vs xs → VOk prog w ca h₀ L₀ k (F vs H) H ι A s (call f xs)) :
    EOk prog w ca h₀ L₀ sl sc k (.Call (.Name x p) es [] pos) (fun ρ H => (row ds ρ H).bind fun x => F x.1 x.2) := by
  intro A env ρ ι H s v H' hsc hr he hR hd Q E hQ
  obtain ⟨⟨vs, H1⟩, e1, hd⟩ := Option.bind_eq_some_iff.mp hd
  rw [eval_Call_Name]
  refine wpAny_bind (Name_global hg he hR (by subst hsc; exact hk) hd' ?_)
  refine callWith_ok (first := []) hf hes hst hsc hr he hR e1 fun xs ι1 s1 g1 R1 V1 => ?_
  exact hF vs xs H1 ι1 s1 A V1 v H' hd hr R1 Q E fun x ι2 s2 g2 R2 V2 => hQ x ι2 s2 (g1.trans g2) R2 V2

theorem EOk.call {x : Str} {p pos : Pos} {es : List Expr} {ds : M} {f : Addr} {cf : Nat → List V → St → Option (V × St)} {i : Nat} (hg : GName h₀ x (.ref f)) (hf : Kept prog w h₀ (.ref f)) (hk : sc.names.lookup x = some .globalImplicit) (hd' : (x == ("__debug__" : Str)) = false)
    (hes : EsOk prog w ca h₀ L₀ sl sc k es (row ds)) (hst : NoStar es) (hF : FOk prog w ca h₀ L₀ f k (cf i)) :
    EOk prog w ca h₀ L₀ sl sc k (.Call (.Name x p) es [] pos) (mCall cf i ds) :=
  EOk.call_of hg hf hk hd' hes hst fun vs xs H ι s A hV v H' e hr R Q E hQ => hF A ι H s vs xs v H' hr R hV e Q E hQ

theorem EOk.bi {x : Str} {p pos : Pos} {es : List Expr} {ds : M} {b : BI} (hg : GName h₀ x (biVal b)) (hk : sc.names.lookup x = some .globalImplicit) (hd' : (x == ("__debug__" : Str)) = false)
    (hes : EsOk prog w ca h₀ L₀ sl sc k es (row ds)) (hst : NoStar es) :
    EOk prog w ca h₀ L₀ sl sc k (.Call (.Name x p) es [] pos) (mBi b ds) :=
  EOk.call_of hg (Kept.biVal b) hk hd' hes hst fun _ _ _ _ _ _ hV => builtin_ok hV

/-! methods -/
theorem eval_Call_Attr {o : Expr} {name : Str} {apos pos : Pos} {es : List Expr} {env : Env} (hbase : attributeBase o name env (eval o env) = eval o env) (hst : NoStar es) (hlen : es.length < 29) (hline : (apos.endLine == pos.line) = true) :
    eval (.Call (.Attribute o name apos) es [] pos) env = (do
      let ov ← eval o env
      standAt apos.atName
      let (f, first) ← holding [ov] (getMethod ov name (do return (← importBound o env).getD true))
      callWith pos f first (backTo pos (starEach es env)) (backToKw pos (keywordEach [] env))) := by
  rw [arm_eval_Call, hbase]
  have hform : methodCallForm (es.length + ([] : List Keyword).length) (backTo pos (starEach es env)) (backToKw pos (keywordEach [] env)) = true := by
    unfold methodCallForm
    rw [Bool.and_eq_true, Bool.and_eq_true]
    refine ⟨⟨List.all_eq_true.mpr fun x hx => by rw [hst.back env pos x hx]; rfl, rfl⟩, ?_⟩
    have e0 : backToKw pos (keywordEach [] env) = [] := rfl
    rw [e0]; simp; lia
  have hpos : methodCallPos true o env apos pos = pure pos := by unfold methodCallPos; simp [hline]
  unfold methodCall
  rw [hform, hpos]
  rfl

theorem meth_open {o : Expr} {name : Str} {apos pos : Pos} {es : List Expr} {d : Rho → St → Option (V × St)} (hbase : ∀ env, attributeBase o name env (eval o env) = eval o env) (hst : NoStar es) (hlen : es.length < 29) (hline : (apos.endLine == pos.line) = true)
    (ho : EOk prog w ca h₀ L₀ sl sc k o d) {A : Around} {env : Env} {ρ : Rho} {ι : List Addr} {H H1 : St} {s : Shared} {v : V} (hsc : env.scope = sc) (hr : Room k A) (he : EnvR h₀ L₀ sl env ρ ι s.heap) (hR : Rel prog w ca h₀ L₀ ι H s.heap) (hd : d ρ H = some (v, H1))
    {Q : Value → Shared → Prop} {E : Value → Shared → Prop} (hQ : ∀ x ι1 s1, Go L₀ No ι ι1 s s1 → Rel prog w ca h₀ L₀ ι1 H1 s1.heap → VR ι1 s1.heap v x → ∀ pl, wpAny (model prog w) A (getMethod x name pl) (fun fx s₂ => wpAny (model prog w) A (callWith pos fx.1 fx.2 (backTo pos (starEach es env)) []) Q E s₂) E s1) :
    wpAny (model prog w) A (eval (.Call (.Attribute o name apos) es [] pos) env) Q E s := by
  rw [eval_Call_Attr (hbase env) hst hlen hline]
  exact wpAny_bind (ho A env ρ ι H s v H1 hsc hr he hR hd _ _ fun x ι1 s1 g1 R1 V1 => wpAny_bind (wpAny_standAt (wpAny_bind (wpAny_holding (wpAny_mono (hQ x ι1 s1 g1 R1 V1 _) (fun _ _ h => h) fun _ _ h => h)))))

theorem list_noDict {s : Shared} {a : Addr} {vs : List Value} {m : Nat} (e : s.heap.get? a = some (listObj vs m)) : ∀ b, Value.ref a = .ref b → ∃ ob, s.heap.get? b = some ob ∧ ob.dict = Option.none :=
  fun b h => by injection h with h; subst h; exact ⟨_, e, rfl⟩

variable {K : Frag} (CF : ClsFacts K h₀ ca)

/-- what is known of the text's methods -/
structure MethFacts (prog : Program) (w : World) (K : Frag) (h₀ : Heap) (ca fa : Nat → Addr) (P : Prg) : Prop where
  find : ∀ c m f, P.meth c m = some f → findIn K (.ref (ca c)) m = some (some (.ref (fa f))) ∧ isFn K (.ref (fa f)) = true ∧ Kept prog w h₀ (.ref (fa f)) ∧ m ∉ attrNames

include CF in
theorem EOk.meth {fa : Nat → Addr} {P : Prg} (MF : MethFacts prog w K h₀ ca fa P) {cf : Nat → List V → St → Option (V × St)} (hcf : ∀ f, FOk prog w ca h₀ L₀ (fa f) k (cf f))
    {o : Expr} {name : Str} {apos pos : Pos} {es : List Expr} {d : M} {ds : M} (hbase : ∀ env, attributeBase o name env (eval o env) = eval o env) (hst : NoStar es) (hlen : es.length < 29) (hline : (apos.endLine == pos.line) = true)
    (ho : EOk prog w ca h₀ L₀ sl sc k o d) (hes : EsOk prog w ca h₀ L₀ sl sc k es (row ds)) :
    EOk prog w ca h₀ L₀ sl sc k (.Call (.Attribute o name apos) es [] pos) (mMeth P cf d name ds) := by
  intro A env ρ ι H s v H' hsc hr he hR hd Q E hQ
  obtain ⟨⟨a, H1⟩, e1, hd⟩ := bind_inv hd
  refine meth_open hbase hst hlen hline ho hsc hr he hR e1 fun x ι1 s1 g1 R1 V1 pl => ?_
  rcases methR_inv hd with ⟨⟨c, dd, fs⟩, f, ⟨vs, H2⟩, hy, hf, e2, hd⟩ | ⟨n, ws, ⟨vs, H2⟩, rfl, hws, e2, hd⟩ | ⟨n, ws, ⟨vs, H2⟩, rfl, hws, e2, hd⟩
  · obtain ⟨n, rfl, i1, i2⟩ := fsAt_some hy
    obtain ⟨b, rfl, hn⟩ := V1.ref_inv
    obtain ⟨m1, m2, m3, m4⟩ := MF.find c name f hf
    obtain ⟨D, es', m, q1, q2, q3, q4, q5, hc, I⟩ := R1.inst hn i1 i2
    obtain ⟨z, g1', g2'⟩ := FR_find q3 name
    have hnone : fs.lookup name = Option.none := by
      rw [List.lookup_eq_none_iff]
      intro p hp
      exact by simpa using fun h : name = p.1 => m4 (h ▸ q4 p hp)
    rw [hnone] at g2'
    have hz : z = Option.none := by cases z <;> first | rfl | exact g2'.elim
    subst hz
    have X : K.In s1.heap := CF.inK.keeps R1.base
    refine method_fn X I (plainGet_of (CF.get c hc name)).1 (plainGet_of (CF.get c hc name)).2 m1 (beq_iff_eq.mp m2) (by show (lookIn name (dictOf es' m)).map _ = _; rw [lookIn_dict, g1']; rfl) ?_
    refine callWith_ok (first := [.ref b]) m3 hes hst hsc hr (he.mono g1) R1 e2 fun xs ι2 s2 g2 R2 V2 => ?_
    have hb' : VR ι2 s2.heap (.ref n) (.ref b) := (VR.ref n b hn).mono g2.pre g2.frz
    exact hcf f A ι2 H2 s2 _ _ v H' hr R2 (.cons hb' V2) hd Q E fun x ι3 s3 g3 R3 V3 => hQ x ι3 s3 (g1.trans (g2.trans g3)) R3 V3
  · obtain ⟨b, rfl, hn⟩ := V1.ref_inv
    obtain ⟨us, m, f1, f2, f3⟩ := R1.list hn hws
    obtain ⟨xs, hxs, q⟩ := bind_inv hd
    obtain ⟨y, e3, q1⟩ := bind_inv q
    obtain rfl := one_inv e3
    rcases alt_inv q1 with p | ⟨_, p⟩
    · obtain ⟨hm, p1⟩ := need_inv p
      obtain ⟨hlt, e⟩ := need_inv p1
      obtain rfl := of_decide_eq_true hm
      cases e
      refine getMethod_builtin (typeIs_ref f1 rfl) PySem.F.plainAttrs_list slot_list_append type_list_append (list_noDict f1) ?_
      refine callWith_ok (first := [.ref b]) (Kept.builtin _) hes hst hsc hr (he.mono g1) R1 e2 fun zs ι2 s2 g2 R2 V2 => ?_
      obtain ⟨z, rfl, hz⟩ := V2.one_inv
      have hn2 := g2.at hn
      exact append_ok hn2 (listAt_some hxs) hz (of_decide_eq_true hlt) R2 fun s3 g3 R3 => hQ _ _ _ (g1.trans (g2.trans g3)) R3 .none
    · obtain ⟨hm, p1⟩ := need_inv p
      obtain ⟨c, h1, p2⟩ := bind_inv p1
      obtain ⟨ks, h2, e⟩ := map_inv p2
      obtain rfl := of_decide_eq_true hm
      cases e
      refine getMethod_builtin (typeIs_ref f1 rfl) PySem.F.plainAttrs_list PySem.F.slot_list_count PySem.F.type_list_count (list_noDict f1) ?_
      refine callWith_ok (first := [.ref b]) (Kept.builtin _) hes hst hsc hr (he.mono g1) R1 e2 fun zs ι2 s2 g2 R2 V2 => ?_
      obtain ⟨z, rfl, hz⟩ := V2.one_inv
      have hn2 := g2.at hn
      obtain ⟨vs2, m2, w1, w2, w3⟩ := R2.list hn2 hxs
      obtain ⟨rfl, o1⟩ := flat2_inv h1
      obtain ⟨rfl, o2⟩ := flats_inv h2
      exact count_ok w1 w2 hz o1 o2 hr fun t u => hQ _ _ _ ((g1.trans g2).toks u) R2 (.int _ _)
  · obtain ⟨b, rfl, hn⟩ := V1.ref_inv
    obtain ⟨kvs, f1, f2, f3, f4⟩ := R1.obj _ b _ hn (idictAt_some hws)
    obtain ⟨es, hes', q⟩ := bind_inv hd
    obtain ⟨⟨y1, y2⟩, e3, q1⟩ := bind_inv q
    obtain ⟨i, e4, q2⟩ := bind_inv q1
    obtain ⟨hm, e⟩ := need_inv q2
    obtain rfl := of_decide_eq_true hm
    obtain rfl := two_inv e3
    cases e
    refine getMethod_builtin f1.typeIs PySem.F.plainAttrs_dict PySem.F.slot_dict_get PySem.F.type_dict_get f1.mapOf.noDict ?_
    refine callWith_ok (first := [.ref b]) (Kept.builtin _) hes hst hsc hr (he.mono g1) R1 e2 fun zs ι2 s2 g2 R2 V2 => ?_
    obtain ⟨z1, z2, rfl, p1, p2⟩ := V2.two_inv
    obtain rfl := asI_inv e4
    obtain ⟨t, rfl⟩ := p1.int_inv
    have hn2 := g2.at hn
    obtain ⟨kvs2, q1, q2, q3, q4⟩ := R2.obj _ b _ hn2 (idictAt_some hes')
    refine call_meetsIn PySem.F.slot_dict_get q1.typeIs PySem.F.entry_dict_get (PySem.F.args_dict_get_3 _ _ _) (meets_dict_get_default (intKind prog w) b (k := i) (by simp [intKind, Value.isInt]) (R2.notSys hn2) z2) ⟨_, q1.mapOf, ?_⟩
    refine hQ _ _ _ ((g1.trans g2).toks _) R2 ?_
    have := q2 i
    cases hl : es.lookup i with
    | none =>
      rw [hl] at this
      cases hv : valueAt kvs2 i with
      | none => exact p2
      | some z => rw [hv] at this; exact this.elim
    | some u =>
      rw [hl] at this
      cases hv : valueAt kvs2 i with
      | none => rw [hv] at this; exact this.elim
      | some z => rw [hv] at this; exact this
end
end
end Mine.L1

namespace Mine.L1
section
open PySem PySem.W PyProof.Rows
set_option maxRecDepth 10000
set_option autoImplicit false

noncomputable def Own (sl : List Str) (env : Env) (b : Addr) : Prop := b = env.locals ∨ ∃ (i : Nat) (x : Str), sl[i]? = some x ∧ env.kindOf x = some .cell ∧ env.cells.lookup x = some b

inductive FlR (ι : List Addr) (h : Heap) : Fl → Flow → Prop
  | next : FlR ι h .next .next
  | ret {v : V} {x : Value} : VR ι h v x → FlR ι h (.ret v) (.ret x)

section
variable {prog : Program} {w : World} {ca : Nat → Addr} {h₀ : Heap} {L₀ : Addr}
variable {sl : List Str} {sc : Scope} {k : Nat}

/-- what a statement does -/
noncomputable def SOk (prog : Program) (w : World) (ca : Nat → Addr) (h₀ : Heap) (L₀ : Addr) (sl : List Str) (sc : Scope) (k : Nat) (st : Stmt) (d : Rho → St → Option (Fl × Rho × St)) : Prop :=
  ∀ (A : Around) (env : Env) (ρ : Rho) (ι : List Addr) (H : St) (s : Shared) (fl : Fl) (ρ' : Rho) (H' : St), env.scope = sc → Room k A → EnvR h₀ L₀ sl env ρ ι s.heap → Rel prog w ca h₀ L₀ ι H s.heap → d ρ H = some (fl, ρ', H') →
    ∀ (Q : Flow → Shared → Prop) (E : Value → Shared → Prop), (∀ f ι' s', Go L₀ (Own sl env) ι ι' s s' → EnvR h₀ L₀ sl env ρ' ι' s'.heap → Rel prog w ca h₀ L₀ ι' H' s'.heap → FlR ι' s'.heap fl f → Q f s') → wpAny (model prog w) A (exec st env) Q E s
noncomputable def SsOk (prog : Program) (w : World) (ca : Nat → Addr) (h₀ : Heap) (L₀ : Addr) (sl : List Str) (sc : Scope) (k : Nat) (st : List Stmt) (d : Rho → St → Option (Fl × Rho × St)) : Prop :=
  ∀ (A : Around) (env : Env) (ρ : Rho) (ι : List Addr) (H : St) (s : Shared) (fl : Fl) (ρ' : Rho) (H' : St), env.scope = sc → Room k A → EnvR h₀ L₀ sl env ρ ι s.heap → Rel prog w ca h₀ L₀ ι H s.heap → d ρ H = some (fl, ρ', H') →
    ∀ (Q : Flow → Shared → Prop) (E : Value → Shared → Prop), (∀ f ι' s', Go L₀ (Own sl env) ι ι' s s' → EnvR h₀ L₀ sl env ρ' ι' s'.heap → Rel prog w ca h₀ L₀ ι' H' s'.heap → FlR ι' s'.heap fl f → Q f s') → wpAny (model prog w) A (execs st env) Q E s

theorem Go.own {ι ι' : List Addr} {s s' : Shared} (g : Go L₀ No ι ι' s s') (X : Addr → Prop) : Go L₀ X ι ι' s s' where
  pre := g.pre
  new := g.new
  ext := fun b o e h1 _ h3 => g.ext b o e h1 (fun x => x) h3
  ns0 := fun _ m n => g.ns0 (fun x => x) m n
  live := g.live
  frz := g.frz
  gens := g.gens
  os := g.os

theorem SsOk.nil : SsOk prog w ca h₀ L₀ sl sc k [] (fun ρ H => some (.next, ρ, H)) := by
  intro A env ρ ι H s fl ρ' H' hsc hr he hR hd Q E hQ
  cases hd
  exact wpAny_execs_nil (hQ _ _ _ (Go.refl _ _ _) he hR .next)
theorem SsOk.cons {st : Stmt} {rest : List Stmt} {d dr : Rho → St → Option (Fl × Rho × St)} (h1 : SOk prog w ca h₀ L₀ sl sc k st d) (h2 : SsOk prog w ca h₀ L₀ sl sc k rest dr) :
    SsOk prog w ca h₀ L₀ sl sc k (st :: rest) (sCons d dr) := by
  intro A env ρ ι H s fl ρ' H' hsc hr he hR hd Q E hQ
  obtain ⟨⟨f1, ρ1, H1⟩, e1, hd⟩ := bind_inv hd
  refine wpAny_execs_cons (h1 A env ρ ι H s f1 ρ1 H1 hsc hr he hR e1 _ _ fun f ι1 s1 g1 E1 R1 F1 => ?_)
  cases F1 with
  | next => exact h2 A env ρ1 ι1 H1 s1 fl ρ' H' hsc hr E1 R1 hd _ _ fun f ι2 s2 g2 E2 R2 F2 => hQ f ι2 s2 (g1.trans g2) E2 R2 F2
  | ret q => cases hd; exact hQ _ _ _ g1 E1 R1 (.ret q)

theorem cell_ne_local {h : Heap} {L c : Addr} {m} {ov} (n : h.Ns L m) (q : h.IsCell c ov) : c ≠ L := by
  rintro rfl
  obtain ⟨o, es, ep, ho, hd, _⟩ := n
  obtain ⟨o', ho', hd'⟩ := q
  rw [ho] at ho'; cases ho'
  rw [hd] at hd'; cases hd'

theorem frozen_ns {o : Obj} {es ep} (h : o.data = .dict es ep) : frozen o = false := by simp [frozen, h]

/-- a name is bound -/
theorem store_ok {i : Nat} {x : Str} (hnd : sl.Nodup) (hi : sl[i]? = some x) (hk : sc.names.lookup x = some .local ∨ sc.names.lookup x = some .cell) {A : Around} {env : Env} {ρ : Rho} {ι : List Addr} {H : St} {s : Shared} {v : V} {y : Value} (hsc : env.scope = sc)
    (he : EnvR h₀ L₀ sl env ρ ι s.heap) (hR : Rel prog w ca h₀ L₀ ι H s.heap) (hv : VR ι s.heap v y) {Q : Unit → Shared → Prop} {E : Value → Shared → Prop}
    (hQ : ∀ s', Go L₀ (Own sl env) ι ι s s' → EnvR h₀ L₀ sl env (ρ.set i (some v)) ι s'.heap → Rel prog w ca h₀ L₀ ι H s'.heap → Q () s') : wpAny (model prog w) A (storeName env x y) Q E s := by
  have hlt : i < sl.length := (List.getElem?_eq_some_iff.mp hi).1
  have hname : ∀ j, sl[j]? = some x → j = i := fun j hj => (List.getElem?_inj (List.getElem?_eq_some_iff.mp hj).1 hnd).mp (hj.trans hi.symm)
  rcases hk with hk | hk
  · -- a local
    have hk' : env.kindOf x = some .local := by show env.scope.names.lookup x = _; rw [hsc]; exact hk
    obtain ⟨m, hn, hm⟩ := he.ns
    obtain ⟨oL, hoL⟩ := Ns_alive hn
    refine wpAny_storeName_local hk' hn (fun h' hn' hs => ?_) (by rw [he.kind]; rfl)
    obtain ⟨oL', hoL'⟩ := Ns_alive hn'
    have frz : Frz s.heap h' := fun b o e hf => (hs.2 b (by
      rintro rfl
      obtain ⟨o', es, ep, ho', hd', _⟩ := hn
      rw [e] at ho'; cases ho'
      rw [frozen_ns hd'] at hf; cases hf)).trans e
    have g : Go L₀ (Own sl env) ι ι s { s with heap := h' } :=
      ⟨List.prefix_rfl, fun _ h => .inl h, fun b o e _ hX _ => (hs.2 b (fun h => hX (.inl h))).trans e, fun hX m n => n.sameBut hs fun h => hX (.inl h), fun b e => by
        by_cases hb : b = env.locals
        · subst hb; show (h'.get? _).isSome = true; rw [hoL']; rfl
        · show (h'.get? _).isSome = true; rw [hs.2 b hb]; exact e, frz, rfl, rfl⟩
    refine hQ _ (g.toks _) ?_ ?_
    · refine ⟨he.kind, he.glob, he.bi, he.apart, he.above, ⟨_, hn', fun j z u h1 h2 h3 => ?_⟩, fun j z h1 h2 => ?_, he.inj, by simp [he.len]⟩
      · by_cases hz : z = x
        · subst hz
          have := hname j h1
          subst this
          rw [List.getElem?_set_self (by rw [he.len]; exact hlt)] at h2
          cases h2
          exact ⟨y, if_pos rfl, hv.mono List.prefix_rfl frz⟩
        · have hij : i ≠ j := by rintro rfl; rw [hi] at h1; cases h1; exact hz rfl
          rw [List.getElem?_set_ne hij] at h2
          obtain ⟨y', h4, h5⟩ := hm j z u h1 h2 h3
          exact ⟨y', (if_neg hz).trans h4, h5.mono List.prefix_rfl frz⟩
      · have hz : z ≠ x := by rintro rfl; rw [hk'] at h2; rcases h2 with h2 | h2 <;> cases h2
        have hij : i ≠ j := by rintro rfl; rw [hi] at h1; cases h1; exact hz rfl
        obtain ⟨c, ov, e1, e2, e3, e4, e5⟩ := he.cell j z h1 h2
        refine ⟨c, ov, e1, e2, e3, IsCell_at e4 fun o e => (hs.2 c (cell_ne_local hn e4)).trans e, fun u hu => ?_⟩
        rw [List.getElem?_set_ne hij] at hu
        obtain ⟨y', h4, h5⟩ := e5 u hu
        exact ⟨y', h4, h5.mono List.prefix_rfl frz⟩
    · refine hR.mono (fun b o e hb => (hs.2 b (fun h => ?_)).trans e) (fun a ha o e => (hs.2 a (fun h => he.apart (h ▸ ha))).trans e) frz ?_
      · subst h; exact absurd (Heap.lt_size hb) (Nat.not_lt.mpr he.above)
      · obtain ⟨m0, n0⟩ := hR.ns0
        by_cases h : L₀ = env.locals
        · rw [h]; exact ⟨_, hn'⟩
        · exact ⟨m0, n0.sameBut hs h⟩
  · -- a cell
    have hk' : env.kindOf x = some .cell := by show env.scope.names.lookup x = _; rw [hsc]; exact hk
    obtain ⟨c, ov, e1, e2, e3, e4, e5⟩ := he.cell i x hi (.inl hk')
    refine wpAny_storeName_cell he.kind hk' e1 e4 fun h' hc' hs => ?_
    obtain ⟨m, hn, hm⟩ := he.ns
    have hcL := cell_ne_local hn e4
    have frz : Frz s.heap h' := fun b o e hf => by
      by_cases hb : b = c
      · subst hb
        obtain ⟨o', ho', hd'⟩ := e4
        rw [e] at ho'; cases ho'
        simp [frozen, hd'] at hf
      · exact (hs.2 b hb).trans e
    have g : Go L₀ (Own sl env) ι ι s { s with heap := h' } :=
      ⟨List.prefix_rfl, fun _ h => .inl h, fun b o e _ hX _ => (hs.2 b (fun h => hX (.inr ⟨i, x, hi, hk', h ▸ e1⟩))).trans e, fun hX m n => n.sameBut hs fun h => hX (.inr ⟨i, x, hi, hk', h ▸ e1⟩), fun b e => by
        by_cases hb : b = c
        · subst hb; obtain ⟨o', ho', _⟩ := hc'; show (h'.get? _).isSome = true; rw [ho']; rfl
        · show (h'.get? _).isSome = true; rw [hs.2 b hb]; exact e, frz, rfl, rfl⟩
    refine hQ _ g ?_ ?_
    · refine ⟨he.kind, he.glob, he.bi, he.apart, he.above, ⟨m, hn.sameBut hs hcL.symm, fun j z u h1 h2 h3 => ?_⟩, fun j z h1 h2 => ?_, he.inj, by simp [he.len]⟩
      · have hz : z ≠ x := by rintro rfl; rw [hk'] at h3; cases h3
        have hij : i ≠ j := by rintro rfl; rw [hi] at h1; cases h1; exact hz rfl
        rw [List.getElem?_set_ne hij] at h2
        obtain ⟨y', h4, h5⟩ := hm j z u h1 h2 h3
        exact ⟨y', h4, h5.mono List.prefix_rfl frz⟩
      · by_cases hz : z = x
        · subst hz
          have := hname j h1
          subst this
          refine ⟨c, some y, e1, e2, e3, hc', fun u hu => ?_⟩
          rw [List.getElem?_set_self (by rw [he.len]; exact hlt)] at hu
          cases hu
          exact ⟨y, rfl, hv.mono List.prefix_rfl frz⟩
        · have hij : i ≠ j := by rintro rfl; rw [hi] at h1; cases h1; exact hz rfl
          obtain ⟨c', ov', f1, f2, f3, f4, f5⟩ := he.cell j z h1 h2
          have hcc : c' ≠ c := fun h => hz (he.inj z x c (h ▸ f1) e1)
          refine ⟨c', ov', f1, f2, f3, IsCell_at f4 fun o e => (hs.2 c' hcc).trans e, fun u hu => ?_⟩
          rw [List.getElem?_set_ne hij] at hu
          obtain ⟨y', h4, h5⟩ := f5 u hu
          exact ⟨y', h4, h5.mono List.prefix_rfl frz⟩
    · refine hR.mono (fun b o e hb => (hs.2 b (fun h => ?_)).trans e) (fun a ha o e => (hs.2 a (fun h => e2 (h ▸ ha))).trans e) frz ?_
      · subst h; exact absurd (Heap.lt_size hb) (Nat.not_lt.mpr e3.1)
      · obtain ⟨m0, n0⟩ := hR.ns0
        exact ⟨m0, n0.sameBut hs e3.2.symm⟩

theorem SOk.asg {x : Str} {p pos : Pos} {e : Expr} {i : Nat} {d : Rho → St → Option (V × St)} (h : EOk prog w ca h₀ L₀ sl sc k e d) (hnd : sl.Nodup) (hi : sl[i]? = some x) (hk : sc.names.lookup x = some .local ∨ sc.names.lookup x = some .cell)
    (hs : ∀ env : Env, env.scope = sc → swapsWith e (some (.Name x p)) pos.line env = pure false) :
    SOk prog w ca h₀ L₀ sl sc k (.Assign [.Name x p] e pos) (sAsg i d) := by
  intro A env ρ ι H s fl ρ' H' hsc hr he hR hd Q E hQ
  obtain ⟨⟨v, H1⟩, e1, e2⟩ := map_inv hd
  cases e2
  refine wpAny_Assign_Name (h A env ρ ι H s v _ hsc hr he hR e1 _ _ fun y ι1 s1 g1 R1 V1 => ?_) (hs env hsc)
  exact store_ok hnd hi hk hsc (he.mono g1) R1 V1 fun s2 g2 E2 R2 => hQ _ _ _ ((g1.own _).trans g2) E2 R2 .next

/-- names, in order -/
inductive Names (sl : List Str) (sc : Scope) : List Nat → List Expr → Prop
  | nil : Names sl sc [] []
  | cons {i : Nat} {x : Str} {p : Pos} {is : List Nat} {es : List Expr} : sl[i]? = some x → (sc.names.lookup x = some .local ∨ sc.names.lookup x = some .cell) → Names sl sc is es → Names sl sc (i :: is) (.Name x p :: es)

theorem Names.length {is : List Nat} {es : List Expr} (h : Names sl sc is es) : is.length = es.length := by
  induction h with
  | nil => rfl
  | cons _ _ _ ih => simp [ih]
theorem Names.each {is : List Nat} {es : List Expr} (h : Names sl sc is es) (env : Env) : assignEach es env = es.map fun e => (false, assign e env) := by
  induction h with
  | nil => rfl
  | cons _ _ _ ih => simp only [assignEach, List.map_cons, ih]

theorem setSlots_len : ∀ {is : List Nat} {vs : List V} {ρ ρ' : Rho}, setSlots is vs ρ = some ρ' → is.length = vs.length
  | [], [], _, _, _ => rfl
  | [], _ :: _, _, _, h => by simp [setSlots] at h
  | _ :: _, [], _, _, h => by simp [setSlots] at h
  | _ :: _, _ :: _, _, _, h => by simp only [setSlots] at h; simp [setSlots_len h]

theorem storeAll_ok (hnd : sl.Nodup) {A : Around} {env : Env} (hsc : env.scope = sc) {is : List Nat} {es : List Expr} (hn : Names sl sc is es) : ∀ {vs : List V} {ys : List Value} {ρ ρ' : Rho} {ι : List Addr} {H : St} {s : Shared}, setSlots is vs ρ = some ρ' →
    EnvR h₀ L₀ sl env ρ ι s.heap → Rel prog w ca h₀ L₀ ι H s.heap → VRs ι s.heap vs ys → ∀ {Q : Unit → Shared → Prop} {E : Value → Shared → Prop}, (∀ s', Go L₀ (Own sl env) ι ι s s' → EnvR h₀ L₀ sl env ρ' ι s'.heap → Rel prog w ca h₀ L₀ ι H s'.heap → Q () s') →
    wpAny (model prog w) A (assignInOrder (es.map fun e => assign e env) ys) Q E s := by
  induction hn with
  | nil =>
    intro vs ys ρ ρ' ι H s hs he hR hv Q E hQ
    cases hv with
    | nil => cases hs; exact wpAny_assignInOrder_none (hQ _ (Go.refl _ _ _) he hR)
    | cons _ _ => simp [setSlots] at hs
  | cons hi hk _ ih =>
    intro vs ys ρ ρ' ι H s hs he hR hv Q E hQ
    cases hv with
    | nil => simp [setSlots] at hs
    | cons a b =>
      simp only [setSlots] at hs
      refine wpAny_assignInOrder_more (wpAny_assign_Name (store_ok hnd hi hk hsc he hR a fun s1 g1 E1 R1 => ?_))
      exact ih hs E1 R1 (b.mono g1.pre g1.frz) fun s2 g2 E2 R2 => hQ _ (g1.trans g2) E2 R2

theorem assignTuple_ok (hnd : sl.Nodup) {A : Around} {env : Env} (hsc : env.scope = sc) (hr : Room k A) {is : List Nat} {es : List Expr} {n : Nat} {p : Pos} (hn : Names sl sc is es) {vs : List V} {y : Value} {ρ ρ' : Rho} {ι : List Addr} {H : St} {s : Shared} (hs : setSlots is vs ρ = some ρ')
    (he : EnvR h₀ L₀ sl env ρ ι s.heap) (hR : Rel prog w ca h₀ L₀ ι H s.heap) (hv : VR ι s.heap (.tup vs) y) {Q : Unit → Shared → Prop} {E : Value → Shared → Prop} (hQ : ∀ s', Go L₀ (Own sl env) ι ι s s' → EnvR h₀ L₀ sl env ρ' ι s'.heap → Rel prog w ca h₀ L₀ ι H s'.heap → Q () s') :
    wpAny (model prog w) A (assign (.Tuple es n p) env y) Q E s := by
  cases hv with
  | tup _ us a m e r =>
    have hlen := r.length
    have hlen2 := setSlots_len hs
    have hl3 := hn.length
    refine wpAny_assign_Tuple hr.1 (items := us.toArray) ⟨_, e, rfl, m, rfl⟩ (by rw [hn.each env]; simp; lia) (by rw [hn.each env]; simp) fun h' hx => ?_
    have hk : ∀ b o, s.heap.get? b = some o → h'.get? b = some o := fun b o hb => hx b o (fun h => by subst h; exact Nat.lt_irrefl _ (Heap.lt_size hb)) hb
    rw [hn.each env, List.map_map]
    have g : Go L₀ No ι ι s { s with heap := h' } := Go.kept No ι hk s.toks
    exact storeAll_ok hnd hsc hn hs (he.mono g) (hR.kept hk) (r.mono g.pre g.frz) fun s2 g2 E2 R2 => hQ _ ((g.own _).trans g2) E2 R2

theorem SOk.unp {es : List Expr} {n : Nat} {p pos : Pos} {e : Expr} {is : List Nat} {d : Rho → St → Option (V × St)} (h : EOk prog w ca h₀ L₀ sl sc k e d) (hnd : sl.Nodup) (hn : Names sl sc is es)
    (hs : ∀ env, swapsWithSole [.Tuple es n p] e pos.line env = pure false) (hw : ∀ env, swappedStores [.Tuple es n p] e env = pure Option.none) :
    SOk prog w ca h₀ L₀ sl sc k (.Assign [.Tuple es n p] e pos) (sUnp is d) := by
  intro A env ρ ι H s fl ρ' H' hsc hr he hR hd Q E hQ
  obtain ⟨⟨v, H1⟩, e1, q⟩ := bind_inv hd
  obtain ⟨vs, e2, q1⟩ := bind_inv q
  obtain ⟨ρ1, e3, e4⟩ := map_inv q1
  cases e4
  obtain rfl := asT_inv e2
  refine Assign_Tuple (h A env ρ ι H s _ _ hsc hr he hR e1 _ _ fun y ι1 s1 g1 R1 V1 => ?_) (hs env) (hw env)
  exact assignTuple_ok hnd hsc hr hn e3 (he.mono g1) R1 V1 fun s2 g2 E2 R2 => hQ _ _ _ ((g1.own _).trans g2) E2 R2 .next

theorem SOk.sub {o i e : Expr} {p pos : Pos} {de do_ di : Rho → St → Option (V × St)} (h1 : EOk prog w ca h₀ L₀ sl sc k e de) (h2 : EOk prog w ca h₀ L₀ sl sc k o do_) (h3 : EOk prog w ca h₀ L₀ sl sc k i di)
    (hs : ∀ env, swapsWith e (some (.Subscript o i p)) pos.line env = pure false) :
    SOk prog w ca h₀ L₀ sl sc k (.Assign [.Subscript o i p] e pos) (sSub do_ di de) := by
  intro A env ρ ι H s fl ρ' H' hsc hr he hR hd Q E hQ
  obtain ⟨⟨v, H1⟩, e1, hd⟩ := bind_inv hd
  obtain ⟨⟨u, H2⟩, e2, hd⟩ := bind_inv hd
  obtain ⟨⟨t, H3⟩, e3, hd⟩ := bind_inv hd
  obtain ⟨H4, e4, e5⟩ := map_inv hd
  cases e5
  refine wpAny_Assign_Subscript (h1 A env ρ ι H s v H1 hsc hr he hR e1 _ _ fun x ι1 s1 g1 R1 V1 => h2 A env ρ ι1 H1 s1 u H2 hsc hr (he.mono g1) R1 e2 _ _ fun y ι2 s2 g2 R2 V2 =>
    h3 A env ρ ι2 H2 s2 t H3 hsc hr (he.mono (g1.trans g2)) R2 e3 _ _ fun z ι3 s3 g3 R3 V3 => ?_) (hs env)
  refine setAt_ok (V2.mono g3.pre g3.frz) V3 (V1.mono (g2.trans g3).pre (g2.trans g3).frz) e4 hr R3 fun s4 g4 R4 => ?_
  have g := g1.trans (g2.trans (g3.trans g4))
  exact hQ _ _ _ (g.own _) (he.mono g) R4 .next

theorem SOk.ite {t : Expr} {a b : List Stmt} {pos : Pos} {dt : M} {da db : Mx} (ht : TOk prog w ca h₀ L₀ sl sc k t (fun ρ H => (dt ρ H).bind tst)) (ha : SsOk prog w ca h₀ L₀ sl sc k a da) (hb : SsOk prog w ca h₀ L₀ sl sc k b db) :
    SOk prog w ca h₀ L₀ sl sc k (.If t a b pos) (sCond dt da db) := by
  intro A env ρ ι H s fl ρ' H' hsc hr he hR hd Q E hQ
  obtain ⟨⟨c, H1⟩, e1, hd⟩ := bind_inv hd
  refine wpAny_If (ht A env ρ ι H s c H1 hsc hr he hR e1 _ _ fun ι1 s1 g1 R1 => ?_)
  cases c
  · exact hb A env ρ ι1 H1 s1 fl ρ' H' hsc hr (he.mono g1) R1 hd _ _ fun f ι2 s2 g2 E2 R2 F2 => hQ f ι2 s2 ((g1.own _).trans g2) E2 R2 F2
  · exact ha A env ρ ι1 H1 s1 fl ρ' H' hsc hr (he.mono g1) R1 hd _ _ fun f ι2 s2 g2 E2 R2 F2 => hQ f ι2 s2 ((g1.own _).trans g2) E2 R2 F2

theorem SOk.ret {e : Expr} {pos : Pos} {d : Rho → St → Option (V × St)} (h : EOk prog w ca h₀ L₀ sl sc k e d) :
    SOk prog w ca h₀ L₀ sl sc k (.Return (some e) pos) (sRet d) := by
  intro A env ρ ι H s fl ρ' H' hsc hr he hR hd Q E hQ
  obtain ⟨⟨v, H1⟩, e1, e2⟩ := map_inv hd
  cases e2
  exact wpAny_Return_some (h A env ρ ι H s v _ hsc hr he hR e1 _ _ fun y ι1 s1 g1 R1 V1 => hQ _ _ _ (g1.own _) (he.mono g1) R1 (.ret V1))

theorem SOk.expr {e : Expr} {pos : Pos} {d : Rho → St → Option (V × St)} (h : EOk prog w ca h₀ L₀ sl sc k e d) (hi : interactive { (default : Env) with scope := sc } = false) (hs : ∀ env, swapsWith e Option.none pos.line env = pure false) :
    SOk prog w ca h₀ L₀ sl sc k (.Expr e pos) (sExp d) := by
  intro A env ρ ι H s fl ρ' H' hsc hr he hR hd Q E hQ
  obtain ⟨⟨v, H1⟩, e1, e2⟩ := map_inv hd
  cases e2
  exact wpAny_Expr_any (h A env ρ ι H s v _ hsc hr he hR e1 _ _ fun y ι1 s1 g1 R1 V1 => hQ _ _ _ (g1.own _) (he.mono g1) R1 .next) (by subst hsc; exact hi) (hs env)
end
end
end Mine.L1

namespace Mine.L1
section
open PySem PySem.W PyProof.Rows
set_option maxRecDepth 10000
set_option autoImplicit false

section
variable {prog : Program} {w : World} {ca : Nat → Addr} {h₀ : Heap} {L₀ : Addr}
variable {sl : List Str} {sc : Scope} {k : Nat} {K : Frag}

theorem FR_len {ι : List Addr} {h : Heap} {fs : List (Str × V)} {es : List DictEntry} (q : FR ι h fs es) : fs.length = es.length := by
  induction q with
  | nil => rfl
  | cons _ _ ih => simp [ih]

theorem FR_put {ι : List Addr} {h : Heap} {fs : List (Str × V)} {es : List DictEntry} (q : FR ι h fs es) {name : Str} {v : V} {y : Value} (hv : VR ι h v y) (hs : Int) (t : Tok) : FR ι h (putF name v fs) (putL name hs (.str name t) y es) := by
  induction q with
  | nil => exact .cons hv .nil
  | @cons z u t' hs' x fs es a q ih =>
    unfold putF putL
    rw [show (Value.str z t').isStr name = (z == name) from rfl]
    by_cases hz : z = name
    · subst hz
      rw [if_pos rfl, if_pos (by simp)]
      exact .cons hv q
    · rw [if_neg hz, if_neg (by simpa using hz)]
      exact .cons a ih

theorem putF_mem {name : Str} {v : V} : ∀ {fs : List (Str × V)} {f : Str × V}, f ∈ putF name v fs → f.1 = name ∨ f ∈ fs
  | [], f, h => by simp [putF] at h; exact .inl (by rw [h])
  | e :: r, f, h => by
    unfold putF at h
    split at h
    · rcases List.mem_cons.mp h with rfl | h
      · exact .inl rfl
      · exact .inr (List.mem_cons_of_mem _ h)
    · rcases List.mem_cons.mp h with rfl | h
      · exact .inr List.mem_cons_self
      · exact (putF_mem h).imp id (List.mem_cons_of_mem _)
theorem putF_len {name : Str} {v : V} : ∀ (fs : List (Str × V)), (putF name v fs).length ≤ fs.length + 1
  | [] => by simp [putF]
  | e :: r => by
    unfold putF
    split
    · simp
    · have := putF_len (name := name) (v := v) r; simp; lia

theorem osa_raw {A : Around} {s : Shared} {x C dx : Addr} {es : List DictEntry} {n : Nat} {name : Str} {tk : Tok} {v : Value} {R : Result → Shared → Prop} (X : K.In s.heap) (I : PySem.W.InstAt s.heap x (instObj C dx) C (some (dictOf es n))) (hD : s.heap.get? dx = some (dictOf es n)) (hp : plainOver K C = true)
    (ht : takerIn K C name = some Option.none) (hh : (clsIn K C).any (·.hasDict) = true) (hl : (getL name es).isSome = true) (hz : es.length ≤ 501)
    (h : ∀ h', Heap.SameBut dx s.heap h' → h'.get? dx = some (dictOf (putL name (PyData.keyHash w.params name) (.str name s.toks) v es) (putN name es n)) → R (.ok (.ret .none)) { s with heap := h', toks := s.toks + 1 }) :
    codeAny (model prog w) A (.call (.builtin "object.__setattr__") ⟨[.ref x, .str name tk, v], []⟩) R s := by
  refine osa_open X I hp ht fun b => ?_
  obtain ⟨cd, hc, hd'⟩ := any_some hh
  refine wpAny_bind (wpAny_pure (wpAny_bind (wpAny_bind (wpAny_loadPart I.at_ (wpAny_bind ((looks_clsIn X hc).here ?_))))))
  rw [hd']
  refine wpAny_pure (a := some dx) (wpAny_bind (wpAny_pure (wpAny_bind ?_)))
  unfold nsSet
  refine wpAny_bind (wpAny_bind (wpAny_askSetting (wpAny_pure (wpAny_bind (wpAny_mkText (wpAny_bind (wpAny_loadPart hD ?_)))))))
  have hlen : (putL name (PyData.keyHash w.params name) (.str name s.toks) v es).length ≤ es.length + 1 := by
    clear hD I h hl ht X
    induction es with
    | nil => simp [putL]
    | cons e r ih => unfold putL; split <;> simp; have := ih (by simp at hz; lia); lia
  have D' : (s.heap.update dx (Obj.putName name (PyData.keyHash w.params name) (.str name s.toks) v)).get? dx = some (dictOf (putL name (PyData.keyHash w.params name) (.str name s.toks) v es) (putN name es n)) := by
    have := Heap.get?_update_self (Obj.putName name (PyData.keyHash w.params name) (.str name s.toks) v) hD (by rw [putName_dict]; rfl)
    rw [this, putName_dict]
  have c : (!es.toArray.any (·.key.isStr name) && es.toArray.any (·.refKey)) = false := by
    unfold getL at hl
    rw [← Array.any_toList, ← Array.any_toList]
    split at hl
    · rename_i en he
      rw [List.any_eq_true.mpr ⟨en, List.mem_of_find?_eq_some he, List.find?_some he⟩]; rfl
    · split at hl
      · cases hl
      · rename_i z; rw [Bool.not_eq_true] at z; rw [z, Bool.and_false]
  dsimp only
  rw [aRefKeyMayBeTheName_at, c]
  refine wpAny_updatePart hD ?_
  refine wpAny_bind (wpAny_lookBehind D' (pastItsLine_dict (by rw [List.size_toArray, sizeLine_eq]; lia)) ?_)
  exact wpAny_pure (h _ (Heap.SameBut.update ..) D')

variable (CF : ClsFacts K h₀ ca)
include CF

theorem setAttr_ok {name : Str} (hname : name ∈ attrNames) {o v : V} {x y : Value} {H H' : St} {ι : List Addr} {s : Shared} {A : Around} (ho : VR ι s.heap o x) (hv : VR ι s.heap v y) (hd : setAttr o name v H = some H') (hR : Rel prog w ca h₀ L₀ ι H s.heap)
    {Q : Unit → Shared → Prop} {E : Value → Shared → Prop} (hQ : ∀ s', Go L₀ No ι ι s s' → Rel prog w ca h₀ L₀ ι H' s'.heap → Q () s') : wpAny (model prog w) A (PySem.setAttr x name y) Q E s := by
  obtain ⟨⟨c, d, fs⟩, h1, q⟩ := bind_inv hd
  · obtain ⟨hlt, e⟩ := need_inv q
    have hlt := of_decide_eq_true hlt
    cases e
    obtain ⟨n, rfl, i1, i2⟩ := fsAt_some h1
    obtain ⟨a, rfl, hn⟩ := ho.ref_inv
    obtain ⟨D, es, m, e1, e2, e3, e4, e5, hc, I⟩ := hR.inst hn i1 i2
    have X : K.In s.heap := CF.inK.keeps hR.base
    obtain ⟨z, g1, g2⟩ := FR_find e3 name
    have hlen := FR_len e3
    have ht : takerIn K (ca c) name = some Option.none := by unfold takerIn; rw [CF.own c hc name hname]; rfl
    refine set_plain X I (CF.setter c hc) (osa_raw (s := { s with toks := s.toks + 1 }) X I e2 (CF.plain c hc) ht (CF.dict c hc) (by rw [g1]; rfl) (by lia) fun h' hs he => ?_)
    have g : Go L₀ No ι ι s { s with heap := h' } := Go.upd No (List.mem_of_getElem? e1) hR.apart0 e2 he rfl hs
    refine hQ _ (g.toks _) (hR.upd e1 hs ⟨_, _, he, (FR_put e3 hv _ _).mono List.prefix_rfl g.frz, fun f hf => ?_, ?_⟩)
    · rcases putF_mem hf with h | h
      · rw [h]; exact hname
      · exact e4 f h
    · have := putF_len (name := name) (v := v) fs; have hlt : fs.length < 500 := hlt; show (putF name v fs).length ≤ 500; lia

theorem SOk.att {o e : Expr} {name : Str} {p pos : Pos} (hname : name ∈ attrNames) {de do_ : Rho → St → Option (V × St)} (h1 : EOk prog w ca h₀ L₀ sl sc k e de) (h2 : EOk prog w ca h₀ L₀ sl sc k o do_)
    (hs : ∀ env, swapsWith e (some (.Attribute o name p)) pos.line env = pure false) :
    SOk prog w ca h₀ L₀ sl sc k (.Assign [.Attribute o name p] e pos) (sAtt do_ name de) := by
  intro A env ρ ι H s fl ρ' H' hsc hr he hR hd Q E hQ
  obtain ⟨⟨v, H1⟩, e1, hd⟩ := bind_inv hd
  obtain ⟨⟨u, H2⟩, e2, hd⟩ := bind_inv hd
  obtain ⟨H3, e4, e5⟩ := map_inv hd
  cases e5
  refine plainObj_wpAny_Assign_Attribute (h1 A env ρ ι H s v H1 hsc hr he hR e1 _ _ fun x ι1 s1 g1 R1 V1 => h2 A env ρ ι1 H1 s1 u H2 hsc hr (he.mono g1) R1 e2 _ _ fun y ι2 s2 g2 R2 V2 => ?_) (hs env)
  refine setAttr_ok CF hname V2 (V1.mono g2.pre g2.frz) e4 R2 fun s4 g4 R4 => ?_
  have g := g1.trans (g2.trans g4)
  exact hQ _ _ _ (g.own _) (he.mono g) R4 .next

theorem SOk.aug {o e : Expr} {name : Str} {p pos : Pos} (hname : name ∈ attrNames) {de do_ : Rho → St → Option (V × St)} (h1 : EOk prog w ca h₀ L₀ sl sc k o do_) (h2 : EOk prog w ca h₀ L₀ sl sc k e de) :
    SOk prog w ca h₀ L₀ sl sc k (.AugAssign (.Attribute o name p) .Add e pos) (sAug do_ name de) := by
  intro A env ρ ι H s fl ρ' H' hsc hr he hR hd Q E hQ
  obtain ⟨⟨u, H1⟩, e1, hd⟩ := bind_inv hd
  obtain ⟨v, e2, hd⟩ := bind_inv hd
  obtain ⟨⟨t, H2⟩, e3, hd⟩ := bind_inv hd
  refine wpAny_AugAssign_AttributeAny (h1 A env ρ ι H s u H1 hsc hr he hR e1 _ _ fun x ι1 s1 g1 R1 V1 => ?_)
  refine getAt_ok CF hname V1 e2 R1 fun z tk hz => ?_
  refine h2 A env ρ ι1 H1 { s1 with toks := tk } t H2 hsc hr (he.mono (g1.toks tk)) R1 e3 _ _ fun y ι2 s2 g2 R2 V2 => ?_
  have hz2 := hz.mono g2.pre g2.frz
  obtain ⟨a, e6, q1⟩ := bind_inv hd
  obtain ⟨b, e7, q2⟩ := bind_inv q1
  obtain ⟨H3, e4, e5⟩ := map_inv q2
  cases e5
  · rw [asI_inv e6] at hz2
    obtain rfl : t = V.int b := asI_inv e7
    obtain ⟨t1, rfl⟩ := hz2.int_inv
    obtain ⟨t2, rfl⟩ := V2.int_inv
    refine wpAny_iadd_int ?_
    refine setAttr_ok (s := { s2 with toks := s2.toks + 1 }) CF hname (V1.mono g2.pre g2.frz) (.int _ _) e4 R2 fun s4 g4 R4 => ?_
    have g := (g1.toks tk).trans ((g2.toks (s2.toks + 1)).trans g4)
    exact hQ _ _ _ (g.own _) (he.mono g) R4 .next
end
end
end Mine.L1

namespace Mine.L1
section
open PySem PySem.W PyProof.Rows
set_option maxRecDepth 10000
set_option autoImplicit false

noncomputable def rangeFrom (x left step : Int) : List V := (List.range left.toNat).map fun (j : Nat) => V.int (x + j * step)

theorem rangeFrom_cons {x left step : Int} (h : 0 < left) : rangeFrom x left step = .int x :: rangeFrom (x + step) (left - 1) step := by
  obtain ⟨n, hn⟩ : ∃ n : Nat, left.toNat = n + 1 := ⟨left.toNat - 1, by lia⟩
  have hn' : (left - 1).toNat = n := by lia
  unfold rangeFrom
  rw [hn, hn', List.range_succ_eq_map, List.map_cons, List.map_map]
  congr 1
  · simp
  · refine List.map_congr_left fun j _ => ?_
    simp only [Function.comp, V.int.injEq, Nat.succ_eq_add_one, Int.natCast_add, Int.add_mul]
    show x + ((j : Int) * step + (1 : Int) * step) = x + step + (j : Int) * step
    lia
theorem rangeFrom_nil {x left step : Int} (h : left ≤ 0) : rangeFrom x left step = [] := by
  unfold rangeFrom
  rw [show left.toNat = 0 by lia]; rfl

theorem range_ok {a b s : Int} (h : rangeOk a b s = true) : Builtin.Range.small a b s = true ∧ rangeFrom a (Builtin.Range.rangeSize a b s) s = rangeL a b s := by
  unfold rangeOk at h
  simp only [Bool.and_eq_true, Bool.or_eq_true, decide_eq_true_eq] at h
  obtain ⟨⟨hs, ha⟩, hb⟩ := h
  have hsz : (s = 1 → Builtin.Range.rangeSize a b s = ((b - a).toNat : Int)) ∧ (s = 2 → Builtin.Range.rangeSize a b s = (((b - a + 1) / 2).toNat : Int)) ∧ (s = -1 → Builtin.Range.rangeSize a b s = ((a - b).toNat : Int)) := by
    refine ⟨?_, ?_, ?_⟩ <;> rintro rfl <;> unfold Builtin.Range.rangeSize
    · rw [if_pos (by decide)]; split <;> lia
    · rw [if_pos (by decide)]; split <;> lia
    · rw [if_neg (by decide), show (-(-1 : Int)) = 1 by decide, Int.ediv_one]; split <;> lia
  constructor
  · unfold Builtin.Range.small
    have e : 0 ≤ Builtin.Range.rangeSize a b s ∧ Builtin.Range.rangeSize a b s < 2 ^ 22 := by
      rcases hs with (rfl | rfl) | rfl
      · rw [hsz.1 rfl]; lia
      · rw [hsz.2.1 rfl]; lia
      · rw [hsz.2.2 rfl]; lia
    have fit : ∀ x : Int, x.natAbs < 2 ^ 40 → Builtin.Range.rangeFitsLong x = true := by
      intro x hx
      unfold Builtin.Range.rangeFitsLong
      simp; lia
    rw [fit a (by lia), fit b (by lia), fit s (by rcases hs with (rfl | rfl) | rfl <;> decide), fit _ (by lia)]
    simp only [Bool.and_true, Bool.true_and]
    rcases hs with (rfl | rfl) | rfl
    · rw [if_pos (by decide), fit _ (by lia), Bool.or_true]
    · rw [if_pos (by decide), fit _ (by lia), Bool.or_true]
    · rw [if_neg (by decide), fit _ (by lia), Bool.or_true]
  · unfold rangeFrom rangeL
    rcases hs with (rfl | rfl) | rfl
    · rw [hsz.1 rfl, if_pos rfl]; simp only [Int.toNat_natCast, Int.mul_one]
    · rw [hsz.2.1 rfl, if_neg (by decide), if_pos rfl]
      simp only [Int.toNat_natCast]
      refine List.map_congr_left fun j _ => ?_
      simp only [V.int.injEq]; lia
    · rw [hsz.2.2 rfl, if_neg (by decide), if_neg (by decide), if_pos rfl]
      simp only [Int.toNat_natCast]
      refine List.map_congr_left fun j _ => ?_
      simp only [V.int.injEq]; lia

section
variable {prog : Program} {w : World} {ca : Nat → Addr} {h₀ : Heap} {L₀ : Addr}
variable {sl : List Str} {sc : Scope} {k : Nat}

/-- an iterator over a source: k items still to come, the next one at i -/
inductive IterR (ι : List Addr) (src : Src) (h : Heap) (I : Addr) (k i : Nat) : Prop
  | list (n len : Nat) (a : Addr) : src = .lst n len → ι[n]? = some a → h.IsListIter I a i → k + i = len → IterR ι src h I k i
  | tup (xs : List V) (t : Addr) (us : List Value) (m : Nat) : src = .fix xs → h.get? t = some (tupObj us m) → VRs ι h xs us → h.IsTupleIter I t i → k + i = xs.length → IterR ι src h I k i
  | rng (xs : List V) (x left step : Int) : src = .fix xs → IsRangeIter h I x left step → xs.drop i = rangeFrom x left step → k + i = xs.length → IterR ι src h I k i

theorem IterR.alive {ι : List Addr} {src : Src} {h : Heap} {I : Addr} {k i : Nat} (q : IterR ι src h I k i) : ∃ o vs, h.get? I = some o ∧ o.data = .fields vs ∧ frozen o = false := by
  cases q with
  | list n l a _ _ q _ => obtain ⟨o, ho, hc, hd⟩ := q; exact ⟨o, _, ho, hd, by unfold frozen; rw [hc, hd]; rfl⟩
  | tup xs t us m _ _ _ q _ => obtain ⟨o, ho, hc, hd⟩ := q; exact ⟨o, _, ho, hd, by unfold frozen; rw [hc, hd]; rfl⟩
  | rng xs x left step _ q _ _ => exact ⟨_, _, q, rfl, rfl⟩

theorem IterR.mono {ι ι' : List Addr} {src : Src} {h h' : Heap} {I : Addr} {k i : Nat} (q : IterR ι src h I k i) (hp : ι <+: ι') (hf : Frz h h') (e : ∀ o, h.get? I = some o → h'.get? I = some o) : IterR ι' src h' I k i := by
  cases q with
  | list n l a h1 h2 q h3 =>
    refine .list n l a h1 ?_ (q.at e) h3
    obtain ⟨r, rfl⟩ := hp
    rw [List.getElem?_append_left (List.getElem?_eq_some_iff.mp h2).1]; exact h2
  | tup xs t us m h1 h2 h3 q h4 =>
    obtain ⟨o, ho, r⟩ := q
    exact .tup xs t us m h1 (hf _ _ h2 rfl) (h3.mono hp hf) ⟨o, e _ ho, r⟩ h4
  | rng xs x left step h1 q h2 h3 => exact .rng xs x left step h1 (e _ q) h2 h3

/-- an object that the machine alone knows -/
structure Tmp (h₀ : Heap) (L₀ : Addr) (ι : List Addr) (h : Heap) (I : Addr) : Prop where
  alive : ∃ o vs, h.get? I = some o ∧ o.data = .fields vs ∧ frozen o = false
  out : I ∉ ι
  above : h₀.objs.size ≤ I
  ne0 : I ≠ L₀

/-- a change of such an object alone -/
structure Chg (I : Addr) (s s' : Shared) : Prop where
  ext : ∀ b o, b ≠ I → s.heap.get? b = some o → s'.heap.get? b = some o
  gens : s'.gens = s.gens
  os : s'.os = s.os

theorem Tmp.frz {ι : List Addr} {s s' : Shared} {I : Addr} (t : Tmp h₀ L₀ ι s.heap I) (c : Chg I s s') : Frz s.heap s'.heap := fun b o e hf => c.ext b o (by
  rintro rfl
  obtain ⟨o', vs, ho, _, hf'⟩ := t.alive
  rw [e] at ho; cases ho
  rw [hf] at hf'; cases hf') e
theorem Tmp.rel {ι : List Addr} {H : St} {s s' : Shared} {I : Addr} (t : Tmp h₀ L₀ ι s.heap I) (c : Chg I s s') (R : Rel prog w ca h₀ L₀ ι H s.heap) : Rel prog w ca h₀ L₀ ι H s'.heap := by
  refine R.mono (fun b o e hb => c.ext b o (by rintro rfl; exact absurd (Heap.lt_size hb) (Nat.not_lt.mpr t.above)) e) (fun a ha o e => c.ext a o (by rintro rfl; exact t.out ha) e) (t.frz c) ?_
  obtain ⟨m, n⟩ := R.ns0
  exact ⟨m, Ns_at n fun o e => c.ext _ o t.ne0.symm e⟩
theorem Tmp.env {ι : List Addr} {s s' : Shared} {I : Addr} {env : Env} {ρ : Rho} (t : Tmp h₀ L₀ ι s.heap I) (c : Chg I s s') (q : EnvR h₀ L₀ sl env ρ ι s.heap) : EnvR h₀ L₀ sl env ρ ι s'.heap := by
  obtain ⟨o, vs, ho, hd, _⟩ := t.alive
  have neL : env.locals ≠ I := by
    rintro e
    obtain ⟨m, ⟨o', es, ep, ho', hd', _⟩, _⟩ := q.ns
    rw [e, ho] at ho'; cases ho'
    rw [hd] at hd'; cases hd'
  refine ⟨q.kind, q.glob, q.bi, q.apart, q.above, ?_, ?_, q.inj, q.len⟩
  · obtain ⟨m, hn, hm⟩ := q.ns
    refine ⟨m, Ns_at hn fun o e => c.ext _ o neL e, fun i x v h1 h2 h3 => ?_⟩
    obtain ⟨y, h4, h5⟩ := hm i x v h1 h2 h3
    exact ⟨y, h4, h5.mono List.prefix_rfl (t.frz c)⟩
  · intro i x h1 h2
    obtain ⟨cc, ov, e1, e2, e3, e4, e5⟩ := q.cell i x h1 h2
    have ne : cc ≠ I := by
      rintro rfl
      obtain ⟨o', ho', hd'⟩ := e4
      rw [ho] at ho'; cases ho'
      rw [hd] at hd'; cases hd'
    refine ⟨cc, ov, e1, e2, e3, IsCell_at e4 fun o e => c.ext _ o ne e, fun v hv => ?_⟩
    obtain ⟨y, h4, h5⟩ := e5 v hv
    exact ⟨y, h4, h5.mono List.prefix_rfl (t.frz c)⟩
/-- from a state where it was not yet -/
theorem Go.chg {X : Addr → Prop} {ι ι' : List Addr} {s₀ s s' : Shared} {I : Addr} (g : Go L₀ X ι ι' s₀ s) (hI : s₀.heap.get? I = Option.none) (t : Tmp h₀ L₀ ι' s.heap I) (c : Chg I s s') : Go L₀ X ι ι' s₀ s' where
  pre := g.pre
  new := g.new
  ext := fun b o e h1 h2 h3 => c.ext b o (by rintro rfl; rw [hI] at e; cases e) (g.ext b o e h1 h2 h3)
  ns0 := fun h m n => Ns_at (g.ns0 h m n) fun o e => c.ext _ o t.ne0.symm e
  live := fun b e => by
    by_cases hb : b = I
    · subst hb; rw [hI] at e; cases e
    · obtain ⟨o, ho⟩ := Option.isSome_iff_exists.mp (g.live b e)
      rw [c.ext b o hb ho]; rfl
  frz := fun b o e hf => c.ext b o (by rintro rfl; rw [hI] at e; cases e) (g.frz b o e hf)
  gens := c.gens.trans g.gens
  os := c.os.trans g.os

theorem Tmp.go {X : Addr → Prop} {ι ι' : List Addr} {s s' : Shared} {I : Addr} (t : Tmp h₀ L₀ ι s.heap I) (g : Go L₀ X ι ι' s s') (hX : ¬ X I) : Tmp h₀ L₀ ι' s'.heap I := by
  obtain ⟨o, vs, ho, hd, hf⟩ := t.alive
  exact ⟨⟨o, vs, g.ext I o ho t.out hX t.ne0, hd, hf⟩, g.notin ho t.out, t.above, t.ne0⟩
theorem Tmp.keep {X : Addr → Prop} {ι ι' : List Addr} {s s' : Shared} {I : Addr} (t : Tmp h₀ L₀ ι s.heap I) (g : Go L₀ X ι ι' s s') (hX : ¬ X I) : ∀ o, s.heap.get? I = some o → s'.heap.get? I = some o :=
  fun o e => g.ext I o e t.out hX t.ne0

theorem ok_lst {n l : Nat} {H : St} (h : Src.ok H (.lst n l) = true) : ∃ xs, listAt H n = some xs ∧ xs.length = l := by
  replace h : (match listAt H n with
    | some xs => decide (xs.length = l)
    | Option.none => false) = true := h
  cases e : listAt H n with
  | none => rw [e] at h; cases h
  | some xs => rw [e] at h; exact ⟨xs, rfl, of_decide_eq_true h⟩

theorem next_some {ι : List Addr} {src : Src} {I : Addr} {v : V} {k i : Nat} {H : St} {s : Shared} {A : Around} (q : IterR ι src s.heap I (k + 1) i) (t : Tmp h₀ L₀ ι s.heap I) (hst : src.get H i = some v) (hR : Rel prog w ca h₀ L₀ ι H s.heap)
    {Q : Option Value → Shared → Prop} {E : Value → Shared → Prop} (hQ : ∀ x s', Chg I s s' → IterR ι src s'.heap I k (i + 1) → Tmp h₀ L₀ ι s'.heap I → VR ι s'.heap v x → Q (some x) s') : wpAny (model prog w) A (pyNext (.ref I)) Q E s := by
  cases q with
  | list n l a h1 h2 q h3 =>
    subst h1
    obtain ⟨xs, g1, g2⟩ := bind_inv hst
    obtain ⟨_, hi⟩ := need_inv g2
    obtain ⟨vs, m, e1, e2, e3⟩ := hR.list h2 g1
    obtain ⟨y, hy, hv⟩ := e2.get hi
    refine wpAny_pyNext_list_item q (isList_of e1) (by rw [List.getElem?_toArray]; exact hy) fun h' hit hs => ?_
    have hc : Chg I s { s with heap := h' } := ⟨fun b o hb e => (hs.2 b hb).trans e, rfl, rfl⟩
    have hq : IterR ι (.lst n l) h' I k (i + 1) := .list n l a rfl h2 hit (by lia)
    exact hQ y _ hc hq ⟨hq.alive, t.out, t.above, t.ne0⟩ (hv.mono List.prefix_rfl (t.frz hc))
  | tup xs tt us m h1 h2 h3 q h4 =>
    subst h1
    obtain ⟨y, hy, hv⟩ := h3.get hst
    refine wpAny_pyNext_tuple_item q (items := us.toArray) ⟨_, h2, rfl, m, rfl⟩ (by rw [List.getElem?_toArray]; exact hy) fun h' hit hs => ?_
    have hc : Chg I s { s with heap := h' } := ⟨fun b o hb e => (hs.2 b hb).trans e, rfl, rfl⟩
    have hq : IterR ι (.fix xs) h' I k (i + 1) := .tup xs tt us m rfl (t.frz hc _ _ h2 rfl) (h3.mono List.prefix_rfl (t.frz hc)) hit (by lia)
    exact hQ y _ hc hq ⟨hq.alive, t.out, t.above, t.ne0⟩ (hv.mono List.prefix_rfl (t.frz hc))
  | rng xs x left step h1 q h2 h3 =>
    subst h1
    have hst : xs[i]? = some v := hst
    obtain ⟨hlt, hget⟩ := List.getElem?_eq_some_iff.mp hst
    rw [List.drop_eq_getElem_cons hlt, hget] at h2
    have hl : 0 < left := by
      rcases Int.lt_or_le 0 left with h | h
      · exact h
      · rw [rangeFrom_nil h] at h2; cases h2
    rw [rangeFrom_cons hl] at h2
    injection h2 with e1 e2
    subst e1
    refine wpAny_pyNext_range_item q hl fun h' hit hs => ?_
    have hc : Chg I s { s with heap := h', toks := s.toks + 1 } := ⟨fun b o hb e => (hs.2 b hb).trans e, rfl, rfl⟩
    have hq : IterR ι (.fix xs) h' I k (i + 1) := .rng _ _ _ _ rfl hit e2 (by lia)
    exact hQ _ _ hc hq ⟨hq.alive, t.out, t.above, t.ne0⟩ (.int _ _)

theorem next_none {ι : List Addr} {src : Src} {I : Addr} {H : St} {s : Shared} {A : Around} {i : Nat} (hr : Room k A) (q : IterR ι src s.heap I 0 i) (t : Tmp h₀ L₀ ι s.heap I) (hst : src.ok H = true) (hR : Rel prog w ca h₀ L₀ ι H s.heap)
    {Q : Option Value → Shared → Prop} {E : Value → Shared → Prop} (hQ : ∀ s', Chg I s s' → Q Option.none s') : wpAny (model prog w) A (pyNext (.ref I)) Q E s := by
  cases q with
  | list n l a h1 h2 q h3 =>
    subst h1
    obtain ⟨xs, g1, g2⟩ := ok_lst hst
    obtain ⟨vs, m, e1, e2, e3⟩ := hR.list h2 g1
    have hlen := e2.length
    refine wpAny_pyNext_list_end hr.1 q (isList_of e1) (by rw [List.getElem?_toArray]; exact List.getElem?_eq_none (by lia)) fun h' hs => hQ _ ⟨fun b o hb e => hs b o hb e, rfl, rfl⟩
  | tup xs tt us m h1 h2 h3 q h4 =>
    have hlen := h3.length
    refine wpAny_pyNext_tuple_end hr.1 q (items := us.toArray) ⟨_, h2, rfl, m, rfl⟩ (by rw [List.getElem?_toArray]; exact List.getElem?_eq_none (by lia)) fun h' hs => hQ _ ⟨fun b o hb e => hs b o hb e, rfl, rfl⟩
  | rng xs x left step h1 q h2 h3 =>
    rw [List.drop_eq_nil_of_le (by lia)] at h2
    have hl : left ≤ 0 := by
      rcases Int.lt_or_le 0 left with h | h
      · rw [rangeFrom_cons h] at h2; cases h2
      · exact h
    refine wpAny_pyNext_range_end hr.1 q hl fun h' hs => hQ _ ⟨fun b o hb e => hs b o hb e, rfl, rfl⟩
end
end
end Mine.L1

namespace Mine.L1
section
open PySem PySem.W PyProof.Rows
set_option maxRecDepth 10000
set_option autoImplicit false

section
variable {prog : Program} {w : World} {ca : Nat → Addr} {h₀ : Heap} {L₀ : Addr}
variable {sl : List Str} {sc : Scope} {k : Nat}

theorem iter_start {v : V} {x : Value} {src : Src} {H : St} {ι : List Addr} {s : Shared} {A : Around} (hv : VR ι s.heap v x) (hd : source v H = some src) (hR : Rel prog w ca h₀ L₀ ι H s.heap)
    {Q : Value → Shared → Prop} {E : Value → Shared → Prop} (hQ : ∀ (I : Addr) s', s.heap.get? I = Option.none → Go L₀ No ι ι s s' → Rel prog w ca h₀ L₀ ι H s'.heap → IterR ι src s'.heap I src.len 0 → Tmp h₀ L₀ ι s'.heap I → Q (.ref I) s') :
    wpAny (model prog w) A (pyIter x) Q E s := by
  have fin : ∀ (ob : Obj), ob.isFreed = false → IterR ι src (s.heap.push ob) s.heap.objs.size src.len 0 → Q (.ref s.heap.objs.size) { s with heap := s.heap.push ob } := fun ob _ q => by
    obtain ⟨f1, f2⟩ := hR.fresh_of (get?_size s.heap)
    exact hQ _ _ (get?_size _) (Go.push _ _ _ _) (hR.push _) q ⟨q.alive, f1, hR.big, f2⟩
  rcases alt_inv hd with q | ⟨_, q⟩
  · obtain ⟨n, e1, q1⟩ := bind_inv q
    obtain ⟨xs, hx, e⟩ := map_inv q1
    cases e
    obtain rfl := asR_inv e1
    obtain ⟨a, rfl, hn⟩ := hv.ref_inv
    obtain ⟨vs, m, e1, e2, e3⟩ := hR.list hn hx
    exact wpAny_pyIter_list (isList_of e1) (fin _ rfl (.list _ _ a rfl hn ⟨_, Heap.get?_push_size _ rfl, rfl, rfl⟩ rfl))
  rcases alt_inv q with q | ⟨_, q⟩
  · obtain ⟨⟨a, b, c⟩, e1, q1⟩ := bind_inv q
    obtain ⟨hok, e⟩ := need_inv q1
    cases e
    obtain rfl := asG_inv e1
    obtain ⟨r, t, u, v', rfl, e⟩ := hv.rng_inv
    obtain ⟨h1, h2⟩ := range_ok hok
    exact wpAny_pyIter_range e h1 (fin _ rfl (.rng _ _ _ _ rfl (Heap.get?_push_size _ rfl) h2.symm rfl))
  · obtain ⟨xs, e1, e⟩ := map_inv q
    cases e
    obtain rfl := asT_inv e1
    obtain ⟨vs, a, n, rfl, e, q⟩ := hv.tup_inv
    exact wpAny_pyIter_tuple ⟨_, e, rfl, n, rfl⟩ (fin _ rfl (.tup _ a vs n rfl (Heap.get?_push_of_some _ e) (q.mono List.prefix_rfl (Frz.push _ _)) ⟨_, Heap.get?_push_size _ rfl, rfl, rfl⟩ rfl))

theorem letOwned_ok {ι : List Addr} {src : Src} {I : Addr} {k i : Nat} {s : Shared} {A : Around} (q : IterR ι src s.heap I k i) (target : Expr) (v : Value) {Q : Unit → Shared → Prop} {E : Value → Shared → Prop} (hQ : Q () s) :
    wpAny (model prog w) A (letOwnedTupleGo target (.ref I) v) Q E s := by
  have key : ∃ (o : Obj) (n : String) (vs : Array Value), s.heap.get? I = some o ∧ o.cls = .type n ∧ o.data = .fields vs ∧ (["enumerate", "zip", "dict_itemiterator", "dict_reverseitemiterator", "odict_iterator", "itertools.zip_longest", "itertools.pairwise"].contains n) = false := by
    cases q with
    | list n l a _ _ q _ => obtain ⟨o, ho, hc, hd⟩ := q; exact ⟨o, _, _, ho, hc, hd, by decide⟩
    | tup xs t us m _ _ _ q _ => obtain ⟨o, ho, hc, hd⟩ := q; exact ⟨o, _, _, ho, hc, hd, by decide⟩
    | rng xs x left step _ q _ _ => exact ⟨_, _, _, q, rfl, rfl, by decide⟩
  obtain ⟨o, n, vs, ho, hc, hd, hn⟩ := key
  have body : wpAny (model prog w) A (do
      let (.ref r, .ref a) := (Value.ref I, v) | return
      let o ← load r
      match o.cls, o.data with
      | .type n, .fields vs =>
        if ["enumerate", "zip", "dict_itemiterator", "dict_reverseitemiterator", "odict_iterator", "itertools.zip_longest", "itertools.pairwise"].contains n && vs[0]? == some (rawInt a) then
          rule "for.unpacks-the-owned-tuple"
          updateField r 0 .none
      | _, _ => pure ()) Q E s := by
    cases v <;> first | exact wpAny_pure hQ | skip
    rename_i a
    refine wpAny_bind (wpAny_load ho ?_)
    rw [hc, hd]
    show wpAny _ A (if (["enumerate", "zip", "dict_itemiterator", "dict_reverseitemiterator", "odict_iterator", "itertools.zip_longest", "itertools.pairwise"].contains n && vs[0]? == some (rawInt a)) = true then _ else _) Q E s
    rw [if_neg (by rw [hn, Bool.false_and]; exact Bool.false_ne_true)]
    exact wpAny_pure hQ
  unfold letOwnedTupleGo
  split
  · exact body
  · exact body
  · exact wpAny_pure hQ

theorem Tmp.notOwn {ι : List Addr} {s : Shared} {I : Addr} {env : Env} {ρ : Rho} (t : Tmp h₀ L₀ ι s.heap I) (q : EnvR h₀ L₀ sl env ρ ι s.heap) : ¬ Own sl env I := by
  obtain ⟨o, vs, ho, hd, _⟩ := t.alive
  rintro (e | ⟨i, x, hi, hk, hx⟩)
  · obtain ⟨m, ⟨o', es, ep, ho', hd', _⟩, _⟩ := q.ns
    rw [← e, ho] at ho'; cases ho'
    rw [hd] at hd'; cases hd'
  · obtain ⟨c, ov, e1, _, _, ⟨o', ho', hd'⟩, _⟩ := q.cell i x hi (.inl hk)
    rw [hx] at e1; cases e1
    rw [ho] at ho'; cases ho'
    rw [hd] at hd'; cases hd'

/-- a for's target -/
inductive Target (sl : List Str) (sc : Scope) : List Nat → Bool → Expr → Prop
  | one {i : Nat} {x : Str} {p : Pos} : sl[i]? = some x → (sc.names.lookup x = some .local ∨ sc.names.lookup x = some .cell) → Target sl sc [i] false (.Name x p)
  | many {is : List Nat} {es : List Expr} {n : Nat} {p : Pos} : Names sl sc is es → Target sl sc is true (.Tuple es n p)

theorem target_ok (hnd : sl.Nodup) {is : List Nat} {many : Bool} {tgt : Expr} (ht : Target sl sc is many tgt) {A : Around} {env : Env} (hsc : env.scope = sc) (hr : Room k A) {v : V} {y : Value} {ρ ρ' : Rho} {ι : List Addr} {H : St} {s : Shared} (hs : bindFor is many v ρ = some ρ')
    (he : EnvR h₀ L₀ sl env ρ ι s.heap) (hR : Rel prog w ca h₀ L₀ ι H s.heap) (hv : VR ι s.heap v y) {Q : Unit → Shared → Prop} {E : Value → Shared → Prop} (hQ : ∀ s', Go L₀ (Own sl env) ι ι s s' → EnvR h₀ L₀ sl env ρ' ι s'.heap → Rel prog w ca h₀ L₀ ι H s'.heap → Q () s') :
    wpAny (model prog w) A (assign tgt env y) Q E s := by
  cases ht with
  | one hi hk =>
    cases hs
    exact wpAny_assign_Name (store_ok hnd hi hk hsc he hR hv hQ)
  | many hn =>
    obtain ⟨vs, e1, hs⟩ := bind_inv (show (asT v).bind _ = some ρ' from hs)
    obtain rfl := asT_inv e1
    exact assignTuple_ok hnd hsc hr hn hs he hR hv hQ

theorem for_loop (hnd : sl.Nodup) {is : List Nat} {many : Bool} {tgt : Expr} (ht : Target sl sc is many tgt) {body : List Stmt} {db : Mx} (hb : SsOk prog w ca h₀ L₀ sl sc k body db)
    {A : Around} {env : Env} (hsc : env.scope = sc) (hr : Room k A) {src : Src} {I : Addr} {ι₀ : List Addr} {s₀ : Shared} (hI : s₀.heap.get? I = Option.none) {fl : Fl} {ρ' : Rho} {H' : St} {R : Result → Shared → Prop}
    (hQ : ∀ f ι' s', Go L₀ (Own sl env) ι₀ ι' s₀ s' → EnvR h₀ L₀ sl env ρ' ι' s'.heap → Rel prog w ca h₀ L₀ ι' H' s'.heap → FlR ι' s'.heap fl f → R (.ok f) s') {c i : Nat} {ρ : Rho} {ι : List Addr} {H : St} {s : Shared}
    (hd : forL src (turnF is many db) c i ρ H = some (fl, ρ', H')) (g : Go L₀ (Own sl env) ι₀ ι s₀ s) (he : EnvR h₀ L₀ sl env ρ ι s.heap) (hR : Rel prog w ca h₀ L₀ ι H s.heap) (q : IterR ι src s.heap I c i) (t : Tmp h₀ L₀ ι s.heap I) :
    codeAny (model prog w) A (.forLoop tgt (.ref I) body [] env) R s := by
  refine codeAny_forLoop_any (fun c s => ∃ i ρ ι H, forL src (turnF is many db) c i ρ H = some (fl, ρ', H') ∧ Go L₀ (Own sl env) ι₀ ι s₀ s ∧ EnvR h₀ L₀ sl env ρ ι s.heap ∧ Rel prog w ca h₀ L₀ ι H s.heap ∧ IterR ι src s.heap I c i ∧ Tmp h₀ L₀ ι s.heap I)
    ?_ c ⟨i, ρ, ι, H, hd, g, he, hR, q, t⟩
  clear hd g he hR q t
  rintro n s ⟨i, ρ, ι, H, hd, g, he, hR, q, t⟩
  cases n with
  | zero =>
    obtain ⟨hok, e⟩ := need_inv hd
    cases e
    refine next_none hr q t hok hR fun s' hc => ?_
    exact wpAny_execs_nil (hQ _ _ _ (g.chg hI t hc) (t.env hc he) (t.rel hc hR) .next)
  | succ c =>
    obtain ⟨v, e0, hd⟩ := bind_inv hd
    obtain ⟨⟨f1, ρ2, H2⟩, e1, hd⟩ := bind_inv hd
    obtain ⟨ρ1, e2, e3⟩ := bind_inv e1
    refine next_some q t e0 hR fun x s1 hc q1 t1 V1 => ?_
    have g1 := g.chg hI t hc
    have he1 := t.env hc he
    have hR1 := t.rel hc hR
    refine letOwned_ok q1 tgt x ?_
    refine target_ok hnd ht hsc hr e2 he1 hR1 V1 fun s2 g2 he2 hR2 => ?_
    have t2 := t1.go g2 (t1.notOwn he1)
    have q2 := q1.mono g2.pre g2.frz (t1.keep g2 (t1.notOwn he1))
    refine hb A env ρ1 ι H s2 f1 ρ2 H2 hsc hr he2 hR2 e3 _ _ fun f ι3 s3 g3 he3 hR3 F3 => ?_
    have t3 := t2.go g3 (t2.notOwn he2)
    have q3 := q2.mono g3.pre g3.frz (t2.keep g3 (t2.notOwn he2))
    have g03 := g1.trans (g2.trans g3)
    cases F3 with
    | next => exact ⟨c, Nat.lt_succ_self c, i + 1, ρ2, ι3, H2, hd, g03, he3, hR3, q3, t3⟩
    | ret hv => cases hd; exact hQ _ _ _ g03 he3 hR3 (.ret hv)

theorem SOk.for_ (hnd : sl.Nodup) {is : List Nat} {many : Bool} {tgt iter : Expr} {body : List Stmt} {pos : Pos} (ht : Target sl sc is many tgt) {di : M} {db : Mx} (hi : EOk prog w ca h₀ L₀ sl sc k iter di) (hb : SsOk prog w ca h₀ L₀ sl sc k body db)
    (hs : ∀ env x, foldedSetIterable iter env x = pure x) :
    SOk prog w ca h₀ L₀ sl sc k (.For tgt iter body [] pos) (sFor is many di db) := by
  intro A env ρ ι H s fl ρ' H' hsc hr he hR hd Q E hQ
  obtain ⟨⟨v, H1⟩, e1, hd⟩ := bind_inv hd
  obtain ⟨src, e2, hd⟩ := bind_inv hd
  refine wpAny_For (hi A env ρ ι H s v H1 hsc hr he hR e1 _ _ fun x ι1 s1 g1 R1 V1 => ?_) (hs env)
  refine iter_start V1 e2 R1 fun I s2 hI g2 R2 q2 t2 => ?_
  have hI0 : s.heap.get? I = Option.none := by
    cases h : s.heap.get? I with
    | none => rfl
    | some o => have := g1.live I (by rw [h]; rfl); rw [hI] at this; cases this
  have g := g1.trans g2
  exact for_loop hnd ht hb hsc hr hI0 (fun f ι' s' g' E' R' F' => hQ f ι' s' g' E' R' F') hd (g.own _) (he.mono g) R2 q2 t2

theorem SOk.while_ {test : Expr} {body : List Stmt} {pos : Pos} {dt : M} {db : Mx} (ht : TOk prog w ca h₀ L₀ sl sc k test (fun ρ H => (dt ρ H).bind tst)) (hb : SsOk prog w ca h₀ L₀ sl sc k body db) (N : Nat) :
    SOk prog w ca h₀ L₀ sl sc k (.While test body [] pos) (whileL dt db N) := by
  intro A env ρ ι H s fl ρ' H' hsc hr he hR hd Q E hQ
  refine wpAny_While (codeAny_whileLoop (fun n s' => ∃ ρ1 ι1 H1, whileL dt db n ρ1 H1 = some (fl, ρ', H') ∧ Go L₀ (Own sl env) ι ι1 s s' ∧ EnvR h₀ L₀ sl env ρ1 ι1 s'.heap ∧ Rel prog w ca h₀ L₀ ι1 H1 s'.heap) ?_ N ⟨ρ, ι, H, hd, Go.refl _ _ _, he, hR⟩)
  rintro n s1 ⟨ρ1, ι1, H1, hd, g1, he1, hR1⟩
  cases n with
  | zero => cases hd
  | succ n =>
    obtain ⟨⟨b, H2⟩, e1, hd⟩ := bind_inv hd
    refine ht A env ρ1 ι1 H1 s1 b H2 hsc hr he1 hR1 e1 _ _ fun ι2 s2 g2 R2 => ?_
    have g12 := g1.trans (g2.own _)
    have he2 := he1.mono g2
    cases b with
    | false =>
      cases hd
      exact wpAny_execs_nil (hQ _ _ _ g12 he2 R2 .next)
    | true =>
      obtain ⟨⟨f1, ρ3, H3⟩, e3, hd⟩ := bind_inv hd
      refine hb A env ρ1 ι2 H2 s2 f1 ρ3 H3 hsc hr he2 R2 e3 _ _ fun f ι3 s3 g3 he3 hR3 F3 => ?_
      cases F3 with
      | next => exact ⟨n, Nat.lt_succ_self n, ρ3, ι3, H3, hd, g12.trans g3, he3, hR3⟩
      | ret hv => cases hd; exact hQ _ _ _ (g12.trans g3) he3 hR3 (.ret hv)
end
end
end Mine.L1

namespace Mine.L1
section
open PySem PySem.W PyProof.Rows
set_option maxRecDepth 10000
set_option autoImplicit false

section
variable {prog : Program} {w : World} {ca : Nat → Addr} {h₀ : Heap} {L₀ : Addr}
variable {sl : List Str} {sc : Scope} {k : Nat}

/-- a local name is bound: the frame alone changes -/
theorem store_loc {i : Nat} {x : Str} (hnd : sl.Nodup) (hi : sl[i]? = some x) (hk : sc.names.lookup x = some .local) {A : Around} {env : Env} {ρ : Rho} {ι : List Addr} {H : St} {s : Shared} {v : V} {y : Value} (hsc : env.scope = sc)
    (he : EnvR h₀ L₀ sl env ρ ι s.heap) (hR : Rel prog w ca h₀ L₀ ι H s.heap) (hv : VR ι s.heap v y) {X : Addr → Prop} (hX : X env.locals) {Q : Unit → Shared → Prop} {E : Value → Shared → Prop}
    (hQ : ∀ s', Go L₀ X ι ι s s' → (∀ b o, b ≠ env.locals → s.heap.get? b = some o → s'.heap.get? b = some o) → EnvR h₀ L₀ sl env (ρ.set i (some v)) ι s'.heap → Rel prog w ca h₀ L₀ ι H s'.heap → Q () s') : wpAny (model prog w) A (storeName env x y) Q E s := by
  have hlt : i < sl.length := (List.getElem?_eq_some_iff.mp hi).1
  have hname : ∀ j, sl[j]? = some x → j = i := fun j hj => (List.getElem?_inj (List.getElem?_eq_some_iff.mp hj).1 hnd).mp (hj.trans hi.symm)
  have hk' : env.kindOf x = some .local := by show env.scope.names.lookup x = _; rw [hsc]; exact hk
  obtain ⟨m, hn, hm⟩ := he.ns
  obtain ⟨oL, hoL⟩ := Ns_alive hn
  refine wpAny_storeName_local hk' hn (fun h' hn' hs => ?_) (by rw [he.kind]; rfl)
  obtain ⟨oL', hoL'⟩ := Ns_alive hn'
  have frz : Frz s.heap h' := fun b o e hf => (hs.2 b (by
    rintro rfl
    obtain ⟨o', es, ep, ho', hd', _⟩ := hn
    rw [e] at ho'; cases ho'
    rw [frozen_ns hd'] at hf; cases hf)).trans e
  have g : Go L₀ X ι ι s { s with heap := h' } :=
    ⟨List.prefix_rfl, fun _ h => .inl h, fun b o e _ hX' _ => (hs.2 b (fun h => hX' (by rw [show b = env.locals from h]; exact hX))).trans e, fun hX' m n => n.sameBut hs fun h => hX' (by rw [show L₀ = env.locals from h]; exact hX), fun b e => by
      by_cases hb : b = env.locals
      · subst hb; show (h'.get? _).isSome = true; rw [hoL']; rfl
      · show (h'.get? _).isSome = true; rw [hs.2 b hb]; exact e, frz, rfl, rfl⟩
  refine hQ _ (g.toks _) (fun b o hb e => (hs.2 b hb).trans e) ?_ ?_
  · refine ⟨he.kind, he.glob, he.bi, he.apart, he.above, ⟨_, hn', fun j z u h1 h2 h3 => ?_⟩, fun j z h1 h2 => ?_, he.inj, by simp [he.len]⟩
    · by_cases hz : z = x
      · subst hz
        have := hname j h1
        subst this
        rw [List.getElem?_set_self (by rw [he.len]; exact hlt)] at h2
        cases h2
        exact ⟨y, if_pos rfl, hv.mono List.prefix_rfl frz⟩
      · have hij : i ≠ j := by rintro rfl; rw [hi] at h1; cases h1; exact hz rfl
        rw [List.getElem?_set_ne hij] at h2
        obtain ⟨y', h4, h5⟩ := hm j z u h1 h2 h3
        exact ⟨y', (if_neg hz).trans h4, h5.mono List.prefix_rfl frz⟩
    · have hz : z ≠ x := by rintro rfl; rw [hk'] at h2; rcases h2 with h2 | h2 <;> cases h2
      have hij : i ≠ j := by rintro rfl; rw [hi] at h1; cases h1; exact hz rfl
      obtain ⟨c, ov, e1, e2, e3, e4, e5⟩ := he.cell j z h1 h2
      refine ⟨c, ov, e1, e2, e3, IsCell_at e4 fun o e => (hs.2 c (cell_ne_local hn e4)).trans e, fun u hu => ?_⟩
      rw [List.getElem?_set_ne hij] at hu
      obtain ⟨y', h4, h5⟩ := e5 u hu
      exact ⟨y', h4, h5.mono List.prefix_rfl frz⟩
  · refine hR.mono (fun b o e hb => (hs.2 b (fun h => ?_)).trans e) (fun a ha o e => (hs.2 a (fun h => he.apart (h ▸ ha))).trans e) frz ?_
    · subst h; exact absurd (Heap.lt_size hb) (Nat.not_lt.mpr he.above)
    · obtain ⟨m0, n0⟩ := hR.ns0
      by_cases h : L₀ = env.locals
      · rw [h]; exact ⟨_, hn'⟩
      · exact ⟨m0, n0.sameBut hs h⟩

/-- local names, in order -/
inductive NamesL (sl : List Str) (sc : Scope) : List Nat → List Expr → Prop
  | nil : NamesL sl sc [] []
  | cons {i : Nat} {x : Str} {p : Pos} {is : List Nat} {es : List Expr} : sl[i]? = some x → sc.names.lookup x = some .local → NamesL sl sc is es → NamesL sl sc (i :: is) (.Name x p :: es)
theorem NamesL.names {is : List Nat} {es : List Expr} (h : NamesL sl sc is es) : Names sl sc is es := by
  induction h with
  | nil => exact .nil
  | cons a b _ ih => exact .cons a (.inl b) ih

theorem storeAll_loc (hnd : sl.Nodup) {A : Around} {env : Env} (hsc : env.scope = sc) {X : Addr → Prop} (hX : X env.locals) {is : List Nat} {es : List Expr} (hn : NamesL sl sc is es) : ∀ {vs : List V} {ys : List Value} {ρ ρ' : Rho} {ι : List Addr} {H : St} {s : Shared}, setSlots is vs ρ = some ρ' →
    EnvR h₀ L₀ sl env ρ ι s.heap → Rel prog w ca h₀ L₀ ι H s.heap → VRs ι s.heap vs ys → ∀ {Q : Unit → Shared → Prop} {E : Value → Shared → Prop}, (∀ s', Go L₀ X ι ι s s' → (∀ b o, b ≠ env.locals → s.heap.get? b = some o → s'.heap.get? b = some o) → EnvR h₀ L₀ sl env ρ' ι s'.heap → Rel prog w ca h₀ L₀ ι H s'.heap → Q () s') →
    wpAny (model prog w) A (assignInOrder (es.map fun e => assign e env) ys) Q E s := by
  induction hn with
  | nil =>
    intro vs ys ρ ρ' ι H s hs he hR hv Q E hQ
    cases hv with
    | nil => cases hs; exact wpAny_assignInOrder_none (hQ _ (Go.refl _ _ _) (fun _ _ _ e => e) he hR)
    | cons _ _ => simp [setSlots] at hs
  | cons hi hk _ ih =>
    intro vs ys ρ ρ' ι H s hs he hR hv Q E hQ
    cases hv with
    | nil => simp [setSlots] at hs
    | cons a b =>
      simp only [setSlots] at hs
      refine wpAny_assignInOrder_more (wpAny_assign_Name (store_loc hnd hi hk hsc he hR a hX fun s1 g1 k1 E1 R1 => ?_))
      exact ih hs E1 R1 (b.mono g1.pre g1.frz) fun s2 g2 k2 E2 R2 => hQ _ (g1.trans g2) (fun b o hb e => k2 b o hb (k1 b o hb e)) E2 R2

inductive TargetL (sl : List Str) (sc : Scope) : List Nat → Bool → Expr → Prop
  | one {i : Nat} {x : Str} {p : Pos} : sl[i]? = some x → sc.names.lookup x = some .local → TargetL sl sc [i] false (.Name x p)
  | many {is : List Nat} {es : List Expr} {n : Nat} {p : Pos} : NamesL sl sc is es → TargetL sl sc is true (.Tuple es n p)

theorem target_loc (hnd : sl.Nodup) {is : List Nat} {many : Bool} {tgt : Expr} (ht : TargetL sl sc is many tgt) {A : Around} {env : Env} (hsc : env.scope = sc) (hr : Room k A) {X : Addr → Prop} (hX : X env.locals) {v : V} {y : Value} {ρ ρ' : Rho} {ι : List Addr} {H : St} {s : Shared} (hs : bindFor is many v ρ = some ρ')
    (he : EnvR h₀ L₀ sl env ρ ι s.heap) (hR : Rel prog w ca h₀ L₀ ι H s.heap) (hv : VR ι s.heap v y) {Q : Unit → Shared → Prop} {E : Value → Shared → Prop} (hQ : ∀ s', Go L₀ X ι ι s s' → (∀ b o, b ≠ env.locals → s.heap.get? b = some o → s'.heap.get? b = some o) → EnvR h₀ L₀ sl env ρ' ι s'.heap → Rel prog w ca h₀ L₀ ι H s'.heap → Q () s') :
    wpAny (model prog w) A (assign tgt env y) Q E s := by
  cases ht with
  | one hi hk =>
    cases hs
    exact wpAny_assign_Name (store_loc hnd hi hk hsc he hR hv hX hQ)
  | many hn =>
    obtain ⟨vs, e1, hs⟩ := bind_inv (show (asT v).bind _ = some ρ' from hs)
    obtain rfl := asT_inv e1
    · obtain ⟨us, a, m, rfl, e, r⟩ := hv.tup_inv
      have hlen := r.length
      have hlen2 := setSlots_len hs
      have hl3 := hn.names.length
      refine wpAny_assign_Tuple hr.1 (items := us.toArray) ⟨_, e, rfl, m, rfl⟩ (by rw [hn.names.each env]; simp; lia) (by rw [hn.names.each env]; simp) fun h' hx => ?_
      have hk : ∀ b o, s.heap.get? b = some o → h'.get? b = some o := fun b o hb => hx b o (fun h => by subst h; exact Nat.lt_irrefl _ (Heap.lt_size hb)) hb
      rw [hn.names.each env, List.map_map]
      have g : Go L₀ No ι ι s { s with heap := h' } := Go.kept No ι hk s.toks
      exact storeAll_loc hnd hsc hX hn hs (he.mono g) (hR.kept hk) (r.mono g.pre g.frz) fun s2 g2 k2 E2 R2 => hQ _ ((g.own _).trans g2) (fun b o hb e => k2 b o hb (hk b o e)) E2 R2

/-! what stands at an accumulator -/
abbrev lstObj (us : List Value) : Obj := { cls := .type "list", data := .seq us.toArray us.length }

structure Acc (h₀ : Heap) (L₀ : Addr) (ι : List Addr) (h : Heap) (D : Addr) (us : List Value) : Prop where
  at_ : h.get? D = some (lstObj us)
  out : D ∉ ι
  above : h₀.objs.size ≤ D
  ne0 : D ≠ L₀

theorem Acc.go {X : Addr → Prop} {ι ι' : List Addr} {s s' : Shared} {D : Addr} {us : List Value} (q : Acc h₀ L₀ ι s.heap D us) (g : Go L₀ X ι ι' s s') (hX : ¬ X D) : Acc h₀ L₀ ι' s'.heap D us :=
  ⟨g.ext D _ q.at_ q.out hX q.ne0, g.notin q.at_ q.out, q.above, q.ne0⟩
theorem Acc.keep {ι : List Addr} {h h' : Heap} {D : Addr} {us : List Value} (q : Acc h₀ L₀ ι h D us) (e : ∀ o, h.get? D = some o → h'.get? D = some o) : Acc h₀ L₀ ι h' D us :=
  ⟨e _ q.at_, q.out, q.above, q.ne0⟩

theorem Acc.ne_tmp {ι ι' : List Addr} {h : Heap} {D I : Addr} {us : List Value} (q : Acc h₀ L₀ ι h D us) (t : Tmp h₀ L₀ ι' h I) : D ≠ I := by
  rintro rfl
  obtain ⟨o, vs, ho, hd, _⟩ := t.alive
  rw [q.at_] at ho; cases ho; cases hd
theorem Acc.ne_ns {ι : List Addr} {h : Heap} {D C : Addr} {us : List Value} (q : Acc h₀ L₀ ι h D us) {m} (n : h.Ns C m) : D ≠ C := by
  rintro rfl
  obtain ⟨o, es, ep, ho, hd, _⟩ := n
  rw [q.at_] at ho; cases ho; cases hd
theorem Tmp.ne_ns {ι : List Addr} {h : Heap} {I C : Addr} (q : Tmp h₀ L₀ ι h I) {m} (n : h.Ns C m) : I ≠ C := by
  rintro rfl
  obtain ⟨o, es, ep, ho, hd, _⟩ := n
  obtain ⟨o', vs, ho', hd', _⟩ := q.alive
  rw [ho'] at ho; cases ho; rw [hd'] at hd; cases hd

/-- the accumulator grows -/
theorem acc_append {ι : List Addr} {H : St} {s : Shared} {D : Addr} {us : List Value} {x : Value} {A : Around} (q : Acc h₀ L₀ ι s.heap D us) (hl : us.length < maxLen) (hR : Rel prog w ca h₀ L₀ ι H s.heap) {X : Addr → Prop} (hX : X D)
    {Q : Value → Shared → Prop} {E : Value → Shared → Prop} (hQ : ∀ s', Go L₀ X ι ι s s' → (∀ b o, b ≠ D → s.heap.get? b = some o → s'.heap.get? b = some o) → Rel prog w ca h₀ L₀ ι H s'.heap → Acc h₀ L₀ ι s'.heap D (us ++ [x]) → Q .none s') :
    wpAny (model prog w) A (call (.builtin "list.append") [.ref D, x]) Q E s := by
  rw [maxLen_eq] at hl
  refine append_at (its := us.toArray) q.at_ (fun h' hs he => ?_) (by rw [sizeLine_eq, List.size_toArray]; lia)
  have he' : h'.get? D = some (lstObj (us ++ [x])) := by rw [he]; simp [lstObj]
  have frz : Frz s.heap h' := fun b o e hf => (hs.2 b (by
    rintro rfl
    rw [q.at_] at e; cases e
    simp [frozen] at hf)).trans e
  refine hQ _ ⟨List.prefix_rfl, fun _ h => .inl h, fun b o e _ hX' _ => (hs.2 b (fun h => hX' (by rw [show b = D from h]; exact hX))).trans e, fun hX' m n => n.sameBut hs fun h => hX' (by rw [show L₀ = D from h]; exact hX), fun b e => ?_, frz, rfl, rfl⟩ (fun b o hb e => (hs.2 b hb).trans e) ?_ ⟨he', q.out, q.above, q.ne0⟩
  · by_cases hb : b = D
    · subst hb; show (h'.get? _).isSome = true; rw [he']; rfl
    · show (h'.get? _).isSome = true; rw [hs.2 b hb]; exact e
  · refine hR.mono (fun b o e hb => (hs.2 b (fun h => ?_)).trans e) (fun a ha o e => (hs.2 a (fun h => q.out (h ▸ ha))).trans e) frz ?_
    · subst h; exact absurd (Heap.lt_size hb) (Nat.not_lt.mpr q.above)
    · obtain ⟨m0, n0⟩ := hR.ns0
      exact ⟨m0, n0.sameBut hs q.ne0.symm⟩

theorem EnvR.forget {env : Env} {ρ ρ' : Rho} {ι : List Addr} {h : Heap} (q : EnvR h₀ L₀ sl env ρ ι h) (hl : ρ'.length = ρ.length) (hs : ∀ (i : Nat) (v : V), ρ'[i]? = some (some v) → ρ[i]? = some (some v)) : EnvR h₀ L₀ sl env ρ' ι h where
  kind := q.kind
  glob := q.glob
  bi := q.bi
  apart := q.apart
  above := q.above
  ns := by
    obtain ⟨m, hn, hm⟩ := q.ns
    exact ⟨m, hn, fun i x v h1 h2 h3 => hm i x v h1 (hs i v h2) h3⟩
  cell := fun i x h1 h2 => by
    obtain ⟨c, ov, e1, e2, e3, e4, e5⟩ := q.cell i x h1 h2
    exact ⟨c, ov, e1, e2, e3, e4, fun v hv => e5 v (hs i v hv)⟩
  inj := q.inj
  len := hl.trans q.len
/-- another object than the frame and its cells changes -/
theorem EnvR.but {env : Env} {ρ : Rho} {ι : List Addr} {s s' : Shared} (q : EnvR h₀ L₀ sl env ρ ι s.heap) {D : Addr} {us : List Value} (hD : Acc h₀ L₀ ι s.heap D us) (hk : ∀ b o, b ≠ D → s.heap.get? b = some o → s'.heap.get? b = some o) (frz : Frz s.heap s'.heap) : EnvR h₀ L₀ sl env ρ ι s'.heap where
  kind := q.kind
  glob := q.glob
  bi := q.bi
  apart := q.apart
  above := q.above
  ns := by
    obtain ⟨m, hn, hm⟩ := q.ns
    refine ⟨m, Ns_at hn fun o e => hk _ o (hD.ne_ns hn).symm e, fun i x v h1 h2 h3 => ?_⟩
    obtain ⟨y, h4, h5⟩ := hm i x v h1 h2 h3
    exact ⟨y, h4, h5.mono List.prefix_rfl frz⟩
  cell := fun i x h1 h2 => by
    obtain ⟨c, ov, e1, e2, e3, e4, e5⟩ := q.cell i x h1 h2
    refine ⟨c, ov, e1, e2, e3, IsCell_at e4 fun o e => hk _ o (fun hc => ?_) e, fun v hv => ?_⟩
    · subst hc
      obtain ⟨o', ho', hd'⟩ := e4
      rw [hD.at_] at ho'; cases ho'; cases hd'
    · obtain ⟨y', h4, h5⟩ := e5 v hv
      exact ⟨y', h4, h5.mono List.prefix_rfl frz⟩
  inj := q.inj
  len := q.len
end
end
end Mine.L1

namespace Mine.L1
section
open PySem PySem.W PyProof.Rows
set_option maxRecDepth 10000
set_option autoImplicit false

section
variable {prog : Program} {w : World} {ca : Nat → Addr} {h₀ : Heap} {L₀ : Addr}
variable {sl : List Str} {sc : Scope} {k : Nat}

/-- the tests of a clause -/
noncomputable def IfsOk (prog : Program) (w : World) (ca : Nat → Addr) (h₀ : Heap) (L₀ : Addr) (sl : List Str) (sc : Scope) (k : Nat) (ifs : List Expr) (d : Rho → St → Option (Bool × St)) : Prop :=
  ∀ (A : Around) (env : Env) (ρ : Rho) (ι : List Addr) (H : St) (s : Shared) (b : Bool) (H' : St), env.scope = sc → Room k A → EnvR h₀ L₀ sl env ρ ι s.heap → Rel prog w ca h₀ L₀ ι H s.heap → d ρ H = some (b, H') →
    ∀ (Q : Bool → Shared → Prop) (E : Value → Shared → Prop), (∀ ι' s', Go L₀ No ι ι' s s' → Rel prog w ca h₀ L₀ ι' H' s'.heap → Q b s') →
      wpAny (model prog w) A (forIn ifs true fun c r => if r = true then do let ok ← isTrue c env (eval c env); pure (ForInStep.yield ok) else pure (ForInStep.yield r)) Q E s
theorem IfsOk.nil : IfsOk prog w ca h₀ L₀ sl sc k [] (fun _ H => some (true, H)) := by
  intro A env ρ ι H s b H' hsc hr he hR hd Q E hQ
  cases hd
  exact wpAny_tests_nil (hQ _ _ (Go.refl _ _ _) hR)
theorem IfsOk.one {c : Expr} {d : Rho → St → Option (Bool × St)} (h : TOk prog w ca h₀ L₀ sl sc k c d) : IfsOk prog w ca h₀ L₀ sl sc k [c] d := by
  intro A env ρ ι H s b H' hsc hr he hR hd Q E hQ
  exact wpAny_tests_one (h A env ρ ι H s b H' hsc hr he hR hd Q E hQ)

/-- what a turn of a comprehension does, behind the tests -/
noncomputable def EmitOk (prog : Program) (w : World) (ca : Nat → Addr) (h₀ : Heap) (L₀ : Addr) (sl : List Str) (A : Around) (env : Env) (D : Addr) (X : Addr → Prop) {α : Type} (emit : Sem α) (r : α) (f : Rho → St → Option (List V × St)) : Prop :=
  ∀ (ρ : Rho) (ι : List Addr) (H : St) (s : Shared) (us : List Value) (ys : List V) (H' : St), EnvR h₀ L₀ sl env ρ ι s.heap → Rel prog w ca h₀ L₀ ι H s.heap → Acc h₀ L₀ ι s.heap D us → us.length + ys.length ≤ maxLen → f ρ H = some (ys, H') →
    ∀ (Q : α → Shared → Prop) (E : Value → Shared → Prop), (∀ ι' s' zs, Go L₀ X ι ι' s s' → EnvR h₀ L₀ sl env ρ ι' s'.heap → Rel prog w ca h₀ L₀ ι' H' s'.heap → VRs ι' s'.heap ys zs → Acc h₀ L₀ ι' s'.heap D (us ++ zs) → Q r s') →
      wpAny (model prog w) A emit Q E s

/-- a turn, the names bound in slots -/
noncomputable def turnC (is : List Nat) (many : Bool) (dc : Rho → St → Option (Bool × St)) (f : Rho → St → Option (List V × St)) (ρ : Rho) (v : V) (H : St) : Option (List V × St) :=
  (bindFor is many v ρ).bind fun ρ1 => (dc ρ1 H).bind fun c => if c.1 = true then f ρ1 c.2 else some ([], c.2)

theorem comp_loop (hnd : sl.Nodup) {is : List Nat} {many : Bool} {target iter : Expr} {ifs : List Expr} (ht : TargetL sl sc is many target) {elt : Expr} {gens : List Comprehension} {scope : Scope} {pos : Pos} {depth : Nat} {A : Around} {env : Env}
    (hsc : env.scope = sc) (hr : Room k A) {dc : Rho → St → Option (Bool × St)} (hifs : IfsOk prog w ca h₀ L₀ sl sc k ifs dc) {D I : Addr} {X : Addr → Prop} (hXC : X env.locals) (hXI : ¬ X I) (hXD : D ≠ env.locals)
    {emit : Sem PySem.Fin} {f : Rho → St → Option (List V × St)} (hemit : EmitOk prog w ca h₀ L₀ sl A env D X emit (.again (.compLoop (.ListComp elt gens scope pos) depth (.ref I) (.ref D) env)) f)
    (hturn : compTurn (.ListComp elt gens scope pos) depth (.ref I) (.ref D) env = (standAt iter.pos >>= fun _ => pyNext (.ref I) >>= fun r => match r with
      | none => pure (.done .next)
      | some v => letOwnedTupleGo target (.ref I) v >>= fun _ => assign target env v >>= fun _ =>
        (forIn ifs true fun c r => if r = true then do let ok ← isTrue c env (eval c env); pure (ForInStep.yield ok) else pure (ForInStep.yield r)) >>= fun ok =>
          if ok = true then emit else again (.compLoop (.ListComp elt gens scope pos) depth (.ref I) (.ref D) env)))
    {src : Src} {ρ : Rho} (hρ : ∀ v ρ1, bindFor is many v ρ = some ρ1 → ρ1.length = ρ.length ∧ ∀ (i : Nat) (v : V), ρ[i]? = some (some v) → ρ1[i]? = some (some v))
    {ι₀ : List Addr} {s₀ : Shared} (hI : s₀.heap.get? I = Option.none) {all : List V} {us₀ : List Value} (hall : us₀.length + all.length ≤ maxLen) {H' : St} {R : Result → Shared → Prop}
    (hQ : ∀ ι' s' zs, Go L₀ X ι₀ ι' s₀ s' → EnvR h₀ L₀ sl env ρ ι' s'.heap → Rel prog w ca h₀ L₀ ι' H' s'.heap → VRs ι' s'.heap all zs → Acc h₀ L₀ ι' s'.heap D (us₀ ++ zs) → R (.ok .next) s')
    {n i : Nat} {ι : List Addr} {H : St} {s : Shared}
    (hd : mapL src (turnC is many dc f ρ) n i H = some (all, H')) (g : Go L₀ X ι₀ ι s₀ s) (he : EnvR h₀ L₀ sl env ρ ι s.heap) (hR : Rel prog w ca h₀ L₀ ι H s.heap)
    (q : IterR ι src s.heap I n i) (t : Tmp h₀ L₀ ι s.heap I) (a : Acc h₀ L₀ ι s.heap D us₀) :
    codeAny (model prog w) A (.compLoop (.ListComp elt gens scope pos) depth (.ref I) (.ref D) env) R s := by
  refine codeAny_loop rfl (fun n s => ∃ i ι H past zs still, mapL src (turnC is many dc f ρ) n i H = some (still, H') ∧ all = past ++ still ∧
      Go L₀ X ι₀ ι s₀ s ∧ EnvR h₀ L₀ sl env ρ ι s.heap ∧ Rel prog w ca h₀ L₀ ι H s.heap ∧ IterR ι src s.heap I n i ∧ Tmp h₀ L₀ ι s.heap I ∧ VRs ι s.heap past zs ∧ Acc h₀ L₀ ι s.heap D (us₀ ++ zs)) ?_ n
    ⟨i, ι, H, [], [], all, hd, rfl, g, he, hR, q, t, .nil, by rw [List.append_nil]; exact a⟩
  clear hd g he hR q t a
  rintro n s ⟨i, ι, H, past, zs, still, hd, hps, g, he, hR, q, t, hv, a⟩
  show wpAny _ A ((compTurn (.ListComp elt gens scope pos) depth (.ref I) (.ref D) env).onRaise (fun x => do noteFrame x env; theTreesLotGoes x)) _ _ s
  refine wpAny_noted ?_
  rw [hturn]
  refine wpAny_bind (wpAny_standAt (wpAny_bind ?_))
  cases n with
  | zero =>
    obtain ⟨hok, e⟩ := need_inv hd
    cases e
    refine next_none hr q t hok hR fun s' hc => wpAny_pure ?_
    have e1 := t.env hc he
    rw [List.append_nil] at hps
    subst hps
    exact hQ ι s' zs (g.chg hI t hc) e1 (t.rel hc hR) (hv.mono List.prefix_rfl (t.frz hc)) (a.keep fun o e => hc.ext _ o (a.ne_tmp t) e)
  | succ n =>
    obtain ⟨v, e0, hd⟩ := bind_inv hd
    obtain ⟨⟨r1, H2⟩, e1, hd⟩ := bind_inv hd
    obtain ⟨⟨r2, H3⟩, e2, e3⟩ := map_inv hd
    cases e3
    obtain ⟨ρ1, e3, e4⟩ := bind_inv e1
    obtain ⟨⟨c, H1⟩, e5, e6⟩ := bind_inv e4
    obtain ⟨l1, l2⟩ := hρ _ _ e3
    refine next_some q t e0 hR fun x s1 hc q1 t1 V1 => ?_
    have g1 := g.chg hI t hc
    have he1 := t.env hc he
    have hR1 := t.rel hc hR
    have a1 := a.keep fun o e => hc.ext _ o (a.ne_tmp t) e
    have hv1 := hv.mono List.prefix_rfl (t.frz hc)
    refine wpAny_bind (letOwned_ok q1 target x ?_)
    obtain ⟨mC, hnC, _⟩ := he1.ns
    refine wpAny_bind (target_loc hnd ht hsc hr hXC e3 he1 hR1 V1 fun s2 g2 k2 he2 hR2 => ?_)
    have t2 := t1.go g2 hXI
    have q2 := q1.mono g2.pre g2.frz (t1.keep g2 hXI)
    have a2 := a1.keep fun o e => k2 D o hXD e
    have hv2 := hv1.mono g2.pre g2.frz
    have g02 := g1.trans g2
    refine wpAny_bind (hifs A env ρ1 ι H s2 c H1 hsc hr he2 hR2 e5 _ _ fun ι3 s3 g3 hR3 => ?_)
    have he3 := he2.mono g3
    have g3' := g3.own X
    have t3 := t2.go g3 (fun h => h)
    have q3 := q2.mono g3.pre g3.frz (t2.keep g3 (fun h => h))
    have a3 := a2.go g3 (fun h => h)
    have hv3 := hv2.mono g3.pre g3.frz
    have g03 := g02.trans g3'
    cases c with
    | false =>
      cases e6
      exact wpAny_pure ⟨rfl, n, Nat.lt_succ_self n, i + 1, ι3, H1, past, zs, r2, e2, hps, g03, he3.forget l1.symm l2, hR3, q3, t3, hv3, a3⟩
    | true =>
      have hlen : (us₀ ++ zs).length + r1.length ≤ maxLen := by
        have e := hv3.length
        rw [hps] at hall
        simp only [List.length_append] at hall ⊢
        lia
      refine hemit ρ1 ι3 H1 s3 (us₀ ++ zs) r1 H2 he3 hR3 a3 hlen e6 _ _ fun ι4 s4 ws g4 he4 hR4 hw a4 => ?_
      have t4 := t3.go g4 hXI
      have q4 := q3.mono g4.pre g4.frz (t3.keep g4 hXI)
      have hv4 := hv3.mono g4.pre g4.frz
      exact ⟨rfl, n, Nat.lt_succ_self n, i + 1, ι4, H2, past ++ r1, zs ++ ws, r2, e2, by rw [hps, List.append_assoc], g03.trans g4, he4.forget l1.symm l2, hR4, q4, t4, hv4.append hw, by rw [← List.append_assoc]; exact a4⟩

theorem self_ok {ι : List Addr} {src : Src} {I : Addr} {n i : Nat} {s : Shared} {A : Around} (q : IterR ι src s.heap I n i) {Q : Value → Shared → Prop} {E : Value → Shared → Prop} (hQ : Q (.ref I) s) :
    wpAny (model prog w) A (pyIter (.ref I)) Q E s := by
  cases q with
  | list n l a _ _ q _ => exact wpAny_pyIter_listiter q hQ
  | tup xs t us m _ _ _ q _ => exact wpAny_pyIter_tupleiter q hQ
  | rng xs x left step _ q _ _ => exact wpAny_pyIter_rangeiter q hQ

theorem comp_start {elt : Expr} {gens : List Comprehension} {target iter : Expr} {ifs : List Expr} {scope : Scope} {pos : Pos} {depth : Nat} (hg : gens[depth]? = some ⟨target, iter, ifs, 0⟩) {it acc : Value} {env : Env} {A : Around} {R : Result → Shared → Prop} {s : Shared}
    (h : ∀ {Q : Value → Shared → Prop} {E : Value → Shared → Prop}, Q it s → wpAny (model prog w) A (pyIter it) Q E s)
    (h0 : codeAny (model prog w) A (.compLoop (.ListComp elt gens scope pos) depth it acc env) R s) :
    codeAny (model prog w) A (.compStart (.ListComp elt gens scope pos) depth it acc env) R s := by
  refine codeAny_of_tree ?_
  show wpAny _ _ ((compStart (.ListComp elt gens scope pos) depth it acc env).onRaise (fun x => do noteFrame x env; standAt theWindowsPlace)) _ _ s
  refine wpAny_notedAt ?_
  unfold compStart
  have e : (clausesOf (.ListComp elt gens scope pos))[depth]? = some ⟨target, iter, ifs, 0⟩ := hg
  rw [e]
  show wpAny _ _ (ask >>= _) _ _ s
  refine wpAny_bind (wpAny_askSetting (wpAny_ite ?_))
  split
  · first
      | exact wpAny_bind (wpAny_pure (wpAny_pure (And.intro rfl h0)))
      | exact wpAny_pure (And.intro rfl h0)
  · refine wpAny_bind (wpAny_rule ?_)
    show wpAny _ _ (standAt iter.pos >>= _) _ _ s
    exact wpAny_bind (wpAny_standAt (wpAny_bind (h (wpAny_pure (And.intro rfl h0)))))
end
end
end Mine.L1

namespace Mine.L1
section
open PySem PySem.W PyProof.Rows
set_option maxRecDepth 10000
set_option autoImplicit false

theorem closure_aux (env : Env) (F : Str × NameKind → List (Str × Addr) → Sem (ForInStep (List (Str × Addr)))) (hF : ∀ n kd acc, F (n, kd) acc = if (kd == NameKind.free) = true then (do let c ← cellOf env n; pure (.yield ((n, c) :: acc))) else pure (.yield acc)) :
    ∀ (names : List (Str × NameKind)) (acc : List (Str × Addr)), (∀ n, (n, NameKind.free) ∈ names → ∃ c, env.cells.lookup n = some c) → (∀ x c, acc.lookup x = some c → env.cells.lookup x = some c) →
    ∃ cl, forIn names acc F = (pure cl : Sem _) ∧ (∀ x c, cl.lookup x = some c → env.cells.lookup x = some c) ∧ (∀ x, (acc.lookup x).isSome = true → (cl.lookup x).isSome = true) ∧ ∀ x, (x, NameKind.free) ∈ names → (cl.lookup x).isSome = true
  | [], acc, _, ha => ⟨acc, rfl, ha, fun _ h => h, fun _ h => by simp at h⟩
  | (n, kd) :: r, acc, hn, ha => by
    rw [List.forIn_cons, hF]
    by_cases hk : (kd == NameKind.free) = true
    · rw [if_pos hk]
      have hk' : kd = .free := by simpa using hk
      subst hk'
      obtain ⟨c, hc⟩ := hn n List.mem_cons_self
      have e1 : cellOf env n = pure c := by unfold cellOf; rw [hc]
      rw [e1]
      obtain ⟨cl, h1, h2, h3, h4⟩ := closure_aux env F hF r ((n, c) :: acc) (fun m hm => hn m (List.mem_cons_of_mem _ hm)) (fun x c' hx => by
        rw [lookup_cons_eq] at hx
        split at hx
        · rename_i e; cases hx; rw [e]; exact hc
        · exact ha x c' hx)
      refine ⟨cl, by simpa using h1, h2, fun x hx => h3 x ?_, fun x hx => ?_⟩
      · rw [lookup_cons_eq]; split <;> simp_all
      · rcases List.mem_cons.mp hx with e | hx
        · cases e; exact h3 n (by rw [lookup_cons_eq]; simp)
        · exact h4 x hx
    · rw [if_neg hk]
      obtain ⟨cl, h1, h2, h3, h4⟩ := closure_aux env F hF r acc (fun m hm => hn m (List.mem_cons_of_mem _ hm)) ha
      refine ⟨cl, by simpa using h1, h2, h3, fun x hx => ?_⟩
      rcases List.mem_cons.mp hx with e | hx
      · cases e; exact absurd rfl hk
      · exact h4 x hx
theorem closure_ok {scope : Scope} {env : Env} (h : ∀ n, (n, NameKind.free) ∈ scope.names → ∃ c, env.cells.lookup n = some c) :
    ∃ cl, closureFor scope env = pure cl ∧ (∀ x c, cl.lookup x = some c → env.cells.lookup x = some c) ∧ ∀ x, (x, NameKind.free) ∈ scope.names → (cl.lookup x).isSome = true := by
  simp only [closureFor]
  obtain ⟨cl, h1, h2, _, h4⟩ := closure_aux env (fun x acc => if (x.snd == NameKind.free) = true then do
      let c ← cellOf env x.fst
      pure (ForInStep.yield ((x.fst, c) :: acc))
    else pure (ForInStep.yield acc)) (fun n kd acc => rfl) scope.names [] h (by simp)
  refine ⟨cl, ?_, h2, h4⟩
  erw [h1]; rfl

/-- a comprehension's names as its own frame sees them -/
noncomputable def relab (sc scope : Scope) : Scope :=
  { scope with names := scope.names.map fun (n, k) => if (k == .free && sc.kind == .function && sc.names.lookup n == some .cell) then (n, .cell) else (n, k) }
theorem relab_eq {scope : Scope} {env : Env} {sc : Scope} (h : env.scope = sc) : relabel scope env = relab sc scope := by subst h; rfl

theorem relab_local {sc : Scope} : ∀ {names : List (Str × NameKind)} {x : Str}, (names.map fun (n, k) => if (k == NameKind.free && sc.kind == .function && sc.names.lookup n == some .cell) then (n, NameKind.cell) else (n, k)).lookup x = some .local → names.lookup x = some .local
  | [], _, h => by simp at h
  | (n, k) :: r, x, h => by
    have ih := @relab_local sc r x
    have h : List.lookup x ((if (k == NameKind.free && sc.kind == .function && sc.names.lookup n == some .cell) = true then (n, NameKind.cell) else (n, k)) :: _) = _ := h
    by_cases hc : (k == NameKind.free && sc.kind == .function && sc.names.lookup n == some .cell) = true
    · rw [if_pos hc, lookup_cons_eq] at h
      rw [lookup_cons_eq]
      split at h
      · cases h
      · rename_i hx; rw [if_neg hx]; exact ih h
    · rw [if_neg hc, lookup_cons_eq] at h
      rw [lookup_cons_eq]
      split at h
      · rename_i hx; rw [if_pos hx]; exact h
      · rename_i hx; rw [if_neg hx]; exact ih h
theorem relab_free {sc : Scope} : ∀ {names : List (Str × NameKind)} {x : Str}, (∀ y ∈ names, y.2 ≠ .cell) → ((names.map fun (n, k) => if (k == NameKind.free && sc.kind == .function && sc.names.lookup n == some .cell) then (n, NameKind.cell) else (n, k)).lookup x = some .cell ∨ (names.map fun (n, k) => if (k == NameKind.free && sc.kind == .function && sc.names.lookup n == some .cell) then (n, NameKind.cell) else (n, k)).lookup x = some .free) → names.lookup x = some .free
  | [], _, _, h => by simp at h
  | (n, k) :: r, x, hn, h => by
    have ih := @relab_free sc r x fun y hy => hn y (List.mem_cons_of_mem _ hy)
    have h : List.lookup x ((if (k == NameKind.free && sc.kind == .function && sc.names.lookup n == some .cell) = true then (n, NameKind.cell) else (n, k)) :: _) = _ ∨ List.lookup x ((if (k == NameKind.free && sc.kind == .function && sc.names.lookup n == some .cell) = true then (n, NameKind.cell) else (n, k)) :: _) = _ := h
    have hk : k ≠ .cell := hn (n, k) List.mem_cons_self
    by_cases hc : (k == NameKind.free && sc.kind == .function && sc.names.lookup n == some .cell) = true
    · have hkf : k = .free := by simp at hc; exact hc.1.1
      rw [if_pos hc, lookup_cons_eq] at h
      rw [lookup_cons_eq]
      by_cases hx : x = n
      · rw [if_pos hx, hkf]
      · rw [if_neg hx] at h ⊢; exact ih h
    · rw [if_neg hc, lookup_cons_eq] at h
      rw [lookup_cons_eq]
      by_cases hx : x = n
      · rw [if_pos hx] at h ⊢
        rcases h with h | h
        · cases h; exact absurd rfl hk
        · exact h
      · rw [if_neg hx] at h ⊢; exact ih h

theorem mem_of_lookup' {α β : Type} [DecidableEq α] : ∀ {l : List (α × β)} {a : α} {b : β}, l.lookup a = some b → (a, b) ∈ l
  | (c, d) :: r, a, b, h => by
    rw [lookup_cons_eq] at h
    split at h
    · rename_i e; cases h; rw [e]; exact List.mem_cons_self
    · exact List.mem_cons_of_mem _ (mem_of_lookup' h)

/-- is a comprehension's scope plain -/
structure CompSc (sl : List Str) (sc scope : Scope) : Prop where
  kind : scope.kind = .function
  noCell : ∀ y ∈ scope.names, y.2 ≠ .cell
  locals : ∀ y ∈ scope.names, y.2 = .local → scope.names.lookup y.1 = some .local
  apart : ∀ y ∈ scope.names, y.2 = .local → y.1 ∉ sl
  free : ∀ y ∈ scope.names, y.2 = .free → y.1 ∈ sl ∧ (sc.names.lookup y.1 = some .cell ∨ sc.names.lookup y.1 = some .free)

section
variable {prog : Program} {w : World} {ca : Nat → Addr} {h₀ : Heap} {L₀ : Addr}
variable {sl : List Str} {sc : Scope} {k : Nat}

/-- what a comprehension closes over -/
structure ClosF (scope : Scope) (env : Env) (cl : List (Str × Addr)) : Prop where
  eq : closureFor scope env = pure cl
  sub : ∀ x c, cl.lookup x = some c → env.cells.lookup x = some c
  all : ∀ x, (x, NameKind.free) ∈ scope.names → (cl.lookup x).isSome = true

theorem clos_of {scope : Scope} (cs : CompSc sl sc scope) {env : Env} (hsc : env.scope = sc) {ρ : Rho} {ι : List Addr} {h : Heap} (he : EnvR h₀ L₀ sl env ρ ι h) : ∃ cl, ClosF scope env cl := by
  obtain ⟨cl, h1, h2, h3⟩ := closure_ok (scope := scope) (env := env) (fun n hn => by
    obtain ⟨h1, h2⟩ := cs.free _ hn rfl
    obtain ⟨i, hi⟩ := List.mem_iff_getElem?.mp h1
    have h2' : env.kindOf n = some .cell ∨ env.kindOf n = some .free := by show env.scope.names.lookup n = _ ∨ env.scope.names.lookup n = _; rw [hsc]; exact h2
    obtain ⟨c, ov, r, _⟩ := he.cell i n hi h2'
    exact ⟨c, r⟩)
  exact ⟨cl, h1, h2, h3⟩

theorem comp_env {scope : Scope} (cs : CompSc sl sc scope) {env : Env} (hsc : env.scope = sc) {cl : List (Str × Addr)} (hcl : ClosF scope env cl) {ρ : Rho} {ι : List Addr} {h : Heap} (he : EnvR h₀ L₀ sl env ρ ι h)
    {tn : List Str} {C : Addr} {h' : Heap} (htn : ∀ t ∈ tn, scope.names.lookup t = some .local) (hk : ∀ b o, h.get? b = some o → h'.get? b = some o) (hC : C ∉ ι) (hCa : h₀.objs.size ≤ C) (hCn : ∃ m, h'.Ns C m) :
      EnvR h₀ L₀ (sl ++ tn) (compEnvC scope cl C env) (ρ ++ List.replicate tn.length Option.none) ι h' := by
  obtain ⟨_, h2, h3⟩ := hcl
  have frz : Frz h h' := fun b o e _ => hk b o e
  have hloc : ∀ {x}, (compEnvC scope cl C env).kindOf x = some .local → scope.names.lookup x = some .local := fun {x} hx => by
    have hx : (relabel scope env).names.lookup x = _ := hx
    rw [relab_eq hsc] at hx
    exact relab_local hx
  have hfree : ∀ {x}, ((compEnvC scope cl C env).kindOf x = some .cell ∨ (compEnvC scope cl C env).kindOf x = some .free) → scope.names.lookup x = some .free := fun {x} hx => by
    have hx : (relabel scope env).names.lookup x = _ ∨ (relabel scope env).names.lookup x = _ := hx
    rw [relab_eq hsc] at hx
    exact relab_free cs.noCell hx
  have hlen := he.len
  refine ⟨?_, he.glob, he.bi, hC, hCa, ?_, ?_, ?_, by simp [hlen]⟩
  · show (relabel scope env).kind = _; exact cs.kind
  · obtain ⟨m, hm⟩ := hCn
    refine ⟨m, hm, fun i x v e1 e2 e3 => ?_⟩
    exfalso
    have hl := hloc e3
    have hi : i < sl.length := by
      rcases Nat.lt_or_ge i sl.length with hi | hi
      · exact hi
      · rw [List.getElem?_append_right (by lia)] at e2
        have := List.getElem?_eq_some_iff.mp e2
        obtain ⟨_, e⟩ := this
        simp at e
    rw [List.getElem?_append_left hi] at e1
    exact cs.apart _ (mem_of_lookup' hl) rfl (List.mem_of_getElem? e1)
  · intro i x e1 e2
    have hf := hfree e2
    have hi : i < sl.length := by
      rcases Nat.lt_or_ge i sl.length with hi | hi
      · exact hi
      · rw [List.getElem?_append_right hi] at e1
        have := htn x (List.mem_of_getElem? e1)
        rw [hf] at this; cases this
    rw [List.getElem?_append_left hi] at e1
    have h2' : env.kindOf x = some .cell ∨ env.kindOf x = some .free := by
      show env.scope.names.lookup x = _ ∨ env.scope.names.lookup x = _; rw [hsc]; exact (cs.free _ (mem_of_lookup' hf) rfl).2
    obtain ⟨c, ov, f1, f2, f3, f4, f5⟩ := he.cell i x e1 h2'
    have hs := h3 x (mem_of_lookup' hf)
    obtain ⟨c', hc'⟩ := Option.isSome_iff_exists.mp hs
    have := h2 x c' hc'
    rw [f1] at this; cases this
    refine ⟨c, ov, hc', f2, f3, IsCell_at f4 fun o e => hk _ o e, fun v hv => ?_⟩
    rw [List.getElem?_append_left (by lia)] at hv
    obtain ⟨y, g1, g2⟩ := f5 v hv
    exact ⟨y, g1, g2.mono List.prefix_rfl frz⟩
  · exact fun x y c e1 e2 => he.inj x y c (h2 x c e1) (h2 y c e2)
end
end
end Mine.L1

namespace Mine.L1
section
open PySem PySem.W PyProof.Rows
set_option maxRecDepth 10000
set_option autoImplicit false

section
variable {prog : Program} {w : World} {ca : Nat → Addr} {h₀ : Heap} {L₀ : Addr}
variable {sl : List Str} {sc : Scope} {k : Nat}

theorem bindFor_grow {tn : List Str} {is : List Nat} {many : Bool} {ρ : Rho} {n m : Nat} (hn : n = ρ.length) (his : is = (List.range m).map (n + ·)) {v : V} {ρ1 : Rho} (h : bindFor is many v (ρ ++ List.replicate tn.length Option.none) = some ρ1) :
    ρ1.length = (ρ ++ List.replicate tn.length Option.none).length ∧ ∀ (i : Nat) (v : V), (ρ ++ List.replicate tn.length Option.none)[i]? = some (some v) → ρ1[i]? = some (some v) := by
  have key : ∀ (is : List Nat) (vs : List V) (r r1 : Rho), setSlots is vs r = some r1 → (∀ i ∈ is, ∀ v : V, r[i]? ≠ some (some v)) → is.Nodup → r1.length = r.length ∧ ∀ (i : Nat) (v : V), r[i]? = some (some v) → r1[i]? = some (some v) := by
    intro is
    induction is with
    | nil =>
      intro vs r r1 h _ _
      cases vs with
      | nil => cases h; exact ⟨rfl, fun _ _ e => e⟩
      | cons _ _ => simp [setSlots] at h
    | cons i is ih =>
      intro vs r r1 h hi hnd
      cases vs with
      | nil => simp [setSlots] at h
      | cons v vs =>
        simp only [setSlots] at h
        obtain ⟨n1, n2⟩ := List.nodup_cons.mp hnd
        have hi' : ∀ j ∈ is, ∀ u : V, (r.set i (some v))[j]? ≠ some (some u) := fun j hj u e => by
          rw [List.getElem?_set_ne (fun e' => n1 (by rw [e']; exact hj))] at e
          exact hi j (List.mem_cons_of_mem _ hj) u e
        obtain ⟨a, b⟩ := ih vs _ r1 h hi' n2
        refine ⟨by simpa using a, fun j u e => b j u ?_⟩
        by_cases hij : i = j
        · subst hij; exact absurd e (hi i List.mem_cons_self u)
        · rw [List.getElem?_set_ne hij]; exact e
  have hnone : ∀ i ∈ is, ∀ v : V, (ρ ++ List.replicate tn.length (Option.none : Option V))[i]? ≠ some (some v) := by
    intro i hi v e
    rw [his] at hi
    obtain ⟨j, hj, rfl⟩ := List.mem_map.mp hi
    rw [List.getElem?_append_right (by lia)] at e
    obtain ⟨_, e⟩ := List.getElem?_eq_some_iff.mp e
    simp at e
  have hnd : is.Nodup := by
    rw [his]
    exact List.Pairwise.map _ (fun a b h e => h (by lia)) List.nodup_range
  cases many with
  | false => exact key is _ _ _ h hnone hnd
  | true =>
    obtain ⟨vs, _, h⟩ := bind_inv (show (asT v).bind _ = some ρ1 from h)
    exact key is _ _ _ h hnone hnd

theorem Go.but {X : Addr → Prop} {ι ι' : List Addr} {s s' : Shared} {C : Addr} {h' : Heap} (g : Go L₀ X ι ι' s s') (hC : s.heap.get? C = Option.none) (hC0 : C ≠ L₀) {o : Obj} (ho : h'.get? C = some o) (hs : Heap.SameBut C s'.heap h') (t : Nat) : Go L₀ X ι ι' s { s' with heap := h', toks := t } where
  pre := g.pre
  new := g.new
  ext := fun b o e h1 h2 h3 => (hs.2 b (by rintro rfl; rw [hC] at e; cases e)).trans (g.ext b o e h1 h2 h3)
  ns0 := fun h m n => (g.ns0 h m n).sameBut hs hC0.symm
  live := fun b e => by
    by_cases hb : b = C
    · subst hb; rw [hC] at e; cases e
    · show (h'.get? b).isSome = true; rw [hs.2 b hb]; exact g.live b e
  frz := fun b o e hf => (hs.2 b (by rintro rfl; rw [hC] at e; cases e)).trans (g.frz b o e hf)
  gens := g.gens
  os := g.os

theorem Rel.but {ι : List Addr} {H : St} {h h' : Heap} {C : Addr} (R : Rel prog w ca h₀ L₀ ι H h) (hC : C ∉ ι) (hC0 : C ≠ L₀) (hCa : h₀.objs.size ≤ C) {m} (hn : h.Ns C m) (hs : Heap.SameBut C h h') : Rel prog w ca h₀ L₀ ι H h' := by
  refine R.mono (fun b o e hb => (hs.2 b (fun h => ?_)).trans e) (fun a ha o e => (hs.2 a (fun h => hC (h ▸ ha))).trans e) (fun b o e hf => (hs.2 b (fun h => ?_)).trans e) ?_
  · subst h; exact absurd (Heap.lt_size hb) (Nat.not_lt.mpr hCa)
  · subst h
    obtain ⟨o', es, ep, ho', hd', _⟩ := hn
    rw [e] at ho'; cases ho'
    rw [frozen_ns hd'] at hf; cases hf
  · obtain ⟨m0, n0⟩ := R.ns0
    exact ⟨m0, n0.sameBut hs hC0.symm⟩

/-- the comprehension's own frame, made and run -/
theorem comp_block {scope : Scope} (cs : CompSc sl sc scope) {tn : List Str} (htn : ∀ t ∈ tn, scope.names.lookup t = some .local) (hnd : (sl ++ tn).Nodup) {A : Around} {env : Env} (hsc : env.scope = sc) (hr : Room k A) {cl : List (Str × Addr)}
    {is : List Nat} {many : Bool} {target iter : Expr} {ifs : List Expr} {rest : List Comprehension} {elt : Expr} {pos : Pos} (ht : TargetL (sl ++ tn) (relab sc scope) is many target)
    {mt : Nat} (his : is = (List.range mt).map (sl.length + ·))
    {dc : Rho → St → Option (Bool × St)} (hifs : IfsOk prog w ca h₀ L₀ (sl ++ tn) (relab sc scope) k ifs dc)
    {emit : Addr → Addr → Addr → Sem PySem.Fin} {f : Rho → St → Option (List V × St)}
    (hemit : ∀ I D C, EmitOk prog w ca h₀ L₀ (sl ++ tn) A (compEnvC scope cl C env) D (fun b => b = C ∨ b = D) (emit I D C) (.again (.compLoop (.ListComp elt (⟨target, iter, ifs, 0⟩ :: rest) scope pos) 0 (.ref I) (.ref D) (compEnvC scope cl C env))) f)
    (hturn : ∀ I D C, compTurn (.ListComp elt (⟨target, iter, ifs, 0⟩ :: rest) scope pos) 0 (.ref I) (.ref D) (compEnvC scope cl C env) = (standAt iter.pos >>= fun _ => pyNext (.ref I) >>= fun r => match r with
      | none => pure (.done .next)
      | some v => letOwnedTupleGo target (.ref I) v >>= fun _ => assign target (compEnvC scope cl C env) v >>= fun _ =>
        (forIn ifs true fun c r => if r = true then do let ok ← isTrue c (compEnvC scope cl C env) (eval c (compEnvC scope cl C env)); pure (ForInStep.yield ok) else pure (ForInStep.yield r)) >>= fun ok =>
          if ok = true then emit I D C else again (.compLoop (.ListComp elt (⟨target, iter, ifs, 0⟩ :: rest) scope pos) 0 (.ref I) (.ref D) (compEnvC scope cl C env))))
    {ρ : Rho} {v : V} {x : Value} {src : Src} {ι : List Addr} {H H' : St} {s : Shared} {ys : List V} (he : EnvR h₀ L₀ sl env ρ ι s.heap)
    (hcl : ClosF scope env cl)
    (hR : Rel prog w ca h₀ L₀ ι H s.heap) (hv : VR ι s.heap v x) (hs : source v H = some src) (hlen : ys.length ≤ maxLen)
    (hd : mapL src (turnC is many dc f (ρ ++ List.replicate tn.length Option.none)) src.len 0 H = some (ys, H'))
    {E : Value → Shared → Prop} {RR : Value → Addr → Result → Shared → Prop}
    (hQ : ∀ D C ι' s' zs m, s'.heap.Ns C m → C ∉ ι' → C ≠ L₀ → h₀.objs.size ≤ C → s.heap.get? C = Option.none → s.heap.get? D = Option.none → Go L₀ No ι ι' s s' → Rel prog w ca h₀ L₀ ι' H' s'.heap → VRs ι' s'.heap ys zs → Acc h₀ L₀ ι' s'.heap D zs → RR (.ref D) C (.ok .next) s') :
    wpAny (model prog w) A (pyIter x) (fun it s₂ => wpAny (model prog w) A (newList []) (fun acc s₃ => wpAny (model prog w) A (newFunctionEnv scope env.globals cl [] env.qual none .none (some env)) (fun cenv s₄ =>
      codeAny (model prog w) A (.compStart (.ListComp elt (⟨target, iter, ifs, 0⟩ :: rest) scope pos) 0 it acc { cenv with scope := relabel scope env }) (RR acc cenv.locals) s₄) E s₃) E s₂) E s := by
  refine iter_start hv hs hR fun I s2 hI g2 R2 q2 t2 => ?_
  refine wpAny_newObj_type (wpAny_newFunctionEnv cs.noCell (by intro y hy; simp at hy) (fun h₁ hns₁ hsb₁ => ?_) cs.kind)
  dsimp only at hns₁ hsb₁ ⊢
  have hD : s2.heap.get? s2.heap.objs.size = Option.none := get?_size _
  generalize hDs : s2.heap.objs.size = D at *
  generalize hH2 : s2.heap.push { cls := .type "list", dict := Option.none, data := .seq ([] : List Value).toArray } = H2 at hns₁ hsb₁ ⊢
  have hC : H2.objs.size = D + 1 := by rw [← hH2, ← hDs, Heap.size_push]
  rw [hC] at hns₁ hsb₁ ⊢
  have hCn : s2.heap.get? (D + 1) = Option.none := by
    cases e : s2.heap.get? (D + 1) with
    | none => rfl
    | some o => exact absurd (Heap.lt_size e) (by rw [hDs]; exact Nat.not_lt.mpr (Nat.le_succ D))
  have old : ∀ b o, s2.heap.get? b = some o → h₁.get? b = some o := fun b o e => hsb₁.extBut b o (by rintro rfl; rw [hCn] at e; cases e) (Heap.get?_push_of_some _ (hH2 ▸ Heap.get?_push_of_some _ e))
  have hacc : h₁.get? D = some (lstObj []) := hsb₁.extBut _ _ (Nat.ne_of_lt (Nat.lt_succ_self D)) (Heap.get?_push_of_some _ (hH2 ▸ by rw [← hDs]; exact Heap.get?_push_size _ rfl))
  have back : ∀ {b : Addr}, s2.heap.get? b = Option.none → s.heap.get? b = Option.none := fun {b} e => by
    cases h : s.heap.get? b with
    | none => rfl
    | some o => have := g2.live b (by rw [h]; rfl); rw [e] at this; cases this
  obtain ⟨fD1, fD2⟩ := R2.fresh_of hD
  obtain ⟨fC1, fC2⟩ := R2.fresh_of hCn
  have hbig : h₀.objs.size ≤ D := by rw [← hDs]; exact R2.big
  have hbig1 : h₀.objs.size ≤ D + 1 := Nat.le_succ_of_le hbig
  have g3 : Go L₀ No ι ι s2 { s2 with heap := h₁, toks := s2.toks + ([] : List (Str × Value)).length } := Go.kept No ι old _
  have g03 := g2.trans g3
  have R3 := R2.kept old
  have he2 := he.mono g2
  have hce := comp_env cs hsc hcl he2 (C := D + 1) htn old fC1 hbig1 ⟨_, hns₁⟩
  have q3 := q2.mono List.prefix_rfl g3.frz (fun o e => old I o e)
  have t3 := t2.go g3 (fun h => h)
  have a3 : Acc h₀ L₀ ι h₁ D [] := ⟨hacc, fD1, hbig, fD2⟩
  have hIlt : I ≠ D ∧ I ≠ D + 1 := by
    obtain ⟨o, vs, ho, _⟩ := t2.alive
    have hlt := Heap.lt_size ho
    rw [hDs] at hlt
    exact ⟨Nat.ne_of_lt hlt, Nat.ne_of_lt (Nat.lt_succ_of_lt hlt)⟩
  refine comp_start (ifs := ifs) (iter := iter) (target := target) rfl (fun hq => self_ok q3 hq) ?_
  show codeAny (model prog w) A (.compLoop (.ListComp elt (⟨target, iter, ifs, 0⟩ :: rest) scope pos) 0 (.ref I) (.ref D) (compEnvC scope cl (D + 1) env)) (RR (.ref D) (D + 1)) _
  refine comp_loop hnd ht (relab_eq hsc ▸ rfl) hr hifs (X := fun b => b = D + 1 ∨ b = D) (.inl rfl) (by rintro (h | h); exact hIlt.2 h; exact hIlt.1 h) (Nat.ne_of_lt (Nat.lt_succ_self D)) (hemit I D (D + 1)) (hturn I D (D + 1)) (src := src)
    (fun v ρ1 h => ?_) hI (us₀ := []) (by simpa using hlen) (fun ι' s' zs g' E' R' V' A' => ?_) hd (g03.own _) hce R3 q3 t3 a3
  · exact bindFor_grow (n := sl.length) (m := mt) he.len.symm his h
  · obtain ⟨m, hm, _⟩ := E'.ns
    refine hQ D (D + 1) ι' s' zs m hm E'.apart fC2 hbig1 (back hCn) (back hD) (g'.weaken fun b hb => .inr ?_) R' V' (by simpa using A')
    rcases hb with rfl | rfl
    · exact back hCn
    · exact back hD

/-- the comprehension behind its source -/
noncomputable def CompOk (prog : Program) (w : World) (ca : Nat → Addr) (h₀ : Heap) (L₀ : Addr) (sl : List Str) (sc : Scope) (k : Nat) (elt : Expr) (gens : List Comprehension) (scope : Scope) (pos : Pos) (dm : Rho → Src → St → Option (List V × St)) : Prop :=
  ∀ (A : Around) (env : Env) (ρ : Rho) (ι : List Addr) (H H' : St) (s : Shared) (v : V) (x : Value) (src : Src) (ys : List V) (cl : List (Str × Addr)), env.scope = sc → Room k A → EnvR h₀ L₀ sl env ρ ι s.heap → Rel prog w ca h₀ L₀ ι H s.heap →
    VR ι s.heap v x → source v H = some src → ys.length ≤ maxLen → dm ρ src H = some (ys, H') → ClosF scope env cl → ∀ (E : Value → Shared → Prop) (RR : Value → Addr → Result → Shared → Prop),
    (∀ D C ι' s' zs m, s'.heap.Ns C m → C ∉ ι' → C ≠ L₀ → h₀.objs.size ≤ C → s.heap.get? C = Option.none → s.heap.get? D = Option.none → Go L₀ No ι ι' s s' → Rel prog w ca h₀ L₀ ι' H' s'.heap → VRs ι' s'.heap ys zs → Acc h₀ L₀ ι' s'.heap D zs → RR (.ref D) C (.ok .next) s') →
    wpAny (model prog w) A (pyIter x) (fun it s₂ => wpAny (model prog w) A (newList []) (fun acc s₃ => wpAny (model prog w) A (newFunctionEnv scope env.globals cl [] env.qual none .none (some env)) (fun cenv s₄ =>
      codeAny (model prog w) A (.compStart (.ListComp elt gens scope pos) 0 it acc { cenv with scope := relabel scope env }) (RR acc cenv.locals) s₄) E s₃) E s₂) E s

/-- the accumulator becomes an object of the abstract state -/
theorem acc_track {ι ι' : List Addr} {H : St} {s s' : Shared} {D : Addr} {zs : List Value} {ys : List V} (g : Go L₀ No ι ι' s s') (R : Rel prog w ca h₀ L₀ ι' H s'.heap) (hv : VRs ι' s'.heap ys zs) (a : Acc h₀ L₀ ι' s'.heap D zs) (hD : s.heap.get? D = Option.none) {v : V} {H' : St} (hn : newL ys H = some (v, H')) :
    Go L₀ No ι (ι' ++ [D]) s s' ∧ Rel prog w ca h₀ L₀ (ι' ++ [D]) H' s'.heap ∧ VR (ι' ++ [D]) s'.heap v (.ref D) := by
  obtain ⟨hl, e⟩ := need_inv hn
  · have hl := of_decide_eq_true hl
    cases e
    refine ⟨⟨g.pre.trans (List.prefix_append _ _), fun b h => (List.mem_append.mp h).elim (g.new b) fun h => by rw [List.mem_singleton.mp h]; exact .inr hD, g.ext, g.ns0, g.live, g.frz, g.gens, g.os⟩,
      R.track (h := s'.heap) a.out a.ne0 a.above ⟨zs, zs.length, a.at_, hv.mono (List.prefix_append _ _) (Frz.refl _), hl⟩, .ref _ _ ?_⟩
    rw [← R.len, List.getElem?_append_right (Nat.le_refl _)]; simp

theorem Go.letgo {ι ι' : List Addr} {s s' : Shared} {C : Addr} {h' : Heap} (g : Go L₀ No ι ι' s s') (hC : s.heap.get? C = Option.none) (hC0 : C ≠ L₀) (hs : Heap.SameBut C s'.heap h') : Go L₀ No ι ι' s { s' with heap := h' } where
  pre := g.pre
  new := g.new
  ext := fun b o e h1 h2 h3 => (hs.2 b (by rintro rfl; rw [hC] at e; cases e)).trans (g.ext b o e h1 h2 h3)
  ns0 := fun h m n => (g.ns0 h m n).sameBut hs hC0.symm
  live := fun b e => by
    by_cases hb : b = C
    · subst hb; rw [hC] at e; cases e
    · show (h'.get? b).isSome = true; rw [hs.2 b hb]; exact g.live b e
  frz := fun b o e hf => (hs.2 b (by rintro rfl; rw [hC] at e; cases e)).trans (g.frz b o e hf)
  gens := g.gens
  os := g.os

theorem frz_letgo {h h' : Heap} {C : Addr} {m} (n : h.Ns C m) (hs : Heap.SameBut C h h') : Frz h h' := fun b o e hf => (hs.2 b (by
  rintro rfl
  obtain ⟨o', es, ep, ho', hd', _⟩ := n
  rw [e] at ho'; cases ho'
  rw [frozen_ns hd'] at hf; cases hf)).trans e

theorem EOk.comp_of {elt target iter : Expr} {ifs : List Expr} {rest : List Comprehension} {scope : Scope} {pos : Pos} {di : Rho → St → Option (V × St)} {dm : Rho → Src → St → Option (List V × St)} (hi : EOk prog w ca h₀ L₀ sl sc k iter di)
    (cs : CompSc sl sc scope) (hc : CompOk prog w ca h₀ L₀ sl sc k elt (⟨target, iter, ifs, 0⟩ :: rest) scope pos dm) (hset : ∀ env x, foldedSetIterable iter env x = pure x) :
    EOk prog w ca h₀ L₀ sl sc k (.ListComp elt (⟨target, iter, ifs, 0⟩ :: rest) scope pos) (fun ρ H => (di ρ H).bind fun x => (source x.1 x.2).bind fun src => (dm ρ src x.2).bind fun r => newL r.1 r.2) := by
  intro A env ρ ι H s v H' hsc hr he hR hd Q E hQ
  obtain ⟨⟨a, H1⟩, e1, hd⟩ := bind_inv hd
  obtain ⟨src, e2, hd⟩ := bind_inv hd
  obtain ⟨⟨ys, H2⟩, e3, e4⟩ := bind_inv hd
  obtain ⟨cl, hcl⟩ := clos_of cs hsc he
  rw [eval_ListComp]
  refine wpAny_comprehension_free (use := none) rfl (hset env) hcl.eq cs.kind cs.locals (hi A env ρ ι H s a H1 hsc hr he hR e1 _ _ fun x ι1 s1 g1 R1 V1 => ?_)
  refine hc A env ρ ι1 H1 H2 s1 a x src ys cl hsc hr (he.mono g1) R1 V1 e2 (newL_len e4) e3 hcl E (fun acc C => compPost (model prog w) A E none Q acc C) ?_
  intro D C ι2 s2 zs m hm hC hC0 hCa hCn hDn g2 R2 V2 a2
  refine ⟨m, hm, fun h' hs => ?_⟩
  have g2' := g2.letgo hCn hC0 hs
  have R2' := R2.but hC hC0 hCa hm hs
  have a2' : Acc h₀ L₀ ι2 h' D zs := a2.keep fun o e => (hs.2 D (a2.ne_ns hm)).trans e
  obtain ⟨g3, R3, V3⟩ := acc_track g2' R2' (V2.mono List.prefix_rfl (frz_letgo hm hs)) a2' hDn e4
  exact hQ _ _ _ (g1.trans g3) R3 V3

theorem SOk.asgcomp {y : Str} {py : Pos} {elt target iter : Expr} {ifs : List Expr} {rest : List Comprehension} {scope : Scope} {pos spos : Pos} {i : Nat} {di : Rho → St → Option (V × St)} {dm : Rho → Src → St → Option (List V × St)} (hi : EOk prog w ca h₀ L₀ sl sc k iter di)
    (cs : CompSc sl sc scope) (hc : CompOk prog w ca h₀ L₀ sl sc k elt (⟨target, iter, ifs, 0⟩ :: rest) scope pos dm) (hset : ∀ env x, foldedSetIterable iter env x = pure x)
    (hnd : sl.Nodup) (hy : sl[i]? = some y) (hk : sc.names.lookup y = some .local)
    (hsw : ∀ env : Env, env.scope = sc → swapsWith (.ListComp elt (⟨target, iter, ifs, 0⟩ :: rest) scope pos) (some (.Name y py)) spos.line env = pure true) :
    SOk prog w ca h₀ L₀ sl sc k (.Assign [.Name y py] (.ListComp elt (⟨target, iter, ifs, 0⟩ :: rest) scope pos) spos) (sAsg i fun ρ H => (di ρ H).bind fun x => (source x.1 x.2).bind fun src => (dm ρ src x.2).bind fun r => newL r.1 r.2) := by
  intro A env ρ ι H s fl ρ' H' hsc hr he hR hd Q E hQ
  obtain ⟨⟨v, H3⟩, hd2, e5⟩ := map_inv hd
  cases e5
  obtain ⟨⟨a, H1⟩, e1, hd⟩ := bind_inv hd2
  obtain ⟨src, e2, hd⟩ := bind_inv hd
  obtain ⟨⟨ys, H2⟩, e3, e4⟩ := bind_inv hd
  obtain ⟨cl, hcl⟩ := clos_of cs hsc he
  rw [exec_Assign_Name_used _ _ _ _ (hsw env hsc)]
  refine wpAny_bind (wpAny_standAt (wpAny_bind ?_))
  show wpAny _ A (do let _ ← comprehension (.ListComp elt (⟨target, iter, ifs, 0⟩ :: rest) scope pos) scope env _ (newList []) false (eval iter env) (some (assign (.Name y py) env))) _ _ s
  refine wpAny_bind (wpAny_mono (wpAny_comprehension_free (use := some (assign (.Name y py) env)) (Q := fun _ s' => Q .next s') rfl (hset env) hcl.eq cs.kind cs.locals
    (hi A env ρ ι H s a H1 hsc hr he hR e1 _ _ fun x ι1 s1 g1 R1 V1 => ?_)) (fun _ s' hq => wpAny_pure (wpAny_pure hq)) fun _ _ e => e)
  refine hc A env ρ ι1 H1 H2 s1 a x src ys cl hsc hr (he.mono g1) R1 V1 e2 (newL_len e4) e3 hcl E (fun acc C => compPost (model prog w) A E (some (assign (.Name y py) env)) (fun _ s' => Q .next s') acc C) ?_
  intro D C ι2 s2 zs m hm hC hC0 hCa hCn hDn g2 R2 V2 a2
  obtain ⟨g3, R3, V3⟩ := acc_track g2 R2 V2 a2 hDn e4
  have he3 := (he.mono g1).mono g3
  obtain ⟨oL, hoL⟩ := Ns_alive (he.mono g1).ns.choose_spec.1
  have hCL : C ≠ env.locals := by rintro rfl; rw [hCn] at hoL; cases hoL
  show wpAny _ A (assign (.Name y py) env (.ref D)) _ E s2
  refine wpAny_assign_Name (store_loc hnd hy hk hsc he3 R3 V3 (X := Own sl env) (.inl rfl) fun s4 g4 k4 E4 R4 => ?_)
  refine ⟨m, Ns_at hm fun o e => k4 C o hCL e, fun h' hs => ?_⟩
  have hm4 : s4.heap.Ns C m := Ns_at hm fun o e => k4 C o hCL e
  have g5 : Go L₀ (Own sl env) ι1 (ι2 ++ [D]) s1 s4 := (g3.own _).trans g4
  have hC2 : C ∉ ι2 ++ [D] := by
    intro h
    rcases List.mem_append.mp h with h | h
    · exact hC h
    · exact a2.ne_ns hm (List.mem_singleton.mp h).symm
  have g6 : Go L₀ (Own sl env) ι1 (ι2 ++ [D]) s1 { s4 with heap := h' } :=
    ⟨g5.pre, g5.new, fun b o e h1 h2 h3 => (hs.2 b (by rintro rfl; rw [hCn] at e; cases e)).trans (g5.ext b o e h1 h2 h3), fun h m n => (g5.ns0 h m n).sameBut hs hC0.symm, fun b e => by
      by_cases hb : b = C
      · subst hb; rw [hCn] at e; cases e
      · show (h'.get? b).isSome = true; rw [hs.2 b hb]; exact g5.live b e, fun b o e hf => (hs.2 b (by rintro rfl; rw [hCn] at e; cases e)).trans (g5.frz b o e hf), g5.gens, g5.os⟩
  have frz := frz_letgo hm4 hs
  refine hQ _ _ _ ((g1.own _).trans g6) ⟨E4.kind, E4.glob, E4.bi, E4.apart, E4.above, ?_, ?_, E4.inj, E4.len⟩ (R4.but hC2 hC0 hCa hm4 hs) .next
  · obtain ⟨m1, n1, h1⟩ := E4.ns
    refine ⟨m1, n1.sameBut hs hCL.symm, fun j z u q1 q2 q3 => ?_⟩
    obtain ⟨y', q4, q5⟩ := h1 j z u q1 q2 q3
    exact ⟨y', q4, q5.mono List.prefix_rfl frz⟩
  · intro j z q1 q2
    obtain ⟨c, ov, f1, f2, f3, f4, f5⟩ := E4.cell j z q1 q2
    refine ⟨c, ov, f1, f2, f3, IsCell_at f4 fun o e => (hs.2 c (cell_ne_local hm4 f4)).trans e, fun u hu => ?_⟩
    obtain ⟨y', q4, q5⟩ := f5 u hu
    exact ⟨y', q4, q5.mono List.prefix_rfl frz⟩
end
end
end Mine.L1

namespace Mine.L1
section
open PySem PySem.W PyProof.Rows
set_option maxRecDepth 10000
set_option autoImplicit false

theorem setSlots_mid : ∀ (xs : List V) (ρ tail : Rho), setSlots ((List.range xs.length).map (ρ.length + ·)) xs (ρ ++ List.replicate xs.length Option.none ++ tail) = some (ρ ++ xs.map some ++ tail)
  | [], ρ, tail => by simp [setSlots]
  | x :: xs, ρ, tail => by
    have e1 : (List.range (x :: xs).length).map (ρ.length + ·) = ρ.length :: (List.range xs.length).map ((ρ ++ [some x]).length + ·) := by
      rw [List.length_cons, List.range_succ_eq_map, List.map_cons, List.map_map]
      congr 1
      refine List.map_congr_left fun j _ => ?_
      simp; lia
    rw [e1]
    simp only [setSlots]
    have e2 : (ρ ++ List.replicate (x :: xs).length (Option.none : Option V) ++ tail).set ρ.length (some x) = (ρ ++ [some x]) ++ List.replicate xs.length Option.none ++ tail := by
      simp [List.replicate_succ, List.set_append_right]
    rw [e2, setSlots_mid xs (ρ ++ [some x]) tail]
    simp

theorem setSlots_len2 : ∀ (is : List Nat) (xs : List V) (ρ : Rho), is.length ≠ xs.length → setSlots is xs ρ = Option.none
  | [], [], _, h => absurd rfl h
  | [], _ :: _, _, _ => rfl
  | _ :: _, [], _, _ => rfl
  | i :: is, x :: xs, ρ, h => by simp only [setSlots]; exact setSlots_len2 is xs _ (fun e => h (by simp [e]))

theorem bindT_for (tn : List Str) (v : V) (ρ tail : Rho) : bindFor ((List.range tn.length).map (ρ.length + ·)) (decide (tn.length ≠ 1)) v (ρ ++ List.replicate tn.length Option.none ++ tail) = (bindT tn v).map (fun bs => ρ ++ bs ++ tail) := by
  unfold bindT
  by_cases h1 : tn.length = 1
  · rw [if_pos h1, h1]
    exact setSlots_mid [v] ρ tail
  · rw [if_neg h1, decide_eq_true h1]
    show (asT v).bind (fun vs => setSlots _ vs _) = _
    cases asT v with
    | none => rfl
    | some xs =>
      show setSlots _ xs _ = Option.map _ (need _ _)
      by_cases hl : xs.length = tn.length
      · rw [decide_eq_true hl, ← hl]; exact setSlots_mid xs ρ tail
      · rw [decide_eq_false hl, setSlots_len2 _ _ _ (by rw [List.length_map, List.length_range]; exact fun h => hl h.symm)]; rfl

theorem bindT_len {tn : List Str} {v : V} {bs : List (Option V)} (h : bindT tn v = some bs) : bs.length = tn.length := by
  unfold bindT at h
  by_cases h1 : tn.length = 1
  · rw [if_pos h1] at h; cases h; exact h1.symm
  · rw [if_neg h1] at h
    obtain ⟨xs, _, q⟩ := bind_inv h
    obtain ⟨hl, e⟩ := need_inv q
    cases e
    rw [List.length_map]; exact of_decide_eq_true hl

section
variable {prog : Program} {w : World} {ca : Nat → Addr} {h₀ : Heap} {L₀ : Addr}
variable {sl : List Str} {sc : Scope} {k : Nat}

theorem emit_one {elt : Expr} {delt : Rho → St → Option (V × St)} (he : EOk prog w ca h₀ L₀ sl sc k elt delt) {A : Around} (hr : Room k A) {env : Env} (hsc : env.scope = sc) {D C : Addr} {c : Code} :
    EmitOk prog w ca h₀ L₀ sl A env D (fun b => b = C ∨ b = D) (do let _ ← (do let _ ← call (.builtin "list.append") [.ref D, ← eval elt env]); again c) (.again c) (fun ρ H => (delt ρ H).map fun y => ([y.1], y.2)) := by
  intro ρ ι H s us ys H' hE hR a hlen hd Q E hQ
  obtain ⟨⟨v, H1⟩, e1, e2⟩ := map_inv hd
  cases e2
  refine wpAny_bind (wpAny_bind (he A env ρ ι H s v H1 hsc hr hE hR e1 _ _ fun x ι1 s1 g1 R1 V1 => ?_))
  have a1 := a.go g1 (fun h => h)
  refine wpAny_bind (acc_append a1 (by simp at hlen; lia) R1 (X := fun b => b = C ∨ b = D) (.inr rfl) fun s2 g2 k2 R2 a2 => wpAny_pure (wpAny_pure ?_))
  have E1 := hE.mono g1
  exact hQ ι1 s2 [x] ((g1.own _).trans g2) (E1.but a1 k2 g2.frz) R2 (.cons (V1.mono g2.pre g2.frz) .nil) a2

theorem CompOk.one {target iter : Expr} {ifs : List Expr} {elt : Expr} {scope : Scope} {pos : Pos} {tn : List Str} (cs : CompSc sl sc scope) (htn : ∀ t ∈ tn, scope.names.lookup t = some .local) (hnd : (sl ++ tn).Nodup)
    (ht : TargetL (sl ++ tn) (relab sc scope) ((List.range tn.length).map (sl.length + ·)) (decide (tn.length ≠ 1)) target) {dc : M} (hifs : IfsOk prog w ca h₀ L₀ (sl ++ tn) (relab sc scope) k ifs (fun ρ H => (dc ρ H).bind tst))
    {delt : M} (helt : EOk prog w ca h₀ L₀ (sl ++ tn) (relab sc scope) k elt delt) :
    CompOk prog w ca h₀ L₀ sl sc k elt [⟨target, iter, ifs, 0⟩] scope pos (fun ρ src H => mapL src (turn1 delt tn dc ρ) src.len 0 H) := by
  intro A env ρ ι H H' s v x src ys cl hsc hr he hR hv hs hlen hd hcl E RR hQ
  have hl := he.len
  refine comp_block cs htn hnd hsc hr (mt := tn.length) ht rfl hifs (emit := fun I D C => do let _ ← (do let _ ← call (.builtin "list.append") [.ref D, ← eval elt (compEnvC scope cl C env)]); again (.compLoop (.ListComp elt [⟨target, iter, ifs, 0⟩] scope pos) 0 (.ref I) (.ref D) (compEnvC scope cl C env)))
    (f := fun ρ H => (delt ρ H).map fun y => ([y.1], y.2)) (fun I D C => emit_one helt hr (relab_eq hsc)) (fun I D C => rfl) he hcl hR hv hs hlen ?_ hQ
  have e : turnC ((List.range tn.length).map (sl.length + ·)) (decide (tn.length ≠ 1)) (fun ρ H => (dc ρ H).bind tst) (fun ρ H => (delt ρ H).map fun y => ([y.1], y.2)) (ρ ++ List.replicate tn.length Option.none) = turn1 delt tn dc ρ := by
    funext v H
    have := bindT_for tn v ρ []
    simp only [List.append_nil] at this
    rw [hl] at this
    unfold turnC turn1
    rw [this]
    cases bindT tn v <;> rfl
  rw [e]; exact hd

theorem EnvR.pre {sl' : List Str} {env : Env} {ρ ρ' : Rho} {ι : List Addr} {h : Heap} (q : EnvR h₀ L₀ (sl ++ sl') env (ρ ++ ρ') ι h) (hl : ρ.length = sl.length) : EnvR h₀ L₀ sl env ρ ι h where
  kind := q.kind
  glob := q.glob
  bi := q.bi
  apart := q.apart
  above := q.above
  ns := by
    obtain ⟨m, hn, hm⟩ := q.ns
    refine ⟨m, hn, fun i x v h1 h2 h3 => hm i x v ?_ ?_ h3⟩
    · rw [List.getElem?_append_left (List.getElem?_eq_some_iff.mp h1).1]; exact h1
    · rw [List.getElem?_append_left (List.getElem?_eq_some_iff.mp h2).1]; exact h2
  cell := fun i x h1 h2 => by
    have hi := (List.getElem?_eq_some_iff.mp h1).1
    obtain ⟨c, ov, e1, e2, e3, e4, e5⟩ := q.cell i x (by rw [List.getElem?_append_left hi]; exact h1) h2
    exact ⟨c, ov, e1, e2, e3, e4, fun v hv => e5 v (by rw [List.getElem?_append_left (by lia)]; exact hv)⟩
  inj := q.inj
  len := hl

theorem compTurn_two (elt t1 i1 t2 i2 : Expr) (scope : Scope) (pos : Pos) (it acc : Value) (env : Env) :
    compTurn (.ListComp elt [⟨t1, i1, [], 0⟩, ⟨t2, i2, [], 0⟩] scope pos) 0 it acc env = (standAt i1.pos >>= fun _ => pyNext it >>= fun r => match r with
      | none => pure (.done .next)
      | some v => letOwnedTupleGo t1 it v >>= fun _ => assign t1 env v >>= fun _ =>
        (forIn [] true fun c r => if r = true then do let ok ← isTrue c env (eval c env); pure (ForInStep.yield ok) else pure (ForInStep.yield r)) >>= fun ok =>
          if ok = true then (do
            let x ← eval i2 env
            standAt i2.pos
            let x ← foldedSetIterable i2 env x
            let _ ← runOwn (.compStart (.ListComp elt [⟨t1, i1, [], 0⟩, ⟨t2, i2, [], 0⟩] scope pos) 1 (← holding [x] (pyIter x)) acc env) env
            again (.compLoop (.ListComp elt [⟨t1, i1, [], 0⟩, ⟨t2, i2, [], 0⟩] scope pos) 0 it acc env)) else again (.compLoop (.ListComp elt [⟨t1, i1, [], 0⟩, ⟨t2, i2, [], 0⟩] scope pos) 0 it acc env)) := by rfl
theorem compTurn_two1 (elt t1 i1 t2 i2 : Expr) (scope : Scope) (pos : Pos) (it acc : Value) (env : Env) :
    compTurn (.ListComp elt [⟨t1, i1, [], 0⟩, ⟨t2, i2, [], 0⟩] scope pos) 1 it acc env = (standAt i2.pos >>= fun _ => pyNext it >>= fun r => match r with
      | none => pure (.done .next)
      | some v => letOwnedTupleGo t2 it v >>= fun _ => assign t2 env v >>= fun _ =>
        (forIn [] true fun c r => if r = true then do let ok ← isTrue c env (eval c env); pure (ForInStep.yield ok) else pure (ForInStep.yield r)) >>= fun ok =>
          if ok = true then (do
            let _ ← (do let _ ← call (.builtin "list.append") [acc, ← eval elt env])
            again (.compLoop (.ListComp elt [⟨t1, i1, [], 0⟩, ⟨t2, i2, [], 0⟩] scope pos) 1 it acc env)) else again (.compLoop (.ListComp elt [⟨t1, i1, [], 0⟩, ⟨t2, i2, [], 0⟩] scope pos) 1 it acc env)) := by rfl

theorem CompOk.two {t1 i1 t2 i2 : Expr} {elt : Expr} {scope : Scope} {pos : Pos} {tn1 tn2 : List Str} (cs : CompSc sl sc scope) (htn1 : ∀ t ∈ tn1, scope.names.lookup t = some .local) (htn2 : ∀ t ∈ tn2, scope.names.lookup t = some .local) (hnd : (sl ++ (tn1 ++ tn2)).Nodup)
    (ht1 : TargetL (sl ++ (tn1 ++ tn2)) (relab sc scope) ((List.range tn1.length).map (sl.length + ·)) (decide (tn1.length ≠ 1)) t1)
    (ht2 : TargetL (sl ++ (tn1 ++ tn2)) (relab sc scope) ((List.range tn2.length).map ((sl.length + tn1.length) + ·)) (decide (tn2.length ≠ 1)) t2)
    {d2 : M} (hi2 : EOk prog w ca h₀ L₀ (sl ++ tn1) (relab sc scope) k i2 d2) (hset : ∀ env x, foldedSetIterable i2 env x = pure x)
    {delt : M} (helt : EOk prog w ca h₀ L₀ (sl ++ (tn1 ++ tn2)) (relab sc scope) k elt delt) :
    CompOk prog w ca h₀ L₀ sl sc k elt [⟨t1, i1, [], 0⟩, ⟨t2, i2, [], 0⟩] scope pos (fun ρ src H => mapL src (turn21 delt tn1 tn2 d2 ρ) src.len 0 H) := by
  intro A env ρ ι H H' s v x src ys cl hsc hr he hR hv hs hlen hd hcl E RR hQ
  have hl := he.len
  have htn : ∀ t ∈ tn1 ++ tn2, scope.names.lookup t = some .local := fun t ht => (List.mem_append.mp ht).elim (htn1 t) (htn2 t)
  -- the outer turn as a function of the whole frame
  let F : Rho → St → Option (List V × St) := fun ρ1 H => need ((ρ1.drop (sl.length + tn1.length)).all (·.isNone)) ((d2 (ρ1.take (sl.length + tn1.length)) H).bind fun x2 => (source x2.1 x2.2).bind fun src2 =>
      mapL src2 (turn2 delt tn2 (ρ1.take (sl.length + tn1.length))) src2.len 0 x2.2)
  refine comp_block cs htn hnd hsc hr (mt := tn1.length) ht1 rfl (IfsOk.nil (prog := prog) (w := w) (ca := ca)) (emit := fun I D C => (do
      let x ← eval i2 (compEnvC scope cl C env)
      standAt i2.pos
      let x ← foldedSetIterable i2 (compEnvC scope cl C env) x
      let _ ← runOwn (.compStart (.ListComp elt [⟨t1, i1, [], 0⟩, ⟨t2, i2, [], 0⟩] scope pos) 1 (← holding [x] (pyIter x)) (.ref D) (compEnvC scope cl C env)) (compEnvC scope cl C env)
      again (.compLoop (.ListComp elt [⟨t1, i1, [], 0⟩, ⟨t2, i2, [], 0⟩] scope pos) 0 (.ref I) (.ref D) (compEnvC scope cl C env)))) (f := F)
    (fun I D C => ?_) (fun I D C => compTurn_two ..) he hcl hR hv hs hlen ?_ hQ
  · intro ρ1 ι H s us ys H' hE hR a hlen hd Q E hQ
    obtain ⟨hnone, hd3⟩ := need_inv (show need _ _ = _ from hd)
    clear hd
    · have hl1 : ρ1.length = sl.length + tn1.length + tn2.length := by rw [hE.len]; simp; lia
      obtain ⟨ρa, ρb, rfl, hla⟩ : ∃ ρa ρb : Rho, ρ1 = ρa ++ ρb ∧ ρa.length = sl.length + tn1.length := ⟨ρ1.take (sl.length + tn1.length), ρ1.drop (sl.length + tn1.length), (List.take_append_drop _ _).symm, by simp; lia⟩
      rw [List.drop_left' hla] at hnone
      rw [List.take_left' hla] at hd3
      have hlb : ρb.length = tn2.length := by simp at hl1; lia
      have hρb : ρb = List.replicate tn2.length Option.none := by
        refine List.eq_replicate_iff.mpr ⟨hlb, fun b hb => ?_⟩
        have := List.all_eq_true.mp hnone b hb
        simpa using this
      subst hρb
      obtain ⟨⟨x2, H2⟩, e1, hd4⟩ := bind_inv hd3
      obtain ⟨src2, e2, hd⟩ := bind_inv hd4
      have hE1 : EnvR h₀ L₀ (sl ++ tn1) (compEnvC scope cl C env) ρa ι s.heap := by
        rw [← List.append_assoc] at hE
        exact hE.pre (by simp [hla])
      refine wpAny_bind (hi2 A _ ρa ι H s x2 H2 (relab_eq hsc) hr hE1 hR e1 _ _ fun x ι1 s1 g1 R1 V1 => ?_)
      refine wpAny_bind (wpAny_standAt (wpAny_bind (wpAny_of_eq (hset _ x) (wpAny_bind (wpAny_holding ?_)))))
      refine iter_start V1 e2 R1 fun I2 s2 hI2 g2 R2 q2 T2 => ?_
      have a1 := a.go g1 (fun h => h)
      have a2 := a1.go g2 (fun h => h)
      have hE2 := (hE.mono g1).mono g2
      have g12 := g1.trans g2
      have hI0 : s.heap.get? I2 = Option.none := by
        cases h : s.heap.get? I2 with
        | none => rfl
        | some o => have := g1.live I2 (by rw [h]; rfl); rw [hI2] at this; cases this
      obtain ⟨mC, hmC, _⟩ := hE2.ns
      refine wpAny_bind (wpAny_runOwn (comp_start (ifs := []) (iter := i2) (target := t2) rfl (fun hq => self_ok q2 hq) ?_))
      refine comp_loop hnd ht2 (relab_eq hsc) hr (IfsOk.nil (prog := prog) (w := w) (ca := ca)) (X := fun b => b = C ∨ b = D) (.inl rfl) (by
          rintro (h | h)
          · exact T2.ne_ns hmC h
          · exact a2.ne_tmp T2 h.symm) (a2.ne_ns hmC) (emit_one helt hr (relab_eq hsc)) (compTurn_two1 ..) (src := src2) (ρ := ρa ++ List.replicate tn2.length Option.none) (H' := H') (all := ys) (H := H2) (fun v ρ1 h => bindFor_grow hla.symm rfl h) hI0 (us₀ := us) hlen
          (fun ι' s' zs g' E' R' V' A' => ?_) ?_ (g12.own _) hE2 R2 q2 T2 a2
      · exact wpAny_pure (hQ ι' s' zs g' E' R' V' A')
      · have e : turnC ((List.range tn2.length).map ((sl.length + tn1.length) + ·)) (decide (tn2.length ≠ 1)) (fun _ H => some (true, H)) (fun ρ H => (delt ρ H).map fun y => ([y.1], y.2)) (ρa ++ List.replicate tn2.length Option.none) = turn2 delt tn2 ρa := by
          funext v H
          have := bindT_for tn2 v ρa []
          simp only [List.append_nil] at this
          rw [hla] at this
          unfold turnC turn2
          rw [this]
          cases bindT tn2 v <;> rfl
        rw [e]; exact hd
  · have e : turnC ((List.range tn1.length).map (sl.length + ·)) (decide (tn1.length ≠ 1)) (fun _ H => some (true, H)) F (ρ ++ List.replicate (tn1 ++ tn2).length Option.none) = turn21 delt tn1 tn2 d2 ρ := by
      funext v H
      have := bindT_for tn1 v ρ (List.replicate tn2.length Option.none)
      rw [hl, List.append_assoc, List.replicate_append_replicate] at this
      unfold turnC turn21
      rw [List.length_append, this]
      cases hb : bindT tn1 v with
      | none => rfl
      | some bs =>
        have hbl := bindT_len hb
        have hll : (ρ ++ bs).length = sl.length + tn1.length := by rw [List.length_append, hl, hbl]
        show need _ _ = _
        rw [List.drop_left' hll, List.take_left' hll, List.all_replicate]
        cases tn2.length <;> rfl
    rw [e]; exact hd
end
end
end Mine.L1

namespace Mine.L1
section
open PySem PySem.W PyProof.Rows
set_option maxRecDepth 10000
set_option autoImplicit false

theorem lookup_zip_some : ∀ {ns : List Str} {xs : List Value}, ns.Nodup → ∀ {i : Nat} {n : Str} {x : Value}, ns[i]? = some n → xs[i]? = some x → (ns.zip xs).lookup n = some x
  | [], _, _, _, _, _, h, _ => by simp at h
  | a :: r, [], _, _, _, _, _, h => by simp at h
  | a :: r, b :: t, hn, 0, _, _, h1, h2 => by simp at h1 h2; subst h1 h2; simp
  | a :: r, b :: t, hn, i + 1, n, x, h1, h2 => by
    simp at h1 h2
    obtain ⟨n1, n2⟩ := List.nodup_cons.mp hn
    rw [List.zip_cons_cons, lookup_cons_eq, if_neg (fun e : n = a => n1 (by rw [← e]; exact List.mem_of_getElem? h1))]
    exact lookup_zip_some n2 h1 h2
theorem lookup_zip_none : ∀ {ns : List Str} {xs : List Value} {n : Str}, n ∉ ns.take xs.length → (ns.zip xs).lookup n = Option.none
  | [], _, _, _ => by simp
  | a :: r, [], _, _ => by simp
  | a :: r, b :: t, n, h => by
    simp at h
    rw [List.zip_cons_cons, lookup_cons_eq, if_neg h.1]
    exact lookup_zip_none h.2

theorem filterMap_zip {ns : List Str} {xs : List Value} (hn : ns.Nodup) (hl : ns.length = xs.length) (f : Str → Option Value) (hf : ∀ (i : Nat) n x, ns[i]? = some n → xs[i]? = some x → f n = some x) :
    ns.filterMap (fun n => (f n).map (n, ·)) = ns.zip xs := by
  induction ns generalizing xs with
  | nil => simp
  | cons a r ih =>
    cases xs with
    | nil => simp at hl
    | cons b t =>
      rw [List.filterMap_cons, hf 0 a b rfl rfl]
      simp only [Option.map_some, List.zip_cons_cons]
      rw [ih (List.nodup_cons.mp hn).2 (by simpa using hl) fun i n x h1 h2 => hf (i + 1) n x (by simpa using h1) (by simpa using h2)]

/-- plain parameters -/
structure PlainPs (p : Arguments) (ns : List Str) : Prop where
  pos : p.posonlyargs = []
  args : p.args.map (·.arg) = ns
  va : p.vararg = Option.none
  kwo : p.kwonlyargs = []
  kw : p.kwarg = Option.none

theorem bind_plain {fd : FuncData} {ns : List Str} (hp : PlainPs fd.params ns) (hn : ns.Nodup) {xs ds : List Value} {k : Option (Array Value)} (hk : (k.getD #[]).toList = ds) (h1 : xs.length ≤ ns.length) (h2 : ns.length ≤ xs.length + ds.length) (hd1 : ds.length ≤ 1) (hd2 : ds.length ≤ ns.length)
    {s : Shared} (hseq : ∀ (M : Model) (A : Around) (E : Value → Shared → Prop) (Q : Option (Array Value) → Shared → Prop), Q k s → wpAny M A (seqItems? fd.defaults) Q E s) :
    BindsTo s fd ⟨xs, []⟩ (ns.zip (xs ++ ds.drop (xs.length + ds.length - ns.length))) := by
  intro M A E Q hQ
  unfold bindArgs
  simp only [hp.pos, hp.args, hp.va, hp.kwo, hp.kw, List.map_nil, List.nil_append, List.append_nil, List.forIn_nil, pure_bind]
  refine wpAny_bind (hseq M A E _ ?_)
  rw [hk]
  have hz : (ns.zip xs).length = xs.length := by simp; lia
  have g1 : ¬ (xs.length > ns.length) := by lia
  have e1 : (decide (xs.length > ns.length) && (Option.none : Option Arg).isNone) = false := by simp [h1]
  simp only [e1, Bool.false_eq_true, if_false]
  have e2 : ds.length - ns.length = 0 := by lia
  rw [e2, List.drop_zero]
  have e3 : (ns.take (ns.length - ds.length)).filter (fun n => (List.lookup n (ns.zip xs)).isNone) = [] := by
    rw [List.filter_eq_nil_iff]
    intro n hm
    obtain ⟨i, hi⟩ := List.mem_iff_getElem?.mp hm
    have hlt : i < ns.length - ds.length := by
      have := (List.getElem?_eq_some_iff.mp hi).1
      simp at this; lia
    rw [List.getElem?_take_of_lt hlt] at hi
    rw [lookup_zip_some hn hi (List.getElem?_eq_getElem (by lia))]
    simp
  rw [e3, if_neg (by simp)]
  match ds, hd1, hd2, h2, hQ with
  | [], _, _, h2, hQ =>
    simp only [List.zip_nil_right, List.forIn_nil, pure_bind]
    rw [if_neg (by simp)]
    have hl : ns.length = xs.length := by simp at h2; lia
    rw [filterMap_zip hn hl (fun n => List.lookup n (ns.zip xs)) fun i n x a b => lookup_zip_some hn a b]
    exact wpAny_pure (by simpa using hQ)
  | [d], _, hd2, h2, hQ =>
    obtain ⟨init, last, rfl⟩ : ∃ init last, ns = init ++ [last] := by
      rcases List.eq_nil_or_concat ns with h | ⟨i, l, h⟩
      · rw [h] at hd2; simp at hd2
      · exact ⟨i, l, by simpa using h⟩
    have e4 : (init ++ [last]).drop ((init ++ [last]).length - [d].length) = [last] := by simp
    rw [e4]
    simp only [List.zip_cons_cons, List.zip_nil_right, List.forIn_cons, List.forIn_nil]
    have hlast : last ∉ init := by
      intro h
      have := (List.nodup_append.mp hn).2.2 last h last (by simp)
      exact this rfl
    by_cases hx : xs.length = init.length
    · have e5 : List.lookup last ((init ++ [last]).zip xs) = Option.none := lookup_zip_none (by
        rw [hx, List.take_left' rfl]; exact hlast)
      rw [e5]
      simp only [Option.isNone_none, if_true, pure_bind]
      rw [if_neg (by simp)]
      have e6 : (init ++ [last]).zip xs ++ [(last, d)] = (init ++ [last]).zip (xs ++ [d]) := by
        have : (init ++ [last]).zip xs = init.zip xs := by
          rw [← List.append_nil xs, List.zip_append hx.symm]; simp
        rw [this, List.zip_append hx.symm]; rfl
      rw [e6, filterMap_zip hn (by simp [hx]) (fun n => List.lookup n ((init ++ [last]).zip (xs ++ [d]))) fun i n x a b => lookup_zip_some hn a b]
      refine wpAny_pure ?_
      have e7 : xs.length + [d].length - (init ++ [last]).length = 0 := by simp [hx]
      rw [e7] at hQ
      exact hQ
    · have hl : (init ++ [last]).length = xs.length := by simp at h1 h2 ⊢; lia
      have e5 : (List.lookup last ((init ++ [last]).zip xs)).isNone = false := by
        rw [lookup_zip_some hn (i := init.length) (n := last) (by simp) (List.getElem?_eq_getElem (by simp at hl; lia))]
        rfl
      rw [e5]
      simp only [Bool.false_eq_true, if_false, pure_bind]
      rw [if_neg (by simp)]
      rw [filterMap_zip hn hl (fun n => List.lookup n ((init ++ [last]).zip xs)) fun i n x a b => lookup_zip_some hn a b]
      refine wpAny_pure ?_
      have e7 : xs.length + [d].length - (init ++ [last]).length = 1 := by rw [hl]; simp
      rw [e7] at hQ
      simpa using hQ

theorem cellsFrom_has : ∀ (names : List (Str × NameKind)) (n : Nat) (acc : List (Str × Addr)) (x : Str), ((x, NameKind.cell) ∈ names ∨ (acc.lookup x).isSome = true) → ((cellsFrom n names acc).lookup x).isSome = true
  | [], n, acc, x, h => by
    rcases h with h | h
    · simp at h
    · exact h
  | (m, kd) :: r, n, acc, x, h => by
    unfold cellsFrom
    split
    · refine cellsFrom_has r _ _ x ?_
      rcases h with h | h
      · rcases List.mem_cons.mp h with e | h
        · cases e; exact .inr (by rw [lookup_cons_eq]; simp)
        · exact .inl h
      · right
        rw [lookup_cons_eq]
        split <;> simp_all
    · rename_i hk
      refine cellsFrom_has r _ _ x ?_
      rcases h with h | h
      · rcases List.mem_cons.mp h with e | h
        · cases e; exact absurd rfl hk
        · exact .inl h
      · exact .inr h

theorem bindL_keep (kindOf : Str → Option NameKind) : ∀ (b : List (Str × Value)) (m : Str → Option Value) (x : Str), x ∉ b.map (·.1) → bindL kindOf b m x = m x
  | [], m, x, _ => rfl
  | (n, v) :: r, m, x, h => by
    simp at h
    unfold bindL
    rw [bindL_keep kindOf r _ x (by simpa using h.2)]
    split
    · exact if_neg h.1
    · rfl
theorem bindL_at (kindOf : Str → Option NameKind) : ∀ (b : List (Str × Value)) (m : Str → Option Value) (x : Str) (v : Value), (b.map (·.1)).Nodup → (x, v) ∈ b → kindOf x = some .local → bindL kindOf b m x = some v
  | [], m, x, _, _, h, _ => by simp at h
  | (n, u) :: r, m, x, v, hn, h, hk => by
    obtain ⟨n1, n2⟩ := List.nodup_cons.mp (show (n :: r.map (·.1)).Nodup from hn)
    unfold bindL
    rcases List.mem_cons.mp h with e | h
    · cases e
      rw [bindL_keep kindOf r _ _ n1, if_pos hk, if_pos rfl]
    · exact bindL_at kindOf r _ x v n2 h hk
theorem bindC_keep (kindOf : Str → Option NameKind) : ∀ (b : List (Str × Value)) (m : Str → Option Value) (x : Str), x ∉ b.map (·.1) → bindC kindOf b m x = m x
  | [], m, x, _ => rfl
  | (n, v) :: r, m, x, h => by
    simp at h
    unfold bindC
    rw [bindC_keep kindOf r _ x (by simpa using h.2)]
    split
    · rfl
    · exact if_neg h.1
theorem bindC_at (kindOf : Str → Option NameKind) : ∀ (b : List (Str × Value)) (m : Str → Option Value) (x : Str) (v : Value), (b.map (·.1)).Nodup → (x, v) ∈ b → kindOf x ≠ some .local → bindC kindOf b m x = some v
  | [], m, x, _, _, h, _ => by simp at h
  | (n, u) :: r, m, x, v, hn, h, hk => by
    obtain ⟨n1, n2⟩ := List.nodup_cons.mp (show (n :: r.map (·.1)).Nodup from hn)
    unfold bindC
    rcases List.mem_cons.mp h with e | h
    · cases e
      rw [bindC_keep kindOf r _ _ n1, if_neg hk, if_pos rfl]
    · exact bindC_at kindOf r _ x v n2 h hk
end
end Mine.L1

namespace Mine.L1
section
open PySem PySem.W PyProof.Rows
set_option maxRecDepth 10000
set_option autoImplicit false

/-- a plain scope of a def -/
structure DefSc (sl : List Str) (np : Nat) (sc : Scope) : Prop where
  kind : sc.kind = .function
  co : sc.isCoroutine = false
  gen : sc.isGenerator = false
  noFree : ∀ y ∈ sc.names, y.2 ≠ .free
  nodup : sl.Nodup
  npl : np ≤ sl.length
  params : ∀ (i : Nat) x, i < np → sl[i]? = some x → sc.names.lookup x = some .local ∨ sc.names.lookup x = some .cell

section
variable {prog : Program} {w : World} {ca : Nat → Addr} {h₀ : Heap} {L₀ : Addr}
variable {sl : List Str} {sc : Scope} {k : Nat}

theorem R_base {ι : List Addr} {H : St} {h : Heap} (R : Rel prog w ca h₀ L₀ ι H h) : ∀ b o, h₀.get? b = some o → h.get? b = some o := R.base

/-- what a def does, as code -/
noncomputable def FCk (prog : Program) (w : World) (ca : Nat → Addr) (h₀ : Heap) (L₀ : Addr) (f : Addr) (k : Nat) (F : List V → St → Option (V × St)) : Prop :=
  ∀ (A : Around) (ι : List Addr) (H : St) (s : Shared) (vs : List V) (xs : List Value) (v : V) (H' : St), Room k A → Rel prog w ca h₀ L₀ ι H s.heap → VRs ι s.heap vs xs → F vs H = some (v, H') →
    ∀ (R : Result → Shared → Prop), (∀ x ι' s', Go L₀ No ι ι' s s' → Rel prog w ca h₀ L₀ ι' H' s'.heap → VR ι' s'.heap v x → R (.ok (.ret x)) s') → codeAny (model prog w) A (.call (.ref f) ⟨xs, []⟩) R s
theorem FCk.ok {f : Addr} {F : List V → St → Option (V × St)} (h : FCk prog w ca h₀ L₀ f k F) : FOk prog w ca h₀ L₀ f k F :=
  fun A ι H s vs xs v H' hr hR hV hd _ _ hQ => wpAny_call (h A ι H s vs xs v H' hr hR hV hd _ fun x ι' s' g R V => hQ x ι' s' g R V)
theorem FCk.le {f : Addr} {j : Nat} {F} (h : FCk prog w ca h₀ L₀ f j F) (hj : j ≤ k) : FCk prog w ca h₀ L₀ f k F :=
  fun A ι H s vs xs v H' hr => h A ι H s vs xs v H' (hr.le hj)

theorem FCk.def {f : Addr} {o : Obj} {fd : FuncData} {body : List Stmt} {sl : List Str} {np : Nat} {dv : List V} {ds : List Value} {arr : Option (Array Value)} {d : Mx} {st : S}
    (ho : h₀.get? f = some o) (hdata : o.data = .func fd) (hlim : h₀.NoLimit) (hcd : h₀.CodeRec fd.code fd.qualname) (hbody : fd.body = .stmts body) (hclo : fd.closure = []) (hglob : fd.globals = mainGlobals) (hbi : fd.builtins = builtinsNs)
    (hsc : DefSc sl np fd.scope) (hp : PlainPs fd.params (sl.take np))
    (hds : (arr.getD #[]).toList = ds) (hdv : ∀ ι h, VRs ι h dv ds) (hd1 : ds.length ≤ 1) (hd2 : ds.length ≤ np)
    (hseq : ∀ (s : Shared), (∀ b o, h₀.get? b = some o → s.heap.get? b = some o) → ∀ (M : Model) (A : Around) (E : Value → Shared → Prop) (Q : Option (Array Value) → Shared → Prop), Q arr s → wpAny M A (seqItems? fd.defaults) Q E s)
    (hb : SsOk prog w ca h₀ L₀ sl fd.scope k body d) :
    FCk prog w ca h₀ L₀ f (k + 1) (fun args H => (frameOf (sl.length, dv, st, np) args).bind fun ρ => (d ρ H).map fun q => (q.1.val, q.2.2)) := by
  intro A ι H s vs xs v H' hr hR hV hd R hQ
  obtain ⟨ρ, e0, hd⟩ := bind_inv hd
  obtain ⟨hlen, e⟩ := need_inv e0
  have hlen : vs.length ≤ np ∧ np ≤ vs.length + dv.length := of_decide_eq_true hlen
  cases e
  · obtain ⟨⟨fl, ρ', H2⟩, e1, e2⟩ := map_inv hd
    replace e1 : d ((vs ++ dv.drop (vs.length + dv.length - np)).map some ++ List.replicate (sl.length - np) Option.none) H = some (fl, ρ', H2) := e1
    have hVl := hV.length
    have hdl := (hdv [] h₀).length
    have hnpl : (sl.take np).length = np := by have := hsc.npl; simp; lia
    have hkp : ∀ b o, h₀.get? b = some o → s.heap.get? b = some o := R_base hR
    -- all the values
    obtain ⟨va, hva⟩ : ∃ va, va = vs ++ dv.drop (vs.length + dv.length - np) := ⟨_, rfl⟩
    obtain ⟨ys, hys⟩ : ∃ ys, ys = xs ++ ds.drop (xs.length + ds.length - (sl.take np).length) := ⟨_, rfl⟩
    have hVa : VRs ι s.heap va ys := by
      rw [hva, hys, hnpl, ← hVl, ← hdl]
      exact hV.append ((hdv ι s.heap).drop _)
    have hvl : va.length = np := by rw [hva]; simp; lia
    rw [← hva] at e1
    have hyl := hVa.length
    have hbind := bind_plain (s := s) hp (hsc.nodup.sublist (List.take_sublist _ _)) hds (xs := xs) (by lia) (by lia) hd1 (by lia) (hseq s hkp)
    rw [← hys] at hbind
    have hbn : ((sl.take np).zip ys).map (·.1) = sl.take np := by rw [List.map_fst_zip]; lia
    have hbmem : ∀ (i : Nat) (x : Str) (u : V), sl[i]? = some x → (va.map some ++ List.replicate (sl.length - np) (Option.none : Option V))[i]? = some (some u) → ∃ y, (x, y) ∈ (sl.take np).zip ys ∧ VR ι s.heap u y := by
      intro i x u h1 h2
      have hi : i < np := by
        rcases Nat.lt_or_ge i np with h | h
        · exact h
        · rw [List.getElem?_append_right (by simp; lia)] at h2
          obtain ⟨_, e⟩ := List.getElem?_eq_some_iff.mp h2
          simp at e
      rw [List.getElem?_append_left (by simp; lia), List.getElem?_map] at h2
      obtain ⟨u', h3, h4⟩ := map_inv h2
      cases h4
      obtain ⟨y, h5, h6⟩ := hVa.get h3
      refine ⟨y, List.mem_iff_getElem?.mpr ⟨i, ?_⟩, h6⟩
      rw [List.getElem?_zip_eq_some]
      exact ⟨by rw [List.getElem?_take_of_lt hi]; exact h1, h5⟩
    refine codeAny_call_function hr.depth (hkp _ _ ho) hdata hsc.co hsc.gen hbody (hcd.keeps hkp) (hbind _ _ _ _ ?_)
    rw [hclo, hglob, hbi]
    refine wpAny_newFunctionEnv_cells hsc.kind (fun x hx => ?_) fun env he s1 x => ?_
    · have hx1 : x.1 ∈ sl.take np := by rw [← hbn]; exact List.mem_map_of_mem hx
      obtain ⟨i, hi⟩ := List.mem_iff_getElem?.mp hx1
      have hlt := (List.getElem?_eq_some_iff.mp hi).1
      rw [hnpl] at hlt
      rw [List.getElem?_take_of_lt hlt] at hi
      rcases hsc.params i _ hlt hi with h | h
      · exact .inl h
      · exact .inr ⟨h, cellsFrom_has _ _ _ _ (.inl (mem_of_lookup' h))⟩
    · subst he
      have hk1 := x.toInCall.keep
      refine ⟨(hlim.keeps hkp).keeps hk1, codeAny_func ?_⟩
      obtain ⟨h1, tk, rfl, _⟩ := x.done
      have g0 : Go L₀ No ι ι s { s with heap := h1, toks := tk } := Go.kept No ι hk1 tk
      have R1 := hR.kept hk1
      obtain ⟨fL1, fL2⟩ := hR.fresh_of (get?_size s.heap)
      have hfresh : ∀ c, s.heap.objs.size < c → s.heap.get? c = Option.none := fun c hc => by
        cases e : s.heap.get? c with
        | none => rfl
        | some o => exact absurd (Heap.lt_size e) (Nat.not_lt.mpr (Nat.le_of_lt hc))
      have E1 : EnvR h₀ L₀ sl (newEnv fd.scope s.heap.objs.size mainGlobals (cellsFrom (s.heap.objs.size + 1) fd.scope.names []) (fd.qualname ++ ".<locals>.") (some f) fd.code Option.none builtinsNs) (va.map some ++ List.replicate (sl.length - np) Option.none) ι h1 := by
        refine ⟨hsc.kind, rfl, rfl, fL1, hR.big, ⟨_, x.toInCall.ns, fun i n u e2 e3 e4 => ?_⟩, fun i n e2 e3 => ?_, fun n n' c e2 e3 => name_of_addr x.apart (PySem.mem_of_lookup e2) (PySem.mem_of_lookup e3), by have := hsc.npl; simp; lia⟩
        · obtain ⟨y, m1, m2⟩ := hbmem i n u e2 e3
          refine ⟨y, bindL_at _ _ _ _ _ (by rw [hbn]; exact hsc.nodup.sublist (List.take_sublist _ _)) m1 e4, m2.mono List.prefix_rfl g0.frz⟩
        · rcases e3 with e3 | e3
          · have hm : (n, NameKind.cell) ∈ fd.scope.names := mem_of_lookup' e3
            obtain ⟨c, hc⟩ := Option.isSome_iff_exists.mp (cellsFrom_has fd.scope.names (s.heap.objs.size + 1) [] n (.inl hm))
            have hab := x.above n c (PySem.mem_of_lookup hc)
            have hab : s.heap.objs.size < c := hab
            obtain ⟨fc1, fc2⟩ := hR.fresh_of (hfresh c hab)
            refine ⟨c, _, hc, fc1, ⟨Nat.le_of_lt (Nat.lt_of_le_of_lt hR.big hab), fc2⟩, x.cell n c hc, fun u hu => ?_⟩
            obtain ⟨y, m1, m2⟩ := hbmem i n u e2 hu
            exact ⟨y, bindC_at _ _ _ _ _ (by rw [hbn]; exact hsc.nodup.sublist (List.take_sublist _ _)) m1 (by rw [e3]; decide), m2.mono List.prefix_rfl g0.frz⟩
          · exact absurd rfl (hsc.noFree _ (mem_of_lookup' e3))
      refine wpAny_mono (hb _ _ _ ι H _ fl ρ' H2 rfl hr.deeper E1 R1 e1 (fun f s' => R (.ok (.ret (match f with | .ret v => v | _ => .none))) s') _ fun f2 ι2 s2 g2 E2 R2 F2 => ?_) (fun _ _ h => h) fun _ _ h => h
      have gg : Go L₀ No ι ι2 s s2 := by
        refine ((g0.own _).trans g2).weaken fun b hb => .inr ?_
        rcases hb with hb | ⟨i, n, hi, hk, hc⟩
        · rw [hb]; exact get?_size _
        · exact hfresh b (x.above n b (PySem.mem_of_lookup hc))
      cases F2 with
      | next => cases e2; exact hQ _ _ _ gg R2 .none
      | ret hv => cases e2; exact hQ _ _ _ gg R2 hv
end
end
end Mine.L1

namespace Mine.L1
section
open PySem PySem.W PyProof.Rows
set_option maxRecDepth 10000
set_option autoImplicit false

section
variable {prog : Program} {w : World} {ca : Nat → Addr} {h₀ : Heap} {L₀ : Addr}
variable {sl : List Str} {sc : Scope} {k : Nat}

inductive PRs (ι : List Addr) (h : Heap) : List (V × V) → List (Value × Value) → Prop
  | nil : PRs ι h [] []
  | cons {a b : V} {x y : Value} {es : List (V × V)} {vs : List (Value × Value)} : VR ι h a x → VR ι h b y → PRs ι h es vs → PRs ι h ((a, b) :: es) ((x, y) :: vs)
theorem PRs.mono {ι ι' : List Addr} {h h' : Heap} (hp : ι <+: ι') (hf : Frz h h') {es vs} (q : PRs ι h es vs) : PRs ι' h' es vs := by
  induction q with
  | nil => exact .nil
  | cons a b _ ih => exact .cons (a.mono hp hf) (b.mono hp hf) ih
theorem PRs.length {ι : List Addr} {h : Heap} {es vs} (q : PRs ι h es vs) : es.length = vs.length := by
  induction q with
  | nil => rfl
  | cons _ _ _ ih => simp [ih]

theorem row_cons_inv {a r : M} {ρ : Rho} {H H' : St} {v : List V} (hd : row (mCons a r) ρ H = some (v, H')) : ∃ x y, a ρ H = some x ∧ row r ρ x.2 = some (y, H') ∧ v = x.1 :: y := by
  obtain ⟨z, q1, q2⟩ := bind_inv hd
  obtain ⟨x, q3, q4⟩ := bind_inv q1
  obtain ⟨y, q5, rfl⟩ := map_inv q4
  cases q2
  exact ⟨x, _, q3, q5, rfl⟩

/-- pairs of a dict's display -/
noncomputable def EpOk (prog : Program) (w : World) (ca : Nat → Addr) (h₀ : Heap) (L₀ : Addr) (sl : List Str) (sc : Scope) (k : Nat) (keys : List (Option Expr)) (values : List Expr) (d : Rho → St → Option (List V × St)) : Prop :=
  ∀ (A : Around) (env : Env) (ρ : Rho) (ι : List Addr) (H : St) (s : Shared) (fl : List V) (es : List (V × V)) (H' : St) (pos : Pos), env.scope = sc → Room k A → EnvR h₀ L₀ sl env ρ ι s.heap → Rel prog w ca h₀ L₀ ι H s.heap → d ρ H = some (fl, H') → pairUp fl = some es →
    ∀ (Q : List (Value × Value) → Shared → Prop) (E : Value → Shared → Prop), (∀ vs ι' s', Go L₀ No ι ι' s s' → Rel prog w ca h₀ L₀ ι' H' s'.heap → PRs ι' s'.heap es vs → Q vs s') → wpAny (model prog w) A (evalPairs (pairTrees keys values env pos)) Q E s
theorem EpOk.nil : EpOk prog w ca h₀ L₀ sl sc k [] [] (row (mVal (.tup []))) := by
  intro A env ρ ι H s fl es H' pos hsc hr he hR hd hp Q E hQ
  cases hd
  cases hp
  exact evalPairs_nil (hQ _ _ _ (Go.refl _ _ _) hR .nil)
theorem EpOk.cons {a b : Expr} {keys : List (Option Expr)} {values : List Expr} {da db ds : M} (ha : EOk prog w ca h₀ L₀ sl sc k a da) (hb : EOk prog w ca h₀ L₀ sl sc k b db) (hs : EpOk prog w ca h₀ L₀ sl sc k keys values (row ds)) :
    EpOk prog w ca h₀ L₀ sl sc k (some a :: keys) (b :: values) (row (mCons da (mCons db ds))) := by
  intro A env ρ ι H s fl es H' pos hsc hr he hR hd hp Q E hQ
  obtain ⟨⟨u, H1⟩, y1, e1, q, e0⟩ := row_cons_inv hd
  obtain ⟨⟨v, H2⟩, y2, e2, e3, e0'⟩ := row_cons_inv q
  subst e0'
  subst e0
  obtain ⟨es', hp', rfl⟩ := map_inv (show (pairUp y2).map _ = some es from hp)
  refine evalPairs_cons (ha A env ρ ι H s u H1 hsc hr he hR e1 _ _ fun x ι1 s1 g1 R1 V1 => wpAny_bind (hb A env ρ ι1 H1 s1 v H2 hsc hr (he.mono g1) R1 e2 _ _ fun y ι2 s2 g2 R2 V2 => wpAny_bind (wpAny_standAt (wpAny_pure ?_))))
  exact hs A env ρ ι2 H2 s2 y2 es' H' pos hsc hr (he.mono (g1.trans g2)) R2 e3 hp' _ _ fun vs ι3 s3 g3 R3 V3 => hQ _ _ _ (g1.trans (g2.trans g3)) R3 (.cons (V1.mono (g2.trans g3).pre (g2.trans g3).frz) (V2.mono g3.pre g3.frz) V3)

theorem Rel.but' {ι : List Addr} {H : St} {h h' : Heap} {C : Addr} (R : Rel prog w ca h₀ L₀ ι H h) (hC : C ∉ ι) (hC0 : C ≠ L₀) (hCa : h₀.objs.size ≤ C) {o : Obj} (ho : h.get? C = some o) (hf : frozen o = false) (hs : Heap.SameBut C h h') : Rel prog w ca h₀ L₀ ι H h' := by
  refine R.mono (fun b o e hb => (hs.2 b (fun h => ?_)).trans e) (fun a ha o e => (hs.2 a (fun h => hC (h ▸ ha))).trans e) (fun b o e hf' => (hs.2 b (fun h => ?_)).trans e) ?_
  · subst h; exact absurd (Heap.lt_size hb) (Nat.not_lt.mpr hCa)
  · subst h; rw [ho] at e; cases e; rw [hf] at hf'; cases hf'
  · obtain ⟨m0, n0⟩ := R.ns0
    exact ⟨m0, n0.sameBut hs hC0.symm⟩

theorem dict_lookups {K : Type} [DecidableEq K] {ι : List Addr} {h : Heap} : ∀ {ks : List (K × V)} {kvs : List (K × Value)}, ks.length = kvs.length → (∀ (i : Nat) a b, ks[i]? = some a → kvs[i]? = some b → a.1 = b.1 ∧ VR ι h a.2 b.2) → ∀ {acc : List (K × V)} {acck : List (K × Value)}, (∀ key, OV ι h (acc.lookup key) (valueAt acck key)) →
    ∀ key, OV ι h ((ks.reverse ++ acc).lookup key) (valueAt (merged acck kvs) key)
  | [], [], _, _, acc, acck, ha, key => ha key
  | [], _ :: _, hl, _, _, _, _, _ => by simp at hl
  | _ :: _, [], hl, _, _, _, _, _ => by simp at hl
  | (k, v) :: ks, (k', x) :: kvs, hl, hr, acc, acck, ha, key => by
    have h0 := hr 0 (k, v) (k', x) rfl rfl
    obtain ⟨e1, e2⟩ := h0
    have e1 : k = k' := e1
    subst e1
    rw [List.reverse_cons, List.append_assoc]
    show OV ι h _ (valueAt (merged (stored acck k x) kvs) key)
    refine dict_lookups (by simpa using hl) (fun i a b ea eb => hr (i + 1) a b ea eb) (fun q => ?_) key
    rw [valueAt_stored]
    show OV ι h (List.lookup q ((k, v) :: acc)) _
    rw [lookup_cons_eq]
    split
    · exact e2
    · exact ha q

theorem merged_len {K : Type} [DecidableEq K] : ∀ (kvs acc : List (K × Value)), (merged acc kvs).length ≤ acc.length + kvs.length
  | [], acc => by simp [merged]
  | (k, v) :: r, acc => by
    have := merged_len r (stored acc k v)
    have h2 := stored_length_le acc k v
    show (merged (stored acc k v) r).length ≤ _
    simp; lia

theorem dict_carries {K : Type} [DecidableEq K] {knd : PySem.KeyKind prog w K} {keyOf : V → Option K} {ι : List Addr} {h : Heap} (hkey : ∀ a x k, VR ι h a x → keyOf a = some k → knd.is k x = true) :
    ∀ {es : List (V × V)} {vs : List (Value × Value)} {ks : List (K × V)}, PRs ι h es vs → keyed keyOf es = some ks →
      ∃ kvs, PySem.Carries knd vs kvs ∧ ks.length = kvs.length ∧ ks.length = es.length ∧ ∀ (i : Nat) a b, ks[i]? = some a → kvs[i]? = some b → a.1 = b.1 ∧ VR ι h a.2 b.2 := by
  intro es
  induction es with
  | nil =>
    intro vs ks hp hm
    cases hp
    cases hm
    exact ⟨[], trivial, rfl, rfl, fun i a b ea _ => by simp at ea⟩
  | cons e es ih =>
    intro vs ks hp hm
    cases hp with
    | cons p q r =>
      rename_i a b x y vs'
      obtain ⟨z, h1, hm⟩ := bind_inv hm
      obtain ⟨zs, h2, hm⟩ := map_inv hm
      cases hm
      obtain ⟨k, h3, h4⟩ := map_inv h1
      subst h4
      obtain ⟨kvs, c1, c2, c3, c4⟩ := ih r h2
      refine ⟨(k, y) :: kvs, ⟨hkey _ _ _ p h3, rfl, c1⟩, by simp [c2], by simp [c3], fun i a' b' ea eb => ?_⟩
      cases i with
      | zero => simp at ea eb; subst ea eb; exact ⟨rfl, q⟩
      | succ i => simp at ea eb; exact c4 i a' b' ea eb

theorem EOk.dict_of {K : Type} [DecidableEq K] {knd : PySem.KeyKind prog w K} {keyOf : V → Option K} {mkO : List (K × V) → O} (hkey : ∀ ι h a x k, VR ι h a x → keyOf a = some k → knd.is k x = true)
    (hO : ∀ (ι : List Addr) (h : Heap) (a : Addr) (es : List (K × V)), (∃ kvs, h.DictOf knd a kvs ∧ (∀ k, OV ι h (es.lookup k) (valueAt kvs k)) ∧ kvs.length ≤ es.length ∧ es.length ≤ maxLen) → OR prog w ca ι h a (mkO es))
    {keys : List (Option Expr)} {values : List Expr} {pos : Pos} {d : M} (hd : EpOk prog w ca h₀ L₀ sl sc k keys values (row d)) (h1 : keys.all (·.isSome) = true) (h2 : keys.length = values.length) (h3 : keys ≠ []) (h4 : keys.length ≤ 15) :
    EOk prog w ca h₀ L₀ sl sc k (.Dict keys values pos) (fun ρ H => (row d ρ H).bind fun x => (pairUp x.1).bind fun es => need (decide (es.length ≤ 15)) ((keyed keyOf es).map fun es => mk (mkO es.reverse) x.2)) := by
  intro A env ρ ι H s v H' hsc hr he hR hdd Q E hQ
  obtain ⟨⟨fl, H1⟩, e1, hdd⟩ := bind_inv hdd
  obtain ⟨es, ep, hdd⟩ := bind_inv hdd
  obtain ⟨hle, hdd⟩ := need_inv hdd
  have hle := of_decide_eq_true hle
  · obtain ⟨ks, e2, e3⟩ := map_inv hdd
    cases e3
    refine wpAny_Dict_any h1 h2 h3 h4 ?_
    have g0 := Go.push (L₀ := L₀) No ι s ({ cls := .type "dict", data := .dict #[] } : Obj)
    have R0 := hR.push ({ cls := .type "dict", data := .dict #[] } : Obj)
    obtain ⟨f1, f2⟩ := hR.fresh_of (get?_size s.heap)
    have hD0 : (s.heap.push ({ cls := .type "dict", data := .dict #[] } : Obj)).get? s.heap.objs.size = some _ := Heap.get?_push_size _ rfl
    refine hd A env ρ ι H { s with heap := s.heap.push ({ cls := .type "dict", data := .dict #[] } : Obj) } fl es _ pos hsc hr (he.mono g0) R0 e1 ep _ _ fun vs ι1 s1 g1 R1 V1 => ?_
    obtain ⟨kvs, c1, c2, c3, c4⟩ := dict_carries (knd := knd) (hkey ι1 s1.heap) V1 e2
    have hD1 := g1.ext _ _ hD0 f1 (fun h => h) f2
    have hm1 : s1.heap.DictOf knd s.heap.objs.size [] := DictOf_at (Heap.DictOf.new s.heap) fun o e => by rw [hD0] at e; cases e; exact hD1
    refine wpAny_storeAll vs kvs [] s1 _ c1 hm1 (by rw [sizeLine_eq]; simp; lia) fun h' hm' hs' => ?_
    have g01 := g0.trans g1
    have g02 := (g01.letgo (get?_size s.heap) f2 hs').toks (s1.toks + vs.length)
    have f1' := g1.notin hD0 f1
    have R2 := R1.but' f1' f2 hR.big hD1 rfl hs'
    have frz : Frz s1.heap h' := fun b o e hf => (hs'.2 b (by rintro rfl; rw [hD1] at e; cases e; cases hf)).trans e
    have hlk := dict_lookups (ι := ι1) (h := s1.heap) c2 c4 (acc := []) (acck := []) (fun _ => trivial)
    have R3 := R2.track (h := h') (a := s.heap.objs.size) (o := mkO ks.reverse) f1' f2 hR.big (hO _ _ _ _ ⟨merged [] kvs, hm', fun q => by
      have := hlk q
      rw [List.append_nil] at this
      exact this.mono (List.prefix_append _ _) frz, by have := merged_len kvs []; simp at this ⊢; lia, by rw [maxLen_eq]; simp; lia⟩)
    refine hQ _ (ι1 ++ [s.heap.objs.size]) _ ⟨g02.pre.trans (List.prefix_append _ _), fun b h => (List.mem_append.mp h).elim (g02.new b) fun h => by rw [List.mem_singleton.mp h]; exact .inr (get?_size _), g02.ext, g02.ns0, g02.live, g02.frz, g02.gens, g02.os⟩ R3 (.ref _ _ ?_)
    rw [← R1.len, List.getElem?_append_right (Nat.le_refl _)]; simp

theorem EOk.dict_i {keys : List (Option Expr)} {values : List Expr} {pos : Pos} {d : M} (hd : EpOk prog w ca h₀ L₀ sl sc k keys values (row d)) (h1 : keys.all (·.isSome) = true) (h2 : keys.length = values.length) (h3 : keys ≠ []) (h4 : keys.length ≤ 15) :
    EOk prog w ca h₀ L₀ sl sc k (.Dict keys values pos) (mDict .i d) :=
  EOk.dict_of (knd := intKind prog w) (keyOf := asI) (mkO := O.idict) (fun ι h a x k q e => by
    obtain rfl := asI_inv e
    obtain ⟨t, rfl⟩ := q.int_inv
    simp [intKind, Value.isInt]) (fun _ _ _ _ h => h) hd h1 h2 h3 h4
theorem EOk.dict_s {keys : List (Option Expr)} {values : List Expr} {pos : Pos} {d : M} (hd : EpOk prog w ca h₀ L₀ sl sc k keys values (row d)) (h1 : keys.all (·.isSome) = true) (h2 : keys.length = values.length) (h3 : keys ≠ []) (h4 : keys.length ≤ 15) :
    EOk prog w ca h₀ L₀ sl sc k (.Dict keys values pos) (mDict .s d) :=
  EOk.dict_of (knd := PySem.strKind prog w) (keyOf := asS) (mkO := O.sdict) (fun ι h a x k q e => by
    obtain rfl := asS_inv e
    obtain ⟨t, rfl⟩ := q.str_inv
    simp [PySem.strKind, Value.isStrOf]) (fun _ _ _ _ h => h) hd h1 h2 h3 h4

theorem EOk.dict_0 {pos : Pos} {kd : DK} (hk : kd ≠ .s) : EOk prog w ca h₀ L₀ sl sc k (.Dict [] [] pos) (mDict kd (mVal (.tup []))) := by
  intro A env ρ ι H s v H' hsc hr he hR hd Q E hQ
  refine wpAny_Dict_empty ?_
  have fin : ∀ (o : O), OR prog w ca (ι ++ [s.heap.objs.size]) (s.heap.push { cls := .type "dict", data := .dict #[] }) s.heap.objs.size o → mk o H = (v, H') → Q (.ref s.heap.objs.size) { s with heap := s.heap.push { cls := .type "dict", data := .dict #[] } } := by
    intro o ho e
    cases e
    refine hQ _ _ _ (Go.alloc _ _ _ _) (hR.alloc ho) (.ref _ _ ?_)
    rw [← hR.len, List.getElem?_append_right (Nat.le_refl _)]; simp
  cases kd with
  | i =>
    cases hd
    exact fin (.idict []) ⟨[], Heap.DictOf.new s.heap, fun _ => trivial, Nat.le_refl _, Nat.zero_le _⟩ rfl
  | s => exact absurd rfl hk
  | t =>
    cases hd
    exact fin (.tdict []) ⟨[], Heap.DictOfH.new s.heap, fun _ => trivial, Nat.le_refl _, Nat.zero_le _⟩ rfl
end
end
end Mine.L1

namespace Mine.L1
section
open PySem PySem.W PyProof.Rows
set_option maxRecDepth 10000
set_option autoImplicit false

section
variable {prog : Program} {w : World} {ca : Nat → Addr} {h₀ : Heap} {L₀ : Addr}
variable {sl : List Str} {sc : Scope} {k : Nat} {K : Frag}

theorem Room.made {A : Around} (h : Room (k + 1) A) (C : Addr) (xs : List Value) : Room k (A.under (.builtin "type.__call__" ⟨.ref C :: xs, []⟩)) :=
  ⟨h.1, by have := h.2.1; show A.depth + 1 + _ + _ < _; lia, by have := h.2.2; show A.units + 1 + _ + _ < _; lia⟩

/-- two new objects -/
theorem Rel.track2 {ι : List Addr} {H : St} {h' : Heap} {a b : Addr} (R : Rel prog w ca h₀ L₀ ι H h') (ha : a ∉ ι) (hb : b ∉ ι) (hab : a ≠ b) (ha0 : a ≠ L₀) (hb0 : b ≠ L₀) (hsa : h₀.objs.size ≤ a) (hsb : h₀.objs.size ≤ b) {o p : O}
    (ho : OR prog w ca (ι ++ [a, b]) h' a o) (hp : OR prog w ca (ι ++ [a, b]) h' b p) : Rel prog w ca h₀ L₀ (ι ++ [a, b]) (H ++ [o, p]) h' where
  len := by simp [R.len]
  nodup := by
    refine List.nodup_append.mpr ⟨R.nodup, by simp [hab], fun x hx y hy => ?_⟩
    rintro rfl
    rcases List.mem_cons.mp hy with rfl | hy
    · exact ha hx
    · rw [List.mem_singleton.mp hy] at hx; exact hb hx
  base := R.base
  fresh := fun x hx => (List.mem_append.mp hx).elim (R.fresh x) fun h => by
    rcases List.mem_cons.mp h with rfl | h
    · exact hsa
    · rw [List.mem_singleton.mp h]; exact hsb
  sys := R.sys
  ns0 := R.ns0
  apart0 := fun h => (List.mem_append.mp h).elim R.apart0 fun h => by
    rcases List.mem_cons.mp h with h | h
    · exact ha0 h.symm
    · exact hb0 (List.mem_singleton.mp h).symm
  above0 := R.above0
  obj := fun n x o' h1 h2 => by
    have hl := R.len
    rcases Nat.lt_or_ge n ι.length with hn | hn
    · rw [List.getElem?_append_left hn] at h1
      rw [List.getElem?_append_left (by lia)] at h2
      exact (R.obj n x o' h1 h2).mono (List.prefix_append _ _) (Frz.refl _) fun _ e => e
    · rw [List.getElem?_append_right hn] at h1
      rw [List.getElem?_append_right (by lia)] at h2
      rw [hl] at h1
      match hm : n - H.length, h1, h2 with
      | 0, h1, h2 => simp at h1 h2; subst h1 h2; exact ho
      | 1, h1, h2 => simp at h1 h2; subst h1 h2; exact hp
      | m + 2, h1, h2 => simp at h1

theorem EOk.new {P : Prg} {cf : Nat → List V → St → Option (V × St)} {x : Str} {p pos : Pos} {es : List Expr} {ds : M} {c f : Nat} {fI : Addr} (hK : K.In h₀) (hg : GName h₀ x (.ref (ca c))) (hf : Kept prog w h₀ (.ref (ca c))) (hk : sc.names.lookup x = some .globalImplicit) (hd' : (x == ("__debug__" : Str)) = false)
    (hes : EsOk prog w ca h₀ L₀ sl sc (k + 1) es (row ds)) (hst : NoStar es) (hc : c ≤ 1) (hm : makesIn K (ca c) = true) (hi : findIn K (.ref (ca c)) "__init__" = some (some (.ref fI))) (hfn : typeIn K (.ref fI) = some (.type "function")) (hpi : P.init c = some f) (hF : FCk prog w ca h₀ L₀ fI k (cf f)) :
    EOk prog w ca h₀ L₀ sl sc (k + 1) (.Call (.Name x p) es [] pos) (mNew P cf c ds) := by
  refine EOk.call_of (F := fun vs H => newR P cf c (vs, H)) hg hf hk hd' hes hst ?_
  intro vs xs H ι s A hV v H' hd hr hR Q E hQ
  obtain ⟨f', e0, hd⟩ := bind_inv hd
  rw [hpi] at e0
  obtain rfl := Option.some.inj e0
  obtain ⟨⟨u, H1⟩, e1, hd⟩ := bind_inv hd
  obtain ⟨hu, e⟩ := need_inv hd
  obtain rfl : u = .none := by cases u <;> first | rfl | cases hu
  cases e
  · refine wpAny_call ?_
    obtain ⟨hh, g, d, t, os⟩ := s
    have X : K.In hh := hK.keeps hR.base
    refine make_core (makes_of X hm) (looks_findIn X hi) (fun self => bind_fn X self hfn) (.inl rfl) ?_
    have hR1 : Rel prog w ca h₀ L₀ ι H (hh.push emptyDict) := hR.push emptyDict
    have hR2 : Rel prog w ca h₀ L₀ ι H ((hh.push emptyDict).push (instObj (ca c) hh.objs.size)) := hR1.push _
    obtain ⟨fD1, fD2⟩ := hR.fresh_of (get?_size hh)
    obtain ⟨fX1, fX2⟩ := hR1.fresh_of (get?_size (hh.push emptyDict))
    rw [push_size] at fX1 fX2
    have hbig := hR.big
    have hD : ((hh.push emptyDict).push (instObj (ca c) hh.objs.size)).get? hh.objs.size = some emptyDict := Heap.get?_push_of_some _ (Heap.get?_push_size _ rfl)
    have hX : ((hh.push emptyDict).push (instObj (ca c) hh.objs.size)).get? (hh.objs.size + 1) = some (instObj (ca c) hh.objs.size) := by
      rw [← push_size hh emptyDict]; exact Heap.get?_push_size _ rfl
    have hlen := hR.len
    -- both objects at once
    have R3 : Rel prog w ca h₀ L₀ (ι ++ [hh.objs.size + 1, hh.objs.size]) (H ++ [.inst c (H.length + 1), .ns []]) ((hh.push emptyDict).push (instObj (ca c) hh.objs.size)) := by
      refine hR2.track2 fX1 fD1 (Nat.ne_of_gt (Nat.lt_succ_self _)) fX2 fD2 (Nat.le_succ_of_le hbig) hbig ⟨hh.objs.size, ?_, hX, hc⟩ ⟨[], 0, ?_, .nil, by simp, by simp⟩
      · rw [List.getElem?_append_right (by lia)]
        rw [hlen, show H.length + 1 - H.length = 1 by lia]; rfl
      · exact hD
    have g0 : Go L₀ No ι (ι ++ [hh.objs.size + 1, hh.objs.size]) ⟨hh, g, d, t, os⟩ ⟨(hh.push emptyDict).push (instObj (ca c) hh.objs.size), g, d, t, os⟩ := by
      have k1 : ∀ b o, hh.get? b = some o → ((hh.push emptyDict).push (instObj (ca c) hh.objs.size)).get? b = some o := fun b o e => Heap.get?_push_of_some _ (Heap.get?_push_of_some _ e)
      have g := Go.kept (L₀ := L₀) No ι (s := (⟨hh, g, d, t, os⟩ : Shared)) k1 t
      exact ⟨List.prefix_append _ _, fun b hb => (List.mem_append.mp hb).imp id fun hb => by
        rcases List.mem_cons.mp hb with rfl | hb
        · show hh.get? _ = Option.none
          cases e : hh.get? (hh.objs.size + 1) with
          | none => rfl
          | some o => exact absurd (Heap.lt_size e) (Nat.not_lt.mpr (Nat.le_succ _))
        · rw [List.mem_singleton.mp hb]; exact get?_size _, g.ext, g.ns0, g.live, g.frz, g.gens, g.os⟩
    have hidx : (ι ++ [hh.objs.size + 1, hh.objs.size])[H.length]? = some (hh.objs.size + 1) := by
      rw [List.getElem?_append_right (by lia), hlen, Nat.sub_self]; rfl
    refine hF _ _ _ _ (.ref H.length :: vs) (.ref (hh.objs.size + 1) :: xs) .none _ (hr.made _ _) R3 (.cons (.ref _ _ ?_) (hV.mono g0.pre g0.frz)) e1 _ fun x ι1 s1 g1 R1 V1 => ?_
    · exact hidx
    · obtain rfl := V1.none_inv
      exact ⟨rfl, hQ _ ι1 s1 (g0.trans g1) R1 (.ref _ _ (g1.at hidx))⟩
end
end
end Mine.L1

namespace Mine.L1
section
open PySem PySem.W PyProof.Rows
set_option maxRecDepth 10000
set_option autoImplicit false

/-! a check that a concrete text is the one that the small syntax speaks of -/
structure Tab where
  fn : Nat → Option Str
  cls : Nat → Option Str

noncomputable def biName : BI → Str
  | .len => "len" | .range => "range" | .min => "min" | .max => "max" | .list => "list" | .sum => "sum" | .int => "int" | .tuple => "tuple" | .sorted => "sorted"

noncomputable def isLoc (sc : Scope) (x : Str) : Bool := decide (sc.names.lookup x = some .local)
noncomputable def isBound (sc : Scope) (x : Str) : Bool := decide (sc.names.lookup x = some .local) || decide (sc.names.lookup x = some .cell)
noncomputable def isSeen (sc : Scope) (x : Str) : Bool := isBound sc x || decide (sc.names.lookup x = some .free)
noncomputable def isGlob (sc : Scope) (x : Str) : Bool := decide (sc.names.lookup x = some .globalImplicit)
noncomputable def okName (x : Str) : Bool := !(x == ("__debug__" : Str)) && !(x == ("__classdict__" : Str))

noncomputable def okB {α : Type} (o : Option α) (f : α → Bool) : Bool := match o with
  | some a => f a
  | Option.none => false
theorem okB_inv {α : Type} {o : Option α} {f : α → Bool} (h : okB o f = true) : ∃ a, o = some a ∧ f a = true := by
  cases o with
  | none => cases h
  | some a => exact ⟨a, rfl, h⟩
theorem or_inv {a b : Bool} (h : (a || b) = true) : a = true ∨ b = true := by cases a <;> first | exact .inr h | exact .inl rfl
theorem not_inv {a : Bool} (h : (!a) = true) : a = false := by cases a <;> first | rfl | cases h

/-! the parts of a text -/
noncomputable def VW {σ α β : Type} (f : α → β → σ) (e : σ) : Type := Option {x : α × β // e = f x.1 x.2}
noncomputable def VW.no {σ α β : Type} (f : α → β → σ) (e : σ) : VW f e := Option.none
noncomputable def VW.yes {σ α β : Type} (f : α → β → σ) (a : α) (b : β) : VW f (f a b) := some ⟨(a, b), rfl⟩
noncomputable def VW.get {σ α β : Type} {f : α → β → σ} {e : σ} (o : VW f e) : Option α := o.elim Option.none fun x => some x.1.1
/-- the hidden part -/
noncomputable def VW.hid {σ α β : Type} {f : α → β → σ} {e : σ} {o : VW f e} {x : α} (h : o.get = some x) : {b : β // e = f x b} := match o, h with
  | some ⟨(_, b), h'⟩, h => ⟨b, Option.some.inj h ▸ h'⟩
theorem VW.inv {σ α β : Type} {f : α → β → σ} {e : σ} {o : VW f e} {x : α} (h : o.get = some x) : True ∧ e = f x (VW.hid h).1 := ⟨trivial, (VW.hid h).2⟩
noncomputable def xName (e : Expr) : Option (Str × Pos) := VW.get (f := fun (x : Str × Pos) (_ : Unit) => Expr.Name x.1 x.2) (e := e) (@Expr.casesOn (VW fun (x : Str × Pos) (_ : Unit) => Expr.Name x.1 x.2) e (fun _ _ _ => VW.no _ _) (fun _ _ _ => VW.no _ _) (fun _ _ _ _ => VW.no _ _) (fun _ _ _ => VW.no _ _) (fun _ _ _ _ => VW.no _ _) (fun _ _ _ _ => VW.no _ _) (fun _ _ _ => VW.no _ _) (fun _ _ _ => VW.no _ _) (fun _ _ _ _ => VW.no _ _) (fun _ _ _ _ => VW.no _ _) (fun _ _ _ _ _ => VW.no _ _) (fun _ _ _ _ => VW.no _ _) (fun _ _ => VW.no _ _) (fun _ _ => VW.no _ _) (fun _ _ => VW.no _ _) (fun _ _ _ _ => VW.no _ _) (fun _ _ _ _ => VW.no _ _) (fun _ _ _ _ => VW.no _ _) (fun _ _ => VW.no _ _) (fun _ _ _ => VW.no _ _) (fun _ _ _ => VW.no _ _) (fun _ _ _ => VW.no _ _) (fun _ _ => VW.no _ _) (fun a0 a1 => VW.yes _ (a0, a1) ()) (fun _ _ => VW.no _ _) (fun _ _ _ => VW.no _ _) (fun _ _ _ _ => VW.no _ _))
theorem xName_inv {e : Expr} {x} (h : xName e = some x) : e = Expr.Name x.1 x.2 := (VW.inv h).2
noncomputable def xConst (e : Expr) : Option (Const) := VW.get (f := fun (x : Const) (p : Nat × Pos) => Expr.Constant x p.1 p.2) (e := e) (@Expr.casesOn (VW fun (x : Const) (p : Nat × Pos) => Expr.Constant x p.1 p.2) e (fun _ _ _ => VW.no _ _) (fun _ _ _ => VW.no _ _) (fun _ _ _ _ => VW.no _ _) (fun _ _ _ => VW.no _ _) (fun _ _ _ _ => VW.no _ _) (fun _ _ _ _ => VW.no _ _) (fun _ _ _ => VW.no _ _) (fun _ _ _ => VW.no _ _) (fun _ _ _ _ => VW.no _ _) (fun _ _ _ _ => VW.no _ _) (fun _ _ _ _ _ => VW.no _ _) (fun _ _ _ _ => VW.no _ _) (fun _ _ => VW.no _ _) (fun _ _ => VW.no _ _) (fun _ _ => VW.no _ _) (fun _ _ _ _ => VW.no _ _) (fun _ _ _ _ => VW.no _ _) (fun _ _ _ _ => VW.no _ _) (fun _ _ => VW.no _ _) (fun a0 a1 a2 => VW.yes _ (a0) (a1, a2)) (fun _ _ _ => VW.no _ _) (fun _ _ _ => VW.no _ _) (fun _ _ => VW.no _ _) (fun _ _ => VW.no _ _) (fun _ _ => VW.no _ _) (fun _ _ _ => VW.no _ _) (fun _ _ _ _ => VW.no _ _))
theorem xConst_inv {e : Expr} {x} (h : xConst e = some x) : ∃ n p, e = Expr.Constant x n p := ⟨_, _, (VW.inv h).2⟩
noncomputable def xBin (e : Expr) : Option (Expr × Operator × Expr) := VW.get (f := fun (x : Expr × Operator × Expr) (p : Pos) => Expr.BinOp x.1 x.2.1 x.2.2 p) (e := e) (@Expr.casesOn (VW fun (x : Expr × Operator × Expr) (p : Pos) => Expr.BinOp x.1 x.2.1 x.2.2 p) e (fun _ _ _ => VW.no _ _) (fun _ _ _ => VW.no _ _) (fun a0 a1 a2 a3 => VW.yes _ (a0, a1, a2) (a3)) (fun _ _ _ => VW.no _ _) (fun _ _ _ _ => VW.no _ _) (fun _ _ _ _ => VW.no _ _) (fun _ _ _ => VW.no _ _) (fun _ _ _ => VW.no _ _) (fun _ _ _ _ => VW.no _ _) (fun _ _ _ _ => VW.no _ _) (fun _ _ _ _ _ => VW.no _ _) (fun _ _ _ _ => VW.no _ _) (fun _ _ => VW.no _ _) (fun _ _ => VW.no _ _) (fun _ _ => VW.no _ _) (fun _ _ _ _ => VW.no _ _) (fun _ _ _ _ => VW.no _ _) (fun _ _ _ _ => VW.no _ _) (fun _ _ => VW.no _ _) (fun _ _ _ => VW.no _ _) (fun _ _ _ => VW.no _ _) (fun _ _ _ => VW.no _ _) (fun _ _ => VW.no _ _) (fun _ _ => VW.no _ _) (fun _ _ => VW.no _ _) (fun _ _ _ => VW.no _ _) (fun _ _ _ _ => VW.no _ _))
theorem xBin_inv {e : Expr} {x} (h : xBin e = some x) : ∃ p, e = Expr.BinOp x.1 x.2.1 x.2.2 p := ⟨_, (VW.inv h).2⟩
noncomputable def xUn (e : Expr) : Option (UnaryOp × Expr) := VW.get (f := fun (x : UnaryOp × Expr) (p : Pos) => Expr.UnaryOp x.1 x.2 p) (e := e) (@Expr.casesOn (VW fun (x : UnaryOp × Expr) (p : Pos) => Expr.UnaryOp x.1 x.2 p) e (fun _ _ _ => VW.no _ _) (fun _ _ _ => VW.no _ _) (fun _ _ _ _ => VW.no _ _) (fun a0 a1 a2 => VW.yes _ (a0, a1) (a2)) (fun _ _ _ _ => VW.no _ _) (fun _ _ _ _ => VW.no _ _) (fun _ _ _ => VW.no _ _) (fun _ _ _ => VW.no _ _) (fun _ _ _ _ => VW.no _ _) (fun _ _ _ _ => VW.no _ _) (fun _ _ _ _ _ => VW.no _ _) (fun _ _ _ _ => VW.no _ _) (fun _ _ => VW.no _ _) (fun _ _ => VW.no _ _) (fun _ _ => VW.no _ _) (fun _ _ _ _ => VW.no _ _) (fun _ _ _ _ => VW.no _ _) (fun _ _ _ _ => VW.no _ _) (fun _ _ => VW.no _ _) (fun _ _ _ => VW.no _ _) (fun _ _ _ => VW.no _ _) (fun _ _ _ => VW.no _ _) (fun _ _ => VW.no _ _) (fun _ _ => VW.no _ _) (fun _ _ => VW.no _ _) (fun _ _ _ => VW.no _ _) (fun _ _ _ _ => VW.no _ _))
theorem xUn_inv {e : Expr} {x} (h : xUn e = some x) : ∃ p, e = Expr.UnaryOp x.1 x.2 p := ⟨_, (VW.inv h).2⟩
noncomputable def xCmp (e : Expr) : Option (Expr × List CmpOp × List Expr) := VW.get (f := fun (x : Expr × List CmpOp × List Expr) (p : Pos) => Expr.Compare x.1 x.2.1 x.2.2 p) (e := e) (@Expr.casesOn (VW fun (x : Expr × List CmpOp × List Expr) (p : Pos) => Expr.Compare x.1 x.2.1 x.2.2 p) e (fun _ _ _ => VW.no _ _) (fun _ _ _ => VW.no _ _) (fun _ _ _ _ => VW.no _ _) (fun _ _ _ => VW.no _ _) (fun _ _ _ _ => VW.no _ _) (fun _ _ _ _ => VW.no _ _) (fun _ _ _ => VW.no _ _) (fun _ _ _ => VW.no _ _) (fun _ _ _ _ => VW.no _ _) (fun _ _ _ _ => VW.no _ _) (fun _ _ _ _ _ => VW.no _ _) (fun _ _ _ _ => VW.no _ _) (fun _ _ => VW.no _ _) (fun _ _ => VW.no _ _) (fun _ _ => VW.no _ _) (fun a0 a1 a2 a3 => VW.yes _ (a0, a1, a2) (a3)) (fun _ _ _ _ => VW.no _ _) (fun _ _ _ _ => VW.no _ _) (fun _ _ => VW.no _ _) (fun _ _ _ => VW.no _ _) (fun _ _ _ => VW.no _ _) (fun _ _ _ => VW.no _ _) (fun _ _ => VW.no _ _) (fun _ _ => VW.no _ _) (fun _ _ => VW.no _ _) (fun _ _ _ => VW.no _ _) (fun _ _ _ _ => VW.no _ _))
theorem xCmp_inv {e : Expr} {x} (h : xCmp e = some x) : ∃ p, e = Expr.Compare x.1 x.2.1 x.2.2 p := ⟨_, (VW.inv h).2⟩
noncomputable def xBool (e : Expr) : Option (BoolOp × List Expr) := VW.get (f := fun (x : BoolOp × List Expr) (p : Pos) => Expr.BoolOp x.1 x.2 p) (e := e) (@Expr.casesOn (VW fun (x : BoolOp × List Expr) (p : Pos) => Expr.BoolOp x.1 x.2 p) e (fun a0 a1 a2 => VW.yes _ (a0, a1) (a2)) (fun _ _ _ => VW.no _ _) (fun _ _ _ _ => VW.no _ _) (fun _ _ _ => VW.no _ _) (fun _ _ _ _ => VW.no _ _) (fun _ _ _ _ => VW.no _ _) (fun _ _ _ => VW.no _ _) (fun _ _ _ => VW.no _ _) (fun _ _ _ _ => VW.no _ _) (fun _ _ _ _ => VW.no _ _) (fun _ _ _ _ _ => VW.no _ _) (fun _ _ _ _ => VW.no _ _) (fun _ _ => VW.no _ _) (fun _ _ => VW.no _ _) (fun _ _ => VW.no _ _) (fun _ _ _ _ => VW.no _ _) (fun _ _ _ _ => VW.no _ _) (fun _ _ _ _ => VW.no _ _) (fun _ _ => VW.no _ _) (fun _ _ _ => VW.no _ _) (fun _ _ _ => VW.no _ _) (fun _ _ _ => VW.no _ _) (fun _ _ => VW.no _ _) (fun _ _ => VW.no _ _) (fun _ _ => VW.no _ _) (fun _ _ _ => VW.no _ _) (fun _ _ _ _ => VW.no _ _))
theorem xBool_inv {e : Expr} {x} (h : xBool e = some x) : ∃ p, e = Expr.BoolOp x.1 x.2 p := ⟨_, (VW.inv h).2⟩
noncomputable def xIf (e : Expr) : Option (Expr × Expr × Expr) := VW.get (f := fun (x : Expr × Expr × Expr) (p : Pos) => Expr.IfExp x.1 x.2.1 x.2.2 p) (e := e) (@Expr.casesOn (VW fun (x : Expr × Expr × Expr) (p : Pos) => Expr.IfExp x.1 x.2.1 x.2.2 p) e (fun _ _ _ => VW.no _ _) (fun _ _ _ => VW.no _ _) (fun _ _ _ _ => VW.no _ _) (fun _ _ _ => VW.no _ _) (fun _ _ _ _ => VW.no _ _) (fun a0 a1 a2 a3 => VW.yes _ (a0, a1, a2) (a3)) (fun _ _ _ => VW.no _ _) (fun _ _ _ => VW.no _ _) (fun _ _ _ _ => VW.no _ _) (fun _ _ _ _ => VW.no _ _) (fun _ _ _ _ _ => VW.no _ _) (fun _ _ _ _ => VW.no _ _) (fun _ _ => VW.no _ _) (fun _ _ => VW.no _ _) (fun _ _ => VW.no _ _) (fun _ _ _ _ => VW.no _ _) (fun _ _ _ _ => VW.no _ _) (fun _ _ _ _ => VW.no _ _) (fun _ _ => VW.no _ _) (fun _ _ _ => VW.no _ _) (fun _ _ _ => VW.no _ _) (fun _ _ _ => VW.no _ _) (fun _ _ => VW.no _ _) (fun _ _ => VW.no _ _) (fun _ _ => VW.no _ _) (fun _ _ _ => VW.no _ _) (fun _ _ _ _ => VW.no _ _))
theorem xIf_inv {e : Expr} {x} (h : xIf e = some x) : ∃ p, e = Expr.IfExp x.1 x.2.1 x.2.2 p := ⟨_, (VW.inv h).2⟩
noncomputable def xList (e : Expr) : Option (List Expr) := VW.get (f := fun (x : List Expr) (p : Pos) => Expr.List x p) (e := e) (@Expr.casesOn (VW fun (x : List Expr) (p : Pos) => Expr.List x p) e (fun _ _ _ => VW.no _ _) (fun _ _ _ => VW.no _ _) (fun _ _ _ _ => VW.no _ _) (fun _ _ _ => VW.no _ _) (fun _ _ _ _ => VW.no _ _) (fun _ _ _ _ => VW.no _ _) (fun _ _ _ => VW.no _ _) (fun _ _ _ => VW.no _ _) (fun _ _ _ _ => VW.no _ _) (fun _ _ _ _ => VW.no _ _) (fun _ _ _ _ _ => VW.no _ _) (fun _ _ _ _ => VW.no _ _) (fun _ _ => VW.no _ _) (fun _ _ => VW.no _ _) (fun _ _ => VW.no _ _) (fun _ _ _ _ => VW.no _ _) (fun _ _ _ _ => VW.no _ _) (fun _ _ _ _ => VW.no _ _) (fun _ _ => VW.no _ _) (fun _ _ _ => VW.no _ _) (fun _ _ _ => VW.no _ _) (fun _ _ _ => VW.no _ _) (fun _ _ => VW.no _ _) (fun _ _ => VW.no _ _) (fun a0 a1 => VW.yes _ (a0) (a1)) (fun _ _ _ => VW.no _ _) (fun _ _ _ _ => VW.no _ _))
theorem xList_inv {e : Expr} {x} (h : xList e = some x) : ∃ p, e = Expr.List x p := ⟨_, (VW.inv h).2⟩
noncomputable def xTup (e : Expr) : Option (List Expr) := VW.get (f := fun (x : List Expr) (p : Nat × Pos) => Expr.Tuple x p.1 p.2) (e := e) (@Expr.casesOn (VW fun (x : List Expr) (p : Nat × Pos) => Expr.Tuple x p.1 p.2) e (fun _ _ _ => VW.no _ _) (fun _ _ _ => VW.no _ _) (fun _ _ _ _ => VW.no _ _) (fun _ _ _ => VW.no _ _) (fun _ _ _ _ => VW.no _ _) (fun _ _ _ _ => VW.no _ _) (fun _ _ _ => VW.no _ _) (fun _ _ _ => VW.no _ _) (fun _ _ _ _ => VW.no _ _) (fun _ _ _ _ => VW.no _ _) (fun _ _ _ _ _ => VW.no _ _) (fun _ _ _ _ => VW.no _ _) (fun _ _ => VW.no _ _) (fun _ _ => VW.no _ _) (fun _ _ => VW.no _ _) (fun _ _ _ _ => VW.no _ _) (fun _ _ _ _ => VW.no _ _) (fun _ _ _ _ => VW.no _ _) (fun _ _ => VW.no _ _) (fun _ _ _ => VW.no _ _) (fun _ _ _ => VW.no _ _) (fun _ _ _ => VW.no _ _) (fun _ _ => VW.no _ _) (fun _ _ => VW.no _ _) (fun _ _ => VW.no _ _) (fun a0 a1 a2 => VW.yes _ (a0) (a1, a2)) (fun _ _ _ _ => VW.no _ _))
theorem xTup_inv {e : Expr} {x} (h : xTup e = some x) : ∃ n p, e = Expr.Tuple x n p := ⟨_, _, (VW.inv h).2⟩
noncomputable def xDict (e : Expr) : Option (List (Option Expr) × List Expr) := VW.get (f := fun (x : List (Option Expr) × List Expr) (p : Pos) => Expr.Dict x.1 x.2 p) (e := e) (@Expr.casesOn (VW fun (x : List (Option Expr) × List Expr) (p : Pos) => Expr.Dict x.1 x.2 p) e (fun _ _ _ => VW.no _ _) (fun _ _ _ => VW.no _ _) (fun _ _ _ _ => VW.no _ _) (fun _ _ _ => VW.no _ _) (fun _ _ _ _ => VW.no _ _) (fun _ _ _ _ => VW.no _ _) (fun a0 a1 a2 => VW.yes _ (a0, a1) (a2)) (fun _ _ _ => VW.no _ _) (fun _ _ _ _ => VW.no _ _) (fun _ _ _ _ => VW.no _ _) (fun _ _ _ _ _ => VW.no _ _) (fun _ _ _ _ => VW.no _ _) (fun _ _ => VW.no _ _) (fun _ _ => VW.no _ _) (fun _ _ => VW.no _ _) (fun _ _ _ _ => VW.no _ _) (fun _ _ _ _ => VW.no _ _) (fun _ _ _ _ => VW.no _ _) (fun _ _ => VW.no _ _) (fun _ _ _ => VW.no _ _) (fun _ _ _ => VW.no _ _) (fun _ _ _ => VW.no _ _) (fun _ _ => VW.no _ _) (fun _ _ => VW.no _ _) (fun _ _ => VW.no _ _) (fun _ _ _ => VW.no _ _) (fun _ _ _ _ => VW.no _ _))
theorem xDict_inv {e : Expr} {x} (h : xDict e = some x) : ∃ p, e = Expr.Dict x.1 x.2 p := ⟨_, (VW.inv h).2⟩
noncomputable def xSub (e : Expr) : Option (Expr × Expr) := VW.get (f := fun (x : Expr × Expr) (p : Pos) => Expr.Subscript x.1 x.2 p) (e := e) (@Expr.casesOn (VW fun (x : Expr × Expr) (p : Pos) => Expr.Subscript x.1 x.2 p) e (fun _ _ _ => VW.no _ _) (fun _ _ _ => VW.no _ _) (fun _ _ _ _ => VW.no _ _) (fun _ _ _ => VW.no _ _) (fun _ _ _ _ => VW.no _ _) (fun _ _ _ _ => VW.no _ _) (fun _ _ _ => VW.no _ _) (fun _ _ _ => VW.no _ _) (fun _ _ _ _ => VW.no _ _) (fun _ _ _ _ => VW.no _ _) (fun _ _ _ _ _ => VW.no _ _) (fun _ _ _ _ => VW.no _ _) (fun _ _ => VW.no _ _) (fun _ _ => VW.no _ _) (fun _ _ => VW.no _ _) (fun _ _ _ _ => VW.no _ _) (fun _ _ _ _ => VW.no _ _) (fun _ _ _ _ => VW.no _ _) (fun _ _ => VW.no _ _) (fun _ _ _ => VW.no _ _) (fun _ _ _ => VW.no _ _) (fun a0 a1 a2 => VW.yes _ (a0, a1) (a2)) (fun _ _ => VW.no _ _) (fun _ _ => VW.no _ _) (fun _ _ => VW.no _ _) (fun _ _ _ => VW.no _ _) (fun _ _ _ _ => VW.no _ _))
theorem xSub_inv {e : Expr} {x} (h : xSub e = some x) : ∃ p, e = Expr.Subscript x.1 x.2 p := ⟨_, (VW.inv h).2⟩
noncomputable def xSlice (e : Expr) : Option (Option Expr × Option Expr × Option Expr) := VW.get (f := fun (x : Option Expr × Option Expr × Option Expr) (p : Pos) => Expr.Slice x.1 x.2.1 x.2.2 p) (e := e) (@Expr.casesOn (VW fun (x : Option Expr × Option Expr × Option Expr) (p : Pos) => Expr.Slice x.1 x.2.1 x.2.2 p) e (fun _ _ _ => VW.no _ _) (fun _ _ _ => VW.no _ _) (fun _ _ _ _ => VW.no _ _) (fun _ _ _ => VW.no _ _) (fun _ _ _ _ => VW.no _ _) (fun _ _ _ _ => VW.no _ _) (fun _ _ _ => VW.no _ _) (fun _ _ _ => VW.no _ _) (fun _ _ _ _ => VW.no _ _) (fun _ _ _ _ => VW.no _ _) (fun _ _ _ _ _ => VW.no _ _) (fun _ _ _ _ => VW.no _ _) (fun _ _ => VW.no _ _) (fun _ _ => VW.no _ _) (fun _ _ => VW.no _ _) (fun _ _ _ _ => VW.no _ _) (fun _ _ _ _ => VW.no _ _) (fun _ _ _ _ => VW.no _ _) (fun _ _ => VW.no _ _) (fun _ _ _ => VW.no _ _) (fun _ _ _ => VW.no _ _) (fun _ _ _ => VW.no _ _) (fun _ _ => VW.no _ _) (fun _ _ => VW.no _ _) (fun _ _ => VW.no _ _) (fun _ _ _ => VW.no _ _) (fun a0 a1 a2 a3 => VW.yes _ (a0, a1, a2) (a3)))
theorem xSlice_inv {e : Expr} {x} (h : xSlice e = some x) : ∃ p, e = Expr.Slice x.1 x.2.1 x.2.2 p := ⟨_, (VW.inv h).2⟩
noncomputable def xAttr (e : Expr) : Option (Expr × Str × Pos) := VW.get (f := fun (x : Expr × Str × Pos) (_ : Unit) => Expr.Attribute x.1 x.2.1 x.2.2) (e := e) (@Expr.casesOn (VW fun (x : Expr × Str × Pos) (_ : Unit) => Expr.Attribute x.1 x.2.1 x.2.2) e (fun _ _ _ => VW.no _ _) (fun _ _ _ => VW.no _ _) (fun _ _ _ _ => VW.no _ _) (fun _ _ _ => VW.no _ _) (fun _ _ _ _ => VW.no _ _) (fun _ _ _ _ => VW.no _ _) (fun _ _ _ => VW.no _ _) (fun _ _ _ => VW.no _ _) (fun _ _ _ _ => VW.no _ _) (fun _ _ _ _ => VW.no _ _) (fun _ _ _ _ _ => VW.no _ _) (fun _ _ _ _ => VW.no _ _) (fun _ _ => VW.no _ _) (fun _ _ => VW.no _ _) (fun _ _ => VW.no _ _) (fun _ _ _ _ => VW.no _ _) (fun _ _ _ _ => VW.no _ _) (fun _ _ _ _ => VW.no _ _) (fun _ _ => VW.no _ _) (fun _ _ _ => VW.no _ _) (fun a0 a1 a2 => VW.yes _ (a0, a1, a2) ()) (fun _ _ _ => VW.no _ _) (fun _ _ => VW.no _ _) (fun _ _ => VW.no _ _) (fun _ _ => VW.no _ _) (fun _ _ _ => VW.no _ _) (fun _ _ _ _ => VW.no _ _))
theorem xAttr_inv {e : Expr} {x} (h : xAttr e = some x) : e = Expr.Attribute x.1 x.2.1 x.2.2 := (VW.inv h).2
noncomputable def xCall (e : Expr) : Option (Expr × List Expr × List Keyword × Pos) := VW.get (f := fun (x : Expr × List Expr × List Keyword × Pos) (_ : Unit) => Expr.Call x.1 x.2.1 x.2.2.1 x.2.2.2) (e := e) (@Expr.casesOn (VW fun (x : Expr × List Expr × List Keyword × Pos) (_ : Unit) => Expr.Call x.1 x.2.1 x.2.2.1 x.2.2.2) e (fun _ _ _ => VW.no _ _) (fun _ _ _ => VW.no _ _) (fun _ _ _ _ => VW.no _ _) (fun _ _ _ => VW.no _ _) (fun _ _ _ _ => VW.no _ _) (fun _ _ _ _ => VW.no _ _) (fun _ _ _ => VW.no _ _) (fun _ _ _ => VW.no _ _) (fun _ _ _ _ => VW.no _ _) (fun _ _ _ _ => VW.no _ _) (fun _ _ _ _ _ => VW.no _ _) (fun _ _ _ _ => VW.no _ _) (fun _ _ => VW.no _ _) (fun _ _ => VW.no _ _) (fun _ _ => VW.no _ _) (fun _ _ _ _ => VW.no _ _) (fun a0 a1 a2 a3 => VW.yes _ (a0, a1, a2, a3) ()) (fun _ _ _ _ => VW.no _ _) (fun _ _ => VW.no _ _) (fun _ _ _ => VW.no _ _) (fun _ _ _ => VW.no _ _) (fun _ _ _ => VW.no _ _) (fun _ _ => VW.no _ _) (fun _ _ => VW.no _ _) (fun _ _ => VW.no _ _) (fun _ _ _ => VW.no _ _) (fun _ _ _ _ => VW.no _ _))
theorem xCall_inv {e : Expr} {x} (h : xCall e = some x) : e = Expr.Call x.1 x.2.1 x.2.2.1 x.2.2.2 := (VW.inv h).2
noncomputable def xComp (e : Expr) : Option (Expr × List Comprehension × Scope × Pos) := VW.get (f := fun (x : Expr × List Comprehension × Scope × Pos) (_ : Unit) => Expr.ListComp x.1 x.2.1 x.2.2.1 x.2.2.2) (e := e) (@Expr.casesOn (VW fun (x : Expr × List Comprehension × Scope × Pos) (_ : Unit) => Expr.ListComp x.1 x.2.1 x.2.2.1 x.2.2.2) e (fun _ _ _ => VW.no _ _) (fun _ _ _ => VW.no _ _) (fun _ _ _ _ => VW.no _ _) (fun _ _ _ => VW.no _ _) (fun _ _ _ _ => VW.no _ _) (fun _ _ _ _ => VW.no _ _) (fun _ _ _ => VW.no _ _) (fun _ _ _ => VW.no _ _) (fun a0 a1 a2 a3 => VW.yes _ (a0, a1, a2, a3) ()) (fun _ _ _ _ => VW.no _ _) (fun _ _ _ _ _ => VW.no _ _) (fun _ _ _ _ => VW.no _ _) (fun _ _ => VW.no _ _) (fun _ _ => VW.no _ _) (fun _ _ => VW.no _ _) (fun _ _ _ _ => VW.no _ _) (fun _ _ _ _ => VW.no _ _) (fun _ _ _ _ => VW.no _ _) (fun _ _ => VW.no _ _) (fun _ _ _ => VW.no _ _) (fun _ _ _ => VW.no _ _) (fun _ _ _ => VW.no _ _) (fun _ _ => VW.no _ _) (fun _ _ => VW.no _ _) (fun _ _ => VW.no _ _) (fun _ _ _ => VW.no _ _) (fun _ _ _ _ => VW.no _ _))
theorem xComp_inv {e : Expr} {x} (h : xComp e = some x) : e = Expr.ListComp x.1 x.2.1 x.2.2.1 x.2.2.2 := (VW.inv h).2
theorem is_inv {α : Type} {o : Option α} {m : Prop} (h : o.isSome = true) (k : ∀ x, o = some x → m) : m := by
  cases o with
  | none => cases h
  | some a => exact k a rfl
noncomputable def kndN (e : Expr) : Bool := (xName e).isSome || ((xConst e).isSome || ((xBin e).isSome || ((xUn e).isSome || ((xCmp e).isSome || ((xBool e).isSome || ((xIf e).isSome || ((xList e).isSome || ((xTup e).isSome || ((xDict e).isSome || ((xSub e).isSome || ((xAttr e).isSome || ((xCall e).isSome))))))))))))
noncomputable def knd (e : Expr) : Bool := kndN e || (xComp e).isSome
theorem kndN_ok {m : Expr → Prop} {e : Expr} (h : kndN e = true) (h0 : ∀ a b, m (.Name a b)) (h1 : ∀ a b c, m (.Constant a b c)) (h2 : ∀ a b c d, m (.BinOp a b c d)) (h3 : ∀ a b c, m (.UnaryOp a b c)) (h4 : ∀ a b c d, m (.Compare a b c d)) (h5 : ∀ a b c, m (.BoolOp a b c)) (h6 : ∀ a b c d, m (.IfExp a b c d)) (h7 : ∀ a b, m (.List a b)) (h8 : ∀ a b c, m (.Tuple a b c)) (h9 : ∀ a b c, m (.Dict a b c)) (h10 : ∀ a b c, m (.Subscript a b c)) (h11 : ∀ a b c, m (.Attribute a b c)) (h12 : ∀ a b c d, m (.Call a b c d)) : m e := by
  rcases or_inv h with h | h
  · refine is_inv h fun x e => ?_
    rw [xName_inv e]; exact h0 _ _
  rcases or_inv h with h | h
  · refine is_inv h fun x e => ?_
    obtain ⟨n, p, e⟩ := xConst_inv e
    rw [e]; exact h1 _ _ _
  rcases or_inv h with h | h
  · refine is_inv h fun x e => ?_
    obtain ⟨p, e⟩ := xBin_inv e
    rw [e]; exact h2 _ _ _ _
  rcases or_inv h with h | h
  · refine is_inv h fun x e => ?_
    obtain ⟨p, e⟩ := xUn_inv e
    rw [e]; exact h3 _ _ _
  rcases or_inv h with h | h
  · refine is_inv h fun x e => ?_
    obtain ⟨p, e⟩ := xCmp_inv e
    rw [e]; exact h4 _ _ _ _
  rcases or_inv h with h | h
  · refine is_inv h fun x e => ?_
    obtain ⟨p, e⟩ := xBool_inv e
    rw [e]; exact h5 _ _ _
  rcases or_inv h with h | h
  · refine is_inv h fun x e => ?_
    obtain ⟨p, e⟩ := xIf_inv e
    rw [e]; exact h6 _ _ _ _
  rcases or_inv h with h | h
  · refine is_inv h fun x e => ?_
    obtain ⟨p, e⟩ := xList_inv e
    rw [e]; exact h7 _ _
  rcases or_inv h with h | h
  · refine is_inv h fun x e => ?_
    obtain ⟨n, p, e⟩ := xTup_inv e
    rw [e]; exact h8 _ _ _
  rcases or_inv h with h | h
  · refine is_inv h fun x e => ?_
    obtain ⟨p, e⟩ := xDict_inv e
    rw [e]; exact h9 _ _ _
  rcases or_inv h with h | h
  · refine is_inv h fun x e => ?_
    obtain ⟨p, e⟩ := xSub_inv e
    rw [e]; exact h10 _ _ _
  rcases or_inv h with h | h
  · refine is_inv h fun x e => ?_
    rw [xAttr_inv e]; exact h11 _ _ _
  refine is_inv h fun x e => ?_
  rw [xCall_inv e]; exact h12 _ _ _ _
theorem knd_ok {m : Expr → Prop} {e : Expr} (h : knd e = true) (h0 : ∀ a b, m (.Name a b)) (h1 : ∀ a b c, m (.Constant a b c)) (h2 : ∀ a b c d, m (.BinOp a b c d)) (h3 : ∀ a b c, m (.UnaryOp a b c)) (h4 : ∀ a b c d, m (.Compare a b c d)) (h5 : ∀ a b c, m (.BoolOp a b c)) (h6 : ∀ a b c d, m (.IfExp a b c d)) (h7 : ∀ a b, m (.List a b)) (h8 : ∀ a b c, m (.Tuple a b c)) (h9 : ∀ a b c, m (.Dict a b c)) (h10 : ∀ a b c, m (.Subscript a b c)) (h11 : ∀ a b c, m (.Attribute a b c)) (h12 : ∀ a b c d, m (.Call a b c d)) (hc : ∀ a b c d, m (.ListComp a b c d)) : m e := by
  rcases or_inv h with h | h
  · exact kndN_ok h h0 h1 h2 h3 h4 h5 h6 h7 h8 h9 h10 h11 h12
  · refine is_inv h fun x e => ?_
    rw [xComp_inv e]; exact hc _ _ _ _
noncomputable def noStar1 (e : Expr) : Bool := knd e
noncomputable def noSet (e : Expr) : Bool := knd e
noncomputable def noComp (e : Expr) : Bool := kndN e
/-- its test is its value's -/
noncomputable def plainT (e : Expr) : Bool := (xName e).isSome || (xCall e).isSome

theorem noSet_fold {e : Expr} (h : noSet e = true) (env : Env) (x : Value) : foldedSetIterable e env x = pure x := knd_ok (m := fun e => foldedSetIterable e env x = pure x) h (fun _ _ => rfl) (fun _ _ _ => rfl) (fun _ _ _ _ => rfl) (fun _ _ _ => rfl) (fun _ _ _ _ => rfl) (fun _ _ _ => rfl) (fun _ _ _ _ => rfl) (fun _ _ => rfl) (fun _ _ _ => rfl) (fun _ _ _ => rfl) (fun _ _ _ => rfl) (fun _ _ _ => rfl) (fun _ _ _ _ => rfl) (fun _ _ _ _ => rfl)
theorem noSet_marks {e : Expr} (h : noSet e = true) (op : CmpOp) : behindInMarks op e = false := knd_ok (m := fun e => behindInMarks op e = false) h (fun _ _ => rfl) (fun _ _ _ => rfl) (fun _ _ _ _ => rfl) (fun _ _ _ => rfl) (fun _ _ _ _ => rfl) (fun _ _ _ => rfl) (fun _ _ _ _ => rfl) (fun _ _ => rfl) (fun _ _ _ => rfl) (fun _ _ _ => rfl) (fun _ _ _ => rfl) (fun _ _ _ => rfl) (fun _ _ _ _ => rfl) (fun _ _ _ _ => rfl)
theorem noStar_each {e : Expr} (h : noStar1 e = true) (es : List Expr) (env : Env) : starEach (e :: es) env = (false, eval e env) :: starEach es env := knd_ok (m := fun e => starEach (e :: es) env = (false, eval e env) :: starEach es env) h (fun _ _ => rfl) (fun _ _ _ => rfl) (fun _ _ _ _ => rfl) (fun _ _ _ => rfl) (fun _ _ _ _ => rfl) (fun _ _ _ => rfl) (fun _ _ _ _ => rfl) (fun _ _ => rfl) (fun _ _ _ => rfl) (fun _ _ _ => rfl) (fun _ _ _ => rfl) (fun _ _ _ => rfl) (fun _ _ _ _ => rfl) (fun _ _ _ _ => rfl)
theorem noComp_swap {e : Expr} (h : noComp e = true) (t : Option Expr) (l : Nat) (env : Env) : swapsWith e t l env = pure false := kndN_ok (m := fun e => swapsWith e t l env = pure false) h (fun _ _ => rfl) (fun _ _ _ => rfl) (fun _ _ _ _ => rfl) (fun _ _ _ => rfl) (fun _ _ _ _ => rfl) (fun _ _ _ => rfl) (fun _ _ _ _ => rfl) (fun _ _ => rfl) (fun _ _ _ => rfl) (fun _ _ _ => rfl) (fun _ _ _ => rfl) (fun _ _ _ => rfl) (fun _ _ _ _ => rfl)
theorem noStar_of {es : List Expr} (h : es.all noStar1 = true) : NoStar es := fun e he rest env => noStar_each (List.all_eq_true.mp h e he) rest env
theorem plainT_of {e : Expr} (h : plainT e = true) (env : Env) (whole : Sem Value) : isTrue e env whole = (do let v ← whole; standAt e.pos; holding [v] (truthy v)) := by
  rcases or_inv h with h | h
  · obtain ⟨x, h⟩ := Option.isSome_iff_exists.mp h
    rw [xName_inv h]; rfl
  · obtain ⟨x, h⟩ := Option.isSome_iff_exists.mp h
    rw [xCall_inv h]; rfl

theorem isSeen_of {sc : Scope} {x : Str} (h : isSeen sc x = true) : sc.names.lookup x = some .local ∨ sc.names.lookup x = some .cell ∨ sc.names.lookup x = some .free := by
  rcases or_inv h with h | h
  · rcases or_inv h with h | h
    · exact .inl (of_decide_eq_true h)
    · exact .inr (.inl (of_decide_eq_true h))
  · exact .inr (.inr (of_decide_eq_true h))
theorem isBound_of {sc : Scope} {x : Str} (h : isBound sc x = true) : sc.names.lookup x = some .local ∨ sc.names.lookup x = some .cell := by
  rcases or_inv h with h | h
  · exact .inl (of_decide_eq_true h)
  · exact .inr (of_decide_eq_true h)
theorem okName_of {x : Str} (h : okName x = true) : (x == ("__debug__" : Str)) = false ∧ (x == ("__classdict__" : Str)) = false :=
  ⟨not_inv (and_inv h).1, not_inv (and_inv h).2⟩

/-! names that are bound -/
noncomputable def namesP (b : Str → Bool) (sl : List Str) : List Nat → List Expr → Bool
  | [], es => es.isEmpty
  | i :: is, es => okB es.head? fun e => okB (xName e) (fun x => decide (sl[i]? = some x.1) && b x.1) && namesP b sl is es.tail
noncomputable def tgtP (b : Str → Bool) (sl : List Str) (is : List Nat) (many : Bool) (e : Expr) : Bool :=
  (many && okB (xTup e) fun es => namesP b sl is es) || (!many && okB (one is) fun i => okB (xName e) fun x => decide (sl[i]? = some x.1) && b x.1)

theorem head_tail {α : Type} {l : List α} {a : α} (h : l.head? = some a) : l = a :: l.tail := by cases l <;> cases h; rfl
theorem namesL_of {sl : List Str} {sc : Scope} : ∀ {is : List Nat} {es : List Expr}, namesP (isLoc sc) sl is es = true → NamesL sl sc is es
  | [], es, h => by rw [List.isEmpty_iff.mp h]; exact .nil
  | i :: is, es, h => by
    obtain ⟨e, h1, h⟩ := okB_inv h
    obtain ⟨h2, h3⟩ := and_inv h
    obtain ⟨x, h4, h5⟩ := okB_inv h2
    rw [head_tail h1, xName_inv h4]
    exact .cons (of_decide_eq_true (and_inv h5).1) (of_decide_eq_true (and_inv h5).2) (namesL_of h3)
theorem namesB_of {sl : List Str} {sc : Scope} : ∀ {is : List Nat} {es : List Expr}, namesP (isBound sc) sl is es = true → Names sl sc is es
  | [], es, h => by rw [List.isEmpty_iff.mp h]; exact .nil
  | i :: is, es, h => by
    obtain ⟨e, h1, h⟩ := okB_inv h
    obtain ⟨h2, h3⟩ := and_inv h
    obtain ⟨x, h4, h5⟩ := okB_inv h2
    rw [head_tail h1, xName_inv h4]
    exact .cons (of_decide_eq_true (and_inv h5).1) (isBound_of (and_inv h5).2) (namesB_of h3)
theorem tgtL_of {sl : List Str} {sc : Scope} {is : List Nat} {many : Bool} {e : Expr} (h : tgtP (isLoc sc) sl is many e = true) : TargetL sl sc is many e := by
  rcases or_inv h with h | h
  · obtain ⟨rfl, h⟩ := and_inv h
    obtain ⟨es, h1, h⟩ := okB_inv h
    obtain ⟨n, p, rfl⟩ := xTup_inv h1
    exact .many (namesL_of h)
  · obtain ⟨hm, h⟩ := and_inv h
    obtain rfl := not_inv hm
    obtain ⟨i, h1, h⟩ := okB_inv h
    obtain ⟨x, h2, h⟩ := okB_inv h
    rw [one_inv h1, xName_inv h2]
    exact .one (of_decide_eq_true (and_inv h).1) (of_decide_eq_true (and_inv h).2)
theorem tgtB_of {sl : List Str} {sc : Scope} {is : List Nat} {many : Bool} {e : Expr} (h : tgtP (isBound sc) sl is many e = true) : Target sl sc is many e := by
  rcases or_inv h with h | h
  · obtain ⟨rfl, h⟩ := and_inv h
    obtain ⟨es, h1, h⟩ := okB_inv h
    obtain ⟨n, p, rfl⟩ := xTup_inv h1
    exact .many (namesB_of h)
  · obtain ⟨hm, h⟩ := and_inv h
    obtain rfl := not_inv hm
    obtain ⟨i, h1, h⟩ := okB_inv h
    obtain ⟨x, h2, h⟩ := okB_inv h
    rw [one_inv h1, xName_inv h2]
    exact .one (of_decide_eq_true (and_inv h).1) (isBound_of (and_inv h).2)

noncomputable def compSc (sl : List Str) (sc scope : Scope) : Bool :=
  decide (scope.kind = .function) && scope.names.all fun y => !decide (y.2 = .cell) && ((!decide (y.2 = .local) || (isLoc scope y.1 && !decide (y.1 ∈ sl))) &&
    (!decide (y.2 = .free) || (decide (y.1 ∈ sl) && (decide (sc.names.lookup y.1 = some .cell) || decide (sc.names.lookup y.1 = some .free)))))
theorem of_not {P : Prop} [Decidable P] (h : (!decide P) = true) : ¬ P := of_decide_eq_false (not_inv h)
theorem imp_inv {P : Prop} [Decidable P] {b : Bool} (h : (!decide P || b) = true) (p : P) : b = true := (or_inv h).elim (fun h => absurd p (of_not h)) id
theorem compSc_of {sl : List Str} {sc scope : Scope} (h : compSc sl sc scope = true) : CompSc sl sc scope := by
  obtain ⟨h1, h2⟩ := and_inv h
  have h2 := fun y hy => and_inv (List.all_eq_true.mp h2 y hy)
  exact ⟨of_decide_eq_true h1, fun y hy => of_not (h2 y hy).1, fun y hy e => of_decide_eq_true (and_inv (imp_inv (and_inv (h2 y hy).2).1 e)).1, fun y hy e => of_not (and_inv (imp_inv (and_inv (h2 y hy).2).1 e)).2,
    fun y hy e => ⟨of_decide_eq_true (and_inv (imp_inv (and_inv (h2 y hy).2).2 e)).1, (or_inv (and_inv (imp_inv (and_inv (h2 y hy).2).2 e)).2).imp of_decide_eq_true of_decide_eq_true⟩⟩

noncomputable def swapV (sc scope : Scope) (t : Str) (p vp : Pos) : Bool :=
  decide (sc.names.lookup t = some .local) && p.line == vp.line && !(scope.names.any fun (n, k) => n == t && (k == .local || k == .cell))
theorem swap_comp {elt : Expr} {gens : List Comprehension} {scope sc : Scope} {vp p : Pos} {x : Str} (hk : sc.kind = .function) (l : Nat) (env : Env) (he : env.scope = sc) :
    swapsWith (.ListComp elt gens scope vp) (some (.Name x p)) l env = pure (swapV sc scope x p vp) := by
  have h1 : env.blockKind = .function := by unfold Env.blockKind; rw [he, hk]; rfl
  show (pure (env.blockKind == .function && env.kindOf x == some .local && p.line == vp.line && !(scope.names.any fun (n, k) => n == x && (k == .local || k == .cell))) : Sem Bool) = _
  have e2 : (env.kindOf x == some .local) = decide (sc.names.lookup x = some .local) := by
    show (env.scope.names.lookup x == some .local) = _
    rw [he]
    by_cases h : sc.names.lookup x = some .local
    · rw [h]; rfl
    · rw [decide_eq_false h]; exact beq_false_of_ne h
  rw [h1, e2]
  rfl
end
end Mine.L1

namespace Mine.L1
section
open PySem PySem.W PyProof.Rows
set_option maxRecDepth 10000
set_option autoImplicit false
set_option linter.unusedSectionVars false
set_option linter.unusedVariables false

/-- what is known of the text's own names -/
structure Facts (prog : Program) (w : World) (K : Frag) (h₀ : Heap) (ca fa : Nat → Addr) (P : Prg) (T : Tab) : Prop where
  CF : ClsFacts K h₀ ca
  MF : MethFacts prog w K h₀ ca fa P
  fn : ∀ f x, T.fn f = some x → GName h₀ x (.ref (fa f)) ∧ Kept prog w h₀ (.ref (fa f))
  cls : ∀ c x, T.cls c = some x → c ≤ 1 ∧ GName h₀ x (.ref (ca c)) ∧ Kept prog w h₀ (.ref (ca c)) ∧ makesIn K (ca c) = true ∧
    ∀ f, P.init c = some f → findIn K (.ref (ca c)) "__init__" = some (some (.ref (fa f))) ∧ typeIn K (.ref (fa f)) = some (.type "function")
  bi : ∀ b, GName h₀ (biName b) (biVal b)

/-- where a text of the small syntax may stand: an expression, a test, tests of an «or», a row, a dict's pairs (with a key's value to come), a part of a slice, a comprehension's tests, no items, the value of a name's assignment -/
inductive Tgt where
  | e (x : Expr) | t (x : Expr) | or (xs : List Expr) | es (xs : List Expr) | p (ks : List (Option Expr)) (vs : List Expr) | pv (ks : List (Option Expr)) (vs : List Expr)
  | o (x : Option Expr) | c (xs : List Expr) | z | a (i : Nat) (x : Str) (p : Pos) (ve : Expr) (pos : Pos)

abbrev Chk := Scope → List Str → Tgt → Bool
/-- by an expression's check, a test's check, an assigned value's check -/
noncomputable def lift (f t : Expr → Bool) (g : Str → Pos → Expr → Bool) : Tgt → Bool
  | .e x => f x
  | .t x => t x
  | .or xs => okB (one xs) t
  | .c xs => okB (one xs) t
  | .o x => okB x f
  | .a _ x p ve _ => g x p ve
  | _ => false
/-- of a plain expression -/
noncomputable def val (f : Expr → Bool) : Tgt → Bool := lift f (fun x => plainT x && f x) (fun _ _ x => noComp x && f x)
/-- of a test -/
noncomputable def tes (f : Expr → Bool) : Tgt → Bool := lift f f (fun _ _ x => noComp x && f x)
noncomputable def kNil : Tgt → Bool
  | .es xs => xs.isEmpty
  | .p ks vs => ks.isEmpty && vs.isEmpty
  | .z => true
  | _ => false
noncomputable def kNone : Tgt → Bool
  | .o x => x.isNone
  | _ => false
noncomputable def kCons (a r : Tgt → Bool) : Tgt → Bool
  | .es xs => okB xs.head? fun e => noStar1 e && (a (.e e) && r (.es xs.tail))
  | .p ks vs => okB ks.head? fun ke => okB ke fun e => a (.e e) && r (.pv ks.tail vs)
  | .pv ks vs => okB vs.head? fun e => a (.e e) && r (.p ks vs.tail)
  | _ => false
/-- an «or» -/
noncomputable def kOr (a b : Tgt → Bool) : Tgt → Bool
  | .t x => okB (xBool x) fun q => decide (q.1 = .Or) && okB q.2.head? fun e => a (.t e) && b (.or q.2.tail)
  | .or xs => okB xs.head? fun e => a (.t e) && b (.or xs.tail)
  | _ => false
noncomputable def kC (b : Bool) : Tgt → Bool
  | .c xs => b && xs.isEmpty
  | .e x => okB (xConst x) fun c => decide (c = .bool b)
  | _ => false
noncomputable def kComp (f : Scope → List Str → Expr → Bool) : Chk := fun sc sl => lift (f sc sl) (fun _ => false) fun x p ve => f sc sl ve && okB (xComp ve) fun q => !swapV sc q.2.2.1 x p q.2.2.2 || isLoc sc x
noncomputable def gen1 (g : Comprehension) : Bool := decide (g.is_async = 0) && noSet g.iter
noncomputable def gen0 (g : Comprehension) : Bool := gen1 g && g.ifs.isEmpty
noncomputable def tgtC (sc : Scope) (sl tgt : List Str) (n : Nat) (e : Expr) : Bool := tgtP (isLoc sc) sl ((List.range tgt.length).map (n + ·)) (decide (tgt.length ≠ 1)) e
noncomputable def headC (tgt sl : List Str) (sc scope : Scope) : Bool := compSc sl sc scope && (tgt.all (isLoc scope) && decide (sl ++ tgt).Nodup)
noncomputable def fComp1 (elt : Chk) (tgt : List Str) (iter cond : Chk) (sl : List Str) (sc scope sc' : Scope) (g : Comprehension) (e : Expr) : Bool := (gen1 g && headC tgt sl sc scope) &&
  ((tgtC sc' (sl ++ tgt) tgt sl.length g.target && iter sc sl (.e g.iter)) && (cond sc' (sl ++ tgt) (.c g.ifs) && elt sc' (sl ++ tgt) (.e e)))
noncomputable def fComp (elt : Chk) (tgt : List Str) (iter cond : Chk) (sc : Scope) (sl : List Str) (x : Expr) : Bool := okB (xComp x) fun q => okB (one q.2.1) fun g => fComp1 elt tgt iter cond sl sc q.2.2.1 (relab sc q.2.2.1) g q.1
noncomputable def fCompB (elt : Chk) (tgt : List Str) (iter : Chk) (tgt2 : List Str) (iter2 : Chk) (sl : List Str) (sc scope sc' : Scope) (g g2 : Comprehension) (e : Expr) : Bool :=
  ((gen0 g && gen0 g2) && (headC (tgt ++ tgt2) sl sc scope && (tgtC sc' (sl ++ (tgt ++ tgt2)) tgt sl.length g.target && tgtC sc' (sl ++ (tgt ++ tgt2)) tgt2 (sl.length + tgt.length) g2.target))) &&
  (iter sc sl (.e g.iter) && (iter2 sc' (sl ++ tgt) (.e g2.iter) && elt sc' (sl ++ (tgt ++ tgt2)) (.e e)))
noncomputable def fComp2 (elt : Chk) (tgt : List Str) (iter : Chk) (tgt2 : List Str) (iter2 : Chk) (sc : Scope) (sl : List Str) (x : Expr) : Bool := okB (xComp x) fun q => okB (two q.2.1) fun g => fCompB elt tgt iter tgt2 iter2 sl sc q.2.2.1 (relab sc q.2.2.1) g.1 g.2 q.1
theorem gen1_inv {g : Comprehension} (h : gen1 g = true) : g = ⟨g.target, g.iter, g.ifs, 0⟩ ∧ ∀ env x, foldedSetIterable g.iter env x = pure x := by
  cases g with
  | mk a b c d => exact ⟨congrArg (Comprehension.mk a b c) (of_decide_eq_true (and_inv h).1), noSet_fold (and_inv h).2⟩
theorem gen0_inv {g : Comprehension} (h : gen0 g = true) : g = ⟨g.target, g.iter, [], 0⟩ :=
  (gen1_inv (and_inv h).1).1.trans (congrArg (Comprehension.mk g.target g.iter · 0) (List.isEmpty_iff.mp (and_inv h).2))
theorem all_loc {tgt : List Str} {scope : Scope} (h : tgt.all (isLoc scope) = true) (t : Str) (ht : t ∈ tgt) : scope.names.lookup t = some .local := of_decide_eq_true (List.all_eq_true.mp h t ht)
noncomputable def fLoc (i : Nat) (sc : Scope) (sl : List Str) (e : Expr) : Bool := okB (xName e) fun x => decide (sl[i]? = some x.1) && (isSeen sc x.1 && okName x.1)
noncomputable def fConst (c : Const) (e : Expr) : Bool := okB (xConst e) fun d => decide (d = c)
noncomputable def fBin (op : Operator) (a b : Tgt → Bool) (x : Expr) : Bool := okB (xBin x) fun q => decide (q.2.1 = op) && (a (.e q.1) && b (.e q.2.2))
noncomputable def fNeg (a : Tgt → Bool) (x : Expr) : Bool := okB (xUn x) fun q => decide (q.1 = .USub) && a (.e q.2)
noncomputable def fCmp (op : CmpOp) (a b : Tgt → Bool) (x : Expr) : Bool := okB (xCmp x) fun q => decide (q.2.1 = [op]) && okB (one q.2.2) fun y => noSet y && (a (.e q.1) && b (.e y))
noncomputable def fIte (t a b : Tgt → Bool) (x : Expr) : Bool := okB (xIf x) fun q => t (.t q.1) && (a (.e q.2.1) && b (.e q.2.2))
noncomputable def fList (xs : Tgt → Bool) (x : Expr) : Bool := okB (xList x) fun es => xs (.es es)
noncomputable def fTup (xs : Tgt → Bool) (x : Expr) : Bool := okB (xTup x) fun es => xs (.es es)
noncomputable def fDict (k : DK) (xs : Tgt → Bool) (x : Expr) : Bool := okB (xDict x) fun q => (q.1.isEmpty && (q.2.isEmpty && (!decide (k = .s) && xs .z))) ||
  (!decide (k = .t) && (q.1.all (·.isSome) && (decide (q.1.length = q.2.length) && (!decide (q.1 = []) && (decide (q.1.length ≤ 15) && xs (.p q.1 q.2))))))
noncomputable def fSub (a i : Tgt → Bool) (x : Expr) : Bool := okB (xSub x) fun q => a (.e q.1) && i (.e q.2)
noncomputable def fSlc (a lo hi : Tgt → Bool) (x : Expr) : Bool := okB (xSub x) fun q => a (.e q.1) && okB (xSlice q.2) fun r => lo (.o r.1) && (hi (.o r.2.1) && r.2.2.isNone)
noncomputable def fAttr (o : Tgt → Bool) (name : Str) (x : Expr) : Bool := okB (xAttr x) fun q => decide (q.2.1 = name) && (decide (name ∈ attrNames) && okB (xName q.1) fun _ => o (.e q.1))
noncomputable def fCall (n : Option Str) (xs : Tgt → Bool) (sc : Scope) (x : Expr) : Bool := okB (xCall x) fun q => okB (xName q.1) fun f => decide (n = some f.1) && (isGlob sc f.1 && (okName f.1 && (q.2.2.1.isEmpty && (q.2.1.all noStar1 && xs (.es q.2.1)))))
noncomputable def fMeth (o : Tgt → Bool) (m : Str) (xs : Tgt → Bool) (x : Expr) : Bool := okB (xCall x) fun q => okB (xAttr q.1) fun r => decide (r.2.1 = m) && (((xName r.1).isSome || (xAttr r.1).isSome) && (decide (q.2.1.length < 29) && (r.2.2.endLine == q.2.2.2.line && (q.2.2.1.isEmpty && (q.2.1.all noStar1 && (o (.e r.1) && xs (.es q.2.1)))))))

noncomputable def chk (T : Tab) : X → Chk := @X.rec (fun _ => Chk) (fun i sc sl => val (fLoc i sc sl)) (fun _ _ => kNone) (fun n _ _ => val (fConst (.int n))) (fun s _ _ => val (fConst (.str s))) (fun b _ _ => kC b)
  (fun op _ _ a b sc sl => val (fBin op (a sc sl) (b sc sl))) (fun _ a sc sl => val (fNeg (a sc sl))) (fun op _ _ a b sc sl => tes (fCmp op (a sc sl) (b sc sl))) (fun _ _ a b sc sl => kOr (a sc sl) (b sc sl)) (fun _ _ _ t a b sc sl => val (fIte (t sc sl) (a sc sl) (b sc sl)))
  (fun _ xs sc sl => val (fList (xs sc sl))) (fun _ xs sc sl => val (fTup (xs sc sl))) (fun k _ xs sc sl => val (fDict k (xs sc sl))) (fun _ _ a i sc sl => val (fSub (a sc sl) (i sc sl))) (fun _ _ _ a lo hi sc sl => val (fSlc (a sc sl) (lo sc sl) (hi sc sl))) (fun _ name o sc sl => val (fAttr (o sc sl) name))
  (fun f _ xs sc sl => val (fCall (T.fn f) (xs sc sl) sc)) (fun c _ xs sc sl => val (fCall (T.cls c) (xs sc sl) sc)) (fun _ m _ o xs sc sl => val (fMeth (o sc sl) m (xs sc sl))) (fun b _ xs sc sl => val (fCall (some (biName b)) (xs sc sl) sc))
  (fun _ tgt _ _ elt iter cond => kComp (fComp elt tgt iter cond)) (fun _ tgt _ tgt2 _ elt iter iter2 => kComp (fComp2 elt tgt iter tgt2 iter2)) (fun _ _ => kNil) (fun _ _ a r sc sl => kCons (a sc sl) (r sc sl))

section
variable {prog : Program} {w : World} {ca fa : Nat → Addr} {h₀ : Heap} {L₀ : Addr} {k : Nat} {K : Frag} {P : Prg} {T : Tab} {sl : List Str} {sc : Scope}

variable (prog w ca h₀ L₀ k sl sc) in
noncomputable def TgtOk (g : Tgt) (d : M) : Prop := match g with
  | .e x => EOk prog w ca h₀ L₀ sl sc k x d
  | .t x => TOk prog w ca h₀ L₀ sl sc k x (fun ρ H => (d ρ H).bind tst)
  | .or xs => OrOk prog w ca h₀ L₀ sl sc k xs (fun ρ H => (d ρ H).bind tst)
  | .es xs => EsOk prog w ca h₀ L₀ sl sc k xs (row d)
  | .p ks vs => EpOk prog w ca h₀ L₀ sl sc k ks vs (row d)
  | .pv ks vs => ∀ a da, EOk prog w ca h₀ L₀ sl sc k a da → EpOk prog w ca h₀ L₀ sl sc k (some a :: ks) vs (row (mCons da d))
  | .o x => POk prog w ca h₀ L₀ sl sc k x d
  | .c xs => IfsOk prog w ca h₀ L₀ sl sc k xs (fun ρ H => (d ρ H).bind tst)
  | .z => d = mVal (.tup [])
  | .a i x p ve pos => sc.kind = .function → sl.Nodup → sl[i]? = some x → isBound sc x = true → SOk prog w ca h₀ L₀ sl sc k (.Assign [.Name x p] ve pos) (sAsg i d)

variable (prog w ca h₀ L₀ k) in
/-- the check c tells what d does -/
noncomputable def Snd (c : Chk) (d : M) : Prop := ∀ (sc : Scope) (sl : List Str) (g : Tgt), c sc sl g = true → TgtOk prog w ca h₀ L₀ k sl sc g d

theorem lift_ok {f t : Expr → Bool} {as : Str → Pos → Expr → Bool} {d : M} (hf : ∀ x, f x = true → EOk prog w ca h₀ L₀ sl sc k x d) (ht : ∀ x, t x = true → TOk prog w ca h₀ L₀ sl sc k x (fun ρ H => (d ρ H).bind tst))
    (ha : ∀ i x p ve pos, as x p ve = true → TgtOk prog w ca h₀ L₀ k sl sc (.a i x p ve pos) d) {g : Tgt} (h : lift f t as g = true) : TgtOk prog w ca h₀ L₀ k sl sc g d := by
  cases g with
  | e x => exact hf x h
  | t x => exact ht x h
  | or xs =>
    obtain ⟨x, h1, h2⟩ := okB_inv h
    rw [one_inv h1]; exact OrOk.one (ht x h2)
  | c xs =>
    obtain ⟨x, h1, h2⟩ := okB_inv h
    rw [one_inv h1]; exact IfsOk.one (ht x h2)
  | o x =>
    obtain ⟨x, rfl, h2⟩ := okB_inv h
    exact POk.some (hf x h2)
  | a i x p ve pos => exact ha i x p ve pos h
  | _ => cases h
theorem asg_ok {d : M} {ve : Expr} (hf : EOk prog w ca h₀ L₀ sl sc k ve d) (hn : noComp ve = true) (i : Nat) (x : Str) (p pos : Pos) : TgtOk prog w ca h₀ L₀ k sl sc (.a i x p ve pos) d :=
  fun _ hnd hi hb => SOk.asg hf hnd hi (isBound_of hb) fun env _ => noComp_swap hn _ _ env
theorem val_ok {f : Expr → Bool} {d : M} (hf : ∀ x, f x = true → EOk prog w ca h₀ L₀ sl sc k x d) {g : Tgt} (h : val f g = true) : TgtOk prog w ca h₀ L₀ k sl sc g d :=
  lift_ok hf (fun x h => TOk.value (hf x (and_inv h).2) (plainT_of (and_inv h).1)) (fun i x p ve pos h => asg_ok (hf ve (and_inv h).2) (and_inv h).1 i x p pos) h
theorem tes_ok {f : Expr → Bool} {d : M} (hf : ∀ x, f x = true → EOk prog w ca h₀ L₀ sl sc k x d) (ht : ∀ x, f x = true → TOk prog w ca h₀ L₀ sl sc k x (fun ρ H => (d ρ H).bind tst)) {g : Tgt} (h : tes f g = true) : TgtOk prog w ca h₀ L₀ k sl sc g d :=
  lift_ok hf ht (fun i x p ve pos h => asg_ok (hf ve (and_inv h).2) (and_inv h).1 i x p pos) h

/-- what is known of a comprehension -/
noncomputable def CompGood (prog : Program) (w : World) (ca : Nat → Addr) (h₀ : Heap) (L₀ : Addr) (sl : List Str) (sc : Scope) (k : Nat) (x : Expr) (d : M) : Prop := ∃ elt target iter ifs rest scope pos di dm, x = .ListComp elt (⟨target, iter, ifs, 0⟩ :: rest) scope pos ∧
  d = (fun ρ H => (di ρ H).bind fun x => (source x.1 x.2).bind fun src => (dm ρ src x.2).bind fun r => newL r.1 r.2) ∧ EOk prog w ca h₀ L₀ sl sc k iter di ∧ CompSc sl sc scope ∧ CompOk prog w ca h₀ L₀ sl sc k elt (⟨target, iter, ifs, 0⟩ :: rest) scope pos dm ∧ ∀ env x, foldedSetIterable iter env x = pure x
theorem CompGood.ok {x : Expr} {d : M} (h : CompGood prog w ca h₀ L₀ sl sc k x d) : EOk prog w ca h₀ L₀ sl sc k x d := by
  obtain ⟨_, _, _, _, _, _, _, _, _, rfl, rfl, h1, h2, h3, h4⟩ := h
  exact EOk.comp_of h1 h2 h3 h4
theorem comp_ok {f : Scope → List Str → Expr → Bool} {d : M} (hf : ∀ sc sl x, f sc sl x = true → CompGood prog w ca h₀ L₀ sl sc k x d) : Snd prog w ca h₀ L₀ k (kComp f) d := fun sc sl g h =>
  lift_ok (fun x h => (hf sc sl x h).ok) (fun x h => by cases h) (fun i x p ve pos h' hk hnd hi hb => by
    obtain ⟨h1, h2⟩ := and_inv (show (f sc sl ve && okB (xComp ve) fun q => !swapV sc q.2.2.1 x p q.2.2.2 || isLoc sc x) = true from h')
    obtain ⟨q, e, h3⟩ := okB_inv h2
    have G := hf sc sl ve h1
    rw [xComp_inv e] at G ⊢
    by_cases hs : swapV sc q.2.2.1 x p q.2.2.2 = true
    · have hl : sc.names.lookup x = some .local := of_decide_eq_true ((or_inv h3).elim (fun h => by rw [hs] at h; cases h) id)
      obtain ⟨_, _, _, _, _, _, _, _, _, e1, rfl, h1, h2, h3, h4⟩ := G
      have e1 := e1
      injection e1 with a1 a2 a3 a4
      rw [a1, a2, a3, a4]
      exact SOk.asgcomp h1 h2 h3 h4 hnd hi hl fun env he => by rw [← a3, ← a4, swap_comp hk _ env he, hs]
    · exact SOk.asg G.ok hnd hi (isBound_of hb) fun env he => by rw [swap_comp hk _ env he, eq_false_of_ne_true hs]) h

theorem cons_ok {a r : Chk} {da dr : M} (ha : Snd prog w ca h₀ L₀ k a da) (hr : Snd prog w ca h₀ L₀ k r dr) : Snd prog w ca h₀ L₀ k (fun sc sl => kCons (a sc sl) (r sc sl)) (mCons da dr) := fun sc sl g h => by
  cases g with
  | es xs =>
    obtain ⟨e, h1, h⟩ := okB_inv h
    obtain ⟨h2, h⟩ := and_inv h
    obtain ⟨h3, h4⟩ := and_inv h
    rw [head_tail h1]
    exact EsOk.cons (ha sc sl _ h3) (hr sc sl _ h4) (noStar_each h2 _)
  | p ks vs =>
    obtain ⟨ke, h1, h⟩ := okB_inv h
    obtain ⟨e, rfl, h⟩ := okB_inv h
    obtain ⟨h3, h4⟩ := and_inv h
    rw [head_tail h1]
    exact (hr sc sl _ h4) e da (ha sc sl _ h3)
  | pv ks vs =>
    obtain ⟨e, h1, h⟩ := okB_inv h
    obtain ⟨h3, h4⟩ := and_inv h
    rw [head_tail h1]
    exact fun b db hb => EpOk.cons hb (ha sc sl _ h3) (hr sc sl _ h4)
  | _ => cases h
theorem nil_ok : Snd prog w ca h₀ L₀ k (fun _ _ => kNil) (mVal (.tup [])) := fun sc sl g h => by
  cases g with
  | es xs => rw [List.isEmpty_iff.mp h]; exact EsOk.nil
  | p ks vs => rw [List.isEmpty_iff.mp (and_inv h).1, List.isEmpty_iff.mp (and_inv h).2]; exact EpOk.nil
  | z => rfl
  | _ => cases h
theorem none_ok : Snd prog w ca h₀ L₀ k (fun _ _ => kNone) (mVal .none) := fun sc sl g h => by
  cases g with
  | o x => rw [Option.isNone_iff_eq_none.mp h]; exact POk.none
  | _ => cases h
theorem c_ok (b : Bool) : Snd prog w ca h₀ L₀ k (fun _ _ => kC b) (mVal (.bool b)) := fun sc sl g h => by
  cases g with
  | c xs =>
    obtain ⟨rfl, h1⟩ := and_inv h
    rw [List.isEmpty_iff.mp h1]; exact IfsOk.nil
  | e x =>
    obtain ⟨c, h1, h⟩ := okB_inv h
    obtain ⟨_, p, ep⟩ := xConst_inv h1
    rw [ep]
    rw [of_decide_eq_true h]
    exact EOk.cbool
  | _ => cases h
theorem or_ok {a b : Chk} {da db : M} (ha : Snd prog w ca h₀ L₀ k a da) (hb : Snd prog w ca h₀ L₀ k b db) : Snd prog w ca h₀ L₀ k (fun sc sl => kOr (a sc sl) (b sc sl)) (mOr da db) := fun sc sl g h => by
  cases g with
  | t x =>
    obtain ⟨q, h1, h⟩ := okB_inv h
    obtain ⟨h2, h⟩ := and_inv h
    obtain ⟨e, h3, h⟩ := okB_inv h
    obtain ⟨p, ep⟩ := xBool_inv h1
    rw [ep]
    rw [of_decide_eq_true h2, head_tail h3]
    exact TOk.or_ (OrOk.cons (ha sc sl _ (and_inv h).1) (hb sc sl _ (and_inv h).2))
  | or xs =>
    obtain ⟨e, h3, h⟩ := okB_inv h
    rw [head_tail h3]
    exact OrOk.cons (ha sc sl _ (and_inv h).1) (hb sc sl _ (and_inv h).2)
  | _ => cases h

variable (F : Facts prog w K h₀ ca fa P T) {cf : Nat → List V → St → Option (V × St)} (hcf : ∀ f, FCk prog w ca h₀ L₀ (fa f) k (cf f))
theorem loc_ok (i : Nat)  : Snd prog w ca h₀ L₀ k (fun sc sl => val (fLoc i sc sl)) (locR i) := by
  refine fun sc sl g => val_ok fun e h => ?_
  obtain ⟨x, h1, h⟩ := okB_inv h
  obtain ⟨h2, h⟩ := and_inv h
  obtain ⟨h3, h4⟩ := and_inv h
  rw [xName_inv h1]
  exact EOk.loc (of_decide_eq_true h2) (isSeen_of h3) (okName_of h4).1 (okName_of h4).2
theorem cint_ok (n : Int)  : Snd prog w ca h₀ L₀ k (fun _ _ => val (fConst (.int n))) (mVal (.int n)) := by
  refine fun sc sl g => val_ok fun e h => ?_
  obtain ⟨c, h1, h⟩ := okB_inv h
  obtain ⟨_, p, ep⟩ := xConst_inv h1
  rw [ep]
  rw [of_decide_eq_true h]
  exact EOk.cint
theorem cstr_ok (n : Str)  : Snd prog w ca h₀ L₀ k (fun _ _ => val (fConst (.str n))) (mVal (.str n)) := by
  refine fun sc sl g => val_ok fun e h => ?_
  obtain ⟨c, h1, h⟩ := okB_inv h
  obtain ⟨_, p, ep⟩ := xConst_inv h1
  rw [ep]
  rw [of_decide_eq_true h]
  exact EOk.cstr
theorem bin_ok {op : Operator} {a b : Chk} {da db : M} (ha : Snd prog w ca h₀ L₀ k a da) (hb : Snd prog w ca h₀ L₀ k b db) : Snd prog w ca h₀ L₀ k (fun sc sl => val (fBin op (a sc sl) (b sc sl))) (mBin op da db) := by
  refine fun sc sl g => val_ok fun e h => ?_
  obtain ⟨q, h1, h⟩ := okB_inv h
  obtain ⟨h2, h⟩ := and_inv h
  obtain ⟨p, ep⟩ := xBin_inv h1
  rw [ep]
  rw [of_decide_eq_true h2]
  exact EOk.bin_of (ha sc sl _ (and_inv h).1) (hb sc sl _ (and_inv h).2) fun a b x y H ι s A ha hb => binop_ok ha hb
theorem neg_ok {a : Chk} {da : M} (ha : Snd prog w ca h₀ L₀ k a da) : Snd prog w ca h₀ L₀ k (fun sc sl => val (fNeg (a sc sl))) (mNeg da) := by
  refine fun sc sl g => val_ok fun e h => ?_
  obtain ⟨q, h1, h⟩ := okB_inv h
  obtain ⟨h2, h⟩ := and_inv h
  obtain ⟨p, ep⟩ := xUn_inv h1
  rw [ep]
  rw [of_decide_eq_true h2]
  exact EOk.neg (ha sc sl _ h)
theorem cmp_ok {op : CmpOp} {a b : Chk} {da db : M} (ha : Snd prog w ca h₀ L₀ k a da) (hb : Snd prog w ca h₀ L₀ k b db) : Snd prog w ca h₀ L₀ k (fun sc sl => tes (fCmp op (a sc sl) (b sc sl))) (mCmp op da db) := by
  refine fun sc sl g => tes_ok (fun e h => ?_) fun e h => ?_
  all_goals
    obtain ⟨q, h1, h⟩ := okB_inv h
    obtain ⟨h2, h⟩ := and_inv h
    obtain ⟨y, h3, h⟩ := okB_inv h
    obtain ⟨h4, h⟩ := and_inv h
    obtain ⟨p, ep⟩ := xCmp_inv h1
    rw [ep]
    rw [of_decide_eq_true h2, one_inv h3]
  · exact EOk.cmp (ha sc sl _ (and_inv h).1) (hb sc sl _ (and_inv h).2) (noSet_marks h4 _)
  · exact TOk.cmp (ha sc sl _ (and_inv h).1) (hb sc sl _ (and_inv h).2) (noSet_marks h4 _)
theorem ite_ok {t a b : Chk} {dt da db : M} (ht : Snd prog w ca h₀ L₀ k t dt) (ha : Snd prog w ca h₀ L₀ k a da) (hb : Snd prog w ca h₀ L₀ k b db) : Snd prog w ca h₀ L₀ k (fun sc sl => val (fIte (t sc sl) (a sc sl) (b sc sl))) (mIte dt da db) := by
  refine fun sc sl g => val_ok fun e h => ?_
  obtain ⟨q, h1, h⟩ := okB_inv h
  obtain ⟨h2, h⟩ := and_inv h
  obtain ⟨p, ep⟩ := xIf_inv h1
  rw [ep]
  exact EOk.ite (ht sc sl _ h2) (ha sc sl _ (and_inv h).1) (hb sc sl _ (and_inv h).2)
theorem list_ok {xs : Chk} {dx : M} (hx : Snd prog w ca h₀ L₀ k xs dx) : Snd prog w ca h₀ L₀ k (fun sc sl => val (fList (xs sc sl))) (mList dx) := by
  refine fun sc sl g => val_ok fun e h => ?_
  obtain ⟨q, h1, h⟩ := okB_inv h
  obtain ⟨p, ep⟩ := xList_inv h1
  rw [ep]
  exact EOk.list (hx sc sl _ h)
theorem tup_ok {xs : Chk} {dx : M} (hx : Snd prog w ca h₀ L₀ k xs dx) : Snd prog w ca h₀ L₀ k (fun sc sl => val (fTup (xs sc sl))) (mTup dx) := by
  refine fun sc sl g => val_ok fun e h => ?_
  obtain ⟨q, h1, h⟩ := okB_inv h
  obtain ⟨_, p, ep⟩ := xTup_inv h1
  rw [ep]
  exact EOk.tup (hx sc sl _ h)
theorem dict_ok {kd : DK} {xs : Chk} {dx : M} (hx : Snd prog w ca h₀ L₀ k xs dx) : Snd prog w ca h₀ L₀ k (fun sc sl => val (fDict kd (xs sc sl))) (mDict kd dx) := by
  refine fun sc sl g => val_ok fun e h => ?_
  obtain ⟨q, h1, h⟩ := okB_inv h
  obtain ⟨p, ep⟩ := xDict_inv h1
  rw [ep]
  rcases or_inv h with h | h
  · obtain ⟨h2, h⟩ := and_inv h
    obtain ⟨h3, h⟩ := and_inv h
    obtain ⟨h4, h⟩ := and_inv h
    rw [List.isEmpty_iff.mp h2, List.isEmpty_iff.mp h3]
    rw [show dx = _ from hx sc sl _ h]
    exact EOk.dict_0 (of_not h4)
  · obtain ⟨h2, h⟩ := and_inv h
    obtain ⟨h3, h⟩ := and_inv h
    obtain ⟨h4, h⟩ := and_inv h
    obtain ⟨h5, h⟩ := and_inv h
    obtain ⟨h6, h7⟩ := and_inv h
    cases kd with
    | i => exact EOk.dict_i (hx sc sl _ h7) h3 (of_decide_eq_true h4) (of_not h5) (of_decide_eq_true h6)
    | s => exact EOk.dict_s (hx sc sl _ h7) h3 (of_decide_eq_true h4) (of_not h5) (of_decide_eq_true h6)
    | t => exact absurd rfl (of_not h2)
theorem sub_ok {a i : Chk} {da di : M} (ha : Snd prog w ca h₀ L₀ k a da) (hi : Snd prog w ca h₀ L₀ k i di) : Snd prog w ca h₀ L₀ k (fun sc sl => val (fSub (a sc sl) (i sc sl))) (mSub da di) := by
  refine fun sc sl g => val_ok fun e h => ?_
  obtain ⟨q, h1, h⟩ := okB_inv h
  obtain ⟨p, ep⟩ := xSub_inv h1
  rw [ep]
  exact EOk.sub (ha sc sl _ (and_inv h).1) (hi sc sl _ (and_inv h).2)
theorem slc_ok {a lo hi : Chk} {da dl dh : M} (ha : Snd prog w ca h₀ L₀ k a da) (hl : Snd prog w ca h₀ L₀ k lo dl) (hh : Snd prog w ca h₀ L₀ k hi dh) : Snd prog w ca h₀ L₀ k (fun sc sl => val (fSlc (a sc sl) (lo sc sl) (hi sc sl))) (mSlc da dl dh) := by
  refine fun sc sl g => val_ok fun e h => ?_
  obtain ⟨q, h1, h⟩ := okB_inv h
  obtain ⟨h2, h⟩ := and_inv h
  obtain ⟨r, h3, h⟩ := okB_inv h
  obtain ⟨h4, h⟩ := and_inv h
  obtain ⟨p, ep⟩ := xSub_inv h1
  rw [ep]
  obtain ⟨p', e⟩ := xSlice_inv h3
  rw [e, Option.isNone_iff_eq_none.mp (and_inv h).2]
  exact EOk.slc (ha sc sl _ h2) (hl sc sl _ h4) (hh sc sl _ (and_inv h).1)
include F in
theorem attr_ok {o : Chk} {dv : M} {name : Str} (ho : Snd prog w ca h₀ L₀ k o dv) : Snd prog w ca h₀ L₀ k (fun sc sl => val (fAttr (o sc sl) name)) (mAttr dv name) := by
  refine fun sc sl g => val_ok fun e h => ?_
  obtain ⟨q, h1, h⟩ := okB_inv h
  obtain ⟨h2, h⟩ := and_inv h
  obtain ⟨h3, h⟩ := and_inv h
  obtain ⟨y, h4, h⟩ := okB_inv h
  have h := ho sc sl _ h
  rw [xAttr_inv h1, of_decide_eq_true h2]
  rw [xName_inv h4] at h ⊢
  exact EOk.attr F.CF (of_decide_eq_true h3) h
include F hcf in
theorem call_ok {f : Nat} {xs : Chk} {dx : M} (hx : Snd prog w ca h₀ L₀ (k + 1) xs dx) : Snd prog w ca h₀ L₀ (k + 1) (fun sc sl => val (fCall (T.fn f) (xs sc sl) sc)) (mCall cf f dx) := by
  refine fun sc sl g => val_ok fun e h => ?_
  obtain ⟨q, h1, h⟩ := okB_inv h
  obtain ⟨y, h2, h⟩ := okB_inv h
  obtain ⟨h3, h⟩ := and_inv h
  obtain ⟨h4, h⟩ := and_inv h
  obtain ⟨h5, h⟩ := and_inv h
  obtain ⟨h6, h⟩ := and_inv h
  obtain ⟨h7, h⟩ := and_inv h
  rw [xCall_inv h1, xName_inv h2, List.isEmpty_iff.mp h6]
  have h3 := of_decide_eq_true h3
  exact EOk.call (F.fn _ _ h3).1 (F.fn _ _ h3).2 (of_decide_eq_true h4) (okName_of h5).1 (hx sc sl _ h) (noStar_of h7) ((hcf f).ok.le (Nat.le_succ k))
include F hcf in
theorem new_ok {c : Nat} {xs : Chk} {dx : M} (hx : Snd prog w ca h₀ L₀ (k + 1) xs dx) : Snd prog w ca h₀ L₀ (k + 1) (fun sc sl => val (fCall (T.cls c) (xs sc sl) sc)) (mNew P cf c dx) := by
  refine fun sc sl g => val_ok fun e h => ?_
  obtain ⟨q, h1, h⟩ := okB_inv h
  obtain ⟨y, h2, h⟩ := okB_inv h
  obtain ⟨h3, h⟩ := and_inv h
  obtain ⟨h4, h⟩ := and_inv h
  obtain ⟨h5, h⟩ := and_inv h
  obtain ⟨h6, h⟩ := and_inv h
  obtain ⟨h7, h⟩ := and_inv h
  rw [xCall_inv h1, xName_inv h2, List.isEmpty_iff.mp h6]
  have h3 := of_decide_eq_true h3
  obtain ⟨c1, c2, c3, c4, c5⟩ := F.cls _ _ h3
  cases hi : P.init c with
  | some f => exact EOk.new F.CF.inK c2 c3 (of_decide_eq_true h4) (okName_of h5).1 (hx sc sl _ h) (noStar_of h7) c1 c4 (c5 f hi).1 (c5 f hi).2 hi (hcf f)
  | none =>
    intro A env ρ ι H s v H' hsc hr he hR hd Q E hQ
    obtain ⟨vs, e1, hd⟩ := bind_inv hd
    obtain ⟨f, e2, hd⟩ := bind_inv hd
    rw [hi] at e2; cases e2
include F hcf in
theorem meth_ok {o : Chk} {dv : M} {m : Str} {xs : Chk} {dx : M} (ho : Snd prog w ca h₀ L₀ (k + 1) o dv) (hx : Snd prog w ca h₀ L₀ (k + 1) xs dx) : Snd prog w ca h₀ L₀ (k + 1) (fun sc sl => val (fMeth (o sc sl) m (xs sc sl))) (mMeth P cf dv m dx) := by
  refine fun sc sl g => val_ok fun e h => ?_
  obtain ⟨q, h1, h⟩ := okB_inv h
  obtain ⟨r, h2, h⟩ := okB_inv h
  obtain ⟨h3, h⟩ := and_inv h
  obtain ⟨h4, h⟩ := and_inv h
  obtain ⟨h5, h⟩ := and_inv h
  obtain ⟨h6, h⟩ := and_inv h
  obtain ⟨h7, h⟩ := and_inv h
  obtain ⟨h8, h⟩ := and_inv h
  rw [xCall_inv h1, xAttr_inv h2, of_decide_eq_true h3, List.isEmpty_iff.mp h7]
  refine EOk.meth F.CF F.MF (fun f => (hcf f).ok.le (Nat.le_succ k)) (fun env => ?_) (noStar_of h8) (of_decide_eq_true h5) h6 (ho sc sl _ (and_inv h).1) (hx sc sl _ (and_inv h).2)
  rcases or_inv h4 with h | h
  · obtain ⟨y, h⟩ := Option.isSome_iff_exists.mp h
    rw [xName_inv h]; rfl
  · obtain ⟨y, h⟩ := Option.isSome_iff_exists.mp h
    rw [xAttr_inv h]; rfl
include F in
theorem bi_ok {b : BI} {xs : Chk} {dx : M} (hx : Snd prog w ca h₀ L₀ k xs dx) : Snd prog w ca h₀ L₀ k (fun sc sl => val (fCall (some (biName b)) (xs sc sl) sc)) (mBi b dx) := by
  refine fun sc sl g => val_ok fun e h => ?_
  obtain ⟨q, h1, h⟩ := okB_inv h
  obtain ⟨y, h2, h⟩ := okB_inv h
  obtain ⟨h3, h⟩ := and_inv h
  obtain ⟨h4, h⟩ := and_inv h
  obtain ⟨h5, h⟩ := and_inv h
  obtain ⟨h6, h⟩ := and_inv h
  obtain ⟨h7, h⟩ := and_inv h
  rw [xCall_inv h1, xName_inv h2, List.isEmpty_iff.mp h6]
  have h3 := Option.some.inj (of_decide_eq_true h3)
  rw [← h3] at h4 h5 ⊢
  exact EOk.bi (F.bi b) (of_decide_eq_true h4) (okName_of h5).1 (hx sc sl _ h) (noStar_of h7)
theorem comp1_fin {elt iter cond : Chk} {tgt : List Str} {de di dc : M} (he : Snd prog w ca h₀ L₀ k elt de) (hi : Snd prog w ca h₀ L₀ k iter di) (hc : Snd prog w ca h₀ L₀ k cond dc) {g : Comprehension} {e : Expr} {scope : Scope} {pos : Pos} (h : fComp1 elt tgt iter cond sl sc scope (relab sc scope) g e = true) :
    CompGood prog w ca h₀ L₀ sl sc k (.ListComp e [g] scope pos) (mComp de tgt di dc) := by
  rw [(gen1_inv (and_inv (and_inv h).1).1).1]
  exact ⟨_, _, _, _, _, _, _, _, _, rfl, rfl, hi sc sl _ (and_inv (and_inv (and_inv h).2).1).2, compSc_of (and_inv (and_inv (and_inv h).1).2).1, CompOk.one (compSc_of (and_inv (and_inv (and_inv h).1).2).1) (all_loc (and_inv (and_inv (and_inv (and_inv h).1).2).2).1) (of_decide_eq_true (and_inv (and_inv (and_inv (and_inv h).1).2).2).2)
    (tgtL_of (and_inv (and_inv (and_inv h).2).1).1) (hc _ _ _ (and_inv (and_inv (and_inv h).2).2).1) (he _ _ _ (and_inv (and_inv (and_inv h).2).2).2), (gen1_inv (and_inv (and_inv h).1).1).2⟩
theorem comp2_fin {elt iter iter2 : Chk} {tgt tgt2 : List Str} {de di di2 : M} (he : Snd prog w ca h₀ L₀ k elt de) (hi : Snd prog w ca h₀ L₀ k iter di) (hi2 : Snd prog w ca h₀ L₀ k iter2 di2) {g g2 : Comprehension} {e : Expr} {scope : Scope} {pos : Pos}
    (h1 : (gen0 g && gen0 g2) = true) (hh : headC (tgt ++ tgt2) sl sc scope = true) (ht : (tgtC (relab sc scope) (sl ++ (tgt ++ tgt2)) tgt sl.length g.target && tgtC (relab sc scope) (sl ++ (tgt ++ tgt2)) tgt2 (sl.length + tgt.length) g2.target) = true)
    (h : (iter sc sl (.e g.iter) && (iter2 (relab sc scope) (sl ++ tgt) (.e g2.iter) && elt (relab sc scope) (sl ++ (tgt ++ tgt2)) (.e e))) = true) :
    CompGood prog w ca h₀ L₀ sl sc k (.ListComp e [g, g2] scope pos) (mComp2 de tgt di tgt2 di2) := by
  rw [gen0_inv (and_inv h1).1, gen0_inv (and_inv h1).2]
  exact ⟨_, _, _, _, _, _, _, _, _, rfl, rfl, hi sc sl _ (and_inv h).1, compSc_of (and_inv hh).1, CompOk.two (compSc_of (and_inv hh).1) (fun t ht => all_loc (and_inv (and_inv hh).2).1 t (List.mem_append.mpr (.inl ht))) (fun t ht => all_loc (and_inv (and_inv hh).2).1 t (List.mem_append.mpr (.inr ht))) (of_decide_eq_true (and_inv (and_inv hh).2).2)
    (tgtL_of (and_inv ht).1) (tgtL_of (and_inv ht).2) (hi2 _ _ _ (and_inv (and_inv h).2).1) (gen1_inv (and_inv (and_inv h1).2).1).2 (he _ _ _ (and_inv (and_inv h).2).2), (gen1_inv (and_inv (and_inv h1).1).1).2⟩
theorem comp1_ok {elt iter cond : Chk} {tgt : List Str} {de di dc : M} (he : Snd prog w ca h₀ L₀ k elt de) (hi : Snd prog w ca h₀ L₀ k iter di) (hc : Snd prog w ca h₀ L₀ k cond dc) : Snd prog w ca h₀ L₀ k (kComp (fComp elt tgt iter cond)) (mComp de tgt di dc) := by
  refine comp_ok fun sc sl x h => ?_
  obtain ⟨q, h1, h⟩ := okB_inv h
  obtain ⟨g, h2, h⟩ := okB_inv h
  rw [xComp_inv h1, one_inv h2]
  exact comp1_fin he hi hc h
theorem comp2_ok {elt iter iter2 : Chk} {tgt tgt2 : List Str} {de di di2 : M} (he : Snd prog w ca h₀ L₀ k elt de) (hi : Snd prog w ca h₀ L₀ k iter di) (hi2 : Snd prog w ca h₀ L₀ k iter2 di2) : Snd prog w ca h₀ L₀ k (kComp (fComp2 elt tgt iter tgt2 iter2)) (mComp2 de tgt di tgt2 di2) := by
  refine comp_ok fun sc sl x h => ?_
  obtain ⟨q, h1, h⟩ := okB_inv h
  obtain ⟨g, h2, h⟩ := okB_inv h
  rw [xComp_inv h1, two_inv h2]
  exact comp2_fin he hi hi2 (and_inv (and_inv h).1).1 (and_inv (and_inv (and_inv h).1).2).1 (and_inv (and_inv (and_inv h).1).2).2 (and_inv h).2
include F hcf in
theorem snd (x : X) : Snd prog w ca h₀ L₀ (k + 1) (chk T x) (ev P cf x) := by
  induction x with
  | loc i => exact loc_ok i
  | cnone => exact none_ok
  | cint n => exact cint_ok n
  | cstr n => exact cstr_ok n
  | cbool b => exact c_ok b
  | bin op a b ha hb => exact bin_ok ha hb
  | neg a ha => exact neg_ok ha
  | cmp op a b ha hb => exact cmp_ok ha hb
  | or2 a b ha hb => exact or_ok ha hb
  | ite t a b ht ha hb => exact ite_ok ht ha hb
  | list xs hx => exact list_ok hx
  | tup xs hx => exact tup_ok hx
  | dict kd xs hx => exact dict_ok hx
  | sub a i ha hi => exact sub_ok ha hi
  | slc a lo hi ha hl hh => exact slc_ok ha hl hh
  | attr o name ho => exact attr_ok F ho
  | call f xs hx => exact call_ok F hcf hx
  | new c xs hx => exact new_ok F hcf hx
  | meth o m xs ho hx => exact meth_ok F hcf ho hx
  | bi b xs hx => exact bi_ok F hx
  | comp elt tgt iter cond he hi hc => exact comp1_ok he hi hc
  | comp2 elt tgt iter tgt2 iter2 he hi hi2 => exact comp2_ok he hi hi2
  | nil => exact nil_ok
  | cons a r ha hr => exact cons_ok ha hr
end
end
end Mine.L1

namespace Mine.L1
section
open PySem PySem.W PyProof.Rows
set_option maxRecDepth 10000
set_option autoImplicit false
set_option linter.unusedSectionVars false

/-! the parts of a statement -/
noncomputable def yAsg (e : Stmt) : Option (List Expr × Expr × Pos) := VW.get (f := fun (x : List Expr × Expr × Pos) (_ : Unit) => Stmt.Assign x.1 x.2.1 x.2.2) (e := e) (@Stmt.casesOn (VW fun (x : List Expr × Expr × Pos) (_ : Unit) => Stmt.Assign x.1 x.2.1 x.2.2) e (fun _ _ _ _ _ _ _ _ _ _ => VW.no _ _) (fun _ _ _ _ _ _ _ _ _ _ => VW.no _ _) (fun _ _ _ _ _ _ _ _ _ _ _ => VW.no _ _) (fun _ _ => VW.no _ _) (fun _ _ => VW.no _ _) (fun a0 a1 a2 => VW.yes _ (a0, a1, a2) ()) (fun _ _ _ _ _ _ _ => VW.no _ _) (fun _ _ _ _ => VW.no _ _) (fun _ _ _ _ _ => VW.no _ _) (fun _ _ _ _ _ => VW.no _ _) (fun _ _ _ _ _ => VW.no _ _) (fun _ _ _ _ => VW.no _ _) (fun _ _ _ _ => VW.no _ _) (fun _ _ _ => VW.no _ _) (fun _ _ _ => VW.no _ _) (fun _ _ _ => VW.no _ _) (fun _ _ _ => VW.no _ _) (fun _ _ _ _ _ => VW.no _ _) (fun _ _ _ _ _ => VW.no _ _) (fun _ _ _ => VW.no _ _) (fun _ _ => VW.no _ _) (fun _ _ _ _ => VW.no _ _) (fun _ _ => VW.no _ _) (fun _ _ => VW.no _ _) (fun _ _ => VW.no _ _) (fun _ => VW.no _ _) (fun _ => VW.no _ _) (fun _ => VW.no _ _))
theorem yAsg_inv {e : Stmt} {x} (h : yAsg e = some x) : e = Stmt.Assign x.1 x.2.1 x.2.2 := (VW.inv h).2
noncomputable def yAug (e : Stmt) : Option (Expr × Operator × Expr) := VW.get (f := fun (x : Expr × Operator × Expr) (p : Pos) => Stmt.AugAssign x.1 x.2.1 x.2.2 p) (e := e) (@Stmt.casesOn (VW fun (x : Expr × Operator × Expr) (p : Pos) => Stmt.AugAssign x.1 x.2.1 x.2.2 p) e (fun _ _ _ _ _ _ _ _ _ _ => VW.no _ _) (fun _ _ _ _ _ _ _ _ _ _ => VW.no _ _) (fun _ _ _ _ _ _ _ _ _ _ _ => VW.no _ _) (fun _ _ => VW.no _ _) (fun _ _ => VW.no _ _) (fun _ _ _ => VW.no _ _) (fun _ _ _ _ _ _ _ => VW.no _ _) (fun a0 a1 a2 a3 => VW.yes _ (a0, a1, a2) (a3)) (fun _ _ _ _ _ => VW.no _ _) (fun _ _ _ _ _ => VW.no _ _) (fun _ _ _ _ _ => VW.no _ _) (fun _ _ _ _ => VW.no _ _) (fun _ _ _ _ => VW.no _ _) (fun _ _ _ => VW.no _ _) (fun _ _ _ => VW.no _ _) (fun _ _ _ => VW.no _ _) (fun _ _ _ => VW.no _ _) (fun _ _ _ _ _ => VW.no _ _) (fun _ _ _ _ _ => VW.no _ _) (fun _ _ _ => VW.no _ _) (fun _ _ => VW.no _ _) (fun _ _ _ _ => VW.no _ _) (fun _ _ => VW.no _ _) (fun _ _ => VW.no _ _) (fun _ _ => VW.no _ _) (fun _ => VW.no _ _) (fun _ => VW.no _ _) (fun _ => VW.no _ _))
theorem yAug_inv {e : Stmt} {x} (h : yAug e = some x) : ∃ p, e = Stmt.AugAssign x.1 x.2.1 x.2.2 p := ⟨_, (VW.inv h).2⟩
noncomputable def yIf (e : Stmt) : Option (Expr × List Stmt × List Stmt) := VW.get (f := fun (x : Expr × List Stmt × List Stmt) (p : Pos) => Stmt.If x.1 x.2.1 x.2.2 p) (e := e) (@Stmt.casesOn (VW fun (x : Expr × List Stmt × List Stmt) (p : Pos) => Stmt.If x.1 x.2.1 x.2.2 p) e (fun _ _ _ _ _ _ _ _ _ _ => VW.no _ _) (fun _ _ _ _ _ _ _ _ _ _ => VW.no _ _) (fun _ _ _ _ _ _ _ _ _ _ _ => VW.no _ _) (fun _ _ => VW.no _ _) (fun _ _ => VW.no _ _) (fun _ _ _ => VW.no _ _) (fun _ _ _ _ _ _ _ => VW.no _ _) (fun _ _ _ _ => VW.no _ _) (fun _ _ _ _ _ => VW.no _ _) (fun _ _ _ _ _ => VW.no _ _) (fun _ _ _ _ _ => VW.no _ _) (fun _ _ _ _ => VW.no _ _) (fun a0 a1 a2 a3 => VW.yes _ (a0, a1, a2) (a3)) (fun _ _ _ => VW.no _ _) (fun _ _ _ => VW.no _ _) (fun _ _ _ => VW.no _ _) (fun _ _ _ => VW.no _ _) (fun _ _ _ _ _ => VW.no _ _) (fun _ _ _ _ _ => VW.no _ _) (fun _ _ _ => VW.no _ _) (fun _ _ => VW.no _ _) (fun _ _ _ _ => VW.no _ _) (fun _ _ => VW.no _ _) (fun _ _ => VW.no _ _) (fun _ _ => VW.no _ _) (fun _ => VW.no _ _) (fun _ => VW.no _ _) (fun _ => VW.no _ _))
theorem yIf_inv {e : Stmt} {x} (h : yIf e = some x) : ∃ p, e = Stmt.If x.1 x.2.1 x.2.2 p := ⟨_, (VW.inv h).2⟩
noncomputable def yWhile (e : Stmt) : Option (Expr × List Stmt × List Stmt) := VW.get (f := fun (x : Expr × List Stmt × List Stmt) (p : Pos) => Stmt.While x.1 x.2.1 x.2.2 p) (e := e) (@Stmt.casesOn (VW fun (x : Expr × List Stmt × List Stmt) (p : Pos) => Stmt.While x.1 x.2.1 x.2.2 p) e (fun _ _ _ _ _ _ _ _ _ _ => VW.no _ _) (fun _ _ _ _ _ _ _ _ _ _ => VW.no _ _) (fun _ _ _ _ _ _ _ _ _ _ _ => VW.no _ _) (fun _ _ => VW.no _ _) (fun _ _ => VW.no _ _) (fun _ _ _ => VW.no _ _) (fun _ _ _ _ _ _ _ => VW.no _ _) (fun _ _ _ _ => VW.no _ _) (fun _ _ _ _ _ => VW.no _ _) (fun _ _ _ _ _ => VW.no _ _) (fun _ _ _ _ _ => VW.no _ _) (fun a0 a1 a2 a3 => VW.yes _ (a0, a1, a2) (a3)) (fun _ _ _ _ => VW.no _ _) (fun _ _ _ => VW.no _ _) (fun _ _ _ => VW.no _ _) (fun _ _ _ => VW.no _ _) (fun _ _ _ => VW.no _ _) (fun _ _ _ _ _ => VW.no _ _) (fun _ _ _ _ _ => VW.no _ _) (fun _ _ _ => VW.no _ _) (fun _ _ => VW.no _ _) (fun _ _ _ _ => VW.no _ _) (fun _ _ => VW.no _ _) (fun _ _ => VW.no _ _) (fun _ _ => VW.no _ _) (fun _ => VW.no _ _) (fun _ => VW.no _ _) (fun _ => VW.no _ _))
theorem yWhile_inv {e : Stmt} {x} (h : yWhile e = some x) : ∃ p, e = Stmt.While x.1 x.2.1 x.2.2 p := ⟨_, (VW.inv h).2⟩
noncomputable def yFor (e : Stmt) : Option (Expr × Expr × List Stmt × List Stmt) := VW.get (f := fun (x : Expr × Expr × List Stmt × List Stmt) (p : Pos) => Stmt.For x.1 x.2.1 x.2.2.1 x.2.2.2 p) (e := e) (@Stmt.casesOn (VW fun (x : Expr × Expr × List Stmt × List Stmt) (p : Pos) => Stmt.For x.1 x.2.1 x.2.2.1 x.2.2.2 p) e (fun _ _ _ _ _ _ _ _ _ _ => VW.no _ _) (fun _ _ _ _ _ _ _ _ _ _ => VW.no _ _) (fun _ _ _ _ _ _ _ _ _ _ _ => VW.no _ _) (fun _ _ => VW.no _ _) (fun _ _ => VW.no _ _) (fun _ _ _ => VW.no _ _) (fun _ _ _ _ _ _ _ => VW.no _ _) (fun _ _ _ _ => VW.no _ _) (fun _ _ _ _ _ => VW.no _ _) (fun a0 a1 a2 a3 a4 => VW.yes _ (a0, a1, a2, a3) (a4)) (fun _ _ _ _ _ => VW.no _ _) (fun _ _ _ _ => VW.no _ _) (fun _ _ _ _ => VW.no _ _) (fun _ _ _ => VW.no _ _) (fun _ _ _ => VW.no _ _) (fun _ _ _ => VW.no _ _) (fun _ _ _ => VW.no _ _) (fun _ _ _ _ _ => VW.no _ _) (fun _ _ _ _ _ => VW.no _ _) (fun _ _ _ => VW.no _ _) (fun _ _ => VW.no _ _) (fun _ _ _ _ => VW.no _ _) (fun _ _ => VW.no _ _) (fun _ _ => VW.no _ _) (fun _ _ => VW.no _ _) (fun _ => VW.no _ _) (fun _ => VW.no _ _) (fun _ => VW.no _ _))
theorem yFor_inv {e : Stmt} {x} (h : yFor e = some x) : ∃ p, e = Stmt.For x.1 x.2.1 x.2.2.1 x.2.2.2 p := ⟨_, (VW.inv h).2⟩
noncomputable def yRet (e : Stmt) : Option (Option Expr) := VW.get (f := fun (x : Option Expr) (p : Pos) => Stmt.Return x p) (e := e) (@Stmt.casesOn (VW fun (x : Option Expr) (p : Pos) => Stmt.Return x p) e (fun _ _ _ _ _ _ _ _ _ _ => VW.no _ _) (fun _ _ _ _ _ _ _ _ _ _ => VW.no _ _) (fun _ _ _ _ _ _ _ _ _ _ _ => VW.no _ _) (fun a0 a1 => VW.yes _ (a0) (a1)) (fun _ _ => VW.no _ _) (fun _ _ _ => VW.no _ _) (fun _ _ _ _ _ _ _ => VW.no _ _) (fun _ _ _ _ => VW.no _ _) (fun _ _ _ _ _ => VW.no _ _) (fun _ _ _ _ _ => VW.no _ _) (fun _ _ _ _ _ => VW.no _ _) (fun _ _ _ _ => VW.no _ _) (fun _ _ _ _ => VW.no _ _) (fun _ _ _ => VW.no _ _) (fun _ _ _ => VW.no _ _) (fun _ _ _ => VW.no _ _) (fun _ _ _ => VW.no _ _) (fun _ _ _ _ _ => VW.no _ _) (fun _ _ _ _ _ => VW.no _ _) (fun _ _ _ => VW.no _ _) (fun _ _ => VW.no _ _) (fun _ _ _ _ => VW.no _ _) (fun _ _ => VW.no _ _) (fun _ _ => VW.no _ _) (fun _ _ => VW.no _ _) (fun _ => VW.no _ _) (fun _ => VW.no _ _) (fun _ => VW.no _ _))
theorem yRet_inv {e : Stmt} {x} (h : yRet e = some x) : ∃ p, e = Stmt.Return x p := ⟨_, (VW.inv h).2⟩
noncomputable def yExp (e : Stmt) : Option (Expr) := VW.get (f := fun (x : Expr) (p : Pos) => Stmt.Expr x p) (e := e) (@Stmt.casesOn (VW fun (x : Expr) (p : Pos) => Stmt.Expr x p) e (fun _ _ _ _ _ _ _ _ _ _ => VW.no _ _) (fun _ _ _ _ _ _ _ _ _ _ => VW.no _ _) (fun _ _ _ _ _ _ _ _ _ _ _ => VW.no _ _) (fun _ _ => VW.no _ _) (fun _ _ => VW.no _ _) (fun _ _ _ => VW.no _ _) (fun _ _ _ _ _ _ _ => VW.no _ _) (fun _ _ _ _ => VW.no _ _) (fun _ _ _ _ _ => VW.no _ _) (fun _ _ _ _ _ => VW.no _ _) (fun _ _ _ _ _ => VW.no _ _) (fun _ _ _ _ => VW.no _ _) (fun _ _ _ _ => VW.no _ _) (fun _ _ _ => VW.no _ _) (fun _ _ _ => VW.no _ _) (fun _ _ _ => VW.no _ _) (fun _ _ _ => VW.no _ _) (fun _ _ _ _ _ => VW.no _ _) (fun _ _ _ _ _ => VW.no _ _) (fun _ _ _ => VW.no _ _) (fun _ _ => VW.no _ _) (fun _ _ _ _ => VW.no _ _) (fun _ _ => VW.no _ _) (fun _ _ => VW.no _ _) (fun a0 a1 => VW.yes _ (a0) (a1)) (fun _ => VW.no _ _) (fun _ => VW.no _ _) (fun _ => VW.no _ _))
theorem yExp_inv {e : Stmt} {x} (h : yExp e = some x) : ∃ p, e = Stmt.Expr x p := ⟨_, (VW.inv h).2⟩
theorem isCall_stores {ts : List Expr} {e : Expr} {q} {n : Nat} {p : Pos} (h : xCall e = some q) (env : Env) : swappedStores [.Tuple ts n p] e env = pure Option.none := by
  rw [xCall_inv h]; rfl
theorem isCall_swap {e : Expr} {q} (h : xCall e = some q) (t : Option Expr) (l : Nat) (env : Env) : swapsWith e t l env = pure false := by
  rw [xCall_inv h]; rfl
theorem swap_att {e o : Expr} {name : Str} {p : Pos} (l : Nat) (env : Env) : swapsWith e (some (.Attribute o name p)) l env = pure false := by
  cases e <;> rfl
theorem swap_sub {e o i : Expr} {p : Pos} (l : Nat) (env : Env) : swapsWith e (some (.Subscript o i p)) l env = pure false := by
  cases e <;> rfl

/-- one statement, or many -/
inductive STgt where
  | s (st : Stmt) | ss (sts : List Stmt)
abbrev SChk := STgt → Bool
noncomputable def one1 (f : Stmt → Bool) : SChk
  | .s st => f st
  | .ss _ => false
noncomputable def zNil : SChk
  | .s _ => false
  | .ss sts => sts.isEmpty
noncomputable def zCons (a r : SChk) : SChk
  | .s _ => false
  | .ss sts => okB sts.head? fun st => a (.s st) && r (.ss sts.tail)
noncomputable def gAsg (sc : Scope) (sl : List Str) (i : Nat) (e : Tgt → Bool) (st : Stmt) : Bool := okB (yAsg st) fun q => okB (one q.1) fun t => okB (xName t) fun x => decide (sl[i]? = some x.1) && (isBound sc x.1 && e (.a i x.1 x.2 q.2.1 q.2.2))
noncomputable def gUnp (sc : Scope) (sl : List Str) (is : List Nat) (e : Tgt → Bool) (st : Stmt) : Bool := okB (yAsg st) fun q => okB (one q.1) fun t => okB (xTup t) fun es => (xCall q.2.1).isSome && (namesP (isBound sc) sl is es && e (.e q.2.1))
noncomputable def gAtt (o : Tgt → Bool) (name : Str) (e : Tgt → Bool) (st : Stmt) : Bool := okB (yAsg st) fun q => okB (one q.1) fun t => okB (xAttr t) fun x => decide (x.2.1 = name) && (decide (name ∈ attrNames) && (e (.e q.2.1) && o (.e x.1)))
noncomputable def gSub (o i e : Tgt → Bool) (st : Stmt) : Bool := okB (yAsg st) fun q => okB (one q.1) fun t => okB (xSub t) fun x => e (.e q.2.1) && (o (.e x.1) && i (.e x.2))
noncomputable def gAug (o : Tgt → Bool) (name : Str) (e : Tgt → Bool) (st : Stmt) : Bool := okB (yAug st) fun q => decide (q.2.1 = .Add) && okB (xAttr q.1) fun x => decide (x.2.1 = name) && (decide (name ∈ attrNames) && (o (.e x.1) && e (.e q.2.2)))
noncomputable def gIf (t : Tgt → Bool) (a b : SChk) (st : Stmt) : Bool := okB (yIf st) fun q => t (.t q.1) && (a (.ss q.2.1) && b (.ss q.2.2))
noncomputable def gWhile (t : Tgt → Bool) (b : SChk) (st : Stmt) : Bool := okB (yWhile st) fun q => q.2.2.isEmpty && (t (.t q.1) && b (.ss q.2.1))
noncomputable def gFor (sc : Scope) (sl : List Str) (is : List Nat) (many : Bool) (it : Tgt → Bool) (b : SChk) (st : Stmt) : Bool := okB (yFor st) fun q => q.2.2.2.isEmpty && (noSet q.2.1 && (tgtP (isBound sc) sl is many q.1 && (it (.e q.2.1) && b (.ss q.2.2.1))))
noncomputable def gRet (e : Tgt → Bool) (st : Stmt) : Bool := okB (yRet st) fun q => okB q fun x => e (.e x)
noncomputable def gExp (e : Tgt → Bool) (st : Stmt) : Bool := okB (yExp st) fun x => noComp x && e (.e x)

noncomputable def chkS (T : Tab) (sc : Scope) (sl : List Str) : S → SChk := @S.rec (fun _ => SChk) zNil (fun _ _ a r => zCons a r) (fun i e => one1 (gAsg sc sl i (chk T e sc sl))) (fun is e => one1 (gUnp sc sl is (chk T e sc sl)))
  (fun o name e => one1 (gAtt (chk T o sc sl) name (chk T e sc sl))) (fun o i e => one1 (gSub (chk T o sc sl) (chk T i sc sl) (chk T e sc sl))) (fun o name e => one1 (gAug (chk T o sc sl) name (chk T e sc sl))) (fun t _ _ a b => one1 (gIf (chk T t sc sl) a b))
  (fun t _ b => one1 (gWhile (chk T t sc sl) b)) (fun is many it _ b => one1 (gFor sc sl is many (chk T it sc sl) b)) (fun e => one1 (gRet (chk T e sc sl))) (fun e => one1 (gExp (chk T e sc sl)))

section
variable {prog : Program} {w : World} {ca fa : Nat → Addr} {h₀ : Heap} {L₀ : Addr} {k : Nat} {K : Frag} {P : Prg} {T : Tab}
variable {sc : Scope} {sl : List Str}

variable (prog w ca h₀ L₀ k sl sc) in
noncomputable def SndS (c : SChk) (d : Mx) : Prop := (∀ st, c (.s st) = true → SOk prog w ca h₀ L₀ sl sc k st d) ∧ ∀ sts, c (.ss sts) = true → SsOk prog w ca h₀ L₀ sl sc k sts d

theorem one1_ok {f : Stmt → Bool} {d : Mx} (h : ∀ st, f st = true → SOk prog w ca h₀ L₀ sl sc k st d) : SndS prog w ca h₀ L₀ k sc sl (one1 f) d := ⟨h, fun _ h => (by cases h)⟩
theorem zNil_ok : SndS prog w ca h₀ L₀ k sc sl zNil (fun ρ H => some (.next, ρ, H)) := ⟨fun _ h => (by cases h), fun _ h => (by rw [List.isEmpty_iff.mp h]; exact SsOk.nil)⟩
theorem zCons_ok {a r : SChk} {da dr : Mx} (ha : SndS prog w ca h₀ L₀ k sc sl a da) (hr : SndS prog w ca h₀ L₀ k sc sl r dr) : SndS prog w ca h₀ L₀ k sc sl (zCons a r) (sCons da dr) := by
  refine ⟨fun st h => (by cases h), fun sts h => ?_⟩
  obtain ⟨st, h1, h⟩ := okB_inv h
  rw [head_tail h1]
  exact SsOk.cons (ha.1 _ (and_inv h).1) (hr.2 _ (and_inv h).2)

section
variable (hk : sc.kind = .function) (hnd : sl.Nodup) {e o i t : Chk} {de do_ di dt : M} (he : Snd prog w ca h₀ L₀ k e de) (ho : Snd prog w ca h₀ L₀ k o do_) (hi : Snd prog w ca h₀ L₀ k i di) (ht : Snd prog w ca h₀ L₀ k t dt)
include hk hnd he in
theorem gAsg_ok (j : Nat) : SndS prog w ca h₀ L₀ k sc sl (one1 (gAsg sc sl j (e sc sl))) (sAsg j de) := one1_ok fun st h => by
  obtain ⟨q, h1, h⟩ := okB_inv h
  obtain ⟨u, h2, h⟩ := okB_inv h
  obtain ⟨x, h3, h⟩ := okB_inv h
  obtain ⟨h4, h⟩ := and_inv h
  obtain ⟨h5, h⟩ := and_inv h
  rw [yAsg_inv h1, one_inv h2, xName_inv h3]
  exact he sc sl _ h hk hnd (of_decide_eq_true h4) h5
include hnd he in
theorem gUnp_ok (is : List Nat) : SndS prog w ca h₀ L₀ k sc sl (one1 (gUnp sc sl is (e sc sl))) (sUnp is de) := one1_ok fun st h => by
  obtain ⟨q, h1, h⟩ := okB_inv h
  obtain ⟨u, h2, h⟩ := okB_inv h
  obtain ⟨x, h3, h⟩ := okB_inv h
  obtain ⟨h4, h⟩ := and_inv h
  obtain ⟨h5, h⟩ := and_inv h
  obtain ⟨y, h4⟩ := Option.isSome_iff_exists.mp h4
  obtain ⟨n, p, e3⟩ := xTup_inv h3
  rw [yAsg_inv h1, one_inv h2, e3]
  exact SOk.unp (he sc sl _ h) hnd (namesB_of h5) (fun env => by simp only [swapsWithSole]; exact isCall_swap h4 _ _ env) fun env => isCall_stores h4 env
variable {K : Frag} (CF : ClsFacts K h₀ ca)
include CF he ho in
theorem gAtt_ok (name : Str) : SndS prog w ca h₀ L₀ k sc sl (one1 (gAtt (o sc sl) name (e sc sl))) (sAtt do_ name de) := one1_ok fun st h => by
  obtain ⟨q, h1, h⟩ := okB_inv h
  obtain ⟨u, h2, h⟩ := okB_inv h
  obtain ⟨x, h3, h⟩ := okB_inv h
  obtain ⟨h4, h⟩ := and_inv h
  obtain ⟨h5, h⟩ := and_inv h
  rw [yAsg_inv h1, one_inv h2, xAttr_inv h3, of_decide_eq_true h4]
  exact SOk.att CF (of_decide_eq_true h5) (he sc sl _ (and_inv h).1) (ho sc sl _ (and_inv h).2) (fun env => swap_att _ env)
include he ho hi in
theorem gSub_ok : SndS prog w ca h₀ L₀ k sc sl (one1 (gSub (o sc sl) (i sc sl) (e sc sl))) (sSub do_ di de) := one1_ok fun st h => by
  obtain ⟨q, h1, h⟩ := okB_inv h
  obtain ⟨u, h2, h⟩ := okB_inv h
  obtain ⟨x, h3, h⟩ := okB_inv h
  obtain ⟨h4, h⟩ := and_inv h
  obtain ⟨p, e3⟩ := xSub_inv h3
  rw [yAsg_inv h1, one_inv h2, e3]
  exact SOk.sub (he sc sl _ h4) (ho sc sl _ (and_inv h).1) (hi sc sl _ (and_inv h).2) (fun env => swap_sub _ env)
include CF he ho in
theorem gAug_ok (name : Str) : SndS prog w ca h₀ L₀ k sc sl (one1 (gAug (o sc sl) name (e sc sl))) (sAug do_ name de) := one1_ok fun st h => by
  obtain ⟨q, h1, h⟩ := okB_inv h
  obtain ⟨h2, h⟩ := and_inv h
  obtain ⟨x, h3, h⟩ := okB_inv h
  obtain ⟨h4, h⟩ := and_inv h
  obtain ⟨h5, h⟩ := and_inv h
  obtain ⟨p, e1⟩ := yAug_inv h1
  rw [e1, of_decide_eq_true h2, xAttr_inv h3, of_decide_eq_true h4]
  exact SOk.aug CF (of_decide_eq_true h5) (ho sc sl _ (and_inv h).1) (he sc sl _ (and_inv h).2)
include ht in
theorem gIf_ok {a b : SChk} {da db : Mx} (ha : SndS prog w ca h₀ L₀ k sc sl a da) (hb : SndS prog w ca h₀ L₀ k sc sl b db) : SndS prog w ca h₀ L₀ k sc sl (one1 (gIf (t sc sl) a b)) (sCond dt da db) := one1_ok fun st h => by
  obtain ⟨q, h1, h⟩ := okB_inv h
  obtain ⟨h2, h⟩ := and_inv h
  obtain ⟨p, e1⟩ := yIf_inv h1
  rw [e1]
  exact SOk.ite (ht sc sl _ h2) (ha.2 _ (and_inv h).1) (hb.2 _ (and_inv h).2)
include ht in
theorem gWhile_ok {b : SChk} {db : Mx} (hb : SndS prog w ca h₀ L₀ k sc sl b db) : SndS prog w ca h₀ L₀ k sc sl (one1 (gWhile (t sc sl) b)) (whileL dt db 100) := one1_ok fun st h => by
  obtain ⟨q, h1, h⟩ := okB_inv h
  obtain ⟨h2, h⟩ := and_inv h
  obtain ⟨p, e1⟩ := yWhile_inv h1
  rw [e1, List.isEmpty_iff.mp h2]
  exact SOk.while_ (ht sc sl _ (and_inv h).1) (hb.2 _ (and_inv h).2) 100
include hnd hi in
theorem gFor_ok (is : List Nat) (many : Bool) {b : SChk} {db : Mx} (hb : SndS prog w ca h₀ L₀ k sc sl b db) : SndS prog w ca h₀ L₀ k sc sl (one1 (gFor sc sl is many (i sc sl) b)) (sFor is many di db) := one1_ok fun st h => by
  obtain ⟨q, h1, h⟩ := okB_inv h
  obtain ⟨h2, h⟩ := and_inv h
  obtain ⟨h3, h⟩ := and_inv h
  obtain ⟨h4, h⟩ := and_inv h
  obtain ⟨p, e1⟩ := yFor_inv h1
  rw [e1, List.isEmpty_iff.mp h2]
  exact SOk.for_ hnd (tgtB_of h4) (hi sc sl _ (and_inv h).1) (hb.2 _ (and_inv h).2) (noSet_fold h3)
include he in
theorem gRet_ok : SndS prog w ca h₀ L₀ k sc sl (one1 (gRet (e sc sl))) (sRet de) := one1_ok fun st h => by
  obtain ⟨q, h1, h⟩ := okB_inv h
  obtain ⟨x, h2, h⟩ := okB_inv h
  obtain ⟨p, e1⟩ := yRet_inv h1
  rw [e1, h2]
  exact SOk.ret (he sc sl _ h)
include hk he in
theorem gExp_ok : SndS prog w ca h₀ L₀ k sc sl (one1 (gExp (e sc sl))) (sExp de) := one1_ok fun st h => by
  obtain ⟨x, h1, h⟩ := okB_inv h
  obtain ⟨h2, h⟩ := and_inv h
  obtain ⟨p, e1⟩ := yExp_inv h1
  rw [e1]
  exact SOk.expr (he sc sl _ h) (by unfold interactive; simp [hk]) (fun env => noComp_swap h2 _ _ env)
end

variable (F : Facts prog w K h₀ ca fa P T) {cf : Nat → List V → St → Option (V × St)} (hcf : ∀ f, FCk prog w ca h₀ L₀ (fa f) k (cf f)) (hk : sc.kind = .function) (hnd : sl.Nodup)
include F hcf hk hnd in
theorem sndS (x : S) : SndS prog w ca h₀ L₀ (k + 1) sc sl (chkS T sc sl x) (ex P cf x) := by
  induction x with
  | nil => exact zNil_ok
  | cons a r ha hr => exact zCons_ok ha hr
  | asg i e => exact gAsg_ok hk hnd (snd F hcf e) i
  | unp is e => exact gUnp_ok hnd (snd F hcf e) is
  | att o name e => exact gAtt_ok (snd F hcf e) (snd F hcf o) F.CF name
  | sub o i e => exact gSub_ok (snd F hcf e) (snd F hcf o) (snd F hcf i)
  | aug o name e => exact gAug_ok (snd F hcf e) (snd F hcf o) F.CF name
  | cond t a b ha hb => exact gIf_ok (snd F hcf t) ha hb
  | loop t b hb => exact gWhile_ok (snd F hcf t) hb
  | for_ is many it b hb => exact gFor_ok hnd (snd F hcf it) is many hb
  | ret e => exact gRet_ok (snd F hcf e)
  | exp e => exact gExp_ok hk (snd F hcf e)
end
end
end Mine.L1

namespace Mine.L1
section
open PySem PySem.W PyProof.Rows
set_option maxRecDepth 10000
set_option autoImplicit false

noncomputable def slotTab : Nat → List Str
  | 0 => s_Gatesdd_initdd | 1 => s_Gates_pair | 2 => s_Gates_are_opposite | 3 => s_Gates_inv | 4 => s_Gates_both | 5 => s_Gates_either | 6 => s_Gates_differ | 7 => s_Gates_same | 8 => s_Gates_mux
  | 9 => s_word_not | 10 => s_word_and | 11 => s_word_or | 12 => s_word_xor | 13 => s_word_mux | 14 => s_all_of | 15 => s_any_of | 16 => s_parity | 17 => s_equal_words | 18 => s_less_words | 19 => s_add_words
  | 20 => s_sub_words | 21 => s_neg_word | 22 => s_magnitude | 23 => s_mul_words | 24 => s_divide_words | 25 => s_signed_divide | 26 => s_moved_word | 27 => s_shift_words | 28 => s_decode
  | 29 => s_Netlistdd_initdd | 30 => s_Netlist_new_net | 31 => s_Netlist_new_nets | 32 => s_Netlist_add_input | 33 => s_Netlist_add_cell | 34 => s_Netlist_drive
  | 35 => s__law_pick | 36 => s__law_table | 37 => s__law_word | 38 => s__law_words | 39 => s__law_number | 40 => s__law_bits | 41 => s__law_signed | 42 => s__law_divided | 43 => s__law_signed_divided | 44 => s__law_due | 45 => s_law
  | _ => []
noncomputable def faTab : Nat → Addr
  | 0 => 35 | 1 => 42 | 2 => 49 | 3 => 56 | 4 => 63 | 5 => 70 | 6 => 77 | 7 => 84 | 8 => 91
  | 9 => 103 | 10 => 108 | 11 => 113 | 12 => 118 | 13 => 123 | 14 => 130 | 15 => 137 | 16 => 144 | 17 => 149 | 18 => 156 | 19 => 163
  | 20 => 170 | 21 => 177 | 22 => 184 | 23 => 191 | 24 => 198 | 25 => 205 | 26 => 212 | 27 => 219 | 28 => 224
  | 29 => 238 | 30 => 245 | 31 => 250 | 32 => 257 | 33 => 272 | 34 => 280
  | 35 => 308 | 36 => 315 | 37 => 322 | 38 => 327 | 39 => 332 | 40 => 339 | 41 => 346 | 42 => 353 | 43 => 360 | 44 => 365 | _ => 370
noncomputable def caTab : Nat → Addr
  | 0 => 94 | _ => 297
noncomputable def fnNames : List (Nat × Str) := [(9, "word_not"), (10, "word_and"), (11, "word_or"), (12, "word_xor"), (13, "word_mux"), (14, "all_of"), (15, "any_of"), (16, "parity"), (17, "equal_words"), (18, "less_words"), (19, "add_words"),
  (20, "sub_words"), (21, "neg_word"), (22, "magnitude"), (23, "mul_words"), (24, "divide_words"), (25, "signed_divide"), (26, "moved_word"), (27, "shift_words"), (28, "decode"),
  (35, "_law_pick"), (36, "_law_table"), (37, "_law_word"), (38, "_law_words"), (39, "_law_number"), (40, "_law_bits"), (41, "_law_signed"), (42, "_law_divided"), (43, "_law_signed_divided"), (44, "_law_due")]
noncomputable def clsNames : List (Nat × Str) := [(0, "Gates"), (1, "Netlist")]
noncomputable def tab : Tab := ⟨fun f => fnNames.lookup f, fun c => clsNames.lookup c⟩
noncomputable def methLists : List (Nat × List (Str × Nat)) := [(0, [("pair", 1), ("are_opposite", 2), ("inv", 3), ("both", 4), ("either", 5), ("differ", 6), ("same", 7), ("mux", 8)]),
  (1, [("new_net", 30), ("new_nets", 31), ("add_input", 32), ("add_cell", 33), ("drive", 34)])]
noncomputable def biList : List BI := [.len, .range, .min, .max, .list, .sum, .int, .tuple, .sorted]

noncomputable def scOk (sl : List Str) (np : Nat) (sc : Scope) : Bool :=
  decide (sc.kind = .function) && (!sc.isCoroutine && (!sc.isGenerator && (sc.names.all (fun y => !decide (y.2 = .free)) && (decide sl.Nodup && (decide (np ≤ sl.length) && (sl.take np).all (isBound sc))))))
theorem scOk_of {sl : List Str} {np : Nat} {sc : Scope} (h : scOk sl np sc = true) : DefSc sl np sc := by
  obtain ⟨h1, h⟩ := and_inv h
  obtain ⟨h2, h⟩ := and_inv h
  obtain ⟨h3, h⟩ := and_inv h
  obtain ⟨h4, h⟩ := and_inv h
  obtain ⟨h5, h⟩ := and_inv h
  obtain ⟨h6, h7⟩ := and_inv h
  exact ⟨of_decide_eq_true h1, not_inv h2, not_inv h3, fun y hy => of_not (List.all_eq_true.mp h4 y hy), of_decide_eq_true h5, of_decide_eq_true h6, fun i x hi hx => isBound_of (List.all_eq_true.mp h7 x (List.mem_iff_getElem?.mpr ⟨i, by rw [List.getElem?_take_of_lt hi]; exact hx⟩))⟩

noncomputable def psOk (p : Arguments) (ns : List Str) : Bool := p.posonlyargs.isEmpty && (decide (p.args.map (·.arg) = ns) && (p.vararg.isNone && (p.kwonlyargs.isEmpty && p.kwarg.isNone)))
theorem psOk_of {p : Arguments} {ns : List Str} (h : psOk p ns = true) : PlainPs p ns := by
  obtain ⟨h1, h⟩ := and_inv h
  obtain ⟨h2, h⟩ := and_inv h
  obtain ⟨h3, h⟩ := and_inv h
  obtain ⟨h4, h5⟩ := and_inv h
  exact ⟨List.isEmpty_iff.mp h1, of_decide_eq_true h2, Option.isNone_iff_eq_none.mp h3, List.isEmpty_iff.mp h4, Option.isNone_iff_eq_none.mp h5⟩

noncomputable def vRef : Value → Option Addr
  | .ref a => some a
  | _ => Option.none
theorem vRef_inv {v : Value} {a : Addr} (h : vRef v = some a) : v = .ref a := by cases v <;> first | cases h; rfl | cases h
noncomputable def oSeq (o : Obj) : Option (Array Value × Nat) := match o.data with
  | .seq xs n => some (xs, n)
  | _ => Option.none
theorem oSeq_inv {o : Obj} {x} (h : oSeq o = some x) : o.data = .seq x.1 x.2 := by
  obtain ⟨c, od, d, sll⟩ := o
  cases d <;> first | cases h; rfl | cases h
noncomputable def oFunc (o : Obj) : Option FuncData := match o.data with
  | .func fd => some fd
  | _ => Option.none
theorem oFunc_inv {o : Obj} {x} (h : oFunc o = some x) : o.data = .func x := by
  obtain ⟨c, od, d, sll⟩ := o
  cases d <;> first | cases h; rfl | cases h
noncomputable def fStmts : FuncBody → Option (List Stmt)
  | .stmts b => some b
  | _ => Option.none
theorem fStmts_inv {b : FuncBody} {x} (h : fStmts b = some x) : b = .stmts x := by cases b <;> first | cases h; rfl | cases h

noncomputable def dfOk (K : Frag) (v : Value) (np : Nat) (dv : List V) : Bool := (dv.isEmpty && decide (v = .none)) ||
  (okB (one dv) isNo && (decide (1 ≤ np) && okB (vRef v) fun t => okB (K.lookup t) fun o => okB (oSeq o) fun xs => decide (xs.1.toList = [.none])))

noncomputable def fdOk (K : Frag) (T : Tab) (fd : FuncData) (e : Nat × List V × S × Nat) (sl : List Str) : Bool :=
  decide (sl.length = e.1) && (okB (fStmts fd.body) (fun sts => chkS T fd.scope sl e.2.2.1 (.ss sts)) && (scOk sl e.2.2.2 fd.scope && (psOk fd.params (sl.take e.2.2.2) && (fd.closure.isEmpty && (fd.globals == mainGlobals && (fd.builtins == builtinsNs && (codeIn K fd.code fd.qualname &&
    dfOk K fd.defaults e.2.2.2 e.2.1)))))))
noncomputable def fnOk (K : Frag) (T : Tab) (a : Addr) (e : Nat × List V × S × Nat) (sl : List Str) : Bool := okB (K.lookup a) fun o => okB (oFunc o) fun fd => fdOk K T fd e sl

section
variable {prog : Program} {w : World} {ca fa : Nat → Addr} {h₀ : Heap} {L₀ : Addr} {k : Nat} {K : Frag} {P : Prg} {T : Tab}

/-- what a def's check tells -/
structure FdFacts (K : Frag) (h₀ : Heap) (T : Tab) (a : Addr) (e : Nat × List V × S × Nat) (sl : List Str) (o : Obj) (fd : FuncData) (sts : List Stmt) : Prop where
  at_ : h₀.get? a = some o
  data : o.data = .func fd
  len : sl.length = e.1
  body : fd.body = .stmts sts
  chk : chkS T fd.scope sl e.2.2.1 (.ss sts) = true
  sc : DefSc sl e.2.2.2 fd.scope
  ps : PlainPs fd.params (sl.take e.2.2.2)
  clo : fd.closure = []
  glob : fd.globals = mainGlobals
  bi : fd.builtins = builtinsNs
  code : h₀.CodeRec fd.code fd.qualname
  df : dfOk K fd.defaults e.2.2.2 e.2.1 = true
theorem fnOk_of (hK : K.In h₀) {a : Addr} {e : Nat × List V × S × Nat} {sl : List Str} (h : fnOk K T a e sl = true) : ∃ o fd sts, K.lookup a = some o ∧ oFunc o = some fd ∧ FdFacts K h₀ T a e sl o fd sts := by
  obtain ⟨o, ho, h⟩ := okB_inv h
  obtain ⟨fd, hfd, h⟩ := okB_inv h
  obtain ⟨h1, h⟩ := and_inv h
  obtain ⟨h2, h⟩ := and_inv h
  obtain ⟨h3, h⟩ := and_inv h
  obtain ⟨h4, h⟩ := and_inv h
  obtain ⟨h5, h⟩ := and_inv h
  obtain ⟨h6, h⟩ := and_inv h
  obtain ⟨h7, h⟩ := and_inv h
  obtain ⟨h8, h9⟩ := and_inv h
  obtain ⟨sts, hb, h2⟩ := okB_inv h2
  exact ⟨o, fd, sts, ho, hfd, hK _ _ ho, oFunc_inv hfd, of_decide_eq_true h1, fStmts_inv hb, h2, scOk_of h3, psOk_of h4, List.isEmpty_iff.mp h5, beq_iff_eq.mp h6, beq_iff_eq.mp h7, codeRec_of hK h8, h9⟩

theorem FCk.of_check (F : Facts prog w K h₀ ca fa P T) (hlim : h₀.NoLimit) {cf : Nat → List V → St → Option (V × St)} (hcf : ∀ f, FCk prog w ca h₀ L₀ (fa f) k (cf f)) {a : Addr} {e : Nat × List V × S × Nat} {sl : List Str} (h : fnOk K T a e sl = true) :
    FCk prog w ca h₀ L₀ a (k + 2) (fun args H => (frameOf e args).bind fun ρ => (ex P cf e.2.2.1 ρ H).map fun q => (q.1.val, q.2.2)) := by
  obtain ⟨o, fd, sts, _, _, D⟩ := fnOk_of F.CF.inK h
  obtain ⟨n, dv, body, np⟩ := e
  have hbd := (sndS F hcf D.sc.kind D.sc.nodup body).2 sts D.chk
  have hn : sl.length = n := D.len
  subst hn
  rcases or_inv D.df with h9 | h9
  · obtain ⟨a1, a2⟩ := and_inv h9
    have hdv : dv = [] := List.isEmpty_iff.mp a1
    subst hdv
    exact FCk.def (ds := []) (arr := Option.none) (dv := []) D.at_ D.data hlim D.code D.body D.clo D.glob D.bi D.sc D.ps rfl (fun _ _ => .nil) (Nat.zero_le _) (Nat.zero_le _) (fun s hs M A E Q hQ => by
      rw [of_decide_eq_true a2]; exact wpAny_pure hQ) hbd
  · obtain ⟨a1, h9⟩ := and_inv h9
    obtain ⟨hnp, h9⟩ := and_inv h9
    obtain ⟨t, h3, h9⟩ := okB_inv h9
    obtain ⟨ot, hT, h9⟩ := okB_inv h9
    obtain ⟨xs, hx, h10⟩ := okB_inv h9
    obtain ⟨v, a1, a2⟩ := okB_inv a1
    obtain rfl : v = .none := by cases v <;> first | rfl | cases a2
    have hdv : dv = [.none] := one_inv a1
    subst hdv
    exact FCk.def (ds := [.none]) (arr := some xs.1) (dv := [.none]) D.at_ D.data hlim D.code D.body D.clo D.glob D.bi D.sc D.ps (of_decide_eq_true h10) (fun _ _ => .cons .none .nil) (Nat.le_refl _) (of_decide_eq_true hnp) (fun s hs M A E Q hQ => by
      rw [vRef_inv h3]; exact wpAny_seqItems (hs _ _ (F.CF.inK _ _ hT)) (oSeq_inv hx) hQ) hbd

theorem callN_ok (F : Facts prog w K h₀ ca fa P T) (hlim : h₀.NoLimit) {slt : Nat → List Str} (hall : ∀ f e, P.fn f = some e → fnOk K T (fa f) e (slt f) = true) : ∀ n f, FCk prog w ca h₀ L₀ (fa f) (2 * n) (callN P n f)
  | 0, f => fun A ι H s vs xs v H' hr hR hV hd => by cases hd
  | n + 1, f => by
    intro A ι H s vs xs v H' hr hR hV hd R hQ
    obtain ⟨e, he, hd⟩ := bind_inv hd
    exact FCk.of_check F hlim (callN_ok F hlim hall n) (hall f e he) A ι H s vs xs v H' hr hR hV hd R hQ
end
end
end Mine.L1

namespace Mine.L1
section
open PySem PySem.W PyProof.Rows
set_option maxRecDepth 10000
set_option autoImplicit false

noncomputable def clsOk (K : Frag) (c : Nat) (x : Str) (f : Nat) : Bool :=
  plainGet K (caTab c) x && (hasDictIn K (caTab c) && (attrNames.all (fun n => findIn K (.ref (caTab c)) n == some Option.none) && (findIn K (.ref (caTab c)) "__setattr__" == some (some (.builtin "object.__setattr__")) &&
  (plainOver K (caTab c) && (makesIn K (caTab c) && (keepIn K (.ref (caTab c)) && (nsIn K mainGlobals x == some (some (.ref (caTab c))) && (findIn K (.ref (caTab c)) "__init__" == some (some (.ref (faTab f))) && typeIn K (.ref (faTab f)) == some (.type "function")))))))))
noncomputable def methOk (K : Frag) (c : Nat) (e : Str × Nat) : Bool :=
  findIn K (.ref (caTab c)) e.1 == some (some (.ref (faTab e.2))) && (isFn K (.ref (faTab e.2)) && (keepIn K (.ref (faTab e.2)) && !decide (e.1 ∈ attrNames)))
noncomputable def globOk (K : Frag) (e : Nat × Str) : Bool := nsIn K mainGlobals e.2 == some (some (.ref (faTab e.1))) && keepIn K (.ref (faTab e.1))
noncomputable def biOk (K : Frag) (b : BI) : Bool := nsIn K mainGlobals (biName b) == some Option.none && bootBuiltins (biName b) == some (biVal b)

theorem methTab_mem {c : Nat} {m : Str} {f : Nat} (h : methTab c m = some f) : ∃ l, (c, l) ∈ methLists ∧ (m, f) ∈ l := by
  match c, h with
  | 0, h => exact ⟨_, List.mem_cons_self, mem_of_lookup' h⟩
  | 1, h => exact ⟨_, List.mem_cons_of_mem _ List.mem_cons_self, mem_of_lookup' h⟩

theorem bi_all (b : BI) : b ∈ biList := by cases b <;> decide
theorem bi_name (b : BI) : biName b ≠ ("__name__" : Str) := by cases b <;> decide

structure ClsGood (K : Frag) (c : Nat) (x : Str) (f : Nat) : Prop where
  get : plainGet K (caTab c) x = true
  dict : hasDictIn K (caTab c) = true
  own : ∀ n ∈ attrNames, findIn K (.ref (caTab c)) n = some Option.none
  setter : findIn K (.ref (caTab c)) "__setattr__" = some (some (.builtin "object.__setattr__"))
  plain : plainOver K (caTab c) = true
  makes : makesIn K (caTab c) = true
  keep : keepIn K (.ref (caTab c)) = true
  ns : nsIn K mainGlobals x = some (some (.ref (caTab c)))
  init : findIn K (.ref (caTab c)) "__init__" = some (some (.ref (faTab f)))
  type : typeIn K (.ref (faTab f)) = some (.type "function")
theorem clsOk_of {K : Frag} {c : Nat} {x : Str} {f : Nat} (h : clsOk K c x f = true) : ClsGood K c x f := by
  obtain ⟨h1, h⟩ := and_inv h
  obtain ⟨h2, h⟩ := and_inv h
  obtain ⟨h3, h⟩ := and_inv h
  obtain ⟨h4, h⟩ := and_inv h
  obtain ⟨h5, h⟩ := and_inv h
  obtain ⟨h6, h⟩ := and_inv h
  obtain ⟨h7, h⟩ := and_inv h
  obtain ⟨h8, h⟩ := and_inv h
  obtain ⟨h9, h⟩ := and_inv h
  exact ⟨h1, h2, fun n hn => beq_iff_eq.mp (List.all_eq_true.mp h3 n hn), beq_iff_eq.mp h4, h5, h6, h7, beq_iff_eq.mp h8, beq_iff_eq.mp h9, beq_iff_eq.mp h⟩

theorem facts_of {prog : Program} {w : World} {K : Frag} {h₀ : Heap} {mg mb : Str → Option Value} (hK : K.In h₀) (hg : h₀.Ns mainGlobals mg) (hb : h₀.Ns builtinsNs mb) (hbi : ∀ x : Str, x ≠ "__name__" → mb x = bootBuiltins x)
    (h0 : clsOk K 0 "Gates" 0 = true) (h1 : clsOk K 1 "Netlist" 29 = true) (hm : methLists.all (fun e => e.2.all (methOk K e.1)) = true) (hf : fnNames.all (globOk K) = true) (hB : biList.all (biOk K) = true) : Facts prog w K h₀ caTab faTab prg tab := by
  have h0 := clsOk_of h0
  have h1 := clsOk_of h1
  have hc : ∀ c ≤ 1, ∃ x f, ClsGood K c x f := by
    intro c hc
    match c, hc with
    | 0, _ => exact ⟨_, _, h0⟩
    | 1, _ => exact ⟨_, _, h1⟩
  refine ⟨⟨hK, fun c h x => ?_, fun c h => ?_, fun c h => ?_, fun c h => ?_, fun c h => ?_⟩, ⟨fun c m f h => ?_⟩, fun f x h => ?_, fun c x h => ?_, fun b => ?_⟩
  · obtain ⟨x, f, G⟩ := hc c h; exact G.get
  · obtain ⟨x, f, G⟩ := hc c h; exact G.dict
  · obtain ⟨x, f, G⟩ := hc c h; exact G.own
  · obtain ⟨x, f, G⟩ := hc c h; exact G.setter
  · obtain ⟨x, f, G⟩ := hc c h; exact G.plain
  · obtain ⟨l, h2, h3⟩ := methTab_mem h
    obtain ⟨a, h⟩ := and_inv (List.all_eq_true.mp (List.all_eq_true.mp hm _ h2) _ h3)
    obtain ⟨b, h⟩ := and_inv h
    exact ⟨beq_iff_eq.mp a, b, Kept.def hK (and_inv h).1, of_not (and_inv h).2⟩
  · obtain ⟨a, b⟩ := and_inv (List.all_eq_true.mp hf _ (mem_of_lookup' (show fnNames.lookup f = some x from h)))
    exact ⟨.inl ⟨mg, hg, mg_of hK hg (beq_iff_eq.mp a)⟩, Kept.def hK b⟩
  · have key : ∀ x f, ClsGood K c x f → initTab c = some f → c ≤ 1 → c ≤ 1 ∧ GName h₀ x (.ref (caTab c)) ∧ Kept prog w h₀ (.ref (caTab c)) ∧ makesIn K (caTab c) = true ∧
        ∀ f, prg.init c = some f → findIn K (.ref (caTab c)) "__init__" = some (some (.ref (faTab f))) ∧ typeIn K (.ref (faTab f)) = some (.type "function") := by
      intro x f G hi hc
      refine ⟨hc, .inl ⟨mg, hg, mg_of hK hg G.ns⟩, Kept.def hK G.keep, G.makes, fun f' hf' => ?_⟩
      have e : f = f' := Option.some.inj (hi.symm.trans hf')
      rw [← e]
      exact ⟨G.init, G.type⟩
    match c, mem_of_lookup' (show clsNames.lookup c = some x from h), key with
    | 0, hm, key => rcases List.mem_cons.mp hm with e | hm
                    · cases e; exact key _ 0 h0 rfl (Nat.zero_le _)
                    · cases List.mem_singleton.mp hm
    | 1, hm, key => rcases List.mem_cons.mp hm with e | hm
                    · cases e
                    · cases List.mem_singleton.mp hm; exact key _ 29 h1 rfl (Nat.le_refl _)
    | n + 2, hm, _ => rcases List.mem_cons.mp hm with e | hm
                      · cases e
                      · cases List.mem_singleton.mp hm
  · obtain ⟨a, b2⟩ := and_inv (List.all_eq_true.mp hB _ (bi_all b))
    exact .inr ⟨mg, mb, hg, mg_none_of hK hg (beq_iff_eq.mp a), hb, (hbi _ (bi_name b)).trans (beq_iff_eq.mp b2)⟩
end
end Mine.L1

namespace Mine.L1
section
open PySem PySem.W PyProof.Rows
set_option maxRecDepth 10000
set_option autoImplicit false

noncomputable def lawOk (K : Frag) : Bool := okB (K.lookup 370) fun o => okB (oFunc o) fun fd => isLoc fd.scope "script" && isLoc fd.scope "cells"

noncomputable def lawRuns (r : S) (ns : List Int) : Prop := ∃ ρ' H', ex prg (callN prg 12) r ((List.replicate 20 Option.none).set 1 (some (.ref 0))) [.list ((ns.take 63).map .int)] = some (.ret (.bool true), ρ', H')

theorem caller_room : Room 26 callerA := ⟨rfl, by decide, by decide⟩

section
variable {prog : Program} {w : World}

theorem law_go {K : Frag} {s : Shared} (F : Facts prog w K s.heap caTab faTab prg tab) (hlim : s.heap.NoLimit) (hall : ∀ f e, prg.fn f = some e → fnOk K tab (faTab f) e (slotTab f) = true) {b r : S}
    {o : Obj} {fd : FuncData} {p yp cp sp ep pos : Pos} {kk : Nat} {rest : List Stmt} (D : FdFacts K s.heap tab 370 (20, [], b, 1) s_law o fd (.Assign [.Name "cells" p] (.Subscript (.Name "script" yp) (.Slice Option.none (some (.Constant (.int 63) kk cp)) Option.none sp) ep) pos :: rest))
    (hls : fd.scope.names.lookup ("script" : Str) = some NameKind.local) (hlc : fd.scope.names.lookup ("cells" : Str) = some NameKind.local) (hrest : chkS tab fd.scope s_law r (.ss rest) = true)
    {l : Addr} {vs : List Value} {ns : List Int} (hl : s.heap.IsList l vs.toArray) (hi : IntsAre vs ns) (hn : ns.length ≤ 63) (hrun : lawRuns r ns) {Q : Value → Shared → Prop} {E : Value → Shared → Prop}
    (hQ : ∀ s', (∀ b o, s.heap.get? b = some o → s'.heap.get? b = some o) → s'.gens = s.gens → s'.os = s.os → Q (.bool true) s') : wpAny (model prog w) callerA (call (.ref 370) [.ref l]) Q E s := by
  obtain ⟨ρ', H', hrun⟩ := hrun
  have hsc := D.sc
  have hlen := hi.length
  have hbind := bind_plain (s := s) (fd := fd) D.ps (hsc.nodup.sublist (List.take_sublist _ _)) (xs := [.ref l]) (ds := []) (k := Option.none) rfl (Nat.le_refl 1) (Nat.le_refl 1) (Nat.zero_le _) (Nat.zero_le _) (fun M A E Q hQ => by
    rw [of_decide_eq_true (and_inv ((or_inv D.df).elim id fun h => by cases h)).2]; exact wpAny_pure hQ)
  refine wpAny_call (codeAny_call_function caller_room.depth D.at_ D.data hsc.co hsc.gen D.body D.code (hbind _ _ _ _ ?_))
  rw [D.clo, D.glob, D.bi]
  refine wpAny_newFunctionEnv_cells hsc.kind (fun x hx => ?_) fun env he s1 x => ?_
  · obtain rfl := List.mem_singleton.mp (show x ∈ [(("script" : Str), Value.ref l)] from hx)
    exact .inl hls
  · subst he
    have hk1 := x.toInCall.keep
    refine ⟨hlim.keeps hk1, codeAny_func ?_⟩
    obtain ⟨h1, tk, rfl, _⟩ := x.done
    have hns := x.toInCall.ns
    generalize hEnv : newEnv fd.scope s.heap.objs.size mainGlobals (cellsFrom (s.heap.objs.size + 1) fd.scope.names []) (fd.qualname ++ ".<locals>.") (some 370) fd.code Option.none builtinsNs = env at *
    have hL : env.locals = s.heap.objs.size := by rw [← hEnv]; rfl
    have hS : env.scope = fd.scope := by rw [← hEnv]; rfl
    have hC : env.cells = cellsFrom (s.heap.objs.size + 1) fd.scope.names [] := by rw [← hEnv]; rfl
    have hG : env.globals = mainGlobals := by rw [← hEnv]; rfl
    have hBi : env.builtins = builtinsNs := by rw [← hEnv]; rfl
    have hkS : env.kindOf "script" = some .local := by show env.scope.names.lookup _ = _; rw [hS]; exact hls
    have hkE : env.scope.kind = .function := by rw [hS]; exact hsc.kind
    have R1 : Rel prog w caTab s.heap s.heap.objs.size [] [] h1 :=
      ⟨rfl, List.nodup_nil, hk1, fun a h => by simp at h, modules_low hlim, ⟨_, hL ▸ hns⟩, by simp, Nat.le_refl _, fun n a o h => by simp at h⟩
    have E1 : EnvR s.heap s.heap.objs.size s_law env (List.replicate 20 Option.none) [] h1 := by
      refine ⟨hkE, hG, hBi, by simp, by rw [hL]; exact Nat.le_refl _, ⟨_, hns, fun i n u e2 e3 e4 => ?_⟩, fun i n e2 e3 => ?_, fun n n' c e2 e3 => ?_, rfl⟩
      · obtain ⟨_, e⟩ := List.getElem?_eq_some_iff.mp e3
        rw [List.getElem_replicate] at e; cases e
      · rcases e3 with e3 | e3
        · have e3 : env.scope.names.lookup n = _ := e3
          rw [hS] at e3
          have hm : (n, NameKind.cell) ∈ fd.scope.names := mem_of_lookup' e3
          obtain ⟨c, hc⟩ := Option.isSome_iff_exists.mp (cellsFrom_has fd.scope.names (s.heap.objs.size + 1) [] n (.inl hm))
          rw [← hC] at hc
          have hab := x.above n c (PySem.mem_of_lookup hc)
          rw [hL] at hab
          refine ⟨c, _, hc, by simp, ⟨Nat.le_of_lt hab, Nat.ne_of_gt hab⟩, x.cell n c hc, fun u hu => ?_⟩
          obtain ⟨_, e⟩ := List.getElem?_eq_some_iff.mp hu
          rw [List.getElem_replicate] at e; cases e
        · have e3 : env.scope.names.lookup n = _ := e3
          rw [hS] at e3
          exact absurd rfl (hsc.noFree _ (mem_of_lookup' e3))
      · exact name_of_addr x.apart (PySem.mem_of_lookup e2) (PySem.mem_of_lookup e3)
    have hscript : bindL env.kindOf ((s_law.take 1).zip ([.ref l] ++ [])) (fun _ => Option.none) "script" = some (.ref l) := bindL_at _ _ _ _ _ (List.nodup_cons.mpr ⟨List.not_mem_nil, List.nodup_nil⟩) List.mem_cons_self hkS
    have hr25 : Room 25 (callerA.deeper env) := (show Room (25 + 1) callerA from caller_room).deeper
    refine wpAny_mono (Q := fun f s' => f = .ret (.bool true) ∧ (∀ b o, s.heap.get? b = some o → s'.heap.get? b = some o) ∧ s'.gens = s.gens ∧ s'.os = s.os) ?_ (fun f s' h => ?_) fun _ _ h => h
    · refine wpAny_execs_cons (wpAny_Assign_Name (Subscript_ (wpAny_Name (wpAny_loadName_local hkE hkS hns hscript ?_) rfl)) (by rfl))
      refine wpAny_Slice (wpAny_evalPart_none (wpAny_evalPart_some (wpAny_Constant_int (wpAny_evalPart_none ?_))))
      have hl1 : h1.IsList l vs.toArray := hl.at fun o e => hk1 _ _ e
      have gp := Go.push (L₀ := s.heap.objs.size) No ([] : List Addr) ({ heap := h1, gens := s.gens, drawn := s.drawn, toks := tk + 1, os := s.os } : Shared) ({ cls := .type "slice", data := .fields #[.none, .int 63 tk, .none] } : Obj)
      have Rp := R1.push ({ cls := .type "slice", data := .fields #[.none, .int 63 tk, .none] } : Obj)
      have hl2 := hl1.push ({ cls := .type "slice", data := .fields #[.none, .int 63 tk, .none] } : Obj)
      have hsl : (h1.push ({ cls := .type "slice", data := .fields #[.none, .int 63 tk, .none] } : Obj)).IsSliceOf h1.objs.size .none (.int 63 tk) .none := Heap.IsSliceOf.new _ _ _ _
      have hnl : newL ((ns.take 63).map V.int) [] = some (.ref 0, [.list ((ns.take 63).map V.int)]) := by
        unfold newL
        rw [decide_eq_true (by rw [maxLen_eq, List.length_map, List.length_take]; lia)]; rfl
      have hvs : VRs ([] : List Addr) (h1.push ({ cls := .type "slice", data := .fields #[.none, .int 63 tk, .none] } : Obj)) ((ns.take 63).map V.int) (vs.take 63) := by
        rw [List.map_take]; exact (intVRs hi).take 63
      obtain ⟨_, _, _, _, gn, Rn, Vn⟩ := newL_ok hnl (s := ({ heap := h1.push ({ cls := .type "slice", data := .fields #[.none, .int 63 tk, .none] } : Obj), gens := s.gens, drawn := s.drawn, toks := tk + 1, os := s.os } : Shared)) Rp hvs
      obtain ⟨ops, hs'⟩ := subscripted_any (.Slice Option.none (some (.Constant (.int 63) kk cp)) Option.none sp) (.ref l) (.ref h1.objs.size)
      refine tail_any (s := ({ heap := h1.push ({ cls := .type "slice", data := .fields #[.none, .int 63 tk, .none] } : Obj), gens := s.gens, drawn := s.drawn, toks := tk + 1, os := s.os } : Shared)) hl2.typeIs slot_list_getitem.lookup
        (wpAny_getItem_list_slice hl2 hsl .none (.int 63 tk) .none (by simp) ?_ (by rw [sizeLine_eq, List.size_toArray]; lia)) hs'
      rw [upto_ok (by decide)]
      have g02 := gp.trans gn
      have E2 := E1.mono (s := ({ heap := h1, gens := s.gens, drawn := s.drawn, toks := tk + 1, os := s.os } : Shared)) g02
      refine store_loc hsc.nodup (i := 1) (x := ("cells" : Str)) rfl hlc hS E2 Rn Vn (X := fun _ => True) trivial fun s3 g3 _ E3 R3 => ?_
      have hb := (sndS (L₀ := s.heap.objs.size) F (callN_ok F hlim hall 12) hsc.kind hsc.nodup r).2 rest hrest
      refine hb _ env _ _ _ s3 _ ρ' H' hS hr25 E3 R3 hrun _ _ fun f ι4 s4 g4 E4 R4 F4 => ?_
      cases F4 with | ret hv =>
      obtain rfl := hv.bool_inv
      refine ⟨rfl, R4.base, ?_, ?_⟩
      · exact g4.gens.trans (g3.gens.trans g02.gens)
      · exact g4.os.trans (g3.os.trans g02.os)
    · obtain ⟨rfl, a, b, c⟩ := h
      exact hQ s' a b c

theorem law_call {K : Frag} {s : Shared} (F : Facts prog w K s.heap caTab faTab prg tab) (hlim : s.heap.NoLimit) (hall : ∀ f e, prg.fn f = some e → fnOk K tab (faTab f) e (slotTab f) = true) (hlaw : lawOk K = true)
    {r : S} (hr : b_law = .cons (.asg 1 (.slc (.loc 0) .cnone (.cint 63))) r) {l : Addr} {vs : List Value} {ns : List Int} (hl : s.heap.IsList l vs.toArray) (hi : IntsAre vs ns) (hn : ns.length ≤ 63) (hrun : lawRuns r ns) {Q : Value → Shared → Prop} {E : Value → Shared → Prop}
    (hQ : ∀ s', (∀ b o, s.heap.get? b = some o → s'.heap.get? b = some o) → s'.gens = s.gens → s'.os = s.os → Q (.bool true) s') : wpAny (model prog w) callerA (call (.ref 370) [.ref l]) Q E s := by
  have h45 : fnOk K tab 370 (20, [], b_law, 1) s_law = true := hall 45 _ rfl
  rw [hr] at h45
  obtain ⟨o, fd, sts, ho, hfd, D⟩ := fnOk_of F.CF.inK h45
  obtain ⟨o', ho', hlaw⟩ := okB_inv hlaw
  rw [ho] at ho'; cases ho'
  obtain ⟨fd', hfd', hlaw⟩ := okB_inv hlaw
  rw [hfd] at hfd'; cases hfd'
  have hc := D.chk
  obtain ⟨st, h1, hc⟩ := okB_inv (show okB sts.head? (fun st => gAsg fd.scope s_law 1 (chk tab (.slc (.loc 0) .cnone (.cint 63)) fd.scope s_law) st && chkS tab fd.scope s_law r (.ss sts.tail)) = true from hc)
  obtain ⟨c1, c2⟩ := and_inv hc
  obtain ⟨q, h2, c1⟩ := okB_inv c1
  obtain ⟨u, h3, c1⟩ := okB_inv c1
  obtain ⟨x, h4, c1⟩ := okB_inv c1
  obtain ⟨h5, c1⟩ := and_inv c1
  obtain ⟨_, c1⟩ := and_inv c1
  obtain ⟨_, c1⟩ := and_inv (show (noComp q.2.1 && fSlc (val (fLoc 0 fd.scope s_law)) kNone (val (fConst (.int 63))) q.2.1) = true from c1)
  obtain ⟨v, h6, c1⟩ := okB_inv c1
  obtain ⟨c3, c1⟩ := and_inv c1
  obtain ⟨y, h7, c1⟩ := okB_inv c1
  obtain ⟨c4, c1⟩ := and_inv c1
  obtain ⟨c5, c6⟩ := and_inv c1
  obtain ⟨z, h8, c3⟩ := okB_inv c3
  obtain ⟨h9, _⟩ := and_inv c3
  obtain ⟨e1, h10, c5⟩ := okB_inv c5
  obtain ⟨c, h11, c5⟩ := okB_inv c5
  obtain ⟨kk, cp, e2⟩ := xConst_inv h11
  obtain ⟨ep, e3⟩ := xSub_inv h6
  obtain ⟨sp, e4⟩ := xSlice_inv h7
  have e5 := yAsg_inv h2
  rw [one_inv h3, xName_inv h4, e3, xName_inv h8, e4, Option.isNone_iff_eq_none.mp c4, Option.isNone_iff_eq_none.mp c6, h10, e2, of_decide_eq_true c5, ← Option.some.inj (show some ("cells" : Str) = some x.1 from of_decide_eq_true h5), ← Option.some.inj (show some ("script" : Str) = some z.1 from of_decide_eq_true h9)] at e5
  have e6 := head_tail h1
  rw [e5] at e6
  rw [e6] at D
  exact law_go F hlim hall D (of_decide_eq_true (and_inv hlaw).1) (of_decide_eq_true (and_inv hlaw).2) c2 hl hi hn hrun hQ
end
end
end Mine.L1

namespace Mine.L1
section
open PySem PySem.W PyProof.Rows
set_option Elab.async false
set_option maxRecDepth 100000
set_option maxHeartbeats 8000000
set_option autoImplicit false

/-- the addresses that the checks look at -/
noncomputable def seenAt : List Addr := [3, 94, 297, 93, 296, 265, 273] ++ (List.range 46).flatMap fun f => [faTab f, faTab f - 1]
noncomputable def fragOf (h : Heap) : Frag := seenAt.filterMap fun a => (h.get? a).map fun o => (a, o)
theorem fragOf_in (h : Heap) : (fragOf h).In h := by
  intro a o e
  obtain ⟨b, _, hb⟩ := List.mem_filterMap.mp (mem_of_lookup' e)
  obtain ⟨o', ho', e'⟩ := Option.map_eq_some_iff.mp hb
  cases e'
  exact ho'
noncomputable def fnAll (K : Frag) : Bool := (List.range 46).all fun f => okB (fnTab f) fun e => fnOk K tab (faTab f) e (slotTab f)
noncomputable def allOk (K : Frag) : Bool := clsOk K 0 "Gates" 0 && (clsOk K 1 "Netlist" 29 && (methLists.all (fun e => e.2.all (methOk K e.1)) && (fnNames.all (globOk K) && (biList.all (biOk K) && (nsIn K mainGlobals "law" == some (some (.ref 370)) && (lawOk K && fnAll K))))))
noncomputable def myView : Program := view PySem.Challenge.pw_nn0313_01 ((List.range 37).filter fun i => !(i == 1 || i == 23 || i == 25))

theorem run_all (w : World) : (openEnds treeTable PySem.Challenge.pw_nn0313_01 w 4096).map (fun s => allOk (fragOf s.heap)) = some true := by
  unfold openEnds fencedOpening topFrom
  rw [PySem.W.Fast.te10274390034422433532, PySem.W.Fast.te14364793385576792824, PySem.W.Fast.te1435165496053646825, PySem.W.Fast.te14289696077712309145, PySem.W.Fast.te14082659384304107361, PySem.W.Fast.te5923862056798008813, PySem.W.Fast.te8920871248978507458]
  kernel_rfl
end
end Mine.L1

namespace Mine.L1
section
open PySem PySem.W PyProof.Rows
set_option Elab.async false
set_option maxRecDepth 100000
set_option maxHeartbeats 8000000
set_option autoImplicit false
theorem run_seen (w : World) : (openEnds treeTable PySem.Challenge.pw_nn0313_01 w 4096).map (fun s => openSeen myView [] (importedModules (PySem.Challenge.pw_nn0313_01).main.body) (fun _ => true) true s) = some (openGood myView []) := by
  unfold openEnds fencedOpening topFrom
  rw [PySem.W.Fast.te10274390034422433532, PySem.W.Fast.te14364793385576792824, PySem.W.Fast.te1435165496053646825, PySem.W.Fast.te14289696077712309145, PySem.W.Fast.te14082659384304107361, PySem.W.Fast.te5923862056798008813, PySem.W.Fast.te8920871248978507458, PySem.W.Fast.te4187177175401517315]
  kernel_rfl
end
end Mine.L1

namespace Mine.L1
section
open PySem PySem.W PyProof.Rows
set_option Elab.async false
set_option maxRecDepth 100000
set_option maxHeartbeats 8000000
set_option autoImplicit false
theorem fnAll_of {K : Frag} (h : fnAll K = true) : ∀ f e, prg.fn f = some e → fnOk K tab (faTab f) e (slotTab f) = true := by
  intro f e he
  have he : fnTab f = some e := he
  have hf : f < 46 := by
    rcases Nat.lt_or_ge f 46 with h | h
    · exact h
    · obtain ⟨m, rfl⟩ := Nat.exists_eq_add_of_le h
      have : fnTab (46 + m) = Option.none := by
        rw [Nat.add_comm]; rfl
      rw [this] at he; cases he
  have := List.all_eq_true.mp h f (List.mem_range.mpr hf)
  rw [he] at this
  exact this
theorem law_all (ns : List Int) : lawRuns (dropS 1 b_law) ns := law_runs ⟨_, rfl⟩
noncomputable def Says (_ : World) (h : Heap) : Prop := ∃ K : Frag, K.In h ∧ allOk K = true
theorem left : LeftO PySem.Challenge.pw_nn0313_01 myView [] (fun _ => true) (fun s => allOk (fragOf s.heap)) (fun _ => true) 4096 := fun w => by
  obtain ⟨s, h, e⟩ := Option.map_eq_some_iff.mp (run_all w)
  have h2 := run_seen w
  rw [h] at h2 ⊢
  rw [Option.map_some] at h2 ⊢
  rw [Option.some.inj h2]
  exact congrArg (fun b => some (openGood myView [], b)) e
end
end Mine.L1

namespace Mine.L1
section
open PySem PySem.W PyProof.Rows
set_option Elab.async false
set_option maxRecDepth 100000
set_option maxHeartbeats 8000000
set_option autoImplicit false
theorem promised : PySem.Challenge.rw_nn0313_01.row.toRowW.promised := ⟨[.list []], by decide +kernel, by decide +kernel⟩
theorem has_law : (defOf myView PySem.Challenge.rw_nn0313_01.row.name).isSome = true := by kernel_rfl
noncomputable def dk : DefRec × List (PySem.Str × PySem.Expr) := (defOf myView PySem.Challenge.rw_nn0313_01.row.name).get has_law
theorem dk_name : dk.1.name = ("law" : PySem.Str) := by kernel_rfl
theorem rest_of : b_law = .cons (.asg 1 (.slc (.loc 0) .cnone (.cint 63))) (dropS 1 b_law) := rfl
set_option pp.maxSteps 3000
theorem walk : WalkO myView [] (fun _ _ => True) Says PySem.Challenge.rw_nn0313_01.row.toRowW dk.1 dk.2 fun f vs => PySem.call f vs := by
  intro w s₀ s₁ mg mb G Y fa o pm cd doc dV kV ho hd hcd hD hmg hg args vals as hpre hlay hrd hwl hlo
  obtain ⟨K, KX, hK⟩ := Y
  rw [dk_name] at hmg
  refine Ground.open G ?_
  intro T B D TE TW
  clear hd hcd hD B D TE TW
  unfold allOk at hK
  obtain ⟨k0, hK⟩ := and_inv hK
  obtain ⟨k1, hK⟩ := and_inv hK
  obtain ⟨km, hK⟩ := and_inv hK
  obtain ⟨kf, hK⟩ := and_inv hK
  obtain ⟨kb, hK⟩ := and_inv hK
  obtain ⟨kl, hK⟩ := and_inv hK
  obtain ⟨ko, kall⟩ := and_inv hK
  have hA := mg_of KX T.g (n := "law") (v := .ref 370) (eq_of_beq kl)
  have hF : Facts (PySem.Challenge.rw_nn0313_01.row.toRowW.prog) w K s₁.heap caTab faTab prg tab := facts_of KX T.g T.b T.builtins k0 k1 km kf kb
  have hfa : fa = 370 := by
    have := hmg.symm.trans hA
    injection this with this
    injection this
  subst hfa
  clear hmg hA
  wrow_args hpre hlay hrd hwl hlo
  clear k0 k1 km kf kb kl
  refine wpAny_mono (law_call hF T.nolimit (fnAll_of kall) ko rest_of (by assumption) (by assumption) (by lia) (law_all _) (Q := fun v s' => v = .bool true ∧ (∀ b o, s₁.heap.get? b = some o → s'.heap.get? b = some o) ∧ s'.gens = s₁.gens ∧ s'.os = s₁.os) (fun s' a b c => ⟨rfl, a, b, c⟩)) (fun v s' h => ?_) fun _ _ h => h
  obtain ⟨rfl, a, b, c⟩ := h
  refine GoodW.toG ⟨.inl ⟨.bool true, .bool true, [], rfl, ?_, .bool _, ?_, ?_⟩, a, c, b.trans hg⟩
  · intro cls; rfl
  · kernel_rfl
  · intro _; exact ⟨List.nodup_nil, fun a h => by simp at h⟩
theorem holds (said : PySem.Challenge.rw_nn0313_01.row.wellSaid = true) : PySem.Challenge.rw_nn0313_01.row.Holds :=
  holds_open (r := PySem.Challenge.rw_nn0313_01.row) (q := myView) (loose := []) (Xt := fun _ => true) (XP := fun _ _ => True) (Yf := fun s => allOk (fragOf s.heap)) (Ya := fun _ => true) (YP := Says) (d := dk.1) (kwd := dk.2) (N := 4096)
    left (fun _ s e => ⟨_, fragOf_in s.heap, e⟩) (fun _ _ _ ⟨K, a, b⟩ k => ⟨K, a.keeps k, b⟩) (fun _ _ => trivial) (fun _ _ _ _ _ => trivial) (Option.some_get has_law).symm (by kernel_rfl) (by kernel_rfl) (fun _ _ => recFacts_nil rfl) (by kernel_rfl) said (by kernel_rfl) ⟨rfl, rfl, rfl, rfl, rfl, by decide +kernel⟩ promised walk
end
end Mine.L1

namespace Mine.L1
section
open PySem PySem.W PyProof.Rows
set_option Elab.async false
set_option maxRecDepth 100000
set_option maxHeartbeats 8000000
set_option autoImplicit false
theorem ws : PySem.Challenge.rw_nn0313_01.wellSaid = true := by
  rw [PySem.W.Fast.te9446332074065402090]
  kernel_rfl
end
end Mine.L1

theorem PySem.Challenge.cw_nn0313_01_holds : PySem.Challenge.rw_nn0313_01.Holds := by
  exact PySem.W.holds_law Mine.L1.ws Mine.L1.holds
