import PyProof.Rows.All
import Wide.All
import OpenK.AllK
import Wide.FinOn
import Lean
import PySem.Challenge.RW_ot0035_01
set_option Elab.async false
set_option genSizeOf false
set_option genInjectivity false
set_option bootstrap.genMatcherCode false
set_option linter.unusedVariables false
section
open PySem PySem.W
namespace Mine

/-! the clean values, the clean heap -/
inductive V where
  | d (x : PyData)
  | loc (n : Nat)
  | tupv (l : List V)
  | lstv (l : List V)
  | sdict (l : List (Str × PyData))
  | idict (l : List (Int × PyData))
  | bad

inductive O where
  | list (l : List PyData)
  | idict (l : List (Int × PyData))
  | iidict (l : List (Int × List (Int × PyData)))
  | attrs (C : Nat) (l : List (Str × V))

inductive BI where
  | len | abs | int | list | tuple | dict | sorted | max
inductive MB where
  | get | pop | append
inductive Tgt where
  | one (i : Nat)
  | many (is : List Nat)

inductive E where
  | fail
  | lit (x : PyData)
  | var (i : Nat)
  | glob (x : V)
  | tup (es : List E)
  | lst (mu : Bool) (es : List E)
  | dsp (mu : Bool) (ks vs : List E)
  | comp (mu : Bool) (elt : E) (tgt : Tgt) (iter : E) (ifs : List E) (init : List (Option Nat))
  | dcomp (k v : E) (tgt : Nat) (iter : E) (ifs : List E) (init : List (Option Nat))
  | bin (op : Operator) (a b : E)
  | cmp (op : CmpOp) (a b : E)
  | cmp2 (op op' : CmpOp) (a b c : E)
  | bop (all : Bool) (es : List E)
  | not (a : E)
  | neg (a : E)
  | ite (c a b : E)
  | sub (a i : E)
  | slc (a : E) (lo hi : Option E)
  | attr (a : E) (n : Str)
  | callF (f : Nat) (args : List E)
  | callC (C : Nat) (args : List E)
  | callB (mu : Bool) (b : BI) (args : List E)
  | methI (n : Str) (o : E) (args : List E)
  | methB (m : MB) (o : E) (args : List E)

inductive S where
  | asg (i : Nat) (e : E)
  | unp (rev : Bool) (is : List Nat) (e : E)
  | asgA (o : E) (n : Str) (e : E)
  | asgS (o k e : E)
  | expr (e : E)
  | ite (c : E) (a b : List S)
  | for_ (tgt : Tgt) (it : E) (body : List S)
  | forR (i : Nat) (n : E) (body : List S)
  | while_ (c : E) (body : List S)
  | ret (e : E)
  | retM (i : Nat)
  | asgSM (o k : E) (i : Nat) (e : E)
  | fail

structure Fn where
  qual : Str
  params : List Nat
  dfl : List V
  ns : Nat
  body : List S

structure Cl where
  init : Nat
  meths : List (Str × Nat)
  attrs : List Str

structure Tab where
  funs : List (Nat × Fn)
  clss : List (Nat × Cl)

structure St where
  b : Nat
  h : List O
  r : List (Option V)

inductive Fl where
  | next
  | ret (v : V)

/-! looking things up, by fast tests -/
noncomputable def natsEq : List Nat → List Nat → Bool
  | [], l => match l with | [] => true | _ :: _ => false
  | a :: r, l => match l with | [] => false | b :: q => Nat.beq a b && natsEq r q
noncomputable def strEq (a b : Str) : Bool := natsEq a.cps.toList b.cps.toList
noncomputable def findN {α : Type} (n : Nat) : List (Nat × α) → Option α
  | [] => none
  | (k, x) :: r => if Nat.beq n k then some x else findN n r
noncomputable def findS {α : Type} (n : Str) : List (Str × α) → Option α
  | [] => none
  | (k, x) :: r => if strEq n k then some x else findS n r
noncomputable def intEq (a b : Int) : Bool := match a with
  | .ofNat a => (match b with | .ofNat b => Nat.beq a b | .negSucc _ => false)
  | .negSucc a => (match b with | .ofNat _ => false | .negSucc b => Nat.beq a b)
noncomputable def findI {α : Type} (n : Int) : List (Int × α) → Option α
  | [] => none
  | (k, x) :: r => if intEq n k then some x else findI n r
noncomputable def putI {α : Type} (n : Int) (y : α) : List (Int × α) → List (Int × α)
  | [] => [(n, y)]
  | (k, x) :: r => if intEq n k then (k, y) :: r else (k, x) :: putI n y r
noncomputable def dropI {α : Type} (n : Int) : List (Int × α) → List (Int × α)
  | [] => []
  | (k, x) :: r => if intEq n k then r else (k, x) :: dropI n r
noncomputable def putS {α : Type} (n : Str) (y : α) : List (Str × α) → List (Str × α)
  | [] => [(n, y)]
  | (k, x) :: r => if strEq n k then (k, y) :: r else (k, x) :: putS n y r

/-! what stands below a mark of the heap -/
mutual
noncomputable def V.und (n : Nat) : V → Bool
  | .d _ => true
  | .loc m => Nat.blt m n
  | .tupv l => undL n l
  | .lstv l => undL n l
  | .sdict _ => true
  | .idict _ => true
  | .bad => true
noncomputable def undL (n : Nat) : List V → Bool
  | [] => true
  | v :: r => v.und n && undL n r
end
noncomputable def undA (n : Nat) : List (Str × V) → Bool
  | [] => true
  | (_, v) :: r => v.und n && undA n r
noncomputable def O.und (n : Nat) : O → Bool
  | .attrs _ l => undA n l
  | _ => true
noncomputable def undH (n : Nat) : Nat → List O → Bool
  | 0, _ => true
  | _ + 1, [] => true
  | k + 1, o :: r => o.und n && undH n k r
noncomputable def poison (n : Nat) : Option V → Option V
  | none => none
  | some v => some (if v.und n then v else .bad)
/-- forget what stands at n or beyond -/
noncomputable def cut (n : Nat) (st : St) : St := if undH n n st.h then ⟨st.b, st.h.take n, st.r.map (poison n)⟩ else st
noncomputable def cutTo (n : Nat) (st : St) : St := if Nat.ble st.h.length n then st else cut n st

/-! data -/
noncomputable def lay (x : PyData) : Bool := x.canLay0 && decide (x.depth ≤ 60)
mutual
noncomputable def deq : PyData → PyData → Bool
  | .none, y => match y with | .none => true | _ => false
  | .bool a, y => match y with | .bool b => a == b | .int j => intEq (if a then 1 else 0) j | _ => false
  | .int i, y => match y with | .bool b => intEq i (if b then 1 else 0) | .int j => intEq i j | _ => false
  | .str x, y => match y with | .str z => strEq x z | _ => false
  | .list xs, y => match y with | .list ys => deqs xs ys | _ => false
  | .tuple xs, y => match y with | .tuple ys => deqs xs ys | _ => false
  | .dict _, _ => false
noncomputable def deqs : List PyData → List PyData → Bool
  | [], ys => match ys with | [] => true | _ :: _ => false
  | x :: xs, ys => match ys with | [] => false | y :: ys => deq x y && deqs xs ys
end
noncomputable def allD : List V → Option (List PyData)
  | [] => some []
  | .d x :: r => match allD r with | some l => some (x :: l) | none => none
  | _ :: _ => none
noncomputable def mkTup (l : List V) : V := match allD l with | some xs => .d (.tuple xs) | none => .tupv l
noncomputable def truthy : V → Option Bool
  | .d (.bool b) => some b
  | _ => none
noncomputable def isNone : V → Option Bool
  | .d .none => some true
  | .d _ => some false
  | .loc _ => some false
  | .tupv _ => some false
  | .lstv _ => some false
  | .sdict _ => some false
  | .idict _ => some false
  | .bad => none
noncomputable def bB (b : Bool) : V := .d (.bool b)
noncomputable def bI (i : Int) : V := .d (.int i)
noncomputable def lim : Nat := 1000000
noncomputable def short {α : Type} (l : List α) : Bool := Nat.ble l.length lim
/-- below 2 ^ 64 in size -/
noncomputable def small (i : Int) : Bool := Nat.blt i.natAbs (2 ^ 64)

/-- two ints -/
noncomputable def ii {α : Type} (f : Int → Int → Option α) (a b : V) : Option α := match a with
  | .d x => (match x with
    | .int i => (match b with
      | .d y => (match y with
        | .int j => f i j
        | _ => none)
      | _ => none)
    | _ => none)
  | _ => none
noncomputable def addD (x y : PyData) : Option V := match x with
  | .int i => (match y with | .int j => some (bI (i + j)) | _ => none)
  | .tuple l => (match y with | .tuple k => if short l && short k then some (.d (.tuple (l ++ k))) else none | _ => none)
  | .list l => (match y with | .list k => if short l && short k then some (.d (.list (l ++ k))) else none | _ => none)
  | _ => none
noncomputable def addV (a b : V) : Option V := match a with
  | .d x => (match b with | .d y => addD x y | _ => none)
  | _ => none
noncomputable def mulL (l : List PyData) (j : Int) : Option V := match l with
  | [] => none
  | x :: r => (match r with | [] => if decide (0 ≤ j) && decide (j ≤ 100) then some (.d (.list (List.replicate j.toNat x))) else none | _ :: _ => none)
noncomputable def mulD (x y : PyData) : Option V := match y with
  | .int j => (match x with
    | .int i => if small j || small i then some (bI (i * j)) else none
    | .list l => mulL l j
    | _ => none)
  | _ => none
noncomputable def mulV (a b : V) : Option V := match a with
  | .d x => (match b with | .d y => mulD x y | _ => none)
  | _ => none
noncomputable def binV (op : Operator) (a b : V) : Option V := match op with
  | .Add => addV a b
  | .Sub => ii (fun x y => some (bI (x - y))) a b
  | .Mult => mulV a b
  | .FloorDiv => ii (fun x y => if intEq y 0 then none else if small y then some (bI (x.fdiv y)) else none) a b
  | .Mod => ii (fun x y => if intEq y 0 then none else some (bI (x.fmod y))) a b
  | .Pow => ii (fun x y => if small x && (decide (0 ≤ y) && decide (y ≤ 200)) then some (bI (x ^ y.toNat)) else none) a b
  | _ => none
/-- a mutable list read as it stands -/
noncomputable def rd (h : List O) : V → V
  | .loc n => match h[n]? with
    | some (.list l) => .d (.list l)
    | some (.idict l) => .idict l
    | _ => .loc n
  | v => v
noncomputable def anyEq (x : PyData) : List PyData → Bool
  | [] => false
  | y :: r => deq y x || anyEq x r
noncomputable def inL (a : V) (y : PyData) (ys : List PyData) : Option Bool := match a with
  | .d x => if lay x && lay y then some (anyEq x ys) else none
  | _ => none
noncomputable def inK (q : Int → Bool) (a : V) : Option Bool := match a with
  | .d x => (match x with | .int k => some (q k) | _ => none)
  | _ => none
noncomputable def inO (a : V) (o : Option O) : Option Bool := match o with
  | none => none
  | some o => match o with
    | .list ys => inL a (.list ys) ys
    | .idict m => inK (fun k => (findI k m).isSome) a
    | .iidict m => inK (fun k => (findI k m).isSome) a
    | .attrs _ _ => none
noncomputable def inD (a : V) (y : PyData) : Option Bool := match y with
  | .tuple ys => inL a (.tuple ys) ys
  | .list ys => inL a (.list ys) ys
  | _ => none
noncomputable def inV (h : List O) (a b : V) : Option Bool := match b with
  | .d y => inD a y
  | .idict m => inK (fun k => (findI k m).isSome) a
  | .loc n => inO a h[n]?
  | _ => none
noncomputable def eqV (h : List O) (a b : V) : Option Bool := match rd h a with
  | .d x => (match rd h b with
    | .d y => if lay x && lay y then some (deq x y) else none
    | _ => none)
  | _ => none
noncomputable def bV (f : Bool → Bool) (o : Option Bool) : Option V := match o with
  | some r => some (bB (f r))
  | none => none
noncomputable def isV (f : Bool → Bool) (a b : V) : Option V := match b with
  | .d y => (match y with | .none => bV f (isNone a) | _ => none)
  | _ => none
noncomputable def cmpV (h : List O) (op : CmpOp) (a b : V) : Option V := match op with
  | .Eq => bV id (eqV h a b)
  | .NotEq => bV not (eqV h a b)
  | .Lt => ii (fun x y => some (bB (decide (x < y)))) a b
  | .LtE => ii (fun x y => some (bB (decide (x ≤ y)))) a b
  | .Gt => ii (fun x y => some (bB (decide (x > y)))) a b
  | .GtE => ii (fun x y => some (bB (decide (x ≥ y)))) a b
  | .Is => isV id a b
  | .IsNot => isV not a b
  | .In => bV id (inV h a b)
  | .NotIn => bV not (inV h a b)
noncomputable def idx (k : Int) (n : Nat) : Option Nat :=
  match k with
  | .ofNat i => if Nat.blt i n then some i else none
  | .negSucc i => if Nat.blt i n then some (n - 1 - i) else none
noncomputable def atL {α : Type} (k : Int) (l : List α) : Option α := if short l then (match idx k l.length with | some i => l[i]? | none => none) else none
noncomputable def optD (o : Option PyData) : Option V := match o with
  | some x => some (.d x)
  | none => none
noncomputable def subStr (x : Str) (k : Int) : Option V := match k with
  | .ofNat n => (match n with
    | 0 => (match x.cps.toList with | c :: _ => some (.d (.str ⟨#[c]⟩)) | [] => none)
    | _ + 1 => none)
  | .negSucc _ => none
noncomputable def subX (x : PyData) (k : Int) : Option V := match x with
  | .tuple xs => optD (atL k xs)
  | .list xs => optD (atL k xs)
  | .str x => subStr x k
  | _ => none
noncomputable def subO (o : Option O) (k : Int) : Option V := match o with
  | none => none
  | some o => match o with
    | .list xs => optD (atL k xs)
    | .idict m => optD (findI k m)
    | .iidict m => (match findI k m with | some x => some (.idict x) | none => none)
    | .attrs _ _ => none
noncomputable def subI (h : List O) (a : V) (k : Int) : Option V := match a with
  | .d x => subX x k
  | .loc n => subO h[n]? k
  | .idict m => optD (findI k m)
  | _ => none
noncomputable def subS (a : V) (k : Str) : Option V := match a with
  | .sdict m => optD (findS k m)
  | _ => none
noncomputable def subV (h : List O) (a i : V) : Option V := match i with
  | .d k => (match k with
    | .int k => subI h a k
    | .str k => subS a k
    | _ => none)
  | _ => none
noncomputable def natI (i : Int) : Option Nat := match i with
  | .ofNat n => if Nat.ble n lim then some n else none
  | .negSucc _ => none
noncomputable def natOf (v : V) : Option Nat := match v with
  | .d x => (match x with | .int i => natI i | _ => none)
  | _ => none
noncomputable def slcD (x : PyData) (lo hi : Option Nat) : Option V := match x with
  | .tuple xs => (match lo with
    | some k => (match hi with | none => if short xs && (Nat.ble 1 k && Nat.ble k xs.length) then some (.d (.tuple (xs.drop k))) else none | some _ => none)
    | none => none)
  | .list xs => (match lo with
    | none => (match hi with | some k => if short xs then some (.d (.list (xs.take k))) else none | none => none)
    | some _ => none)
  | _ => none
noncomputable def slcV (h : List O) (a : V) (lo hi : Option Nat) : Option V := match rd h a with
  | .d x => slcD x lo hi
  | _ => none
noncomputable def isBad (v : V) : Bool := match v with
  | .bad => true
  | _ => false
noncomputable def notBad (o : Option V) : Option V := match o with
  | some v => if isBad v then none else some v
  | none => none
noncomputable def attrO (o : Option O) (n : Str) : Option V := match o with
  | none => none
  | some o => match o with
    | .attrs _ l => notBad (findS n l)
    | _ => none
noncomputable def attrV (h : List O) (a : V) (n : Str) : Option V := match a with
  | .loc m => attrO h[m]? n
  | _ => none
noncomputable def insI (k : Int) : List Int → List Int
  | [] => [k]
  | x :: r => if decide (k ≤ x) then k :: x :: r else x :: insI k r
noncomputable def sortI : List Int → List Int
  | [] => []
  | x :: r => insI x (sortI r)

noncomputable def lenV (h : List O) (v : V) : Option (V × List O) := match rd h v with
    | .d (.list xs) => if short xs then some (bI xs.length, h) else none
    | .d (.tuple xs) => if short xs then some (bI xs.length, h) else none
    | .idict m => if short m then some (bI m.length, h) else none
    | _ => none
noncomputable def absV (h : List O) (v : V) : Option (V × List O) := match v with
  | .d (.int i) => some (bI (if decide (i < 0) then -i else i), h)
  | _ => none
noncomputable def intV (h : List O) (v : V) : Option (V × List O) := match v with
  | .d (.int i) => some (bI i, h)
  | .d (.bool b) => some (bI (if b then 1 else 0), h)
  | _ => none
noncomputable def listV (h : List O) (v : V) : Option (V × List O) := match rd h v with
    | .d (.list xs) => if short xs then some (.d (.list xs), h) else none
    | .d (.tuple xs) => if short xs then some (.d (.list xs), h) else none
    | _ => none
noncomputable def tupleV (h : List O) (v : V) : Option (V × List O) := match rd h v with
    | .d (.list xs) => if short xs then some (.d (.tuple xs), h) else none
    | .d (.tuple xs) => if short xs then some (.d (.tuple xs), h) else none
    | _ => none
noncomputable def dictV (h : List O) (mu : Bool) (v : V) : Option (V × List O) := match rd h v with
    | .idict m => if short m then (if mu then some (.loc h.length, h ++ [.idict m]) else some (.idict m, h)) else none
    | _ => none
noncomputable def sortedV (h : List O) (v : V) : Option (V × List O) := match v with
  | .loc n => (match h[n]? with
    | some (.iidict m) => if Nat.blt m.length 64 && Nat.blt 0 m.length then some (.d (.list ((sortI (m.map (·.1))).map .int)), h) else none
    | _ => none)
  | _ => none
noncomputable def maxV (h : List O) (v w : V) : Option (V × List O) := match v, w with
  | .d (.int a), .d (.int b) => some (bI (if decide (b > a) then b else a), h)
  | _, _ => none
noncomputable def callB1 (h : List O) (mu : Bool) (b : BI) (v : V) : Option (V × List O) := match b with
  | .len => lenV h v
  | .abs => absV h v
  | .int => intV h v
  | .list => listV h v
  | .tuple => tupleV h v
  | .dict => dictV h mu v
  | .sorted => sortedV h v
  | .max => none
noncomputable def callB2 (h : List O) (b : BI) (v w : V) : Option (V × List O) := match b with
  | .max => maxV h v w
  | _ => none
noncomputable def callB (h : List O) (mu : Bool) (b : BI) (args : List V) : Option (V × List O) := match args with
  | [v] => callB1 h mu b v
  | [v, w] => callB2 h b v w
  | _ => none

/-- of which kind a thing with methods is: a dict or a list -/
noncomputable def mkind (h : List O) : V → Option Bool
  | .loc n => match h[n]? with
    | some (.list _) => some false
    | some (.idict _) => some true
    | _ => none
  | _ => none
noncomputable def sameKind : Option Bool → Option Bool → Bool
  | some a, some b => a == b
  | _, _ => false
noncomputable def optN (o : Option PyData) : V := match o with
  | some x => .d x
  | none => .d .none
noncomputable def getM (h : List O) (l : List (Int × PyData)) (args : List V) : Option (V × List O) := match args with
  | [] => none
  | a :: r => match r with
    | _ :: _ => none
    | [] => match a with
      | .d k => (match k with | .int k => some (optN (findI k l), h) | _ => none)
      | _ => none
noncomputable def isNoneV (v : V) : Bool := match v with
  | .d x => (match x with | .none => true | _ => false)
  | _ => false
noncomputable def popD (h : List O) (n : Nat) (l : List (Int × PyData)) (a b : V) : Option (V × List O) := match a with
  | .d k => (match k with
    | .int k => if isNoneV b && short l then some (optN (findI k l), h.set n (.idict (dropI k l))) else none
    | _ => none)
  | _ => none
noncomputable def popM (h : List O) (n : Nat) (l : List (Int × PyData)) (args : List V) : Option (V × List O) := match args with
  | [] => none
  | a :: r => match r with
    | [] => none
    | b :: q => match q with
      | [] => popD h n l a b
      | _ :: _ => none
noncomputable def popL (h : List O) (n : Nat) (l : List PyData) (args : List V) : Option (V × List O) := match args with
  | _ :: _ => none
  | [] => match l.reverse with
    | [] => none
    | x :: _ => if short l then some (.d x, h.set n (.list l.dropLast)) else none
noncomputable def appL (h : List O) (n : Nat) (l : List PyData) (args : List V) : Option (V × List O) := match args with
  | [] => none
  | a :: r => match r with
    | _ :: _ => none
    | [] => match a with
      | .d x => if short l then some (.d .none, h.set n (.list (l ++ [x]))) else none
      | _ => none
noncomputable def methO (h : List O) (n : Nat) (o : Option O) (m : MB) (args : List V) : Option (V × List O) := match o with
  | none => none
  | some o => match o with
    | .idict l => (match m with | .get => getM h l args | .pop => popM h n l args | .append => none)
    | .list l => (match m with | .get => none | .pop => popL h n l args | .append => appL h n l args)
    | _ => none
noncomputable def methB (h : List O) (m : MB) (o : V) (args : List V) : Option (V × List O) := match o with
  | .loc n => methO h n h[n]? m args
  | _ => none

noncomputable def setL (h : List O) (n : Nat) (l : List PyData) (i : Int) (x : PyData) : Option (List O) :=
  if short l && decide (0 ≤ i) then (match idx i l.length with | some j => some (h.set n (.list (l.set j x))) | none => none) else none
noncomputable def setO (h : List O) (n : Nat) (o : Option O) (i : Int) (v : V) : Option (List O) := match o with
  | none => none
  | some o => match o with
    | .list l => (match v with | .d x => setL h n l i x | _ => none)
    | .idict m => (match v with | .d x => if short m then some (h.set n (.idict (putI i x m))) else none | _ => none)
    | .iidict m => (match v with | .idict x => if short m then some (h.set n (.iidict (putI i x m))) else none | _ => none)
    | .attrs _ _ => none
noncomputable def setS (h : List O) (a k v : V) : Option (List O) := match a with
  | .loc n => (match k with
    | .d k => (match k with | .int i => setO h n h[n]? i v | _ => none)
    | _ => none)
  | _ => none
noncomputable def setAO (h : List O) (n : Nat) (o : Option O) (x : Str) (v : V) : Option (List O) := match o with
  | none => none
  | some o => match o with
    | .attrs C l => if Nat.blt l.length 900 then some (h.set n (.attrs C (putS x v l))) else none
    | _ => none
noncomputable def setA (h : List O) (a : V) (x : Str) (v : V) : Option (List O) := match a with
  | .loc n => setAO h n h[n]? x v
  | _ => none

/-- what is iterated: items that stay, or a list of the heap -/
inductive Srcs where
  | vals (vs : List V)
  | at (n : Nat)
noncomputable def srcOf (h : List O) (v : V) : Option (Srcs × Nat) :=
  match v with
  | .d (.list xs) => if short xs then some (.vals (xs.map .d), xs.length + 1) else none
  | .d (.tuple xs) => if short xs then some (.vals (xs.map .d), xs.length + 1) else none
  | .lstv l => if short l then some (.vals l, l.length + 1) else none
  | .tupv l => if short l then some (.vals l, l.length + 1) else none
  | .loc n => match h[n]? with
    | some (.list xs) => if short xs then some (.at n, xs.length + 1) else none
    | _ => none
  | _ => none
noncomputable def nextS (s : Srcs) (i : Nat) (h : List O) : Option (Option V) :=
  match s with
  | .vals vs => some vs[i]?
  | .at n => match h[n]? with
    | some (.list xs) => (match xs[i]? with | some x => some (some (.d x)) | none => some none)
    | _ => none

noncomputable def pick (l : List V) : List Nat → List (Option V) → Option (List (Option V))
  | [], r => match l with | [] => some r | _ => none
  | i :: is, r => match l with | v :: vs => pick vs is (r.set i (some v)) | [] => none
noncomputable def parts : V → Option (List V)
  | .d (.tuple xs) => some (xs.map .d)
  | .d (.list xs) => some (xs.map .d)
  | .tupv l => some l
  | _ => none
noncomputable def bindU (rev : Bool) (is : List Nat) (v : V) (r : List (Option V)) : Option (List (Option V)) :=
  match parts v with
  | some l => if Nat.beq l.length is.length && Nat.ble l.length 20 then (if rev then pick l.reverse is.reverse r else pick l is r) else none
  | none => none
noncomputable def bindT (t : Tgt) (v : V) (r : List (Option V)) : Option (List (Option V)) :=
  match t with
  | .one i => some (r.set i (some v))
  | .many is => bindU false is v r
noncomputable def initR (r : List (Option V)) : List (Option Nat) → List (Option V)
  | [] => []
  | none :: q => none :: initR r q
  | some i :: q => (match r[i]? with | some v => v | none => none) :: initR r q

noncomputable abbrev Rho := List (Option V)
structure Rec where
  ev : E → Rho → List O → Option (V × List O)
  ex : S → St → Option (Fl × St)
  call : Nat → List V → List O → Option (V × List O)

section
variable (T : Tab) (r : Rec)

noncomputable def evs (ρ : Rho) : List E → List O → Option (List V × List O)
  | [], h => some ([], h)
  | e :: es, h => match r.ev e ρ h with
    | some (v, h) => (match evs ρ es h with | some (vs, h) => some (v :: vs, h) | none => none)
    | none => none
/-- a test -/
noncomputable def tstA (t : E → List O → Option (Bool × List O)) (all : Bool) : List E → List O → Option (Bool × List O)
  | [], h => some (all, h)
  | e :: es, h => match t e h with
    | some (b, h) => if b == all then tstA t all es h else some (b, h)
    | none => none
noncomputable def tstN (ρ : Rho) : Nat → E → List O → Option (Bool × List O)
  | 0, _, _ => none
  | k + 1, e, h => match e with
    | .bop all es => tstA (tstN ρ k) all es h
    | .not a => (match tstN ρ k a h with | some (b, h) => some (!b, h) | none => none)
    | .ite _ _ _ => none
    | .cmp2 _ _ _ _ _ => none
    | e => (match r.ev e ρ h with
      | some (v, h) => (match truthy v with | some b => some (b, h) | none => none)
      | none => none)
noncomputable def tst (e : E) (ρ : Rho) (h : List O) : Option (Bool × List O) := tstN r ρ 4 e h
noncomputable def bopV (all : Bool) (ρ : Rho) : List E → List O → Option (V × List O)
  | [], _ => none
  | [e], h => r.ev e ρ h
  | e :: es, h => match r.ev e ρ h with
    | some (v, h) => (match truthy v with | some b => if b == all then bopV all ρ es h else some (v, h) | none => none)
    | none => none
noncomputable def ifsAll (ρ : Rho) : List E → List O → Option (Bool × List O)
  | [], h => some (true, h)
  | e :: es, h => match tst r e ρ h with
    | some (true, h) => ifsAll ρ es h
    | some (false, h) => (match es with | [] => some (false, h) | _ => none)
    | none => none
noncomputable def compS (elt : E) (tgt : Tgt) (ifs : List E) (src : Srcs) : Nat → Nat → Rho → List O → Option (List V × List O)
  | 0, _, _, _ => none
  | f + 1, i, ρ, h => match nextS src i h with
    | none => none
    | some none => some ([], h)
    | some (some v) => match bindT tgt v ρ with
      | none => none
      | some ρ => match ifsAll r ρ ifs h with
        | none => none
        | some (false, h) => compS elt tgt ifs src f (i + 1) ρ h
        | some (true, h) => match r.ev elt ρ h with
          | none => none
          | some (x, h) => match compS elt tgt ifs src f (i + 1) ρ h with | some (xs, h) => some (x :: xs, h) | none => none
noncomputable def dcompL (ke ve : E) (tgt : Nat) (ifs : List E) : List Int → Rho → List O → List (Int × PyData) → Option (List (Int × PyData) × List O)
  | [], _, h, m => some (m, h)
  | k :: vs, ρ, h, m => match ifsAll r (ρ.set tgt (some (bI k))) ifs h with
      | none => none
      | some (false, h) => dcompL ke ve tgt ifs vs (ρ.set tgt (some (bI k))) h m
      | some (true, h) => match r.ev ke (ρ.set tgt (some (bI k))) h with
        | some (.d (.int k'), h) => (match r.ev ve (ρ.set tgt (some (bI k))) h with
          | some (.d x, h) => if short m then dcompL ke ve tgt ifs vs (ρ.set tgt (some (bI k))) h (putI k' x m) else none
          | _ => none)
        | _ => none
noncomputable def dspS : List V → List V → List (Str × PyData) → Option (List (Str × PyData))
  | [], l, m => match l with | [] => some m | _ :: _ => none
  | k :: ks, l, m => match l with
    | [] => none
    | v :: vs => match k with
      | .d k => (match k with
        | .str k => (match v with | .d x => dspS ks vs (putS k x m) | _ => none)
        | _ => none)
      | _ => none
noncomputable def dspI : List V → List V → List (Int × PyData) → Option (List (Int × PyData))
  | [], l, m => match l with | [] => some m | _ :: _ => none
  | k :: ks, l, m => match l with
    | [] => none
    | v :: vs => match k with
      | .d k => (match k with
        | .int k => (match v with | .d x => dspI ks vs (putI k x m) | _ => none)
        | _ => none)
      | _ => none
noncomputable def dspII : List V → List V → List (Int × List (Int × PyData)) → Option (List (Int × List (Int × PyData)))
  | [], l, m => match l with | [] => some m | _ :: _ => none
  | k :: ks, l, m => match l with
    | [] => none
    | v :: vs => match k with
      | .d k => (match k with
        | .int k => (match v with | .idict x => dspII ks vs (putI k x m) | _ => none)
        | _ => none)
      | _ => none
/-- key, value, key, value .. -/
noncomputable def evp (ρ : Rho) : List E → List E → List O → Option (List V × List V × List O)
  | [], l, h => match l with | [] => some ([], [], h) | _ :: _ => none
  | k :: ks, l, h => match l with
    | [] => none
    | v :: vs => match r.ev k ρ h with
      | none => none
      | some (k, h) => match r.ev v ρ h with
        | none => none
        | some (v, h) => match evp ρ ks vs h with | some (a, b, h) => some (k :: a, v :: b, h) | none => none
noncomputable def isIdH (vs : List V) : Bool := match vs with
  | [] => false
  | v :: _ => (match v with | .idict _ => true | _ => false)
noncomputable def isStrH (ks : List V) : Bool := match ks with
  | [] => false
  | v :: _ => (match v with
    | .d x => (match x with | .str _ => true | _ => false)
    | _ => false)
noncomputable def mkDict (mu : Bool) (ks vs : List V) (h : List O) : Option (V × List O) :=
  if mu then
    (if isIdH vs then (match dspII ks vs [] with | some m => some (.loc h.length, h ++ [.iidict m]) | none => none)
    else (match dspI ks vs [] with | some m => some (.loc h.length, h ++ [.idict m]) | none => none))
  else
    (if isStrH ks then (match dspS ks vs [] with | some m => some (.sdict m, h) | none => none)
    else (match dspI ks vs [] with | some m => some (.idict m, h) | none => none))
noncomputable def mkList (mu : Bool) (vs : List V) (h : List O) : Option (V × List O) :=
  match allD vs with
  | some xs => if mu then some (.loc h.length, h ++ [.list xs]) else some (.d (.list xs), h)
  | none => if mu then none else some (.lstv vs, h)
noncomputable def optNat (o : Option E) (ρ : Rho) (h : List O) : Option (Option Nat × List O) := match o with
  | none => some (none, h)
  | some e => match r.ev e ρ h with
    | some (v, h) => (match natOf v with | some n => some (some n, h) | none => none)
    | none => none
/-- the call of a def: what it made is forgotten where nothing kept bears it -/
noncomputable def back (n : Nat) : Option (V × List O) → Option (V × List O)
  | some (v, h) => if v.und n && undH n n h then some (v, h.take n) else some (v, h)
  | none => none

noncomputable def stepEv (e : E) (ρ : Rho) (h : List O) : Option (V × List O) :=
  match e with
  | .fail => none
  | .lit x => some (.d x, h)
  | .var i => match ρ[i]? with
    | some (some v) => some (v, h)
    | _ => none
  | .glob x => some (x, h)
  | .tup es => match evs r ρ es h with
    | some (vs, h) => some (mkTup vs, h)
    | none => none
  | .lst mu es => match evs r ρ es h with
    | some (vs, h) => mkList mu vs h
    | none => none
  | .dsp mu ks vs => match evp r ρ ks vs h with
    | some (ks, vs, h) => mkDict mu ks vs h
    | none => none
  | .comp mu elt tgt iter ifs init => match r.ev iter ρ h with
    | none => none
    | some (v, h) => match srcOf h v with
      | none => none
      | some (src, f) => match compS r elt tgt ifs src f 0 (initR ρ init) h with
        | none => none
        | some (xs, h₂) => mkList mu xs h₂
  | .dcomp ke ve tgt iter ifs init => match r.ev iter ρ h with
    | some (.idict m, h) => if short m then (match dcompL r ke ve tgt ifs (m.map (·.1)) (initR ρ init) h [] with
        | none => none
        | some (m', h) => some (.idict m', h)) else none
    | _ => none
  | .bin op a b => match r.ev a ρ h with
    | none => none
    | some (x, h) => match r.ev b ρ h with
      | none => none
      | some (y, h) => match binV op (rd h x) (rd h y) with | some v => some (v, h) | none => none
  | .cmp op a b => match r.ev a ρ h with
    | none => none
    | some (x, h) => match r.ev b ρ h with
      | none => none
      | some (y, h) => match cmpV h op x y with | some v => some (v, h) | none => none
  | .cmp2 op op' a b c => match r.ev a ρ h with
    | none => none
    | some (x, h) => match r.ev b ρ h with
      | none => none
      | some (y, h) => match cmpV h op x y with
        | none => none
        | some v => match truthy v with
          | none => none
          | some false => some (v, h)
          | some true => match r.ev c ρ h with
            | none => none
            | some (z, h) => match cmpV h op' y z with | some v => some (v, h) | none => none
  | .bop all es => bopV r all ρ es h
  | .not a => match r.ev a ρ h with
    | some (v, h) => (match truthy v with | some b => some (bB (!b), h) | none => none)
    | none => none
  | .neg a => match r.ev a ρ h with
    | some (.d (.int i), h) => some (bI (-i), h)
    | _ => none
  | .ite c a b => match tst r c ρ h with
    | some (true, h) => r.ev a ρ h
    | some (false, h) => r.ev b ρ h
    | none => none
  | .sub a i => match r.ev a ρ h with
    | none => none
    | some (x, h) => match r.ev i ρ h with
      | none => none
      | some (y, h) => match subV h x y with | some v => some (v, h) | none => none
  | .slc a lo hi => match r.ev a ρ h with
    | none => none
    | some (x, h) => match optNat r lo ρ h with
      | none => none
      | some (l, h) => match optNat r hi ρ h with
        | none => none
        | some (u, h) => match slcV h x l u with | some v => some (v, h) | none => none
  | .attr a n => match r.ev a ρ h with
    | some (x, h) => (match attrV h x n with | some v => some (v, h) | none => none)
    | none => none
  | .callF f args => match evs r ρ args h with
    | some (vs, h) => r.call f vs h
    | none => none
  | .callC C args => match evs r ρ args h with
    | none => none
    | some (vs, h) => match findN C T.clss with
      | none => none
      | some c => match r.call c.init (.loc h.length :: vs) (h ++ [.attrs C []]) with
        | some (.d .none, h') => some (.loc h.length, h')
        | _ => none
  | .callB mu b args => match evs r ρ args h with
    | some (vs, h) => callB h mu b vs
    | none => none
  | .methI n o args => match r.ev o ρ h with
    | some (.loc m, h) => (match h[m]? with
      | some (.attrs C l) => if (findS n l).isSome then none else (match evs r ρ args h with
        | none => none
        | some (vs, h) => match findN C T.clss with
          | none => none
          | some c => match findS n c.meths with
            | none => none
            | some f => r.call f (.loc m :: vs) h)
      | _ => none)
    | _ => none
  | .methB m o args => match r.ev o ρ h with
    | none => none
    | some (x, h) => match evs r ρ args h with
      | none => none
      | some (vs, h₂) => if sameKind (mkind h x) (mkind h₂ x) then methB h₂ m x vs else none

noncomputable def exs : List S → St → Option (Fl × St)
  | [], st => some (.next, st)
  | s :: ss, st => match r.ex s st with
    | some (.next, st) => exs ss st
    | some (.ret v, st) => some (.ret v, st)
    | none => none
noncomputable def forS (n : Nat) (tgt : Tgt) (body : List S) (src : Srcs) : Nat → Nat → St → Option (Fl × St)
  | 0, _, _ => none
  | f + 1, i, st => match nextS src i st.h with
    | none => none
    | some none => some (.next, st)
    | some (some v) => match bindT tgt v st.r with
      | none => none
      | some r' => match exs r body ⟨n, st.h, r'⟩ with
        | some (.next, st) => forS n tgt body src f (i + 1) (cutTo n st)
        | some (.ret v, st) => some (.ret v, st)
        | none => none
noncomputable def forRL (n : Nat) (i : Nat) (body : List S) : Nat → Nat → St → Option (Fl × St)
  | _, 0, st => some (.next, st)
  | j, k + 1, st => match exs r body ⟨n, st.h, st.r.set i (some (bI j))⟩ with
      | some (.next, st) => forRL n i body (j + 1) k (cutTo n st)
      | some (.ret v, st) => some (.ret v, st)
      | none => none
noncomputable def whileL (n : Nat) (c : E) (body : List S) : Nat → St → Option (Fl × St)
  | 0, _ => none
  | k + 1, st => match tst r c st.r st.h with
    | none => none
    | some (false, h) => some (.next, ⟨st.b, h, st.r⟩)
    | some (true, h) => match exs r body ⟨n, h, st.r⟩ with
      | some (.next, st) => whileL n c body k (cutTo n st)
      | some (.ret v, st) => some (.ret v, st)
      | none => none
/-- the last thing of the heap, taken out of its name -/
noncomputable def takeM (i : Nat) (st : St) : Option (PyData × St) :=
  match st.r[i]? with
  | some (some (.loc n)) => if Nat.ble st.b n && Nat.beq (n + 1) st.h.length && undH n n st.h then (match st.h[n]? with
      | some (.list l) => some (.list l, ⟨st.b, st.h.take n, (st.r.set i none).map (poison n)⟩)
      | _ => none) else none
  | _ => none

noncomputable def stepEx (s : S) (st : St) : Option (Fl × St) :=
  match s with
  | .asg i e => match r.ev e st.r st.h with
    | some (v, h) => some (.next, ⟨st.b, h, st.r.set i (some v)⟩)
    | none => none
  | .unp rev is e => match r.ev e st.r st.h with
    | some (v, h) => (match bindU rev is v st.r with | some r' => some (.next, ⟨st.b, h, r'⟩) | none => none)
    | none => none
  | .asgA o n e => match r.ev e st.r st.h with
    | none => none
    | some (v, h) => match r.ev o st.r h with
      | none => none
      | some (x, h) => match setA h x n v with | some h => some (.next, ⟨st.b, h, st.r⟩) | none => none
  | .asgS o k e => match r.ev e st.r st.h with
    | none => none
    | some (v, h) => match r.ev o st.r h with
      | none => none
      | some (x, h) => match r.ev k st.r h with
        | none => none
        | some (y, h) => match setS h x y v with | some h => some (.next, ⟨st.b, h, st.r⟩) | none => none
  | .expr e => match r.ev e st.r st.h with
    | some (_, h) => some (.next, ⟨st.b, h, st.r⟩)
    | none => none
  | .ite c a b => match tst r c st.r st.h with
    | some (true, h) => exs r a ⟨st.b, h, st.r⟩
    | some (false, h) => exs r b ⟨st.b, h, st.r⟩
    | none => none
  | .for_ tgt it body => match r.ev it st.r st.h with
    | none => none
    | some (v, h) => match srcOf h v with
      | none => none
      | some (src, f) => match forS r h.length tgt body src f 0 ⟨st.b, h, st.r⟩ with
        | none => none
        | some (fl, st') => some (fl, ⟨st.b, st'.h, st'.r⟩)
  | .forR i n body => match r.ev n st.r st.h with
    | none => none
    | some (v, h) => match natOf v with
      | none => none
      | some k => match forRL r h.length i body 0 k ⟨st.b, h, st.r⟩ with
        | some (fl, st') => some (fl, ⟨st.b, st'.h, st'.r⟩)
        | none => none
  | .while_ c body => match whileL r st.h.length c body 64 st with
    | some (fl, st') => some (fl, ⟨st.b, st'.h, st'.r⟩)
    | none => none
  | .ret e => match r.ev e st.r st.h with
    | some (v, h) => some (.ret v, ⟨st.b, h, st.r⟩)
    | none => none
  | .retM i => match st.r[i]? with
    | some (some (.loc n)) => if Nat.ble st.b n && Nat.beq (n + 1) st.h.length && undH n n st.h then (match st.h[n]? with
      | some (.list l) => some (.ret (.d (.list l)), ⟨st.b, st.h.take n, (st.r.set i none).map (poison n)⟩)
      | some (.idict l) => some (.ret (.idict l), ⟨st.b, st.h.take n, (st.r.set i none).map (poison n)⟩)
      | _ => none) else none
    | _ => none
  | .asgSM o k i e => match r.ev e st.r st.h with
    | some (.d y, h) => (match takeM i ⟨st.b, h, st.r⟩ with
      | none => none
      | some (l, st') => match r.ev o st'.r st'.h with
        | none => none
        | some (x, h) => match r.ev k st'.r h with
          | none => none
          | some (z, h) => match setS h x z (.d (.list [l, y])) with | some h => some (.next, ⟨st.b, h, st'.r⟩) | none => none)
    | _ => none
  | .fail => none

noncomputable def bindArgs (f : Fn) (args : List V) : Option (List (Option V)) :=
  let need := f.params.length - args.length
  if Nat.ble args.length f.params.length && Nat.ble need f.dfl.length then
    pick (args ++ f.dfl.drop (f.dfl.length - need)) f.params (List.replicate f.ns none)
  else none
noncomputable def run (f : Fn) (args : List V) (h : List O) : Option (V × List O) :=
  match bindArgs f args with
  | none => none
  | some r₀ => back h.length (match exs r f.body ⟨h.length, h, r₀⟩ with
    | some (.next, st) => some (.d .none, st.h)
    | some (.ret v, st) => some (v, st.h)
    | none => none)
end

noncomputable def R (T : Tab) : Nat → Rec
  | 0 => ⟨fun _ _ _ => none, fun _ _ => none, fun _ _ _ => none⟩
  | n + 1 => ⟨stepEv T (R T n), stepEx (R T n), fun f args h => match findN f T.funs with
        | some fn => run (R T n) fn args h
        | none => none⟩
end Mine
end
section
open PySem PySem.W
namespace Mine

inductive GV where
  | fn (a : Nat)
  | cls (a : Nat)
  | bi (b : BI)
  | rng
  | val (v : V)

structure CE where
  names : List (Str × NameKind)
  gl : Str → Option GV
  muts : List (Nat × Nat)
  mvs : List (Nat × Nat)

noncomputable def distS : List Str → Bool
  | [] => true
  | x :: r => !r.any (strEq x) && distS r
noncomputable def atPos (p : Pos) : List (Nat × Nat) → Bool
  | [] => false
  | (a, b) :: r => (Nat.beq p.line a && Nat.beq p.col b) || atPos p r
noncomputable def kindAt (x : Str) : List (Str × NameKind) → Option NameKind
  | [] => none
  | (y, k) :: r => if strEq x y then some k else kindAt x r
noncomputable def slotAt (x : Str) : List (Str × NameKind) → Nat → Option Nat
  | [], _ => none
  | (y, k) :: r, i => if strEq x y then (match k with | .local | .cell | .free => some i | _ => none) else slotAt x r (i + 1)
noncomputable def isGl (x : Str) (l : List (Str × NameKind)) : Bool := match kindAt x l with | some .globalImplicit => true | _ => false
noncomputable def initF (outer : List (Str × NameKind)) (x : Str) : Option (Option Nat) := match kindAt x outer with
  | some k => (match k with
    | .cell => (match slotAt x outer 0 with | some i => some (some i) | none => none)
    | _ => none)
  | none => none
noncomputable def initK (outer : List (Str × NameKind)) (x : Str) (k : NameKind) : Option (Option Nat) := match k with
  | .free => initF outer x
  | .cell => none
  | _ => some none
noncomputable def initOf (outer : List (Str × NameKind)) : List (Str × NameKind) → Option (List (Option Nat))
  | [] => some []
  | p :: r => match initK outer p.1 p.2 with
    | some i => (match initOf outer r with | some l => some (i :: l) | none => none)
    | none => none
noncomputable def mapO {α β : Type} (f : α → Option β) : List α → Option (List β)
  | [] => some []
  | x :: r => match f x with
    | some y => (match mapO f r with | some l => some (y :: l) | none => none)
    | none => none
/-- a name that is stored to -/
noncomputable def storeSlot (c : CE) (x : Str) : Option Nat := match kindAt x c.names with
  | some .local => slotAt x c.names 0
  | some .cell => slotAt x c.names 0
  | _ => none
noncomputable def nameSlot (c : CE) : PySem.Expr → Option Nat
  | .Name x _ => storeSlot c x
  | _ => none
noncomputable def isLocal (x : Str) (l : List (Str × NameKind)) : Bool := match kindAt x l with | some .local => true | _ => false
noncomputable def swapName (c : CE) (line : Nat) : PySem.Expr → Option Str
  | .Name x p => if isLocal x c.names && Nat.beq p.line line then some x else none
  | _ => none
noncomputable def swapNames (c : CE) (ts vs : List PySem.Expr) : Option (List Str) :=
  if (Nat.beq ts.length 2 || Nat.beq ts.length 3) && (Nat.beq vs.length ts.length && (!vs.all (foldedForSure 8) && !vs.all (constantsAlone 8))) then
    match mapO (swapName c ((ts.head?.map (·.pos.line)).getD 0)) ts with
    | some names => if distS names then some names else none
    | none => none
  else none
noncomputable def noSwap (ts vs : List PySem.Expr) : Bool := !(Nat.beq ts.length 2 || Nat.beq ts.length 3) || vs.all (foldedForSure 8)
noncomputable def tgtOf (c : CE) : PySem.Expr → Option Tgt
  | .Name x _ => match storeSlot c x with | some i => some (.one i) | none => none
  | .Tuple ts _ _ => match mapO (nameSlot c) ts with | some is => some (.many is) | none => none
  | _ => none
noncomputable def sameKindOf (a b : NameKind) : Bool := match a with
  | .local => (match b with | .local => true | _ => false)
  | .free => (match b with | .free => true | _ => false)
  | .globalImplicit => (match b with | .globalImplicit => true | _ => false)
  | _ => false
/-- every name of it once, and none of them a cell -/
noncomputable def scopeOk (names : List (Str × NameKind)) : Bool := (names.all fun p => match kindAt p.1 names with | some k => sameKindOf k p.2 | none => false) && distS (names.map (·.1))
noncomputable def mbOf (n : Str) : Option MB :=
  if strEq n "get" then some .get else if strEq n "pop" then some .pop else if strEq n "append" then some .append else none
noncomputable def fnKind (s : Scope) : Bool := match s.kind with | .function => true | _ => false
noncomputable def reserved (x : Str) : Bool := strEq x "__debug__" || strEq x "__classdict__" || strEq x "__class__" || strEq x "super"

noncomputable def isAnd : BoolOp → Bool
  | .And => true
  | .Or => false
noncomputable def attrNames : List Str := ["name", "arg_count", "locals", "blocks", "spots", "known", "body", "followed", "begins"]
noncomputable def attrName (x : Str) : Bool := attrNames.any (strEq x)
/-- it is not super() -/
noncomputable def baseC (g : PySem.Expr) (as : List PySem.Expr) (ks : List Keyword) : Bool := match g with
  | .Name id _ => (match as with
    | [] => (match ks with | [] => !strEq id "super" | _ :: _ => true)
    | _ :: _ => true)
  | _ => true
noncomputable def baseOk : PySem.Expr → Bool
  | .Call g as ks _ => baseC g as ks
  | _ => true
noncomputable def plainArg : PySem.Expr → Bool
  | .Starred _ _ => false
  | _ => true
noncomputable def plainArgs (l : List PySem.Expr) : Bool := l.all plainArg && Nat.ble l.length 20

noncomputable def cConst : Const → E
  | .none => .lit .none
  | .bool b => .lit (.bool b)
  | .int i => .lit (.int i)
  | .str s => .lit (.str s)
  | _ => .fail
noncomputable def cName (c : CE) (x : Str) (p : Pos) : E :=
  if reserved x || atPos p c.mvs then .fail else match slotAt x c.names 0 with
      | some i => .var i
      | none => if isGl x c.names then (match c.gl x with | some (.val v) => .glob v | _ => .fail) else .fail
noncomputable def cLC1 (f : CE → PySem.Expr → E) (c : CE) (elt : PySem.Expr) (g : Comprehension) (sc : Scope) (p : Pos) : E :=
  match tgtOf { c with names := sc.names } g.target with
  | none => .fail
  | some t => match initOf c.names sc.names with
    | none => .fail
    | some ini => if (fnKind sc && scopeOk sc.names) && intEq g.is_async 0 then .comp (atPos p c.muts) (f { c with names := sc.names } elt) t (f c g.iter) (g.ifs.map (f { c with names := sc.names })) ini else .fail
noncomputable def cLC (f : CE → PySem.Expr → E) (c : CE) (elt : PySem.Expr) (gs : List Comprehension) (sc : Scope) (p : Pos) : E := match gs with
  | [] => .fail
  | g :: r => match r with
    | [] => cLC1 f c elt g sc p
    | _ :: _ => .fail
noncomputable def cDC1 (f : CE → PySem.Expr → E) (c : CE) (k v : PySem.Expr) (g : Comprehension) (sc : Scope) (x : Str) : E :=
  match storeSlot { c with names := sc.names } x with
  | none => .fail
  | some t => match initOf c.names sc.names with
    | none => .fail
    | some ini => if (fnKind sc && scopeOk sc.names) && intEq g.is_async 0 then .dcomp (f { c with names := sc.names } k) (f { c with names := sc.names } v) t (f c g.iter) (g.ifs.map (f { c with names := sc.names })) ini else .fail
noncomputable def cDC (f : CE → PySem.Expr → E) (c : CE) (k v : PySem.Expr) (gs : List Comprehension) (sc : Scope) : E := match gs with
  | [] => .fail
  | g :: r => match r with
    | [] => (match g.target with | .Name x _ => cDC1 f c k v g sc x | _ => .fail)
    | _ :: _ => .fail
noncomputable def cCmp1 (f : PySem.Expr → E) (a : PySem.Expr) (op : CmpOp) (b : PySem.Expr) : E := if behindInMarks op b then .fail else .cmp op (f a) (f b)
noncomputable def cCmp2 (f : PySem.Expr → E) (a : PySem.Expr) (op op' : CmpOp) (b d : PySem.Expr) : E := if behindInMarks op' d then .fail else .cmp2 op op' (f a) (f b) (f d)
noncomputable def cCmp (f : PySem.Expr → E) (a : PySem.Expr) (ops : List CmpOp) (bs : List PySem.Expr) : E := match ops with
  | [] => .fail
  | op :: ops => match bs with
    | [] => .fail
    | b :: bs => match ops with
      | [] => (match bs with | [] => cCmp1 f a op b | _ :: _ => .fail)
      | op' :: ops => match bs with
        | [] => .fail
        | d :: bs => match ops with
          | [] => (match bs with | [] => cCmp2 f a op op' b d | _ :: _ => .fail)
          | _ :: _ => .fail
noncomputable def cUn (op : UnaryOp) (a : E) : E := match op with
  | .Not => .not a
  | .USub => .neg a
  | _ => .fail
noncomputable def cSub (f : PySem.Expr → E) (v i : PySem.Expr) : E := match i with
  | .Slice lo hi st p => (match st with
    | none => .slc (f v) (match lo with | some e => some (f e) | none => none) (match hi with | some e => some (f e) | none => none)
    | some s => .sub (f v) (f (.Slice lo hi (some s) p)))
  | i => .sub (f v) (f i)
noncomputable def cCallN (f : PySem.Expr → E) (c : CE) (x : Str) (args : List PySem.Expr) (p : Pos) : E :=
  if reserved x || !plainArgs args then .fail else if isGl x c.names then (match c.gl x with
      | some (.fn a) => .callF a (args.map f)
      | some (.cls a) => .callC a (args.map f)
      | some (.bi b) => .callB (atPos p c.muts) b (args.map f)
      | _ => .fail) else .fail
noncomputable def cCallA (f : PySem.Expr → E) (o : PySem.Expr) (x : Str) (ap : Pos) (args : List PySem.Expr) (p : Pos) : E :=
  if !baseOk o || (!plainArgs args || !Nat.beq ap.endLine p.line) then .fail else match mbOf x with | some m => .methB m (f o) (args.map f) | none => .methI x (f o) (args.map f)
noncomputable def cCall (f : PySem.Expr → E) (c : CE) (g : PySem.Expr) (args : List PySem.Expr) (ks : List Keyword) (p : Pos) : E := match ks with
  | [] => (match g with
    | .Name x _ => cCallN f c x args p
    | .Attribute o x ap => cCallA f o x ap args p
    | _ => .fail)
  | _ => .fail
noncomputable def cE : Nat → CE → PySem.Expr → E
  | 0, _, _ => .fail
  | n + 1, c, x => match x with
    | .Constant k _ _ => cConst k
    | .Name x p => cName c x p
    | .Tuple es _ _ => if plainArgs es then .tup (es.map (cE n c)) else .fail
    | .List es p => if plainArgs es then .lst (atPos p c.muts) (es.map (cE n c)) else .fail
    | .Dict ks vs p => if Nat.beq ks.length vs.length && Nat.ble ks.length 15 then .dsp (atPos p c.muts) (ks.map fun k => match k with | some k => cE n c k | none => .fail) (vs.map (cE n c)) else .fail
    | .ListComp elt gs sc p => cLC (cE n) c elt gs sc p
    | .DictComp k v gs sc _ => cDC (cE n) c k v gs sc
    | .BinOp a op b _ => .bin op (cE n c a) (cE n c b)
    | .Compare a ops bs _ => cCmp (cE n c) a ops bs
    | .BoolOp op es _ => .bop (isAnd op) (es.map (cE n c))
    | .UnaryOp op a _ => cUn op (cE n c a)
    | .IfExp t a b _ => .ite (cE n c t) (cE n c a) (cE n c b)
    | .Subscript v i _ => cSub (cE n c) v i
    | .Attribute v x _ => if baseOk v && attrName x then .attr (cE n c v) x else .fail
    | .Call g args ks p => cCall (cE n c) c g args ks p
    | _ => .fail

noncomputable def rngC (c : CE) (g : PySem.Expr) (as : List PySem.Expr) (ks : List Keyword) : Option PySem.Expr := match g with
  | .Name x _ => (match as with
    | [] => none
    | e :: r => match r with
      | _ :: _ => none
      | [] => match ks with
        | _ :: _ => none
        | [] => if isGl x c.names && (!reserved x && plainArg e) then (match c.gl x with | some v => (match v with | .rng => some e | _ => none) | none => none) else none)
  | _ => none
noncomputable def rngArg (c : CE) : PySem.Expr → Option PySem.Expr
  | .Call g as ks _ => rngC c g as ks
  | _ => none

noncomputable def notComp : PySem.Expr → Bool
  | .ListComp _ _ _ _ => false
  | .SetComp _ _ _ _ => false
  | .DictComp _ _ _ _ _ => false
  | _ => true
/-- a name read the last time -/
noncomputable def lastName (c : CE) : PySem.Expr → Option Nat
  | .Name x p => if atPos p c.mvs && !reserved x then slotAt x c.names 0 else none
  | _ => none
/-- a list of a name read the last time, and another thing -/
noncomputable def pairL (c : CE) (l : List PySem.Expr) : Option (Nat × PySem.Expr) := match l with
  | [] => none
  | a :: r => match r with
    | [] => none
    | e :: q => match q with
      | [] => if plainArg e then (match lastName c a with | some i => some (i, e) | none => none) else none
      | _ :: _ => none
noncomputable def lastPair (c : CE) : PySem.Expr → Option (Nat × PySem.Expr)
  | .List l _ => pairL c l
  | _ => none

noncomputable def cUnp (rev : Bool) (o : Option (List Nat)) (e : E) : S := match o with
  | some is => .unp rev is e
  | none => .fail
noncomputable def cAsgT (f : PySem.Expr → E) (c : CE) (ts : List PySem.Expr) (v : PySem.Expr) : S := match v with
  | .Tuple vs i p => (match swapNames c ts vs with
      | some names => cUnp true (mapO (storeSlot c) names) (f (.Tuple vs i p))
      | none => if noSwap ts vs then cUnp false (mapO (nameSlot c) ts) (f (.Tuple vs i p)) else .fail)
  | v => cUnp false (mapO (nameSlot c) ts) (f v)
noncomputable def cAsg (f : PySem.Expr → E) (c : CE) (t v : PySem.Expr) : S := match t with
  | .Name x _ => (match storeSlot c x with | some i => .asg i (f v) | none => .fail)
  | .Tuple ts _ _ => cAsgT f c ts v
  | .Attribute o x _ => if attrName x then .asgA (f o) x (f v) else .fail
  | .Subscript o k _ => (match lastPair c v with
      | some (i, e) => .asgSM (f o) (f k) i (f e)
      | none => .asgS (f o) (f k) (f v))
  | _ => .fail
noncomputable def cFor (f : PySem.Expr → E) (c : CE) (t it : PySem.Expr) (a : List S) : S := match rngArg c it with
      | some e => (match nameSlot c t with | some i => .forR i (f e) a | none => .fail)
      | none => (match tgtOf c t with | some t => .for_ t (f it) a | none => .fail)
noncomputable def cRet (f : PySem.Expr → E) (c : CE) (e : PySem.Expr) : S := match lastName c e with
      | some i => .retM i
      | none => .ret (f e)
noncomputable def oneL {α : Type} (f : α → S) (l : List α) : S := match l with
  | [] => .fail
  | x :: r => match r with | [] => f x | _ :: _ => .fail
noncomputable def noneL {α : Type} (x : S) (l : List α) : S := match l with
  | [] => x
  | _ :: _ => .fail
noncomputable def cS : Nat → CE → PySem.Stmt → S
  | 0, _, _ => .fail
  | n + 1, c, x => match x with
    | .Assign ts v _ => oneL (fun t => cAsg (cE n c) c t v) ts
    | .Expr v _ => if notComp v then .expr (cE n c v) else .fail
    | .If t a b _ => .ite (cE n c t) (a.map (cS n c)) (b.map (cS n c))
    | .For t it a o _ => noneL (cFor (cE n c) c t it (a.map (cS n c))) o
    | .While t a o _ => noneL (.while_ (cE n c t) (a.map (cS n c))) o
    | .Return e _ => (match e with | some e => cRet (cE n c) c e | none => .fail)
    | _ => .fail

/-! the table out of the written heap -/
noncomputable def isTy (s : String) (v : Value) : Bool := match v with
  | .type t => decide (t = s)
  | _ => false
noncomputable def readT (f : Value → Option PyData) (o : Option Obj) : Option PyData := match o with
  | none => none
  | some o => if isTy "tuple" o.cls then (match o.data with
    | .seq xs _ => (match mapO f xs.toList with | some l => some (.tuple l) | none => none)
    | _ => none) else none
noncomputable def readB (f : Nat → Option PyData) (v : Value) : Option PyData := match v with
  | .none => some .none
  | .bool b => some (.bool b)
  | .int i _ => some (.int i)
  | .str s _ => some (.str s)
  | .ref a => f a
  | _ => none
noncomputable def readD (K : Frag) : Nat → Value → Option PyData
  | 0, v => readB (fun _ => none) v
  | n + 1, v => readB (fun a => readT (readD K n) (findN a K)) v
noncomputable def readSD (K : Frag) (es : List DictEntry) : Option (List (Str × PyData)) := mapO (fun e => match e.key with
  | .str x _ => (match readD K 3 e.val with | some d => some (x, d) | none => none)
  | _ => none) es
noncomputable def biOf (x : Str) : Option GV :=
  if strEq x "len" then some (.bi .len) else if strEq x "abs" then some (.bi .abs) else if strEq x "int" then some (.bi .int)
  else if strEq x "list" then some (.bi .list) else if strEq x "tuple" then some (.bi .tuple) else if strEq x "dict" then some (.bi .dict)
  else if strEq x "sorted" then some (.bi .sorted) else if strEq x "max" then some (.bi .max) else if strEq x "range" then some .rng else none
noncomputable def glD (K : Frag) (a : Nat) : Option GV := match readD K 3 (.ref a) with
  | some d => some (.val (.d d))
  | none => none
noncomputable def glS (K : Frag) (es : List DictEntry) : Option GV := match readSD K es with
  | some m => some (.val (.sdict m))
  | none => none
noncomputable def glO (K : Frag) (a : Nat) (o : Option Obj) : Option GV := match o with
  | none => none
  | some o => match o.data with
    | .func _ => some (.fn a)
    | .cls _ => some (.cls a)
    | .dict es _ => if isTy "dict" o.cls then glS K es.toList else none
    | _ => glD K a
noncomputable def glV (K : Frag) (v : Value) : Option GV := match v with
  | .ref a => glO K a (findN a K)
  | _ => none
noncomputable def glOf (K : Frag) (x : Str) : Option GV := match nsIn K mainGlobals x with
  | none => none
  | some o => match o with
    | some v => glV K v
    | none => biOf x
noncomputable def dflI (K : Frag) (v : Value) : Option V := match readD K 3 v with
  | some d => some (.d d)
  | none => none
noncomputable def dflO (K : Frag) (o : Option Obj) : Option (List V) := match o with
  | none => none
  | some o => match o.data with
    | .seq xs _ => mapO (dflI K) xs.toList
    | _ => none
noncomputable def dflOf (K : Frag) (v : Value) : Option (List V) := match v with
  | .none => some []
  | .ref a => dflO K (findN a K)
  | _ => none
noncomputable def ceOf (gl : Str → Option GV) (muts mvs : List (Nat × Nat)) (fd : FuncData) : CE := ⟨fd.scope.names, gl, muts, mvs⟩
noncomputable def mkFn (K : Frag) (gl : Str → Option GV) (muts mvs : List (Nat × Nat)) (fd : FuncData) : Option Fn :=
  match fd.body with
  | .stmts b => (match mapO (fun a : Arg => slotAt a.arg fd.scope.names 0) fd.params.args with
    | none => none
    | some ps => match dflOf K fd.defaults with
      | none => none
      | some ds => if fnKind fd.scope then some ⟨fd.qualname, ps, ds, fd.scope.names.length, b.map (cS 60 (ceOf gl muts mvs fd))⟩ else none)
  | _ => none
noncomputable def mkFuns (K : Frag) (gl : Str → Option GV) (muts mvs : List (Nat × Nat)) : Frag → List (Nat × Fn)
  | [] => []
  | p :: r => match p.2.data with
    | .func fd => (match mkFn K gl muts mvs fd with | some f => (p.1, f) :: mkFuns K gl muts mvs r | none => mkFuns K gl muts mvs r)
    | _ => mkFuns K gl muts mvs r
end Mine
end
section
open PySem PySem.W
namespace Mine
/-! taking a match apart, without much ado -/
section
variable {γ : Type} {c z : γ} {P : Prop}
theorem oA {o : Option (List PyData)} {f : List PyData → γ} (e : (match o with | some a => f a | none => z) = c) (k1 : ∀ a, o = some a → f a = c → P) (k0 : o = none → z = c → P) : P := by
  cases o with
  | none => exact k0 rfl e
  | some p => exact k1 p rfl e
theorem sA {o : Option (V × List O)} {f : V → List O → γ} (e : (match o with | none => z | some (a, b) => f a b) = c) (k0 : o = none → z = c → P) (k1 : ∀ a b, o = some (a, b) → f a b = c → P) : P := by
  cases o with
  | none => exact k0 rfl e
  | some p => exact k1 p.1 p.2 rfl e
theorem sB {o : Option (V × List O)} {f : V → List O → γ} (e : (match o with | some (a, b) => f a b | none => z) = c) (k1 : ∀ a b, o = some (a, b) → f a b = c → P) (k0 : o = none → z = c → P) : P := by
  cases o with
  | none => exact k0 rfl e
  | some p => exact k1 p.1 p.2 rfl e
theorem sC {o : Option (List V × List O)} {f : List V → List O → γ} (e : (match o with | none => z | some (a, b) => f a b) = c) (k0 : o = none → z = c → P) (k1 : ∀ a b, o = some (a, b) → f a b = c → P) : P := by
  cases o with
  | none => exact k0 rfl e
  | some p => exact k1 p.1 p.2 rfl e
theorem sD {o : Option (List V × List O)} {f : List V → List O → γ} (e : (match o with | some (a, b) => f a b | none => z) = c) (k1 : ∀ a b, o = some (a, b) → f a b = c → P) (k0 : o = none → z = c → P) : P := by
  cases o with
  | none => exact k0 rfl e
  | some p => exact k1 p.1 p.2 rfl e
theorem sE {o : Option V} {f : V → γ} (e : (match o with | some a => f a | none => z) = c) (k1 : ∀ a, o = some a → f a = c → P) (k0 : o = none → z = c → P) : P := by
  cases o with
  | none => exact k0 rfl e
  | some p => exact k1 p rfl e
theorem sE2 {o : Option V} {f : V → γ} (e : (match o with | none => z | some a => f a) = c) (k0 : o = none → z = c → P) (k1 : ∀ a, o = some a → f a = c → P) : P := by
  cases o with
  | none => exact k0 rfl e
  | some p => exact k1 p rfl e
theorem sF {o : Option Bool} {f : Bool → γ} (e : (match o with | some a => f a | none => z) = c) (k1 : ∀ a, o = some a → f a = c → P) (k0 : o = none → z = c → P) : P := by
  cases o with
  | none => exact k0 rfl e
  | some p => exact k1 p rfl e
theorem sG {o : Option PyData} {f : PyData → γ} (e : (match o with | some a => f a | none => z) = c) (k1 : ∀ a, o = some a → f a = c → P) (k0 : o = none → z = c → P) : P := by
  cases o with
  | none => exact k0 rfl e
  | some p => exact k1 p rfl e
theorem sH {o : Option Nat} {f : Nat → γ} (e : (match o with | some a => f a | none => z) = c) (k1 : ∀ a, o = some a → f a = c → P) (k0 : o = none → z = c → P) : P := by
  cases o with
  | none => exact k0 rfl e
  | some p => exact k1 p rfl e
theorem sI {o : Option Nat} {f : Nat → γ} (e : (match o with | none => z | some a => f a) = c) (k0 : o = none → z = c → P) (k1 : ∀ a, o = some a → f a = c → P) : P := by
  cases o with
  | none => exact k0 rfl e
  | some p => exact k1 p rfl e
theorem sJ {o : Option (List O)} {f : List O → γ} (e : (match o with | some a => f a | none => z) = c) (k1 : ∀ a, o = some a → f a = c → P) (k0 : o = none → z = c → P) : P := by
  cases o with
  | none => exact k0 rfl e
  | some p => exact k1 p rfl e
theorem sK {o : Option (List (Option V))} {f : List (Option V) → γ} (e : (match o with | none => z | some a => f a) = c) (k0 : o = none → z = c → P) (k1 : ∀ a, o = some a → f a = c → P) : P := by
  cases o with
  | none => exact k0 rfl e
  | some p => exact k1 p rfl e
theorem sL {o : Option (List (Option V))} {f : List (Option V) → γ} (e : (match o with | some a => f a | none => z) = c) (k1 : ∀ a, o = some a → f a = c → P) (k0 : o = none → z = c → P) : P := by
  cases o with
  | none => exact k0 rfl e
  | some p => exact k1 p rfl e
theorem sM {o : Option Cl} {f : Cl → γ} (e : (match o with | none => z | some a => f a) = c) (k0 : o = none → z = c → P) (k1 : ∀ a, o = some a → f a = c → P) : P := by
  cases o with
  | none => exact k0 rfl e
  | some p => exact k1 p rfl e
theorem sN {o : Option (Fl × St)} {f : St → γ} {g : V → St → γ} (e : (match o with | some (.next, st) => f st | some (.ret v, st) => g v st | none => z) = c) (k1 : ∀ st, o = some (.next, st) → f st = c → P) (k2 : ∀ v st, o = some (.ret v, st) → g v st = c → P) (k0 : o = none → z = c → P) : P := by
  cases o with
  | none => exact k0 rfl e
  | some p =>
    obtain ⟨fl, st⟩ := p
    cases fl with
    | next => exact k1 st rfl e
    | ret v => exact k2 v st rfl e
theorem sO {o : Option (Bool × List O)} {f g : List O → γ} (e : (match o with | none => z | some (false, h) => f h | some (true, h) => g h) = c) (k0 : o = none → z = c → P) (k1 : ∀ h, o = some (false, h) → f h = c → P) (k2 : ∀ h, o = some (true, h) → g h = c → P) : P := by
  cases o with
  | none => exact k0 rfl e
  | some p =>
    obtain ⟨b, h⟩ := p
    cases b with
    | false => exact k1 h rfl e
    | true => exact k2 h rfl e
theorem sP {o : Option (Bool × List O)} {f g : List O → γ} (e : (match o with | some (true, h) => f h | some (false, h) => g h | none => z) = c) (k1 : ∀ h, o = some (true, h) → f h = c → P) (k2 : ∀ h, o = some (false, h) → g h = c → P) (k0 : o = none → z = c → P) : P := by
  cases o with
  | none => exact k0 rfl e
  | some p =>
    obtain ⟨b, h⟩ := p
    cases b with
    | false => exact k2 h rfl e
    | true => exact k1 h rfl e
theorem sQ {o : Option (Srcs × Nat)} {f : Srcs → Nat → γ} (e : (match o with | none => z | some (a, b) => f a b) = c) (k0 : o = none → z = c → P) (k1 : ∀ a b, o = some (a, b) → f a b = c → P) : P := by
  cases o with
  | none => exact k0 rfl e
  | some p => exact k1 p.1 p.2 rfl e
theorem sR {o : Option (List (Int × PyData) × List O)} {f : List (Int × PyData) → List O → γ} (e : (match o with | none => z | some (a, b) => f a b) = c) (k0 : o = none → z = c → P) (k1 : ∀ a b, o = some (a, b) → f a b = c → P) : P := by
  cases o with
  | none => exact k0 rfl e
  | some p => exact k1 p.1 p.2 rfl e
theorem sS {o : Option (List (Int × PyData))} {f : List (Int × PyData) → γ} (e : (match o with | some a => f a | none => z) = c) (k1 : ∀ a, o = some a → f a = c → P) (k0 : o = none → z = c → P) : P := by
  cases o with
  | none => exact k0 rfl e
  | some p => exact k1 p rfl e
theorem sS2 {o : Option (List (Str × PyData))} {f : List (Str × PyData) → γ} (e : (match o with | some a => f a | none => z) = c) (k1 : ∀ a, o = some a → f a = c → P) (k0 : o = none → z = c → P) : P := by
  cases o with
  | none => exact k0 rfl e
  | some p => exact k1 p rfl e
theorem sS3 {o : Option (List (Int × List (Int × PyData)))} {f : List (Int × List (Int × PyData)) → γ} (e : (match o with | some a => f a | none => z) = c) (k1 : ∀ a, o = some a → f a = c → P) (k0 : o = none → z = c → P) : P := by
  cases o with
  | none => exact k0 rfl e
  | some p => exact k1 p rfl e
theorem sEp {o : Option (List V × List V × List O)} {f : List V → List V → List O → γ} (e : (match o with | some (a, b, h) => f a b h | none => z) = c) (k1 : ∀ a b h, o = some (a, b, h) → f a b h = c → P) (k0 : o = none → z = c → P) : P := by
  cases o with
  | none => exact k0 rfl e
  | some p => exact k1 p.1 p.2.1 p.2.2 rfl e
theorem sT {o : Option (Option Nat × List O)} {f : Option Nat → List O → γ} (e : (match o with | none => z | some (a, b) => f a b) = c) (k0 : o = none → z = c → P) (k1 : ∀ a b, o = some (a, b) → f a b = c → P) : P := by
  cases o with
  | none => exact k0 rfl e
  | some p => exact k1 p.1 p.2 rfl e
theorem sU {o : Option (PyData × St)} {f : PyData → St → γ} (e : (match o with | none => z | some (a, b) => f a b) = c) (k0 : o = none → z = c → P) (k1 : ∀ a b, o = some (a, b) → f a b = c → P) : P := by
  cases o with
  | none => exact k0 rfl e
  | some p => exact k1 p.1 p.2 rfl e
theorem sV {o : Option (Fl × St)} {f : Fl → St → γ} (e : (match o with | some (a, b) => f a b | none => z) = c) (k1 : ∀ a b, o = some (a, b) → f a b = c → P) (k0 : o = none → z = c → P) : P := by
  cases o with
  | none => exact k0 rfl e
  | some p => exact k1 p.1 p.2 rfl e
theorem sV2 {o : Option (Fl × St)} {f : Fl → St → γ} (e : (match o with | none => z | some (a, b) => f a b) = c) (k0 : o = none → z = c → P) (k1 : ∀ a b, o = some (a, b) → f a b = c → P) : P := by
  cases o with
  | none => exact k0 rfl e
  | some p => exact k1 p.1 p.2 rfl e
theorem sW {o : Option (List V)} {f : List V → γ} (e : (match o with | some a => f a | none => z) = c) (k1 : ∀ a, o = some a → f a = c → P) (k0 : o = none → z = c → P) : P := by
  cases o with
  | none => exact k0 rfl e
  | some p => exact k1 p rfl e
theorem sX {o : Option (List Nat)} {f : List Nat → γ} (e : (match o with | some a => f a | none => z) = c) (k1 : ∀ a, o = some a → f a = c → P) (k0 : o = none → z = c → P) : P := by
  cases o with
  | none => exact k0 rfl e
  | some p => exact k1 p rfl e
theorem sY {o : Option (Nat × PySem.Expr)} {f : Nat → PySem.Expr → γ} (e : (match o with | some (a, b) => f a b | none => z) = c) (k1 : ∀ a b, o = some (a, b) → f a b = c → P) (k0 : o = none → z = c → P) : P := by
  cases o with
  | none => exact k0 rfl e
  | some p => exact k1 p.1 p.2 rfl e
theorem sZ {o : Option (Option V)} {y : γ} {f : V → γ} (e : (match o with | none => z | some none => y | some (some v) => f v) = c) (k0 : o = none → z = c → P) (k1 : o = some none → y = c → P) (k2 : ∀ v, o = some (some v) → f v = c → P) : P := by
  cases o with
  | none => exact k0 rfl e
  | some p =>
    cases p with
    | none => exact k1 rfl e
    | some v => exact k2 v rfl e
theorem wA {o : Option (V × List O)} {f : PyData → List O → γ} (e : (match o with | some (.d x, h) => f x h | _ => z) = c) (k1 : ∀ x h, o = some (.d x, h) → f x h = c → P) (k0 : z = c → P) : P := by
  cases o with
  | none => exact k0 e
  | some p =>
    obtain ⟨v, h⟩ := p
    cases v
    case d x => exact k1 x h rfl e
    all_goals exact k0 e
theorem wB {o : Option O} {f : Nat → List (Str × V) → γ} (e : (match o with | some (.attrs C l) => f C l | _ => z) = c) (k1 : ∀ C l, o = some (.attrs C l) → f C l = c → P) (k0 : z = c → P) : P := by
  cases o with
  | none => exact k0 e
  | some p =>
    cases p
    case attrs C l => exact k1 C l rfl e
    all_goals exact k0 e
theorem wC {o : Option O} {f : List PyData → γ} (e : (match o with | some (.list l) => f l | _ => z) = c) (k1 : ∀ l, o = some (.list l) → f l = c → P) (k0 : z = c → P) : P := by
  cases o with
  | none => exact k0 e
  | some p =>
    cases p
    case list l => exact k1 l rfl e
    all_goals exact k0 e
theorem wD {o : Option (V × List O)} {f : List (Int × PyData) → List O → γ} (e : (match o with | some (.idict x, h) => f x h | _ => z) = c) (k1 : ∀ x h, o = some (.idict x, h) → f x h = c → P) (k0 : z = c → P) : P := by
  cases o with
  | none => exact k0 e
  | some p =>
    obtain ⟨v, h⟩ := p
    cases v
    case idict x => exact k1 x h rfl e
    all_goals exact k0 e
theorem wE {o : Option (V × List O)} {f : List O → γ} (e : (match o with | some (.d .none, h) => f h | _ => z) = c) (k1 : ∀ h, o = some (.d .none, h) → f h = c → P) (k0 : z = c → P) : P := by
  cases o with
  | none => exact k0 e
  | some p =>
    obtain ⟨v, h⟩ := p
    cases v
    case d x =>
      cases x
      case none => exact k1 h rfl e
      all_goals exact k0 e
    all_goals exact k0 e
theorem wF {o : Option (V × List O)} {f : Nat → List O → γ} (e : (match o with | some (.loc n, h) => f n h | _ => z) = c) (k1 : ∀ n h, o = some (.loc n, h) → f n h = c → P) (k0 : z = c → P) : P := by
  cases o with
  | none => exact k0 e
  | some p =>
    obtain ⟨v, h⟩ := p
    cases v
    case loc n => exact k1 n h rfl e
    all_goals exact k0 e
theorem wG {o : Option (Option V)} {f : Nat → γ} (e : (match o with | some (some (.loc n)) => f n | _ => z) = c) (k1 : ∀ n, o = some (some (.loc n)) → f n = c → P) (k0 : z = c → P) : P := by
  cases o with
  | none => exact k0 e
  | some p =>
    cases p with
    | none => exact k0 e
    | some v =>
      cases v
      case loc n => exact k1 n rfl e
      all_goals exact k0 e
theorem wH {o : Option (V × List O)} {f : Int → List O → γ} (e : (match o with | some (.d (.int x), h) => f x h | _ => z) = c) (k1 : ∀ x h, o = some (.d (.int x), h) → f x h = c → P) (k0 : z = c → P) : P := by
  cases o with
  | none => exact k0 e
  | some p =>
    obtain ⟨v, h⟩ := p
    cases v
    case d x =>
      cases x
      case int x => exact k1 x h rfl e
      all_goals exact k0 e
    all_goals exact k0 e
theorem wI {a b : V} {f : Int → Int → γ} (e : (match a, b with | .d (.int x), .d (.int y) => f x y | _, _ => z) = c) (k1 : ∀ x y, a = .d (.int x) → b = .d (.int y) → f x y = c → P) (k0 : z = c → P) : P := by
  cases a
  case d x =>
    cases x
    case int x =>
      cases b
      case d y =>
        cases y
        case int y => exact k1 x y rfl rfl e
        all_goals exact k0 e
      all_goals exact k0 e
    all_goals exact k0 e
  all_goals exact k0 e
theorem wJ {o : Option (Option V)} {f : V → γ} (e : (match o with | some (some v) => f v | _ => z) = c) (k1 : ∀ v, o = some (some v) → f v = c → P) (k0 : z = c → P) : P := by
  cases o with
  | none => exact k0 e
  | some p =>
    cases p with
    | none => exact k0 e
    | some v => exact k1 v rfl e
theorem wK {v : V} {f : Nat → γ} (e : (match v with | .loc n => f n | _ => z) = c) (k1 : ∀ n, v = .loc n → f n = c → P) (k0 : z = c → P) : P := by
  cases v
  case loc n => exact k1 n rfl e
  all_goals exact k0 e
theorem wL {v : V} {f : Bool → γ} (e : (match v with | .d (.bool b) => f b | _ => z) = c) (k1 : ∀ b, v = .d (.bool b) → f b = c → P) (k0 : z = c → P) : P := by
  cases v
  case d x =>
    cases x
    case bool b => exact k1 b rfl e
    all_goals exact k0 e
  all_goals exact k0 e
theorem wM {v : V} {f g : List PyData → γ} (e : (match v with | .d (.list l) => f l | .d (.tuple l) => g l | _ => z) = c) (k1 : ∀ l, v = .d (.list l) → f l = c → P) (k2 : ∀ l, v = .d (.tuple l) → g l = c → P) (k0 : z = c → P) : P := by
  cases v
  case d x =>
    cases x
    case list l => exact k1 l rfl e
    case tuple l => exact k2 l rfl e
    all_goals exact k0 e
  all_goals exact k0 e
theorem wN {v : V} {f : List (Int × PyData) → γ} (e : (match v with | .idict l => f l | _ => z) = c) (k1 : ∀ l, v = .idict l → f l = c → P) (k0 : z = c → P) : P := by
  cases v
  case idict l => exact k1 l rfl e
  all_goals exact k0 e
theorem wO {o : Option O} {f : List (Int × List (Int × PyData)) → γ} (e : (match o with | some (.iidict l) => f l | _ => z) = c) (k1 : ∀ l, o = some (.iidict l) → f l = c → P) (k0 : z = c → P) : P := by
  cases o with
  | none => exact k0 e
  | some p =>
    cases p
    case iidict l => exact k1 l rfl e
    all_goals exact k0 e
theorem wP {v : V} {f g : List PyData → γ} {k : List (Int × PyData) → γ} (e : (match v with | .d (.list l) => f l | .d (.tuple l) => g l | .idict l => k l | _ => z) = c) (k1 : ∀ l, v = .d (.list l) → f l = c → P) (k2 : ∀ l, v = .d (.tuple l) → g l = c → P) (k3 : ∀ l, v = .idict l → k l = c → P) (k0 : z = c → P) : P := by
  cases v
  case d x =>
    cases x
    case list l => exact k1 l rfl e
    case tuple l => exact k2 l rfl e
    all_goals exact k0 e
  case idict l => exact k3 l rfl e
  all_goals exact k0 e
theorem wQ {v : V} {f : Int → γ} (e : (match v with | .d (.int i) => f i | _ => z) = c) (k1 : ∀ i, v = .d (.int i) → f i = c → P) (k0 : z = c → P) : P := by
  cases v
  case d x =>
    cases x
    case int i => exact k1 i rfl e
    all_goals exact k0 e
  all_goals exact k0 e
theorem wR {v : V} {f : Int → γ} {g : Bool → γ} (e : (match v with | .d (.int i) => f i | .d (.bool b) => g b | _ => z) = c) (k1 : ∀ i, v = .d (.int i) → f i = c → P) (k2 : ∀ b, v = .d (.bool b) → g b = c → P) (k0 : z = c → P) : P := by
  cases v
  case d x =>
    cases x
    case int i => exact k1 i rfl e
    case bool b => exact k2 b rfl e
    all_goals exact k0 e
  all_goals exact k0 e
theorem iF {b : Prop} [Decidable b] {x y : γ} (e : (if b then x else y) = c) (k1 : b → x = c → P) (k0 : ¬ b → y = c → P) : P := by
  by_cases h : b
  · exact k1 h ((if_pos h).symm.trans e)
  · exact k0 h ((if_neg h).symm.trans e)
end
theorem nsome {P : Prop} {α : Type} {a : α} (e : none = some a) : P := by cases e
theorem snone {P : Prop} {α : Type} {a : α} (e : some a = none) : P := by cases e
theorem ftrue {P : Prop} (e : false = true) : P := Bool.noConfusion e
theorem inj1 {P : Prop} {α : Type} {a c : α} (e : some a = some c) (k : c = a → P) : P := k (Option.some.inj e).symm
theorem inj2 {P : Prop} {α β : Type} {a c : α} {b d : β} (e : some (a, b) = some (c, d)) (k : c = a → d = b → P) : P := k (congrArg Prod.fst (Option.some.inj e)).symm (congrArg Prod.snd (Option.some.inj e)).symm
theorem inj3 {P : Prop} {α β δ : Type} {a a' : α} {b b' : β} {d d' : δ} (e : some (a, b, d) = some (a', b', d')) (k : a' = a → b' = b → d' = d → P) : P := inj2 e fun e1 e2 => k e1 (congrArg Prod.fst e2) (congrArg Prod.snd e2)
/-! what an option holds -/
theorem optD_on {P : Prop} {o : Option PyData} {v : V} (e : optD o = some v) (k : ∀ x, o = some x → v = .d x → P) : P := by
  cases o with
  | none => exact nsome e
  | some x => exact k x rfl (Option.some.inj e).symm
theorem bV_on {P : Prop} {f : Bool → Bool} {o : Option Bool} {v : V} (e : bV f o = some v) (k : ∀ r, o = some r → v = bB (f r) → P) : P := by
  cases o with
  | none => exact nsome e
  | some x => exact k x rfl (Option.some.inj e).symm
theorem inK_on {P : Prop} {q : Int → Bool} {a : V} {r : Bool} (e : inK q a = some r) (k : ∀ i, a = .d (.int i) → r = q i → P) : P := by
  cases a
  case d x =>
    cases x
    case int i => exact k i rfl (Option.some.inj e).symm
    all_goals exact nsome e
  all_goals exact nsome e
theorem inL_on {P : Prop} {y : PyData} {ys : List PyData} {a : V} {r : Bool} (e : inL a y ys = some r) (k : ∀ x, a = .d x → lay x = true → lay y = true → r = anyEq x ys → P) : P := by
  cases a
  case d x =>
    refine iF (b := (lay x && lay y) = true) e (fun h e => ?_) fun _ e => nsome e
    have h := Bool.and_eq_true_iff.mp h
    exact k x rfl h.1 h.2 (Option.some.inj e).symm
  all_goals exact nsome e
/-! two ints, two data -/
theorem ii_on {P : Prop} {α : Type} {f : Int → Int → Option α} {a b : V} {v : α} (e : ii f a b = some v) (k : ∀ i j, a = .d (.int i) → b = .d (.int j) → f i j = some v → P) : P := by
  cases a
  case d x =>
    cases x
    case int i =>
      cases b
      case d y =>
        cases y
        case int j => exact k i j rfl rfl e
        all_goals exact nsome e
      all_goals exact nsome e
    all_goals exact nsome e
  all_goals exact nsome e
theorem dd_on {P : Prop} {f : PyData → PyData → Option V} {a b v : V} (e : (match a with | .d x => (match b with | .d y => f x y | _ => none) | _ => none) = some v) (k : ∀ x y, a = .d x → b = .d y → f x y = some v → P) : P := by
  cases a
  case d x =>
    cases b
    case d y => exact k x y rfl rfl e
    all_goals exact nsome e
  all_goals exact nsome e
theorem iFn {P : Prop} {α : Type} {b : Prop} [Decidable b] {x v : α} (e : (if b then some x else none) = some v) (k : b → v = x → P) : P := by
  by_cases h : b
  · rw [if_pos h] at e; exact k h (Option.some.inj e).symm
  · rw [if_neg h] at e; exact nsome e
theorem iFm {P : Prop} {α : Type} {b : Prop} [Decidable b] {o : Option α} {v : α} (e : (if b then none else o) = some v) (k : ¬ b → o = some v → P) : P := by
  by_cases h : b
  · rw [if_pos h] at e; exact nsome e
  · rw [if_neg h] at e; exact k h e
end Mine
end
section
open PySem PySem.W PyProof.Rows
namespace Mine

noncomputable abbrev Led := List (Addr × Obj)
def Kn (hb : Heap) (Z : Led) (a : Addr) (o : Obj) : Prop := hb.get? a = some o ∨ (a, o) ∈ Z

mutual
inductive RD (kn : Addr → Obj → Prop) : PyData → Value → Prop
  | none : RD kn .none .none
  | bool (b) : RD kn (.bool b) (.bool b)
  | int (i t) : RD kn (.int i) (.int i t)
  | str (x t) : RD kn (.str x) (.str x t)
  | list {a o vs n xs} : kn a o → o.cls = .type "list" → o.data = .seq vs n → RDs kn xs vs.toList → RD kn (.list xs) (.ref a)
  | tuple {a o vs n xs} : kn a o → o.cls = .type "tuple" → o.data = .seq vs n → RDs kn xs vs.toList → RD kn (.tuple xs) (.ref a)
inductive RDs (kn : Addr → Obj → Prop) : List PyData → List Value → Prop
  | nil : RDs kn [] []
  | cons {x v xs vs} : RD kn x v → RDs kn xs vs → RDs kn (x :: xs) (v :: vs)
end

/-! taking them apart: what must be shown for each shape -/
section
variable (kn : Addr → Obj → Prop)
def RDC (P : Value → Prop) : PyData → Prop
  | .none => P .none
  | .bool b => P (.bool b)
  | .int i => ∀ t, P (.int i t)
  | .str x => ∀ t, P (.str x t)
  | .list xs => ∀ a o vs n, kn a o → o.cls = .type "list" → o.data = .seq vs n → RDs kn xs vs.toList → P (.ref a)
  | .tuple xs => ∀ a o vs n, kn a o → o.cls = .type "tuple" → o.data = .seq vs n → RDs kn xs vs.toList → P (.ref a)
  | .dict _ => True
def RDsC (P : List Value → Prop) : List PyData → Prop
  | [] => P []
  | x :: xs => ∀ v vs, RD kn x v → RDs kn xs vs → P (v :: vs)
end
@[elab_as_elim] theorem RD.on {kn : Addr → Obj → Prop} {x : PyData} {v : Value} {P : Value → Prop} (r : RD kn x v) : RDC kn P x → P v := by
  cases r with
  | none => exact fun k => k
  | bool => exact fun k => k
  | int => exact fun k => k _
  | str => exact fun k => k _
  | list a b c d => exact fun k => k _ _ _ _ a b c d
  | tuple a b c d => exact fun k => k _ _ _ _ a b c d
@[elab_as_elim] theorem RDs.on {kn : Addr → Obj → Prop} {xs : List PyData} {vs : List Value} {P : List Value → Prop} (r : RDs kn xs vs) : RDsC kn P xs → P vs := by
  cases r with
  | nil => exact fun k => k
  | cons a b => exact fun k => k _ _ a b
theorem RD.mono {kn kn' : Addr → Obj → Prop} (h : ∀ a o, kn a o → kn' a o) : ∀ (x : PyData) (v : Value), RD kn x v → RD kn' x v := fun _ _ =>
  RD.rec (motive_1 := fun x v _ => RD kn' x v) (motive_2 := fun xs vs _ => RDs kn' xs vs) .none .bool .int .str (fun a b c _ d => .list (h _ _ a) b c d) (fun a b c _ d => .tuple (h _ _ a) b c d) .nil (fun _ _ a b => .cons a b)
theorem RDs.mono {kn kn' : Addr → Obj → Prop} (h : ∀ a o, kn a o → kn' a o) : ∀ (xs : List PyData) (vs : List Value), RDs kn xs vs → RDs kn' xs vs := fun _ _ =>
  RDs.rec (motive_1 := fun x v _ => RD kn' x v) (motive_2 := fun xs vs _ => RDs kn' xs vs) .none .bool .int .str (fun a b c _ d => .list (h _ _ a) b c d) (fun a b c _ d => .tuple (h _ _ a) b c d) .nil (fun _ _ a b => .cons a b)
theorem RDs.length {kn : Addr → Obj → Prop} : ∀ {xs : List PyData} {vs : List Value}, RDs kn xs vs → vs.length = xs.length
  | [], _, r => r.on rfl
  | x :: xs, _, r => r.on fun _ _ _ b => congrArg Nat.succ (RDs.length b)
theorem RDs.get {kn : Addr → Obj → Prop} : ∀ {xs : List PyData} {vs : List Value} {i : Nat} {x : PyData}, RDs kn xs vs → xs[i]? = some x → ∃ v, vs[i]? = some v ∧ RD kn x v
  | [], _, _, _, _, h => nsome h
  | x :: xs, _, 0, y, r, h => r.on fun v _ a _ => ⟨v, rfl, Option.some.inj h ▸ a⟩
  | x :: xs, _, i + 1, y, r, h => r.on fun _ _ _ b => RDs.get (i := i) b h
theorem RDs.append {kn : Addr → Obj → Prop} {ys : List PyData} {us : List Value} : ∀ {xs : List PyData} {vs : List Value}, RDs kn xs vs → RDs kn ys us → RDs kn (xs ++ ys) (vs ++ us)
  | [], _, r, q => r.on q
  | x :: xs, _, r, q => r.on fun _ _ a b => .cons a (RDs.append b q)
theorem RDs.take {kn : Addr → Obj → Prop} : ∀ {xs : List PyData} {vs : List Value} (n : Nat), RDs kn xs vs → RDs kn (xs.take n) (vs.take n)
  | _, _, 0, _ => .nil
  | [], _, n + 1, r => r.on .nil
  | x :: xs, _, n + 1, r => r.on fun _ _ a b => .cons a (RDs.take n b)
theorem RDs.drop {kn : Addr → Obj → Prop} : ∀ {xs : List PyData} {vs : List Value} (n : Nat), RDs kn xs vs → RDs kn (xs.drop n) (vs.drop n)
  | _, _, 0, r => r
  | [], _, n + 1, r => r.on .nil
  | x :: xs, _, n + 1, r => r.on fun _ _ _ b => RDs.drop n b
theorem RDs.set {kn : Addr → Obj → Prop} {x : PyData} {v : Value} : ∀ {xs : List PyData} {vs : List Value} (n : Nat), RDs kn xs vs → RD kn x v → RDs kn (xs.set n x) (vs.set n v)
  | [], _, _, r, _ => r.on .nil
  | x :: xs, _, 0, r, q => r.on fun _ _ _ b => .cons q b
  | x :: xs, _, n + 1, r, q => r.on fun _ _ a b => .cons a (RDs.set n b q)
theorem RDs.dropLast {kn : Addr → Obj → Prop} {xs : List PyData} {vs : List Value} (r : RDs kn xs vs) : RDs kn xs.dropLast vs.dropLast := by
  rw [List.dropLast_eq_take, List.dropLast_eq_take, r.length]; exact r.take _
theorem RDs.replicate {kn : Addr → Obj → Prop} {x : PyData} {v : Value} (r : RD kn x v) : ∀ n, RDs kn (List.replicate n x) (List.replicate n v)
  | 0 => .nil
  | n + 1 => .cons r (RDs.replicate r n)
theorem RD.reads {h : Heap} {x : PyData} {v : Value} (r : RD (fun a o => h.get? a = some o) x v) : ∃ as, Reads h v x as :=
  RD.rec (motive_1 := fun x v _ => ∃ as, Reads h v x as) (motive_2 := fun xs vs _ => ∃ as, ReadsAll h vs xs as) ⟨_, .none⟩ (fun b => ⟨_, .bool b⟩) (fun i t => ⟨_, .int i t⟩) (fun x t => ⟨_, .str x t⟩)
    (fun a b c _ ⟨_, q⟩ => ⟨_, .list a b c q⟩) (fun a b c _ ⟨_, q⟩ => ⟨_, .tuple a b c q⟩) ⟨_, .nil⟩ (fun _ _ ⟨_, q⟩ ⟨_, q'⟩ => ⟨_, .cons q q'⟩) r
theorem RDs.reads {h : Heap} : ∀ {xs : List PyData} {vs : List Value}, RDs (fun a o => h.get? a = some o) xs vs → ∃ as, ReadsAll h vs xs as
  | [], _, r => r.on ⟨_, .nil⟩
  | x :: xs, _, r => r.on fun _ _ a b => (RD.reads a).elim fun _ q => (RDs.reads b).elim fun _ q' => ⟨_, .cons q q'⟩

section
variable (prog : Program) (w : World)

inductive PD {K : Type} (P : PyData → Value → Prop) : List (K × PyData) → List (K × Value) → Prop
  | nil : PD P [] []
  | cons {k x v m kvs} : P x v → PD P m kvs → PD P ((k, x) :: m) ((k, v) :: kvs)
def PDC {K : Type} (P : PyData → Value → Prop) (Q : List (K × Value) → Prop) : List (K × PyData) → Prop
  | [] => Q []
  | p :: m => ∀ v kvs, P p.2 v → PD P m kvs → Q ((p.1, v) :: kvs)
@[elab_as_elim] theorem PD.on {K : Type} {P : PyData → Value → Prop} {Q : List (K × Value) → Prop} {m : List (K × PyData)} {kvs : List (K × Value)} (r : PD P m kvs) : PDC P Q m → Q kvs := by
  cases r with
  | nil => exact fun k => k
  | cons a b => exact fun k => k _ _ a b

mutual
inductive VR (kn : Addr → Obj → Prop) (as : List Addr) : V → Value → Prop
  | d {x v} : RD kn x v → VR kn as (.d x) v
  | loc {n a} : as[n]? = some a → VR kn as (.loc n) (.ref a)
  | tupv {l a o vs n} : kn a o → o.cls = .type "tuple" → o.data = .seq vs n → VRs kn as l vs.toList → VR kn as (.tupv l) (.ref a)
  | lstv {l a o vs n} : kn a o → o.cls = .type "list" → o.data = .seq vs n → VRs kn as l vs.toList → VR kn as (.lstv l) (.ref a)
  | sdict {m a o} {kvs : List (Str × Value)} : kn a o → o.IsDictOf (strKind prog w) kvs → PD (RD kn) m kvs → VR kn as (.sdict m) (.ref a)
  | idict {m a o} {kvs : List (Int × Value)} : kn a o → (a == sysModules) = false → o.IsDictOf (intKind prog w) kvs → PD (RD kn) m kvs → VR kn as (.idict m) (.ref a)
  | bad {v} : VR kn as .bad v
inductive VRs (kn : Addr → Obj → Prop) (as : List Addr) : List V → List Value → Prop
  | nil : VRs kn as [] []
  | cons {x v xs vs} : VR kn as x v → VRs kn as xs vs → VRs kn as (x :: xs) (v :: vs)
end
def VRC (kn : Addr → Obj → Prop) (as : List Addr) (P : Value → Prop) : V → Prop
  | .d x => ∀ v, RD kn x v → P v
  | .loc n => ∀ a, as[n]? = some a → P (.ref a)
  | .tupv l => ∀ a o vs n, kn a o → o.cls = .type "tuple" → o.data = .seq vs n → VRs prog w kn as l vs.toList → P (.ref a)
  | .lstv l => ∀ a o vs n, kn a o → o.cls = .type "list" → o.data = .seq vs n → VRs prog w kn as l vs.toList → P (.ref a)
  | .sdict m => ∀ a o (kvs : List (Str × Value)), kn a o → o.IsDictOf (strKind prog w) kvs → PD (RD kn) m kvs → P (.ref a)
  | .idict m => ∀ a o (kvs : List (Int × Value)), kn a o → (a == sysModules) = false → o.IsDictOf (intKind prog w) kvs → PD (RD kn) m kvs → P (.ref a)
  | .bad => ∀ v, P v
def VRsC (kn : Addr → Obj → Prop) (as : List Addr) (P : List Value → Prop) : List V → Prop
  | [] => P []
  | x :: xs => ∀ v vs, VR prog w kn as x v → VRs prog w kn as xs vs → P (v :: vs)
variable {prog w}
@[elab_as_elim] theorem VR.on {kn : Addr → Obj → Prop} {as : List Addr} {x : V} {v : Value} {P : Value → Prop} (r : VR prog w kn as x v) : VRC prog w kn as P x → P v := by
  cases r with
  | d a => exact fun k => k _ a
  | loc a => exact fun k => k _ a
  | tupv a b c d => exact fun k => k _ _ _ _ a b c d
  | lstv a b c d => exact fun k => k _ _ _ _ a b c d
  | sdict a b c => exact fun k => k _ _ _ a b c
  | idict a z b c => exact fun k => k _ _ _ a z b c
  | bad => exact fun k => k _
theorem VR.onD {kn : Addr → Obj → Prop} {as : List Addr} {x : PyData} {v : Value} (r : VR prog w kn as (.d x) v) : RD kn x v := r.on fun _ q => q
theorem VR.idAny {kn : Addr → Obj → Prop} {as as' : List Addr} {x : List (Int × PyData)} {v : Value} (r : VR prog w kn as (.idict x) v) : VR prog w kn as' (.idict x) v := r.on fun _ _ _ k1 k2 k3 k4 => .idict k1 k2 k3 k4
@[elab_as_elim] theorem VRs.on {kn : Addr → Obj → Prop} {as : List Addr} {xs : List V} {vs : List Value} {P : List Value → Prop} (r : VRs prog w kn as xs vs) : VRsC prog w kn as P xs → P vs := by
  cases r with
  | nil => exact fun k => k
  | cons a b => exact fun k => k _ _ a b

theorem PD.mono {K : Type} {P P' : PyData → Value → Prop} (h : ∀ x v, P x v → P' x v) {m : List (K × PyData)} {kvs : List (K × Value)} (r : PD P m kvs) : PD P' m kvs :=
  PD.rec (motive := fun m kvs _ => PD P' m kvs) .nil (fun a _ b => .cons (h _ _ a) b) r
theorem as_mono {as as' : List Addr} (ha : as <+: as') {n : Nat} {a : Addr} (e : as[n]? = some a) : as'[n]? = some a := by
  obtain ⟨t, rfl⟩ := ha
  exact (List.getElem?_append_left (List.getElem?_eq_some_iff.mp e).1).trans e
section
variable {kn kn' : Addr → Obj → Prop} {as as' : List Addr} (h : ∀ a o, kn a o → kn' a o) (ha : as <+: as')
include h ha
theorem VR.mono : ∀ (x : V) (v : Value), VR prog w kn as x v → VR prog w kn' as' x v := fun _ _ =>
  VR.rec (motive_1 := fun x v _ => VR prog w kn' as' x v) (motive_2 := fun xs vs _ => VRs prog w kn' as' xs vs) (fun a => .d (a.mono h)) (fun a => .loc (as_mono ha a)) (fun a b c _ d => .tupv (h _ _ a) b c d) (fun a b c _ d => .lstv (h _ _ a) b c d)
    (fun a b c => .sdict (h _ _ a) b (c.mono fun _ _ q => q.mono h)) (fun a z b c => .idict (h _ _ a) z b (c.mono fun _ _ q => q.mono h)) .bad .nil (fun _ _ a b => .cons a b)
theorem VRs.mono : ∀ (xs : List V) (vs : List Value), VRs prog w kn as xs vs → VRs prog w kn' as' xs vs
  | [], _, r => r.on .nil
  | x :: xs, _, r => r.on fun _ _ a b => .cons (VR.mono h ha x _ a) (VRs.mono xs _ b)
end
theorem VRs.length {kn : Addr → Obj → Prop} {as : List Addr} : ∀ {xs : List V} {vs : List Value}, VRs prog w kn as xs vs → vs.length = xs.length
  | [], _, r => r.on rfl
  | x :: xs, _, r => r.on fun _ _ _ b => congrArg Nat.succ (VRs.length b)
theorem VRs.get {kn : Addr → Obj → Prop} {as : List Addr} : ∀ {xs : List V} {vs : List Value} {i : Nat} {x : V}, VRs prog w kn as xs vs → xs[i]? = some x → ∃ v, vs[i]? = some v ∧ VR prog w kn as x v
  | [], _, _, _, _, h => nsome h
  | x :: xs, _, 0, y, r, h => r.on fun v _ a _ => ⟨v, rfl, Option.some.inj h ▸ a⟩
  | x :: xs, _, i + 1, y, r, h => r.on fun _ _ _ b => VRs.get (i := i) b h
theorem VRs.ofD {kn : Addr → Obj → Prop} {as : List Addr} : ∀ {xs : List PyData} {vs : List Value}, RDs kn xs vs → VRs prog w kn as (xs.map .d) vs
  | [], _, r => r.on .nil
  | x :: xs, _, r => r.on fun _ _ a b => .cons (.d a) (VRs.ofD b)
theorem allD_cons {x : V} {l : List V} {xs : List PyData} {P : Prop} (e : allD (x :: l) = some xs) (k : ∀ y ys, x = .d y → allD l = some ys → y :: ys = xs → P) : P := by
  cases x
  case d y =>
    refine oA (show (match allD l with | some l => some (y :: l) | none => none) = some xs from e) (fun ys h1 h2 => ?_) fun _ h2 => nsome h2
    exact k y ys rfl h1 (Option.some.inj h2)
  all_goals exact nsome e
theorem VRs.toD {kn : Addr → Obj → Prop} {as : List Addr} : ∀ {l : List V} {xs : List PyData} {vs : List Value}, VRs prog w kn as l vs → allD l = some xs → RDs kn xs vs
  | [], _, _, r, h => r.on (Option.some.inj h ▸ .nil)
  | x :: l, _, _, r, h => allD_cons h fun y ys e1 e2 e3 => by
    subst e1 e3
    exact r.on fun _ _ a b => .cons a.onD (VRs.toD b e2)

/-! forgetting what stands at n or beyond -/
theorem VR.cut {kn : Addr → Obj → Prop} {as : List Addr} {n : Nat} (x : V) (v : Value) (h : x.und n = true) (r : VR prog w kn as x v) : VR prog w kn (as.take n) x v :=
  VR.rec (motive_1 := fun x v _ => x.und n = true → VR prog w kn (as.take n) x v) (motive_2 := fun xs vs _ => undL n xs = true → VRs prog w kn (as.take n) xs vs) (fun a _ => .d a)
    (fun a h => .loc ((List.getElem?_take_of_lt (Nat.le_of_ble_eq_true h)).trans a)) (fun a b c _ d h => .tupv a b c (d h)) (fun a b c _ d h => .lstv a b c (d h)) (fun a b c _ => .sdict a b c) (fun a z b c _ => .idict a z b c) (fun _ => .bad) (fun _ => .nil)
    (fun _ _ a b h => .cons (a (Bool.and_eq_true_iff.mp h).1) (b (Bool.and_eq_true_iff.mp h).2)) r h

inductive PDD (kn : Addr → Obj → Prop) : List (Int × List (Int × PyData)) → List (Int × Value) → Prop
  | nil : PDD kn [] []
  | cons {k x v m kvs} : VR prog w kn [] (.idict x) v → PDD kn m kvs → PDD kn ((k, x) :: m) ((k, v) :: kvs)
inductive ADs (P : Params) (kn : Addr → Obj → Prop) (as : List Addr) : List (Str × V) → List DictEntry → Prop
  | nil : ADs P kn as [] []
  | cons {k x e m es} : e.key.isStr k = true → (∃ t, e.key = .str k t) → VR prog w kn as x e.val → ADs P kn as m es → ADs P kn as ((k, x) :: m) (e :: es)
inductive OR (cg : Nat → Prop) (kn : Addr → Obj → Prop) (as : List Addr) : O → Addr → Led → Prop
  | list {l vs a n} : RDs kn l vs → OR cg kn as (.list l) a [(a, listOf vs.toArray n)]
  | idict {m a o} {kvs : List (Int × Value)} : (a == sysModules) = false → o.IsDictOf (intKind prog w) kvs → PD (RD kn) m kvs → OR cg kn as (.idict m) a [(a, o)]
  | iidict {m a o} {kvs : List (Int × Value)} : (a == sysModules) = false → o.IsDictOf (intKind prog w) kvs → PDD (prog := prog) (w := w) kn m kvs → OR cg kn as (.iidict m) a [(a, o)]
  | attrs {C m x dx es n} : cg C → ADs (prog := prog) (w := w) w.params kn as m es → OR cg kn as (.attrs C m) x [(x, instObj C dx), (dx, dictOf es n)]
variable (prog w) in
def PDDC (kn : Addr → Obj → Prop) (Q : List (Int × Value) → Prop) : List (Int × List (Int × PyData)) → Prop
  | [] => Q []
  | p :: m => ∀ v kvs, VR prog w kn [] (.idict p.2) v → PDD (prog := prog) (w := w) kn m kvs → Q ((p.1, v) :: kvs)
variable (prog w) in
def ADsC (P : Params) (kn : Addr → Obj → Prop) (as : List Addr) (Q : List DictEntry → Prop) : List (Str × V) → Prop
  | [] => Q []
  | p :: m => ∀ (e : DictEntry) es t, e.key.isStr p.1 = true → e.key = .str p.1 t → VR prog w kn as p.2 e.val → ADs (prog := prog) (w := w) P kn as m es → Q (e :: es)
variable (prog w) in
def ORC (cg : Nat → Prop) (kn : Addr → Obj → Prop) (as : List Addr) (a : Addr) (P : Led → Prop) : O → Prop
  | .list l => ∀ vs n, RDs kn l vs → P [(a, listOf vs.toArray n)]
  | .idict m => ∀ o (kvs : List (Int × Value)), (a == sysModules) = false → o.IsDictOf (intKind prog w) kvs → PD (RD kn) m kvs → P [(a, o)]
  | .iidict m => ∀ o (kvs : List (Int × Value)), (a == sysModules) = false → o.IsDictOf (intKind prog w) kvs → PDD (prog := prog) (w := w) kn m kvs → P [(a, o)]
  | .attrs C m => ∀ dx es n, cg C → ADs (prog := prog) (w := w) w.params kn as m es → P [(a, instObj C dx), (dx, dictOf es n)]
@[elab_as_elim] theorem PDD.on {kn : Addr → Obj → Prop} {Q : List (Int × Value) → Prop} {m : List (Int × List (Int × PyData))} {kvs : List (Int × Value)} (r : PDD (prog := prog) (w := w) kn m kvs) : PDDC prog w kn Q m → Q kvs := by
  cases r with
  | nil => exact fun k => k
  | cons a b => exact fun k => k _ _ a b
@[elab_as_elim] theorem ADs.on {P : Params} {kn : Addr → Obj → Prop} {as : List Addr} {Q : List DictEntry → Prop} {m : List (Str × V)} {es : List DictEntry} (r : ADs (prog := prog) (w := w) P kn as m es) : ADsC prog w P kn as Q m → Q es := by
  cases r with
  | nil => exact fun k => k
  | cons a b c d => exact b.elim fun t b k => k _ _ t a b c d
@[elab_as_elim] theorem OR.on {cg : Nat → Prop} {kn : Addr → Obj → Prop} {as : List Addr} {o : O} {a : Addr} {b : Led} {P : Led → Prop} (r : OR (prog := prog) (w := w) cg kn as o a b) : ORC prog w cg kn as a P o → P b := by
  cases r with
  | list q => exact fun k => k _ _ q
  | idict z p q => exact fun k => k _ _ z p q
  | iidict z p q => exact fun k => k _ _ z p q
  | attrs z q => exact fun k => k _ _ _ z q

theorem PDD.mono {kn kn' : Addr → Obj → Prop} (h : ∀ a o, kn a o → kn' a o) {m kvs} (r : PDD (prog := prog) (w := w) kn m kvs) : PDD (prog := prog) (w := w) kn' m kvs :=
  PDD.rec (motive := fun m kvs _ => PDD (prog := prog) (w := w) kn' m kvs) .nil (fun a _ b => .cons (a.mono h (List.prefix_refl _)) b) r
theorem ADs.mono {P : Params} {kn kn' : Addr → Obj → Prop} {as as' : List Addr} (h : ∀ a o, kn a o → kn' a o) (ha : as <+: as') {m es} (r : ADs (prog := prog) (w := w) P kn as m es) : ADs (prog := prog) (w := w) P kn' as' m es :=
  ADs.rec (motive := fun m es _ => ADs (prog := prog) (w := w) P kn' as' m es) .nil (fun a b c _ d => .cons a b (c.mono h ha) d) r
theorem OR.mono {cg : Nat → Prop} {kn kn' : Addr → Obj → Prop} {as as' : List Addr} (h : ∀ a o, kn a o → kn' a o) (ha : as <+: as') {o : O} {a : Addr} {b : Led} (r : OR (prog := prog) (w := w) cg kn as o a b) : OR (prog := prog) (w := w) cg kn' as' o a b :=
  OR.rec (motive := fun o a b _ => OR (prog := prog) (w := w) cg kn' as' o a b) (fun q => .list (q.mono h)) (fun z p q => .idict z p (q.mono fun _ _ q => q.mono h)) (fun z p q => .iidict z p (q.mono h)) (fun z q => .attrs z (q.mono h ha)) r
theorem ADs.cut {P : Params} {kn : Addr → Obj → Prop} {as : List Addr} {n : Nat} {m es} (h : undA n m = true) (r : ADs (prog := prog) (w := w) P kn as m es) : ADs (prog := prog) (w := w) P kn (as.take n) m es :=
  ADs.rec (motive := fun m es _ => undA n m = true → ADs (prog := prog) (w := w) P kn (as.take n) m es) (fun _ => .nil) (fun a b c _ d h => .cons a b (c.cut _ _ (Bool.and_eq_true_iff.mp h).1) (d (Bool.and_eq_true_iff.mp h).2)) r h
theorem OR.cut {cg : Nat → Prop} {kn : Addr → Obj → Prop} {as : List Addr} {n : Nat} {o : O} {a : Addr} {b : Led} (h : o.und n = true) (r : OR (prog := prog) (w := w) cg kn as o a b) : OR (prog := prog) (w := w) cg kn (as.take n) o a b :=
  OR.rec (motive := fun o a b _ => o.und n = true → OR (prog := prog) (w := w) cg kn (as.take n) o a b) (fun q _ => .list q) (fun z p q _ => .idict z p q) (fun z p q _ => .iidict z p q) (fun z q h => .attrs z (q.cut h)) r h
end
end Mine
end
section
open PySem PySem.W PyProof.Rows
namespace Mine

structure Cx where
  hb : Heap
  base : Heap
  outer : List Env
  h₀ : Heap
  L : Addr
  m : Str → Option Value
  fenv : Env
  env : Env
  A : Around
  cells : Led
  cm : Str → Option Value
  pri : Led
structure Gh where
  as : List Addr
  Z : Led
  mu : List Led

noncomputable def ledOf (c : Cx) (g : Gh) : Led := c.cells ++ (c.pri ++ (g.mu.flatten ++ g.Z))
def NsO (o : Obj) (m : Str → Option Value) : Prop := ∃ es ep, o.data = .dict es ep ∧ StrKeys es ∧ ∀ name, nsFind es name = m name

structure Gl where
  prog : Program
  w : World
  K : Frag
  p : Program
  loose : List Str
  mg : Str → Option Value
  mb : Str → Option Value
  cg : Nat → Prop

variable (G : Gl)

structure Sim (c : Cx) (g : Gh) (h : List O) (H : Heap) : Prop where
  fr : Fr c.h₀ c.L H c.m
  news : News c.h₀ c.L H (ledOf c g)
  nd : ((ledOf c g).map (·.1)).Nodup
  la : g.as.length = h.length
  lm : g.mu.length = h.length
  objs : ∀ (i : Nat) (o : O) (a : Addr) (b : Led), h[i]? = some o → g.as[i]? = some a → g.mu[i]? = some b → OR (prog := G.prog) (w := G.w) G.cg (Kn c.hb g.Z) g.as o a b

structure Ok (c : Cx) : Prop where
  Kb : G.K.In c.hb
  stay : c.hb.StaysIn c.h₀
  K : G.K.In c.h₀
  T : TopRead G.p G.loose G.mg G.mb c.h₀
  below : ∃ A₀, Below A₀ c.base c.outer c.h₀
  frames : c.A.frames = some (c.fenv :: c.outer)
  ff : c.fenv.frame = some c.L
  fk : c.fenv.scope.kind = .function
  hh : c.A.handled = none
  ek : c.env.scope.kind = .function
  eg : c.env.globals = mainGlobals
  eb : c.env.builtins = builtinsNs
  cells : CellsAre c.cm c.fenv.cells c.cells

def Var (c : Cx) (x : Str) (v : Value) : Prop :=
  (c.env.kindOf x = some .local ∧ c.env.locals = c.L ∧ c.m x = some v) ∨
  (c.env.kindOf x = some .local ∧ ∃ o m', (c.env.locals, o) ∈ c.pri ∧ NsO o m' ∧ m' x = some v) ∨
  (c.env.kindOf x = some .cell ∧ ∃ a o, c.env.cells.lookup x = some a ∧ (a, o) ∈ c.cells ∧ o.data = .cell (some v))

noncomputable abbrev kn (c : Cx) (g : Gh) := Kn c.hb g.Z
abbrev VV (c : Cx) (g : Gh) (v : V) (u : Value) : Prop := VR G.prog G.w (Kn c.hb g.Z) g.as v u
abbrev VVs (c : Cx) (g : Gh) (v : List V) (u : List Value) : Prop := VRs G.prog G.w (Kn c.hb g.Z) g.as v u
noncomputable def lookable : NameKind → Bool
  | .local => true
  | .cell => true
  | .free => true
  | _ => false
def Vars (c : Cx) (g : Gh) (names : List (Str × NameKind)) (ρ : Rho) : Prop :=
  ∀ (i : Nat) (x : Str) (k : NameKind) (v : V), names[i]? = some (x, k) → lookable k = true → ρ[i]? = some (some v) → ∃ u, Var c x u ∧ VV G c g v u

structure Gh.le (g g' : Gh) : Prop where
  as : g.as <+: g'.as
  Z : ∀ p ∈ g.Z, p ∈ g'.Z
theorem Gh.le.refl (g : Gh) : g.le g := ⟨List.prefix_refl _, fun _ h => h⟩
theorem Gh.le.trans {a b c : Gh} (x : a.le b) (y : b.le c) : a.le c := ⟨x.as.trans y.as, fun p h => y.Z p (x.Z p h)⟩
theorem Kn.mono {hb : Heap} {Z Z' : Led} (h : ∀ p ∈ Z, p ∈ Z') : ∀ a o, Kn hb Z a o → Kn hb Z' a o := fun _ _ q => q.imp id (h _)
variable {G}
theorem VV.le {c : Cx} {g g' : Gh} {v : V} {u : Value} (l : g.le g') (h : VV G c g v u) : VV G c g' v u := VR.mono (Kn.mono l.Z) l.as _ _ h
theorem VVs.le {c : Cx} {g g' : Gh} {v : List V} {u : List Value} (l : g.le g') (h : VVs G c g v u) : VVs G c g' v u := VRs.mono (Kn.mono l.Z) l.as _ _ h
theorem Vars.le {c : Cx} {g g' : Gh} {names : List (Str × NameKind)} {ρ : Rho} (l : g.le g') (h : Vars G c g names ρ) : Vars G c g' names ρ :=
  fun i x k v a b d => let ⟨u, p, q⟩ := h i x k v a b d; ⟨u, p, VV.le l q⟩

structure Same (s s' : Shared) : Prop where
  os : s'.os = s.os
  gens : s'.gens = s.gens
theorem Same.refl (s : Shared) : Same s s := ⟨rfl, rfl⟩
theorem Same.trans {a b c : Shared} (x : Same a b) (y : Same b c) : Same a c := ⟨y.os.trans x.os, y.gens.trans x.gens⟩

variable (G)
/-- the tree ends well in the clean heap h' -/
def Ev {α : Type} (c : Cx) (t : Sem α) (g : Gh) (s : Shared) (h' : List O) (P : Gh → α → Prop) : Prop :=
  ∀ (E : Value → Shared → Prop) (Q : α → Shared → Prop), (∀ v s' g', Sim G c g' h' s'.heap → g.le g' → Same s s' → P g' v → Q v s') → wpAny (model G.prog G.w) c.A t Q E s
variable {G}
variable {α β : Type} {c : Cx} {g : Gh} {s : Shared} {h h' h₁ h₂ : List O}
theorem Ev.pure {v : α} {P : Gh → α → Prop} (S : Sim G c g h s.heap) (p : P g v) : Ev G c (pure v : Sem α) g s h P :=
  fun _ _ k => wpAny_pure (k _ _ _ S (.refl _) (.refl _) p)
theorem Ev.bind {t : Sem α} {f : α → Sem β} {P : Gh → α → Prop} {P' : Gh → β → Prop} (a : Ev G c t g s h₁ P)
    (b : ∀ v s₁ g₁, Sim G c g₁ h₁ s₁.heap → g.le g₁ → P g₁ v → Ev G c (f v) g₁ s₁ h₂ P') : Ev G c (t >>= f) g s h₂ P' :=
  fun E Q k => wpAny_bind (a E _ fun v s₁ g₁ S l q p => b v s₁ g₁ S l p E Q fun v' s' g' S' l' q' p' => k v' s' g' S' (l.trans l') (q.trans q') p')
theorem Ev.mono {t : Sem α} {P P' : Gh → α → Prop} (a : Ev G c t g s h' P) (b : ∀ g' v, g.le g' → P g' v → P' g' v) : Ev G c t g s h' P' :=
  fun E Q k => a E Q fun v s' g' S l q p => k v s' g' S l q (b g' v l p)
theorem Ev.stand {pos : Pos} {f : Unit → Sem β} {P : Gh → β → Prop} (a : Ev G c (f ()) g s h' P) : Ev G c (standAt pos >>= f) g s h' P :=
  fun E Q k => wpAny_bind (wpAny_standAt (a E Q k))
theorem Ev.holding {vs : List Value} {t : Sem α} {P : Gh → α → Prop} (a : Ev G c t g s h' P) : Ev G c (holding vs t) g s h' P :=
  fun E Q k => wpAny_holding (a E Q k)
theorem Ev.of {t : Sem α} {P : Gh → α → Prop} (a : ∀ (E : Value → Shared → Prop) (Q : α → Shared → Prop), (∀ v s' g', Sim G c g' h' s'.heap → g.le g' → Same s s' → P g' v → Q v s') → wpAny (model G.prog G.w) c.A t Q E s) : Ev G c t g s h' P := a

/-! the ledger -/
theorem Sim.keep (S : Sim G c g h s.heap) : ∀ b o, c.h₀.get? b = some o → s.heap.get? b = some o := S.fr.keep
theorem Sim.here (S : Sim G c g h s.heap) {p : Addr × Obj} (hp : p ∈ ledOf c g) : s.heap.get? p.1 = some p.2 := (S.news p hp).1
theorem Sim.inZ (S : Sim G c g h s.heap) {p : Addr × Obj} (hp : p ∈ g.Z) : p ∈ ledOf c g := by
  unfold ledOf; simp only [List.mem_append]; exact .inr (.inr (.inr hp))
theorem Sim.inMu (S : Sim G c g h s.heap) {p : Addr × Obj} {i : Nat} {b : Led} (hb : g.mu[i]? = some b) (hp : p ∈ b) : p ∈ ledOf c g := by
  unfold ledOf; simp only [List.mem_append]; exact .inr (.inr (.inl (List.mem_flatten.mpr ⟨b, List.mem_of_getElem? hb, hp⟩)))
theorem Sim.inPri (S : Sim G c g h s.heap) {p : Addr × Obj} (hp : p ∈ c.pri) : p ∈ ledOf c g := by
  unfold ledOf; simp only [List.mem_append]; exact .inr (.inl hp)
theorem Sim.inCells (S : Sim G c g h s.heap) {p : Addr × Obj} (hp : p ∈ c.cells) : p ∈ ledOf c g := by
  unfold ledOf; simp only [List.mem_append]; exact .inl hp
theorem Sim.known (O : Ok G c) (S : Sim G c g h s.heap) : ∀ a o, kn c g a o → s.heap.get? a = some o := fun a o q =>
  q.elim (fun e => S.keep _ _ (O.stay _ _ e)) fun e => S.here (p := (a, o)) (S.inZ e)
theorem Sim.rd (O : Ok G c) (S : Sim G c g h s.heap) {x : PyData} {v : Value} (r : RD (kn c g) x v) : RD (fun a o => s.heap.get? a = some o) x v := r.mono (S.known O)
theorem Sim.block (S : Sim G c g h s.heap) {i : Nat} {o : O} (ho : h[i]? = some o) : ∃ a b, g.as[i]? = some a ∧ g.mu[i]? = some b ∧ OR (prog := G.prog) (w := G.w) G.cg (kn c g) g.as o a b := by
  have hi := (List.getElem?_eq_some_iff.mp ho).1
  have h1 : g.as[i]? = some (g.as[i]'(S.la ▸ hi)) := List.getElem?_eq_getElem _
  have h2 : g.mu[i]? = some (g.mu[i]'(S.lm ▸ hi)) := List.getElem?_eq_getElem _
  exact ⟨_, _, h1, h2, S.objs i o _ _ ho h1 h2⟩
theorem Sim.blockAt (S : Sim G c g h s.heap) {i : Nat} {o : O} {a : Addr} (ho : h[i]? = some o) (ha : g.as[i]? = some a) : ∃ b, g.mu[i]? = some b ∧ OR (prog := G.prog) (w := G.w) G.cg (kn c g) g.as o a b := by
  obtain ⟨a', b, h1, h2, h3⟩ := S.block ho
  rw [ha] at h1; cases h1
  exact ⟨b, h2, h3⟩

/-- a new thing, never to be changed -/
theorem Sim.freeze {H : Heap} {D : Addr} {o : Obj} (S : Sim G c g h s.heap) (F : Fr c.h₀ c.L H c.m) (N : News c.h₀ c.L H ((D, o) :: ledOf c g)) (hD : ∀ p ∈ ledOf c g, p.1 < D) :
    Sim G c ⟨g.as, (D, o) :: g.Z, g.mu⟩ h H where
  fr := F
  news := fun p hp => N p (by
    unfold ledOf at hp ⊢
    simp only [List.mem_append, List.mem_cons] at hp ⊢
    grind)
  nd := by
    have : (ledOf c ⟨g.as, (D, o) :: g.Z, g.mu⟩).Perm ((D, o) :: ledOf c g) := by
      unfold ledOf
      simp only [← List.append_assoc]
      exact List.perm_middle
    refine (this.map (·.1)).nodup_iff.mpr ?_
    rw [List.map_cons, List.nodup_cons]
    exact ⟨fun q => by obtain ⟨p, hp, e⟩ := List.mem_map.mp q; exact absurd (hD p hp) (by rw [show p.1 = D from e]; exact Nat.lt_irrefl _), S.nd⟩
  la := S.la
  lm := S.lm
  objs := fun i o' a b h1 h2 h3 => (S.objs i o' a b h1 h2 h3).mono (Kn.mono fun _ q => .tail _ q) (List.prefix_refl _)
theorem Gh.le_freeze (g : Gh) (p : Addr × Obj) : g.le ⟨g.as, p :: g.Z, g.mu⟩ := ⟨List.prefix_refl _, fun _ q => .tail _ q⟩

/-- a new thing that may change -/
theorem Sim.push {H : Heap} {D : Addr} {b : Led} {o : O} (S : Sim G c g h s.heap) (F : Fr c.h₀ c.L H c.m) (N : News c.h₀ c.L H (b ++ ledOf c g)) (hb : ((b ++ ledOf c g).map (·.1)).Nodup)
    (r : OR (prog := G.prog) (w := G.w) G.cg (kn c g) (g.as ++ [D]) o D b) :
    Sim G c ⟨g.as ++ [D], g.Z, g.mu ++ [b]⟩ (h ++ [o]) H where
  fr := F
  news := fun p hp => N p (by
    unfold ledOf at hp ⊢
    simp only [List.mem_append, List.flatten_append, List.flatten_cons, List.flatten_nil, List.append_nil] at hp ⊢
    grind)
  nd := by
    have : (ledOf c ⟨g.as ++ [D], g.Z, g.mu ++ [b]⟩).Perm (b ++ ledOf c g) := by
      unfold ledOf
      simp only [List.flatten_append, List.flatten_cons, List.flatten_nil, List.append_nil, ← List.append_assoc]
      refine List.Perm.append_right _ ?_
      refine List.perm_append_comm.trans ?_
      simp only [List.append_assoc]
      exact List.Perm.refl _
    exact (this.map (·.1)).nodup_iff.mpr hb
  la := by simp [S.la]
  lm := by simp [S.lm]
  objs := fun i o' a b' h1 h2 h3 => by
    by_cases hi : i < h.length
    · rw [List.getElem?_append_left hi] at h1
      rw [List.getElem?_append_left (S.la ▸ hi)] at h2
      rw [List.getElem?_append_left (S.lm ▸ hi)] at h3
      exact (S.objs i o' a b' h1 h2 h3).mono (fun _ _ q => q) (List.prefix_append _ _)
    · have hl := (List.getElem?_eq_some_iff.mp h1).1
      have : i = h.length := by simp at hl; omega
      subst this
      simp at h1
      rw [List.getElem?_append_right (by rw [S.la]; exact Nat.le_refl _)] at h2
      rw [List.getElem?_append_right (by rw [S.lm]; exact Nat.le_refl _)] at h3
      simp [S.la] at h2
      simp [S.lm] at h3
      subst h1 h2 h3
      exact r
theorem Gh.le_push (g : Gh) (D : Addr) (b : Led) : g.le ⟨g.as ++ [D], g.Z, g.mu ++ [b]⟩ := ⟨List.prefix_append _ _, fun _ q => q⟩

/-- one address put anew -/
noncomputable def rep (d : Addr) (o' : Obj) (l : Led) : Led := l.map fun p => if p.1 = d then (d, o') else p
theorem rep_fst (d : Addr) (o' : Obj) (l : Led) : (rep d o' l).map (·.1) = l.map (·.1) := by
  induction l with
  | nil => rfl
  | cons p l ih =>
    simp only [rep, List.map_cons, List.cons.injEq] at ih ⊢
    refine ⟨?_, ih⟩
    by_cases h : p.1 = d
    · simp [h]
    · simp [h]
theorem rep_id {d : Addr} {o' : Obj} {l : Led} (h : ∀ p ∈ l, p.1 ≠ d) : rep d o' l = l := by
  induction l with
  | nil => rfl
  | cons p l ih =>
    have h1 := h p (.head _)
    simp only [rep, List.map_cons, if_neg h1, List.cons.injEq, true_and] at ih ⊢
    exact ih fun q hq => h q (.tail _ hq)
theorem rep_append (d : Addr) (o' : Obj) (l k : Led) : rep d o' (l ++ k) = rep d o' l ++ rep d o' k := List.map_append
theorem rep_flatten (d : Addr) (o' : Obj) (l : List Led) : rep d o' l.flatten = (l.map (rep d o')).flatten := by
  induction l with
  | nil => rfl
  | cons p l ih => simp [rep_append, ih]
theorem rep_mem {d : Addr} {o' : Obj} {l : Led} {p : Addr × Obj} (hp : p ∈ rep d o' l) : p = (d, o') ∨ (p ∈ l ∧ p.1 ≠ d) := by
  obtain ⟨q, hq, rfl⟩ := List.mem_map.mp hp
  by_cases h : q.1 = d
  · exact .inl (by simp [h])
  · rw [if_neg h]; exact .inr ⟨hq, h⟩
/-- the ledger with one thing ahead -/
theorem News.ahead {h₀ H : Heap} {L : Addr} {l : Led} {d : Addr} {o : Obj} (N : News h₀ L H l) (hd : (d, o) ∈ l) : News h₀ L H ((d, o) :: l.filter fun p => p.1 ≠ d) := fun p hp => by
  rcases List.mem_cons.mp hp with rfl | hp
  · exact N _ hd
  · exact N p (List.mem_filter.mp hp).1
theorem upd_ahead {l : Led} {d : Addr} {o : Obj} : UpdF d o ((d, o) :: l.filter fun p => p.1 ≠ d) (fun o' => (d, o') :: l.filter fun p => p.1 ≠ d) :=
  .head fun p hp => by simpa using (List.mem_filter.mp hp).2
theorem News.back {h₀ H : Heap} {L : Addr} {l : Led} {d : Addr} {o' : Obj} (N : News h₀ L H ((d, o') :: l.filter fun p => p.1 ≠ d)) : News h₀ L H (rep d o' l) := fun p hp => by
  rcases rep_mem hp with rfl | ⟨h1, h2⟩
  · exact N _ (.head _)
  · exact N _ (.tail _ (List.mem_filter.mpr ⟨h1, by simpa using h2⟩))

theorem nodup_apart {a b : Led} (h : ((a ++ b).map (·.1)).Nodup) {p q : Addr × Obj} (hp : p ∈ a) (hq : q ∈ b) : p.1 ≠ q.1 := by
  rw [List.map_append, List.nodup_append] at h
  exact h.2.2 _ (List.mem_map_of_mem hp) _ (List.mem_map_of_mem hq)
theorem nodup_blocks {mu : List Led} (h : (mu.flatten.map (·.1)).Nodup) {i j : Nat} {b b' : Led} (hi : mu[i]? = some b) (hj : mu[j]? = some b') (hne : i ≠ j) {p q : Addr × Obj} (hp : p ∈ b) (hq : q ∈ b') : p.1 ≠ q.1 := by
  induction mu generalizing i j with
  | nil => simp at hi
  | cons m mu ih =>
    rw [List.flatten_cons] at h
    cases i with
    | zero =>
      cases j with
      | zero => exact absurd rfl hne
      | succ j =>
        simp at hi hj
        subst hi
        exact nodup_apart h hp (List.mem_flatten.mpr ⟨b', List.mem_of_getElem? hj, hq⟩)
    | succ i =>
      cases j with
      | zero =>
        simp at hi hj
        subst hj
        exact (nodup_apart h hq (List.mem_flatten.mpr ⟨b, List.mem_of_getElem? hi, hp⟩)).symm
      | succ j =>
        simp at hi hj
        rw [List.map_append, List.nodup_append] at h
        exact ih h.2.1 hi hj (fun e => hne (by rw [e]))

theorem Sim.apartCells (S : Sim G c g h s.heap) {p q : Addr × Obj} (hp : p ∈ c.cells) (hq : q ∈ c.pri ++ (g.mu.flatten ++ g.Z)) : p.1 ≠ q.1 := nodup_apart S.nd hp hq
theorem Sim.nd1 (S : Sim G c g h s.heap) : ((c.pri ++ (g.mu.flatten ++ g.Z)).map (·.1)).Nodup := by
  have := S.nd; unfold ledOf at this; rw [List.map_append, List.nodup_append] at this; exact this.2.1
theorem Sim.nd2 (S : Sim G c g h s.heap) : ((g.mu.flatten ++ g.Z).map (·.1)).Nodup := by
  have := S.nd1; rw [List.map_append, List.nodup_append] at this; exact this.2.1
theorem Sim.nd3 (S : Sim G c g h s.heap) : (g.mu.flatten.map (·.1)).Nodup := by
  have := S.nd2; rw [List.map_append, List.nodup_append] at this; exact this.1

theorem rep_mu {mu : List Led} (h : (mu.flatten.map (·.1)).Nodup) {i : Nat} {b : Led} (hi : mu[i]? = some b) {d : Addr} {o o' : Obj} (hd : (d, o) ∈ b) : mu.map (rep d o') = mu.set i (rep d o' b) := by
  apply List.ext_getElem?
  intro j
  rw [List.getElem?_map, List.getElem?_set]
  by_cases hij : i = j
  · subst hij
    rw [hi]
    simp [(List.getElem?_eq_some_iff.mp hi).1]
  · rw [if_neg hij]
    cases hj : mu[j]? with
    | none => rfl
    | some b' => exact congrArg some (rep_id fun p hp => (nodup_blocks h hi hj hij hd hp).symm)

/-- a changeable thing put anew -/
theorem Sim.update {H : Heap} {i : Nat} {b : Led} {d : Addr} {o o' : Obj} {x x' : O} {a : Addr} (S : Sim G c g h s.heap) (hi : g.mu[i]? = some b) (hd : (d, o) ∈ b) (hx : h[i]? = some x) (ha : g.as[i]? = some a)
    (F : Fr c.h₀ c.L H c.m) (N : News c.h₀ c.L H ((d, o') :: (ledOf c g).filter fun p => p.1 ≠ d)) (r : OR (prog := G.prog) (w := G.w) G.cg (kn c g) g.as x' a (rep d o' b)) :
    Sim G c ⟨g.as, g.Z, g.mu.set i (rep d o' b)⟩ (h.set i x') H := by
  have hmem : (d, o) ∈ g.mu.flatten := List.mem_flatten.mpr ⟨b, List.mem_of_getElem? hi, hd⟩
  have e : ledOf c ⟨g.as, g.Z, g.mu.set i (rep d o' b)⟩ = rep d o' (ledOf c g) := by
    unfold ledOf
    rw [rep_append, rep_append, rep_append, rep_flatten]
    rw [rep_mu S.nd3 hi hd]
    rw [rep_id (l := c.cells) fun p hp => S.apartCells hp (List.mem_append_right _ (List.mem_append_left _ hmem)), rep_id (l := c.pri) fun p hp => nodup_apart S.nd1 hp (List.mem_append_left _ hmem),
      rep_id (l := g.Z) fun p hp => (nodup_apart S.nd2 hmem hp).symm]
  refine ⟨F, by rw [e]; exact News.back N, by rw [e, rep_fst]; exact S.nd, by simp [S.la], by simp [S.lm], fun j o₁ a₁ b₁ h1 h2 h3 => ?_⟩
  dsimp only at h2 h3 ⊢
  rw [List.getElem?_set] at h1 h3
  by_cases hij : i = j
  · subst hij
    rw [if_pos rfl] at h1 h3
    rw [if_pos (List.getElem?_eq_some_iff.mp hx).1] at h1
    rw [if_pos (List.getElem?_eq_some_iff.mp hi).1] at h3
    cases h1; cases h3
    rw [ha] at h2; cases h2
    exact r
  · rw [if_neg hij] at h1 h3
    exact S.objs j o₁ a₁ b₁ h1 h2 h3
theorem Gh.le_set (g : Gh) (i : Nat) (b : Led) : g.le ⟨g.as, g.Z, g.mu.set i b⟩ := ⟨List.prefix_refl _, fun _ q => q⟩
theorem Sim.lt (S : Sim G c g h s.heap) : ∀ p ∈ ledOf c g, p.1 < s.heap.objs.size := fun p hp => Heap.lt_size (S.news p hp).1
end Mine
end
section
open PySem PySem.W PyProof.Rows PySem.Calls
namespace Mine

theorem natsEq_iff : ∀ a b : List Nat, natsEq a b = true ↔ a = b
  | [], [] => ⟨fun _ => rfl, fun _ => rfl⟩
  | [], _ :: _ => ⟨ftrue, fun e => by cases e⟩
  | _ :: _, [] => ⟨ftrue, fun e => by cases e⟩
  | x :: r, y :: q => by
    show (Nat.beq x y && natsEq r q) = true ↔ _
    rw [Bool.and_eq_true, natsEq_iff r q, List.cons.injEq]
    exact and_congr_left' ⟨Nat.eq_of_beq_eq_true, fun e => e ▸ Nat.beq_refl x⟩
theorem strEq_iff (a b : Str) : strEq a b = true ↔ a = b := by
  obtain ⟨⟨l⟩⟩ := a
  obtain ⟨⟨k⟩⟩ := b
  show natsEq l k = true ↔ _
  rw [natsEq_iff]
  constructor
  · intro e; rw [e]
  · intro e; cases e; rfl
theorem strEq_false {a b : Str} (h : strEq a b = false) : (a == b) = false := by
  rw [beq_eq_false_iff_ne]
  intro e
  rw [(strEq_iff a b).mpr e] at h
  cases h
theorem intEq_iff (a b : Int) : intEq a b = true ↔ a = b := by
  cases a with
  | ofNat a =>
    cases b with
    | ofNat b => exact ⟨fun e => congrArg Int.ofNat (Nat.eq_of_beq_eq_true e), fun e => Int.ofNat.inj e ▸ Nat.beq_refl a⟩
    | negSucc b => exact ⟨ftrue, fun e => by cases e⟩
  | negSucc a =>
    cases b with
    | ofNat b => exact ⟨ftrue, fun e => by cases e⟩
    | negSucc b => exact ⟨fun e => congrArg Int.negSucc (Nat.eq_of_beq_eq_true e), fun e => Int.negSucc.inj e ▸ Nat.beq_refl a⟩

variable {G : Gl} {α β : Type} {c : Cx} {g : Gh} {s : Shared} {h h' h₁ h₂ : List O}

theorem reserved_debug {x : Str} (hr : reserved x = false) : (x == ("__debug__" : Str)) = false := by
  unfold reserved at hr
  simp only [Bool.or_eq_false_iff] at hr
  exact strEq_false hr.1.1.1
theorem reserved_super {x : Str} (hr : reserved x = false) : x ≠ ("super" : Str) := by
  unfold reserved at hr
  simp only [Bool.or_eq_false_iff] at hr
  intro e
  rw [e] at hr
  revert hr
  decide

theorem ev_name {x : Str} {pos : Pos} {u : Value} {P : Gh → Value → Prop} (O : Ok G c) (S : Sim G c g h s.heap) (hv : Var c x u) (hr : reserved x = false) (p : P g u) : Ev G c (eval (.Name x pos) c.env) g s h P := fun E Q k => by
  have q : Q u s := k _ _ _ S (.refl _) (.refl _) p
  rcases hv with ⟨h1, h2, h3⟩ | ⟨h1, o, m', h2, h3, h4⟩ | ⟨h1, a, o, h2, h3, h4⟩
  · exact wpAny_Name (wpAny_loadName_local O.ek h1 (by rw [h2]; exact S.fr.ns) h3 q) (reserved_debug hr)
  · obtain ⟨es, ep, e1, e2, e3⟩ := h3
    exact wpAny_Name (wpAny_loadName_local O.ek h1 ⟨o, es, ep, S.here (p := (_, o)) (S.inPri h2), e1, e2, e3⟩ h4 q) (reserved_debug hr)
  · exact wpAny_Name (wpAny_loadName_cell O.ek h1 h2 ⟨o, S.here (p := (a, o)) (S.inCells h3), h4⟩ q) (reserved_debug hr)

theorem ev_global {x : Str} {pos : Pos} {u : Value} {P : Gh → Value → Prop} (O : Ok G c) (S : Sim G c g h s.heap) (hk : c.env.kindOf x = some .globalImplicit) (hr : reserved x = false)
    (e : nsIn G.K mainGlobals x = some (some u)) (p : P g u) : Ev G c (eval (.Name x pos) c.env) g s h P := fun E Q k =>
  nameG_K S.fr O.K O.T e (k _ _ _ S (.refl _) (.refl _) p) O.eg O.ek hk (reserved_debug hr)
theorem ev_builtin {x : Str} {pos : Pos} {u : Value} {P : Gh → Value → Prop} (O : Ok G c) (S : Sim G c g h s.heap) (hk : c.env.kindOf x = some .globalImplicit) (hr : reserved x = false)
    (e : nsIn G.K mainGlobals x = some none) (hb : bootBuiltins x = some u) (hn : x ≠ "__name__") (p : P g u) : Ev G c (eval (.Name x pos) c.env) g s h P := fun E Q k =>
  Name_function_global O.ek hk (loadGlobal_builtin (env := c.env) (by rw [O.eg]; exact O.T.g.keeps S.fr.keep) (mg_none_of O.K O.T.g e) (by rw [O.eb]; exact O.T.b.keeps S.fr.keep) ((O.T.builtins x hn).trans hb)
    (k _ _ _ S (.refl _) (.refl _) p)) (reserved_debug hr)

theorem ev_int {i : Int} {k : Nat} {pos : Pos} {P : Gh → Value → Prop} (S : Sim G c g h s.heap) (p : ∀ t, P g (.int i t)) : Ev G c (eval (.Constant (.int i) k pos) c.env) g s h P := fun E Q q =>
  wpAny_mkInt (q (.int i s.toks) { s with toks := s.toks + 1 } g S (.refl _) ⟨rfl, rfl⟩ (p _))
theorem ev_str {x : Str} {k : Nat} {pos : Pos} {P : Gh → Value → Prop} (S : Sim G c g h s.heap) (p : ∀ t, P g (.str x t)) : Ev G c (eval (.Constant (.str x) k pos) c.env) g s h P := fun E Q q =>
  Constant_str (q (.str x s.toks) { s with toks := s.toks + 1 } g S (.refl _) ⟨rfl, rfl⟩ (p _))
theorem ev_none {k : Nat} {pos : Pos} {P : Gh → Value → Prop} (S : Sim G c g h s.heap) (p : P g .none) : Ev G c (eval (.Constant .none k pos) c.env) g s h P := Ev.pure S p
theorem ev_bool {b : Bool} {k : Nat} {pos : Pos} {P : Gh → Value → Prop} (S : Sim G c g h s.heap) (p : P g (.bool b)) : Ev G c (eval (.Constant (.bool b) k pos) c.env) g s h P := Ev.pure S p

theorem Sim.push1 {H : Heap} {D : Addr} {ob : Obj} {o : O} (S : Sim G c g h s.heap) (F : Fr c.h₀ c.L H c.m) (N : News c.h₀ c.L H ((D, ob) :: ledOf c g)) (hD : ∀ p ∈ ledOf c g, p.1 < D)
    (r : OR (prog := G.prog) (w := G.w) G.cg (kn c g) (g.as ++ [D]) o D [(D, ob)]) : Sim G c ⟨g.as ++ [D], g.Z, g.mu ++ [[(D, ob)]]⟩ (h ++ [o]) H :=
  S.push (b := [(D, ob)]) F N (by
    rw [List.cons_append, List.nil_append, List.map_cons, List.nodup_cons]
    exact ⟨fun z => by obtain ⟨p, hp, e⟩ := List.mem_map.mp z; exact absurd (hD p hp) (by rw [show p.1 = D from e]; exact Nat.lt_irrefl _), S.nd⟩) r

/-! displays -/
theorem starEach_cons {e : PySem.Expr} {rest : List PySem.Expr} {env : Env} (hp : plainArg e = true) : starEach (e :: rest) env = (false, eval e env) :: starEach rest env := by
  cases e <;> first | rfl | cases hp
theorem starEach_plain : ∀ {es : List PySem.Expr} {env : Env} (pos : Pos), es.all plainArg = true → (backTo pos (starEach es env)).any (·.1) = false
  | [], _, _, _ => rfl
  | e :: es, env, pos, hp => by
    have hp' : plainArg e = true ∧ es.all plainArg = true := by simpa using hp
    rw [starEach_cons hp'.1]
    show (false || (backTo pos (starEach es env)).any (·.1)) = false
    rw [starEach_plain pos hp'.2]; rfl

/-- what is known of the evaluation of x: from the clean heap h to v in h' -/
def EvX (G : Gl) (c : Cx) (names : List (Str × NameKind)) (x : PySem.Expr) (ρ : Rho) (h : List O) (v : V) (h' : List O) : Prop :=
  ∀ g s, Sim G c g h s.heap → Vars G c g names ρ → Ev G c (eval x c.env) g s h' (fun g' u => VV G c g' v u)
/-- a chain of them -/
inductive EvXs (G : Gl) (c : Cx) (names : List (Str × NameKind)) (ρ : Rho) : List PySem.Expr → List O → List V → List O → Prop
  | nil (h : List O) : EvXs G c names ρ [] h [] h
  | cons (x : PySem.Expr) (xs : List PySem.Expr) (h : List O) (v : V) (h₁ : List O) (vs : List V) (h₂ : List O) : EvX G c names x ρ h v h₁ → EvXs G c names ρ xs h₁ vs h₂ → EvXs G c names ρ (x :: xs) h (v :: vs) h₂

theorem ev_spliced {names : List (Str × NameKind)} {ρ : Rho} {pos : Pos} : ∀ {xs : List PySem.Expr} {h h' : List O} {vs : List V} {g : Gh} {s : Shared}, EvXs G c names ρ xs h vs h' → xs.all plainArg = true → Sim G c g h s.heap → Vars G c g names ρ →
    Ev G c (spliced (backTo pos (starEach xs c.env))) g s h' (fun g' us => VVs G c g' vs us)
  | _, _, _, _, g, s, .nil _, _, S, _ => Ev.pure S .nil
  | x :: xs, h, h', _, g, s, .cons _ _ _ v _ vs _ a b, hp, S, Vs => fun E Q k => by
    have hp' : plainArg x = true ∧ xs.all plainArg = true := by simpa using hp
    rw [starEach_cons hp'.1]
    refine spliced_cons (a g s S Vs E _ fun u s₁ g₁ S₁ l₁ q₁ p₁ => ?_)
    exact ev_spliced (pos := pos) b hp'.2 S₁ (Vs.le l₁) E _ fun us s₂ g₂ S₂ l₂ q₂ p₂ => k _ _ _ S₂ (l₁.trans l₂) (q₁.trans q₂) (.cons (VV.le l₂ p₁) p₂)

theorem EvXs.length {names : List (Str × NameKind)} {ρ : Rho} {xs : List PySem.Expr} {vs : List V} (r : EvXs G c names ρ xs h vs h') : vs.length = xs.length := by
  induction r with
  | nil => rfl
  | cons _ _ _ _ _ _ _ _ _ ih => simp [ih]

theorem ev_tuple {names : List (Str × NameKind)} {ρ : Rho} {xs : List PySem.Expr} {k : Nat} {pos : Pos} {vs : List V} (S : Sim G c g h s.heap) (Vs : Vars G c g names ρ) (r : EvXs G c names ρ xs h vs h') (hp : xs.all plainArg = true)
    (hl : xs.length ≤ 1000) : Ev G c (eval (.Tuple xs k pos) c.env) g s h' (fun g' u => VV G c g' (mkTup vs) u) := fun E Q q =>
  Tuple_ (ev_spliced r hp S Vs E _ fun us s₁ g₁ S₁ l₁ q₁ p₁ => newTuple_N S₁.fr S₁.news (fun h'' F' N' => by
    refine q _ _ _ (S₁.freeze F' N' S₁.lt) (l₁.trans (Gh.le_freeze _ _)) ⟨q₁.os, q₁.gens⟩ ?_
    unfold mkTup
    have p₂ : VVs G c ⟨g₁.as, (s₁.heap.objs.size, { cls := .type "tuple", data := .seq us.toArray }) :: g₁.Z, g₁.mu⟩ vs us := VVs.le (Gh.le_freeze _ _) p₁
    cases e : allD vs with
    | none => exact .tupv (.inr (.head _)) rfl rfl (by simpa using p₂)
    | some xs => exact .d (.tuple (.inr (.head _)) rfl rfl (by simpa using p₂.toD e))) (by
      rw [sizeLine_eq, p₁.length, r.length]; omega))

theorem ev_list {names : List (Str × NameKind)} {ρ : Rho} {xs : List PySem.Expr} {pos : Pos} {vs : List V} {mu : Bool} {v : V} {h'' : List O} (S : Sim G c g h s.heap) (Vs : Vars G c g names ρ) (r : EvXs G c names ρ xs h vs h') (hp : xs.all plainArg = true)
    (hl : xs.length ≤ 1000) (hm : mkList mu vs h' = some (v, h'')) : Ev G c (eval (.List xs pos) c.env) g s h'' (fun g' u => VV G c g' v u) := fun E Q q =>
  List_ (ev_spliced r hp S Vs E _ fun us s₁ g₁ S₁ l₁ q₁ p₁ => newList_N S₁.fr S₁.news (fun h2 F' N' => by
    unfold mkList at hm
    split at hm
    · rename_i xs e
      split at hm
      · cases hm
        exact q _ _ _ (S₁.push1 (D := s₁.heap.objs.size) (ob := listOf us.toArray 0) F' N' S₁.lt (.list (p₁.toD e))) (l₁.trans (Gh.le_push _ _ _)) ⟨q₁.os, q₁.gens⟩ (.loc (by rw [← S₁.la]; simp))
      · cases hm
        refine q _ _ _ (S₁.freeze F' N' S₁.lt) (l₁.trans (Gh.le_freeze _ _)) ⟨q₁.os, q₁.gens⟩ ?_
        have p₂ : VVs G c ⟨g₁.as, (s₁.heap.objs.size, { cls := .type "list", data := .seq us.toArray }) :: g₁.Z, g₁.mu⟩ vs us := VVs.le (Gh.le_freeze _ _) p₁
        exact .d (.list (.inr (.head _)) rfl rfl (by simpa using p₂.toD e))
    · split at hm
      · cases hm
      · cases hm
        refine q _ _ _ (S₁.freeze F' N' S₁.lt) (l₁.trans (Gh.le_freeze _ _)) ⟨q₁.os, q₁.gens⟩ ?_
        have p₂ : VVs G c ⟨g₁.as, (s₁.heap.objs.size, { cls := .type "list", data := .seq us.toArray }) :: g₁.Z, g₁.mu⟩ vs us := VVs.le (Gh.le_freeze _ _) p₁
        exact .lstv (.inr (.head _)) rfl rfl (by simpa using p₂)) (by
      rw [sizeLine_eq, p₁.length, r.length]; omega))
end Mine
end
section
open PySem PySem.W PyProof.Rows PySem.Calls
namespace Mine
variable {G : Gl} {α β : Type} {c : Cx} {g : Gh} {s : Shared} {h h' h₁ h₂ : List O}

/-- a thing of the heap: its address and its block -/
@[elab_as_elim] theorem loc_on {P : Value → Prop} {n : Nat} {o : O} {u : Value} (S : Sim G c g h s.heap) (r : VV G c g (.loc n) u) (hn : h[n]? = some o)
    (k : ∀ a, g.as[n]? = some a → ORC G.prog G.w G.cg (kn c g) g.as a (fun b => g.mu[n]? = some b → P (.ref a)) o) : P u := r.on fun a ha => by
  obtain ⟨b, hb, rr⟩ := S.blockAt hn ha
  exact rr.on (P := fun b => g.mu[n]? = some b → P (.ref a)) (k a ha) hb
theorem rd_dOn {P : Prop} {x : V} {d : PyData} (e : rd h x = .d d) (k0 : x = .d d → P) (k1 : ∀ n l, x = .loc n → h[n]? = some (.list l) → d = .list l → P) : P := by
  cases x
  case d => exact k0 e
  case loc n =>
    have e' : (match h[n]? with | some (.list l) => V.d (.list l) | some (.idict l) => .idict l | _ => .loc n) = .d d := e
    cases q : h[n]? with
    | none => rw [q] at e'; cases e'
    | some o =>
      rw [q] at e'
      cases o
      case list l => cases e'; exact k1 n l rfl q rfl
      all_goals cases e'
  all_goals cases e
theorem rd_idOn {P : Prop} {x : V} {m : List (Int × PyData)} (e : rd h x = .idict m) (k0 : x = .idict m → P) (k1 : ∀ n, x = .loc n → h[n]? = some (.idict m) → P) : P := by
  cases x
  case idict => exact k0 e
  case loc n =>
    have e' : (match h[n]? with | some (.list l) => V.d (.list l) | some (.idict l) => .idict l | _ => .loc n) = .idict m := e
    cases q : h[n]? with
    | none => rw [q] at e'; cases e'
    | some o =>
      rw [q] at e'
      cases o
      case idict l => cases e'; exact k1 n rfl q
      all_goals cases e'
  all_goals cases e
noncomputable def isL : PyData → Bool
  | .list _ => true
  | _ => false
theorem no_list {P : Prop} {d : PyData} {l : List PyData} (h : isL d = false) (e : d = .list l) : P := by
  subst e; cases h
theorem rd_d {x : V} {u : Value} {d : PyData} (r : VV G c g x u) (e : x = .d d) : RD (kn c g) d u := by
  subst e; exact r.onD
theorem rd_same {x : V} {d : PyData} (e : rd h x = .d d) (hd : isL d = false) : x = .d d := rd_dOn e id fun _ _ _ _ q => no_list hd q
theorem rd_tuple' {x : V} {xs : List PyData} (e : rd h x = .d (.tuple xs)) : x = .d (.tuple xs) := rd_same e rfl
@[elab_as_elim] theorem rd_intK {P : Value → Prop} {x : V} {u : Value} {i : Int} (r : VV G c g x u) (e : rd h x = .d (.int i)) (k : ∀ t, P (.int i t)) : P u := (rd_d r (rd_same e rfl)).on k
@[elab_as_elim] theorem rd_tupleK {P : Value → Prop} {x : V} {u : Value} {xs : List PyData} (O : Ok G c) (S : Sim G c g h s.heap) (r : VV G c g x u) (e : rd h x = .d (.tuple xs)) (k : ∀ a vs, IsTup s.heap a vs.toArray → RDs (kn c g) xs vs → P (.ref a)) : P u :=
  (rd_d r (rd_same e rfl)).on fun a o vs n k1 k2 k3 k4 => k a vs.toList ⟨o, S.known O _ _ k1, k2, n, k3⟩ k4
@[elab_as_elim] theorem rd_listK {P : Value → Prop} {x : V} {u : Value} {xs : List PyData} (O : Ok G c) (S : Sim G c g h s.heap) (r : VV G c g x u) (e : rd h x = .d (.list xs)) (k : ∀ a vs, s.heap.IsList a vs.toArray → RDs (kn c g) xs vs → P (.ref a)) : P u :=
  rd_dOn e (fun q => (rd_d r q).on fun a o vs n k1 k2 k3 k4 => k a vs.toList ⟨o, S.known O _ _ k1, k2, n, k3⟩ k4) fun n l q ho z => by
    subst q; cases z
    refine r.on fun a ha => ?_
    obtain ⟨b, hb, rr⟩ := S.blockAt ho ha
    revert hb
    exact rr.on fun vs n q hb => k a vs ⟨_, S.here (S.inMu hb (.head _)), rfl, _, rfl⟩ q
@[elab_as_elim] theorem rd_idictK {P : Value → Prop} {x : V} {u : Value} {m : List (Int × PyData)} (O : Ok G c) (S : Sim G c g h s.heap) (r : VV G c g x u) (e : rd h x = .idict m)
    (k : ∀ a o kvs, (a == sysModules) = false → s.heap.get? a = some o → o.IsDictOf (intKind G.prog G.w) kvs → PD (RD (kn c g)) m kvs → P (.ref a)) : P u :=
  rd_idOn e (fun q => by subst q; exact r.on fun a o kvs k1 z k2 k3 => k a o kvs z (S.known O _ _ k1) k2 k3) fun n q ho => by
    subst q
    refine r.on fun a ha => ?_
    obtain ⟨b, hb, rr⟩ := S.blockAt ho ha
    revert hb
    exact rr.on fun o kvs z p q hb => k a o kvs z (S.here (S.inMu hb (.head _))) p q
theorem rd_int {x : V} {u : Value} {i : Int} (r : VV G c g x u) (e : rd h x = .d (.int i)) : ∃ t, u = .int i t := rd_intK r e fun t => ⟨t, rfl⟩
theorem rd_tuple {x : V} {u : Value} {xs : List PyData} (O : Ok G c) (S : Sim G c g h s.heap) (r : VV G c g x u) (e : rd h x = .d (.tuple xs)) :
    ∃ a vs, u = .ref a ∧ IsTup s.heap a vs.toArray ∧ RDs (kn c g) xs vs := rd_tupleK O S r e fun a vs t q => ⟨a, vs, rfl, t, q⟩
theorem rd_list {x : V} {u : Value} {xs : List PyData} (O : Ok G c) (S : Sim G c g h s.heap) (r : VV G c g x u) (e : rd h x = .d (.list xs)) :
    ∃ a vs, u = .ref a ∧ s.heap.IsList a vs.toArray ∧ RDs (kn c g) xs vs := rd_listK O S r e fun a vs t q => ⟨a, vs, rfl, t, q⟩
theorem rd_idict {x : V} {u : Value} {m : List (Int × PyData)} (O : Ok G c) (S : Sim G c g h s.heap) (r : VV G c g x u) (e : rd h x = .idict m) :
    ∃ a o kvs, u = .ref a ∧ (a == sysModules) = false ∧ s.heap.get? a = some o ∧ o.IsDictOf (intKind G.prog G.w) kvs ∧ PD (RD (kn c g)) m kvs := rd_idictK O S r e fun a o kvs z h1 h2 h3 => ⟨a, o, kvs, rfl, z, h1, h2, h3⟩
/-- a thing that reads as data reads so in the heap -/
theorem rd_reads {x : V} {u : Value} {d : PyData} (O : Ok G c) (S : Sim G c g h s.heap) (r : VV G c g x u) (e : rd h x = .d d) : ∃ as, Reads s.heap u d as :=
  rd_dOn e (fun q => RD.reads (S.rd O (rd_d r q))) fun n l _ _ z => by
    subst z
    refine rd_listK O S r e fun a vs t q => ?_
    obtain ⟨o, h1, h2, n, h3⟩ := t
    obtain ⟨as, q'⟩ := RDs.reads (q.mono (S.known O))
    exact ⟨_, .list h1 h2 h3 q'⟩

theorem intEq_beq (a b : Int) : intEq a b = (a == b) := Bool.eq_iff_iff.mpr ((intEq_iff a b).trans beq_iff_eq.symm)
theorem strEq_beq (a b : Str) : strEq a b = (a == b) := Bool.eq_iff_iff.mpr ((strEq_iff a b).trans beq_iff_eq.symm)
mutual
theorem deq_eqv : ∀ a b : PyData, a.canLay0 = true → deq a b = PyData.eqv a b
  | .none, b, _ => by cases b <;> rfl
  | .bool x, b, _ => by
    cases b
    case int j => exact intEq_beq _ _
    all_goals rfl
  | .int x, b, _ => by
    cases b
    case int j => exact intEq_beq _ _
    case bool j => exact intEq_beq _ _
    all_goals rfl
  | .str x, b, _ => by
    cases b
    case str j => exact strEq_beq _ _
    all_goals rfl
  | .list xs, b, q => by
    cases b
    case list ys => exact deqs_eqv xs ys q
    all_goals rfl
  | .tuple xs, b, q => by
    cases b
    case tuple ys => exact deqs_eqv xs ys q
    all_goals rfl
  | .dict _, _, q => ftrue q
theorem deqs_eqv : ∀ a b : List PyData, PyData.canLayAll0 a = true → deqs a b = PyData.eqvAll a b
  | [], b, _ => by cases b <;> rfl
  | x :: xs, b, q => by
    have q' := Bool.and_eq_true_iff.mp (show (x.canLay0 && PyData.canLayAll0 xs) = true from q)
    cases b
    case nil => rfl
    case cons y ys =>
      show (deq x y && deqs xs ys) = (PyData.eqv x y && PyData.eqvAll xs ys)
      rw [deq_eqv x y q'.1, deqs_eqv xs ys q'.2]
end
theorem lay_of {d : PyData} (q : lay d = true) : d.canLay0 = true ∧ d.depth ≤ 60 := (Bool.and_eq_true_iff.mp q).imp_right of_decide_eq_true
theorem anyEq_eq {x : PyData} : ∀ {ys : List PyData}, PyData.canLayAll0 ys = true → anyEq x ys = ys.any fun y => PyData.eqv y x
  | [], _ => rfl
  | y :: r, q => by
    have q' := Bool.and_eq_true_iff.mp (show (y.canLay0 && PyData.canLayAll0 r) = true from q)
    show (deq y x || anyEq x r) = (PyData.eqv y x || r.any fun y => PyData.eqv y x)
    rw [deq_eqv y x q'.1, anyEq_eq q'.2]

/-- room for what the library asks -/
def Room (n : Nat) (A : Around) : Prop := A.depth + 2 * n < recursionLimit ∧ A.units + 20 * n + 200 < cLine

section
variable {op : Operator} {x y : V} {a b : Value} {v : V}
theorem small_lt {i : Int} (q : small i = true) : i.natAbs < 2 ^ 64 := Nat.blt_eq.mp q
theorem small_bits {i : Int} (q : small i = true) : Builtin.Int.intBits i ≤ 64 := by
  have := small_lt q
  exact intBits_le_64 (by omega) (by omega)

theorem freeze_tuple {us : List Value} {xs : List PyData} {H : Heap} (S : Sim G c g h s.heap) (F : Fr c.h₀ c.L H c.m) {D : Addr}
    (N : News c.h₀ c.L H ((D, ({ cls := .type "tuple", data := .seq us.toArray } : Obj)) :: ledOf c g)) (hD : ∀ p ∈ ledOf c g, p.1 < D) (r : RDs (kn c g) xs us) {E : Value → Shared → Prop} {Q : Value → Shared → Prop}
    (k : ∀ v s' g', Sim G c g' h s'.heap → g.le g' → Same s s' → VV G c g' (.d (.tuple xs)) v → Q v s') {s' : Shared} (hs : s'.heap = H) (q : Same s s') : Q (.ref D) s' := by
  subst hs
  refine k _ _ _ (S.freeze F N hD) (Gh.le_freeze _ _) q (.d (.tuple (.inr (.head _)) rfl rfl ?_))
  exact r.mono (Kn.mono fun _ z => .tail _ z)
theorem freeze_list {us : List Value} {xs : List PyData} {n : Nat} {H : Heap} (S : Sim G c g h s.heap) (F : Fr c.h₀ c.L H c.m) {D : Addr}
    (N : News c.h₀ c.L H ((D, ({ cls := .type "list", data := .seq us.toArray n } : Obj)) :: ledOf c g)) (hD : ∀ p ∈ ledOf c g, p.1 < D) (r : RDs (kn c g) xs us) {E : Value → Shared → Prop} {Q : Value → Shared → Prop}
    (k : ∀ v s' g', Sim G c g' h s'.heap → g.le g' → Same s s' → VV G c g' (.d (.list xs)) v → Q v s') {s' : Shared} (hs : s'.heap = H) (q : Same s s') : Q (.ref D) s' := by
  subst hs
  refine k _ _ _ (S.freeze F N hD) (Gh.le_freeze _ _) q (.d (.list (.inr (.head _)) rfl rfl ?_))
  exact r.mono (Kn.mono fun _ z => .tail _ z)

theorem short_le {α : Type} {l : List α} (q : short l = true) : l.length ≤ 1000000 := Nat.le_of_ble_eq_true q

theorem rep_one (z : Value) : ∀ n, (List.replicate n [z]).flatten = List.replicate n z
  | 0 => rfl
  | n + 1 => by rw [List.replicate_succ, List.flatten_cons, rep_one z n]; rfl
theorem size_two {α β γ δ : Type} {a : List α} {b : List β} {us : List γ} {ws : List δ} (h : (short a && short b) = true) (l1 : us.length = a.length) (l2 : ws.length = b.length) : us.length + ws.length ≤ sizeLine := by
  have h := Bool.and_eq_true_iff.mp h
  have l3 := short_le h.1
  have l4 := short_le h.2
  rw [sizeLine_eq, l1, l2]; omega
theorem add_ok (O : Ok G c) (S : Sim G c g h s.heap) (rx : VV G c g x a) (ry : VV G c g y b) (e : addV (rd h x) (rd h y) = some v) :
    Ev G c (binaryOp .Add a b) g s h (fun g' u => VV G c g' v u) := fun E Q k => dd_on e fun dx dy e1 e2 e => by
  cases dx
  case int i =>
    cases dy
    case int j =>
      exact inj1 e fun e => rd_intK rx e1 fun t => rd_intK ry e2 fun u => add_int (k _ _ g S (.refl _) ⟨rfl, rfl⟩ (e ▸ .d (.int _ _)))
    all_goals exact nsome e
  case tuple xs =>
    cases dy
    case tuple ys =>
      refine iFn e fun hs e => ?_
      obtain ⟨a', us, rfl, t1, r1⟩ := rd_tuple O S rx e1
      obtain ⟨b', ws, rfl, t2, r2⟩ := rd_tuple O S ry e2
      subst e
      refine add_tuples S.fr S.news t1 t2 (fun q => ?_) (fun q q' => ?_) (fun q q' H F' N' => freeze_tuple (E := E) S F' N' S.lt (r1.append r2) k rfl ⟨rfl, rfl⟩) (size_two hs r1.length r2.length)
      · subst q
        have e0 : xs = [] := List.eq_nil_of_length_eq_zero r1.length.symm
        subst e0
        exact k _ _ g S (.refl _) (.refl _) (.d (rd_d ry (rd_tuple' e2)))
      · subst q'
        have e0 : ys = [] := List.eq_nil_of_length_eq_zero r2.length.symm
        subst e0
        rw [List.append_nil] at k
        exact k _ _ g S (.refl _) (.refl _) (.d (rd_d rx (rd_tuple' e1)))
    all_goals exact nsome e
  case list xs =>
    cases dy
    case list ys =>
      refine iFn e fun hs e => rd_listK O S rx e1 fun a' us t1 r1 => rd_listK O S ry e2 fun b' ws t2 r2 => ?_
      subst e
      exact add_lists S.fr S.news t1 t2 (fun H F' N' => freeze_list (E := E) (n := 0) S F' N' S.lt (r1.append r2) k rfl ⟨rfl, rfl⟩) (size_two hs r1.length r2.length)
    all_goals exact nsome e
  all_goals exact nsome e
theorem mul_ok (O : Ok G c) (S : Sim G c g h s.heap) (rx : VV G c g x a) (ry : VV G c g y b) (e : mulV (rd h x) (rd h y) = some v) :
    Ev G c (binaryOp .Mult a b) g s h (fun g' u => VV G c g' v u) := fun E Q k => dd_on e fun dx dy e1 e2 e => by
  cases dy
  case int j =>
    cases dx
    case int i =>
      exact iFn e fun hs e => rd_intK rx e1 fun t => rd_intK ry e2 fun u => mul_int (k _ _ g S (.refl _) ⟨rfl, rfl⟩ (e ▸ .d (.int _ _))) ((Bool.or_eq_true_iff.mp hs).elim (fun q => .of_right (small_bits q)) fun q => .of_left (small_bits q))
    case list l =>
      cases l
      case nil => exact nsome e
      case cons d l =>
        cases l
        case nil =>
          refine iFn e fun hs e => rd_listK O S rx e1 fun a' us t1 r1 => rd_intK ry e2 fun u => ?_
          subst e
          revert t1
          refine r1.on fun z us q r1 => r1.on fun t1 => ?_
          obtain ⟨h1, h2⟩ := Bool.and_eq_true_iff.mp hs
          have h1 := of_decide_eq_true h1
          have h2 := of_decide_eq_true h2
          exact KMa.mul (ws := List.replicate j.toNat z) S.fr S.news t1 (by omega) (by omega) (by show 1 * j.toNat ≤ 256; omega) (rep_one _ _) (fun D H F' N' hD => freeze_list (E := E) (n := 0) S F' N' hD (RDs.replicate q _) k rfl ⟨rfl, rfl⟩)
        case cons => exact nsome e
    all_goals exact nsome e
  all_goals (cases dx <;> exact nsome e)
theorem bin_ok (O : Ok G c) (S : Sim G c g h s.heap) (rx : VV G c g x a) (ry : VV G c g y b) (e : binV op (rd h x) (rd h y) = some v) :
    Ev G c (binaryOp op a b) g s h (fun g' u => VV G c g' v u) := by
  cases op
  case Add => exact add_ok O S rx ry e
  case Mult => exact mul_ok O S rx ry e
  case Sub => exact fun E Q k => ii_on e fun i j e1 e2 e => inj1 e fun e => rd_intK rx e1 fun t => rd_intK ry e2 fun u => sub_int (k _ _ g S (.refl _) ⟨rfl, rfl⟩ (e ▸ .d (.int _ _)))
  case FloorDiv =>
    refine fun E Q k => ii_on e fun i j e1 e2 e => iFm e fun hz e => iFn e fun hs e => rd_intK rx e1 fun t => rd_intK ry e2 fun u => ?_
    exact floordiv_int (fun q => hz ((intEq_iff _ _).mpr q)) (k _ _ g S (.refl _) ⟨rfl, rfl⟩ (e ▸ .d (.int _ _))) (.inl (PyProof.noPylong_of_log2 (Nat.lt_of_lt_of_le ((Nat.log2_lt (fun q => hz ((intEq_iff _ _).mpr (Int.natAbs_eq_zero.mp q)))).mpr (small_lt hs)) (by decide))))
  case Mod => exact fun E Q k => ii_on e fun i j e1 e2 e => iFm e fun hz e => inj1 e fun e => rd_intK rx e1 fun t => rd_intK ry e2 fun u => mod_int' (fun q => hz ((intEq_iff _ _).mpr q)) (k _ _ g S (.refl _) ⟨rfl, rfl⟩ (e ▸ .d (.int _ _)))
  case Pow =>
    refine fun E Q k => ii_on e fun i j e1 e2 e => iFn e fun hz e => rd_intK rx e1 fun t => rd_intK ry e2 fun u => ?_
    obtain ⟨h1, h2⟩ := Bool.and_eq_true_iff.mp hz
    obtain ⟨h2, h3⟩ := Bool.and_eq_true_iff.mp h2
    have h3 := of_decide_eq_true h3
    exact pow_int_small (of_decide_eq_true h2) (by omega) (small_lt h1) (k _ _ g S (.refl _) ⟨rfl, rfl⟩ (e ▸ .d (.int _ _)))
  all_goals exact nsome e
end
end Mine
end
section
open PySem PySem.W PyProof.Rows PySem.Calls PySem.SeqAt
namespace Mine
variable {G : Gl} {α β : Type} {c : Cx} {g : Gh} {s : Shared} {h h' h₁ h₂ : List O}

theorem int_is (k : Int) (t : Tok) : (intKind G.prog G.w).is k (.int k t) = true := by simp [intKind, Value.isInt]
theorem valueAt_hit {K : Type} [DecidableEq K] {j k : K} {v : Value} {r : List (K × Value)} (e : j = k) : valueAt ((j, v) :: r) k = some v := by
  unfold valueAt
  have h : (fun kv : K × Value => decide (kv.1 = k)) (j, v) = true := decide_eq_true e
  rw [List.find?_cons_of_pos (p := fun kv : K × Value => decide (kv.1 = k)) h]; rfl
theorem valueAt_miss {K : Type} [DecidableEq K] {j k : K} {v : Value} {r : List (K × Value)} (e : j ≠ k) : valueAt ((j, v) :: r) k = valueAt r k := by
  unfold valueAt
  have h : ¬ (fun kv : K × Value => decide (kv.1 = k)) (j, v) = true := fun q => e (of_decide_eq_true q)
  rw [List.find?_cons_of_neg (p := fun kv : K × Value => decide (kv.1 = k)) h]
theorem valueAt_cons {K : Type} [DecidableEq K] (kv : K × Value) (r : List (K × Value)) (k : K) : valueAt (kv :: r) k = if kv.1 = k then some kv.2 else valueAt r k := by
  by_cases e : kv.1 = k
  · rw [if_pos e]; exact valueAt_hit e
  · rw [if_neg e]; exact valueAt_miss e
theorem intEq_ne {a b : Int} (h : a ≠ b) : intEq a b = false := Bool.eq_false_iff.mpr fun q => h ((intEq_iff a b).mp q)
theorem intEq_comm (a b : Int) : intEq a b = decide (b = a) := by
  by_cases e : b = a
  · rw [decide_eq_true e, (intEq_iff _ _).mpr e.symm]
  · rw [decide_eq_false e, intEq_ne (Ne.symm e)]
theorem findI_hit {α : Type} {k j : Int} {x : α} {m : List (Int × α)} (e : k = j) : findI k ((j, x) :: m) = some x := if_pos ((intEq_iff _ _).mpr e)
theorem findI_miss {α : Type} {k j : Int} {x : α} {m : List (Int × α)} (e : k ≠ j) : findI k ((j, x) :: m) = findI k m := if_neg (by rw [intEq_ne e]; decide)
/-- what a key finds: on both sides, or on none -/
theorem PD.find {P : PyData → Value → Prop} {k : Int} {m : List (Int × PyData)} {kvs : List (Int × Value)} (r : PD P m kvs) : (∀ x, findI k m = some x → ∃ v, valueAt kvs k = some v ∧ P x v) ∧ (findI k m = none → valueAt kvs k = none) := by
  induction r with
  | nil => exact ⟨fun _ e => nsome e, fun _ => rfl⟩
  | @cons j x v m kvs a b ih =>
    by_cases e : k = j
    · rw [valueAt_hit e.symm, findI_hit e]; exact ⟨fun _ q => ⟨_, rfl, Option.some.inj q ▸ a⟩, snone⟩
    · rw [valueAt_miss (Ne.symm e), findI_miss e]; exact ih
theorem isSome_of {α β : Type} {o : Option α} {q : Option β} (h1 : ∀ x, o = some x → ∃ v, q = some v) (h2 : o = none → q = none) : q.isSome = o.isSome := by
  cases o with
  | none => rw [h2 rfl]; rfl
  | some x => obtain ⟨v, e⟩ := h1 x rfl; rw [e]; rfl
theorem PD.isSome {P : PyData → Value → Prop} {k : Int} {m : List (Int × PyData)} {kvs : List (Int × Value)} (r : PD P m kvs) : (valueAt kvs k).isSome = (findI k m).isSome := isSome_of (fun x e => (r.find.1 x e).imp fun _ q => q.1) r.find.2
theorem PDD.find {kn : Addr → Obj → Prop} {k : Int} {m kvs} (r : PDD (prog := G.prog) (w := G.w) kn m kvs) : (∀ x, findI k m = some x → ∃ v, valueAt kvs k = some v ∧ VR G.prog G.w kn [] (.idict x) v) ∧ (findI k m = none → valueAt kvs k = none) := by
  induction r with
  | nil => exact ⟨fun _ e => nsome e, fun _ => rfl⟩
  | @cons j x v m kvs a b ih =>
    by_cases e : k = j
    · rw [valueAt_hit e.symm, findI_hit e]; exact ⟨fun _ q => ⟨_, rfl, Option.some.inj q ▸ a⟩, snone⟩
    · rw [valueAt_miss (Ne.symm e), findI_miss e]; exact ih
theorem PDD.isSome {kn : Addr → Obj → Prop} {k : Int} {m kvs} (r : PDD (prog := G.prog) (w := G.w) kn m kvs) : (valueAt kvs k).isSome = (findI k m).isSome := isSome_of (fun x e => (r.find.1 x e).imp fun _ q => q.1) r.find.2
theorem PD.length {K : Type} {P : PyData → Value → Prop} {m : List (K × PyData)} {kvs : List (K × Value)} (r : PD P m kvs) : kvs.length = m.length := by
  induction r with
  | nil => rfl
  | cons _ _ ih => exact congrArg Nat.succ ih

section
variable {op : CmpOp} {x y : V} {a b : Value} {v : V}
theorem eqV_ok (O : Ok G c) (S : Sim G c g h s.heap) (hu : c.A.units + 200 < cLine) (rx : VV G c g x a) (ry : VV G c g y b) {r : Bool} (e : eqV h x y = some r) {P : Prop}
    (k : ∀ da db as bs, Reads s.heap a da as → Reads s.heap b db bs → da.canLay0 = true → db.canLay0 = true → c.A.units + min da.depth db.depth < cLine → r = PyData.eqv da db → P) : P := by
  unfold eqV at e
  cases e1 : rd h x <;> rw [e1] at e
  case d dx =>
    cases e2 : rd h y <;> rw [e2] at e
    case d dy =>
      refine iF (b := (lay dx && lay dy) = true) e (fun q e => ?_) fun _ e => nsome e
      obtain ⟨q1, q2⟩ := Bool.and_eq_true_iff.mp q
      obtain ⟨as, r1⟩ := rd_reads O S rx e1
      obtain ⟨bs, r2⟩ := rd_reads O S ry e2
      have l1 := lay_of q1
      exact k _ _ _ _ r1 r2 l1.1 (lay_of q2).1 (Nat.lt_of_le_of_lt (Nat.add_le_add_left (Nat.le_trans (Nat.min_le_left _ _) (Nat.le_trans l1.2 (by decide))) _) hu) ((Option.some.inj e).symm.trans (deq_eqv _ _ l1.1))
    all_goals exact nsome e
  all_goals exact nsome e
theorem none_is {u : Value} (ry : VV G c g (.d .none) u) : u = .none := ry.onD.on rfl
theorem isNone_ok {u : Value} {r : Bool} (rx : VV G c g x u) (e : isNone x = some r) : plainIs u .none = true ∧ (u == .none) = r := by
  have lo : ∀ {a : Addr}, some false = some r → plainIs (.ref a) .none = true ∧ (Value.ref a == .none) = r := fun e => Option.some.inj e ▸ ⟨rfl, rfl⟩
  revert e
  refine rx.on ?_
  cases x
  case d d =>
    intro v q
    refine q.on ?_
    cases d
    case none => exact fun e => Option.some.inj e ▸ ⟨rfl, rfl⟩
    case bool => exact fun e => Option.some.inj e ▸ ⟨rfl, rfl⟩
    case int => exact fun _ e => Option.some.inj e ▸ ⟨rfl, rfl⟩
    case str => exact fun _ e => Option.some.inj e ▸ ⟨rfl, rfl⟩
    case list => exact fun _ _ _ _ _ _ _ _ => lo
    case tuple => exact fun _ _ _ _ _ _ _ _ => lo
    case dict => exact trivial
  case loc => exact fun _ _ => lo
  case tupv => exact fun _ _ _ _ _ _ _ _ => lo
  case lstv => exact fun _ _ _ _ _ _ _ _ => lo
  case sdict => exact fun _ _ _ _ _ _ => lo
  case idict => exact fun _ _ _ _ _ _ _ => lo
  case bad => exact fun _ => nsome

/-- what «in» says of the thing at hand -/
theorem in_dict {nt : Bool} {r : Bool} {k : Int} {t : Tok} {d : Addr} {o : Obj} {kvs : List (Int × Value)} {E Q : Value → Shared → Prop} (q : ∀ t, Q (.bool (if nt then !r else r)) { s with toks := t }) (lo : (d == sysModules) = false) (ho : s.heap.get? d = some o) (hd : o.IsDictOf (intKind G.prog G.w) kvs)
    (hr : (valueAt kvs k).isSome = r) : wpAny (model G.prog G.w) c.A (compareOp (if nt then .NotIn else .In) (.int k t) (.ref d)) Q E s := by
  subst hr
  have hm := (Heap.dictOf_iff.mpr ⟨o, ho, hd⟩ : s.heap.DictOf (intKind G.prog G.w) d kvs).mapOf
  cases nt with
  | true => exact wpAny_notIn_of (int_is _ _) lo hm (q _)
  | false => exact wpAny_in_of (int_is _ _) lo hm (q _)
theorem in_data (O : Ok G c) (S : Sim G c g h s.heap) (hu : c.A.units + 200 < cLine) (rx : VV G c g x a) {dy : PyData} {ys : List PyData} {bs : List Addr} {nt r : Bool} {E Q : Value → Shared → Prop} (q : Q (.bool (if nt then !r else r)) s) (hy : dy = .list ys ∨ dy = .tuple ys) (hb : Reads s.heap b dy bs)
    (e : inL x dy ys = some r) : wpAny (model G.prog G.w) c.A (compareOp (if nt then .NotIn else .In) a b) Q E s := inL_on e fun dx e0 l1 l2 hr => by
  subst e0
  obtain ⟨as, r1⟩ := RD.reads (S.rd O rx.onD)
  have l1 := lay_of l1
  have l2 := lay_of l2
  have l3 : PyData.canLayAll0 ys = true ∧ PyData.depthAll ys ≤ 60 := by
    rcases hy with rfl | rfl <;> exact ⟨l2.1, Nat.le_trans (Nat.le_succ _) l2.2⟩
  rw [anyEq_eq l3.1] at hr
  have hu' : c.A.units + 1 + min (PyData.depthAll ys) dx.depth < cLine := by have := Nat.min_le_left (PyData.depthAll ys) dx.depth; omega
  subst hr
  rcases hy with rfl | rfl <;> cases nt
  · exact in_list_reads hb r1 l3.1 l1.1 hu' q
  · exact notIn_list_reads hb r1 l3.1 l1.1 hu' q
  · exact in_tuple_reads hb r1 l3.1 l1.1 hu' q
  · exact notIn_tuple_reads hb r1 l3.1 l1.1 hu' q
theorem rdL' {n : Nat} {l : List PyData} (e : h[n]? = some (.list l)) : rd h (.loc n) = .d (.list l) := by
  show (match h[n]? with | some (.list l) => V.d (.list l) | some (.idict l) => .idict l | _ => .loc n) = _
  rw [e]
theorem rdD' {n : Nat} {l : List (Int × PyData)} (e : h[n]? = some (.idict l)) : rd h (.loc n) = .idict l := by
  show (match h[n]? with | some (.list l) => V.d (.list l) | some (.idict l) => .idict l | _ => .loc n) = _
  rw [e]
theorem in_ok (O : Ok G c) (S : Sim G c g h s.heap) (hu : c.A.units + 200 < cLine) (rx : VV G c g x a) (ry : VV G c g y b) {r : Bool} (e : inV h x y = some r) (nt : Bool) {E Q : Value → Shared → Prop}
    (k : ∀ t, Q (.bool (if nt then !r else r)) { s with toks := t }) : wpAny (model G.prog G.w) c.A (compareOp (if nt then .NotIn else .In) a b) Q E s := by
  cases y
  case d dy =>
    cases dy
    case tuple ys => obtain ⟨bs, r2⟩ := RD.reads (S.rd O ry.onD); exact in_data O S hu rx (k s.toks) (.inr rfl) r2 e
    case list ys => obtain ⟨bs, r2⟩ := RD.reads (S.rd O ry.onD); exact in_data O S hu rx (k s.toks) (.inl rfl) r2 e
    all_goals exact nsome e
  case idict m =>
    refine inK_on e fun i e1 e2 => ?_
    subst e1
    exact rx.onD.on fun t => ry.on fun _ _ _ k1 z k2 k3 => in_dict k z (S.known O _ _ k1) k2 (k3.isSome.trans e2.symm)
  case loc n =>
    have e : inO x h[n]? = some r := e
    cases hn : h[n]? <;> rw [hn] at e
    case none => exact nsome e
    case some o =>
      cases o
      case list ys => obtain ⟨bs, r2⟩ := rd_reads O S ry (rdL' hn); exact in_data O S hu rx (k s.toks) (.inl rfl) r2 e
      case idict m =>
        refine inK_on e fun i e1 e2 => ?_
        subst e1
        refine rx.onD.on fun t => rd_idictK O S ry (rdD' hn) fun _ _ _ z k1 k2 k3 => in_dict k z k1 k2 (k3.isSome.trans e2.symm)
      case iidict m =>
        refine inK_on e fun i e1 e2 => ?_
        subst e1
        refine rx.onD.on fun t => ry.on fun d ha => ?_
        obtain ⟨bb, hb, rr⟩ := S.blockAt hn ha
        revert hb
        exact rr.on fun o kvs z p q hb => in_dict k z (S.here (S.inMu hb (.head _))) p (q.isSome.trans e2.symm)
      case attrs => exact nsome e
  all_goals exact nsome e

theorem is_ok {f : Bool → Bool} (rx : VV G c g x a) (ry : VV G c g y b) (e : isV f x y = some v) {P : Prop} (k : ∀ r, b = .none → v = bB (f r) → plainIs a .none = true → (a == .none) = r → P) : P := by
  cases y
  case d dy =>
    cases dy
    case none => exact bV_on e fun r e1 e2 => (isNone_ok rx e1).elim fun h1 h2 => k r (none_is ry) e2 h1 h2
    all_goals exact nsome e
  all_goals exact nsome e
theorem cmp_ok (O : Ok G c) (S : Sim G c g h s.heap) (hu : c.A.units + 200 < cLine) (rx : VV G c g x a) (ry : VV G c g y b) (e : cmpV h op x y = some v) :
    Ev G c (compareOp op a b) g s h (fun g' u => VV G c g' v u) := fun E Q k => by
  have kb : ∀ {r : Bool} {t}, v = bB r → Q (.bool r) { s with toks := t } := fun {r t} e => k _ _ g S (.refl _) ⟨rfl, rfl⟩ (e ▸ .d (.bool _))
  have kb0 : ∀ {r : Bool}, v = bB r → Q (.bool r) s := fun {r} e => kb (t := s.toks) e
  cases op
  case Eq => exact bV_on e fun r hr e => eqV_ok O S hu rx ry hr fun da db as bs r1 r2 l1 l2 hu' q => compareEq_reads r1 r2 l1 l2 hu' (kb0 (q ▸ e))
  case NotEq => exact bV_on e fun r hr e => eqV_ok O S hu rx ry hr fun da db as bs r1 r2 l1 l2 hu' q => compareNe_reads r1 r2 l1 l2 hu' (kb0 (q ▸ e))
  case Lt => exact ii_on e fun i j e1 e2 e => inj1 e fun e4 => by subst e1 e2; exact rx.onD.on fun t => ry.onD.on fun u => PySem.P.lt_int (kb0 e4)
  case LtE => exact ii_on e fun i j e1 e2 e => inj1 e fun e4 => by subst e1 e2; exact rx.onD.on fun t => ry.onD.on fun u => PySem.P.le_int (kb0 e4)
  case Gt => exact ii_on e fun i j e1 e2 e => inj1 e fun e4 => by subst e1 e2; exact rx.onD.on fun t => ry.onD.on fun u => PySem.P.gt_int (kb0 e4)
  case GtE => exact ii_on e fun i j e1 e2 e => inj1 e fun e4 => by subst e1 e2; exact rx.onD.on fun t => ry.onD.on fun u => PySem.P.ge_int (kb0 e4)
  case Is => exact is_ok rx ry e fun r e1 e2 h1 h2 => by subst e1; exact wpAny_is_plain h1 (by rw [h2]; exact kb0 e2)
  case IsNot => exact is_ok rx ry e fun r e1 e2 h1 h2 => by subst e1; exact wpAny_isNot_plain h1 (by rw [h2]; exact kb0 e2)
  case In => exact bV_on e fun r hr e => in_ok O S hu rx ry hr false fun t => kb e
  case NotIn => exact bV_on e fun r hr e => in_ok O S hu rx ry hr true fun t => kb e
end
end Mine
end
section
open PySem PySem.W PyProof.Rows PySem.Calls PySem.SeqAt
namespace Mine
variable {G : Gl} {α β : Type} {c : Cx} {g : Gh} {s : Shared} {h h' h₁ h₂ : List O}
section
variable {x y : V} {a b : Value} {v : V}

theorem idx_seq {k : Int} {n j : Nat} (e : idx k n = some j) : seqIndex? k n = some j ∧ j < n ∧ -(n : Int) ≤ k ∧ k < n := by
  cases k with
  | ofNat i =>
    refine iF (b := Nat.blt i n = true) e (fun hi e => ?_) fun _ e => nsome e
    obtain rfl := Option.some.inj e
    have hi' : i < n := Nat.blt_eq.mp hi
    refine ⟨?_, hi', Int.le_trans (Int.neg_nonpos_of_nonneg (Int.natCast_nonneg n)) (Int.natCast_nonneg i), Int.ofNat_lt.mpr hi'⟩
    unfold seqIndex?
    dsimp only
    rw [show Int.ofNat i = (i : Int) from rfl, if_neg (Int.not_lt.mpr (Int.natCast_nonneg i)), if_pos (Bool.and_eq_true_iff.mpr ⟨decide_eq_true (Int.natCast_nonneg i), decide_eq_true (Int.ofNat_lt.mpr hi')⟩)]
    rfl
  | negSucc i =>
    refine iF (b := Nat.blt i n = true) e (fun hi e => ?_) fun _ e => nsome e
    obtain rfl := Option.some.inj e
    have hi' : i < n := Nat.blt_eq.mp hi
    have h1 : (0 : Int) ≤ Int.negSucc i + n := by omega
    have h2 : Int.negSucc i + n < (n : Int) := by omega
    refine ⟨?_, by omega, by omega, by omega⟩
    unfold seqIndex?
    dsimp only
    rw [if_pos (Int.negSucc_lt_zero i), if_pos (Bool.and_eq_true_iff.mpr ⟨decide_eq_true h1, decide_eq_true h2⟩)]
    exact congrArg some (by omega)
theorem atL_on {P : Prop} {α : Type} {k : Int} {l : List α} {z : α} (e : atL k l = some z) (q : l.length ≤ 1000000 → ∀ j, seqIndex? k l.length = some j → l[j]? = some z → -(2 ^ 63) ≤ k → k < 2 ^ 63 → P) : P := by
  refine iF (b := short l = true) e (fun hs e => ?_) fun _ e => nsome e
  have := short_le hs
  refine sH e (fun j hj e => ?_) fun _ e => nsome e
  obtain ⟨h1, h2, h3, h4⟩ := idx_seq hj
  exact q this j h1 e (by omega) (by omega)
theorem atL_ok {α : Type} {k : Int} {l : List α} {z : α} (e : atL k l = some z) : l.length ≤ 1000000 ∧ ∃ j, seqIndex? k l.length = some j ∧ l[j]? = some z ∧ -(2 ^ 63) ≤ k ∧ k < 2 ^ 63 := atL_on e fun h1 j h2 h3 h4 h5 => ⟨h1, j, h2, h3, h4, h5⟩
noncomputable def notSlice : PySem.Expr → Bool
  | .Slice _ _ _ _ => false
  | _ => true
theorem sub_plain {slice : PySem.Expr} (hs : notSlice slice = true) (o i : Value) : subscripted slice false o i = operate [o, i] (getItem o i) := by
  cases slice <;> first | rfl | cases hs

theorem getTup_ok {l : Addr} {vs : List Value} {xs : List PyData} {k : Int} {t : Tok} {z : PyData} {E Q : Value → Shared → Prop} (ht : IsTup s.heap l vs.toArray) (r : RDs (kn c g) xs vs) (e : atL k xs = some z)
    (q : ∀ u, RD (kn c g) z u → Q u s) : wpAny (model G.prog G.w) c.A (getItem (.ref l) (.int k t)) Q E s := atL_on e fun h1 j h2 h3 h4 h5 => by
  obtain ⟨u, h6, h7⟩ := r.get h3
  exact PyProof.Rows.getItem_tuple ht h4 h5 (by rw [List.size_toArray, r.length]; exact h2) (List.getElem?_toArray.trans h6) (q u h7)
theorem getList_ok {l : Addr} {vs : List Value} {xs : List PyData} {k : Int} {t : Tok} {z : PyData} {E Q : Value → Shared → Prop} (ht : s.heap.IsList l vs.toArray) (r : RDs (kn c g) xs vs) (e : atL k xs = some z)
    (q : ∀ u, RD (kn c g) z u → Q u s) : wpAny (model G.prog G.w) c.A (getItem (.ref l) (.int k t)) Q E s := atL_on e fun h1 j h2 h3 h4 h5 => by
  obtain ⟨u, h6, h7⟩ := r.get h3
  by_cases hk : k < 0
  · exact kde_getNeg ht hk h4 (by rw [r.length]; exact h2) h6 (q u h7)
  · refine wpAny_getItem_list ht (Int.not_lt.mp hk) h5 ?_ (q u h7)
    unfold seqIndex? at h2
    dsimp only at h2
    rw [if_neg hk] at h2
    refine iFn h2 fun _ e => ?_
    rw [← e]; exact List.getElem?_toArray.trans h6

theorem findS_mem {α : Type} {k : Str} : ∀ {m : List (Str × α)} {x : α}, findS k m = some x → (k, x) ∈ m
  | [], _, e => nsome e
  | (j, y) :: m, x, e => by
    refine iF (b := strEq k j = true) e (fun q e => ?_) fun _ e => .tail _ (findS_mem e)
    rw [(strEq_iff _ _).mp q, Option.some.inj e]; exact .head _
theorem PD.findS {P : PyData → Value → Prop} {k : Str} {m : List (Str × PyData)} {kvs : List (Str × Value)} (r : PD P m kvs) (x : PyData) (e : findS k m = some x) : ∃ v, valueAt kvs k = some v ∧ P x v := by
  induction r with
  | nil => exact nsome e
  | @cons j y v m kvs a b ih =>
    refine iF (b := strEq k j = true) e (fun q e => ?_) fun q e => ?_
    · rw [valueAt_hit ((strEq_iff _ _).mp q).symm]; exact ⟨v, rfl, Option.some.inj e ▸ a⟩
    · rw [valueAt_miss fun z => q ((strEq_iff _ _).mpr z.symm)]; exact ih e
theorem str_is (k : Str) (t : Tok) : (PySem.strKind G.prog G.w).is k (.str k t) = true := by simp [PySem.strKind, Value.isStrOf]

theorem sub_dict {value slice : PySem.Expr} (hs : notSlice slice = true) {k : Int} {t : Tok} {d : Addr} {o : Obj} {kvs : List (Int × Value)} {u : Value} {E Q : Value → Shared → Prop} (ho : s.heap.get? d = some o) (hd : o.IsDictOf (intKind G.prog G.w) kvs) (hu : valueAt kvs k = some u)
    (q : Q u { s with toks := s.toks + 1 }) : wpAny (model G.prog G.w) c.A (subscriptTail value slice (.ref d) (.int k t)) Q E s :=
  have hm : s.heap.DictOf (intKind G.prog G.w) d kvs := Heap.dictOf_iff.mpr ⟨o, ho, hd⟩
  tail_any hm.typeIs slot_dict_getitem.lookup (wpAny_getItem_of (int_is _ _) hm.mapOf hu q) (sub_plain hs _ _)
theorem sub_ok (O : Ok G c) (S : Sim G c g h s.heap) (rx : VV G c g x a) (ry : VV G c g y b) (e : subV h x y = some v) {value slice : PySem.Expr} (hs : notSlice slice = true) :
    Ev G c (subscriptTail value slice a b) g s h (fun g' u => VV G c g' v u) := fun E Q k => by
  have kd : ∀ {z u}, v = .d z → RD (kn c g) z u → Q u s := fun {z u} e r => k _ _ g S (.refl _) (.refl _) (e ▸ .d r)
  have kt : ∀ {z u}, v = .d z → RD (kn c g) z u → Q u { s with toks := s.toks + 1 } := fun {z u} e r => k _ _ g S (.refl _) ⟨rfl, rfl⟩ (e ▸ .d r)
  have lst : ∀ {l : Addr} {vs : List Value} {xs : List PyData} {kk : Int} {t : Tok}, s.heap.IsList l vs.toArray → RDs (kn c g) xs vs → optD (atL kk xs) = some v → wpAny (model G.prog G.w) c.A (subscriptTail value slice (.ref l) (.int kk t)) Q E s :=
    fun h1 h2 e => optD_on e fun z hz e => tail_any h1.typeIs slot_list_getitem.lookup (getList_ok h1 h2 hz fun u r => kd e r) (sub_plain hs _ _)
  have dct : ∀ {d : Addr} {o : Obj} {kvs : List (Int × Value)} {m : List (Int × PyData)} {kk : Int} {t : Tok}, s.heap.get? d = some o → o.IsDictOf (intKind G.prog G.w) kvs → PD (RD (kn c g)) m kvs → optD (findI kk m) = some v → wpAny (model G.prog G.w) c.A (subscriptTail value slice (.ref d) (.int kk t)) Q E s :=
    fun ho hd hp e => optD_on e fun z hz e => (hp.find.1 _ hz).elim fun u hu => sub_dict hs ho hd hu.1 (kt e hu.2)
  cases y
  case d dk =>
    cases dk
    case int kk =>
      refine ry.onD.on fun t => ?_
      cases x
      case d dx =>
        cases dx
        case tuple xs =>
          refine optD_on (o := atL kk xs) e fun z hz e => rd_tupleK O S rx rfl fun l vs h1 h2 => ?_
          exact tail_any h1.typeIs slot_tuple_getitem.lookup (getTup_ok h1 h2 hz fun u r => kd e r) (sub_plain hs _ _)
        case list xs => exact rd_listK O S rx rfl fun l vs h1 h2 => lst h1 h2 e
        case str x' =>
          refine rx.onD.on fun t' => ?_
          have e : subStr x' kk = some v := e
          cases kk with
          | negSucc _ => exact nsome e
          | ofNat i =>
            cases i with
            | succ _ => exact nsome e
            | zero =>
              obtain ⟨⟨l'⟩⟩ := x'
              cases l' with
              | nil => exact nsome e
              | cons cc l => exact tail_any (typeIs_str s _ _) F.slot_str_getitem.lookup (PySem.P.getItem_str (by decide) (c := cc) (by simp [seqIndex?, Str.length]) (kt (Option.some.inj e).symm (.str _ _))) (sub_plain hs _ _)
        all_goals exact nsome e
      case loc n =>
        have e : subO h[n]? kk = some v := e
        cases hn : h[n]? <;> rw [hn] at e
        case none => exact nsome e
        case some o =>
          cases o
          case list xs => exact rd_listK O S rx (rdL' hn) fun l vs h1 h2 => lst h1 h2 e
          case idict m => exact rd_idictK O S rx (rdD' hn) fun d o kvs _ ho hd hp => dct ho hd hp e
          case iidict m =>
            refine sS e (fun z hz e => ?_) fun _ e => nsome e
            refine rx.on fun d ha => ?_
            obtain ⟨bb, hb, rr⟩ := S.blockAt hn ha
            revert hb
            refine rr.on fun o kvs zz p q hb => ?_
            obtain ⟨u, hu, hr⟩ := q.find.1 _ hz
            exact sub_dict hs (S.here (S.inMu hb (.head _))) p hu (k _ _ g S (.refl _) ⟨rfl, rfl⟩ (Option.some.inj e ▸ hr.mono (fun _ _ q => q) (List.nil_prefix)))
          case attrs => exact nsome e
      case idict m => exact rd_idictK (h := h) O S rx rfl fun d o kvs _ ho hd hp => dct ho hd hp e
      all_goals exact nsome e
    case str kk =>
      refine ry.onD.on fun t => ?_
      cases x
      case sdict m =>
        refine optD_on (o := Mine.findS kk m) e fun z hz e => rx.on fun d o kvs k1 k2 k3 => ?_
        obtain ⟨u, hu, hr⟩ := k3.findS _ hz
        have hm : s.heap.DictOf (strKind G.prog G.w) _ _ := Heap.dictOf_iff.mpr ⟨_, S.known O _ _ k1, k2⟩
        exact tail_any hm.typeIs slot_dict_getitem.lookup (wpAny_getItem_of (str_is _ _) hm.mapOf hu (kt e hr)) (sub_plain hs _ _)
      all_goals exact nsome e
    all_goals exact nsome e
  all_goals exact nsome e
end
end Mine
end
section
open PySem PySem.W PyProof.Rows PySem.Calls PySem.SeqAt
set_option linter.unusedSectionVars false
namespace Mine
variable {G : Gl} {α β : Type} {c : Cx} {g : Gh} {s : Shared} {h h' h₁ h₂ : List O}

noncomputable def biVal : BI → Value
  | .len => .builtin "len"
  | .abs => .builtin "abs"
  | .int => .type "int"
  | .list => .type "list"
  | .tuple => .type "tuple"
  | .dict => .type "dict"
  | .sorted => .builtin "sorted"
  | .max => .builtin "max"

theorem insI_perm (k : Int) : ∀ l : List Int, (insI k l).Perm (k :: l)
  | [] => List.Perm.refl _
  | y :: l => by
    unfold insI
    cases decide (k ≤ y)
    · exact ((insI_perm k l).cons y).trans (List.Perm.swap _ _ _)
    · exact List.Perm.refl _
theorem sortI_perm : ∀ l : List Int, (sortI l).Perm l
  | [] => List.Perm.refl _
  | x :: r => (insI_perm x _).trans ((sortI_perm r).cons x)
theorem insI_asc (k : Int) : ∀ l : List Int, l.Pairwise (· ≤ ·) → (insI k l).Pairwise (· ≤ ·)
  | [], _ => List.pairwise_singleton _ _
  | y :: l, q => by
    have q' := List.pairwise_cons.mp q
    unfold insI
    by_cases hk : k ≤ y
    · rw [decide_eq_true hk, if_pos rfl]
      refine List.pairwise_cons.mpr ⟨fun z hz => ?_, q⟩
      exact (List.mem_cons.mp hz).elim (fun e => e ▸ hk) fun hz => Int.le_trans hk (q'.1 z hz)
    · rw [decide_eq_false hk, if_neg (by decide)]
      refine List.pairwise_cons.mpr ⟨fun z hz => ?_, insI_asc k l q'.2⟩
      exact (List.mem_cons.mp ((insI_perm k l).mem_iff.mp hz)).elim (fun e => e ▸ Int.le_of_lt (Int.not_le.mp hk)) (q'.1 z)
theorem sortI_asc : ∀ l : List Int, (sortI l).Pairwise (· ≤ ·)
  | [] => List.Pairwise.nil
  | x :: r => insI_asc x _ (sortI_asc r)
theorem lks_asc_of : ∀ l : List Int, l.Pairwise (· ≤ ·) → lks_asc l = true
  | [], _ => rfl
  | x :: r, q => by
    have q' := List.pairwise_cons.mp q
    unfold lks_asc
    rw [Bool.and_eq_true]
    refine ⟨?_, lks_asc_of r q'.2⟩
    rw [List.all_eq_true]
    intro z hz
    exact decide_eq_true (q'.1 z hz)
theorem RDs.vals {kn : Addr → Obj → Prop} {t : Nat → Tok} : ∀ (l : List Int) (i : Nat), RDs kn (l.map .int) (lks_vals l i t)
  | [], _ => .nil
  | x :: r, i => .cons (.int _ _) (RDs.vals r (i + 1))
theorem PDD.keys {kn : Addr → Obj → Prop} {m kvs} (r : PDD (prog := G.prog) (w := G.w) kn m kvs) : kvs.map (·.1) = m.map (·.1) := by
  induction r with
  | nil => rfl
  | cons _ _ ih => exact congrArg (List.cons _) ih
theorem PD.keys {K : Type} {P : PyData → Value → Prop} {m : List (K × PyData)} {kvs : List (K × Value)} (r : PD P m kvs) : kvs.map (·.1) = m.map (·.1) := by
  induction r with
  | nil => rfl
  | cons _ _ ih => exact congrArg (List.cons _) ih
theorem kf_of : ∀ {vs : List Value} {ns : List Int}, vs.length = ns.length → (∀ (j : Nat) (v : Value), vs[j]? = some v → ∃ k, ns[j]? = some k ∧ Value.isInt k v = true) → kf_ints vs = true ∧ lks_nums vs = ns
  | [], [], _, _ => ⟨rfl, rfl⟩
  | [], _ :: _, e, _ => absurd e (Nat.ne_of_lt (Nat.succ_pos _))
  | _ :: _, [], e, _ => absurd e (Nat.ne_of_gt (Nat.succ_pos _))
  | v :: vs, n :: ns, e, q => by
    obtain ⟨k, h1, h2⟩ := q 0 v rfl
    obtain rfl := Option.some.inj h1
    obtain ⟨t, rfl⟩ := Value.isInt_shape h2
    have ih := kf_of (vs := vs) (ns := ns) (Nat.succ.inj e) fun j v hv => q (j + 1) v hv
    exact ⟨ih.1, congrArg (List.cons n) ih.2⟩

theorem lo_new (O : Ok G c) (S : Sim G c g h s.heap) : (s.heap.objs.size == sysModules) = false := Fr.notModules S.fr (modules_low O.T.nolimit)

theorem vvs_one {v : V} {us : List Value} (r : VVs G c g [v] us) : ∃ u, us = [u] ∧ VV G c g v u := r.on fun u us a b => b.on ⟨u, rfl, a⟩
theorem vv_int {i : Int} {u : Value} (r : VV G c g (.d (.int i)) u) : ∃ t, u = .int i t := r.onD.on fun t => ⟨t, rfl⟩
theorem vv_bool {b : Bool} {u : Value} (r : VV G c g (.d (.bool b)) u) : u = .bool b := r.onD.on rfl
section
variable {v : V} {u : Value} (O : Ok G c) (hu : c.A.units + 200 < cLine) (S : Sim G c g h s.heap)
include O hu S
theorem cb_len (r0 : VV G c g v u) {v' : V} (e : callB h false .len [v] = some (v', h')) : Ev G c (call (.builtin "len") [u]) g s h' (fun g' u => VV G c g' v' u) := by
  refine fun E Q k => ?_
  have kint : ∀ (i : Int) (t : Tok) tk, bI i = v' → h = h' → Q (.int i t) { s with toks := tk } := fun i t tk e e' => by subst e; subst e'; exact k _ _ g S (.refl _) ⟨rfl, rfl⟩ (.d (.int _ _))
  refine wP e (fun xs hx e => iF e (fun hs e => inj2 e fun a1 a2 => ?_) fun _ e => nsome e) (fun xs hx e => iF e (fun hs e => inj2 e fun a1 a2 => ?_) fun _ e => nsome e) (fun m hx e => iF e (fun hs e => inj2 e fun a1 a2 => ?_) fun _ e => nsome e) fun e => nsome e
  · obtain ⟨a, ws, rfl, h1, h2⟩ := rd_list O S r0 hx
    have l1 := short_le hs
    have e1 : (ws.toArray.size : Int) = xs.length := by rw [List.size_toArray, h2.length]
    exact call_len_list h1 (by rw [e1]; omega) (by rw [e1]; exact kint _ _ _ a1.symm a2.symm)
  · obtain ⟨a, ws, rfl, h1, h2⟩ := rd_tuple O S r0 hx
    have l1 := short_le hs
    have e1 : (ws.toArray.size : Int) = xs.length := by rw [List.size_toArray, h2.length]
    exact PyProof.Rows.len_tuple h1 (by rw [e1]; omega) (by rw [e1]; exact kint _ _ _ a1.symm a2.symm)
  · obtain ⟨a, o, kvs, rfl, z, ho, hd, hp⟩ := rd_idict O S r0 hx
    have l1 := short_le hs
    have e1 : (kvs.length : Int) = m.length := by rw [hp.length]
    exact call_len_dict z (Heap.dictOf_iff.mpr ⟨o, ho, hd⟩) (by rw [e1]; omega) (by rw [e1]; exact kint _ _ _ a1.symm a2.symm)
theorem cb_list (r0 : VV G c g v u) {v' : V} (e : callB h false .list [v] = some (v', h')) : Ev G c (call (.type "list") [u]) g s h' (fun g' u => VV G c g' v' u) := by
  refine fun E Q k => wM e (fun xs hx e => iF e (fun hs e => inj2 e fun a1 a2 => ?_) fun _ e => nsome e) (fun xs hx e => iF e (fun hs e => inj2 e fun a1 a2 => ?_) fun _ e => nsome e) fun e => nsome e
  · subst a1 a2
    obtain ⟨a, ws, rfl, h1, h2⟩ := rd_list O S r0 hx
    have l1 := short_le hs
    exact list_copyK S.fr S.news h1 (fun D n H F' N' hD => freeze_list (E := E) S F' N' hD h2 k rfl ⟨rfl, rfl⟩) (by rw [sizeLine_eq, List.size_toArray, h2.length]; omega)
  · subst a1 a2
    obtain ⟨a, ws, rfl, h1, h2⟩ := rd_tuple O S r0 hx
    have l1 := short_le hs
    exact list_copyKT S.fr S.news h1 (fun D n H F' N' hD => freeze_list (E := E) S F' N' hD h2 k rfl ⟨rfl, rfl⟩) (by rw [sizeLine_eq, List.size_toArray, h2.length]; omega)
theorem cb_tuple (r0 : VV G c g v u) {v' : V} (e : callB h false .tuple [v] = some (v', h')) : Ev G c (call (.type "tuple") [u]) g s h' (fun g' u => VV G c g' v' u) := by
  refine fun E Q k => wM e (fun xs hx e => iF e (fun hs e => inj2 e fun a1 a2 => ?_) fun _ e => nsome e) (fun xs hx e => iF e (fun hs e => inj2 e fun a1 a2 => ?_) fun _ e => nsome e) fun e => nsome e
  · subst a1 a2
    obtain ⟨a, ws, rfl, h1, h2⟩ := rd_list O S r0 hx
    have l1 := short_le hs
    refine call_tuple_list h1 (fun H hk => ?_) (by rw [sizeLine_eq, List.size_toArray, h2.length]; omega)
    have F1 := S.fr.keeps hk
    have N1 : News c.h₀ c.L H (ledOf c g) := fun p hp => ⟨hk _ _ (S.news p hp).1, (S.news p hp).2⟩
    have S1 : Sim G c g h' ({ s with heap := H } : Shared).heap := ⟨F1, N1, S.nd, S.la, S.lm, S.objs⟩
    exact freeze_tuple (E := E) (s := { s with heap := H }) S1 (F1.push _) (N1.push F1 _) S1.lt h2 (fun v s' g' a b c d => k v s' g' a b ⟨c.os, c.gens⟩ d) rfl ⟨rfl, rfl⟩
  · subst a1 a2
    obtain ⟨a, ws, rfl, h1, h2⟩ := rd_tuple O S r0 hx
    exact call_tuple_tup h1 (k _ _ g S (.refl _) (.refl _) (.d (rd_d r0 (rd_tuple' hx))))
theorem cb_dict {mu : Bool} (r0 : VV G c g v u) {v' : V} (e : callB h mu .dict [v] = some (v', h')) : Ev G c (call (.type "dict") [u]) g s h' (fun g' u => VV G c g' v' u) := by
  refine fun E Q k => wN e (fun m hx e => iF e (fun hs e => ?_) fun _ e => nsome e) fun e => nsome e
  obtain ⟨a, o, kvs, rfl, z, ho, hd, hp⟩ := rd_idict O S r0 hx
  have l1 := short_le hs
  refine kt_call_dict z (Heap.dictOf_iff.mpr ⟨o, ho, hd⟩) (by rw [sizeLine_eq, hp.length]; omega) fun H hm hs => ?_
  obtain ⟨o', ho', hd'⟩ := Heap.dictOf_iff.mp hm
  have N1 := S.news.push S.fr { cls := .type "dict", data := .dict #[] }
  have F' := (S.fr.push _).change hs (N1 _ (.head _)).2.1 (N1.fresh (.head _))
  have ap : ∀ p ∈ ledOf c g, p.1 ≠ s.heap.objs.size := fun p hp => Nat.ne_of_lt (S.lt p hp)
  have N' : News c.h₀ c.L H ((s.heap.objs.size, o') :: ledOf c g) := N1.setHead ap hs ho'
  cases mu with
  | true =>
    refine inj2 e fun a1 a2 => ?_
    subst a1 a2
    exact k _ _ _ (S.push1 (D := s.heap.objs.size) F' N' S.lt (.idict (lo_new O S) hd' hp)) (Gh.le_push _ _ _) ⟨rfl, rfl⟩ (.loc (by rw [← S.la]; exact List.getElem?_concat_length))
  | false =>
    refine inj2 e fun a1 a2 => ?_
    subst a1 a2
    exact k _ _ _ (S.freeze F' N' S.lt) (Gh.le_freeze _ _) ⟨rfl, rfl⟩ (.idict (.inr (.head _)) (lo_new O S) hd' (hp.mono fun _ _ q => q.mono (Kn.mono fun _ q => .tail _ q)))
theorem cb_max {i j : Int} {t t' : Tok} {v' : V} (e : callB h false .max [.d (.int i), .d (.int j)] = some (v', h')) : Ev G c (call (.builtin "max") [.int i t, .int j t']) g s h' (fun g' u => VV G c g' v' u) := by
  refine fun E Q k => inj2 e fun a1 a2 => ?_
  subst a1 a2
  refine max_two_ints O.hh fun H tk hk => ?_
  have S1 : Sim G c g h' H := ⟨S.fr.keeps hk, fun p hp => ⟨hk _ _ (S.news p hp).1, (S.news p hp).2⟩, S.nd, S.la, S.lm, S.objs⟩
  have kk : ∀ t, Q (.int (if decide (j > i) = true then j else i) t) { s with heap := H, toks := tk } := fun t => k _ _ g S1 (.refl _) ⟨rfl, rfl⟩ (.d (.int _ _))
  by_cases hc : j > i
  · have := kk t'; rw [if_pos (decide_eq_true hc)] at this; rw [if_pos hc]; exact this
  · have := kk t; rw [if_neg fun q => hc (of_decide_eq_true q)] at this; rw [if_neg hc]; exact this
theorem cb_sorted {n : Nat} (r0 : VV G c g (.loc n) u) {v' : V} (e : callB h false .sorted [.loc n] = some (v', h')) : Ev G c (call (.builtin "sorted") [u]) g s h' (fun g' u => VV G c g' v' u) := by
  refine fun E Q k => wO e (fun m hn e => iF e (fun hs e => inj2 e fun a1 a2 => ?_) fun _ e => nsome e) fun e => nsome e
  subst a1 a2
  have hs' := Bool.and_eq_true_iff.mp hs
  have l1 : m.length < 64 := Nat.blt_eq ▸ hs'.1
  have l2 : 0 < m.length := Nat.blt_eq ▸ hs'.2
  refine r0.on fun a ha => ?_
  obtain ⟨bb, hb, rr⟩ := S.blockAt hn ha
  revert hb
  refine rr.on fun o kvs z p q hb => ?_
  have hk := q.keys
  have hl : kvs.length = m.length := by rw [← List.length_map (f := (·.1)) (as := kvs), hk, List.length_map]
  have hm : s.heap.DictOf (intKind G.prog G.w) a kvs := Heap.dictOf_iff.mpr ⟨o, S.here (S.inMu hb (.head _)), p⟩
  obtain ⟨ep, hat⟩ := hm.dictAt
  refine kdu_sorted (kdl_dict (knd := intKind G.prog G.w) (kvs := kvs) (ep := ep) z) O.hh S.fr S.news hat (by rw [sizeLine_eq]; omega) fun D H tk ws F' N' hD hlen hv => ?_
  have hw : ws.length = m.length := hlen.trans hl
  obtain ⟨h1, h2⟩ := kf_of (vs := ws) (ns := m.map (·.1)) (by rw [List.length_map]; exact hw) fun j u hu => by
    obtain ⟨kk, xx, e1, e2⟩ := hv j u hu
    refine ⟨kk, ?_, e2⟩
    rw [← hk, List.getElem?_map, e1]; rfl
  refine lks_sort (q := sortI (m.map (·.1))) (its := ws.toArray) (n := 0) (news' := fun t => (D, PySem.W.listOf (lks_vals (sortI (m.map (·.1))) 0 t).toArray 2) :: ledOf c g) F' N' (fun t => .head fun p hp => Nat.ne_of_lt (hD p hp)) h1 ?_ ?_ (Nat.lt_of_le_of_lt (Nat.le_of_eq hw) l1) fun t H' F'' N'' => ?_
  · unfold lks_ok
    rw [h2, Bool.and_eq_true]
    exact ⟨List.isPerm_iff.mpr (sortI_perm _).symm, lks_asc_of _ (sortI_asc _)⟩
  · cases ws with
    | nil => exact absurd hw (Nat.ne_of_lt l2)
    | cons _ _ => rfl
  · exact freeze_list (E := E) (s := s) S F'' N'' hD (RDs.vals _ _) k rfl ⟨rfl, rfl⟩
end
theorem cb_abs (O : Ok G c) (S : Sim G c g h s.heap) {v : V} {u : Value} (r0 : VV G c g v u) {v' : V} (e : callB h false .abs [v] = some (v', h')) : Ev G c (call (.builtin "abs") [u]) g s h' (fun g' u => VV G c g' v' u) :=
  fun E Q k => wQ e (fun i hi e => inj2 e fun a1 a2 => by
    subst hi a1 a2
    obtain ⟨t, rfl⟩ := vv_int r0
    refine PyProof.Rows.call_abs_int fun u tk => ?_
    by_cases hi : i < 0
    · rw [if_pos (decide_eq_true hi)] at k; rw [if_pos hi]; exact k _ _ g S (.refl _) ⟨rfl, rfl⟩ (.d (.int _ _))
    · rw [if_neg fun q => hi (of_decide_eq_true q)] at k; rw [if_neg hi]; exact k _ _ g S (.refl _) ⟨rfl, rfl⟩ (.d (.int _ _))) fun e => nsome e
theorem cb_int (O : Ok G c) (S : Sim G c g h s.heap) {v : V} {u : Value} (r0 : VV G c g v u) {v' : V} (e : callB h false .int [v] = some (v', h')) : Ev G c (call (.type "int") [u]) g s h' (fun g' u => VV G c g' v' u) :=
  fun E Q k => wR e (fun i hi e => inj2 e fun a1 a2 => by
    subst hi a1 a2
    obtain ⟨t, rfl⟩ := vv_int r0
    exact call_int_int (k _ _ g S (.refl _) ⟨rfl, rfl⟩ (.d (.int _ _)))) (fun q hq e => inj2 e fun a1 a2 => by
    subst hq a1 a2
    rw [vv_bool r0]
    exact call_int_bool (k _ _ g S (.refl _) ⟨rfl, rfl⟩ (.d (.int _ _)))) fun e => nsome e
theorem callB_ok (O : Ok G c) (hu : c.A.units + 200 < cLine) {mu : Bool} {b : BI} {vs : List V} {us : List Value} {v : V} (S : Sim G c g h s.heap) (r : VVs G c g vs us) (e : callB h mu b vs = some (v, h')) :
    Ev G c (call (biVal b) us) g s h' (fun g' u => VV G c g' v u) := by
  match vs, r, e with
  | [], _, e => exact nsome e
  | [x], r, e =>
    obtain ⟨u, rfl, r0⟩ := vvs_one r
    cases b with
    | len => exact cb_len O hu S r0 e
    | list => exact cb_list O hu S r0 e
    | tuple => exact cb_tuple O hu S r0 e
    | dict => exact cb_dict O hu S r0 e
    | abs => exact cb_abs O S r0 e
    | int => exact cb_int O S r0 e
    | max => exact nsome e
    | sorted => exact wK (γ := Option (V × List Mine.O)) (f := fun n => (match h[n]? with
        | some (.iidict m) => if Nat.blt m.length 64 && Nat.blt 0 m.length then some (.d (.list ((sortI (m.map (·.1))).map .int)), h) else none
        | _ => none)) e (fun n hn e => by subst hn; exact cb_sorted O hu S r0 e) fun e => nsome e
  | [x, y], r, e =>
    cases b
    case max =>
      refine r.on fun u us r0 rn => rn.on fun u' us' r1 rn => rn.on ?_
      exact wI (f := fun a b => some (bI (if decide (b > a) then b else a), h)) e (fun i j hi hj e' => by
          subst hi hj
          exact r0.onD.on fun t => r1.onD.on fun t' => cb_max O hu S e) fun e => nsome e
    all_goals exact nsome e
  | _ :: _ :: _ :: _, _, e => exact nsome e
end Mine
end
section
open PySem PySem.W PyProof.Rows PySem.Calls PySem.SeqAt
namespace Mine
variable {G : Gl} {α β : Type} {c : Cx} {g : Gh} {s : Shared} {h h' h₁ h₂ : List O}

/-! dicts put and dropped -/
theorem stored_hit {K : Type} [DecidableEq K] {j : K} {u : Value} {r : List (K × Value)} {k : K} {v : Value} (nd : (((j, u) :: r).map (·.1)).Nodup) (e : j = k) : stored ((j, u) :: r) k v = (k, v) :: r := by
  have nd : j ∉ r.map (·.1) ∧ _ := List.nodup_cons.mp nd
  subst e
  unfold stored
  rw [List.any_cons, decide_eq_true rfl, Bool.true_or, if_pos rfl, List.map_cons, if_pos rfl, map_store_of_not_mem _ _ _ nd.1]
theorem stored_miss {K : Type} [DecidableEq K] {j : K} {u : Value} {r : List (K × Value)} {k : K} {v : Value} (e : j ≠ k) : stored ((j, u) :: r) k v = (j, u) :: stored r k v := by
  unfold stored
  rw [List.any_cons, decide_eq_false e, Bool.false_or]
  cases r.any fun kv => decide (kv.1 = k)
  · rfl
  · rw [if_pos rfl, if_pos rfl, List.map_cons, if_neg e]
theorem stored_cons {K : Type} [DecidableEq K] {kv : K × Value} {r : List (K × Value)} {k : K} {v : Value} (nd : ((kv :: r).map (·.1)).Nodup) : stored (kv :: r) k v = if kv.1 = k then (k, v) :: r else kv :: stored r k v := by
  by_cases e : kv.1 = k
  · rw [if_pos e]; exact stored_hit nd e
  · rw [if_neg e]; exact stored_miss e
theorem putI_hit {α : Type} {k j : Int} {x y : α} {m : List (Int × α)} (e : k = j) : putI k x ((j, y) :: m) = (j, x) :: m := if_pos ((intEq_iff _ _).mpr e)
theorem putI_miss {α : Type} {k j : Int} {x y : α} {m : List (Int × α)} (e : k ≠ j) : putI k x ((j, y) :: m) = (j, y) :: putI k x m := if_neg (by rw [intEq_ne e]; decide)
theorem dropI_hit {α : Type} {k j : Int} {y : α} {m : List (Int × α)} (e : k = j) : dropI k ((j, y) :: m) = m := if_pos ((intEq_iff _ _).mpr e)
theorem dropI_miss {α : Type} {k j : Int} {y : α} {m : List (Int × α)} (e : k ≠ j) : dropI k ((j, y) :: m) = (j, y) :: dropI k m := if_neg (by rw [intEq_ne e]; decide)
theorem PD.put {P : PyData → Value → Prop} {k : Int} {x : PyData} {v : Value} (q : P x v) {m : List (Int × PyData)} {kvs : List (Int × Value)} (r : PD P m kvs) : (kvs.map (·.1)).Nodup → PD P (putI k x m) (stored kvs k v) := by
  induction r with
  | nil => exact fun _ => .cons q .nil
  | @cons j y u m kvs a b ih =>
    intro nd
    by_cases e : k = j
    · rw [stored_hit nd e.symm, putI_hit e, e]; exact .cons q b
    · rw [stored_miss (Ne.symm e), putI_miss e]; exact .cons a (ih (List.nodup_cons.mp nd).2)
theorem PDD.put {kn : Addr → Obj → Prop} {k : Int} {x : List (Int × PyData)} {v : Value} (q : VR G.prog G.w kn [] (.idict x) v) {m kvs} (r : PDD (prog := G.prog) (w := G.w) kn m kvs) : (kvs.map (·.1)).Nodup → PDD (prog := G.prog) (w := G.w) kn (putI k x m) (stored kvs k v) := by
  induction r with
  | nil => exact fun _ => .cons q .nil
  | @cons j y u m kvs a b ih =>
    intro nd
    by_cases e : k = j
    · rw [stored_hit nd e.symm, putI_hit e, e]; exact .cons q b
    · rw [stored_miss (Ne.symm e), putI_miss e]; exact .cons a (ih (List.nodup_cons.mp nd).2)
theorem PD.drop {P : PyData → Value → Prop} {k : Int} {m : List (Int × PyData)} {kvs : List (Int × Value)} (r : PD P m kvs) : (kvs.map (·.1)).Nodup → PD P (dropI k m) (without kvs k) := by
  induction r with
  | nil => exact fun _ => .nil
  | @cons j y u m kvs a b ih =>
    intro nd
    have nd : j ∉ kvs.map (·.1) ∧ _ := List.nodup_cons.mp nd
    by_cases e : k = j
    · subst e
      have : without ((k, u) :: kvs) k = kvs := by
        unfold without
        rw [List.filter_cons_of_neg (p := fun kv : Int × Value => decide (kv.1 ≠ k)) (fun z => of_decide_eq_true z rfl)]
        exact without_of_not_mem kvs _ nd.1
      rw [this, dropI_hit rfl]; exact b
    · have : without ((j, u) :: kvs) k = (j, u) :: without kvs k := by
        unfold without
        exact List.filter_cons_of_pos (p := fun kv : Int × Value => decide (kv.1 ≠ k)) (decide_eq_true (Ne.symm e))
      rw [this, dropI_miss e]
      exact .cons a (ih nd.2)
theorem dict_nodup {o : Obj} {kvs : List (Int × Value)} (hd : o.IsDictOf (intKind G.prog G.w) kvs) : (kvs.map (·.1)).Nodup := hd.elim fun _ h => h.elim fun _ h => h.2.2.2.2
theorem putI_len {α : Type} {k : Int} {x : α} : ∀ {m : List (Int × α)}, (putI k x m).length ≤ m.length + 1
  | [] => Nat.le_refl _
  | (j, y) :: m => by
    unfold putI
    cases intEq k j
    · exact Nat.succ_le_succ putI_len
    · exact Nat.le_succ _

theorem rep_single (d : Addr) (o o' : Obj) : rep d o' [(d, o)] = [(d, o')] := congrArg (· :: []) (if_pos rfl)

theorem pop_last {α : Type} {l r : List α} {x : α} (e : l.reverse = x :: r) : l = l.dropLast ++ [x] := by
  have h1 : l = (x :: r).reverse := by rw [← e, List.reverse_reverse]
  rw [List.reverse_cons] at h1
  rw [h1, List.dropLast_concat]
theorem RDs.split {kn : Addr → Obj → Prop} {x : PyData} : ∀ {xs : List PyData} {vs : List Value}, RDs kn (xs ++ [x]) vs → ∃ us u, vs = us ++ [u] ∧ RDs kn xs us ∧ RD kn x u
  | [], _, r => r.on fun v _ a b => b.on ⟨[], v, rfl, .nil, a⟩
  | y :: xs, _, r => r.on fun v vs a b => (RDs.split b).elim fun us h => h.elim fun u h => ⟨v :: us, u, congrArg (v :: ·) h.1, .cons a h.2.1, h.2.2⟩

/-- the id of a method -/
noncomputable def mbName : MB → Str
  | .get => "get"
  | .pop => "pop"
  | .append => "append"
noncomputable def mbId (m : MB) (b : Bool) : Option String := match b with
  | true => (match m with | .get => some "dict.get" | .pop => some "dict.pop" | .append => none)
  | false => (match m with | .get => none | .pop => some "list.pop" | .append => some "list.append")

theorem mkind_on {P : Prop} {x : V} {kd : Bool} (e : mkind h x = some kd) (k0 : ∀ n l, x = .loc n → h[n]? = some (.list l) → kd = false → P) (k1 : ∀ n l, x = .loc n → h[n]? = some (.idict l) → kd = true → P) : P := by
  cases x
  case loc n =>
    have e : (match h[n]? with | some (.list _) => some false | some (.idict _) => some true | _ => none) = some kd := e
    cases q : h[n]? with
    | none => rw [q] at e; exact nsome e
    | some o =>
      rw [q] at e
      cases o
      case list l => exact k0 n l rfl q (Option.some.inj e).symm
      case idict l => exact k1 n l rfl q (Option.some.inj e).symm
      all_goals exact nsome e
  all_goals exact nsome e
theorem getMethod_ok {m : MB} {x : V} {u : Value} {kd : Bool} {id : String} {pl : Sem Bool} (O : Ok G c) (S : Sim G c g h s.heap) (r : VV G c g x u) (e : mkind h x = some kd) (hid : mbId m kd = some id) :
    Ev G c (getMethod u (mbName m) pl) g s h (fun g' p => p = (.builtin id, [u]) ∧ g' = g) := fun E Q k => mkind_on e (fun n l e1 hn e2 => by
    subst e1 e2
    revert k
    refine loc_on S r hn fun a ha ws n' q hb k => ?_
    have ho := S.here (S.inMu hb (.head _))
    have hd : ∀ a', Value.ref a = .ref a' → ∃ o, s.heap.get? a' = some o ∧ o.dict = none := fun a' e => Value.ref.inj e ▸ ⟨_, ho, rfl⟩
    cases m with
    | get => exact nsome hid
    | pop => exact getMethod_builtin ⟨_, ho, rfl⟩ PySem.F.plainAttrs_list PySem.F.slot_list_pop PySem.F.type_list_pop hd (k _ _ g S (.refl _) (.refl _) ⟨Option.some.inj hid ▸ rfl, rfl⟩)
    | append => exact getMethod_builtin ⟨_, ho, rfl⟩ PySem.F.plainAttrs_list PySem.F.slot_list_append PySem.F.type_list_append hd (k _ _ g S (.refl _) (.refl _) ⟨Option.some.inj hid ▸ rfl, rfl⟩)) fun n l e1 hn e2 => by
    subst e1 e2
    revert k
    refine loc_on S r hn fun a ha o kvs z p q hb k => ?_
    have hm : s.heap.DictOf (intKind G.prog G.w) a kvs := Heap.dictOf_iff.mpr ⟨o, S.here (S.inMu hb (.head _)), p⟩
    cases m with
    | append => exact nsome hid
    | pop => exact getMethod_builtin hm.typeIs PySem.F.plainAttrs_dict PySem.F.slot_dict_pop PySem.F.type_dict_pop hm.mapOf.noDict (k _ _ g S (.refl _) (.refl _) ⟨Option.some.inj hid ▸ rfl, rfl⟩)
    | get => exact getMethod_builtin hm.typeIs PySem.F.plainAttrs_dict PySem.F.slot_dict_get PySem.F.type_dict_get hm.mapOf.noDict (k _ _ g S (.refl _) (.refl _) ⟨Option.some.inj hid ▸ rfl, rfl⟩)

theorem kl_last_of (y : Value) : ∀ p : List Value, kl_last (p ++ [y]) = some (p, y) := kpa_last y

theorem dropI_none {α : Type} {k : Int} : ∀ {l : List (Int × α)}, findI k l = none → dropI k l = l
  | [], _ => rfl
  | (j, y) :: l, e => by
    by_cases q : k = j
    · rw [findI_hit q] at e; exact snone e
    · rw [findI_miss q] at e; rw [dropI_miss q, dropI_none e]
theorem set_same' {n : Nat} {o : O} (e : h[n]? = some o) : h.set n o = h := by
  obtain ⟨hi, e⟩ := List.getElem?_eq_some_iff.mp e
  rw [← e]; exact List.set_getElem_self hi
theorem aside (a : Addr) (l : Led) : ∀ p ∈ l.filter (fun p => p.1 ≠ a), p.1 ≠ a := fun _ hp => of_decide_eq_true (List.mem_filter.mp hp).2
section
variable {us : List Value} {v : V} {l : List (Int × PyData)} {xs : List PyData} {n : Nat} {vs : List V} {a : Addr}
theorem get_ok (S : Sim G c g h s.heap) (rs : VVs G c g vs us) (e : getM h l vs = some (v, h')) {o : Obj} {kvs : List (Int × Value)} (z : (a == sysModules) = false) (p : o.IsDictOf (intKind G.prog G.w) kvs) (q : PD (RD (kn c g)) l kvs) (hb : g.mu[n]? = some [(a, o)]) :
    Ev G c (call (.builtin "dict.get") ([.ref a] ++ us)) g s h' (fun g' u => VV G c g' v u) := fun E Q k => by
  cases vs with
  | nil => exact nsome e
  | cons x vs =>
    cases vs with
    | cons _ _ => exact nsome e
    | nil =>
      cases x
      case d d =>
        cases d
        case int kk =>
          refine inj2 e fun a1 a2 => ?_
          subst a1 a2
          refine rs.on fun u us r0 rn => rn.on (r0.onD.on fun t => ?_)
          refine kdg_get1 S.news (S.inMu hb (.head _)) p z (int_is _ _) _ rfl (k _ _ g S (.refl _) ⟨rfl, rfl⟩ ?_)
          have f := q.find (k := kk)
          cases hf : findI kk l with
          | none => rw [f.2 hf]; exact .d .none
          | some z => obtain ⟨w, h1, h2⟩ := f.1 _ hf; rw [h1]; exact .d h2
        all_goals exact nsome e
      all_goals exact nsome e
theorem pop_ok (S : Sim G c g h s.heap) (rs : VVs G c g vs us) (e : popM h n l vs = some (v, h')) {o : Obj} {kvs : List (Int × Value)} (hn : h[n]? = some (.idict l)) (ha : g.as[n]? = some a) (z : (a == sysModules) = false) (p : o.IsDictOf (intKind G.prog G.w) kvs) (q : PD (RD (kn c g)) l kvs) (hb : g.mu[n]? = some [(a, o)]) :
    Ev G c (call (.builtin "dict.pop") ([.ref a] ++ us)) g s h' (fun g' u => VV G c g' v u) := fun E Q k => by
  cases vs with
  | nil => exact nsome e
  | cons x vs =>
  cases vs with
  | nil => exact nsome e
  | cons y vs =>
  cases vs with
  | cons _ _ => exact nsome e
  | nil =>
    cases x
    case d d =>
      cases d
      case int kk =>
        refine iFn (b := (isNoneV y && short l) = true) e fun hs e5 => ?_
        obtain ⟨hy, hs⟩ := Bool.and_eq_true_iff.mp hs
        have hy' : y = .d .none := by
          cases y
          case d d => cases d; rfl; all_goals exact ftrue hy
          all_goals exact ftrue hy
        subst hy'
        obtain rfl := congrArg Prod.fst e5
        obtain rfl := congrArg Prod.snd e5
        clear e e5
        refine rs.on fun u us r0 rn => rn.on fun u' us r1 rn => rn.on (r0.onD.on fun t => r1.onD.on ?_)
        have hmem := S.inMu hb (List.Mem.head _)
        have hm : s.heap.DictOf (intKind G.prog G.w) a kvs := Heap.dictOf_iff.mpr ⟨o, S.here hmem, p⟩
        have f := q.find (k := kk)
        cases hf : findI kk l with
        | none =>
          rw [hf, dropI_none hf, set_same' hn] at k
          exact call_meetsIn PySem.F.slot_dict_pop hm.typeIs PySem.F.entry_dict_pop (PySem.F.args_dict_pop_3 _ _ _) (meets_dict_pop_default (intKind G.prog G.w) a (int_is kk t) z rfl .none) ⟨kvs, hm, f.2 hf, k _ _ g S (.refl _) ⟨rfl, rfl⟩ (.d .none)⟩
        | some zz =>
          rw [hf] at k
          obtain ⟨w, h1, h2⟩ := f.1 _ hf
          have hlen : kvs.length ≤ sizeLine := by
            rw [sizeLine_eq, q.length]; exact Nat.le_trans (short_le hs) (by decide)
          refine call_meetsIn PySem.F.slot_dict_pop hm.typeIs PySem.F.entry_dict_pop (PySem.F.args_dict_pop_3 _ _ _) (meets_dict_pop_there (intKind G.prog G.w) a (int_is kk t) [.none] (.inr ⟨_, rfl⟩) rfl) ⟨kvs, w, hm, hlen, h1, fun H hm' hs => ?_⟩
          obtain ⟨o', ho', hd'⟩ := Heap.dictOf_iff.mp hm'
          have N0 := S.news _ hmem
          have N' := (News.ahead S.news hmem).setHead (aside _ _) hs ho'
          exact k _ _ _ (S.update hb (.head _) hn ha (S.fr.change hs N0.2.1 N0.2.2) N' (by rw [rep_single]; exact .idict z hd' (q.drop (dict_nodup p)))) (Gh.le_set _ _ _) ⟨rfl, rfl⟩ (.d h2)
      all_goals exact nsome e
    all_goals exact nsome e
theorem popL_ok (S : Sim G c g h s.heap) (rs : VVs G c g vs us) (e : popL h n xs vs = some (v, h')) (hn : h[n]? = some (.list xs)) (ha : g.as[n]? = some a) {ws : List Value} {n' : Nat} (q : RDs (kn c g) xs ws) (hb : g.mu[n]? = some [(a, listOf ws.toArray n')]) :
    Ev G c (call (.builtin "list.pop") ([.ref a] ++ us)) g s h' (fun g' u => VV G c g' v u) := fun E Q k => by
  cases vs with
  | cons _ _ => exact nsome e
  | nil =>
    have e : (match xs.reverse with | [] => none | x :: _ => if short xs then some (V.d x, h.set n (.list xs.dropLast)) else none) = some (v, h') := e
    cases hr : xs.reverse with
    | nil => rw [hr] at e; exact nsome e
    | cons x r =>
      rw [hr] at e
      refine iFn e fun hs e5 => ?_
      obtain rfl := congrArg Prod.fst e5
      obtain rfl := congrArg Prod.snd e5
      clear e e5
      refine rs.on ?_
      have hmem := S.inMu hb (List.Mem.head _)
      have l1 := short_le hs
      rw [pop_last hr] at q l1
      obtain ⟨us, u, rfl, q1, q2⟩ := q.split
      refine kl_pop S.fr (News.ahead S.news hmem) (kl_last_of u us) (.head (aside _ _)) (by rw [sizeLine_eq]; show (us ++ [u]).length ≤ _; rw [List.length_append, q1.length]; rw [List.length_append] at l1; exact Nat.le_trans l1 (by decide)) fun H F' N' => ?_
      exact k _ _ _ (S.update hb (.head _) hn ha F' N' (by rw [rep_single]; exact .list q1)) (Gh.le_set _ _ _) ⟨rfl, rfl⟩ (.d q2)
theorem appL_ok (S : Sim G c g h s.heap) (rs : VVs G c g vs us) (e : appL h n xs vs = some (v, h')) (hn : h[n]? = some (.list xs)) (ha : g.as[n]? = some a) {ws : List Value} {n' : Nat} (q : RDs (kn c g) xs ws) (hb : g.mu[n]? = some [(a, listOf ws.toArray n')]) :
    Ev G c (call (.builtin "list.append") ([.ref a] ++ us)) g s h' (fun g' u => VV G c g' v u) := fun E Q k => by
  cases vs with
  | nil => exact nsome e
  | cons x vs =>
    cases vs with
    | cons _ _ => exact nsome e
    | nil =>
      cases x
      case d d =>
        refine iFn (b := short xs = true) e fun hs e5 => ?_
        obtain rfl := congrArg Prod.fst e5
        obtain rfl := congrArg Prod.snd e5
        clear e e5
        refine rs.on fun uu us r0 rn => rn.on ?_
        have hmem := S.inMu hb (List.Mem.head _)
        refine append_K S.fr (News.ahead S.news hmem) (.head (aside _ _)) (fun H F' N' => ?_) (by have := short_le hs; rw [sizeLine_eq, List.size_toArray, q.length]; omega)
        refine k _ _ _ (S.update hb (.head _) hn ha F' N' ?_) (Gh.le_set _ _ _) ⟨rfl, rfl⟩ (.d .none)
        rw [rep_single, List.push_toArray]
        exact .list (q.append (.cons r0.onD .nil))
      all_goals exact nsome e
theorem methB_ok (O : Ok G c) {m : MB} {x : V} {u : Value} (S : Sim G c g h s.heap) (r : VV G c g x u) (rs : VVs G c g vs us) (e : methB h m x vs = some (v, h')) {kd : Bool} (hk : mkind h x = some kd) :
    ∃ id, mbId m kd = some id ∧ Ev G c (call (.builtin id) ([u] ++ us)) g s h' (fun g' u => VV G c g' v u) := mkind_on hk (fun n l e1 hn e2 => by
    subst e1 e2
    have e : methO h n h[n]? m vs = some (v, h') := e
    rw [hn] at e
    refine loc_on S r hn fun a ha ws n' q hb => ?_
    cases m with
    | get => exact nsome e
    | pop => exact ⟨_, rfl, popL_ok S rs e hn ha q hb⟩
    | append => exact ⟨_, rfl, appL_ok S rs e hn ha q hb⟩) fun n l e1 hn e2 => by
    subst e1 e2
    have e : methO h n h[n]? m vs = some (v, h') := e
    rw [hn] at e
    refine loc_on S r hn fun a ha o kvs z p q hb => ?_
    cases m with
    | append => exact nsome e
    | pop => exact ⟨_, rfl, pop_ok S rs e hn ha z p q hb⟩
    | get => exact ⟨_, rfl, get_ok S rs e z p q hb⟩
end
end Mine
end
section
open PySem PySem.W PyProof.Rows PySem.Calls PySem.SeqAt
namespace Mine
variable {G : Gl} {α β : Type} {c : Cx} {g : Gh} {s : Shared} {h h' h₁ h₂ : List O}

/-- what the written part says of a class of the text's -/
structure ClsOk (K : Frag) (T : Tab) (C : Nat) : Prop where
  sa : findIn K (.ref C) "__setattr__" = some (some (.builtin "object.__setattr__"))
  po : plainOver K C = true
  hd : hasDictIn K C = true
  pg : ∀ x, plainGet K C x = true
  at_ : ∀ x ∈ attrNames, takerIn K C x = some none ∧ ∃ a, findIn K (.ref C) x = some a ∧ noGet K a = true
  mkC : makesIn K C = true
  kp : keepIn K (.ref C) = true
  ms : ∀ cl, findN C T.clss = some cl → findIn K (.ref C) "__init__" = some (some (.ref cl.init)) ∧ isFn K (.ref cl.init) = true ∧
    ∀ n f, findS n cl.meths = some f → findIn K (.ref C) n = some (some (.ref f)) ∧ isFn K (.ref f) = true ∧ keepIn K (.ref f) = true

theorem attrName_mem {x : Str} (e : attrName x = true) : x ∈ attrNames := by
  obtain ⟨y, hy, q⟩ := List.any_eq_true.mp e
  rw [(strEq_iff _ _).mp q]; exact hy

theorem strEq_symm (a b : Str) : strEq a b = strEq b a := Bool.eq_iff_iff.mpr ((strEq_iff a b).trans (eq_comm.trans (strEq_iff b a).symm))
theorem isStr_iff {k : Str} {v : Value} {j : Str} {t : Tok} (e : v = .str j t) : v.isStr k = strEq k j := by
  subst e
  exact (strEq_beq j k).symm.trans (strEq_symm j k)
theorem refKey_str {e : DictEntry} {k : Str} {t : Tok} (b : e.key = .str k t) : e.refKey = false := by
  unfold DictEntry.refKey; rw [b]
theorem ADs.refKey {P : Params} {kn : Addr → Obj → Prop} {as : List Addr} {m es} (r : ADs (prog := G.prog) (w := G.w) P kn as m es) : es.any (·.refKey) = false := by
  induction r with
  | nil => rfl
  | cons a b d e ih =>
    obtain ⟨t, b⟩ := b
    rw [List.any_cons, ih, Bool.or_false]
    exact refKey_str b
theorem getL_hit {n : Str} {e : DictEntry} {es : List DictEntry} (h : e.key.isStr n = true) : getL n (e :: es) = some (some e.val) := by
  unfold getL; rw [List.find?_cons_of_pos (p := fun e : DictEntry => e.key.isStr n) h]
theorem getL_miss {n : Str} {e : DictEntry} {es : List DictEntry} (h : e.key.isStr n = false) (hr : e.refKey = false) : getL n (e :: es) = getL n es := by
  unfold getL; rw [List.find?_cons_of_neg (p := fun e : DictEntry => e.key.isStr n) (by rw [h]; decide), List.any_cons, hr, Bool.false_or]
theorem ADs.get {P : Params} {kn : Addr → Obj → Prop} {as : List Addr} {n : Str} {m es} (r : ADs (prog := G.prog) (w := G.w) P kn as m es) :
    (∀ v, findS n m = some v → ∃ u, getL n es = some (some u) ∧ VR G.prog G.w kn as v u) ∧ (findS n m = none → getL n es = some none) := by
  induction r with
  | nil => exact ⟨fun _ e => nsome e, fun _ => rfl⟩
  | @cons k x e m es a b d r ih =>
    obtain ⟨t, b⟩ := b
    have hb := isStr_iff (k := n) b
    unfold findS
    cases q : strEq n k <;> rw [q] at hb
    · rw [getL_miss hb (refKey_str b)]; exact ih
    · rw [getL_hit hb]; exact ⟨fun v e => ⟨_, rfl, Option.some.inj e ▸ d⟩, fun e => snone e⟩
theorem ADs.put {P : Params} {kn : Addr → Obj → Prop} {as : List Addr} {n : Str} {v : V} {u : Value} {hsh : Int} {t : Tok} (q : VR G.prog G.w kn as v u) {m es} (r : ADs (prog := G.prog) (w := G.w) P kn as m es) :
    ADs (prog := G.prog) (w := G.w) P kn as (putS n v m) (putL n hsh (.str n t) u es) := by
  induction r with
  | nil => exact .cons ((isStr_iff rfl).trans ((strEq_iff _ _).mpr rfl)) ⟨t, rfl⟩ q .nil
  | @cons k x e m es a b d r ih =>
    obtain ⟨t', b⟩ := b
    have hb := isStr_iff (k := n) b
    unfold putS putL
    rw [hb]
    cases strEq n k
    · exact .cons a ⟨t', b⟩ d ih
    · exact .cons a ⟨t', b⟩ q r
theorem ADs.length {P : Params} {kn : Addr → Obj → Prop} {as : List Addr} {m es} (r : ADs (prog := G.prog) (w := G.w) P kn as m es) : es.length = m.length := by
  induction r with
  | nil => rfl
  | cons _ _ _ _ ih => exact congrArg Nat.succ ih
theorem putS_len {α : Type} {k : Str} {x : α} : ∀ {m : List (Str × α)}, (putS k x m).length ≤ m.length + 1
  | [] => Nat.le_refl _
  | (j, y) :: m => by
    unfold putS
    cases strEq k j
    · exact Nat.succ_le_succ putS_len
    · exact Nat.le_succ _

section
variable {T : Tab} {x : V} {a : Value} {v : V}

theorem handed {u : Value} (r : VV G c g v u) (hb : isBad v = false) : handedIn u = true := by
  refine r.on ?_
  cases v
  case d d =>
    intro _ q
    refine q.on ?_
    cases d
    case dict => exact trivial
    case int => exact fun _ => rfl
    case str => exact fun _ => rfl
    case list => exact fun _ _ _ _ _ _ _ _ => rfl
    case tuple => exact fun _ _ _ _ _ _ _ _ => rfl
    all_goals exact rfl
  case bad => exact ftrue hb.symm
  case loc => exact fun _ _ => rfl
  case sdict => exact fun _ _ _ _ _ _ => rfl
  case idict => exact fun _ _ _ _ _ _ _ => rfl
  all_goals exact fun _ _ _ _ _ _ _ _ => rfl
theorem notBad_on {P : Prop} {o : Option V} (e : notBad o = some v) (k : o = some v → isBad v = false → P) : P := by
  cases o with
  | none => exact nsome e
  | some w =>
    cases hb : isBad w
    · have e : (if isBad w then none else some w) = some v := e
      rw [hb] at e
      obtain rfl := Option.some.inj e
      exact k rfl hb
    · have e : (if isBad w then none else some w) = some v := e
      rw [hb] at e
      exact nsome e
theorem attr_ok (O : Ok G c) (CK : ∀ C, G.cg C → ClsOk G.K T C) {n : Str} (hn : attrName n = true) (S : Sim G c g h s.heap) (r : VV G c g x a) (e : attrV h x n = some v) :
    Ev G c (getAttr a n true) g s h (fun g' u => VV G c g' v u) := fun E Q k => by
  cases x
  case loc m =>
    have e : attrO h[m]? n = some v := e
    cases hm : h[m]? <;> rw [hm] at e
    case none => exact nsome e
    case some o =>
      cases o
      case attrs C l =>
        refine notBad_on (o := findS n l) e fun e hb => loc_on S r hm fun xa ha dx es nn hc q hbb => ?_
        have K := CK C hc
        obtain ⟨u, h1, h2⟩ := q.get.1 v e
        obtain ⟨-, at', h3, h4⟩ := K.at_ n (attrName_mem hn)
        exact get_own S.fr O.K (InstAt.of_news S.news (S.inMu hbb (.head _)) (S.inMu hbb (.tail _ (.head _)))) (K.pg n) K.hd h3 h4 h1 (handed h2 hb) (k _ _ g S (.refl _) ⟨rfl, rfl⟩ h2)
      all_goals exact nsome e
  all_goals exact nsome e

@[elab_as_elim] theorem instOf {P : Value → Prop} (S : Sim G c g h s.heap) {m C : Nat} {l : List (Str × V)} (hm : h[m]? = some (.attrs C l)) (r : VV G c g (.loc m) a)
    (k : ∀ xa dx es n, G.cg C → InstAt s.heap xa (instObj C dx) C (some (dictOf es n)) → ADs (prog := G.prog) (w := G.w) G.w.params (kn c g) g.as l es → g.mu[m]? = some [(xa, instObj C dx), (dx, dictOf es n)] → g.as[m]? = some xa → P (.ref xa)) : P a :=
  loc_on S r hm fun xa ha dx es n hc q hbb => k xa dx es n hc (InstAt.of_news S.news (S.inMu hbb (.head _)) (S.inMu hbb (.tail _ (.head _)))) q hbb ha

theorem method_ok (O : Ok G c) (CK : ∀ C, G.cg C → ClsOk G.K T C) {m C : Nat} {l : List (Str × V)} {n : Str} {cl : Cl} {f : Nat} {pl : Sem Bool} (S : Sim G c g h s.heap) (hm : h[m]? = some (.attrs C l)) (r : VV G c g (.loc m) a)
    (hn : findS n l = none) (hc : findN C T.clss = some cl) (hf : findS n cl.meths = some f) :
    Ev G c (getMethod a n pl) g s h (fun g' p => p = (.ref f, [a]) ∧ g' = g) := fun E Q k => by
  revert k
  refine instOf S hm r fun xa dx es nn hcg I q _ _ k => ?_
  have K := CK C hcg
  obtain ⟨h1, h2, h3⟩ := (K.ms cl hc).2.2 n f hf
  exact method_inst S.fr O.K I (K.pg n) h1 h2 (q.get.2 hn) (k _ _ g S (.refl _) (.refl _) ⟨rfl, rfl⟩)

theorem setA_ok (O : Ok G c) (CK : ∀ C, G.cg C → ClsOk G.K T C) {n : Str} {u : Value} (hn : attrName n = true) (S : Sim G c g h s.heap) (r : VV G c g x a) (rv : VV G c g v u) (e : setA h x n v = some h') :
    Ev G c (setAttr a n u) g s h' (fun g' _ => True) := fun E Q k => by
  cases x
  case loc m =>
    have e : setAO h m h[m]? n v = some h' := e
    cases hm : h[m]? <;> rw [hm] at e
    case none => exact nsome e
    case some o =>
      cases o
      case attrs C l =>
        refine iFn (b := Nat.blt l.length 900 = true) e fun hl e => ?_
        subst e
        refine instOf S hm r fun xa dx es nn hcg I q hbb ha => ?_
        have K := CK C hcg
        obtain ⟨h3, -⟩ := K.at_ n (attrName_mem hn)
        have hmem := S.inMu hbb (List.Mem.tail _ (List.Mem.head _))
        have hmem1 := S.inMu hbb (List.Mem.head _)
        have hne : xa ≠ dx := fun e => by
          have h2 := (S.here hmem1).symm.trans ((congrArg s.heap.get? e).trans (S.here hmem))
          cases h2
        have hsome : (getL n es).isSome = true := by
          cases hf : findS n l with
          | none => rw [q.get.2 hf]; rfl
          | some z => obtain ⟨w, h1, _⟩ := q.get.1 z hf; rw [h1]; rfl
        have hput : ∀ (hsh : Int) (t : Tok), (putL n hsh (.str n t) u es).length ≤ 1000 := fun hsh t =>
          Nat.le_trans (Nat.le_of_eq (ADs.put (P := G.w.params) (n := n) (hsh := hsh) (t := t) rv q).length) (Nat.le_trans putS_len (Nat.le_trans (Nat.blt_eq.mp hl) (by decide)))
        refine set_dict S.fr O.K (News.ahead S.news hmem) I rfl K.sa K.po h3 K.hd hsome rfl (.head (aside _ _)) (hput _ _) fun H F' N' => ?_
        refine k .unit _ _ (S.update hbb (.tail _ (.head _)) hm ha F' N' ?_) (Gh.le_set _ _ _) ⟨rfl, rfl⟩ trivial
        have : ∀ o o' : Obj, rep dx o' [(xa, instObj C dx), (dx, o)] = [(xa, instObj C dx), (dx, o')] := fun o o' => by
          show (if xa = dx then _ else _) :: rep dx o' [(dx, o)] = _
          rw [if_neg hne, rep_single]
        rw [this]
        exact .attrs hcg (ADs.put rv q)
      all_goals exact nsome e
  all_goals exact nsome e

theorem setL_ok (S : Sim G c g h s.heap) {n : Nat} {l : List PyData} {i : Int} {t : Tok} {d : PyData} {u : Value} {a : Addr} (rv : RD (kn c g) d u) (e : setL h n l i d = some h') (hn : h[n]? = some (.list l)) (ha : g.as[n]? = some a) {ws : List Value} {n' : Nat} (q : RDs (kn c g) l ws) (hb : g.mu[n]? = some [(a, listOf ws.toArray n')]) :
    Ev G c (setItem (.ref a) (.int i t) u) g s h' (fun g' _ => True) := fun E Q k => by
  refine iF (b := (short l && decide (0 ≤ i)) = true) e (fun hs e => sH e (fun j hj e => ?_) fun _ e => nsome e) fun _ e => nsome e
  obtain rfl := Option.some.inj e
  have hs' := Bool.and_eq_true_iff.mp hs
  have l1 := short_le hs'.1
  have h0 : 0 ≤ i := of_decide_eq_true hs'.2
  obtain ⟨h1, h2, h3, h4⟩ := idx_seq hj
  have hmem := S.inMu hb (List.Mem.head _)
  have N0 := S.news _ hmem
  have hij : i.toNat = j := by
    unfold seqIndex? at h1
    dsimp only at h1
    rw [if_neg (Int.not_lt.mpr h0)] at h1
    exact iFn h1 fun _ e => e.symm
  refine ki_setAt N0.1 h0 (by omega) (by rw [List.size_toArray, q.length]; exact h4) ?_
  have N' := ki_turn (pre := []) (n' := n') (its' := (ws.set j u).toArray) (fun x => x.setIfInBounds i.toNat u) (News.ahead S.news hmem) (fun _ h => nomatch h) (aside _ _)
    (by rw [hij]; apply Array.toList_inj.mp; simp) (by simp)
  exact k .unit _ _ (S.update hb (.head _) hn ha (S.fr.change (Heap.SameBut.update ..) N0.2.1 N0.2.2) N' (by rw [rep_single]; exact .list (q.set j rv))) (Gh.le_set _ _ _) ⟨rfl, rfl⟩ trivial
theorem setD_ok (S : Sim G c g h s.heap) {n : Nat} {i : Int} {t : Tok} {u : Value} {a : Addr} {o : Obj} {kvs : List (Int × Value)} {x x' : O} (hn : h[n]? = some x) (ha : g.as[n]? = some a) (hb : g.mu[n]? = some [(a, o)]) (p : o.IsDictOf (intKind G.prog G.w) kvs) (hl : kvs.length ≤ 1000000)
    (q : ∀ o' : Obj, o'.IsDictOf (intKind G.prog G.w) (stored kvs i u) → OR (prog := G.prog) (w := G.w) G.cg (kn c g) g.as x' a [(a, o')]) : Ev G c (setItem (.ref a) (.int i t) u) g s (h.set n x') (fun g' _ => True) := fun E Q k => by
  have hmem := S.inMu hb (List.Mem.head _)
  refine kda_set S.fr (News.ahead S.news hmem) upd_ahead p (int_is _ _) (by rw [sizeLine_eq]; omega) fun H o' F' N' hd' => ?_
  exact k .unit _ _ (S.update hb (.head _) hn ha F' N' (by rw [rep_single]; exact q o' hd')) (Gh.le_set _ _ _) ⟨rfl, rfl⟩ trivial
theorem setS_ok (O : Ok G c) {y : V} {b u : Value} (S : Sim G c g h s.heap) (r : VV G c g x a) (ry : VV G c g y b) (rv : VV G c g v u) (e : setS h x y v = some h') :
    Ev G c (setItem a b u) g s h' (fun g' _ => True) := by
  cases x
  case loc n =>
    cases y
    case d dy =>
      cases dy
      case int i =>
        refine ry.onD.on fun t => ?_
        have e : setO h n h[n]? i v = some h' := e
        cases hn : h[n]? <;> rw [hn] at e
        case none => exact nsome e
        case some o =>
          cases o
          case list l =>
            cases v
            case d d => exact loc_on S r hn fun a ha ws n' q hb => setL_ok S rv.onD e hn ha q hb
            all_goals exact nsome e
          case idict m =>
            cases v
            case d d =>
              exact iFn (b := short m = true) e fun hs e => loc_on S r hn fun a ha o kvs z p q hb => e ▸ setD_ok S hn ha hb p (q.length.symm ▸ short_le hs) fun o' hd' => .idict z hd' (q.put rv.onD (dict_nodup p))
            all_goals exact nsome e
          case iidict m =>
            cases v
            case idict d _ =>
              have rv' : VR G.prog G.w (kn c g) [] (.idict d) u := rv.idAny
              refine iFn (b := short m = true) e fun hs e => loc_on S r hn fun a ha o kvs z p q hb => e ▸ setD_ok S hn ha hb p ?_ fun o' hd' => .iidict z hd' (q.put rv' (dict_nodup p))
              have := congrArg List.length q.keys
              rw [List.length_map, List.length_map] at this
              exact this ▸ short_le hs
            all_goals exact nsome e
          case attrs => exact nsome e
      all_goals exact nsome e
    all_goals exact nsome e
  all_goals exact nsome e
end
end Mine
end
section
open PySem PySem.W PyProof.Rows PySem.Calls PySem.SeqAt
namespace Mine
variable {G : Gl} {α β : Type} {c : Cx} {g : Gh} {s : Shared} {h h' h₁ h₂ : List O}

noncomputable def GvOk (G : Gl) (x : Str) : GV → Prop
  | .fn a => nsIn G.K mainGlobals x = some (some (.ref a)) ∧ keepIn G.K (.ref a) = true
  | .cls a => nsIn G.K mainGlobals x = some (some (.ref a)) ∧ G.cg a
  | .bi b => nsIn G.K mainGlobals x = some none ∧ bootBuiltins x = some (biVal b) ∧ x ≠ "__name__"
  | .rng => nsIn G.K mainGlobals x = some none ∧ bootBuiltins x = some (.type "range") ∧ x ≠ "__name__"
  | .val v => ∃ u, nsIn G.K mainGlobals x = some (some u) ∧ VR G.prog G.w (fun a o => G.K.lookup a = some o) [] v u

structure CeOk (G : Gl) (ce : CE) (c : Cx) : Prop where
  gl : ∀ x gv, ce.gl x = some gv → GvOk G x gv
  glk : ∀ x, isGl x ce.names = true → c.env.kindOf x = some .globalImplicit
  look : ∀ x i, slotAt x ce.names 0 = some i → ∃ k, ce.names[i]? = some (x, k) ∧ lookable k = true
  nd : (ce.names.map (·.1)).Nodup
  loc : ∀ x, kindAt x ce.names = some .local → c.env.kindOf x = some .local
  cell : ∀ x, kindAt x ce.names = some .cell → c.env.kindOf x = some .cell ∧ ∃ a, c.env.cells.lookup x = some a

structure RecOk (G : Gl) (r : Rec) (n : Nat) : Prop where
  fail : ∀ ρ h, r.ev .fail ρ h = none
  ev : ∀ c, Ok G c → Room n c.A → ∀ k ce x ρ h v h', CeOk G ce c → r.ev (cE k ce x) ρ h = some (v, h') → EvX G c ce.names x ρ h v h'
  call : ∀ c, Ok G c → Room n c.A → ∀ f vs h v h', r.call f vs h = some (v, h') → ∀ g s us, Sim G c g h s.heap → VVs G c g vs us → ∀ (R : Result → Shared → Prop),
    (∀ u s' g', Sim G c g' h' s'.heap → g.le g' → Same s s' → VV G c g' v u → R (.ok (.ret u)) s') → codeAny (model G.prog G.w) c.A (.call (.ref f) ⟨us, []⟩) R s

/-- what stands about a step -/
structure Hyp (G : Gl) (T : Tab) (r : Rec) (n : Nat) (c : Cx) (ce : CE) : Prop where
  IH : RecOk G r n
  ok : Ok G c
  Rm : Room (n + 1) c.A
  Ck : CeOk G ce c
  CK : ∀ C, G.cg C → ClsOk G.K T C
variable {T : Tab} {r : Rec} {n k : Nat} {ce : CE} {ρ : Rho} {v : V}
theorem Room.less {n m : Nat} {A : Around} (h : Room m A) (l : n ≤ m) : Room n A := ⟨by have := h.1; omega, by have := h.2; omega⟩
theorem Hyp.Rn (H : Hyp G T r n c ce) : Room n c.A := H.Rm.less (Nat.le_succ _)
theorem Hyp.hu (H : Hyp G T r n c ce) : c.A.units + 200 < cLine := by have := H.Rm.2; omega
theorem Hyp.ev (H : Hyp G T r n c ce) {k : Nat} {x : PySem.Expr} {ρ : Rho} {h h' : List O} {v : V} (e : r.ev (cE k ce x) ρ h = some (v, h')) : EvX G c ce.names x ρ h v h' := H.IH.ev c H.ok H.Rn k ce x ρ h v h' H.Ck e

theorem evs_ok (H : Hyp G T r n c ce) {xs : List PySem.Expr} : ∀ {h h' : List O} {vs : List V}, evs r ρ (xs.map (cE k ce)) h = some (vs, h') → EvXs G c ce.names ρ xs h vs h' := by
  induction xs with
  | nil => exact fun e => inj2 e fun p q => by subst p q; exact .nil _
  | cons x xs ih =>
    exact fun e => sB e (fun v h₁ e1 e => sD e (fun us h₂ e2 e => inj2 e fun p q => by subst p q; exact .cons _ _ _ _ _ _ _ (H.ev e1) (ih e2)) fun _ e => nsome e) fun _ e => nsome e
theorem cName_cases {ce : CE} {x : Str} {p : Pos} {M : E → Prop} (h0 : M .fail) (h1 : reserved x = false → ∀ i, slotAt x ce.names 0 = some i → M (.var i)) (h2 : reserved x = false → isGl x ce.names = true → ∀ v, ce.gl x = some (.val v) → M (.glob v)) : M (cName ce x p) := by
  unfold cName
  cases hr : reserved x with
  | true => exact h0
  | false =>
    cases atPos p ce.mvs with
    | true => exact h0
    | false =>
      show M (match slotAt x ce.names 0 with
        | some i => .var i
        | none => if isGl x ce.names then (match ce.gl x with | some (.val v) => .glob v | _ => .fail) else .fail)
      cases hs : slotAt x ce.names 0 with
      | some i => exact h1 hr i hs
      | none =>
        show M (if isGl x ce.names then (match ce.gl x with | some (.val v) => .glob v | _ => .fail) else .fail)
        cases hg : isGl x ce.names with
        | false => exact h0
        | true =>
          show M (match ce.gl x with | some (.val v) => .glob v | _ => .fail)
          cases hv : ce.gl x with
          | none => exact h0
          | some gv => cases gv <;> first | exact h2 hr hg _ hv | exact h0
theorem evOf_name (H : Hyp G T r n c ce) {x : Str} {p : Pos} : ∀ (e : stepEv T r (cE (k + 1) ce (.Name x p)) ρ h = some (v, h')), EvX G c ce.names (.Name x p) ρ h v h' :=
  cName_cases (M := fun e0 => stepEv T r e0 ρ h = some (v, h') → EvX G c ce.names (.Name x p) ρ h v h') (fun e => nsome e)
    (fun hr i hi e g s S Vs => wJ e (fun v' hv e => inj2 e fun p q => by
      subst p q
      obtain ⟨kk, h1, h2⟩ := H.Ck.look x i hi
      obtain ⟨u, h3, h4⟩ := Vs i x kk _ h1 h2 hv
      exact ev_name H.ok S h3 hr h4) fun e => nsome e)
    fun hr hg v' hv e g s S Vs => inj2 e fun p q => by
      subst p q
      obtain ⟨u, h1, h2⟩ := H.Ck.gl _ _ hv
      exact ev_global H.ok S (H.Ck.glk _ hg) hr h1 (h2.mono (fun a o q => .inl (H.ok.Kb a o q)) List.nil_prefix)

theorem plain_of {es : List PySem.Expr} (h : plainArgs es = true) : es.all plainArg = true ∧ es.length ≤ 20 := by
  unfold plainArgs at h
  have := Bool.and_eq_true_iff.mp h
  exact ⟨this.1, Nat.le_of_ble_eq_true this.2⟩
theorem ifE {b : Prop} [Decidable b] {x : E} {M : E → Prop} (h0 : M .fail) (h1 : b → M x) : M (if b then x else .fail) := by
  by_cases h : b
  · rw [if_pos h]; exact h1 h
  · rw [if_neg h]; exact h0
theorem evOf_tuple (H : Hyp G T r n c ce) {es : List PySem.Expr} {i : Nat} {p : Pos} : ∀ (e : stepEv T r (cE (k + 1) ce (.Tuple es i p)) ρ h = some (v, h')), EvX G c ce.names (.Tuple es i p) ρ h v h' :=
  ifE (M := fun e0 => stepEv T r e0 ρ h = some (v, h') → EvX G c ce.names (.Tuple es i p) ρ h v h') (fun e => nsome e)
    fun hp e g s S Vs => sD e (fun vs h1 e1 e => inj2 e fun p q => by
      subst p q
      exact ev_tuple S Vs (evs_ok H e1) (plain_of hp).1 (Nat.le_trans (plain_of hp).2 (by decide))) fun _ e => nsome e
theorem evOf_list (H : Hyp G T r n c ce) {es : List PySem.Expr} {p : Pos} : ∀ (e : stepEv T r (cE (k + 1) ce (.List es p)) ρ h = some (v, h')), EvX G c ce.names (.List es p) ρ h v h' :=
  ifE (M := fun e0 => stepEv T r e0 ρ h = some (v, h') → EvX G c ce.names (.List es p) ρ h v h') (fun e => nsome e)
    fun hp e g s S Vs => sD e (fun vs h1 e1 e => ev_list S Vs (evs_ok H e1) (plain_of hp).1 (Nat.le_trans (plain_of hp).2 (by decide)) e) fun _ e => nsome e
theorem evOf_const (H : Hyp G T r n c ce) {x : Const} {i : Nat} {p : Pos} (e : stepEv T r (cE (k + 1) ce (.Constant x i p)) ρ h = some (v, h')) : EvX G c ce.names (.Constant x i p) ρ h v h' := by
  intro g s S Vs
  cases x
  case none => exact inj2 e fun p q => by subst p q; exact ev_none S (.d .none)
  case bool b => exact inj2 e fun p q => by subst p q; exact ev_bool S (.d (.bool _))
  case int z => exact inj2 e fun p q => by subst p q; exact ev_int S fun _ => .d (.int _ _)
  case str z => exact inj2 e fun p q => by subst p q; exact ev_str S fun _ => .d (.str _ _)
  all_goals exact nsome e

theorem evOf_bin (H : Hyp G T r n c ce) {x y : PySem.Expr} {op : Operator} {p : Pos} (e : stepEv T r (cE (k + 1) ce (.BinOp x op y p)) ρ h = some (v, h')) : EvX G c ce.names (.BinOp x op y p) ρ h v h' :=
  fun g s S Vs E Q q => sA e (fun _ e => nsome e) fun v1 h1 e1 e => sA e (fun _ e => nsome e) fun v2 h2 e2 e => sE e (fun v3 e3 e => inj2 e fun p q => by
    subst p q
    refine wpAny_BinOp (H.ev e1 g s S Vs E _ fun a s₁ g₁ S₁ l₁ q₁ p₁ => H.ev e2 g₁ s₁ S₁ (Vs.le l₁) E _ fun b s₂ g₂ S₂ l₂ q₂ p₂ => ?_)
    exact bin_ok H.ok S₂ (VV.le l₂ p₁) p₂ e3 E Q fun u s₃ g₃ S₃ l₃ q₃ p₃ => q _ _ _ S₃ ((l₁.trans l₂).trans l₃) ((q₁.trans q₂).trans q₃) p₃) fun _ e => nsome e

theorem ifF {b : Bool} {x : E} {M : E → Prop} (h0 : M .fail) (h1 : b = false → M x) : M (if b then .fail else x) := by
  cases b with
  | true => exact h0
  | false => exact h1 rfl
theorem evOf_cmp (H : Hyp G T r n c ce) {x y : PySem.Expr} {op : CmpOp} {p : Pos} : ∀ (e : stepEv T r (cE (k + 1) ce (.Compare x [op] [y] p)) ρ h = some (v, h')), EvX G c ce.names (.Compare x [op] [y] p) ρ h v h' :=
  ifF (M := fun e0 => stepEv T r e0 ρ h = some (v, h') → EvX G c ce.names (.Compare x [op] [y] p) ρ h v h') (fun e => nsome e)
    fun hmk e g s S Vs E Q q => sA e (fun _ e => nsome e) fun v1 h1 e1 e => sA e (fun _ e => nsome e) fun v2 h2 e2 e => sE e (fun v3 e3 e => inj2 e fun p q => by
      subst p q
      refine wpAny_Compare1 (H.ev e1 g s S Vs E _ fun a s₁ g₁ S₁ l₁ q₁ p₁ => H.ev e2 g₁ s₁ S₁ (Vs.le l₁) E _ fun b s₂ g₂ S₂ l₂ q₂ p₂ => ?_) hmk
      exact cmp_ok H.ok S₂ H.hu (VV.le l₂ p₁) p₂ e3 E Q fun u s₃ g₃ S₃ l₃ q₃ p₃ => q _ _ _ S₃ ((l₁.trans l₂).trans l₃) ((q₁.trans q₂).trans q₃) p₃) fun _ e => nsome e
theorem truthy_ok {b : Bool} {u : Value} (e : truthy v = some b) (rv : VV G c g v u) : u = .bool b :=
  wL e (fun b' hv e => inj1 e fun p => by subst p hv; exact vv_bool rv) fun e => nsome e
theorem sTr {o : Option Bool} {f g z : Option (V × List O)} {d : Option (V × List O)} {P : Prop} (e : (match o with | none => z | some false => f | some true => g) = d) (k0 : z = d → P) (k1 : o = some false → f = d → P) (k2 : o = some true → g = d → P) : P := by
  cases o with
  | none => exact k0 e
  | some b => cases b with
    | false => exact k1 rfl e
    | true => exact k2 rfl e
theorem cc2 {pos : Pos} {l : Value} {op op' : CmpOp} {x y : Sem Value} : compareChain pos l [op, op'] [x, y] = (do
    let v ← holding [l] x
    standAt pos
    let u ← holding [l, v] (compareOp op l v)
    release [l, v] [u]
    if ← holding [u, v] (PySem.truthy u) then compareChain pos v [op'] [y] else pure u) := rfl
theorem cc1 {pos : Pos} {l : Value} {op : CmpOp} {x : Sem Value} : compareChain pos l [op] [x] = (do
    let v ← holding [l] x
    standAt pos
    operate [l, v] (compareOp op l v)) := rfl
theorem evOf_cmp2 (H : Hyp G T r n c ce) {x y z : PySem.Expr} {op op' : CmpOp} {p : Pos} : ∀ (e : stepEv T r (cE (k + 1) ce (.Compare x [op, op'] [y, z] p)) ρ h = some (v, h')), EvX G c ce.names (.Compare x [op, op'] [y, z] p) ρ h v h' :=
  ifF (M := fun e0 => stepEv T r e0 ρ h = some (v, h') → EvX G c ce.names (.Compare x [op, op'] [y, z] p) ρ h v h') (fun e => nsome e)
    fun hmk e g s S Vs E Q q => sA e (fun _ e => nsome e) fun v1 h1 e1 e => sA e (fun _ e => nsome e) fun v2 h2 e2 e => sE2 e (fun _ e => nsome e) fun v3 e3 e => by
      refine Compare_chain (H.ev e1 g s S Vs E _ fun a s₁ g₁ S₁ l₁ q₁ p₁ => ?_) (by unfold lastMarks; unfold lastMarks; exact hmk)
      show wpAny _ _ (compareChain _ _ [op, op'] [eval y c.env, eval z c.env]) _ _ _
      rw [cc2]
      refine wpAny_bind (wpAny_holding (H.ev e2 g₁ s₁ S₁ (Vs.le l₁) E _ fun b s₂ g₂ S₂ l₂ q₂ p₂ => ?_))
      refine wpAny_bind (wpAny_standAt (wpAny_bind (wpAny_holding (cmp_ok H.ok S₂ H.hu (VV.le l₂ p₁) p₂ e3 E _ fun u s₃ g₃ S₃ l₃ q₃ p₃ => ?_))))
      refine wpAny_bind (wpAny_release' ?_)
      refine sTr e (fun e => nsome e) (fun ht e => inj2 e fun p q => ?_) fun ht e => sA e (fun _ e => nsome e) fun v4 h4 e4 e => sE e (fun v5 e5 e => inj2 e fun p q => ?_) fun _ e => nsome e
      · subst p q
        rw [truthy_ok ht p₃]
        refine wpAny_bind (wpAny_holding (wpAny_truthy_bool ?_))
        exact wpAny_pure ((truthy_ok ht p₃) ▸ q _ _ _ S₃ ((l₁.trans l₂).trans l₃) ((q₁.trans q₂).trans q₃) p₃)
      · subst p q
        rw [truthy_ok ht p₃]
        refine wpAny_bind (wpAny_holding (wpAny_truthy_bool ?_))
        rw [if_pos rfl]
        rw [cc1]
        refine wpAny_bind (wpAny_holding (H.ev e4 g₃ s₃ S₃ (Vs.le ((l₁.trans l₂).trans l₃)) E _ fun d s₄ g₄ S₄ l₄ q₄ p₄ => ?_))
        refine wpAny_bind (wpAny_standAt (wpAny_operate' ?_))
        exact cmp_ok H.ok S₄ H.hu (VV.le (l₃.trans l₄) p₂) p₄ e5 E Q fun u s₅ g₅ S₅ l₅ q₅ p₅ => q _ _ _ S₅ ((((l₁.trans l₂).trans l₃).trans l₄).trans l₅) ((((q₁.trans q₂).trans q₃).trans q₄).trans q₅) p₅
end Mine
end
section
open PySem PySem.W PyProof.Rows PySem.Calls PySem.SeqAt
namespace Mine
variable {G : Gl} {α β : Type} {c : Cx} {g : Gh} {s : Shared} {h h' h₁ h₂ : List O}
variable {T : Tab} {r : Rec} {n k : Nat} {ce : CE} {ρ : Rho} {v : V}

noncomputable def testHead : E → Bool
  | .bop _ _ => true
  | .not _ => true
  | .ite _ _ _ => true
  | .cmp2 _ _ _ _ _ => true
  | _ => false
theorem tstN_eq {e : E} {j : Nat} (hh : testHead e = false) : tstN r ρ (j + 1) e h = (match r.ev e ρ h with | some (v, h) => (match truthy v with | some b => some (b, h) | none => none) | none => none) := by
  cases e <;> first | rfl | exact nomatch hh
theorem tstN_gen {e : E} {j : Nat} {b : Bool} (hh : testHead e = false) (q : tstN r ρ (j + 1) e h = some (b, h')) : ∃ v, r.ev e ρ h = some (v, h') ∧ truthy v = some b :=
  sB ((tstN_eq hh).symm.trans q) (fun v h1 e1 q => sF q (fun b' hb q => inj2 q fun a1 a2 => by subst a1 a2; exact ⟨v, e1, hb⟩) fun _ q => nsome q) fun _ q => nsome q
/-- what is known of a test -/
def TsX (G : Gl) (c : Cx) (names : List (Str × NameKind)) (x : PySem.Expr) (ρ : Rho) (h : List O) (b : Bool) (h' : List O) : Prop :=
  ∀ g s, Sim G c g h s.heap → Vars G c g names ρ → ∀ whole, whole = eval x c.env → Ev G c (isTrue x c.env whole) g s h' (fun _ b' => b' = b)

theorem ts_plain (H : Hyp G T r n c ce) {x : PySem.Expr} {j : Nat} {b : Bool} (hh : testHead (cE k ce x) = false) (he : ∀ whole, isTrue x c.env whole = (do let v ← whole; standAt x.pos; holding [v] (PySem.truthy v)))
    (q : tstN r ρ (j + 1) (cE k ce x) h = some (b, h')) : TsX G c ce.names x ρ h b h' := by
  intro g s S Vs whole hw E Q kk
  subst hw
  obtain ⟨v, e1, e2⟩ := tstN_gen hh q
  refine isTrue_plain (H.ev e1 g s S Vs E _ fun u s₁ g₁ S₁ l₁ q₁ p₁ => ?_) (he _)
  have := truthy_ok e2 p₁
  subst this
  exact wpAny_truthy_bool (kk _ _ _ S₁ l₁ q₁ rfl)

theorem sBB {o : Option (Bool × List O)} {f : Bool → List O → Option (Bool × List O)} {d : Option (Bool × List O)} {z : Bool × List O} {P : Prop} (e : (match o with | some (b, h) => f b h | none => none) = some z) (k : ∀ b h, o = some (b, h) → f b h = some z → P) : P := by
  cases o with
  | none => exact nsome e
  | some p => exact k p.1 p.2 rfl e
theorem ts_all (H : Hyp G T r n c ce) {j : Nat} {op : BoolOp} (ih : ∀ {x : PySem.Expr} {h h' : List O} {b : Bool}, tstN r ρ j (cE k ce x) h = some (b, h') → TsX G c ce.names x ρ h b h') {xs : List PySem.Expr} :
    ∀ {h h' : List O} {b : Bool}, tstA (tstN r ρ j) (isAnd op) (xs.map (cE k ce)) h = some (b, h') →
      ∀ g s, Sim G c g h s.heap → Vars G c g ce.names ρ → Ev G c (allTrue op xs c.env) g s h' (fun _ b' => b' = b) := by
  induction xs with
  | nil => exact fun e g s S Vs => inj2 e fun p q => by subst p q; exact Ev.pure S (by cases op <;> rfl)
  | cons x xs hr =>
    refine fun e g s S Vs E Q kk => sBB (d := none) e fun b1 h1 e1 e => ?_
    show wpAny _ _ (isTrue x c.env (eval x c.env) >>= _) _ _ _
    refine wpAny_bind (ih e1 g s S Vs _ rfl E _ fun b' s₁ g₁ S₁ l₁ q₁ p₁ => ?_)
    subst p₁
    cases op <;> cases b'
    · exact inj2 e fun p q => by subst p q; exact wpAny_pure (kk _ _ _ S₁ l₁ q₁ rfl)
    · exact hr e g₁ s₁ S₁ (Vs.le l₁) E _ fun b s₂ g₂ S₂ l₂ q₂ p₂ => kk _ _ _ S₂ (l₁.trans l₂) (q₁.trans q₂) p₂
    · exact hr e g₁ s₁ S₁ (Vs.le l₁) E _ fun b s₂ g₂ S₂ l₂ q₂ p₂ => kk _ _ _ S₂ (l₁.trans l₂) (q₁.trans q₂) p₂
    · exact inj2 e fun p q => by subst p q; exact wpAny_pure (kk _ _ _ S₁ l₁ q₁ rfl)

theorem cE_zero (x : PySem.Expr) : cE 0 ce x = .fail := by cases x <;> rfl
theorem tst_fail (H : Hyp G T r n c ce) {j : Nat} {z : Bool × List O} (e : tstN r ρ j .fail h = some z) {P : Prop} : P := by
  cases j with
  | zero => exact nsome e
  | succ j => exact sB e (fun v h1 e1 _ => nsome ((H.IH.fail ρ h).symm.trans e1)) fun _ q => nsome q

theorem isTrue_of_eval1 {M : Model} {A : Around} {E : Value → Shared → Prop} {env : Env} {l y : PySem.Expr} {op : CmpOp} {pos : Pos} {whole : Sem Value} {Q : Bool → Shared → Prop}
    (h : wpAny M A (eval (.Compare l [op] [y] pos) env) (fun v s₁ => wpAny M A (PySem.truthy v) Q E s₁) E s) (hm : behindInMarks op y = false) :
    wpAny M A (isTrue (.Compare l [op] [y] pos) env whole) Q E s := fun Γ p hΓ => by
  have q := h Γ p hΓ
  simp only [eval_Compare1, isTrue_Compare1, markedBehindIn_of_false hm, Sem.wp_bind', Sem.wp_holding, Sem.wp_cmd_standAt, Sem.wp_operate] at q ⊢
  exact Sem.wp_mono M Γ _ (fun a p₁ s₁ h₁ => Sem.wp_mono M Γ _ (fun b p₂ s₂ h₂ => Sem.wp_mono M Γ _ (fun c p₃ s₃ h₃ => h₃ Γ p₃ hΓ) (fun _ _ _ z => z) _ _ h₂) (fun _ _ _ z => z) _ _ h₁) (fun _ _ _ z => z) _ _ q

theorem th_if {b : Prop} [Decidable b] {x : E} (h : testHead x = false) : testHead (if b then x else .fail) = false := ifE (M := fun e => testHead e = false) rfl fun _ => h
theorem th_gl {f : PySem.Expr → E} {x : Str} {args : List PySem.Expr} {p : Pos} : testHead (cCallN f ce x args p) = false := by
  unfold cCallN
  refine ifF (M := fun e => testHead e = false) rfl fun _ => th_if ?_
  cases ce.gl x with
  | none => rfl
  | some v => cases v <;> rfl
theorem th_meth {f : PySem.Expr → E} {o : PySem.Expr} {x : Str} {ap p : Pos} {args : List PySem.Expr} : testHead (cCallA f o x ap args p) = false := by
  unfold cCallA
  refine ifF (M := fun e => testHead e = false) rfl fun _ => ?_
  cases mbOf x <;> rfl
theorem th_call {f : PySem.Expr → E} {g : PySem.Expr} {args : List PySem.Expr} {ks : List Keyword} {p : Pos} : testHead (cCall f ce g args ks p) = false := by
  cases ks with
  | cons _ _ => rfl
  | nil => cases g <;> first | rfl | exact th_gl | exact th_meth
theorem cLC_cases {f : CE → PySem.Expr → E} {elt : PySem.Expr} {gs : List Comprehension} {sc : Scope} {p : Pos} {M : E → Prop} (h0 : M .fail)
    (h1 : ∀ t it ifs tt ini, gs = [⟨t, it, ifs, 0⟩] → tgtOf { ce with names := sc.names } t = some tt → initOf ce.names sc.names = some ini → (fnKind sc && scopeOk sc.names) = true →
      M (.comp (atPos p ce.muts) (f { ce with names := sc.names } elt) tt (f ce it) (ifs.map (f { ce with names := sc.names })) ini)) : M (cLC f ce elt gs sc p) := by
  cases gs with
  | nil => exact h0
  | cons g r =>
    cases r with
    | cons _ _ => exact h0
    | nil =>
      obtain ⟨t, it, ifs, a⟩ := g
      show M (cLC1 f ce elt ⟨t, it, ifs, a⟩ sc p)
      unfold cLC1
      cases e1 : tgtOf { ce with names := sc.names } t with
      | none => exact h0
      | some tt =>
        cases e2 : initOf ce.names sc.names with
        | none => exact h0
        | some ini => exact ifE (M := M) h0 fun h => (Bool.and_eq_true_iff.mp h).elim fun k1 k2 => h1 t it ifs tt ini (by rw [show a = 0 from (intEq_iff _ _).mp k2]) e1 e2 k1
theorem cDC_cases {f : CE → PySem.Expr → E} {a b : PySem.Expr} {gs : List Comprehension} {sc : Scope} {M : E → Prop} (h0 : M .fail)
    (h1 : ∀ x q it ifs tt ini, gs = [⟨.Name x q, it, ifs, 0⟩] → storeSlot { ce with names := sc.names } x = some tt → initOf ce.names sc.names = some ini → (fnKind sc && scopeOk sc.names) = true →
      M (.dcomp (f { ce with names := sc.names } a) (f { ce with names := sc.names } b) tt (f ce it) (ifs.map (f { ce with names := sc.names })) ini)) : M (cDC f ce a b gs sc) := by
  cases gs with
  | nil => exact h0
  | cons g r =>
    cases r with
    | cons _ _ => exact h0
    | nil =>
      obtain ⟨t, it, ifs, s⟩ := g
      cases t
      case Name x q =>
        show M (cDC1 f ce a b ⟨.Name x q, it, ifs, s⟩ sc x)
        unfold cDC1
        cases e1 : storeSlot { ce with names := sc.names } x with
        | none => exact h0
        | some tt =>
          cases e2 : initOf ce.names sc.names with
          | none => exact h0
          | some ini => exact ifE (M := M) h0 fun h => (Bool.and_eq_true_iff.mp h).elim fun k1 k2 => h1 x q it ifs tt ini (by rw [show s = 0 from (intEq_iff _ _).mp k2]) e1 e2 k1
      all_goals exact h0
theorem th_lc {f : CE → PySem.Expr → E} {elt : PySem.Expr} {gs : List Comprehension} {sc : Scope} {p : Pos} : testHead (cLC f ce elt gs sc p) = false :=
  cLC_cases (M := fun e => testHead e = false) rfl fun _ _ _ _ _ _ _ _ _ => rfl
theorem th_dc {f : CE → PySem.Expr → E} {a b : PySem.Expr} {gs : List Comprehension} {sc : Scope} : testHead (cDC f ce a b gs sc) = false :=
  cDC_cases (M := fun e => testHead e = false) rfl fun _ _ _ _ _ _ _ _ _ _ => rfl
theorem th_sub {f : PySem.Expr → E} {v i : PySem.Expr} : testHead (cSub f v i) = false := by
  cases i <;> try rfl
  rename_i a b st p
  cases st <;> rfl
theorem th_const {x : Const} : testHead (cConst x) = false := by cases x <;> rfl
theorem th_name {x : Str} {p : Pos} : testHead (cName ce x p) = false := cName_cases (M := fun e => testHead e = false) rfl (fun _ _ _ => rfl) fun _ _ _ _ => rfl
theorem ts_cmp1 (H : Hyp G T r n c ce) {j : Nat} {x y : PySem.Expr} {op : CmpOp} {p : Pos} {b : Bool} (e : tstN r ρ (j + 1) (cE (k + 1) ce (.Compare x [op] [y] p)) h = some (b, h')) : TsX G c ce.names (.Compare x [op] [y] p) ρ h b h' := by
  intro g s S Vs whole hw E Q kk
  have hd : ∀ q : Bool, behindInMarks op y = q → cE (k + 1) ce (.Compare x [op] [y] p) = (if q then .fail else .cmp op (cE k ce x) (cE k ce y)) := fun q hq => by subst hq; rfl
  cases hq : behindInMarks op y with
  | true => rw [hd _ hq] at e; exact tst_fail H e
  | false =>
    obtain ⟨v, e1, e2⟩ := tstN_gen (by rw [hd _ hq]; rfl) e
    refine isTrue_of_eval1 (H.ev e1 g s S Vs E _ fun u s₁ g₁ S₁ l₁ q₁ p₁ => ?_) hq
    rw [truthy_ok e2 p₁]
    exact wpAny_truthy_bool (kk _ _ _ S₁ l₁ q₁ rfl)
theorem cCmp_on {f : PySem.Expr → E} {a : PySem.Expr} {M : List CmpOp → List PySem.Expr → E → Prop} (h0 : ∀ o b, M o b .fail) (h1 : ∀ op b, M [op] [b] (cCmp1 f a op b)) (h2 : ∀ op op' b d, M [op, op'] [b, d] (cCmp2 f a op op' b d)) : ∀ {ops : List CmpOp} {bs : List PySem.Expr}, M ops bs (cCmp f a ops bs)
  | [], _ => h0 _ _
  | _ :: _, [] => h0 _ _
  | [_], [_] => h1 _ _
  | [_], _ :: _ :: _ => h0 _ _
  | _ :: _ :: _, [_] => h0 _ _
  | [_, _], [_, _] => h2 _ _ _ _
  | [_, _], _ :: _ :: _ :: _ => h0 _ _
  | _ :: _ :: _ :: _, _ :: _ :: _ => h0 _ _
theorem ts_ok (H : Hyp G T r n c ce) {j : Nat} : ∀ {k : Nat} {x : PySem.Expr} {h h' : List O} {b : Bool}, tstN r ρ j (cE k ce x) h = some (b, h') → TsX G c ce.names x ρ h b h' := by
  induction j with
  | zero => exact fun e => nsome e
  | succ j ih =>
    intro k x h h' b e
    cases k with
    | zero => rw [cE_zero] at e; exact tst_fail H e
    | succ k =>
      have plain : testHead (cE (k + 1) ce x) = false → (∀ whole, isTrue x c.env whole = (do let v ← whole; standAt x.pos; holding [v] (PySem.truthy v))) → TsX G c ce.names x ρ h b h' := fun a q => ts_plain H a q e
      cases x
      case BoolOp op es p => exact fun g s S Vs whole hw => ts_all H (fun q => ih q) e g s S Vs
      case UnaryOp op x p =>
        cases op
        case Not =>
         exact fun g s S Vs whole hw E Q kk => sBB (d := none) (f := fun b h => some (!b, h)) e fun b1 h1 e1 e => inj2 e fun a1 a2 => by
          subst a1 a2
          exact isTrue_not (ih e1 g s S Vs _ rfl E _ fun b' s₁ g₁ S₁ l₁ q₁ p₁ => kk _ _ _ S₁ l₁ q₁ (by rw [p₁]))
        all_goals exact plain rfl (fun _ => rfl)
      case IfExp t x y p => exact nsome e
      case Compare x ops ys p =>
        exact cCmp_on (M := fun ops ys e0 => tstN r ρ (j + 1) e0 h = some (b, h') → TsX G c ce.names (.Compare x ops ys p) ρ h b h') (fun _ _ e => tst_fail H e) (fun op y e => ts_cmp1 (k := k) H e)
          (fun op op' y z => ifF (b := behindInMarks op' z) (M := fun e0 => tstN r ρ (j + 1) e0 h = some (b, h') → TsX G c ce.names (.Compare x [op, op'] [y, z] p) ρ h b h') (x := .cmp2 op op' (cE k ce x) (cE k ce y) (cE k ce z)) (fun e => tst_fail H e) (fun _ e => nsome (show none = some (b, h') from e))) e
      case Name x p => exact plain th_name (fun _ => rfl)
      case Constant x i p => exact plain th_const (fun _ => rfl)
      case Call f args kw p => exact plain th_call (fun _ => rfl)
      case Tuple es i p => exact plain (th_if rfl) (fun _ => rfl)
      case Attribute x i p => exact plain (th_if rfl) (fun _ => rfl)
      case Subscript x i p => exact plain th_sub (fun _ => rfl)
      case List x p => exact plain (th_if rfl) (fun _ => rfl)
      case Dict x y p => exact plain (th_if rfl) (fun _ => rfl)
      case ListComp x y z p => exact plain th_lc (fun _ => rfl)
      case DictComp x y z t p => exact plain th_dc (fun _ => rfl)
      all_goals exact plain rfl (fun _ => rfl)
end Mine
end
section
open PySem PySem.W PyProof.Rows PySem.Calls PySem.SeqAt
namespace Mine
variable {G : Gl} {α β : Type} {c : Cx} {g : Gh} {s : Shared} {h h' h₁ h₂ : List O}
variable {T : Tab} {r : Rec} {n k : Nat} {ce : CE} {ρ : Rho} {v : V}

theorem ev_not (H : Hyp G T r n c ce) {x : PySem.Expr} {p : Pos} (e : stepEv T r (cE (k + 1) ce (.UnaryOp .Not x p)) ρ h = some (v, h')) : EvX G c ce.names (.UnaryOp .Not x p) ρ h v h' :=
  fun g s S Vs E Q q => sB e (fun v1 h1 e1 e => sF e (fun b hb e => inj2 e fun a1 a2 => by
    subst a1 a2
    refine UnaryOp_ (H.ev e1 g s S Vs E _ fun u s₁ g₁ S₁ l₁ q₁ p₁ => not_of ?_)
    rw [truthy_ok hb p₁]
    exact wpAny_truthy_bool (q _ _ _ S₁ l₁ q₁ (.d (.bool _)))) fun _ e => nsome e) fun _ e => nsome e
theorem ev_neg (H : Hyp G T r n c ce) {x : PySem.Expr} {p : Pos} (e : stepEv T r (cE (k + 1) ce (.UnaryOp .USub x p)) ρ h = some (v, h')) : EvX G c ce.names (.UnaryOp .USub x p) ρ h v h' :=
  fun g s S Vs E Q q => wH e (fun i h1 e1 e => inj2 e fun a1 a2 => by
    subst a1 a2
    refine UnaryOp_ (H.ev e1 g s S Vs E _ fun u s₁ g₁ S₁ l₁ q₁ p₁ => ?_)
    exact p₁.onD.on fun t => PySem.P.neg_int (q _ _ _ S₁ l₁ ⟨q₁.os, q₁.gens⟩ (.d (.int _ _)))) fun e => nsome e
theorem ev_ite1 (H : Hyp G T r n c ce) {t x y : PySem.Expr} {p : Pos} {b : Bool} (e1 : tst r (cE k ce t) ρ h = some (b, h₁)) (e : r.ev (cE k ce (if b then x else y)) ρ h₁ = some (v, h')) : EvX G c ce.names (.IfExp t x y p) ρ h v h' :=
  fun g s S Vs E Q q => by
    refine IfExp_ (ts_ok H e1 g s S Vs _ rfl E _ fun b s₁ g₁ S₁ l₁ q₁ p₁ => ?_)
    subst p₁
    have e2 : wpAny (model G.prog G.w) c.A (eval (if b then x else y) c.env) Q E s₁ = (if b = true then wpAny (model G.prog G.w) c.A (eval x c.env) Q E s₁ else wpAny (model G.prog G.w) c.A (eval y c.env) Q E s₁) := by cases b <;> rfl
    rw [← e2]
    exact H.ev e g₁ s₁ S₁ (Vs.le l₁) E Q fun u s₂ g₂ S₂ l₂ q₂ p₂ => q _ _ _ S₂ (l₁.trans l₂) (q₁.trans q₂) p₂
theorem ev_ite (H : Hyp G T r n c ce) {t x y : PySem.Expr} {p : Pos} (e : stepEv T r (cE (k + 1) ce (.IfExp t x y p)) ρ h = some (v, h')) : EvX G c ce.names (.IfExp t x y p) ρ h v h' :=
  sP e (fun h1 e1 e => ev_ite1 (b := true) H e1 e) (fun h1 e1 e => ev_ite1 (b := false) H e1 e) fun _ e => nsome e

theorem bop_ok (H : Hyp G T r n c ce) {op : BoolOp} {p : Pos} {xs : List PySem.Expr} : ∀ {h h' : List O} {v : V}, bopV r (isAnd op) ρ (xs.map (cE k ce)) h = some (v, h') → EvX G c ce.names (.BoolOp op xs p) ρ h v h' := by
  induction xs with
  | nil => exact fun e => nsome e
  | cons x xs ih =>
    intro h h' v e
    cases xs with
    | nil => exact fun g s S Vs E Q q => BoolOp_one (H.ev (show r.ev (cE k ce x) ρ h = some (v, h') from e) g s S Vs E Q q)
    | cons y xs =>
      refine fun g s S Vs E Q q => sB e (fun v1 h1 e1 e => sF e (fun b hb e => ?_) fun _ e => nsome e) fun _ e => nsome e
      have rest : ∀ {g₁ : Gh} {s₁ : Shared}, Sim G c g₁ h1 s₁.heap → g.le g₁ → Same s s₁ → bopV r (isAnd op) ρ ((y :: xs).map (cE k ce)) h1 = some (v, h') → wpAny (model G.prog G.w) c.A (eval (.BoolOp op (y :: xs) p) c.env) Q E s₁ := fun S₁ l₁ q₁ e =>
        ih e _ _ S₁ (Vs.le l₁) E Q fun u s₂ g₂ S₂ l₂ q₂ p₂ => q _ _ _ S₂ (l₁.trans l₂) (q₁.trans q₂) p₂
      cases op with
      | And =>
        refine BoolOp_and (H.ev e1 g s S Vs E _ fun u s₁ g₁ S₁ l₁ q₁ p₁ => ?_)
        have hu := truthy_ok hb p₁
        rw [hu] at p₁ ⊢
        refine wpAny_truthy_bool ?_
        cases b with
        | false => exact inj2 e fun a1 a2 => by subst a1 a2; exact q _ _ _ S₁ l₁ q₁ p₁
        | true => exact rest S₁ l₁ q₁ e
      | Or =>
        refine BoolOp_or (H.ev e1 g s S Vs E _ fun u s₁ g₁ S₁ l₁ q₁ p₁ => ?_)
        have hu := truthy_ok hb p₁
        rw [hu] at p₁ ⊢
        refine wpAny_truthy_bool ?_
        cases b with
        | true => exact inj2 e fun a1 a2 => by subst a1 a2; exact q _ _ _ S₁ l₁ q₁ p₁
        | false => exact rest S₁ l₁ q₁ e
theorem ev_bop (H : Hyp G T r n c ce) {op : BoolOp} {xs : List PySem.Expr} {p : Pos} (e : stepEv T r (cE (k + 1) ce (.BoolOp op xs p)) ρ h = some (v, h')) : EvX G c ce.names (.BoolOp op xs p) ρ h v h' := bop_ok H e

theorem ev_subP (H : Hyp G T r n c ce) {x y : PySem.Expr} {p : Pos} (hs : notSlice y = true) (e : stepEv T r (.sub (cE k ce x) (cE k ce y)) ρ h = some (v, h')) : EvX G c ce.names (.Subscript x y p) ρ h v h' :=
  fun g s S Vs E Q q => sA e (fun _ e => nsome e) fun v1 h1 e1 e => sA e (fun _ e => nsome e) fun v2 h2 e2 e => sE e (fun v3 e3 e => inj2 e fun a1 a2 => by
    subst a1 a2
    refine Subscript_ (H.ev e1 g s S Vs E _ fun a s₁ g₁ S₁ l₁ q₁ p₁ => H.ev e2 g₁ s₁ S₁ (Vs.le l₁) E _ fun b s₂ g₂ S₂ l₂ q₂ p₂ => ?_)
    exact sub_ok H.ok S₂ (VV.le l₂ p₁) p₂ e3 hs E Q fun u s₃ g₃ S₃ l₃ q₃ p₃ => q _ _ _ S₃ ((l₁.trans l₂).trans l₃) ((q₁.trans q₂).trans q₃) p₃) fun _ e => nsome e

theorem natOf_int {m : Nat} (e : natOf v = some m) : v = .d (.int (m : Int)) := by
  cases v
  case d x =>
    cases x
    case int i =>
      cases i with
      | ofNat j => exact iFn (b := Nat.ble j lim = true) e fun _ e => e ▸ rfl
      | negSucc j => exact nsome e
    all_goals exact nsome e
  all_goals exact nsome e
/-- a part of a slice -/
theorem part_ok (H : Hyp G T r n c ce) {x : Option PySem.Expr} {o : Option Nat} (e : optNat r (match x with | some e => some (cE k ce e) | none => none) ρ h = some (o, h')) :
    ∀ g s, Sim G c g h s.heap → Vars G c g ce.names ρ → Ev G c (evalPart x c.env) g s h' (fun _ u => IsPart u (o.map fun n => (n : Int))) := by
  intro g s S Vs E Q q
  cases x with
  | none =>
    refine inj2 e fun a1 a2 => ?_
    subst a1 a2
    rw [evalPart_none]
    exact wpAny_pure (q _ _ _ S (.refl _) (.refl _) .none)
  | some x =>
    rw [evalPart_some]
    exact sB e (fun v1 h1 e1 e => sH e (fun n' hn e => inj2 e fun a1 a2 => by
      subst a1 a2
      refine H.ev e1 g s S Vs E Q fun u s₁ g₁ S₁ l₁ q₁ p₁ => q _ _ _ S₁ l₁ q₁ ?_
      rw [natOf_int hn] at p₁
      exact p₁.onD.on fun t => .int _ _) fun _ e => nsome e) fun _ e => nsome e

/-- what a slice gives -/
theorem slc_tuple (O : Ok G c) (S : Sim G c g h s.heap) {x : V} {a : Value} {xs : List PyData} {m : Nat} {t : Tok} {E Q : Value → Shared → Prop} (pa : VV G c g x a) (e5 : rd h x = .d (.tuple xs)) (l1 : xs.length ≤ 1000000) (h1 : 1 ≤ m) (h2 : m ≤ xs.length) {vx : PySem.Expr} {lo hi : Option PySem.Expr} {sp : Pos}
    (k : ∀ u s' g', Sim G c g' h s'.heap → g.le g' → Same s s' → VV G c g' (.d (.tuple (xs.drop m))) u → Q u s') :
    wpAny (model G.prog G.w) c.A (subscriptTail vx (.Slice lo hi none sp) a (.ref s.heap.objs.size)) Q E { s with heap := s.heap.push { cls := .type "slice", data := .fields #[.int m t, .none, .none] } } := by
  have F1 := S.fr.push { cls := .type "slice", data := .fields #[.int m t, .none, .none] }
  refine rd_tupleK O S pa e5 fun a' us t1 r1 => ?_
  have ht' : IsTup (s.heap.push { cls := .type "slice", data := .fields #[.int m t, .none, .none] }) a' us.toArray := t1.keeps fun _ _ e => Heap.get?_push_of_some _ e
  refine tail_any (s := { s with heap := s.heap.push { cls := .type "slice", data := .fields #[.int m t, .none, .none] } }) ht'.typeIs slot_tuple_getitem.lookup
    (getItem_tuple_from ht' (Heap.IsSliceOf.new ..) h1 (by rw [List.size_toArray, r1.length]; exact h2) ?_ (by rw [sizeLine_eq, List.size_toArray, r1.length]; exact Nat.le_trans l1 (by decide))) rfl
  have N1 := News.push F1 (S.news.grown fun _ _ e => Heap.get?_push_of_some _ e) { cls := .type "tuple", data := .seq (us.drop m).toArray }
  exact freeze_tuple (E := E) (us := us.drop m) (xs := xs.drop m) S (F1.push _) N1 (fun p hp => Nat.lt_of_lt_of_le (S.lt p hp) (by rw [Heap.size_push]; exact Nat.le_succ _)) (r1.drop m) k rfl ⟨rfl, rfl⟩
theorem slc_list (O : Ok G c) (S : Sim G c g h s.heap) {x : V} {a : Value} {xs : List PyData} {m : Nat} {t : Tok} {E Q : Value → Shared → Prop} (pa : VV G c g x a) (e5 : rd h x = .d (.list xs)) (l1 : xs.length ≤ 1000000) {vx : PySem.Expr} {lo hi : Option PySem.Expr} {sp : Pos}
    (k : ∀ u s' g', Sim G c g' h s'.heap → g.le g' → Same s s' → VV G c g' (.d (.list (xs.take m))) u → Q u s') :
    wpAny (model G.prog G.w) c.A (subscriptTail vx (.Slice lo hi none sp) a (.ref s.heap.objs.size)) Q E { s with heap := s.heap.push { cls := .type "slice", data := .fields #[.none, .int m t, .none] } } := by
  have F1 := S.fr.push { cls := .type "slice", data := .fields #[.none, .int m t, .none] }
  refine rd_listK O S pa e5 fun a' us t1 r1 => ?_
  refine tail_any (s := { s with heap := s.heap.push { cls := .type "slice", data := .fields #[.none, .int m t, .none] } }) (Heap.IsList.typeIs (s := { s with heap := s.heap.push { cls := .type "slice", data := .fields #[.none, .int m t, .none] } }) (t1.push _)) slot_list_getitem.lookup
    (wpAny_getItem_list_slice (t1.push _) (Heap.IsSliceOf.new ..) .none (.int _ _) .none (by simp) ?_ (by rw [sizeLine_eq, List.size_toArray, r1.length]; exact Nat.le_trans l1 (by decide))) rfl
  have e0 : slicePick us.toArray none (some (m : Int)) none = (us.take m).toArray := by
    have e : sliceBounds none (some (m : Int)) none us.toArray.size = (((0 : Nat) : Int), ((min m us.toArray.size : Nat) : Int), 1) := by
      simp only [sliceBounds, Option.getD_none, show (1 : Int) > 0 by decide, if_true, if_neg (Int.not_lt.mpr (Int.natCast_nonneg m))]
      congr 1
      congr 1
      omega
    rw [kmk_pick_nat _ e]
    show ((us.drop 0).take (min m us.toArray.size - 0)).toArray = _
    rw [List.drop_zero, Nat.sub_zero, List.size_toArray, kmk_take_min]
  rw [e0]
  have N1 := News.push F1 (S.news.grown fun _ _ e => Heap.get?_push_of_some _ e) { cls := .type "list", data := .seq (us.take m).toArray }
  exact freeze_list (E := E) (us := us.take m) (xs := xs.take m) (n := 0) S (F1.push _) N1 (fun p hp => Nat.lt_of_lt_of_le (S.lt p hp) (by rw [Heap.size_push]; exact Nat.le_succ _)) (r1.take m) k rfl ⟨rfl, rfl⟩
theorem part_int {b : Value} {m : Int} (h : IsPart b (some m)) : ∃ t, b = .int m t := by
  cases h; exact ⟨_, rfl⟩
theorem part_none {b : Value} (h : IsPart b none) : b = .none := by
  cases h; rfl
theorem slcV_on {P : Prop} {x : V} {lo hi : Option Nat} (e : slcV h x lo hi = some v) (k1 : ∀ xs m, rd h x = .d (.tuple xs) → lo = some m → hi = none → xs.length ≤ 1000000 → 1 ≤ m → m ≤ xs.length → v = .d (.tuple (xs.drop m)) → P)
    (k2 : ∀ xs m, rd h x = .d (.list xs) → lo = none → hi = some m → xs.length ≤ 1000000 → v = .d (.list (xs.take m)) → P) : P := by
  unfold slcV at e
  cases e1 : rd h x <;> rw [e1] at e
  case d d =>
    cases d
    case tuple xs =>
      cases lo with
      | none => exact nsome e
      | some m =>
        cases hi with
        | some _ => exact nsome e
        | none =>
          refine iFn (b := (short xs && (Nat.ble 1 m && Nat.ble m xs.length)) = true) e fun hc e => ?_
          obtain ⟨h1, h2⟩ := Bool.and_eq_true_iff.mp hc
          obtain ⟨h2, h3⟩ := Bool.and_eq_true_iff.mp h2
          exact k1 xs m e1 rfl rfl (short_le h1) (Nat.le_of_ble_eq_true h2) (Nat.le_of_ble_eq_true h3) e
    case list xs =>
      cases lo with
      | some _ => exact nsome e
      | none =>
        cases hi with
        | none => exact nsome e
        | some m => exact iFn (b := short xs = true) e fun hc e => k2 xs m e1 rfl rfl (short_le hc) e
    all_goals exact nsome e
  all_goals exact nsome e
theorem ev_slc (H : Hyp G T r n c ce) {x : PySem.Expr} {lo hi : Option PySem.Expr} {sp p : Pos} (e : stepEv T r (cE (k + 1) ce (.Subscript x (.Slice lo hi none sp) p)) ρ h = some (v, h')) : EvX G c ce.names (.Subscript x (.Slice lo hi none sp) p) ρ h v h' := by
  refine fun g s S Vs E Q q => sA e (fun _ e => nsome e) fun v1 h1 e1 f1 => sT f1 (fun _ e => nsome e) fun o1 h2 e2 f2 => sT f2 (fun _ e => nsome e) fun o2 h3 e3 f3 => sE f3 (fun v4 e4 f4 => inj2 f4 fun a1 a2 => ?_) fun _ e => nsome e
  clear e f1 f2 f3 f4
  subst a1 a2
  refine Subscript_ (H.ev e1 g s S Vs E _ fun a s₁ g₁ S₁ l₁ q₁ p₁ => ?_)
  refine wpAny_Slice (part_ok H e2 g₁ s₁ S₁ (Vs.le l₁) E _ fun b s₂ g₂ S₂ l₂ q₂ p₂ => part_ok H e3 g₂ s₂ S₂ (Vs.le (l₁.trans l₂)) E _ fun d s₃ g₃ S₃ l₃ q₃ p₃ => ?_)
  rw [evalPart_none]
  refine wpAny_pure ?_
  have pa := VV.le (l₂.trans l₃) p₁
  have l := (l₁.trans l₂).trans l₃
  have qq := (q₁.trans q₂).trans q₃
  refine slcV_on e4 (fun xs m e5 e6 e7 l1 h1 h2 e => ?_) fun xs m e5 e6 e7 l1 e => ?_
  · subst e6 e7 e
    rw [part_none p₃]
    obtain ⟨t, rfl⟩ := part_int (m := (m : Int)) p₂
    exact slc_tuple H.ok S₃ pa e5 l1 h1 h2 fun v' s' g' a b c d => q v' s' g' a (l.trans b) (qq.trans c) d
  · subst e6 e7 e
    rw [part_none p₂]
    obtain ⟨t, rfl⟩ := part_int (m := (m : Int)) p₃
    exact slc_list H.ok S₃ pa e5 l1 fun v' s' g' a b c d => q v' s' g' a (l.trans b) (qq.trans c) d

theorem baseOk_eq {o : PySem.Expr} {attr : Str} {env : Env} {whole : Sem Value} (h : baseOk o = true) : attributeBase o attr env whole = whole := by
  cases o
  case Call g as ks p =>
    cases g
    case Name id q =>
      cases as with
      | cons _ _ => rfl
      | nil =>
        cases ks with
        | cons _ _ => rfl
        | nil =>
          have : (id != "super") = true := by
            rw [bne_iff_ne]
            intro e
            have h3 : (!strEq id "super") = true := h
            rw [(strEq_iff id "super").mpr e] at h3
            exact ftrue h3
          unfold attributeBase
          dsimp only
          rw [this, Bool.true_or, Bool.true_or, Bool.true_or, if_pos rfl]
          try exact bind_pure _
    all_goals rfl
  all_goals rfl
theorem ev_attr (H : Hyp G T r n c ce) {x : PySem.Expr} {a : Str} {p : Pos} : ∀ (e : stepEv T r (cE (k + 1) ce (.Attribute x a p)) ρ h = some (v, h')), EvX G c ce.names (.Attribute x a p) ρ h v h' :=
  ifE (M := fun e0 => stepEv T r e0 ρ h = some (v, h') → EvX G c ce.names (.Attribute x a p) ρ h v h') (fun e => nsome e)
    fun hc e g s S Vs E Q q => sB e (fun v1 h1 e1 e => sE e (fun v2 e2 e => inj2 e fun a1 a2 => by
      subst a1 a2
      have hc' := Bool.and_eq_true_iff.mp hc
      refine Attribute_any_ (H.ev e1 g s S Vs E _ fun u s₁ g₁ S₁ l₁ q₁ p₁ => ?_) (by rw [arm_eval_Attribute, baseOk_eq hc'.1])
      exact attr_ok H.ok H.CK hc'.2 S₁ p₁ e2 E Q fun u s₂ g₂ S₂ l₂ q₂ p₂ => q _ _ _ S₂ (l₁.trans l₂) (q₁.trans q₂) p₂) fun _ e => nsome e) fun _ e => nsome e
end Mine
end
section
open PySem PySem.W PyProof.Rows PySem.Calls PySem.SeqAt
namespace Mine
variable {G : Gl} {α β : Type} {c : Cx} {g : Gh} {s : Shared} {h h' h₁ h₂ : List O}
variable {T : Tab} {r : Rec} {n k : Nat} {ce : CE} {ρ : Rho} {v : V}

theorem evalArgs_any {M : Model} {A : Around} {E : Value → Shared → Prop} {f : Value} {args : List (Bool × Sem Value)} {Q : Args → Shared → Prop} (hp : args.any (·.1) = false)
    (h : wpAny M A (spliced args) (fun vs s' => Q ⟨vs, []⟩ s') E s) : wpAny M A (evalArgs f true args []) Q E s := by
  cases args with
  | nil => exact fun Γ p hΓ => evalArgs_nil3 (show Q ⟨[], []⟩ s from h Γ p hΓ) Γ p hΓ
  | cons a rest =>
    obtain ⟨b, x⟩ := a
    cases b with
    | true => simp at hp
    | false => exact evalArgs_plain h

/-- the callee's kind -/
noncomputable def Callee (G : Gl) : Value → Prop
  | .ref a => keepIn G.K (.ref a) = true
  | .builtin _ => True
  | .type _ => True
  | _ => False

theorem callWith_ok (O : Ok G c) {f : Value} (hf : Callee G f) {first : List Value} {args : List PySem.Expr} {p : Pos} {vs : List V} {P : Gh → Value → Prop} (S : Sim G c g h s.heap) (Vs : Vars G c g ce.names ρ)
    (hp : args.all plainArg = true) (ra : EvXs G c ce.names ρ args h vs h₁)
    (k : ∀ us s₁ g₁, Sim G c g₁ h₁ s₁.heap → g.le g₁ → Same s s₁ → VVs G c g₁ vs us → Ev G c (call f (first ++ us)) g₁ s₁ h₂ P) :
    Ev G c (callWith p f first (backTo p (starEach args c.env)) []) g s h₂ P := fun E Q q => by
  have sp : wpAny (model G.prog G.w) c.A (spliced (backTo p (starEach args c.env))) (fun us s₁ => G.K.In s₁.heap ∧ wpAny (model G.prog G.w) c.A (call f (first ++ us)) Q E s₁) E s :=
    ev_spliced ra hp S Vs E _ fun us s₁ g₁ S₁ l₁ q₁ p₁ => ⟨O.K.keeps S₁.fr.keep, k us s₁ g₁ S₁ l₁ q₁ p₁ E Q fun v s₂ g₂ S₂ l₂ q₂ p₂ => q _ _ _ S₂ (l₁.trans l₂) (q₁.trans q₂) p₂⟩
  have sp' : wpAny (model G.prog G.w) c.A (spliced (backTo p (starEach args c.env))) (fun us s₁ => wpAny (model G.prog G.w) c.A (call f (first ++ us)) Q E s₁) E s := wpAny_mono sp (fun _ _ z => z.2) fun _ _ z => z
  have pl := starEach_plain (env := c.env) p hp
  cases f with
  | ref a => exact callWith_of (by rw [pl]; rfl) (keeps_K hf) (evalArgs_any pl sp)
  | builtin id => exact PySem.Calls.callWith_builtin pl (evalArgs_any pl sp')
  | type T => exact PySem.callWith_type pl (evalArgs_any pl sp')
  | _ => exact hf.elim

theorem wpAny_calls {M : Model} {A : Around} {E : Value → Shared → Prop} {f : Value} {us : List Value} {Q : Value → Shared → Prop}
    (h : ∀ R : Result → Shared → Prop, (∀ u s', Q u s' → R (.ok (.ret u)) s') → codeAny M A (.call f ⟨us, []⟩) R s) : wpAny M A (call f us) Q E s := wpAny_call (h _ fun _ _ q => q)

theorem call_ok (H : Hyp G T r n c ce) {f : Nat} {vs : List V} {us : List Value} (S : Sim G c g h s.heap) (rs : VVs G c g vs us) (e : r.call f vs h = some (v, h')) : Ev G c (call (.ref f) us) g s h' (fun g' u => VV G c g' v u) := fun E Q q =>
  wpAny_calls fun R hR => H.IH.call c H.ok H.Rn f vs h v h' e g s us S rs R fun u s' g' S' l' q' p' => hR _ _ (q _ _ _ S' l' q' p')

/-- what the table says of its functions -/
structure TabOk (G : Gl) (T : Tab) : Prop where
  fns : ∀ f fn, findN f T.funs = some fn → keepIn G.K (.ref f) = true
theorem ev_callF (H : Hyp G T r n c ce) {x : Str} {xp p : Pos} {args : List PySem.Expr} {f : Nat} (hr : reserved x = false) (hp : plainArgs args = true) (hg : isGl x ce.names = true) (hx : ce.gl x = some (.fn f))
    (e : stepEv T r (.callF f (args.map (cE k ce))) ρ h = some (v, h')) : EvX G c ce.names (.Call (.Name x xp) args [] p) ρ h v h' := by
  intro g s S Vs E Q q
  revert e; intro ee; refine sD ee (fun vs h1 e1 e => ?_) fun _ e => nsome e; clear ee
  have gx : GvOk G x (.fn f) := H.Ck.gl _ _ hx
  refine Call_ (ev_global (P := fun g' u => u = .ref f ∧ g' = g) H.ok S (H.Ck.glk _ hg) hr gx.1 ⟨rfl, rfl⟩ E _ fun u s₁ g₁ S₁ l₁ q₁ p₁ => ?_)
  obtain ⟨rfl, rfl⟩ := p₁
  exact callWith_ok H.ok (f := .ref f) gx.2 (first := []) S₁ Vs (plain_of hp).1 (evs_ok H e1) (fun us s₂ g₂ S₂ l₂ q₂ p₂ => call_ok H S₂ p₂ e) E Q fun u s₃ g₃ S₃ l₃ q₃ p₃ => q _ _ _ S₃ l₃ (q₁.trans q₃) p₃
theorem ev_callB (H : Hyp G T r n c ce) {x : Str} {xp p : Pos} {args : List PySem.Expr} {b : BI} {mu : Bool} (hr : reserved x = false) (hp : plainArgs args = true) (hg : isGl x ce.names = true) (hx : ce.gl x = some (.bi b))
    (e : stepEv T r (.callB mu b (args.map (cE k ce))) ρ h = some (v, h')) : EvX G c ce.names (.Call (.Name x xp) args [] p) ρ h v h' := by
  intro g s S Vs E Q q
  revert e; intro ee; refine sD ee (fun vs h1 e1 e => ?_) fun _ e => nsome e; clear ee
  have gx : GvOk G x (.bi b) := H.Ck.gl _ _ hx
  refine Call_ (ev_builtin (P := fun g' u => u = biVal b ∧ g' = g) H.ok S (H.Ck.glk _ hg) hr gx.1 gx.2.1 gx.2.2 ⟨rfl, rfl⟩ E _ fun u s₁ g₁ S₁ l₁ q₁ p₁ => ?_)
  obtain ⟨rfl, rfl⟩ := p₁
  exact callWith_ok H.ok (f := biVal b) (by cases b <;> trivial) (first := []) S₁ Vs (plain_of hp).1 (evs_ok H e1) (fun us s₂ g₂ S₂ l₂ q₂ p₂ => callB_ok H.ok H.hu S₂ p₂ e) E Q fun u s₃ g₃ S₃ l₃ q₃ p₃ => q _ _ _ S₃ l₃ (q₁.trans q₃) p₃
theorem Around.room_under {n : Nat} {A : Around} {C : Addr} {us : List Value} (h : Room (n + 1) A) : Room n (A.under (.builtin "type.__call__" ⟨.ref C :: us, []⟩)) := by
  refine ⟨?_, ?_⟩
  · show A.depth + 1 + 2 * n < _
    have := h.1; omega
  · have := h.2
    show A.units + (Code.builtin "type.__call__" ⟨.ref C :: us, []⟩).cUnits + 20 * n + 200 < _
    have : (Code.builtin "type.__call__" ⟨.ref C :: us, []⟩).cUnits ≤ 20 := by
      show 1 + 3 * 0 ≤ 20
      decide
    omega

theorem ev_callC (H : Hyp G T r n c ce) {x : Str} {xp p : Pos} {args : List PySem.Expr} {C : Nat} (hr : reserved x = false) (hp : plainArgs args = true) (hg : isGl x ce.names = true) (hx : ce.gl x = some (.cls C))
    (e : stepEv T r (.callC C (args.map (cE k ce))) ρ h = some (v, h')) : EvX G c ce.names (.Call (.Name x xp) args [] p) ρ h v h' := by
  refine fun g s S Vs E Q q => sC e (fun _ e => nsome e) fun vs h1 e1 e => sM e (fun _ e => nsome e) fun cl hcl e => wE e (fun h2 e2 e => inj2 e fun a1 a2 => ?_) fun e => nsome e
  subst a1 a2
  have gx : GvOk G x (.cls C) := H.Ck.gl _ _ hx
  have K := H.CK C gx.2
  obtain ⟨k1, k2, k3⟩ := K.ms cl hcl
  refine Call_ (ev_global (P := fun g' u => u = .ref C ∧ g' = g) H.ok S (H.Ck.glk _ hg) hr gx.1 ⟨rfl, rfl⟩ E _ fun u s₁ g₁ S₁ l₁ q₁ p₁ => ?_)
  obtain ⟨rfl, rfl⟩ := p₁
  refine callWith_ok (h₂ := h') H.ok (f := .ref C) K.kp (first := []) S₁ Vs (plain_of hp).1 (evs_ok H e1) (fun us s₂ g₂ S₂ l₂ q₂ p₂ => fun E Q q => ?_) E Q fun u s₃ g₃ S₃ l₃ q₃ p₃ => q _ _ _ S₃ l₃ (q₁.trans q₃) p₃
  refine call_cls S₂.fr H.ok.K S₂.news K.mkC k1 k2 fun xa dx Hh F' N' hlt hxd => ?_
  have nd : (([(xa, instObj C dx), (dx, dictOf [] 0)] ++ ledOf c g₂).map (·.1)).Nodup := by
    have ap : ∀ {a : Addr}, (∀ p ∈ ledOf c g₂, p.1 < a) → a ∉ (ledOf c g₂).map (·.1) := fun q hm => by
      obtain ⟨p, hp, e⟩ := List.mem_map.mp hm
      exact Nat.lt_irrefl _ (e ▸ q p hp)
    exact List.nodup_cons.mpr ⟨fun hm => (List.mem_cons.mp hm).elim (Nat.ne_of_gt hxd) (ap (fun p hp => Nat.lt_trans (hlt p hp) hxd)), List.nodup_cons.mpr ⟨ap hlt, S₂.nd⟩⟩
  have S₃ : Sim G c ⟨g₂.as ++ [xa], g₂.Z, g₂.mu ++ [[(xa, instObj C dx), (dx, dictOf [] 0)]]⟩ (h1 ++ [.attrs C []]) ({ s₂ with heap := Hh } : Shared).heap := S₂.push F' N' nd (.attrs gx.2 .nil)
  have l₃ := Gh.le_push g₂ xa [(xa, instObj C dx), (dx, dictOf [] 0)]
  have hloc : VV G c ⟨g₂.as ++ [xa], g₂.Z, g₂.mu ++ [[(xa, instObj C dx), (dx, dictOf [] 0)]]⟩ (.loc h1.length) (.ref xa) := .loc (by rw [← S₂.la]; exact List.getElem?_concat_length)
  let c' : Cx := { c with A := c.A.under (.builtin "type.__call__" ⟨.ref C :: us, []⟩) }
  have O' : Ok G c' := ⟨H.ok.Kb, H.ok.stay, H.ok.K, H.ok.T, H.ok.below, H.ok.frames, H.ok.ff, H.ok.fk, H.ok.hh, H.ok.ek, H.ok.eg, H.ok.eb, H.ok.cells⟩
  have ss : ∀ {g h H}, Sim G c' g h H → Sim G c g h H := fun S => ⟨S.fr, S.news, S.nd, S.la, S.lm, S.objs⟩
  have ss' : ∀ {g h H}, Sim G c g h H → Sim G c' g h H := fun S => ⟨S.fr, S.news, S.nd, S.la, S.lm, S.objs⟩
  refine H.IH.call c' O' (Around.room_under H.Rm) cl.init _ _ _ _ e2 _ { s₂ with heap := Hh } (.ref xa :: us) (ss' S₃) (.cons hloc (VVs.le l₃ p₂)) _ fun u s' g' S' l' q' p' => ?_
  exact ⟨none_is p', q _ _ _ (ss S') (l₃.trans l') ⟨q'.os, q'.gens⟩ (VV.le l' hloc)⟩
theorem meth_eq {o : PySem.Expr} {name : Str} {apos pos : Pos} {args : List PySem.Expr} {env : Env} (hb : baseOk o = true) (hp : plainArgs args = true) (hl : apos.endLine = pos.line) : ∃ pl,
    eval (.Call (.Attribute o name apos) args [] pos) env = (do
      let ov ← eval o env
      standAt apos.atName
      let (f, first) ← holding [ov] (getMethod ov name pl)
      callWith pos f first (backTo pos (starEach args env)) []) := by
  have hp' := plain_of hp
  refine ⟨(do return (← importBound o env).getD true), ?_⟩
  show (do
    let ov ← attributeBase o name env (eval o env)
    standAt apos.atName
    methodCall o name apos pos env ov (args.length + 0) (backTo pos (starEach args env)) []) = _
  rw [baseOk_eq hb]
  have hf : methodCallForm (args.length + 0) (backTo pos (starEach args env)) [] = true := by
    have pl := starEach_plain (env := env) pos hp'.1
    unfold methodCallForm
    simp only [List.isEmpty_nil, if_true, List.all_nil, Bool.and_true, Bool.and_eq_true, decide_eq_true_eq, Nat.add_zero]
    refine ⟨?_, by omega⟩
    rw [List.all_eq_true]
    intro x hx
    have := (List.any_eq_false.mp pl) x hx
    simpa using this
  congr 1
  funext ov
  congr 1
  funext _
  unfold methodCall
  rw [hf]
  unfold calleeOf methodCallPos
  simp only [if_true, Bool.not_true, Bool.false_or, hl, beq_self_eq_true, pure_bind]

theorem ev_methI (H : Hyp G T r n c ce) {o : PySem.Expr} {name : Str} {ap p : Pos} {args : List PySem.Expr} (hb : baseOk o = true) (hp : plainArgs args = true) (hl : ap.endLine = p.line)
    (e : stepEv T r (.methI name (cE k ce o) (args.map (cE k ce))) ρ h = some (v, h')) : EvX G c ce.names (.Call (.Attribute o name ap) args [] p) ρ h v h' := by
  refine fun g s S Vs E Q q => wF e (fun m h1 e1 e => wB e (fun C l hm e => iF e (fun _ e => nsome e) fun hnone e => sC e (fun _ e => nsome e) fun vs h2 e2 e => sM e (fun _ e => nsome e) fun cl hcl e => sI e (fun _ e => nsome e) fun f hf e => ?_) fun e => nsome e) fun e => nsome e
  have hnone' : findS name l = none := Option.not_isSome_iff_eq_none.mp hnone
  obtain ⟨pl, he⟩ := meth_eq (env := c.env) (name := name) hb hp hl
  refine MethodCall_ (pl := pl) (H.ev e1 g s S Vs E _ fun u s₁ g₁ S₁ l₁ q₁ p₁ => ?_) he
  refine method_ok H.ok H.CK S₁ hm p₁ hnone' hcl hf E _ fun fx s₂ g₂ S₂ l₂ q₂ p₂ => ?_
  obtain ⟨rfl, rfl⟩ := p₂
  have hcg : G.cg C := instOf (P := fun _ => G.cg C) S₁ hm p₁ fun _ _ _ _ h _ _ _ _ => h
  exact callWith_ok H.ok (f := .ref f) (((H.CK C hcg).ms cl hcl).2.2 name f hf).2.2 (first := [u]) S₂ (Vs.le l₁) (plain_of hp).1 (evs_ok H e2) (fun us s₃ g₃ S₃ l₃ q₃ p₃ => call_ok H S₃ (.cons (VV.le l₃ p₁) p₃) e) E Q fun u s₄ g₄ S₄ l₄ q₄ p₄ => q _ _ _ S₄ (l₁.trans l₄) ((q₁.trans q₂).trans q₄) p₄
theorem mbOf_name {x : Str} {m : MB} (e : mbOf x = some m) : x = mbName m :=
  iF (b := strEq x "get" = true) e (fun q e => Option.some.inj e ▸ (strEq_iff _ _).mp q) fun _ e => iF (b := strEq x "pop" = true) e (fun q e => Option.some.inj e ▸ (strEq_iff _ _).mp q) fun _ e => iFn (b := strEq x "append" = true) e fun q e => e ▸ (strEq_iff _ _).mp q
theorem sameKind_of {a b : Option Bool} (e : sameKind a b = true) : ∃ x, a = some x ∧ b = some x := by
  cases a with
  | none => exact ftrue e
  | some x =>
    cases b with
    | none => exact ftrue e
    | some y => exact ⟨x, rfl, congrArg some (eq_of_beq e).symm⟩
theorem mb_id {m : MB} {x : V} {vs : List V} {kd : Bool} (e : methB h m x vs = some (v, h')) (k : mkind h x = some kd) : ∃ id, mbId m kd = some id := mkind_on k (fun n l e1 hn e2 => by
    subst e1 e2
    have e : methO h n h[n]? m vs = some (v, h') := e
    rw [hn] at e
    cases m
    · exact nsome e
    · exact ⟨_, rfl⟩
    · exact ⟨_, rfl⟩) fun n l e1 hn e2 => by
    subst e1 e2
    have e : methO h n h[n]? m vs = some (v, h') := e
    rw [hn] at e
    cases m
    · exact ⟨_, rfl⟩
    · exact ⟨_, rfl⟩
    · exact nsome e
theorem ev_methB (H : Hyp G T r n c ce) {o : PySem.Expr} {name : Str} {m : MB} {ap p : Pos} {args : List PySem.Expr} (hb : baseOk o = true) (hp : plainArgs args = true) (hl : ap.endLine = p.line) (hm : mbOf name = some m)
    (e : stepEv T r (.methB m (cE k ce o) (args.map (cE k ce))) ρ h = some (v, h')) : EvX G c ce.names (.Call (.Attribute o name ap) args [] p) ρ h v h' := by
  have := mbOf_name hm; subst this
  refine fun g s S Vs E Q q => sA e (fun _ e => nsome e) fun x h1 e1 e => sC e (fun _ e => nsome e) fun vs h2 e2 e => iF e (fun hs e => ?_) fun _ e => nsome e
  obtain ⟨kd, k1, k2⟩ := sameKind_of hs
  obtain ⟨id, hid⟩ := mb_id e k2
  obtain ⟨pl, he⟩ := meth_eq (env := c.env) (name := mbName m) hb hp hl
  refine MethodCall_ (pl := pl) (H.ev e1 g s S Vs E _ fun u s₁ g₁ S₁ l₁ q₁ p₁ => ?_) he
  refine getMethod_ok H.ok S₁ p₁ k1 hid E _ fun fx s₂ g₂ S₂ l₂ q₂ p₂ => ?_
  obtain ⟨rfl, rfl⟩ := p₂
  refine callWith_ok H.ok (f := .builtin id) trivial (first := [u]) S₂ (Vs.le l₁) (plain_of hp).1 (evs_ok H e2) (fun us s₃ g₃ S₃ l₃ q₃ p₃ => ?_) E Q fun u s₄ g₄ S₄ l₄ q₄ p₄ => q _ _ _ S₄ (l₁.trans l₄) ((q₁.trans q₂).trans q₄) p₄
  obtain ⟨id', h1', h2'⟩ := methB_ok H.ok S₃ (VV.le l₃ p₁) p₃ e k2
  rw [hid] at h1'; cases h1'
  exact h2'
end Mine
end
section
open PySem PySem.W PyProof.Rows PySem.Calls PySem.SeqAt
namespace Mine
variable {G : Gl} {α β : Type} {c : Cx} {g : Gh} {s : Shared} {h h' h₁ h₂ : List O}
variable {T : Tab} {r : Rec} {n k : Nat} {ce : CE} {ρ : Rho} {v : V}

/-! a private thing in the ledger -/
noncomputable def Cx.with (c : Cx) (p : Addr × Obj) : Cx := { c with pri := p :: c.pri }
theorem Sim.priv {H : Heap} {D : Addr} {o : Obj} (S : Sim G c g h s.heap) (F : Fr c.h₀ c.L H c.m) (N : News c.h₀ c.L H ((D, o) :: ledOf c g)) (hD : ∀ p ∈ ledOf c g, p.1 ≠ D) : Sim G (c.with (D, o)) g h H where
  fr := F
  news := fun p hp => N p (by
    unfold ledOf Cx.with at hp
    unfold ledOf
    simp only [List.mem_append, List.mem_cons, List.cons_append] at hp ⊢
    grind)
  nd := by
    have : (ledOf (c.with (D, o)) g).Perm ((D, o) :: ledOf c g) := by
      unfold ledOf Cx.with
      exact List.perm_middle
    refine (this.map (·.1)).nodup_iff.mpr ?_
    rw [List.map_cons, List.nodup_cons]
    exact ⟨fun q => by obtain ⟨p, hp, e⟩ := List.mem_map.mp q; exact hD p hp e, S.nd⟩
  la := S.la
  lm := S.lm
  objs := S.objs
theorem Sim.unpriv {H : Heap} {D : Addr} {o : Obj} (S : Sim G (c.with (D, o)) g h H) : Sim G c g h H ∧ News c.h₀ c.L H ((D, o) :: ledOf c g) ∧ ∀ p ∈ ledOf c g, p.1 ≠ D := by
  have pm : (ledOf (c.with (D, o)) g).Perm ((D, o) :: ledOf c g) := by
    unfold ledOf Cx.with
    exact List.perm_middle
  have N : News c.h₀ c.L H ((D, o) :: ledOf c g) := fun p hp => S.news p (pm.mem_iff.mpr hp)
  have nd := (pm.map (·.1)).nodup_iff.mp S.nd
  rw [List.map_cons, List.nodup_cons] at nd
  refine ⟨⟨S.fr, fun p hp => N p (.tail _ hp), nd.2, S.la, S.lm, S.objs⟩, N, fun p hp e => nd.1 ?_⟩
  exact List.mem_map.mpr ⟨p, hp, e⟩
theorem Ok.with (O : Ok G c) (p : Addr × Obj) : Ok G (c.with p) := ⟨O.Kb, O.stay, O.K, O.T, O.below, O.frames, O.ff, O.fk, O.hh, O.ek, O.eg, O.eb, O.cells⟩
theorem CeOk.with (C : CeOk G ce c) (p : Addr × Obj) : CeOk G ce (c.with p) := ⟨C.gl, C.glk, C.look, C.nd, C.loc, C.cell⟩
theorem Hyp.with (H : Hyp G T r n c ce) (p : Addr × Obj) : Hyp G T r n (c.with p) ce := ⟨H.IH, H.ok.with p, H.Rm, H.Ck.with p, H.CK⟩
theorem Var.with {x : Str} {u : Value} {p : Addr × Obj} (h : Var c x u) : Var (c.with p) x u := by
  rcases h with h | ⟨h1, o, m', h2, h3⟩ | h
  · exact .inl h
  · exact .inr (.inl ⟨h1, o, m', .tail _ h2, h3⟩)
  · exact .inr (.inr h)
theorem Vars.with {names : List (Str × NameKind)} {p : Addr × Obj} (h : Vars G c g names ρ) : Vars G (c.with p) g names ρ := fun i x k v a b d => let ⟨u, e, f⟩ := h i x k v a b d; ⟨u, e.with, f⟩

theorem Sim.freezeN {H : Heap} {D : Addr} {o : Obj} (S : Sim G c g h s.heap) (F : Fr c.h₀ c.L H c.m) (N : News c.h₀ c.L H ((D, o) :: ledOf c g)) (hD : ∀ p ∈ ledOf c g, p.1 ≠ D) :
    Sim G c ⟨g.as, (D, o) :: g.Z, g.mu⟩ h H where
  fr := F
  news := fun p hp => N p (by
    unfold ledOf at hp ⊢
    simp only [List.mem_append, List.mem_cons] at hp ⊢
    grind)
  nd := by
    have : (ledOf c ⟨g.as, (D, o) :: g.Z, g.mu⟩).Perm ((D, o) :: ledOf c g) := by
      unfold ledOf
      simp only [← List.append_assoc]
      exact List.perm_middle
    refine (this.map (·.1)).nodup_iff.mpr ?_
    rw [List.map_cons, List.nodup_cons]
    exact ⟨fun q => by obtain ⟨p, hp, e⟩ := List.mem_map.mp q; exact hD p hp e, S.nd⟩
  la := S.la
  lm := S.lm
  objs := fun i o' a b h1 h2 h3 => (S.objs i o' a b h1 h2 h3).mono (Kn.mono fun _ q => .tail _ q) (List.prefix_refl _)
theorem Sim.pushN {H : Heap} {D : Addr} {ob : Obj} {o : O} (S : Sim G c g h s.heap) (F : Fr c.h₀ c.L H c.m) (N : News c.h₀ c.L H ((D, ob) :: ledOf c g)) (hD : ∀ p ∈ ledOf c g, p.1 ≠ D)
    (r : OR (prog := G.prog) (w := G.w) G.cg (kn c g) (g.as ++ [D]) o D [(D, ob)]) : Sim G c ⟨g.as ++ [D], g.Z, g.mu ++ [[(D, ob)]]⟩ (h ++ [o]) H :=
  S.push (b := [(D, ob)]) F N (by
    rw [List.cons_append, List.nil_append, List.map_cons, List.nodup_cons]
    exact ⟨fun z => by obtain ⟨p, hp, e⟩ := List.mem_map.mp z; exact hD p hp e, S.nd⟩) r

/-! key and value, key and value .. -/
noncomputable def keyE (k : Nat) (ce : CE) : Option PySem.Expr → E := fun x => match x with | some x => cE k ce x | none => .fail
inductive Rel2 (G : Gl) (c : Cx) (g : Gh) : List V → List V → List (Value × Value) → Prop
  | nil : Rel2 G c g [] [] []
  | cons {a b u w as bs ps} : VV G c g a u → VV G c g b w → Rel2 G c g as bs ps → Rel2 G c g (a :: as) (b :: bs) ((u, w) :: ps)
def Rel2C (G : Gl) (c : Cx) (g : Gh) (P : List (Value × Value) → Prop) : List V → List V → Prop
  | [], _ => P []
  | a :: as, l => match l with
    | [] => True
    | b :: bs => ∀ u w ps, VV G c g a u → VV G c g b w → Rel2 G c g as bs ps → P ((u, w) :: ps)
@[elab_as_elim] theorem Rel2.on {as bs : List V} {ps : List (Value × Value)} {P : List (Value × Value) → Prop} (r : Rel2 G c g as bs ps) : Rel2C G c g P as bs → P ps := by
  cases r with
  | nil => exact fun k => k
  | cons x y z => exact fun k => k _ _ _ x y z
theorem Rel2.le {g g' : Gh} (l : g.le g') {as bs ps} (r : Rel2 G c g as bs ps) : Rel2 G c g' as bs ps :=
  Rel2.rec (motive := fun as bs ps _ => Rel2 G c g' as bs ps) .nil (fun x y _ z => .cons (VV.le l x) (VV.le l y) z) r
theorem pairs_ok (H : Hyp G T r n c ce) {pos : Pos} : ∀ {keys : List (Option PySem.Expr)} {values : List PySem.Expr} {h h' : List O} {a b : List V}, evp r ρ (keys.map (keyE k ce)) (values.map (cE k ce)) h = some (a, b, h') →
    (keys.all (·.isSome) = true ∧ keys.length = values.length) ∧ ∀ g s, Sim G c g h s.heap → Vars G c g ce.names ρ → Ev G c (evalPairs (pairTrees keys values c.env pos)) g s h' (fun g' ps => Rel2 G c g' a b ps)
  | [], [], _, _, _, _, e => ⟨⟨rfl, rfl⟩, fun g s S Vs => inj3 e fun e1 e2 e3 => by subst e1 e2 e3; exact Ev.pure S .nil⟩
  | [], _ :: _, _, _, _, _, e => nsome e
  | _ :: _, [], _, _, _, _, e => nsome e
  | none :: ks, v :: vs, h, h', a, b, e => sA e (fun _ e => nsome e) fun _ _ e1 _ => nsome ((H.IH.fail ρ h).symm.trans e1)
  | some x :: ks, y :: ys, h, h', a, b, e => sA e (fun _ e => nsome e) fun u h1 e1 e => sA e (fun _ e => nsome e) fun w h2 e2 e => sEp e (fun a' b' h3 e3 e => by
      obtain ⟨⟨h4, h5⟩, h6⟩ := pairs_ok H (pos := pos) e3
      refine ⟨⟨h4, congrArg Nat.succ h5⟩, fun g s S Vs E Q q => inj3 e fun a1 a2 a3 => ?_⟩
      subst a1 a2 a3
      show wpAny _ _ (evalPairs ((eval x c.env, do let x ← eval y c.env; standAt pos; pure x) :: pairTrees ks ys c.env pos)) _ _ _
      unfold evalPairs
      refine wpAny_bind (H.ev (x := x) e1 g s S Vs E _ fun u s₁ g₁ S₁ l₁ q₁ p₁ => wpAny_bind (wpAny_holding (wpAny_bind (H.ev e2 g₁ s₁ S₁ (Vs.le l₁) E _ fun w s₂ g₂ S₂ l₂ q₂ p₂ => ?_))))
      refine wpAny_bind (wpAny_standAt (wpAny_pure (wpAny_bind (wpAny_holding ?_))))
      refine h6 g₂ s₂ S₂ (Vs.le (l₁.trans l₂)) E _ fun ps s₃ g₃ S₃ l₃ q₃ p₃ => wpAny_pure ?_
      exact q _ _ _ S₃ ((l₁.trans l₂).trans l₃) ((q₁.trans q₂).trans q₃) (.cons (VV.le (l₂.trans l₃) p₁) (VV.le l₃ p₂) p₃)) fun _ e => nsome e

theorem nodup_stored {K : Type} [DecidableEq K] {kvs : List (K × Value)} {k : K} {v : Value} (nd : (kvs.map (·.1)).Nodup) : ((stored kvs k v).map (·.1)).Nodup := by
  unfold stored
  by_cases hn : (kvs.any fun kv => decide (kv.1 = k)) = true
  · rw [if_pos hn, keys_map_store]; exact nd
  · rw [if_neg hn, List.map_append, List.nodup_append]
    refine ⟨nd, List.nodup_cons.mpr ⟨List.not_mem_nil, List.nodup_nil⟩, fun a ha b hb e => hn ?_⟩
    obtain ⟨kv, h1, h2⟩ := List.mem_map.mp ha
    exact List.any_eq_true.mpr ⟨kv, h1, decide_eq_true (h2.trans (e.trans (List.mem_singleton.mp hb)))⟩
theorem PD.putS {P : PyData → Value → Prop} {k : Str} {x : PyData} {v : Value} (q : P x v) {m : List (Str × PyData)} {kvs : List (Str × Value)} (r : PD P m kvs) : (kvs.map (·.1)).Nodup → PD P (putS k x m) (stored kvs k v) := by
  induction r with
  | nil => exact fun _ => .cons q .nil
  | @cons j y u m kvs a b ih =>
    intro nd
    unfold Mine.putS
    cases e : strEq k j with
    | true =>
      have e := (strEq_iff _ _).mp e
      rw [stored_hit nd e.symm, e]; exact .cons q b
    | false => rw [stored_miss fun z => by rw [(strEq_iff k j).mpr z.symm] at e; exact ftrue e.symm]; exact .cons a (ih (List.nodup_cons.mp nd).2)
theorem dspI_ok : ∀ {ks vs : List V} {ps : List (Value × Value)} {m₀ m : List (Int × PyData)} {kv₀ : List (Int × Value)}, dspI ks vs m₀ = some m → Rel2 G c g ks vs ps → PD (RD (kn c g)) m₀ kv₀ → (kv₀.map (·.1)).Nodup →
    ∃ kvs, Carries (intKind G.prog G.w) ps kvs ∧ PD (RD (kn c g)) m (merged kv₀ kvs)
  | [], [], _, _, _, _, e, z, q, _ => z.on ⟨[], trivial, Option.some.inj e ▸ q⟩
  | [], _ :: _, _, _, _, _, e, _, _, _ => nsome e
  | _ :: _, [], _, _, _, _, e, _, _, _ => nsome e
  | x :: ks, y :: vs, ps, m₀, m, kv₀, e, z, q, nd => by
    cases x
    case d d =>
      cases d
      case int i =>
        cases y
        case d d => exact z.on fun u w ps z1 z2 z3 => z1.onD.on fun t => (dspI_ok (ks := ks) (vs := vs) e z3 (q.put z2.onD nd) (nodup_stored nd)).elim fun kvs h => ⟨(i, w) :: kvs, ⟨int_is _ _, rfl, h.1⟩, h.2⟩
        all_goals exact nsome e
      all_goals exact nsome e
    all_goals exact nsome e
theorem dspS_ok : ∀ {ks vs : List V} {ps : List (Value × Value)} {m₀ m : List (Str × PyData)} {kv₀ : List (Str × Value)}, dspS ks vs m₀ = some m → Rel2 G c g ks vs ps → PD (RD (kn c g)) m₀ kv₀ → (kv₀.map (·.1)).Nodup →
    ∃ kvs, Carries (PySem.strKind G.prog G.w) ps kvs ∧ PD (RD (kn c g)) m (merged kv₀ kvs)
  | [], [], _, _, _, _, e, z, q, _ => z.on ⟨[], trivial, Option.some.inj e ▸ q⟩
  | [], _ :: _, _, _, _, _, e, _, _, _ => nsome e
  | _ :: _, [], _, _, _, _, e, _, _, _ => nsome e
  | x :: ks, y :: vs, ps, m₀, m, kv₀, e, z, q, nd => by
    cases x
    case d d =>
      cases d
      case str i =>
        cases y
        case d d => exact z.on fun u w ps z1 z2 z3 => z1.onD.on fun t => (dspS_ok (ks := ks) (vs := vs) e z3 (q.putS z2.onD nd) (nodup_stored nd)).elim fun kvs h => ⟨(i, w) :: kvs, ⟨str_is _ _, rfl, h.1⟩, h.2⟩
        all_goals exact nsome e
      all_goals exact nsome e
    all_goals exact nsome e
theorem dspII_ok : ∀ {ks vs : List V} {ps : List (Value × Value)} {m₀ m : List (Int × List (Int × PyData))} {kv₀ : List (Int × Value)}, dspII ks vs m₀ = some m → Rel2 G c g ks vs ps → PDD (prog := G.prog) (w := G.w) (kn c g) m₀ kv₀ → (kv₀.map (·.1)).Nodup →
    ∃ kvs, Carries (intKind G.prog G.w) ps kvs ∧ PDD (prog := G.prog) (w := G.w) (kn c g) m (merged kv₀ kvs)
  | [], [], _, _, _, _, e, z, q, _ => z.on ⟨[], trivial, Option.some.inj e ▸ q⟩
  | [], _ :: _, _, _, _, _, e, _, _, _ => nsome e
  | _ :: _, [], _, _, _, _, e, _, _, _ => nsome e
  | x :: ks, y :: vs, ps, m₀, m, kv₀, e, z, q, nd => by
    cases x
    case d d =>
      cases d
      case int i =>
        cases y
        case idict d => exact z.on fun u w ps z1 z2 z3 => z1.onD.on fun t => (dspII_ok (ks := ks) (vs := vs) e z3 (q.put z2.idAny nd) (nodup_stored nd)).elim fun kvs h => ⟨(i, w) :: kvs, ⟨int_is _ _, rfl, h.1⟩, h.2⟩
        all_goals exact nsome e
      all_goals exact nsome e
    all_goals exact nsome e
end Mine
end
section
open PySem PySem.W PyProof.Rows PySem.Calls PySem.SeqAt
namespace Mine
variable {G : Gl} {α β : Type} {c : Cx} {g : Gh} {s : Shared} {h h' h₁ h₂ : List O}
variable {T : Tab} {r : Rec} {n k : Nat} {ce : CE} {ρ : Rho} {v : V}

theorem emptyInt (H : Heap) : ∃ o, (H.push { cls := .type "dict", data := .dict #[] }).get? H.objs.size = some o ∧ o.IsDictOf (intKind G.prog G.w) [] := Heap.dictOf_iff.mp (Heap.DictOf.new (knd := intKind G.prog G.w) H)
theorem emptyIs {o : Obj} (h : o = ({ cls := .type "dict", data := .dict #[] } : Obj)) {K : Type} [DecidableEq K] (knd : PySem.KeyKind G.prog G.w K) : o.IsDictOf knd [] := by
  subst h
  exact ⟨#[], 0, ⟨rfl, rfl, rfl⟩, rfl, fun _ he => by simp at he, Pairs.nil, List.nodup_nil⟩

theorem Rel2.of_with {p : Addr × Obj} {as bs ps} (r : Rel2 G (c.with p) g as bs ps) : Rel2 G c g as bs ps :=
  Rel2.rec (c := c.with p) (motive := fun as bs ps _ => Rel2 G c g as bs ps) .nil (fun x y _ z => .cons x y z) r
theorem dsp_fin (H : Hyp G T r n c ce) {keys : List (Option PySem.Expr)} {values : List PySem.Expr} {p : Pos} {a b : List V} {h1 : List O} (S : Sim G c g h s.heap) (Vs : Vars G c g ce.names ρ) (hk : keys ≠ []) (hlen : keys.length ≤ 15) (e1 : evp r ρ (keys.map (keyE k ce)) (values.map (cE k ce)) h = some (a, b, h1))
    {K : Type} [DecidableEq K] (knd : PySem.KeyKind G.prog G.w K) {E Q : Value → Shared → Prop} (kk : ∀ ps s₁ g₁, g.le g₁ → Same s s₁ → Rel2 G c g₁ a b ps →
        ∃ kvs, Carries knd ps kvs ∧ ∀ H' o', Fr c.h₀ c.L H' c.m → News c.h₀ c.L H' ((s.heap.objs.size, o') :: ledOf c g₁) → (∀ p ∈ ledOf c g₁, p.1 ≠ s.heap.objs.size) → Sim G c g₁ h1 s₁.heap → o'.IsDictOf knd (merged [] kvs) → Q (.ref s.heap.objs.size) { s₁ with heap := H', toks := s₁.toks + ps.length }) :
        wpAny (model G.prog G.w) c.A (eval (.Dict keys values p) c.env) Q E s := by
  have hap : ∀ p ∈ ledOf c g, p.1 ≠ s.heap.objs.size := fun p hp => Nat.ne_of_lt (S.lt p hp)
  have F1 := S.fr.push { cls := .type "dict", data := .dict #[] }
  have N1 := S.news.push S.fr { cls := .type "dict", data := .dict #[] }
  obtain ⟨⟨h2, h3⟩, h4⟩ := pairs_ok (H.with (s.heap.objs.size, { cls := .type "dict", data := .dict #[] })) (pos := p) e1
  refine wpAny_Dict_walk (knd := knd) h2 h3 hk hlen ?_
  refine h4 g { s with heap := s.heap.push { cls := .type "dict", data := .dict #[] } } (S.priv F1 N1 hap) Vs.with E _ fun ps s₁ g₁ S₁ l₁ q₁ p₁ => ?_
  obtain ⟨kvs, k1, k2⟩ := kk ps s₁ g₁ l₁ ⟨q₁.os, q₁.gens⟩ p₁.of_with
  obtain ⟨S₂, N₂, ap⟩ := S₁.unpriv
  have N0 := N₂ _ (.head _)
  refine ⟨kvs, k1, Heap.dictOf_iff.mpr ⟨_, N0.1, emptyIs rfl knd⟩, fun H' hd hs => ?_⟩
  obtain ⟨o', ho', hd'⟩ := Heap.dictOf_iff.mp hd
  exact k2 H' o' (S₂.fr.change hs N0.2.1 N0.2.2) (N₂.setHead ap hs ho') ap S₂ hd'
theorem ev_dsp (H : Hyp G T r n c ce) {keys : List (Option PySem.Expr)} {values : List PySem.Expr} {p : Pos} : ∀ (e : stepEv T r (cE (k + 1) ce (.Dict keys values p)) ρ h = some (v, h')), EvX G c ce.names (.Dict keys values p) ρ h v h' :=
  ifE (M := fun e0 => stepEv T r e0 ρ h = some (v, h') → EvX G c ce.names (.Dict keys values p) ρ h v h') (fun e => nsome e) fun hc e0 g s S Vs E Q q => sEp e0 (fun a b h1 e1 e => by
    clear e0
    have hlen : keys.length ≤ 15 := Nat.le_of_ble_eq_true (Bool.and_eq_true_iff.mp hc).2
    have lo := lo_new H.ok S
    cases keys with
    | nil =>
      cases values with
      | cons _ _ => exact nsome e1
      | nil =>
        refine inj3 e1 fun a1 a2 a3 => wpAny_Dict_empty ?_
        subst a1 a2 a3
        have F1 := S.fr.push { cls := .type "dict", data := .dict #[] }
        have N1 := S.news.push S.fr { cls := .type "dict", data := .dict #[] }
        cases hm : atPos p ce.muts <;> rw [hm] at e
        · refine inj2 (show some (V.idict [], h1) = some (v, h') from e) fun a1 a2 => ?_
          subst a1 a2
          exact q _ _ _ (S.freeze F1 N1 S.lt) (Gh.le_freeze _ _) ⟨rfl, rfl⟩ (.idict (.inr (.head _)) lo (emptyIs rfl _) .nil)
        · refine inj2 (show some (V.loc h1.length, h1 ++ [.idict []]) = some (v, h') from e) fun a1 a2 => ?_
          subst a1 a2
          exact q _ _ _ (S.push1 (D := s.heap.objs.size) F1 N1 S.lt (.idict lo (emptyIs rfl _) .nil)) (Gh.le_push _ _ _) ⟨rfl, rfl⟩ (.loc (by rw [← S.la]; exact List.getElem?_concat_length))
    | cons x keys =>
      have fin := fun {K : Type} [DecidableEq K] (knd : PySem.KeyKind G.prog G.w K) => dsp_fin (p := p) H S Vs (List.cons_ne_nil x keys) hlen e1 knd (E := E) (Q := Q)
      refine iF e (fun _ e => iF e (fun _ e => sS3 e (fun m hd e => inj2 e fun a1 a2 => ?_) fun _ e => nsome e) fun _ e => sS e (fun m hd e => inj2 e fun a1 a2 => ?_) fun _ e => nsome e)
        fun _ e => iF e (fun _ e => sS2 e (fun m hd e => inj2 e fun a1 a2 => ?_) fun _ e => nsome e) fun _ e => sS e (fun m hd e => inj2 e fun a1 a2 => ?_) fun _ e => nsome e
      · subst a1 a2
        refine fin (intKind G.prog G.w) fun ps s₁ g₁ l₁ q₁ p₁ => (dspII_ok hd p₁ .nil List.nodup_nil).imp fun kvs k => ⟨k.1, fun H' o' F' N' ap S₂ hd' => ?_⟩
        exact q _ _ _ (S₂.pushN (D := s.heap.objs.size) F' N' ap (.iidict lo hd' k.2)) (l₁.trans (Gh.le_push _ _ _)) ⟨q₁.os, q₁.gens⟩ (.loc (by rw [← S₂.la]; exact List.getElem?_concat_length))
      · subst a1 a2
        refine fin (intKind G.prog G.w) fun ps s₁ g₁ l₁ q₁ p₁ => (dspI_ok hd p₁ .nil List.nodup_nil).imp fun kvs k => ⟨k.1, fun H' o' F' N' ap S₂ hd' => ?_⟩
        exact q _ _ _ (S₂.pushN (D := s.heap.objs.size) F' N' ap (.idict lo hd' k.2)) (l₁.trans (Gh.le_push _ _ _)) ⟨q₁.os, q₁.gens⟩ (.loc (by rw [← S₂.la]; exact List.getElem?_concat_length))
      · subst a1 a2
        refine fin (PySem.strKind G.prog G.w) fun ps s₁ g₁ l₁ q₁ p₁ => (dspS_ok hd p₁ .nil List.nodup_nil).imp fun kvs k => ⟨k.1, fun H' o' F' N' ap S₂ hd' => ?_⟩
        exact q _ _ _ (S₂.freezeN F' N' ap) (l₁.trans (Gh.le_freeze _ _)) ⟨q₁.os, q₁.gens⟩ (.sdict (.inr (.head _)) hd' (k.2.mono fun _ _ q => q.mono (Kn.mono fun _ q => .tail _ q)))
      · subst a1 a2
        refine fin (intKind G.prog G.w) fun ps s₁ g₁ l₁ q₁ p₁ => (dspI_ok hd p₁ .nil List.nodup_nil).imp fun kvs k => ⟨k.1, fun H' o' F' N' ap S₂ hd' => ?_⟩
        exact q _ _ _ (S₂.freezeN F' N' ap) (l₁.trans (Gh.le_freeze _ _)) ⟨q₁.os, q₁.gens⟩ (.idict (.inr (.head _)) lo hd' (k.2.mono fun _ _ q => q.mono (Kn.mono fun _ q => .tail _ q)))) fun _ e => nsome e
end Mine
end
section
open PySem PySem.W PyProof.Rows PySem.Calls PySem.SeqAt
namespace Mine
variable {G : Gl} {α β : Type} {c : Cx} {g : Gh} {s : Shared} {h h' h₁ h₂ : List O}
variable {T : Tab} {r : Rec} {n k : Nat} {ce : CE} {ρ : Rho} {v : V}

/-! private things, and another environment -/
noncomputable def Cx.on (c : Cx) (l : Led) (e : Env) : Cx := { c with pri := l ++ c.pri, env := e }
theorem Sim.onPerm {H : Heap} {l l' : Led} {e e' : Env} (p : l.Perm l') (S : Sim G (c.on l e) g h H) : Sim G (c.on l' e') g h H := by
  have pm : (ledOf (c.on l e) g).Perm (ledOf (c.on l' e') g) := by
    unfold ledOf Cx.on
    exact List.Perm.append_left _ (List.Perm.append_right _ (List.Perm.append_right _ p))
  exact ⟨S.fr, fun q hq => S.news q (pm.mem_iff.mpr hq), (pm.map (·.1)).nodup_iff.mp S.nd, S.la, S.lm, S.objs⟩
theorem Sim.onEnv {H : Heap} {l : Led} {e e' : Env} (S : Sim G (c.on l e) g h H) : Sim G (c.on l e') g h H := S.onPerm (.refl _)
theorem Sim.on0 {H : Heap} {e : Env} (S : Sim G c g h H) : Sim G (c.on [] e) g h H := ⟨S.fr, S.news, S.nd, S.la, S.lm, S.objs⟩
theorem Sim.off0 {H : Heap} {e : Env} (S : Sim G (c.on [] e) g h H) : Sim G c g h H := ⟨S.fr, S.news, S.nd, S.la, S.lm, S.objs⟩
theorem Sim.privSet {H' : Heap} {D : Addr} {o o' : Obj} (S : Sim G (c.with (D, o)) g h s.heap) (hs : Heap.SameBut D s.heap H') (ho : H'.get? D = some o') : Sim G (c.with (D, o')) g h H' := by
  obtain ⟨S₂, N₂, ap⟩ := S.unpriv
  have N0 := N₂ _ (.head _)
  exact Sim.priv (s := s) S₂ (S₂.fr.change hs N0.2.1 N0.2.2) (N₂.setHead ap hs ho) ap
theorem Sim.privDrop {H H' : Heap} {D : Addr} {o : Obj} (S : Sim G (c.with (D, o)) g h H) (hs : Heap.ExtBut D H H') : Sim G c g h H' := by
  obtain ⟨S₂, N₂, ap⟩ := S.unpriv
  have N0 := N₂ _ (.head _)
  obtain ⟨oL, a1, a2, hoL, a3⟩ := S₂.fr.ns
  refine ⟨⟨⟨oL, a1, a2, hs _ _ (Ne.symm N0.2.1) hoL, a3⟩, fun b x e => hs b x ?_ (S₂.fr.keep b x e), S₂.fr.above⟩, fun p hp => ⟨hs _ _ (ap p hp) (S₂.news p hp).1, (S₂.news p hp).2⟩, S₂.nd, S₂.la, S₂.lm, S₂.objs⟩
  rintro rfl
  have := N0.2.2
  rw [e] at this; cases this
theorem Sim.privPush {o : Obj} (S : Sim G c g h s.heap) (hf : o.isFreed = false) : Sim G (c.with (s.heap.objs.size, o)) g h (s.heap.push o) :=
  S.priv (S.fr.push o) (S.news.push S.fr o hf) fun p hp => Nat.ne_of_lt (S.lt p hp)
theorem Sim.privAt {H : Heap} {D : Addr} {o : Obj} (S : Sim G (c.with (D, o)) g h H) : H.get? D = some o := (S.unpriv.2.1 _ (.head _)).1

/-! iterators over lists and tuples -/
def kindL (b : Bool) : String := cond b "list" "tuple"
def kindI (b : Bool) : String := cond b "list_iterator" "tuple_iterator"
inductive ItO (G : Gl) (c : Cx) (g : Gh) : Srcs → Nat → Obj → Prop
  | vals {b vs i o a ob items n} : kn c g a ob → ob.cls = .type (kindL b) → ob.data = .seq items n → VVs G c g vs items.toList → o.cls = .type (kindI b) → o.data = .fields #[.ref a, .int (i : Nat) 0] → ItO G c g (.vals vs) i o
  | loc {n i o a} : g.as[n]? = some a → o.cls = .type "list_iterator" → o.data = .fields #[.ref a, .int (i : Nat) 0] → ItO G c g (.at n) i o
theorem ItO.le {g g' : Gh} {src : Srcs} {i : Nat} {o : Obj} (l : g.le g') (x : ItO G c g src i o) : ItO G c g' src i o :=
  ItO.rec (motive := fun src i o _ => ItO G c g' src i o) (fun a b d e f k => .vals (Kn.mono l.Z _ _ a) b d (VVs.le l e) f k) (fun a b d => .loc (as_mono l.as a) b d) x
theorem ItO.hb {c' : Cx} (e : c'.hb = c.hb) {src : Srcs} {i : Nat} {o : Obj} (x : ItO G c g src i o) : ItO G c' g src i o :=
  ItO.rec (motive := fun src i o _ => ItO G c' g src i o) (fun a b d f k l => .vals (by unfold kn; rw [e]; exact a) b d (by unfold VVs; rw [e]; exact f) k l) (fun a b d => .loc a b d) x
theorem ItO.with {src : Srcs} {i : Nat} {o : Obj} {p : Addr × Obj} (x : ItO G c g src i o) : ItO G (c.with p) g src i o := x.hb (c := c) (c' := c.with p) rfl
theorem ItO.on {l : Led} {e : Env} {src : Srcs} {i : Nat} {o : Obj} (x : ItO G c g src i o) : ItO G (c.on l e) g src i o := x.hb (c := c) (c' := c.on l e) rfl
theorem ItO.off {l : Led} {e : Env} {src : Srcs} {i : Nat} {o : Obj} (x : ItO G (c.on l e) g src i o) : ItO G c g src i o := x.hb (c := c.on l e) (c' := c) rfl

noncomputable abbrev itObj (b : Bool) (a : Addr) : Obj := { cls := .type (kindI b), data := .fields #[.ref a, .int 0 0] }
section
variable {f : Nat} {E : Value → Shared → Prop} {Q : Value → Shared → Prop} {src : Srcs}
theorem iter_vals (b : Bool) {a : Addr} {ob : Obj} {items : Array Value} {n : Nat} {vs : List V} (O : Ok G c) (S : Sim G c g h s.heap) (k1 : kn c g a ob) (k2 : ob.cls = .type (kindL b)) (k3 : ob.data = .seq items n) (k4 : VVs G c g vs items.toList)
    (q : ∀ oI s', Sim G (c.with (s.heap.objs.size, oI)) g h s'.heap → Same s s' → ItO G c g (.vals vs) 0 oI → Q (.ref s.heap.objs.size) s') : wpAny (model G.prog G.w) c.A (pyIter (.ref a)) Q E s := by
  have fin := q (itObj b a) { s with heap := s.heap.push (itObj b a) } (S.privPush (o := itObj b a) rfl) ⟨rfl, rfl⟩ (.vals k1 k2 k3 k4 rfl rfl)
  cases b with
  | true => exact wpAny_pyIter_list ⟨_, S.known O _ _ k1, k2, _, k3⟩ fin
  | false => exact wpAny_pyIter_tuple ⟨_, S.known O _ _ k1, k2, _, k3⟩ fin
theorem src_on {P : Prop} (e : srcOf h v = some (src, f)) (k1 : ∀ xs, v = .d (.list xs) → src = .vals (xs.map .d) → f = xs.length + 1 → short xs = true → P) (k2 : ∀ xs, v = .d (.tuple xs) → src = .vals (xs.map .d) → f = xs.length + 1 → short xs = true → P)
    (k3 : ∀ xs, v = .lstv xs → src = .vals xs → f = xs.length + 1 → short xs = true → P) (k4 : ∀ xs, v = .tupv xs → src = .vals xs → f = xs.length + 1 → short xs = true → P)
    (k5 : ∀ m xs, v = .loc m → h[m]? = some (.list xs) → src = .at m → f = xs.length + 1 → short xs = true → P) : P := by
  have go : ∀ {α : Type} {l : List α} {z : Srcs}, (if short l then some (z, l.length + 1) else none) = some (src, f) → (src = z → f = l.length + 1 → short l = true → P) → P := fun e k => iFn e fun hs e => k (congrArg Prod.fst e) (congrArg Prod.snd e) hs
  cases v
  case d x =>
    cases x
    case list xs => exact go e (k1 xs rfl)
    case tuple xs => exact go e (k2 xs rfl)
    all_goals exact nsome e
  case lstv xs => exact go e (k3 xs rfl)
  case tupv xs => exact go e (k4 xs rfl)
  case loc m => exact wC e (fun xs hm e => go e (k5 m xs rfl hm)) fun e => nsome e
  all_goals exact nsome e
theorem iter_ok {u : Value} (O : Ok G c) (S : Sim G c g h s.heap) (rv : VV G c g v u) (e : srcOf h v = some (src, f))
    (q : ∀ oI s', Sim G (c.with (s.heap.objs.size, oI)) g h s'.heap → Same s s' → ItO G c g src 0 oI → f ≤ lim + 1 → Q (.ref s.heap.objs.size) s') : wpAny (model G.prog G.w) c.A (pyIter u) Q E s := by
  have sh : ∀ {α : Type} {l : List α}, short l = true → l.length + 1 ≤ lim + 1 := fun z => Nat.succ_le_succ (Nat.le_of_ble_eq_true z)
  refine src_on e (fun xs e1 e2 e3 hs => ?_) (fun xs e1 e2 e3 hs => ?_) (fun xs e1 e2 e3 hs => ?_) (fun xs e1 e2 e3 hs => ?_) fun m xs e1 hm e2 e3 hs => ?_ <;> subst e1 e2 e3
  · exact rv.onD.on fun a o vs n k1 k2 k3 k4 => iter_vals true O S k1 k2 k3 (VRs.ofD k4) fun oI s' a b d => q oI s' a b d (sh hs)
  · exact rv.onD.on fun a o vs n k1 k2 k3 k4 => iter_vals false O S k1 k2 k3 (VRs.ofD k4) fun oI s' a b d => q oI s' a b d (sh hs)
  · exact rv.on fun a o vs n k1 k2 k3 k4 => iter_vals true O S k1 k2 k3 k4 fun oI s' a b d => q oI s' a b d (sh hs)
  · exact rv.on fun a o vs n k1 k2 k3 k4 => iter_vals false O S k1 k2 k3 k4 fun oI s' a b d => q oI s' a b d (sh hs)
  · exact loc_on S rv hm fun a ha vs n rd hb => wpAny_pyIter_list ⟨_, S.here (S.inMu hb (.head _)), rfl, _, rfl⟩ (q (itObj true a) { s with heap := s.heap.push (itObj true a) } (S.privPush (o := itObj true a) rfl) ⟨rfl, rfl⟩ (.loc ha rfl rfl) (sh hs))
theorem iter_self {I : Addr} {oI : Obj} {i : Nat} (hI : s.heap.get? I = some oI) (it : ItO G c g src i oI) (q : Q (.ref I) s) : wpAny (model G.prog G.w) c.A (pyIter (.ref I)) Q E s := by
  revert hI
  refine ItO.rec (motive := fun src i oI _ => s.heap.get? I = some oI → wpAny (model G.prog G.w) c.A (pyIter (.ref I)) Q E s) (fun {b} _ _ _ _ _ _ _ _ _ _ _ a d hI => ?_) (fun _ a d hI => wpAny_pyIter_listiter ⟨_, hI, a, d⟩ q) it
  cases b with
  | true => exact wpAny_pyIter_listiter ⟨_, hI, a, d⟩ q
  | false => exact wpAny_pyIter_tupleiter ⟨_, hI, a, d⟩ q
end
abbrev handsOn : List String := ["enumerate", "zip", "dict_itemiterator", "dict_reverseitemiterator", "odict_iterator", "itertools.zip_longest", "itertools.pairwise"]
theorem ItO.cls {src : Srcs} {i : Nat} {o : Obj} (x : ItO G c g src i o) : ∃ T d, o.cls = .type T ∧ o.data = .fields d ∧ handsOn.contains T = false :=
  ItO.rec (motive := fun src i o _ => ∃ T d, o.cls = .type T ∧ o.data = .fields d ∧ handsOn.contains T = false) (fun {b} _ _ _ _ _ _ _ _ _ _ _ a d => ⟨_, _, a, d, by cases b <;> rfl⟩) (fun _ a d => ⟨_, _, a, d, rfl⟩) x
theorem go_ok {I : Addr} {oI : Obj} {src : Srcs} {i : Nat} {t : PySem.Expr} {u : Value} {E : Value → Shared → Prop} {Q : Unit → Shared → Prop} (hI : s.heap.get? I = some oI) (it : ItO G c g src i oI) (q : Q () s) :
    wpAny (model G.prog G.w) c.A (letOwnedTupleGo t (.ref I) u) Q E s := by
  obtain ⟨T, d, h1, h2, h3⟩ := it.cls
  have q' : wpAny (model G.prog G.w) c.A (pure ()) Q E s := wpAny_pure q
  have key : wpAny (model G.prog G.w) c.A (letOwnedTupleGo (.Tuple [] 0 default) (.ref I) u) Q E s := by
    unfold letOwnedTupleGo
    cases u
    case ref a =>
      refine wpAny_bind (wpAny_load hI ?_)
      rw [h1, h2]
      dsimp only
      rw [if_neg fun z => ftrue (h3.symm.trans (Bool.and_eq_true_iff.mp z).1)]
      exact q'
    all_goals exact q'
  cases t
  case Tuple => exact key
  case List => exact key
  all_goals exact q'

section
variable {I : Addr} {oI : Obj} {i : Nat} {E : Value → Shared → Prop} {Q : Option Value → Shared → Prop} {w : Option V}
theorem arr_get {us : List Value} {a : Option Value} (e : us[i]? = a) {items : Array Value} (hi : items.toList = us) : items[i]? = a := by
  subst hi; exact Array.getElem?_toList.symm.trans e
theorem nxt_vals {g₀ : Gh} (l : g₀.le g) (b : Bool) {vs : List V} {ax : Addr} {ob : Obj} {items : Array Value} {n : Nat} (O : Ok G c) (S : Sim G (c.with (I, oI)) g h s.heap) (k1 : kn c g₀ ax ob) (k2 : ob.cls = .type (kindL b)) (k3 : ob.data = .seq items n) (k4 : VVs G c g₀ vs items.toList) (a : oI.cls = .type (kindI b)) (d : oI.data = .fields #[.ref ax, .int (i : Nat) 0]) (e : vs[i]? = w)
    (qn : ∀ s', w = none → Sim G c g h s'.heap → Same s s' → Q none s')
    (qs : ∀ v u oI' s', w = some v → VV G c g v u → Sim G (c.with (I, oI')) g h s'.heap → Same s s' → ItO G c g₀ (.vals vs) (i + 1) oI' → Q (some u) s') : wpAny (model G.prog G.w) c.A (pyNext (.ref I)) Q E s := by
  have hI := S.privAt
  have hk := S.unpriv.1.known O _ _ (Kn.mono l.Z _ _ k1)
  cases w with
  | none =>
    have hi : items[i]? = none := arr_get (List.getElem?_eq_none (k4.length ▸ List.getElem?_eq_none_iff.mp e)) rfl
    have fin : ∀ h', Heap.ExtBut I s.heap h' → Q none { s with heap := h' } := fun h' he => qn { s with heap := h' } rfl (S.privDrop he) ⟨rfl, rfl⟩
    cases b with
    | true => exact wpAny_pyNext_list_end O.hh ⟨_, hI, a, d⟩ ⟨_, hk, k2, _, k3⟩ hi fin
    | false => exact wpAny_pyNext_tuple_end O.hh ⟨_, hI, a, d⟩ ⟨_, hk, k2, _, k3⟩ hi fin
  | some y =>
    obtain ⟨u, h1, h2⟩ := k4.get e
    have fin : ∀ h' o', h'.get? I = some o' → o'.cls = .type (kindI b) → o'.data = .fields #[.ref ax, .int ((i + 1 : Nat) : Nat) 0] → Heap.SameBut I s.heap h' → Q (some u) { s with heap := h' } := fun h' o' ho hc hd hs => qs y u o' { s with heap := h' } rfl (VV.le l h2) (S.privSet (s := s) hs ho) ⟨rfl, rfl⟩ (.vals k1 k2 k3 k4 hc hd)
    cases b with
    | true => exact wpAny_pyNext_list_item ⟨_, hI, a, d⟩ ⟨_, hk, k2, _, k3⟩ (x := u) (arr_get h1 rfl) fun h' hi hs => hi.elim fun o' hi => fin h' o' hi.1 hi.2.1 hi.2.2 hs
    | false => exact wpAny_pyNext_tuple_item ⟨_, hI, a, d⟩ ⟨_, hk, k2, _, k3⟩ (x := u) (arr_get h1 rfl) fun h' hi hs => hi.elim fun o' hi => fin h' o' hi.1 hi.2.1 hi.2.2 hs
theorem nxt_loc {g₀ : Gh} (l : g₀.le g) {m : Nat} {ax : Addr} (O : Ok G c) (S : Sim G (c.with (I, oI)) g h s.heap) (k1 : g₀.as[m]? = some ax) (a : oI.cls = .type "list_iterator") (d : oI.data = .fields #[.ref ax, .int (i : Nat) 0]) (e : nextS (.at m) i h = some w)
    (qn : ∀ s', w = none → Sim G c g h s'.heap → Same s s' → Q none s')
    (qs : ∀ v u oI' s', w = some v → VV G c g v u → Sim G (c.with (I, oI')) g h s'.heap → Same s s' → ItO G c g₀ (.at m) (i + 1) oI' → Q (some u) s') : wpAny (model G.prog G.w) c.A (pyNext (.ref I)) Q E s := by
  have hI := S.privAt
  have S0 := S.unpriv.1
  refine wC e (fun xs hm e => ?_) fun e => nsome e
  obtain ⟨bl, hb, ro⟩ := S0.blockAt hm (as_mono l.as k1)
  revert hb
  refine ro.on fun us nn rd hb => ?_
  have hl : s.heap.IsList ax us.toArray := ⟨_, S0.here (S0.inMu hb (.head _)), rfl, _, rfl⟩
  cases hy : xs[i]? with
  | none =>
    rw [hy] at e
    have hi : us.toArray[i]? = none := arr_get (List.getElem?_eq_none (rd.length ▸ List.getElem?_eq_none_iff.mp hy)) rfl
    exact wpAny_pyNext_list_end O.hh ⟨_, hI, a, d⟩ hl hi fun h' he => qn { s with heap := h' } (Option.some.inj e).symm (S.privDrop he) ⟨rfl, rfl⟩
  | some y =>
    rw [hy] at e
    obtain ⟨u, h1, h2⟩ := RDs.get rd hy
    exact wpAny_pyNext_list_item ⟨_, hI, a, d⟩ hl (x := u) (arr_get h1 rfl) fun h' hi hs => hi.elim fun o' hi => qs (.d y) u o' { s with heap := h' } (Option.some.inj e).symm (.d h2) (S.privSet (s := s) hs hi.1) ⟨rfl, rfl⟩ (.loc k1 hi.2.1 hi.2.2)
theorem next_ok {g₀ : Gh} {src : Srcs} (O : Ok G c) (S : Sim G (c.with (I, oI)) g h s.heap) (l : g₀.le g) (it : ItO G c g₀ src i oI) (e : nextS src i h = some w)
    (qn : ∀ s', w = none → Sim G c g h s'.heap → Same s s' → Q none s')
    (qs : ∀ v u oI' s', w = some v → VV G c g v u → Sim G (c.with (I, oI')) g h s'.heap → Same s s' → ItO G c g₀ src (i + 1) oI' → Q (some u) s') : wpAny (model G.prog G.w) c.A (pyNext (.ref I)) Q E s := by
  cases it with
  | vals k1 k2 k3 k4 a b => exact nxt_vals l _ O S k1 k2 k3 k4 a b (Option.some.inj e) qn qs
  | loc k1 a b => exact nxt_loc l O S k1 a b e qn qs
end
end Mine
end
section
open PySem PySem.W PyProof.Rows PySem.Calls PySem.SeqAt
namespace Mine
variable {G : Gl} {α β : Type} {c : Cx} {g : Gh} {s : Shared} {h h' h₁ h₂ : List O}
variable {T : Tab} {r : Rec} {n k : Nat} {ce : CE} {ρ ρ' : Rho} {v : V}

/-! contexts among which a store moves -/
structure Fam (G : Gl) (ce : CE) (e : Env) where
  X : Type
  cx : X → Cx
  hb : Heap
  A : Around
  hb_eq : ∀ x, (cx x).hb = hb
  A_eq : ∀ x, (cx x).A = A
  ok : ∀ x, Ok G (cx x)
  store : ∀ (x : X) (y : Str) (i : Nat) (g : Gh) (h : List O) (s : Shared) (u : Value) (E : Value → Shared → Prop) (Q : Unit → Shared → Prop), storeSlot ce y = some i → Sim G (cx x) g h s.heap →
    (∀ x' s', Sim G (cx x') g h s'.heap → Same s s' → (∀ z w, z ≠ y → Var (cx x) z w → Var (cx x') z w) → Var (cx x') y u → Q () s') → wpAny (model G.prog G.w) A (storeName e y u) Q E s

theorem same_of {α β : Type} {f : α → β} : ∀ {l : List α} {a b : α}, (l.map f).Nodup → a ∈ l → b ∈ l → f a = f b → a = b
  | x :: l, a, b, nd, ha, hb, e => by
    have nd := List.nodup_cons.mp nd
    rcases List.mem_cons.mp ha with h1 | h1
    · rcases List.mem_cons.mp hb with h2 | h2
      · exact h1.trans h2.symm
      · subst h1; exact absurd (List.mem_map_of_mem h2) (e ▸ nd.1)
    · rcases List.mem_cons.mp hb with h2 | h2
      · subst h2; exact absurd (List.mem_map_of_mem h1) (e ▸ nd.1)
      · exact same_of nd.2 h1 h2 e
theorem slotK_on {P : Prop} {k : NameKind} {i j : Nat} (e : (match k with | .local | .cell | .free => some i | _ => none) = some j) (q : i = j → lookable k = true → P) : P := by
  cases k
  case «local» => exact q (Option.some.inj e) rfl
  case cell => exact q (Option.some.inj e) rfl
  case free => exact q (Option.some.inj e) rfl
  all_goals exact nsome e
theorem slotAt_get {x : Str} : ∀ {names : List (Str × NameKind)} {j i : Nat}, slotAt x names j = some i → ∃ d kd, i = j + d ∧ names[d]? = some (x, kd) ∧ kindAt x names = some kd ∧ lookable kd = true
  | [], _, _, e => nsome e
  | (y, k) :: r, j, i, e => by
    refine iF (b := strEq x y = true) e (fun hx e => slotK_on e fun e' hl => ?_) fun hx e => ?_
    · have hxy := (strEq_iff x y).mp hx
      subst hxy
      exact ⟨0, k, e'.symm, rfl, by unfold kindAt; exact if_pos hx, hl⟩
    · obtain ⟨d, kd, h1, h2, h3, h4⟩ := slotAt_get e
      exact ⟨d + 1, kd, h1.trans (Nat.add_right_comm j 1 d), h2, by unfold kindAt; exact (if_neg hx).trans h3, h4⟩
theorem storeSlot_get {y : Str} {i : Nat} (e : storeSlot ce y = some i) : ∃ kd, ce.names[i]? = some (y, kd) ∧ (kindAt y ce.names = some .local ∨ kindAt y ce.names = some .cell) := by
  have go : slotAt y ce.names 0 = some i → ∃ kd, ce.names[i]? = some (y, kd) := fun e => (slotAt_get e).elim fun d h => h.elim fun kd h => ⟨kd, h.1.trans (Nat.zero_add d) ▸ h.2.1⟩
  unfold storeSlot at e
  cases hk : kindAt y ce.names with
  | none => rw [hk] at e; exact nsome e
  | some kd =>
    rw [hk] at e
    cases kd
    case «local» => exact (go e).elim fun kd h => ⟨kd, h, .inl rfl⟩
    case cell => exact (go e).elim fun kd h => ⟨kd, h, .inr rfl⟩
    all_goals exact nsome e

theorem Vars.store {c' : Cx} {y : Str} {i : Nat} {u : Value} (Vs : Vars G c g ce.names ρ) (nd : (ce.names.map (·.1)).Nodup) (hb : c'.hb = c.hb) (hs : storeSlot ce y = some i)
    (k1 : ∀ z w, z ≠ y → Var c z w → Var c' z w) (k2 : Var c' y u) (rv : VV G c g v u) : Vars G c' g ce.names (ρ.set i (some v)) := by
  intro j x k v' h1 h2 h3
  obtain ⟨kd, hi, _⟩ := storeSlot_get hs
  by_cases hij : i = j
  · subst hij
    have hx : y = x := congrArg Prod.fst (Option.some.inj (hi.symm.trans h1))
    rw [List.getElem?_set_self'] at h3
    cases hp : ρ[i]? with
    | none => rw [hp] at h3; exact nsome h3
    | some _ =>
      rw [hp] at h3
      have hv : v = v' := Option.some.inj (Option.some.inj h3)
      subst hx hv
      exact ⟨u, k2, by unfold VV; rw [hb]; exact rv⟩
  · rw [List.getElem?_set_ne hij] at h3
    obtain ⟨w, h4, h5⟩ := Vs j x k v' h1 h2 h3
    refine ⟨w, k1 x w (fun hx => hij ?_) h4, by unfold VV; rw [hb]; exact h5⟩
    have a1 : (ce.names.map (·.1))[i]? = some y := (List.getElem?_map ..).trans (congrArg (Option.map (·.1)) hi)
    have a2 : (ce.names.map (·.1))[j]? = some x := (List.getElem?_map ..).trans (congrArg (Option.map (·.1)) h1)
    exact (List.getElem?_inj (List.getElem?_eq_some_iff.mp a1).1 nd).mp (a1.trans (hx ▸ a2.symm))

theorem VRs.appendV {kn : Addr → Obj → Prop} {as : List Addr} {l' : List V} {us' : List Value} (b : VRs G.prog G.w kn as l' us') : ∀ {l : List V} {us : List Value}, VRs G.prog G.w kn as l us → VRs G.prog G.w kn as (l ++ l') (us ++ us')
  | [], _, a => a.on b
  | x :: l, _, a => a.on fun _ _ p q => .cons p (VRs.appendV b q)
theorem VVs.app {l' : List V} {us' : List Value} (b : VVs G c g l' us') {l : List V} {us : List Value} (a : VVs G c g l us) : VVs G c g (l ++ l') (us ++ us') := VRs.appendV b a
theorem VVs.rev : ∀ {l : List V} {us : List Value}, VVs G c g l us → VVs G c g l.reverse us.reverse
  | [], _, a => a.on .nil
  | x :: l, _, a => a.on (P := fun us => VVs G c g (x :: l).reverse us.reverse) fun u us p q => by show VVs G c g (x :: l).reverse (u :: us).reverse; rw [List.reverse_cons, List.reverse_cons]; exact VVs.app (.cons p .nil) (VVs.rev q)

inductive Tgts (G : Gl) (ce : CE) (e : Env) : List (Value → Sem Unit) → List Nat → Prop
  | nil : Tgts G ce e [] []
  | cons {f : Value → Sem Unit} {y : Str} {i : Nat} {fs : List (Value → Sem Unit)} {is : List Nat} : storeSlot ce y = some i →
      (∀ (A : Around) (E : Value → Shared → Prop) (Q : Unit → Shared → Prop) (s : Shared) (u : Value), wpAny (model G.prog G.w) A (storeName e y u) Q E s → wpAny (model G.prog G.w) A (f u) Q E s) → Tgts G ce e fs is → Tgts G ce e (f :: fs) (i :: is)
theorem Tgts.append {e : Env} {fs fs' : List (Value → Sem Unit)} {is is' : List Nat} (x : Tgts G ce e fs is) (y : Tgts G ce e fs' is') : Tgts G ce e (fs ++ fs') (is ++ is') := by
  induction x with
  | nil => exact y
  | cons a b _ ih => exact .cons a b ih
theorem Tgts.rev {e : Env} {fs : List (Value → Sem Unit)} {is : List Nat} (x : Tgts G ce e fs is) : Tgts G ce e fs.reverse is.reverse := by
  induction x with
  | nil => exact .nil
  | cons a b _ ih => rw [List.reverse_cons, List.reverse_cons]; exact ih.append (.cons a b .nil)
theorem Tgts.length {e : Env} {fs : List (Value → Sem Unit)} {is : List Nat} (x : Tgts G ce e fs is) : fs.length = is.length := by
  induction x with
  | nil => rfl
  | cons a b _ ih => exact congrArg Nat.succ ih

section
variable {e : Env} (F : Fam G ce e) (nd : (ce.names.map (·.1)).Nodup)
include nd
theorem inOrder_ok {fs : List (Value → Sem Unit)} {is : List Nat} (t : Tgts G ce e fs is) : ∀ {vs : List V} {us : List Value} {x : F.X} {g : Gh} {s : Shared} {ρ ρ' : Rho} {E : Value → Shared → Prop} {Q : Unit → Shared → Prop}, pick vs is ρ = some ρ' → VVs G (F.cx x) g vs us → Sim G (F.cx x) g h s.heap → Vars G (F.cx x) g ce.names ρ →
    (∀ x' s', Sim G (F.cx x') g h s'.heap → Same s s' → Vars G (F.cx x') g ce.names ρ' → Q () s') → wpAny (model G.prog G.w) F.A (assignInOrder fs us) Q E s := by
  induction t with
  | nil =>
    intro vs us x g s ρ ρ' E Q e rv S Vs q
    cases vs with
    | nil => exact rv.on (wpAny_pure (q x s S (.refl _) (Option.some.inj e ▸ Vs)))
    | cons _ _ => exact nsome e
  | cons h1 h2 _ ih =>
    intro vs us x g s ρ ρ' E Q e rv S Vs q
    cases vs with
    | nil => exact nsome e
    | cons v vs =>
      refine rv.on fun u us p1 p2 => assignInOrder_cons (h2 _ _ _ _ _ (F.store x _ _ g h s _ _ _ h1 S fun x' s' S' q' k1 k2 => ?_))
      have hb : (F.cx x').hb = (F.cx x).hb := (F.hb_eq x').trans (F.hb_eq x).symm
      exact ih e (by unfold VVs; rw [hb]; exact p2) S' (Vs.store nd hb h1 k1 k2 p1) fun x'' s'' S'' q'' Vs'' => q x'' s'' S'' (q'.trans q'') Vs''
end

theorem parts_on {P : Prop} {l : List V} (e : parts v = some l) (k1 : ∀ xs, v = .d (.list xs) → l = xs.map .d → P) (k2 : ∀ xs, v = .d (.tuple xs) → l = xs.map .d → P) (k3 : v = .tupv l → P) : P := by
  cases v
  case d x =>
    cases x
    case list xs => exact k1 xs rfl (Option.some.inj e).symm
    case tuple xs => exact k2 xs rfl (Option.some.inj e).symm
    all_goals exact nsome e
  case tupv xs => exact k3 (congrArg V.tupv (Option.some.inj e))
  all_goals exact nsome e
theorem parts_src {l : List V} (e : parts v = some l) (hl : l.length ≤ 20) : srcOf h v = some (.vals l, l.length + 1) := by
  have sh : ∀ {α : Type} {l : List α}, l.length ≤ 20 → short l = true := fun z => Nat.ble_eq_true_of_le (Nat.le_trans z (Nat.le_of_ble_eq_true rfl))
  have shD : ∀ {xs : List PyData}, l = xs.map .d → (if short xs then some (Srcs.vals (xs.map .d), xs.length + 1) else none) = some (.vals l, l.length + 1) := fun {xs} e => by
    subst e
    rw [List.length_map] at hl ⊢
    exact if_pos (sh hl)
  refine parts_on e (fun xs e1 e2 => ?_) (fun xs e1 e2 => ?_) fun e1 => ?_
  · subst e1; exact shD e2
  · subst e1; exact shD e2
  · subst e1; exact if_pos (sh hl)
theorem draw_ok {I : Addr} {l : List V} {E : Value → Shared → Prop} (O : Ok G c) : ∀ {k i : Nat} {oI : Obj} {s : Shared} {Q : List Value → Shared → Prop}, Sim G (c.with (I, oI)) g h s.heap → ItO G c g (.vals l) i oI → i + k = l.length →
    (∀ us oI' s', Sim G (c.with (I, oI')) g h s'.heap → Same s s' → ItO G c g (.vals l) l.length oI' → VVs G c g (l.drop i) us → Q us s') → wpAny (model G.prog G.w) c.A (draw (.ref I) k) Q E s
  | 0, i, oI, s, Q, S, it, hk, q => by
    have hi : i = l.length := hk
    subst hi
    exact wpAny_pure (q [] oI s S (.refl _) it (by rw [List.drop_length]; exact .nil))
  | k + 1, i, oI, s, Q, S, it, hk, q => by
    have hi : i < l.length := hk ▸ Nat.lt_add_of_pos_right (Nat.succ_pos k)
    refine wpAny_bind (next_ok O S (.refl _) it (w := some l[i]) (congrArg some (List.getElem?_eq_getElem hi)) (fun s' z => snone z) fun v u oI' s₁ hv rv S₁ q₁ it₁ => inj1 hv fun hv => ?_)
    refine wpAny_bind (wpAny_holding (draw_ok O S₁ it₁ ((Nat.add_right_comm i 1 k).trans hk) fun us oI'' s₂ S₂ q₂ it₂ rvs => wpAny_pure ?_))
    subst hv
    exact q _ oI'' s₂ S₂ (q₁.trans q₂) it₂ (by rw [List.drop_eq_getElem_cons hi]; exact .cons rv rvs)
theorem seq_is {u : Value} {l : List V} (O : Ok G c) (S : Sim G c g h s.heap) (rv : VV G c g v u) (e : parts v = some l) : s.TypeIs u "tuple" ∨ s.TypeIs u "list" :=
  parts_on e (fun xs e1 e2 => by subst e1; exact rv.onD.on fun _ _ _ _ a b _ _ => .inr ⟨_, S.known O _ _ a, b⟩) (fun xs e1 e2 => by subst e1; exact rv.onD.on fun _ _ _ _ a b _ _ => .inl ⟨_, S.known O _ _ a, b⟩)
    fun e1 => by subst e1; exact rv.on fun _ _ _ _ a b _ _ => .inl ⟨_, S.known O _ _ a, b⟩
theorem unpack_ok {u : Value} {l : List V} {E : Value → Shared → Prop} {Q : List Value → Shared → Prop} (O : Ok G c) (S : Sim G c g h s.heap) (rv : VV G c g v u) (e : parts v = some l) (hl : l.length ≤ 20)
    (q : ∀ us s', Sim G c g h s'.heap → Same s s' → VVs G c g l us → Q us s') : wpAny (model G.prog G.w) c.A (unpackItems u l.length none) Q E s := by
  have key : ∀ {Q : Bool → Shared → Prop}, Q false s → wpAny (model G.prog G.w) c.A (notIterableAtAll u) Q E s := fun q => by
    unfold notIterableAtAll
    rcases seq_is O S rv e with hT | hT
    · exact wpAny_bind (wpAny_specialOf hT F.slot_tuple_iter.lookup (wpAny_pure q))
    · exact wpAny_bind (wpAny_specialOf hT PySem.slot_list_iter.lookup (wpAny_pure q))
  unfold unpackItems
  refine wpAny_bind (key (wpAny_bind (wpAny_holding (iter_ok O S rv (parts_src e hl) fun oI s₁ S₁ q₁ it₁ _ => wpAny_bind (wpAny_holding (draw_ok O S₁ it₁ (Nat.zero_add _) fun us oI' s₂ S₂ q₂ it₂ rvs => ?_))))))
  rw [List.drop_zero] at rvs
  rw [if_neg (Nat.not_lt.mpr (Nat.le_of_eq rvs.length.symm))]
  refine wpAny_bind (wpAny_holding (next_ok O S₂ (.refl _) it₂ (w := none) (congrArg some (List.getElem?_eq_none (Nat.le_refl _))) (fun s₃ _ S₃ q₃ => ?_) fun v u oI' s₁ hv => nsome hv))
  exact wpAny_pure (q us s₃ S₃ ((q₁.trans q₂).trans q₃) rvs)
end Mine
end
section
open PySem PySem.W PyProof.Rows PySem.Calls PySem.SeqAt
namespace Mine
variable {G : Gl} {α β : Type} {c : Cx} {g : Gh} {s : Shared} {h h' h₁ h₂ : List O}
variable {T : Tab} {r : Rec} {n k : Nat} {ce : CE} {ρ ρ' : Rho} {v : V}

theorem mapO_nil {α β : Type} {f : α → Option β} {ys : List β} (e : mapO f [] = some ys) : ys = [] := (Option.some.inj e).symm
theorem mapO_cons {α β : Type} {f : α → Option β} {x : α} {xs : List α} {ys : List β} (e : mapO f (x :: xs) = some ys) : ∃ y l, f x = some y ∧ mapO f xs = some l ∧ ys = y :: l := by
  unfold mapO at e
  cases h1 : f x with
  | none => rw [h1] at e; exact nsome e
  | some y =>
    rw [h1] at e
    cases h2 : mapO f xs with
    | none => rw [h2] at e; exact nsome e
    | some l => rw [h2] at e; exact ⟨y, l, rfl, rfl, (Option.some.inj e).symm⟩
theorem nameSlot_on {P : PySem.Expr → Prop} {t : PySem.Expr} {i : Nat} (e : nameSlot ce t = some i) (k : ∀ x p, storeSlot ce x = some i → P (.Name x p)) : P t := by
  cases t
  case Name x p => exact k x p e
  all_goals exact nsome e
theorem tgts_each {e : Env} : ∀ {ts : List PySem.Expr} {is : List Nat}, mapO (nameSlot ce) ts = some is → Tgts G ce e ((assignEach ts e).map (·.2)) is ∧ (assignEach ts e).findIdx? (·.1) = none ∧ (assignEach ts e).length = is.length
  | [], is, h => by rw [mapO_nil h]; exact ⟨.nil, rfl, rfl⟩
  | t :: ts, is, h => by
    obtain ⟨i, l, h1, h2, h3⟩ := mapO_cons h
    subst h3
    obtain ⟨a, b, d⟩ := tgts_each (e := e) h2
    refine nameSlot_on (P := fun t => Tgts G ce e ((assignEach (t :: ts) e).map (·.2)) (i :: l) ∧ (assignEach (t :: ts) e).findIdx? (·.1) = none ∧ (assignEach (t :: ts) e).length = (i :: l).length) h1 fun x p h1 => ⟨.cons (y := x) h1 (fun A E Q s u q => assign_Name q) a, ?_, congrArg Nat.succ d⟩
    show List.findIdx? (·.1) ((false, assign (.Name x p) e) :: assignEach ts e) = none
    rw [List.findIdx?_cons, if_neg Bool.false_ne_true, b]; rfl
theorem tgts_names {e : Env} : ∀ {names : List Str} {is : List Nat}, mapO (storeSlot ce) names = some is → Tgts G ce e (names.map fun n => bindName e n) is
  | [], is, h => by rw [mapO_nil h]; exact .nil
  | t :: ts, is, h => by
    obtain ⟨i, l, h1, h2, rfl⟩ := mapO_cons h
    exact .cons h1 (fun A E Q s u q => bindName_ q) (tgts_names h2)

theorem bindU_on {P : Prop} {rev : Bool} {is : List Nat} (e : bindU rev is v ρ = some ρ') (k : ∀ l, parts v = some l → l.length = is.length → l.length ≤ 20 → (if rev then pick l.reverse is.reverse ρ else pick l is ρ) = some ρ' → P) : P :=
  sW e (fun l hl e => iF (b := (Nat.beq l.length is.length && Nat.ble l.length 20) = true) e (fun hc e => k l hl (Nat.eq_of_beq_eq_true (Bool.and_eq_true_iff.mp hc).1) (Nat.le_of_ble_eq_true (Bool.and_eq_true_iff.mp hc).2) e) fun _ e => nsome e) fun _ e => nsome e
section
variable {e : Env} (F : Fam G ce e) (nd : (ce.names.map (·.1)).Nodup)
include nd
theorem tgt_ok {t : PySem.Expr} {tg : Tgt} {x : F.X} {u : Value} {E : Value → Shared → Prop} {Q : Unit → Shared → Prop} (ht : tgtOf ce t = some tg) (hb : bindT tg v ρ = some ρ') (rv : VV G (F.cx x) g v u)
    (S : Sim G (F.cx x) g h s.heap) (Vs : Vars G (F.cx x) g ce.names ρ) (q : ∀ x' s', Sim G (F.cx x') g h s'.heap → Same s s' → Vars G (F.cx x') g ce.names ρ' → Q () s') :
    wpAny (model G.prog G.w) F.A (assign t e u) Q E s := by
  cases t
  case Name y p =>
    refine sH ht (fun i hi e₀ => inj1 e₀ fun e₀ => ?_) fun _ e => nsome e
    subst e₀
    refine assign_Name (F.store x y i g h s u E Q hi S fun x' s' S' q' k1 k2 => q x' s' S' q' ?_)
    exact Option.some.inj hb ▸ Vs.store nd ((F.hb_eq x').trans (F.hb_eq x).symm) hi k1 k2 rv
  case Tuple ts i p =>
    refine sX ht (fun is his e₀ => inj1 e₀ fun e₀ => ?_) fun _ e => nsome e
    subst e₀
    refine bindU_on (rev := false) hb fun l hl e1 e2 hb => ?_
    obtain ⟨t1, t2, t3⟩ := tgts_each (G := G) (e := e) his
    rw [assign_Tuple]
    refine wpAny_bind (wpAny_standAt ?_)
    unfold unpack
    rw [t2, t3, ← e1]
    refine wpAny_bind (wpAny_holding ?_)
    rw [← F.A_eq x]
    refine unpack_ok (F.ok x) S rv hl e2 fun us s' S' q' rvs => ?_
    rw [F.A_eq x]
    exact inOrder_ok F nd t1 hb rvs S' Vs fun x' s'' S'' q'' Vs' => q x' s'' S'' (q'.trans q'') Vs'
  all_goals exact nsome ht
/-- names stored to, the last first -/
theorem swap_ok {names : List Str} {is : List Nat} {x : F.X} {u : Value} {E : Value → Shared → Prop} {Q : Unit → Shared → Prop} (ht : mapO (storeSlot ce) names = some is) (hb : bindU true is v ρ = some ρ') (rv : VV G (F.cx x) g v u)
    (S : Sim G (F.cx x) g h s.heap) (Vs : Vars G (F.cx x) g ce.names ρ) (q : ∀ x' s', Sim G (F.cx x') g h s'.heap → Same s s' → Vars G (F.cx x') g ce.names ρ' → Q () s') :
    wpAny (model G.prog G.w) F.A (unpackItems u names.length none) (fun items s₂ => wpAny (model G.prog G.w) F.A (assignInOrder (names.reverse.map fun n => bindName e n) items.reverse) Q E s₂) E s := by
  refine bindU_on (rev := true) hb fun l hl e1 e2 hb => ?_
  have t1 := tgts_names (G := G) (e := e) ht
  have e3 : names.length = l.length := e1.trans (t1.length.symm.trans (List.length_map ..)) ▸ rfl
  rw [e3, ← F.A_eq x]
  refine unpack_ok (F.ok x) S rv hl e2 fun us s' S' q' rvs => ?_
  rw [F.A_eq x, List.map_reverse]
  exact inOrder_ok F nd t1.rev hb rvs.rev S' Vs fun x' s'' S'' q'' Vs' => q x' s'' S'' (q'.trans q'') Vs'
end

/-! the body of a function -/
noncomputable def Cx.st (c : Cx) (m : Str → Option Value) (cells : Led) (cm : Str → Option Value) : Cx := { c with m := m, cells := cells, cm := cm }
structure FOk (c : Cx) : Prop where
  env : c.env = c.fenv
  loc : c.env.locals = c.L
structure FX (c : Cx) where
  m : Str → Option Value
  cells : Led
  cm : Str → Option Value
  ok : CellsAre cm c.fenv.cells cells
theorem Ok.st {m : Str → Option Value} {cells : Led} {cm : Str → Option Value} (O : Ok G c) (hc : CellsAre cm c.fenv.cells cells) : Ok G (c.st m cells cm) := ⟨O.Kb, O.stay, O.K, O.T, O.below, O.frames, O.ff, O.fk, O.hh, O.ek, O.eg, O.eb, hc⟩

theorem lookup_on {P : Prop} {β : Type} {x n : Str} {a b : β} {cs : List (Str × β)} (e : ((n, b) :: cs).lookup x = some a) (k1 : x = n → b = a → P) (k0 : cs.lookup x = some a → P) : P := by
  rw [List.lookup_cons] at e
  cases h : x == n with
  | true => rw [h] at e; exact k1 (eq_of_beq h) (Option.some.inj e)
  | false => rw [h] at e; exact k0 e
theorem CellsAre.at {cm : Str → Option Value} {cs : List (Str × Addr)} {cells : Led} (x : CellsAre cm cs cells) {y : Str} {a : Addr} (hy : cs.lookup y = some a) : ∃ o, (a, o) ∈ cells ∧ o.data = .cell (cm y) := by
  induction x with
  | nil => exact nsome hy
  | @cons n c o cs cells h1 _ ih =>
    exact lookup_on hy (fun e1 e2 => by subst e1 e2; exact ⟨o, .head _, h1⟩) fun hy => (ih hy).elim fun o' h => ⟨o', .tail _ h.1, h.2⟩
theorem CellsAre.fst {cm : Str → Option Value} {cs : List (Str × Addr)} {cells : Led} (x : CellsAre cm cs cells) : cells.map (·.1) = cs.map (·.2) := by
  induction x with
  | nil => rfl
  | cons _ _ ih => exact congrArg _ ih
theorem lookup_mem {cs : List (Str × Addr)} {y : Str} {a : Addr} (h : cs.lookup y = some a) : (y, a) ∈ cs := by
  induction cs with
  | nil => exact nsome h
  | cons p cs ih => exact lookup_on h (fun e1 e2 => by subst e1 e2; exact .head _) fun h => .tail _ (ih h)
theorem CellsAre.set {cm : Str → Option Value} {cs : List (Str × Addr)} {cells : Led} (x : CellsAre cm cs cells) {y : Str} {a : Addr} {o' : Obj} {v : Value} (nd : (cells.map (·.1)).Nodup) (hy : (y, a) ∈ cs) (ndn : (cs.map (·.1)).Nodup) (ho : o'.data = .cell (some v)) :
    CellsAre (fun z => if z = y then some v else cm z) cs (rep a o' cells) := by
  have hk : ∀ p ∈ cs, p.2 = a ↔ p.1 = y := fun p hp => ⟨fun e => congrArg Prod.fst (same_of (CellsAre.fst x ▸ nd) hp hy e), fun e => congrArg Prod.snd (same_of ndn hp hy e)⟩
  clear nd hy ndn
  induction x with
  | nil => exact .nil
  | @cons n c o cs cells h1 _ ih =>
    have h2 := hk (n, c) (.head _)
    have ih' := ih fun p hp => hk p (.tail _ hp)
    by_cases hc : c = a
    · have e : rep a o' ((c, o) :: cells) = (c, o') :: rep a o' cells := congrArg (· :: rep a o' cells) ((if_pos hc).trans (congrArg (·, o') hc.symm))
      rw [e]
      exact .cons (by rw [ho, if_pos (h2.mp hc)]) ih'
    · have e : rep a o' ((c, o) :: cells) = (c, o) :: rep a o' cells := congrArg (· :: rep a o' cells) (if_neg hc)
      rw [e]
      exact .cons (by rw [h1, if_neg fun z => hc (h2.mpr z)]) ih'
theorem News.rep {h₀ H H' : Heap} {L : Addr} {l : Led} {d : Addr} {o o' : Obj} (N : News h₀ L H l) (hd : (d, o) ∈ l) (hs : Heap.SameBut d H H') (ho : H'.get? d = some o') : News h₀ L H' (rep d o' l) := fun p hp => by
  rcases rep_mem hp with rfl | ⟨h1, h2⟩
  · exact ⟨ho, (N _ hd).2⟩
  · exact ⟨(hs.2 _ h2).trans (N p h1).1, (N p h1).2⟩

noncomputable def famF (c : Cx) (G : Gl) (ce : CE) (O : Ok G c) (C : CeOk G ce c) (f : FOk c) (ndn : (c.fenv.cells.map (·.1)).Nodup) : Fam G ce c.env where
  X := FX c
  cx := fun x => c.st x.m x.cells x.cm
  hb := c.hb
  A := c.A
  hb_eq := fun _ => rfl
  A_eq := fun _ => rfl
  ok := fun x => O.st x.ok
  store := fun x y i g h s u E Q hy S q => by
    obtain ⟨kd, h1, h2⟩ := storeSlot_get hy
    rcases h2 with h2 | h2
    · have hk := C.loc y h2
      refine wpAny_storeName_local hk (m := x.m) (by rw [f.loc]; exact S.fr.ns) (fun h' hn hs => ?_) (by show (c.env.scope.kind == _ || _) = false; rw [O.ek]; rfl)
      rw [f.loc] at hn hs
      refine q ⟨fun z => if z = y then some u else x.m z, x.cells, x.cm, x.ok⟩ _ ⟨S.fr.set hn hs, S.news.set hs, S.nd, S.la, S.lm, S.objs⟩ ⟨rfl, rfl⟩ (fun z w hz hv => ?_) (.inl ⟨hk, f.loc, if_pos rfl⟩)
      rcases hv with ⟨a, b, d⟩ | hv | hv
      · exact .inl ⟨a, b, (if_neg hz).trans d⟩
      · exact .inr (.inl hv)
      · exact .inr (.inr hv)
    · obtain ⟨hk, a, ha⟩ := C.cell y h2
      have ha' : c.fenv.cells.lookup y = some a := by rw [← f.env]; exact ha
      obtain ⟨o, ho, hd⟩ := CellsAre.at x.ok ha'
      have hin : (a, o) ∈ ledOf (c.st x.m x.cells x.cm) g := List.mem_append_left _ ho
      have hN := S.news _ hin
      refine wpAny_storeName_cell O.ek hk ha (v₀ := x.cm y) ⟨o, hN.1, hd⟩ fun h' hv hs => ?_
      obtain ⟨o', ho', hd'⟩ := hv
      have ndc : (x.cells.map (·.1)).Nodup := by
        have := S.nd; unfold ledOf at this; rw [List.map_append, List.nodup_append] at this; exact this.1
      refine q ⟨x.m, Mine.rep a o' x.cells, fun z => if z = y then some u else x.cm z, CellsAre.set x.ok ndc (lookup_mem ha') ndn hd'⟩ { s with heap := h' } ?_ ⟨rfl, rfl⟩ (fun z w hz hv => ?_) ?_
      · have e : ledOf (c.st x.m (Mine.rep a o' x.cells) (fun z => if z = y then some u else x.cm z)) g = Mine.rep a o' (ledOf (c.st x.m x.cells x.cm) g) := by
          unfold ledOf
          rw [rep_append]
          congr 1
          exact (rep_id fun p hp => (S.apartCells ho hp).symm).symm
        exact ⟨S.fr.change hs hN.2.1 hN.2.2, by rw [e]; exact News.rep S.news hin hs ho', by rw [e, rep_fst]; exact S.nd, S.la, S.lm, S.objs⟩
      · rcases hv with hv | hv | ⟨b1, a', o₁, b2, b3, b4⟩
        · exact .inl hv
        · exact .inr (.inl hv)
        · refine .inr (.inr ⟨b1, a', o₁, b2, ?_, b4⟩)
          have hne : a' ≠ a := by
            intro e
            exact hz (congrArg Prod.fst (same_of (CellsAre.fst x.ok ▸ ndc) (lookup_mem (by rw [← f.env]; exact b2 : c.fenv.cells.lookup z = some a')) (lookup_mem ha') e))
          have : (a', o₁) ∈ Mine.rep a o' x.cells := List.mem_map.mpr ⟨(a', o₁), b3, if_neg hne⟩
          exact this
      · refine .inr (.inr ⟨hk, a, o', ha, ?_, hd'⟩)
        exact List.mem_map.mpr ⟨(a, o), ho, if_pos rfl⟩
end Mine
end
section
open PySem PySem.W PyProof.Rows PySem.Calls PySem.SeqAt
namespace Mine
variable {G : Gl} {α β : Type} {c : Cx} {g : Gh} {s : Shared} {h h' h₁ h₂ : List O}
variable {T : Tab} {r : Rec} {n k : Nat} {ce : CE} {ρ ρ' : Rho} {v : V}

/-! the closure of a comprehension -/
theorem lookup_miss {β : Type} {x n : Str} {b : β} {r : List (Str × β)} (h : (x == n) = false) : ((n, b) :: r).lookup x = r.lookup x := by rw [List.lookup_cons, h]
theorem lookup_some {x n : Str} {b : Addr} {r : List (Str × Addr)} (h : ∃ a, r.lookup x = some a) : ∃ a, ((n, b) :: r).lookup x = some a := by
  rw [List.lookup_cons]
  cases x == n with
  | true => exact ⟨b, rfl⟩
  | false => exact h
theorem closure_ok {env : Env} {scope : Scope} (hf : ∀ x, (x, NameKind.free) ∈ scope.names → ∃ a, env.cells.lookup x = some a) :
    ∃ cl, closureFor scope env = pure cl ∧ (∀ x a, cl.lookup x = some a → env.cells.lookup x = some a) ∧ ∀ x, (x, NameKind.free) ∈ scope.names → ∃ a, cl.lookup x = some a := by
  have key : ∀ (names : List (Str × NameKind)) (cs : List (Str × Addr)), (∀ x, (x, NameKind.free) ∈ names → ∃ a, env.cells.lookup x = some a) → (∀ x a, cs.lookup x = some a → env.cells.lookup x = some a) →
      ∃ cl, (forIn (m := Sem) names cs fun x r => if x.2 == NameKind.free then do let a ← cellOf env x.1; pure (ForInStep.yield ((x.1, a) :: r)) else pure (ForInStep.yield r)) = pure cl ∧
        (∀ x a, cl.lookup x = some a → env.cells.lookup x = some a) ∧ (∀ x, (x, NameKind.free) ∈ names → ∃ a, cl.lookup x = some a) ∧ ∀ x, (∃ a, cs.lookup x = some a) → ∃ a, cl.lookup x = some a := by
    intro names
    induction names with
    | nil => exact fun cs _ h => ⟨cs, rfl, h, (fun _ h => nomatch h), fun _ h => h⟩
    | cons p names ih =>
      intro cs hf hc
      obtain ⟨x, kd⟩ := p
      rw [List.forIn_cons]
      cases hk : kd == NameKind.free with
      | true =>
        have hk := eq_of_beq hk
        subst hk
        obtain ⟨a, ha⟩ := hf x (.head _)
        obtain ⟨cl, h1, h2, h3, h4⟩ := ih ((x, a) :: cs) (fun y hy => hf y (.tail _ hy)) fun y b hb => lookup_on hb (fun e1 e2 => by subst e1 e2; exact ha) (hc y b)
        refine ⟨cl, ?_, h2, fun y hy => ?_, fun y hy => h4 y (lookup_some hy)⟩
        · have e : cellOf env x = pure a := by unfold cellOf; rw [ha]
          rw [if_pos rfl]
          show ((cellOf env x >>= fun a => pure (ForInStep.yield ((x, a) :: cs))) >>= _) = _
          rw [e]
          exact h1
        · rcases List.mem_cons.mp hy with e | hy
          · cases e; exact h4 _ ⟨a, List.lookup_cons_self⟩
          · exact h3 y hy
      | false =>
        obtain ⟨cl, h1, h2, h3, h4⟩ := ih cs (fun y hy => hf y (.tail _ hy)) hc
        refine ⟨cl, ?_, h2, fun y hy => ?_, h4⟩
        · exact h1
        · rcases List.mem_cons.mp hy with e | hy
          · cases e; exact nomatch hk
          · exact h3 y hy
  obtain ⟨cl, h1, h2, h3, _⟩ := key scope.names [] hf (fun _ _ h => nomatch h)
  refine ⟨cl, ?_, h2, h3⟩
  show (forIn (m := Sem) scope.names ([] : List (Str × Addr)) (fun x r => if x.2 == NameKind.free then do let a ← cellOf env x.1; pure (ForInStep.yield ((x.1, a) :: r)) else pure (ForInStep.yield r)) >>= fun cs => pure cs) = _
  rw [h1]; rfl

theorem lookup_mapped {f : Str → NameKind → NameKind} : ∀ {names : List (Str × NameKind)} {x : Str}, (names.map fun p => (p.1, f p.1 p.2)).lookup x = (names.lookup x).map (f x)
  | [], x => rfl
  | (n, k) :: r, x => by
    cases hx : x == n with
    | true =>
      have hx := eq_of_beq hx
      subst hx
      exact List.lookup_cons_self.trans (congrArg (Option.map (f x)) List.lookup_cons_self).symm
    | false => exact (lookup_miss hx).trans ((lookup_mapped (names := r)).trans (congrArg (Option.map (f x)) (lookup_miss hx)).symm)
theorem lookup_relabel {env : Env} {names : List (Str × NameKind)} {x : Str} : 
    (names.map fun (n, k) => if (k == NameKind.free && env.scope.kind == .function && env.kindOf n == some .cell) then (n, NameKind.cell) else (n, k)).lookup x =
      (names.lookup x).map fun k => if (k == NameKind.free && env.scope.kind == .function && env.kindOf x == some .cell) then NameKind.cell else k := by
  refine Eq.trans (congrArg (List.lookup x) (List.map_congr_left fun p _ => ?_)) (lookup_mapped (f := fun x k => if (k == NameKind.free && env.scope.kind == .function && env.kindOf x == some .cell) then NameKind.cell else k))
  by_cases hc : (p.2 == NameKind.free && env.scope.kind == .function && env.kindOf p.1 == some .cell) = true
  · exact (if_pos hc).trans (congrArg (p.1, ·) (if_pos hc).symm)
  · exact (if_neg hc).trans (congrArg (p.1, ·) (if_neg hc).symm)
theorem kindAt_lookup {x : Str} : ∀ {names : List (Str × NameKind)}, kindAt x names = names.lookup x
  | [] => rfl
  | (y, k) :: r => by
    unfold kindAt
    cases h : strEq x y with
    | true => rw [(strEq_iff x y).mp h]; exact List.lookup_cons_self.symm
    | false => exact kindAt_lookup.trans (lookup_miss (strEq_false h)).symm
theorem sameKindOf_iff {a b : NameKind} (h : sameKindOf a b = true) : a = b := by
  cases a
  case «local» =>
    cases b
    case «local» => rfl
    all_goals exact ftrue h
  case free =>
    cases b
    case free => rfl
    all_goals exact ftrue h
  case globalImplicit =>
    cases b
    case globalImplicit => rfl
    all_goals exact ftrue h
  all_goals exact ftrue h
theorem scopeOk_mem {names : List (Str × NameKind)} (h : scopeOk names = true) {p : Str × NameKind} (hp : p ∈ names) : names.lookup p.1 = some p.2 ∧ p.2 ≠ .cell := by
  have := List.all_eq_true.mp (Bool.and_eq_true_iff.mp h).1 p hp
  cases hk : kindAt p.1 names with
  | none => rw [hk] at this; exact ftrue this
  | some k =>
    rw [hk] at this
    have e := sameKindOf_iff this
    refine ⟨(kindAt_lookup.symm.trans hk).trans (congrArg some e), fun e' => ?_⟩
    rw [e, e'] at this
    exact ftrue this
theorem distS_nd : ∀ {l : List Str}, distS l = true → l.Nodup
  | [], _ => .nil
  | x :: l, h => by
    have h' := Bool.and_eq_true_iff.mp h
    refine List.nodup_cons.mpr ⟨fun hx => ?_, distS_nd h'.2⟩
    exact List.any_eq_false.mp ((Bool.not_eq_true' _).mp h'.1) x hx ((strEq_iff x x).mpr rfl)
theorem scopeOk_nd {names : List (Str × NameKind)} (h : scopeOk names = true) : (names.map (·.1)).Nodup := distS_nd (Bool.and_eq_true_iff.mp h).2
theorem initK_on {P : Prop} {outer : List (Str × NameKind)} {x : Str} {kd : NameKind} {a : Option Nat} (e : initK outer x kd = some a) (k1 : ∀ j, kd = .free → a = some j → kindAt x outer = some .cell → slotAt x outer 0 = some j → P) (k0 : kd ≠ .free → a = none → P) : P := by
  cases kd
  case free =>
    have e : initF outer x = some a := e
    unfold initF at e
    cases hk : kindAt x outer with
    | none => rw [hk] at e; exact nsome e
    | some kk =>
      rw [hk] at e
      cases kk
      case cell => exact sH e (fun j hj e => k1 j rfl (Option.some.inj e).symm hk hj) fun _ e => nsome e
      all_goals exact nsome e
  case cell => exact nsome e
  all_goals exact k0 NameKind.noConfusion (Option.some.inj e).symm
theorem initOf_cons {P : Prop} {outer names : List (Str × NameKind)} {p : Str × NameKind} {ini : List (Option Nat)} (e : initOf outer (p :: names) = some ini) (k : ∀ a l, initK outer p.1 p.2 = some a → initOf outer names = some l → ini = a :: l → P) : P := by
  unfold initOf at e
  cases h1 : initK outer p.1 p.2 with
  | none => rw [h1] at e; exact nsome e
  | some a =>
    rw [h1] at e
    cases h2 : initOf outer names with
    | none => rw [h2] at e; exact nsome e
    | some l => rw [h2] at e; exact k a l h1 h2 (Option.some.inj e).symm
theorem initOf_mem {outer : List (Str × NameKind)} : ∀ {names : List (Str × NameKind)} {ini : List (Option Nat)}, initOf outer names = some ini → (∀ x, (x, NameKind.free) ∈ names → kindAt x outer = some .cell) ∧
    ∀ (i : Nat) (x : Str) (kd : NameKind) (v : V) (ρ : Rho), names[i]? = some (x, kd) → (initR ρ ini)[i]? = some (some v) → ∃ j, slotAt x outer 0 = some j ∧ ρ[j]? = some (some v) ∧ kd = .free
  | [], ini, e => ⟨(fun _ h => nomatch h), fun i x kd v ρ h1 h2 => nsome h1⟩
  | p :: names, ini, e => initOf_cons e fun a l h1 h2 h3 => by
    subst h3
    obtain ⟨i1, i2⟩ := initOf_mem h2
    refine ⟨fun x hx => ?_, fun i x kd v ρ e1 e2 => ?_⟩
    · rcases List.mem_cons.mp hx with e | hx
      · subst e; exact initK_on h1 (fun j _ _ hc _ => hc) fun hne _ => absurd rfl hne
      · exact i1 x hx
    · cases i with
      | zero =>
        have e3 : p = (x, kd) := Option.some.inj e1
        subst e3
        refine initK_on h1 (fun j hk ha _ hj => ⟨j, hj, ?_, hk⟩) fun _ ha => ?_
        · subst ha
          have e4 : (match ρ[j]? with | some v => v | none => none) = some v := Option.some.inj e2
          cases hq : ρ[j]? with
          | none => rw [hq] at e4; exact nsome e4
          | some w => rw [hq] at e4; exact congrArg some e4
        · subst ha; exact nsome (Option.some.inj e2)
      | succ i =>
        have e3 : (initR ρ (a :: l))[i + 1]? = (initR ρ l)[i]? := by cases a <;> rfl
        exact i2 i x kd v ρ e1 (e3.symm.trans e2)

/-! the environment of a comprehension -/
structure CompOk (c : Cx) (sc : Scope) (cl : List (Str × Addr)) : Prop where
  kind : sc.kind = .function
  sok : scopeOk sc.names = true
  nd : (sc.names.map (·.1)).Nodup
  cl1 : ∀ x a, cl.lookup x = some a → c.env.cells.lookup x = some a
  cl2 : ∀ x, (x, NameKind.free) ∈ sc.names → ∃ a, cl.lookup x = some a
  cell : ∀ x, (x, NameKind.free) ∈ sc.names → c.env.kindOf x = some .cell
  ek : c.env.scope.kind = .function
variable {sc : Scope} {cl : List (Str × Addr)} {C : Addr}
theorem CompOk.kindOf (K : CompOk c sc cl) {x : Str} {kd : NameKind} (hp : (x, kd) ∈ sc.names) : (compEnvC sc cl C c.env).kindOf x = some (if kd = .free then .cell else kd) := by
  show (relabel sc c.env).names.lookup x = _
  unfold relabel
  rw [lookup_relabel, (scopeOk_mem K.sok hp).1, Option.map_some]
  by_cases hk : kd = .free
  · subst hk
    rw [if_pos rfl, if_pos (by rw [K.ek, K.cell x hp]; rfl)]
  · rw [if_neg hk, if_neg fun z => hk (eq_of_beq (Bool.and_eq_true_iff.mp (Bool.and_eq_true_iff.mp z).1).1)]
theorem kindAt_mem {x : Str} {kd : NameKind} {names : List (Str × NameKind)} (h : kindAt x names = some kd) : (x, kd) ∈ names := by
  induction names with
  | nil => exact nsome h
  | cons p r ih => exact iF (b := strEq x p.1 = true) h (fun hx h => by rw [(strEq_iff x p.1).mp hx, ← Option.some.inj h]; exact .head _) fun _ h => .tail _ (ih h)
theorem CompOk.kindAt (K : CompOk c sc cl) {x : Str} {kd : NameKind} (h : Mine.kindAt x sc.names = some kd) (hk : kd ≠ .free) : (compEnvC sc cl C c.env).kindOf x = some kd := (K.kindOf (kindAt_mem h)).trans (congrArg some (if_neg hk))
theorem CompOk.ceOk (K : CompOk c sc cl) (Ck : CeOk G ce c) (l : Led) : CeOk G { ce with names := sc.names } (c.on l (compEnvC sc cl C c.env)) where
  gl := Ck.gl
  glk := fun x hx => by
    unfold isGl at hx
    cases hk : Mine.kindAt x sc.names with
    | none => rw [hk] at hx; exact ftrue hx
    | some kd =>
      rw [hk] at hx
      cases kd
      case globalImplicit => exact K.kindAt hk NameKind.noConfusion
      all_goals exact ftrue hx
  look := fun x i hi => (slotAt_get hi).elim fun d h => h.elim fun kd h => ⟨kd, h.1.trans (Nat.zero_add d) ▸ h.2.1, h.2.2.2⟩
  nd := K.nd
  loc := fun x hx => K.kindAt hx NameKind.noConfusion
  cell := fun x hx => absurd rfl (scopeOk_mem K.sok (kindAt_mem hx)).2
theorem Ok.on {l : Led} {e : Env} (O : Ok G c) (h1 : e.scope.kind = .function) (h2 : e.globals = mainGlobals) (h3 : e.builtins = builtinsNs) : Ok G (c.on l e) := ⟨O.Kb, O.stay, O.K, O.T, O.below, O.frames, O.ff, O.fk, O.hh, h1, h2, h3, O.cells⟩
theorem CompOk.ok (K : CompOk c sc cl) (O : Ok G c) (l : Led) : Ok G (c.on l (compEnvC sc cl C c.env)) := O.on K.kind O.eg O.eb
theorem NsO.fun {o : Obj} {m m' : Str → Option Value} (a : NsO o m) (b : NsO o m') (x : Str) : m x = m' x := by
  obtain ⟨es, ep, h1, h2, h3⟩ := a
  obtain ⟨es', ep', h1', h2', h3'⟩ := b
  rw [h1] at h1'
  cases h1'
  rw [← h3, h3']
theorem ns_at {H : Heap} {C : Addr} {m : Str → Option Value} (h : H.Ns C m) : ∃ o, H.get? C = some o ∧ NsO o m := by
  obtain ⟨o, es, ep, a, b, d, e⟩ := h
  exact ⟨o, a, es, ep, b, d, e⟩

structure CX where
  o : Obj
  m : Str → Option Value
  ok : NsO o m
noncomputable def famC (K : CompOk c sc cl) (O : Ok G c) (C : Addr) (l : Led) : Fam G { ce with names := sc.names } (compEnvC sc cl C c.env) where
  X := CX
  cx := fun x => c.on ((C, x.o) :: l) (compEnvC sc cl C c.env)
  hb := c.hb
  A := c.A
  hb_eq := fun _ => rfl
  A_eq := fun _ => rfl
  ok := fun x => K.ok O _
  store := fun x y i g h s u E Q hy S q => by
    obtain ⟨kd, h1, h2⟩ := storeSlot_get hy
    have hl : kindAt y sc.names = some .local := by
      rcases h2 with h2 | h2
      · exact h2
      · exact absurd rfl (scopeOk_mem K.sok (kindAt_mem h2)).2
    have hk : (compEnvC sc cl C c.env).kindOf y = some .local := K.kindAt hl NameKind.noConfusion
    have S' : Sim G ((c.on l (compEnvC sc cl C c.env)).with (C, x.o)) g h s.heap := S
    obtain ⟨es, ep, e1, e2, e3⟩ := x.ok
    refine wpAny_storeName_local hk (m := x.m) ⟨x.o, es, ep, S'.privAt, e1, e2, e3⟩ (fun h' hn hs => ?_) (by show ((relabel sc c.env).kind == _ || ((relabel sc c.env).kind == _ && _)) = false; rw [show (relabel sc c.env).kind = .function from K.kind]; rfl)
    obtain ⟨o', ho', hn'⟩ := ns_at hn
    refine q ⟨o', _, hn'⟩ { s with heap := h', toks := s.toks + 1 } (S'.privSet hs ho') ⟨rfl, rfl⟩ (fun z w hz hv => ?_) ?_
    · rcases hv with hv | ⟨b1, o₁, m₁, b2, b3, b4⟩ | hv
      · exact .inl hv
      · refine .inr (.inl ⟨b1, o', _, .head _, hn', ?_⟩)
        rw [if_neg hz]
        have b2' : (C, o₁) ∈ (C, x.o) :: (l ++ c.pri) := b2
        have : o₁ = x.o := by
          rcases List.mem_cons.mp b2' with e | hm
          · cases e; rfl
          · have i1 := S.here (p := (C, o₁)) (S.inPri b2)
            have i2 := S'.privAt
            exact Option.some.inj (i1.symm.trans i2)
        subst this
        rw [NsO.fun x.ok b3]; exact b4
      · exact .inr (.inr hv)
    · exact .inr (.inl ⟨hk, o', _, .head _, hn', if_pos rfl⟩)
end Mine
end
section
open PySem PySem.W PyProof.Rows PySem.Calls PySem.SeqAt
namespace Mine
variable {G : Gl} {α β : Type} {c : Cx} {g : Gh} {s : Shared} {h h' h₁ h₂ : List O}
variable {T : Tab} {r : Rec} {n k : Nat} {ce : CE} {ρ ρ' : Rho} {v : V}
variable {sc : Scope} {cl : List (Str × Addr)} {C : Addr}

theorem Hyp.on (H : Hyp G T r n c ce) {l : Led} {e : Env} {ce' : CE} (O : Ok G (c.on l e)) (Ck : CeOk G ce' (c.on l e)) : Hyp G T r n (c.on l e) ce' := ⟨H.IH, O, H.Rm, Ck, H.CK⟩

/-- the tests of a comprehension -/
theorem ifs_ok (H : Hyp G T r n c ce) : ∀ {ifs : List PySem.Expr} {h h' : List O} {b : Bool}, ifsAll r ρ (ifs.map (cE k ce)) h = some (b, h') → ∀ g s, Sim G c g h s.heap → Vars G c g ce.names ρ →
    Ev G c (forIn (m := Sem) ifs true fun x r => if r = true then do let ok ← isTrue x c.env (eval x c.env); pure (ForInStep.yield ok) else pure (ForInStep.yield r)) g s h' (fun _ b' => b' = b)
  | [], h, h', b, e => fun g s S Vs => inj2 e fun e1 e2 => by subst e1 e2; exact Ev.pure S rfl
  | x :: xs, h, h', b, e => fun g s S Vs E Q kk => by
    rw [List.forIn_cons, if_pos rfl]
    refine sP e (fun h1 e1 e => ?_) (fun h1 e1 e => ?_) fun _ e => nsome e
    · refine wpAny_bind (wpAny_bind (ts_ok H e1 g s S Vs _ rfl E _ fun b' s₁ g₁ S₁ l₁ q₁ p₁ => wpAny_pure ?_))
      subst p₁
      exact ifs_ok H e g₁ s₁ S₁ (Vs.le l₁) E _ fun b s₂ g₂ S₂ l₂ q₂ p₂ => kk _ _ _ S₂ (l₁.trans l₂) (q₁.trans q₂) p₂
    · cases xs with
      | cons _ _ => exact nsome e
      | nil =>
        refine inj2 e fun a1 a2 => wpAny_bind (wpAny_bind (ts_ok H e1 g s S Vs _ rfl E _ fun b' s₁ g₁ S₁ l₁ q₁ p₁ => wpAny_pure ?_))
        subst a1 a2 p₁
        exact wpAny_pure (kk _ _ _ S₁ l₁ q₁ rfl)

theorem Var.env0 {l : Led} {e : Env} {x : Str} {u : Value} (K : CompOk c sc cl) (e0 : e = compEnvC sc cl C c.env) (hx : (x, NameKind.free) ∈ sc.names) (hv : Var c x u) : Var (c.on l e) x u := by
  subst e0
  have hc := K.cell x hx
  have hk := K.kindOf (C := C) hx
  rw [if_pos rfl] at hk
  rcases hv with hv | hv | ⟨_, a, o, b1, b2, b3⟩
  · exact nomatch hc.symm.trans hv.1
  · exact nomatch hc.symm.trans hv.1
  · obtain ⟨a', ha'⟩ := K.cl2 x hx
    have e : a' = a := Option.some.inj ((K.cl1 x a' ha').symm.trans b1)
    subst e
    exact .inr (.inr ⟨hk, a', o, ha', b2, b3⟩)
theorem Vars.init {l : Led} {ini : List (Option Nat)} (K : CompOk c sc cl) (Ck : CeOk G ce c) (hi : initOf ce.names sc.names = some ini) (Vs : Vars G c g ce.names ρ) : Vars G (c.on l (compEnvC sc cl C c.env)) g sc.names (initR ρ ini) := by
  intro i x kd v h1 h2 h3
  obtain ⟨j, h4, h5, h6⟩ := (initOf_mem hi).2 i x kd v ρ h1 h3
  subst h6
  obtain ⟨d, kd', e1, e2, e3, e4⟩ := slotAt_get h4
  rw [Nat.zero_add] at e1
  subst e1
  obtain ⟨u, k1, k2⟩ := Vs j x kd' v e2 e4 h5
  exact ⟨u, Var.env0 K rfl (List.mem_of_getElem? h1) k1, k2⟩
theorem Vars.moved {l l' : Led} {e : Env} {names : List (Str × NameKind)} (hl : ∀ o, (e.locals, o) ∈ l → (e.locals, o) ∈ l') (Vs : Vars G (c.on l e) g names ρ) : Vars G (c.on l' e) g names ρ := by
  intro i x kd v h1 h2 h3
  obtain ⟨u, k1, k2⟩ := Vs i x kd v h1 h2 h3
  refine ⟨u, ?_, k2⟩
  rcases k1 with k1 | ⟨a, o, m', b, d⟩ | k1
  · exact .inl k1
  · exact .inr (.inl ⟨a, o, m', (List.mem_append.mp b).elim (fun q => List.mem_append_left _ (hl _ q)) fun q => List.mem_append_right _ q, d⟩)
  · exact .inr (.inr k1)
theorem Sim.apart3 {H : Heap} {I C D : Addr} {oI oC oD : Obj} {e : Env} (S : Sim G (c.on [(I, oI), (C, oC), (D, oD)] e) g h H) : I ≠ C ∧ D ≠ C := by
  have nd := S.nd
  unfold ledOf at nd
  rw [List.map_append, List.nodup_append] at nd
  have nd2 := List.nodup_cons.mp nd.2.1
  exact ⟨fun z => nd2.1 (z ▸ .head _), fun z => (List.nodup_cons.mp nd2.2).1 (z ▸ .head _)⟩
theorem in3 {A D C : Addr} {x y z o : Obj} (h : (C, o) ∈ [(A, x), (C, y), (D, z)]) (hA : A ≠ C) (hD : D ≠ C) : o = y := by
  rcases List.mem_cons.mp h with h | h
  · exact absurd (congrArg Prod.fst h).symm hA
  · rcases List.mem_cons.mp h with h | h
    · exact congrArg Prod.snd h
    · exact absurd (congrArg Prod.fst (List.mem_singleton.mp h)).symm hD
/-- the comprehension's own names are in the middle one -/
theorem Vars.first {I C D : Addr} {oI oI' oC oD oD' : Obj} {e : Env} {names : List (Str × NameKind)} (ap : I ≠ C ∧ D ≠ C) (he : e.locals = C) (Vs : Vars G (c.on [(I, oI), (C, oC), (D, oD)] e) g names ρ) : Vars G (c.on [(C, oC), (D, oD'), (I, oI')] e) g names ρ := by
  subst he
  exact Vs.moved fun o z => in3 z ap.1 ap.2 ▸ .head _
theorem Vars.last {I C D : Addr} {oI oI' oC oD oD' : Obj} {e : Env} {names : List (Str × NameKind)} (ap : I ≠ C ∧ D ≠ C) (he : e.locals = C) (Vs : Vars G (c.on [(C, oC), (D, oD), (I, oI)] e) g names ρ) : Vars G (c.on [(I, oI'), (C, oC), (D, oD')] e) g names ρ := by
  subst he
  refine Vs.moved fun o z => ?_
  rcases List.mem_cons.mp z with z | z
  · exact z ▸ .tail _ (.head _)
  · rcases List.mem_cons.mp z with z | z
    · exact absurd (congrArg Prod.fst z).symm ap.2
    · exact absurd (congrArg Prod.fst (List.mem_singleton.mp z)).symm ap.1

structure CV where
  i : Nat
  ρ : Rho
  h : List O
  g : Gh
  oI : Obj
  oC : Obj
  m : Str → Option Value
  ys : Array Value
  nn : Nat
  done : List V
  xs : List V
structure CompIn (G : Gl) (c : Cx) (sc : Scope) (cl : List (Str × Addr)) (C D I : Addr) (r : Rec) (k : Nat) (ce : CE) (elt : PySem.Expr) (tg : Tgt) (ifs : List PySem.Expr) (src : Srcs) (total : List V) (h₂ : List O) (f₀ : Nat) (g₀ : Gh) (s₀ : Shared) (f : Nat) (s : Shared) (X : CV) : Prop where
  e : compS r (cE k { ce with names := sc.names } elt) tg (ifs.map (cE k { ce with names := sc.names })) src f X.i X.ρ X.h = some (X.xs, h₂)
  S : Sim G (c.on [(I, X.oI), (C, X.oC), (D, listOf X.ys X.nn)] (compEnvC sc cl C c.env)) X.g X.h s.heap
  lg : g₀.le X.g
  sm : Same s₀ s
  no : NsO X.oC X.m
  it : ItO G c X.g src X.i X.oI
  Vs : Vars G (c.on [(I, X.oI), (C, X.oC), (D, listOf X.ys X.nn)] (compEnvC sc cl C c.env)) X.g sc.names X.ρ
  rvs : VVs G c X.g X.done X.ys.toList
  hd : X.done ++ X.xs = total
  hy : X.ys.size ≤ X.i
  hif : X.i + f = f₀

theorem VVs.snoc {l : List V} {us : List Value} {u : Value} (x : VVs G c g l us) (y : VV G c g v u) : VVs G c g (l ++ [v]) (us ++ [u]) := VVs.app (.cons y .nil) x

theorem compS_on {P : Prop} {elt : E} {tg : Tgt} {ifs : List E} {src : Srcs} {f i : Nat} {xs : List V} (e : compS r elt tg ifs src (f + 1) i ρ h = some (xs, h₂))
    (k : ∀ w, nextS src i h = some w → (w = none → xs = [] ∧ h = h₂) → (∀ v, w = some v → ∃ ρ₂ b h1, bindT tg v ρ = some ρ₂ ∧ ifsAll r ρ₂ ifs h = some (b, h1) ∧ (b = false → compS r elt tg ifs src f (i + 1) ρ₂ h1 = some (xs, h₂)) ∧
      (b = true → ∃ y h3 xs', r.ev elt ρ₂ h1 = some (y, h3) ∧ compS r elt tg ifs src f (i + 1) ρ₂ h3 = some (xs', h₂) ∧ xs = y :: xs')) → P) : P := by
  unfold compS at e
  refine sZ e (fun _ e => nsome e) (fun hn e => k none hn (fun _ => inj2 e fun a b => ⟨a, b.symm⟩) fun v z => nomatch z) fun v hn e => k (some v) hn (fun z => nomatch z) fun v' hv => ?_
  cases Option.some.inj hv
  refine sK e (fun _ e => nsome e) fun ρ₂ hb e => sO e (fun _ e => nsome e) (fun h1 e1 e => ⟨ρ₂, false, h1, hb, e1, fun _ => e, fun z => nomatch z⟩) fun h1 e1 e => ⟨ρ₂, true, h1, hb, e1, (fun z => nomatch z), fun _ => ?_⟩
  exact sA e (fun _ e => nsome e) fun y h3 e3 e => sD e (fun xs' h4 e4 e => inj2 e fun a b => ⟨y, h3, xs', e3, b ▸ e4, a⟩) fun _ e => nsome e

theorem comp_loop (H : Hyp G T r n c ce) (K : CompOk c sc cl) {elt iter t : PySem.Expr} {tg : Tgt} {ifs : List PySem.Expr} {pos : Pos} {src : Srcs} {total : List V} {D I : Addr} {f₀ f : Nat} {g₀ : Gh} {R : Result → Shared → Prop}
    (ht : tgtOf { ce with names := sc.names } t = some tg) (hf : f₀ ≤ lim + 1) (hs : ∃ X, CompIn G c sc cl C D I r k ce elt tg ifs src total h₂ f₀ g₀ s f s X)
    (q : ∀ s' g' oC m ys nn, Sim G (c.on [(C, oC), (D, listOf ys nn)] (compEnvC sc cl C c.env)) g' h₂ s'.heap → g₀.le g' → Same s s' → NsO oC m → VVs G c g' total ys.toList → R (.ok .next) s') :
    codeAny (model G.prog G.w) c.A (.compLoop (.ListComp elt [⟨t, iter, ifs, 0⟩] sc pos) 0 (.ref I) (.ref D) (compEnvC sc cl C c.env)) R s := by
  refine codeAny_loop rfl (fun f s₁ => ∃ X, CompIn G c sc cl C D I r k ce elt tg ifs src total h₂ f₀ g₀ s f s₁ X) (fun f s₁ hI => ?_) f hs
  show wpAny _ _ ((compTurn (.ListComp elt [⟨t, iter, ifs, 0⟩] sc pos) 0 (.ref I) (.ref D) (compEnvC sc cl C c.env)).onRaise (fun x => do noteFrame x (compEnvC sc cl C c.env); theTreesLotGoes x)) _ _ s₁
  refine wpAny_noted ?_
  rw [compTurn_list]
  obtain ⟨X, hI⟩ := hI
  cases f with
  | zero => exact nsome hI.e
  | succ f =>
    refine compS_on hI.e fun w hw k0 k1 => wpAny_bind (wpAny_standAt (wpAny_bind (next_ok (c := c.on [(C, X.oC), (D, listOf X.ys X.nn)] (compEnvC sc cl C c.env)) (K.ok H.ok _) hI.S (.refl _) hI.it.on hw (fun s₂ hn S₂ q₂ => wpAny_pure ?_) fun v u oI' s₂ hv rv S₂ q₂ it₂ => ?_)))
    · obtain ⟨e1, e2⟩ := k0 hn
      have hd := hI.hd
      rw [e1, List.append_nil] at hd
      exact q s₂ X.g X.oC X.m X.ys X.nn (e2 ▸ S₂) hI.lg (hI.sm.trans q₂) hI.no (hd ▸ hI.rvs)
    · obtain ⟨ρ₂, b, h1, hb, e1, kf, kt⟩ := k1 v hv
      have S₃ : Sim G (c.on ((C, X.oC) :: [(D, listOf X.ys X.nn), (I, oI')]) (compEnvC sc cl C c.env)) X.g X.h s₂.heap := Sim.onPerm (l := [(I, oI'), (C, X.oC), (D, listOf X.ys X.nn)]) (List.perm_append_comm (l₁ := [(I, oI')])) S₂
      refine wpAny_bind (go_ok (c := c) S₂.privAt it₂.off (wpAny_bind (tgt_ok (famC K H.ok C [(D, listOf X.ys X.nn), (I, oI')]) K.nd (x := ⟨X.oC, X.m, hI.no⟩) ht hb rv S₃ (Vars.first hI.S.apart3 rfl hI.Vs) fun x' s₃ S₄ q₃ Vs₃ => ?_)))
      have H' : Hyp G T r n (c.on ((C, x'.o) :: [(D, listOf X.ys X.nn), (I, oI')]) (compEnvC sc cl C c.env)) { ce with names := sc.names } := H.on (K.ok H.ok _) (K.ceOk H.Ck _)
      refine wpAny_bind (ifs_ok H' e1 X.g s₃ S₄ Vs₃ _ _ fun b' s₄ g₄ S₅ l₄ q₄ p₄ => ?_)
      subst p₄
      have hif : X.i + 1 + f = f₀ := (Nat.add_right_comm X.i 1 f).trans hI.hif
      have sm₄ := ((hI.sm.trans q₂).trans q₃).trans q₄
      have S₅' : Sim G (c.on [(I, oI'), (C, x'.o), (D, listOf X.ys X.nn)] (compEnvC sc cl C c.env)) g₄ h1 s₄.heap := Sim.onPerm (l := (C, x'.o) :: [(D, listOf X.ys X.nn), (I, oI')]) (List.perm_append_comm (l₁ := [(C, x'.o), (D, listOf X.ys X.nn)])) S₅
      cases b' with
      | false =>
        exact wpAny_pure ⟨rfl, f, Nat.lt_succ_self _, ⟨X.i + 1, ρ₂, h1, g₄, oI', x'.o, x'.m, X.ys, X.nn, X.done, X.xs⟩, ⟨kf rfl, S₅', hI.lg.trans l₄, sm₄, x'.ok, it₂.off.le l₄, Vars.last S₅'.apart3 rfl (Vs₃.le l₄), hI.rvs.le l₄, hI.hd, Nat.le_succ_of_le hI.hy, hif⟩⟩
      | true =>
        obtain ⟨y, h3, xs', e3, e4, e5⟩ := kt rfl
        refine wpAny_bind (wpAny_bind (H'.ev e3 g₄ s₄ S₅ (Vs₃.le l₄) _ _ fun u' s₅ g₅ S₆ l₅ q₅ p₅ => ?_))
        have S₇ : Sim G ((c.on [(I, oI'), (C, x'.o)] (compEnvC sc cl C c.env)).with (D, listOf X.ys X.nn)) g₅ h3 s₅.heap := Sim.onPerm (l := (C, x'.o) :: [(D, listOf X.ys X.nn), (I, oI')]) (List.perm_append_comm (l₁ := [(C, x'.o)])) S₆
        have hsz : X.ys.size ≤ sizeLine := by
          have a1 := hI.hy
          have a2 := hI.hif
          rw [sizeLine_eq]; unfold lim at hf; omega
        refine wpAny_bind (wpAny_list_append_plain ⟨X.nn, S₇.privAt⟩ (fun h' hl hs => wpAny_pure (wpAny_pure ?_)) hsz)
        obtain ⟨nn', hg⟩ := hl
        have S₈ : Sim G (c.on [(I, oI'), (C, x'.o), (D, listOf (X.ys.push u') nn')] (compEnvC sc cl C c.env)) g₅ h3 h' := Sim.onPerm (l := [(D, listOf (X.ys.push u') nn'), (I, oI'), (C, x'.o)]) (List.perm_append_comm (l₁ := [(D, listOf (X.ys.push u') nn')])) (S₇.privSet hs hg)
        have l₄₅ := l₄.trans l₅
        refine ⟨rfl, f, Nat.lt_succ_self _, ⟨X.i + 1, ρ₂, h3, g₅, oI', x'.o, x'.m, X.ys.push u', nn', X.done ++ [y], xs'⟩, ⟨e4, S₈, hI.lg.trans l₄₅, sm₄.trans ⟨q₅.os, q₅.gens⟩, x'.ok, it₂.off.le l₄₅, Vars.last S₈.apart3 rfl (Vs₃.le l₄₅), ?_, ?_, ?_, hif⟩⟩
        · show VVs G c g₅ (X.done ++ [y]) (X.ys.push u').toList
          rw [Array.toList_push]; exact (hI.rvs.le l₄₅).snoc p₅
        · exact (List.append_assoc ..).trans ((congrArg (X.done ++ ·) e5.symm).trans hI.hd)
        · show (X.ys.push u').size ≤ X.i + 1
          rw [Array.size_push]; exact Nat.succ_le_succ hI.hy
end Mine
end
section
open PySem PySem.W PyProof.Rows PySem.Calls PySem.SeqAt
namespace Mine
variable {G : Gl} {α β : Type} {c : Cx} {g : Gh} {s : Shared} {h h' h₁ h₂ : List O}
variable {T : Tab} {r : Rec} {n k : Nat} {ce : CE} {ρ ρ' : Rho} {v : V}
variable {sc : Scope} {cl : List (Str × Addr)} {C : Addr}

theorem notSet (H : Hyp G T r n c ce) {x : PySem.Expr} {z : V × List O} (e : r.ev (cE k ce x) ρ h = some z) (env : Env) (u : Value) : foldedSetIterable x env u = pure u := by
  cases x
  case Set => exact nsome (((H.IH.fail ρ h).symm.trans (congrArg (fun x => r.ev x ρ h) (by cases k <;> rfl))).trans e)
  all_goals rfl

/-- the list that was filled -/
theorem listDone {D : Addr} {ys : Array Value} {nn : Nat} {vs : List V} {mu : Bool} (S : Sim G (c.with (D, listOf ys nn)) g h s.heap) (rvs : VVs G c g vs ys.toList) (hm : mkList mu vs h = some (v, h')) :
    ∃ g', Sim G c g' h' s.heap ∧ g.le g' ∧ VV G c g' v (.ref D) := by
  obtain ⟨S₂, N₂, ap⟩ := S.unpriv
  have p₂ : VVs G c ⟨g.as, (D, listOf ys nn) :: g.Z, g.mu⟩ vs ys.toList := rvs.le (Gh.le_freeze _ _)
  refine oA hm (fun xs e hm => iF hm (fun _ hm => inj2 hm fun a1 a2 => ?_) fun _ hm => inj2 hm fun a1 a2 => ?_) fun _ hm => iF hm (fun _ hm => nsome hm) fun _ hm => inj2 hm fun a1 a2 => ?_
  · subst a1 a2
    exact ⟨_, S₂.pushN S₂.fr N₂ ap (.list (l := xs) (vs := ys.toList) (rvs.toD e)), Gh.le_push _ _ _, .loc (by rw [← S₂.la]; exact List.getElem?_concat_length)⟩
  · subst a1 a2
    exact ⟨_, S₂.freezeN S₂.fr N₂ ap, Gh.le_freeze _ _, .d (.list (.inr (.head _)) rfl rfl (p₂.toD e))⟩
  · subst a1 a2
    exact ⟨_, S₂.freezeN S₂.fr N₂ ap, Gh.le_freeze _ _, .lstv (.inr (.head _)) rfl rfl p₂⟩

theorem comp_core (H : Hyp G T r n c ce) (K : CompOk c sc cl) {elt iter t : PySem.Expr} {tg : Tgt} {ifs : List PySem.Expr} {ini : List (Option Nat)} {pos : Pos} {src : Srcs} {total : List V} {f : Nat} {u : Value} {RR : Value → Addr → Result → Shared → Prop} {E : Value → Shared → Prop}
    (ht : tgtOf { ce with names := sc.names } t = some tg) (hi : initOf ce.names sc.names = some ini) (es : srcOf h v = some (src, f)) (rv : VV G c g v u) (S : Sim G c g h s.heap) (Vs : Vars G c g ce.names ρ)
    (e : compS r (cE k { ce with names := sc.names } elt) tg (ifs.map (cE k { ce with names := sc.names })) src f 0 (initR ρ ini) h = some (total, h₂))
    (q : ∀ D C s' g' oC m ys nn, Sim G (c.on [(C, oC), (D, listOf ys nn)] c.env) g' h₂ s'.heap → g.le g' → Same s s' → NsO oC m → VVs G c g' total ys.toList → RR (.ref D) C (.ok .next) s') :
    wpAny (model G.prog G.w) c.A (pyIter u) (fun it s₂ => wpAny (model G.prog G.w) c.A (newList []) (fun acc s₃ => wpAny (model G.prog G.w) c.A (newFunctionEnv sc c.env.globals cl [] c.env.qual none .none (some c.env)) (fun cenv s₄ =>
      codeAny (model G.prog G.w) c.A (.compStart (.ListComp elt [⟨t, iter, ifs, 0⟩] sc pos) 0 it acc { cenv with scope := relabel sc c.env }) (RR acc cenv.locals) s₄) E s₃) E s₂) E s := by
  refine iter_ok H.ok S rv es fun oI s₁ S₁ q₁ it₁ hf => ?_
  have S₂ := S₁.privPush (o := listOf ([] : List Value).toArray 0) rfl
  have hcell : ∀ x ∈ sc.names, x.2 ≠ .cell := fun x hx => (scopeOk_mem K.sok hx).2
  refine wpAny_newObj_type (wpAny_newFunctionEnv hcell (fun y hy => nomatch hy) (fun h₂' hns hsb => ?_) K.kind)
  dsimp only at hns hsb ⊢
  have S₃ := Sim.privPush (s := { s₁ with heap := s₁.heap.push (listOf ([] : List Value).toArray 0) }) S₂ (o := { cls := .type "dict", data := .dict #[] }) rfl
  obtain ⟨oC, hoC, hno⟩ := ns_at hns
  have S₄ := Sim.privSet (s := { s₁ with heap := (s₁.heap.push (listOf ([] : List Value).toArray 0)).push { cls := .type "dict", data := .dict #[] } }) S₃ hsb hoC
  let I := s.heap.objs.size
  let D := s₁.heap.objs.size
  let C := (s₁.heap.push (listOf ([] : List Value).toArray 0)).objs.size
  have S₅ : Sim G (c.on [(I, oI), (C, oC), (D, listOf ([] : List Value).toArray 0)] (compEnvC sc cl C c.env)) g h h₂' :=
    Sim.onPerm (c := c) (l := [(C, oC), (D, listOf ([] : List Value).toArray 0), (I, oI)]) (e := c.env) (List.perm_append_comm (l₁ := [(C, oC), (D, listOf ([] : List Value).toArray 0)]) (l₂ := [(I, oI)])) S₄
  have loop : ∀ s₃ : Shared, s₃ = { s₁ with heap := h₂', toks := s₁.toks + ([] : List (Str × Value)).length } →
      codeAny (model G.prog G.w) c.A (.compLoop (.ListComp elt [⟨t, iter, ifs, 0⟩] sc pos) 0 (.ref I) (.ref D) (compEnvC sc cl C c.env)) (RR (.ref D) C) s₃ := by
    rintro s₃ rfl
    refine comp_loop H K ht hf (g₀ := g) (f := f) ⟨⟨0, initR ρ ini, h, g, oI, oC, _, #[], 0, [], total⟩, ⟨e, S₅, .refl _, .refl _, hno, it₁, ?_, .nil, rfl, Nat.le_refl _, Nat.zero_add _⟩⟩ fun s' g' oC' m' ys nn S' l' q' no' rvs => ?_
    · exact Vars.init K H.Ck hi Vs
    · exact q D C s' g' oC' m' ys nn S'.onEnv l' (q₁.trans ⟨q'.os, q'.gens⟩) no' rvs
  refine codeAny_compStart_list (loop _ rfl) ?_
  have hI : h₂'.get? I = some oI := (S₅.news (I, oI) (List.mem_append_right _ (.head _))).1
  exact iter_self (c := c) (s := { s₁ with heap := h₂', toks := s₁.toks + ([] : List (Str × Value)).length }) hI it₁ (loop _ rfl)

theorem comp_ok (H : Hyp G T r n c ce) (hs : fnKind sc = true) (sok : scopeOk sc.names = true) {ini : List (Option Nat)} (hi : initOf ce.names sc.names = some ini) : ∃ cl, closureFor sc c.env = pure cl ∧ CompOk c sc cl := by
  have hc : ∀ x, (x, NameKind.free) ∈ sc.names → c.env.kindOf x = some .cell ∧ ∃ a, c.env.cells.lookup x = some a := fun x hx => H.Ck.cell x ((initOf_mem hi).1 x hx)
  obtain ⟨cl, h1, h2, h3⟩ := closure_ok (env := c.env) (scope := sc) fun x hx => (hc x hx).2
  refine ⟨cl, h1, ?_, sok, scopeOk_nd sok, h2, h3, fun x hx => (hc x hx).1, H.ok.ek⟩
  unfold fnKind at hs
  cases hk : sc.kind <;> rw [hk] at hs
  all_goals exact ftrue hs

structure CompParts (ce : CE) (sc : Scope) (t : PySem.Expr) (tg : Tgt) (ini : List (Option Nat)) : Prop where
  ht : tgtOf { ce with names := sc.names } t = some tg
  hi : initOf ce.names sc.names = some ini
  hk : fnKind sc = true
  sok : scopeOk sc.names = true
theorem ev_comp (H : Hyp G T r n c ce) {elt iter t : PySem.Expr} {ifs : List PySem.Expr} {pos : Pos} {tg : Tgt} {ini : List (Option Nat)} {mu : Bool} (ht : tgtOf { ce with names := sc.names } t = some tg) (hi : initOf ce.names sc.names = some ini) (h3 : (fnKind sc && scopeOk sc.names) = true)
    (e : stepEv T r (.comp mu (cE k { ce with names := sc.names } elt) tg (cE k ce iter) (ifs.map (cE k { ce with names := sc.names })) ini) ρ h = some (v, h')) : EvX G c ce.names (.ListComp elt [⟨t, iter, ifs, 0⟩] sc pos) ρ h v h' := by
  refine fun g s S Vs E Q q => sA e (fun _ e => nsome e) fun v₁ h₁ e1 e => sQ e (fun _ e => nsome e) fun src f e2 e => sC e (fun _ e => nsome e) fun total h₂ e3 e4 => ?_
  have h3' := Bool.and_eq_true_iff.mp h3
  obtain ⟨cl, hcl, K⟩ := comp_ok H h3'.1 h3'.2 hi
  rw [eval_ListComp]
  refine wpAny_comprehension_free (use := none) rfl (fun u => notSet H e1 _ u) hcl K.kind (fun x hx hl => hl ▸ (scopeOk_mem K.sok hx).1) ?_
  refine H.ev e1 g s S Vs E _ fun u s₁ g₁ S₁ l₁ q₁ p₁ => ?_
  refine comp_core H K ht hi e2 p₁ S₁ (Vs.le l₁) e3 fun D C s' g' oC m ys nn S' l' q' no rvs => ?_
  have S'' : Sim G ((c.on [(D, listOf ys nn)] c.env).with (C, oC)) g' h₂ s'.heap := S'
  obtain ⟨es, ep, d1, d2, d3⟩ := no
  refine ⟨m, ⟨oC, es, ep, S''.privAt, d1, d2, d3⟩, fun h'' hs => ?_⟩
  have S₃ : Sim G ((c.on [] c.env).with (D, listOf ys nn)) g' h₂ h'' := S''.privDrop hs.extBut
  obtain ⟨g'', S₄, l₄, rv⟩ := listDone (s := { s' with heap := h'' }) (c := c.on [] c.env) S₃ rvs e4
  exact q _ { s' with heap := h'' } g'' S₄.off0 ((l₁.trans l').trans l₄) ((q₁.trans q').trans ⟨rfl, rfl⟩) rv
end Mine
end
section
open PySem PySem.W PyProof.Rows PySem.Calls PySem.SeqAt
namespace Mine
variable {G : Gl} {α β : Type} {c : Cx} {g : Gh} {s : Shared} {h h' h₁ h₂ : List O}
variable {T : Tab} {r : Rec} {n k : Nat} {ce : CE} {ρ ρ' : Rho} {v : V}
variable {sc : Scope} {cl : List (Str × Addr)} {C : Addr}

structure DV where
  i : Nat
  ρ : Rho
  h : List O
  g : Gh
  oI : Obj
  oC : Obj
  oD : Obj
  m : Str → Option Value
  acc : List (Int × PyData)
  kv : List (Int × Value)
structure DcIn (G : Gl) (c : Cx) (sc : Scope) (cl : List (Str × Addr)) (C D I a : Addr) (kvs : List (Int × Value)) (ep : Nat) (r : Rec) (k : Nat) (ce : CE) (ke ve : PySem.Expr) (tg : Nat) (ifs : List PySem.Expr) (total : List (Int × PyData)) (h₂ : List O) (g₀ : Gh) (s₀ : Shared) (f : Nat) (s : Shared) (X : DV) : Prop where
  e : dcompL r (cE k { ce with names := sc.names } ke) (cE k { ce with names := sc.names } ve) tg (ifs.map (cE k { ce with names := sc.names })) ((kvs.map (·.1)).drop X.i) X.ρ X.h X.acc = some (total, h₂)
  S : Sim G (c.on [(I, X.oI), (C, X.oC), (D, X.oD)] (compEnvC sc cl C c.env)) X.g X.h s.heap
  lg : g₀.le X.g
  sm : Same s₀ s
  no : NsO X.oC X.m
  it : X.oI.cls = .type "dict_keyiterator" ∧ X.oI.data = .fields #[.ref a, .int (X.i : Nat) 0, .int (kvs.length : Nat) 0, .int (ep : Nat) 0]
  Vs : Vars G (c.on [(I, X.oI), (C, X.oC), (D, X.oD)] (compEnvC sc cl C c.env)) X.g sc.names X.ρ
  hd : X.oD.IsDictOf (intKind G.prog G.w) X.kv
  pd : PD (RD (kn c X.g)) X.acc X.kv
  hif : X.i + f = kvs.length

theorem key_int {key : Int} {u : Value} (h : (intKind G.prog G.w).is key u = true) : ∃ t, u = .int key t := by
  cases u
  case int i t => exact ⟨t, congrArg (Value.int · t) (eq_of_beq (show (i == key) = true from h))⟩
  all_goals exact ftrue h
theorem tgt_name {x : Str} {p : Pos} {i : Nat} (h : storeSlot ce x = some i) : tgtOf ce (.Name x p) = some (.one i) := by unfold tgtOf; dsimp only; rw [h]
theorem dcompL_on {P : Prop} {ke ve : E} {tg : Nat} {ifs : List E} {key : Int} {vs : List Int} {m total : List (Int × PyData)} (e : dcompL r ke ve tg ifs (key :: vs) ρ h m = some (total, h₂))
    (k : ∀ b h1, ifsAll r (ρ.set tg (some (bI key))) ifs h = some (b, h1) → (b = false → dcompL r ke ve tg ifs vs (ρ.set tg (some (bI key))) h1 m = some (total, h₂)) →
      (b = true → ∃ k' h3 y h4, r.ev ke (ρ.set tg (some (bI key))) h1 = some (.d (.int k'), h3) ∧ r.ev ve (ρ.set tg (some (bI key))) h3 = some (.d y, h4) ∧ short m = true ∧ dcompL r ke ve tg ifs vs (ρ.set tg (some (bI key))) h4 (putI k' y m) = some (total, h₂)) → P) : P :=
  sO e (fun _ e => nsome e) (fun h1 e1 e => k false h1 e1 (fun _ => e) fun z => nomatch z) fun h1 e1 e => k true h1 e1 (fun z => nomatch z) fun _ =>
    wH e (fun k' h3 e3 e => wA e (fun y h4 e4 e => iF e (fun hs e => ⟨k', h3, y, h4, e3, e4, hs, e⟩) fun _ e => nsome e) fun e => nsome e) fun e => nsome e

theorem dcomp_loop (H : Hyp G T r n c ce) (K : CompOk c sc cl) {ke ve iter : PySem.Expr} {x : Str} {px : Pos} {tg : Nat} {ifs : List PySem.Expr} {pos : Pos} {total : List (Int × PyData)} {D I a : Addr} {oa : Obj} {kvs : List (Int × Value)} {ep f : Nat} {g₀ : Gh} {R : Result → Shared → Prop}
    (ht : storeSlot { ce with names := sc.names } x = some tg) (hka : kn c g₀ a oa) (hda : ∀ H' : Heap, H'.get? a = some oa → H'.DictAt (intKind G.prog G.w) a kvs ep) (hs : ∃ X, DcIn G c sc cl C D I a kvs ep r k ce ke ve tg ifs total h₂ g₀ s f s X)
    (q : ∀ s' g' oC oD m kv, Sim G (c.on [(C, oC), (D, oD)] (compEnvC sc cl C c.env)) g' h₂ s'.heap → g₀.le g' → Same s s' → NsO oC m → oD.IsDictOf (intKind G.prog G.w) kv → PD (RD (kn c g')) total kv → R (.ok .next) s') :
    codeAny (model G.prog G.w) c.A (.compLoop (.DictComp ke ve [⟨.Name x px, iter, ifs, 0⟩] sc pos) 0 (.ref I) (.ref D) (compEnvC sc cl C c.env)) R s := by
  refine codeAny_compLoop_testsD (fun f s₁ => ∃ X, DcIn G c sc cl C D I a kvs ep r k ce ke ve tg ifs total h₂ g₀ s f s₁ X) (fun f s₁ hI => ?_) f hs
  obtain ⟨X, hI⟩ := hI
  have S0 : Sim G ((c.on [(C, X.oC), (D, X.oD)] (compEnvC sc cl C c.env)).with (I, X.oI)) X.g X.h s₁.heap := hI.S
  have hat : s₁.heap.DictAt (intKind G.prog G.w) a kvs ep := hda _ ((hI.S.known (K.ok H.ok _) a oa) (Kn.mono hI.lg.Z a oa hka))
  have hit : s₁.heap.IsKeyIter I a X.i kvs.length ep := ⟨X.oI, S0.privAt, hI.it.1, hI.it.2⟩
  have e := hI.e
  have hif := hI.hif
  cases hx : kvs[X.i]? with
  | none =>
    have hle := List.getElem?_eq_none_iff.mp hx
    rw [List.drop_eq_nil_of_le (by rw [List.length_map]; exact hle)] at e
    refine inj2 e fun e1 e2 => ?_
    have hi : X.i = kvs.length := Nat.le_antisymm (hif ▸ Nat.le_add_right ..) hle
    rw [hi] at hit hx
    refine wpAny_pyNext_dict_end H.ok.hh hit hat hx fun h' he => ?_
    exact q { s₁ with heap := h' } X.g X.oC X.oD X.m X.kv (e2 ▸ S0.privDrop he) hI.lg (hI.sm.trans ⟨rfl, rfl⟩) hI.no hI.hd (e1 ▸ hI.pd)
  | some p =>
    have hlt := (List.getElem?_eq_some_iff.mp hx).1
    refine wpAny_pyNext_dict_item hit hat hx fun kx h' hkx hit' hs' => ?_
    obtain ⟨oI', hoI, hc⟩ := hit'
    have S₃ : Sim G (c.on ((C, X.oC) :: [(D, X.oD), (I, oI')]) (compEnvC sc cl C c.env)) X.g X.h h' := Sim.onPerm (l := [(I, oI'), (C, X.oC), (D, X.oD)]) (List.perm_append_comm (l₁ := [(I, oI')])) (S0.privSet hs' hoI)
    have hdr : (kvs.map (·.1)).drop X.i = p.1 :: (kvs.map (·.1)).drop (X.i + 1) := by
      rw [List.drop_eq_getElem_cons (by rw [List.length_map]; exact hlt), List.getElem_map, (List.getElem?_eq_some_iff.mp hx).2]
    rw [hdr] at e
    refine dcompL_on e fun b h1 e1 kf kt => ?_
    obtain ⟨tk, hk⟩ := key_int hkx
    subst hk
    refine tgt_ok (v := bI p.1) (ρ' := X.ρ.set tg (some (bI p.1))) (famC K H.ok C [(D, X.oD), (I, oI')]) K.nd (x := ⟨X.oC, X.m, hI.no⟩) (t := .Name x px) (tg := .one tg) (tgt_name ht) rfl (.d (.int _ _)) S₃ (Vars.first hI.S.apart3 rfl hI.Vs) fun x' s₃ S₄ q₃ Vs₃ => ?_
    have H' : Hyp G T r n (c.on ((C, x'.o) :: [(D, X.oD), (I, oI')]) (compEnvC sc cl C c.env)) { ce with names := sc.names } := H.on (K.ok H.ok _) (K.ceOk H.Ck _)
    refine ifs_ok H' e1 X.g s₃ S₄ Vs₃ _ _ fun b' s₄ g₄ S₅ l₄ q₄ p₄ => ?_
    subst p₄
    have hlt' : f - 1 < f := Nat.sub_lt (Nat.pos_of_ne_zero fun z => Nat.lt_irrefl X.i (by rw [z] at hif; exact Nat.lt_of_lt_of_eq hlt hif.symm)) Nat.one_pos
    have hif' : X.i + 1 + (f - 1) = kvs.length := by omega
    have sm₄ : Same s s₄ := ((hI.sm.trans ⟨rfl, rfl⟩).trans ⟨q₃.os, q₃.gens⟩).trans q₄
    have S₅' : Sim G (c.on [(I, oI'), (C, x'.o), (D, X.oD)] (compEnvC sc cl C c.env)) g₄ h1 s₄.heap := Sim.onPerm (l := (C, x'.o) :: [(D, X.oD), (I, oI')]) (List.perm_append_comm (l₁ := [(C, x'.o), (D, X.oD)])) S₅
    cases b' with
    | false => exact ⟨f - 1, hlt', ⟨X.i + 1, _, h1, g₄, oI', x'.o, X.oD, x'.m, X.acc, X.kv⟩, ⟨kf rfl, S₅', hI.lg.trans l₄, sm₄, x'.ok, hc, Vars.last S₅'.apart3 rfl (Vs₃.le l₄), hI.hd, hI.pd.mono (fun _ _ q => q.mono (Kn.mono l₄.Z)), hif'⟩⟩
    | true =>
      obtain ⟨k', h3, y, h4, e3, e4, hsh, e5⟩ := kt rfl
      refine H'.ev e3 g₄ s₄ S₅ (Vs₃.le l₄) _ _ fun uk s₅ g₅ S₆ l₅ q₅ p₅ => ?_
      obtain ⟨tk', hk⟩ := rd_int (h := []) p₅ rfl
      subst hk
      refine H'.ev e4 g₅ s₅ S₆ (Vs₃.le (l₄.trans l₅)) _ _ fun uv s₆ g₆ S₇ l₆ q₆ p₆ => ?_
      have S₈ : Sim G ((c.on [(I, oI'), (C, x'.o)] (compEnvC sc cl C c.env)).with (D, X.oD)) g₆ h4 s₆.heap := Sim.onPerm (l := (C, x'.o) :: [(D, X.oD), (I, oI')]) (List.perm_append_comm (l₁ := [(C, x'.o)])) S₇
      have hlen : X.kv.length ≤ sizeLine := Nat.le_trans (hI.pd.length ▸ Nat.le_of_ble_eq_true hsh) (by rw [sizeLine_eq]; exact Nat.le_of_ble_eq_true rfl)
      refine wpAny_dictSet_pairs (hsz := hlen) (int_is k' tk') (Heap.dictOf_iff.mpr ⟨X.oD, S₈.privAt, hI.hd⟩) fun h₅ hl₅ hs₅ => ?_
      obtain ⟨oD', hoD, hdo'⟩ := Heap.dictOf_iff.mp hl₅
      have S₁₀ : Sim G (c.on [(I, oI'), (C, x'.o), (D, oD')] (compEnvC sc cl C c.env)) g₆ h4 h₅ := Sim.onPerm (l := [(D, oD'), (I, oI'), (C, x'.o)]) (List.perm_append_comm (l₁ := [(D, oD')])) (S₈.privSet hs₅ hoD)
      have l46 := (l₄.trans l₅).trans l₆
      obtain ⟨_, _, _, _, _, _, ndk⟩ := hI.hd
      have sm₆ : Same s s₆ := (sm₄.trans q₅).trans q₆
      exact ⟨f - 1, hlt', ⟨X.i + 1, _, h4, g₆, oI', x'.o, oD', x'.m, putI k' y X.acc, stored X.kv k' uv⟩, ⟨e5, S₁₀, hI.lg.trans l46, ⟨sm₆.os, sm₆.gens⟩, x'.ok, hc, Vars.last S₁₀.apart3 rfl (Vs₃.le l46), hdo', PD.put p₆.onD (hI.pd.mono (fun _ _ q => q.mono (Kn.mono l46.Z))) ndk, hif'⟩⟩
end Mine
end
section
open PySem PySem.W PyProof.Rows PySem.Calls PySem.SeqAt
namespace Mine
variable {G : Gl} {α β : Type} {c : Cx} {g : Gh} {s : Shared} {h h' h₁ h₂ : List O}
variable {T : Tab} {r : Rec} {n k : Nat} {ce : CE} {ρ ρ' : Rho} {v : V}
variable {sc : Scope} {cl : List (Str × Addr)} {C : Addr}

theorem dcomp_core (H : Hyp G T r n c ce) (K : CompOk c sc cl) {ke ve iter : PySem.Expr} {x : Str} {px : Pos} {tg : Nat} {ifs : List PySem.Expr} {ini : List (Option Nat)} {pos : Pos} {mm total : List (Int × PyData)} {u : Value} {RR : Value → Addr → Result → Shared → Prop} {E : Value → Shared → Prop}
    (ht : storeSlot { ce with names := sc.names } x = some tg) (hi : initOf ce.names sc.names = some ini) (rv : VV G c g (.idict mm) u) (S : Sim G c g h s.heap) (Vs : Vars G c g ce.names ρ)
    (e : dcompL r (cE k { ce with names := sc.names } ke) (cE k { ce with names := sc.names } ve) tg (ifs.map (cE k { ce with names := sc.names })) (mm.map (·.1)) (initR ρ ini) h [] = some (total, h₂))
    (q : ∀ D C s' g' oC oD m kv, Sim G (c.on [(C, oC), (D, oD)] c.env) g' h₂ s'.heap → g.le g' → Same s s' → NsO oC m → oD.IsDictOf (intKind G.prog G.w) kv → PD (RD (kn c g')) total kv → (D == sysModules) = false → RR (.ref D) C (.ok .next) s') :
    wpAny (model G.prog G.w) c.A (pyIter u) (fun it s₂ => wpAny (model G.prog G.w) c.A newDict (fun acc s₃ => wpAny (model G.prog G.w) c.A (newFunctionEnv sc c.env.globals cl [] c.env.qual none .none (some c.env)) (fun cenv s₄ =>
      codeAny (model G.prog G.w) c.A (.compStart (.DictComp ke ve [⟨.Name x px, iter, ifs, 0⟩] sc pos) 0 it acc { cenv with scope := relabel sc c.env }) (RR acc cenv.locals) s₄) E s₃) E s₂) E s := by
  refine rv.on fun a oa kvs k1 k2 k3 k4 => ?_
  obtain ⟨es, ep, d1, d2, d3, d4, d5⟩ := k3
  have hda : ∀ H' : Heap, H'.get? a = some oa → H'.DictAt (intKind G.prog G.w) a kvs ep := fun H' h => ⟨oa, es, h, d1, d2, d3, d4, d5⟩
  have keys : kvs.map (·.1) = mm.map (·.1) := PD.keys k4
  rw [← keys] at e
  refine wpAny_pyIter_dict k2 (hda _ (S.known H.ok _ _ k1)) ?_
  let I := s.heap.objs.size
  let oI : Obj := { cls := .type "dict_keyiterator", data := .fields #[.ref a, .int 0 0, .int kvs.length 0, .int ep 0] }
  have S₁ : Sim G (c.with (I, oI)) g h (s.heap.push oI) := S.privPush rfl
  let s₁ : Shared := { s with heap := s.heap.push oI }
  have S₂ := Sim.privPush (s := s₁) S₁ (o := { cls := .type "dict", data := .dict #[] }) rfl
  have hcell : ∀ x ∈ sc.names, x.2 ≠ .cell := fun x hx => (scopeOk_mem K.sok hx).2
  have hsys : (s₁.heap.objs.size == sysModules) = false := lo_new (s := s₁) (c := c.with (I, oI)) (H.ok.with _) S₁
  refine wpAny_newObj_type (wpAny_newFunctionEnv hcell (fun y hy => nomatch hy) (fun h₂' hns hsb => ?_) K.kind)
  dsimp only at hns hsb ⊢
  have S₃ := Sim.privPush (s := { s₁ with heap := s₁.heap.push { cls := .type "dict", data := .dict #[] } }) S₂ (o := { cls := .type "dict", data := .dict #[] }) rfl
  obtain ⟨oC, hoC, hno⟩ := ns_at hns
  have S₄ := Sim.privSet (s := { s₁ with heap := (s₁.heap.push { cls := .type "dict", data := .dict #[] }).push { cls := .type "dict", data := .dict #[] } }) S₃ hsb hoC
  let D := s₁.heap.objs.size
  let C := (s₁.heap.push { cls := .type "dict", data := .dict #[] }).objs.size
  have S₅ : Sim G (c.on [(I, oI), (C, oC), (D, { cls := .type "dict", data := .dict #[] })] (compEnvC sc cl C c.env)) g h h₂' :=
    Sim.onPerm (c := c) (l := [(C, oC), (D, { cls := .type "dict", data := .dict #[] }), (I, oI)]) (e := c.env) (List.perm_append_comm (l₁ := [(C, oC), (D, { cls := .type "dict", data := .dict #[] })]) (l₂ := [(I, oI)])) S₄
  have loop : ∀ s₃ : Shared, s₃ = { s₁ with heap := h₂', toks := s₁.toks + ([] : List (Str × Value)).length } →
      codeAny (model G.prog G.w) c.A (.compLoop (.DictComp ke ve [⟨.Name x px, iter, ifs, 0⟩] sc pos) 0 (.ref I) (.ref D) (compEnvC sc cl C c.env)) (RR (.ref D) C) s₃ := by
    rintro s₃ rfl
    refine dcomp_loop H K ht k1 hda (g₀ := g) (f := kvs.length) ⟨⟨0, initR ρ ini, h, g, oI, oC, _, _, [], []⟩, ⟨e, S₅, .refl _, .refl _, hno, ⟨rfl, rfl⟩, ?_, emptyIs rfl _, .nil, Nat.zero_add _⟩⟩ fun s' g' oC' oD' m' kv S' l' q' no' hdo hpd => ?_
    · exact Vars.init K H.Ck hi Vs
    · exact q D C s' g' oC' oD' m' kv S'.onEnv l' ⟨q'.os, q'.gens⟩ no' hdo hpd hsys
  refine codeAny_compStart_dict (loop _ rfl) ?_
  have hI : h₂'.get? I = some oI := (S₅.news (I, oI) (List.mem_append_right _ (.head _))).1
  have hkit : h₂'.IsKeyIter I a 0 kvs.length ep := ⟨oI, hI, rfl, rfl⟩
  exact wpAny_pyIter_keyiter (s := { s₁ with heap := h₂', toks := s₁.toks + ([] : List (Str × Value)).length }) hkit (loop _ rfl)

theorem ev_dcomp (H : Hyp G T r n c ce) {ke ve iter : PySem.Expr} {x : Str} {px : Pos} {ifs : List PySem.Expr} {pos : Pos} {tg : Nat} {ini : List (Option Nat)} (h1 : storeSlot { ce with names := sc.names } x = some tg) (h2 : initOf ce.names sc.names = some ini) (h3 : (fnKind sc && scopeOk sc.names) = true)
    (e : stepEv T r (.dcomp (cE k { ce with names := sc.names } ke) (cE k { ce with names := sc.names } ve) tg (cE k ce iter) (ifs.map (cE k { ce with names := sc.names })) ini) ρ h = some (v, h')) :
    EvX G c ce.names (.DictComp ke ve [⟨.Name x px, iter, ifs, 0⟩] sc pos) ρ h v h' := by
  refine fun g s S Vs E Q q => wD e (fun mm h₁ e1 e => iF e (fun _ e => sR e (fun _ e => nsome e) fun total h₂ e2 e => inj2 e fun a1 a2 => ?_) fun _ e => nsome e) fun e => nsome e
  subst a1 a2
  have h3' := Bool.and_eq_true_iff.mp h3
  obtain ⟨cl, hcl, K⟩ := comp_ok H h3'.1 h3'.2 h2
  rw [arm_eval_DictComp]
  refine wpAny_comprehension_free (use := none) rfl (fun u => notSet H e1 _ u) hcl K.kind (fun x hx hl => hl ▸ (scopeOk_mem K.sok hx).1) ?_
  refine H.ev e1 g s S Vs E _ fun u s₁ g₁ S₁ l₁ q₁ p₁ => ?_
  refine dcomp_core H K h1 h2 p₁ S₁ (Vs.le l₁) e2 fun D C s' g' oC oD m kv S' l' q' no hdo hpd hsys => ?_
  have S'' : Sim G ((c.on [(D, oD)] c.env).with (C, oC)) g' _ s'.heap := S'
  obtain ⟨es, ep, d1, d2, d3⟩ := no
  refine ⟨m, ⟨oC, es, ep, S''.privAt, d1, d2, d3⟩, fun h'' hs => ?_⟩
  have S₃ : Sim G ((c.on [] c.env).with (D, oD)) g' _ h'' := S''.privDrop hs.extBut
  obtain ⟨S₄, N₄, ap⟩ := S₃.unpriv
  exact q _ { s' with heap := h'' } _ (Sim.freezeN (s := { s' with heap := h'' }) S₄.off0 S₄.fr N₄ ap) ((l₁.trans l').trans (Gh.le_freeze _ _)) ((q₁.trans q').trans ⟨rfl, rfl⟩)
    (.idict (.inr (.head _)) hsys hdo (hpd.mono fun _ _ q => q.mono (Kn.mono fun _ q => .tail _ q)))

theorem ifO {a b : Bool} {x : E} {M : E → Prop} (h0 : M .fail) (h1 : a = false → b = false → M x) : M (if a || b then .fail else x) := by
  cases a with
  | true => exact h0
  | false => cases b with
    | true => exact h0
    | false => exact h1 rfl rfl
theorem nnot {b : Bool} (h : (!b) = false) : b = true := by
  cases b with
  | true => rfl
  | false => exact nomatch h
theorem ev_call (H : Hyp G T r n c ce) {g : PySem.Expr} {args : List PySem.Expr} {ks : List Keyword} {p : Pos} (e : stepEv T r (cCall (cE k ce) ce g args ks p) ρ h = some (v, h')) : EvX G c ce.names (.Call g args ks p) ρ h v h' := by
  cases ks with
  | cons _ _ => exact nsome e
  | nil =>
    cases g
    case Name x xp =>
      refine ifO (M := fun e0 => stepEv T r e0 ρ h = some (v, h') → EvX G c ce.names (.Call (.Name x xp) args [] p) ρ h v h') (fun e => nsome e) (fun hr hp =>
        ifE (M := fun e0 => stepEv T r e0 ρ h = some (v, h') → EvX G c ce.names (.Call (.Name x xp) args [] p) ρ h v h') (fun e => nsome e) fun hg => ?_) e
      intro e
      cases hx : ce.gl x with
      | none => rw [hx] at e; exact nsome e
      | some gv =>
        rw [hx] at e
        cases gv with
        | fn f => exact ev_callF H hr (nnot hp) hg hx e
        | cls C => exact ev_callC H hr (nnot hp) hg hx e
        | bi b => exact ev_callB H hr (nnot hp) hg hx e
        | rng => exact nsome e
        | val v => exact nsome e
    case Attribute o a ap =>
      refine ifO (M := fun e0 => stepEv T r e0 ρ h = some (v, h') → EvX G c ce.names (.Call (.Attribute o a ap) args [] p) ρ h v h') (fun e => nsome e) (fun hb hp e => ?_) e
      have hp' := Bool.or_eq_false_iff.mp hp
      cases hx : mbOf a with
      | none => rw [hx] at e; exact ev_methI H (nnot hb) (nnot hp'.1) (Nat.eq_of_beq_eq_true (nnot hp'.2)) e
      | some m => rw [hx] at e; exact ev_methB H (nnot hb) (nnot hp'.1) (Nat.eq_of_beq_eq_true (nnot hp'.2)) hx e
    all_goals exact nsome e
theorem ev_subs (H : Hyp G T r n c ce) {x i : PySem.Expr} {p : Pos} (e : stepEv T r (cE (k + 1) ce (.Subscript x i p)) ρ h = some (v, h')) : EvX G c ce.names (.Subscript x i p) ρ h v h' := by
  cases i
  case Slice lo hi st sp =>
    cases st with
    | none => exact ev_slc H e
    | some st =>
      refine sA (o := r.ev (cE k ce x) ρ h) e (fun _ e => nsome e) fun v1 h1 e1 e => sA (o := r.ev (cE k ce (.Slice lo hi (some st) sp)) ρ h1) e (fun _ e => nsome e) fun v2 h2 e2 e => ?_
      rw [show cE k ce (.Slice lo hi (some st) sp) = .fail by cases k <;> rfl, H.IH.fail] at e2
      exact nsome e2
  all_goals exact ev_subP H rfl e
theorem evAll (H : Hyp G T r n c ce) {k : Nat} {x : PySem.Expr} (e : stepEv T r (cE k ce x) ρ h = some (v, h')) : EvX G c ce.names x ρ h v h' := by
  cases k with
  | zero => rw [cE_zero] at e; exact nsome e
  | succ k =>
    cases x
    case Constant x i p => exact evOf_const H e
    case Name x p => exact evOf_name H e
    case Tuple es i p => exact evOf_tuple H e
    case List es p => exact evOf_list H e
    case Dict ks vs p => exact ev_dsp H e
    case BinOp x op y p => exact evOf_bin H e
    case BoolOp op es p => exact ev_bop H e
    case IfExp t x y p => exact ev_ite H e
    case Attribute x a p => exact ev_attr H e
    case UnaryOp op x p =>
      cases op
      case Not => exact ev_not H e
      case USub => exact ev_neg H e
      all_goals exact nsome e
    case Compare x ops ys p => exact cCmp_on (M := fun ops ys e0 => stepEv T r e0 ρ h = some (v, h') → EvX G c ce.names (.Compare x ops ys p) ρ h v h') (fun _ _ e => nsome e) (fun _ _ e => evOf_cmp H e) (fun _ _ _ _ e => evOf_cmp2 H e) e
    case Subscript x i p => exact ev_subs H e
    case Call f args kw p => exact ev_call H e
    case ListComp elt gens sc p =>
      exact cLC_cases (M := fun e0 => stepEv T r e0 ρ h = some (v, h') → EvX G c ce.names (.ListComp elt gens sc p) ρ h v h') (fun e => nsome e) (fun t it ifs tt ini hg h1 h2 h3 e₂ => by subst hg; exact ev_comp H h1 h2 h3 e₂) e
    case DictComp kk vv gens sc p =>
      exact cDC_cases (M := fun e0 => stepEv T r e0 ρ h = some (v, h') → EvX G c ce.names (.DictComp kk vv gens sc p) ρ h v h') (fun e => nsome e) (fun x q it ifs tt ini hg h1 h2 h3 e₂ => by subst hg; exact ev_dcomp H h1 h2 h3 e₂) e
    all_goals exact nsome e
end Mine
end
section
open PySem PySem.W PyProof.Rows PySem.Calls PySem.SeqAt
namespace Mine
variable {G : Gl} {α β : Type} {c : Cx} {g : Gh} {s : Shared} {h h' h₁ h₂ : List O}
variable {T : Tab} {r : Rec} {n k : Nat} {ce : CE} {ρ ρ' : Rho} {v : V}

structure leB (b : Nat) (g g' : Gh) : Prop where
  as : g.as.take b <+: g'.as
  Z : ∀ p ∈ g.Z, p ∈ g'.Z
theorem Gh.le.leB {g g' : Gh} (l : g.le g') (b : Nat) : leB b g g' := ⟨(List.take_prefix _ _).trans l.as, l.Z⟩
theorem leB.refl (b : Nat) (g : Gh) : leB b g g := ⟨List.take_prefix _ _, fun _ h => h⟩
theorem pre_take {l l' : List Addr} {b : Nat} (h : l <+: l') (hl : l.length ≤ b) : l <+: l'.take b := by
  obtain ⟨t, rfl⟩ := h
  rw [List.take_append, List.take_of_length_le hl]
  exact List.prefix_append _ _
theorem leB.trans {b : Nat} {g g' g'' : Gh} (x : leB b g g') (y : leB b g' g'') : leB b g g'' :=
  ⟨(pre_take x.as (by rw [List.length_take]; exact Nat.min_le_left _ _)).trans y.as, fun p h => y.Z p (x.Z p h)⟩
theorem leB.down {b n : Nat} {g g' : Gh} (x : leB n g g') (hb : b ≤ n) : leB b g g' := by
  refine ⟨?_, x.Z⟩
  have : g.as.take b <+: g.as.take n := by
    refine pre_take (List.take_prefix _ _) ?_
    rw [List.length_take]; exact Nat.le_trans (Nat.min_le_left _ _) hb
  exact this.trans x.as
theorem leB.le {g g' : Gh} (x : leB g.as.length g g') : g.le g' := ⟨by have := x.as; rwa [List.take_length] at this, x.Z⟩
theorem leB.len {b : Nat} {g g' : Gh} (x : leB b g g') (hb : b ≤ g.as.length) : b ≤ g'.as.length := by
  have := x.as.length_le
  rwa [List.length_take, Nat.min_eq_left hb] at this

/-! forgetting -/
noncomputable def Gh.cut (g : Gh) (n : Nat) : Gh := ⟨g.as.take n, g.Z, g.mu.take n⟩
theorem undH_get : ∀ {k : Nat} {h : List O} {i : Nat} {o : O}, undH n k h = true → i < k → h[i]? = some o → o.und n = true
  | 0, _, _, _, _, hi, _ => absurd hi (Nat.not_lt_zero _)
  | k + 1, [], i, o, _, _, e => nsome e
  | k + 1, x :: r, 0, o, e, _, eo => Option.some.inj eo ▸ (Bool.and_eq_true_iff.mp e).1
  | k + 1, x :: r, i + 1, o, e, hi, eo => undH_get (Bool.and_eq_true_iff.mp e).2 (Nat.lt_of_succ_lt_succ hi) eo
theorem take_on {α : Type} {l : List α} {i : Nat} {o : α} (e : (l.take n)[i]? = some o) : i < n ∧ l[i]? = some o := by
  rw [List.getElem?_take] at e
  exact iF e (fun h e => ⟨h, e⟩) fun _ e => nsome e
theorem take_len {α β : Type} {l : List α} {l' : List β} (e : l.length = l'.length) : (l.take n).length = (l'.take n).length := by rw [List.length_take, List.length_take, e]
theorem Sim.objCut {H : Heap} (S : Sim G c g h H) (hu : undH n n h = true) (i : Nat) (o : O) (a : Addr) (b : Led) (h1 : (h.take n)[i]? = some o) (h2 : (g.as.take n)[i]? = some a) (h3 : (g.mu.take n)[i]? = some b) : OR (prog := G.prog) (w := G.w) G.cg (kn c g) (g.as.take n) o a b :=
  (S.objs i o a b (take_on h1).2 (take_on h2).2 (take_on h3).2).cut (undH_get hu (take_on h1).1 (take_on h1).2)
theorem Sim.cut {H : Heap} (S : Sim G c g h H) (hu : undH n n h = true) : Sim G c (g.cut n) (h.take n) H := by
  have sub : (ledOf c (g.cut n)).Sublist (ledOf c g) := by
    unfold ledOf Gh.cut
    refine List.Sublist.append_left (List.Sublist.append_left (List.Sublist.append_right ?_ _) _) _
    have e : g.mu.flatten = (g.mu.take n).flatten ++ (g.mu.drop n).flatten := by rw [← List.flatten_append, List.take_append_drop]
    rw [e]
    exact List.sublist_append_left _ _
  exact ⟨S.fr, fun p hp => S.news p (sub.subset hp), S.nd.sublist (sub.map _), take_len S.la, take_len S.lm, S.objCut hu⟩
theorem Vars.cut {names : List (Str × NameKind)} (n : Nat) (Vs : Vars G c g names ρ) : Vars G c (g.cut n) names (ρ.map (poison n)) := by
  intro i x k v h1 h2 h3
  rw [List.getElem?_map] at h3
  cases hq : ρ[i]? with
  | none => rw [hq] at h3; exact nsome h3
  | some w =>
    rw [hq] at h3
    cases w with
    | none => exact nsome (Option.some.inj h3)
    | some w =>
      obtain ⟨u, k1, k2⟩ := Vs i x k w h1 h2 hq
      refine ⟨u, k1, ?_⟩
      have e : (if w.und n then w else .bad) = v := Option.some.inj (Option.some.inj h3)
      by_cases hw : w.und n = true
      · rw [if_pos hw] at e; subst e; exact VR.cut _ _ hw k2
      · rw [if_neg hw] at e; subst e; exact .bad
theorem Vars.unset {names : List (Str × NameKind)} (i : Nat) (Vs : Vars G c g names ρ) : Vars G c g names (ρ.set i none) := by
  intro j x k v h1 h2 h3
  by_cases hij : i = j
  · subst hij
    rw [List.getElem?_set_self'] at h3
    cases hp : ρ[i]? with
    | none => rw [hp] at h3; exact nsome h3
    | some _ => rw [hp] at h3; exact nsome (Option.some.inj h3)
  · rw [List.getElem?_set_ne hij] at h3
    exact Vs j x k v h1 h2 h3
theorem ifM {α : Type} {M : α → Prop} {b : Prop} [Decidable b] {x y : α} (h1 : b → M x) (h0 : M y) : M (if b then x else y) := by
  by_cases h : b
  · rw [if_pos h]; exact h1 h
  · rw [if_neg h]; exact h0
theorem cutTo_ok {H : Heap} {st : St} {names : List (Str × NameKind)} {g₀ : Gh} (S : Sim G c g st.h H) (Vs : Vars G c g names st.r) (l : leB n g₀ g) : ∃ g', Sim G c g' (cutTo n st).h H ∧ Vars G c g' names (cutTo n st).r ∧ leB n g₀ g' ∧ (cutTo n st).b = st.b := by
  have k : ∃ g', Sim G c g' st.h H ∧ Vars G c g' names st.r ∧ leB n g₀ g' ∧ st.b = st.b := ⟨g, S, Vs, l, rfl⟩
  refine ifM (M := fun (st' : St) => ∃ g', Sim G c g' st'.h H ∧ Vars G c g' names st'.r ∧ leB n g₀ g' ∧ st'.b = st.b) (fun _ => k) (ifM (M := fun (st' : St) => ∃ g', Sim G c g' st'.h H ∧ Vars G c g' names st'.r ∧ leB n g₀ g' ∧ st'.b = st.b) (fun hu => ?_) k)
  exact ⟨g.cut n, S.cut hu, Vs.cut n, ⟨pre_take l.as (by rw [List.length_take]; exact Nat.min_le_left _ _), l.Z⟩, rfl⟩
/-- the last thing is changed no more -/
theorem Sim.takeLast {H : Heap} {o : O} (S : Sim G c g h H) (hl : n + 1 = h.length) (hu : undH n n h = true) (ho : h[n]? = some o) : ∃ a b, g.as[n]? = some a ∧ OR (prog := G.prog) (w := G.w) G.cg (kn c g) g.as o a b ∧ Sim G c ⟨g.as.take n, b ++ g.Z, g.mu.take n⟩ (h.take n) H := by
  have hn : n < h.length := hl ▸ Nat.lt_succ_self n
  have h1 : g.as[n]? = some (g.as[n]'(S.la ▸ hn)) := List.getElem?_eq_getElem _
  have h2 : g.mu[n]? = some (g.mu[n]'(S.lm ▸ hn)) := List.getElem?_eq_getElem _
  refine ⟨_, _, h1, S.objs n o _ _ ho h1 h2, ?_⟩
  have hmu : g.mu = g.mu.take n ++ [g.mu[n]'(S.lm ▸ hn)] := by
    rw [List.take_append_getElem]
    rw [List.take_of_length_le (Nat.le_of_eq (S.lm.trans hl.symm))]
  have e : ledOf c ⟨g.as.take n, g.mu[n]'(S.lm ▸ hn) ++ g.Z, g.mu.take n⟩ = ledOf c g := by
    have e2 : g.mu.flatten = (g.mu.take n).flatten ++ g.mu[n]'(S.lm ▸ hn) := by
      conv => lhs; rw [hmu]
      rw [List.flatten_append, List.flatten_cons, List.flatten_nil, List.append_nil]
    unfold ledOf
    rw [e2, List.append_assoc]
  exact ⟨S.fr, by rw [e]; exact S.news, by rw [e]; exact S.nd, take_len S.la, take_len S.lm, fun i o a b h1 h2 h3 => (S.objCut hu i o a b h1 h2 h3).mono (Kn.mono fun _ q => List.mem_append_right _ q) (List.prefix_refl _)⟩

/-! statements -/
inductive FlR (G : Gl) (c : Cx) (g : Gh) : Fl → Flow → Prop
  | next : FlR G c g .next .next
  | ret {v u} : VV G c g v u → FlR G c g (.ret v) (.ret u)
theorem FlR.isNext {G : Gl} {c : Cx} {g : Gh} {fl : Flow} (p : FlR G c g .next fl) : fl = .next := by cases p; rfl
theorem FlR.isRet {G : Gl} {c : Cx} {g : Gh} {v : V} {fl : Flow} (p : FlR G c g (.ret v) fl) : ∃ u, fl = .ret u ∧ VV G c g v u := by
  cases p with
  | ret p => exact ⟨_, rfl, p⟩
noncomputable abbrev Cx.fx (c : Cx) (X : FX c) : Cx := c.st X.m X.cells X.cm
def Post (G : Gl) (c : Cx) (names : List (Str × NameKind)) (g : Gh) (s : Shared) (b : Nat) (fl : Fl) (st' : St) (Q : Flow → Shared → Prop) : Prop :=
  ∀ fl' s' g' (X' : FX c), Sim G (c.fx X') g' st'.h s'.heap → leB b g g' → Same s s' → FlR G c g' fl fl' → (fl = .next → Vars G (c.fx X') g' names st'.r) → Q fl' s'
def ExX (G : Gl) (c : Cx) (names : List (Str × NameKind)) (x : PySem.Stmt) (st : St) (fl : Fl) (st' : St) : Prop :=
  st'.b = st.b ∧ ∀ (X : FX c) g s, Sim G (c.fx X) g st.h s.heap → Vars G (c.fx X) g names st.r → st.b ≤ st.h.length → ∀ E Q, Post G c names g s st.b fl st' Q → wpAny (model G.prog G.w) c.A (exec x c.env) Q E s
def ExXs (G : Gl) (c : Cx) (names : List (Str × NameKind)) (xs : List PySem.Stmt) (st : St) (fl : Fl) (st' : St) : Prop :=
  st'.b = st.b ∧ ∀ (X : FX c) g s, Sim G (c.fx X) g st.h s.heap → Vars G (c.fx X) g names st.r → st.b ≤ st.h.length → ∀ E Q, Post G c names g s st.b fl st' Q → wpAny (model G.prog G.w) c.A (execs xs c.env) Q E s

structure RecX (G : Gl) (T : Tab) (r : Rec) (n : Nat) : Prop where
  ok : RecOk G r n
  unf : ∀ e ρ h z, r.ev e ρ h = some z → ∃ r' n', stepEv T r' e ρ h = some z ∧ n = n' + 1 ∧ RecOk G r' n'
  sfail : ∀ st, r.ex .fail st = none
  ex : ∀ c, Ok G c → FOk c → (c.fenv.cells.map (·.1)).Nodup → Room n c.A → ∀ k ce x st fl st', CeOk G ce c → r.ex (cS k ce x) st = some (fl, st') → ExX G c ce.names x st fl st'
structure HypX (G : Gl) (T : Tab) (r : Rec) (n : Nat) (c : Cx) (ce : CE) : Prop where
  H : Hyp G T r n c ce
  X : RecX G T r n
  f : FOk c
  nd : (c.fenv.cells.map (·.1)).Nodup
theorem Hyp.fx (H : Hyp G T r n c ce) (X : FX c) : Hyp G T r n (c.fx X) ce := ⟨H.IH, H.ok.st X.ok, H.Rm, ⟨H.Ck.gl, H.Ck.glk, H.Ck.look, H.Ck.nd, H.Ck.loc, H.Ck.cell⟩, H.CK⟩
theorem HypX.ex (H : HypX G T r n c ce) {k : Nat} {x : PySem.Stmt} {st st' : St} {fl : Fl} (e : r.ex (cS k ce x) st = some (fl, st')) : ExX G c ce.names x st fl st' := H.X.ex c H.H.ok H.f H.nd H.H.Rn k ce x st fl st' H.H.Ck e
theorem sNN {P : Prop} {o : Option (Fl × St)} {f : St → Option (Fl × St)} {fl : Fl} {st' : St} (e : (match o with | some (.next, st) => f st | some (.ret v, st) => some (.ret v, st) | none => none) = some (fl, st'))
    (k : ∀ fl₁ st₁, o = some (fl₁, st₁) → (fl₁ = .next → f st₁ = some (fl, st')) → (∀ v, fl₁ = .ret v → fl = .ret v ∧ st' = st₁) → P) : P :=
  sN e (fun st₁ e1 e => k _ st₁ e1 (fun _ => e) fun v z => nomatch z) (fun v st₁ e1 e => k _ st₁ e1 (fun z => nomatch z) fun v' z => inj2 e fun a b => ⟨a.trans z, b⟩) fun _ e => nsome e
theorem exs_ok (IH : RecX G T r n) (O : Ok G c) (f : FOk c) (nd : (c.fenv.cells.map (·.1)).Nodup) (Rn : Room n c.A) (Ck : CeOk G ce c) : ∀ {xs : List PySem.Stmt} {st st' : St} {fl : Fl}, exs r (xs.map (cS k ce)) st = some (fl, st') → ExXs G c ce.names xs st fl st'
  | [], st, st', fl, e => inj2 e fun a1 a2 => by
    subst a1 a2
    exact ⟨rfl, fun X g s S Vs hb E Q q => wpAny_pure (q _ s g X S (.refl _ _) (.refl _) .next fun _ => Vs)⟩
  | x :: xs, st, st', fl, e => sNN e fun fl₁ st₁ e1 kn kr => by
    obtain ⟨hb1, a⟩ := IH.ex c O f nd Rn k ce x _ _ _ Ck e1
    have hb2 : st'.b = st₁.b := by
      cases fl₁ with
      | next => exact (exs_ok IH O f nd Rn Ck (kn rfl)).1
      | ret v => rw [(kr v rfl).2]
    refine ⟨hb2.trans hb1, fun X g s S Vs hb E Q q => wpAny_execs_cons (a X g s S Vs hb E _ fun fl₂ s₁ g₁ X₁ S₁ l₁ q₁ p₁ Vs₁ => ?_)⟩
    cases fl₁ with
    | next =>
      obtain rfl := p₁.isNext
      refine (exs_ok IH O f nd Rn Ck (kn rfl)).2 X₁ g₁ s₁ S₁ (Vs₁ rfl) ?_ E Q fun fl₂ s₂ g₂ X₂ S₂ l₂ q₂ p₂ Vs₂ => ?_
      · rw [hb1, ← S₁.la]
        exact l₁.len (by rw [S.la]; exact hb)
      · rw [hb1] at l₂
        exact q fl₂ s₂ g₂ X₂ S₂ (l₁.trans l₂) (q₁.trans q₂) p₂ Vs₂
    | ret v =>
      obtain ⟨a1, a2⟩ := kr v rfl
      subst a1 a2
      obtain ⟨u, rfl, p⟩ := p₁.isRet
      exact q _ s₁ g₁ X₁ S₁ l₁ q₁ (.ret p) (fun z => nomatch z)
theorem HypX.exs (H : HypX G T r n c ce) {xs : List PySem.Stmt} {st st' : St} {fl : Fl} (e : exs r (xs.map (cS k ce)) st = some (fl, st')) : ExXs G c ce.names xs st fl st' := exs_ok H.X H.H.ok H.f H.nd H.H.Rn H.H.Ck e
end Mine
end
section
open PySem PySem.W PyProof.Rows PySem.Calls PySem.SeqAt
namespace Mine
variable {G : Gl} {α β : Type} {c : Cx} {g : Gh} {s : Shared} {h h' h₁ h₂ : List O}
variable {T : Tab} {r : Rec} {n k : Nat} {ce : CE} {ρ ρ' : Rho} {v : V} {st st' : St} {fl : Fl}

theorem HypX.evx (H : HypX G T r n c ce) (X : FX c) {k : Nat} {x : PySem.Expr} {ρ : Rho} {h h' : List O} {v : V} (e : r.ev (cE k ce x) ρ h = some (v, h')) : EvX G (c.fx X) ce.names x ρ h v h' := (H.H.fx X).ev e

noncomputable def soleTgt : PySem.Expr → Bool
  | .Name _ _ => true
  | .Attribute _ _ _ => true
  | .Subscript _ _ _ => true
  | _ => false
theorem sole_on {P : PySem.Expr → Prop} {t : PySem.Expr} (h : soleTgt t = true) (k1 : ∀ x p, P (.Name x p)) (k2 : ∀ x a p, P (.Attribute x a p)) (k3 : ∀ x i p, P (.Subscript x i p)) : P t := by
  cases t
  case Name x p => exact k1 x p
  case Attribute x a p => exact k2 x a p
  case Subscript x i p => exact k3 x i p
  all_goals exact ftrue h
theorem assign_plain {M : Model} {A : Around} {E : Value → Shared → Prop} {env : Env} {t value : PySem.Expr} {pos : Pos} {Q : Flow → Shared → Prop} (ht : soleTgt t = true) (hs : swapsWith value (some t) pos.line env = pure false)
    (h : wpAny M A (eval value env) (fun v s₁ => wpAny M A (assign t env v) (fun _ => Q .next) E s₁) E s) : wpAny M A (exec (.Assign [t] value pos) env) Q E s := by
  obtain ⟨hw, ha⟩ : swappedStores [t] value env = pure none ∧ (assignEach [t] env).map (·.2) = [assign t env] :=
    sole_on (P := fun t => swappedStores [t] value env = pure none ∧ (assignEach [t] env).map (·.2) = [assign t env]) ht (fun _ _ => ⟨rfl, rfl⟩) (fun _ _ _ => ⟨rfl, rfl⟩) fun _ _ _ => ⟨rfl, rfl⟩
  rw [exec_Assign]
  refine wpAny_bind (wpAny_standAt ?_)
  rw [show swapsWithSole [t] value pos.line env = swapsWith value (some t) pos.line env from rfl, hs, hw, ha]
  refine wpAny_bind (wpAny_pure ?_)
  rw [if_neg Bool.false_ne_true]
  refine wpAny_bind (wpAny_mono h (fun v s₁ h₁ => wpAny_bind (wpAny_pure ?_)) fun _ _ x => x)
  show wpAny M A (do assignAll v [assign t env]; pure .next) Q E s₁
  exact wpAny_bind (wpAny_mono h₁ (fun _ _ x => wpAny_pure x) fun _ _ x => x)
theorem swaps_on {value : PySem.Expr} {t : Option PySem.Expr} {line : Nat} {env : Env} (h1 : ∀ a b d p, value = .ListComp a b d p → swapsWith value t line env = pure false) (h2 : ∀ a b d p, value = .SetComp a b d p → swapsWith value t line env = pure false) (h3 : ∀ a b d f p, value = .DictComp a b d f p → swapsWith value t line env = pure false) : swapsWith value t line env = pure false := by
  cases value
  case ListComp a b d p => exact h1 a b d p rfl
  case SetComp a b d p => exact h2 a b d p rfl
  case DictComp a b d f p => exact h3 a b d f p rfl
  all_goals rfl
theorem swaps_not {value : PySem.Expr} {t : Option PySem.Expr} {line : Nat} {env : Env} (h : notComp value = true) : swapsWith value t line env = pure false :=
  swaps_on (fun _ _ _ _ e => by subst e; exact ftrue h) (fun _ _ _ _ e => by subst e; exact ftrue h) fun _ _ _ _ _ e => by subst e; exact ftrue h
theorem swaps_tup {value : PySem.Expr} {ts : List PySem.Expr} {j : Nat} {tp : Pos} {line : Nat} {env : Env} : swapsWith value (some (.Tuple ts j tp)) line env = pure false :=
  swaps_on (fun _ _ _ _ e => by subst e; rfl) (fun _ _ _ _ e => by subst e; rfl) fun _ _ _ _ _ e => by subst e; rfl
theorem swaps_att {value o : PySem.Expr} {a : Str} {tp : Pos} {line : Nat} {env : Env} : swapsWith value (some (.Attribute o a tp)) line env = pure false :=
  swaps_on (fun _ _ _ _ e => by subst e; rfl) (fun _ _ _ _ e => by subst e; rfl) fun _ _ _ _ _ e => by subst e; rfl
theorem swaps_sub {value o i : PySem.Expr} {tp : Pos} {line : Nat} {env : Env} : swapsWith value (some (.Subscript o i tp)) line env = pure false :=
  swaps_on (fun _ _ _ _ e => by subst e; rfl) (fun _ _ _ _ e => by subst e; rfl) fun _ _ _ _ _ e => by subst e; rfl

/-- the contexts of a function's body -/
noncomputable def HypX.fam (H : HypX G T r n c ce) : Fam G ce c.env := famF c G ce H.H.ok H.H.Ck H.f H.nd

theorem ex_asg (H : HypX G T r n c ce) {x : Str} {p pos : Pos} {value : PySem.Expr} {i : Nat} (hi : storeSlot ce x = some i) (hc : notComp value = true) (e : stepEx r (.asg i (cE k ce value)) st = some (fl, st')) :
    ExX G c ce.names (.Assign [.Name x p] value pos) st fl st' := by
  revert e; intro ee; refine sB ee (fun v h1 e1 e => ?_) fun _ e => nsome e; clear ee
  refine inj2 e fun a1 a2 => ?_; clear e; subst a1 a2
  refine ⟨rfl, fun X g s S Vs hb E Q q => ?_⟩
  refine assign_plain rfl (swaps_not hc) ((H.evx X e1) g s S Vs E _ fun u s₁ g₁ S₁ l₁ q₁ p₁ => assign_Name ?_)
  refine H.fam.store X x i g₁ h1 s₁ u E _ hi S₁ fun X' s₂ S₂ q₂ k1 k2 => ?_
  exact q .next s₂ g₁ X' S₂ (l₁.leB _) (q₁.trans q₂) .next fun _ => (Vs.le l₁).store H.H.Ck.nd rfl hi k1 k2 p₁
theorem tgt_tup {ts : List PySem.Expr} {j : Nat} {p : Pos} {is : List Nat} (h : mapO (nameSlot ce) ts = some is) : tgtOf ce (.Tuple ts j p) = some (.many is) := by unfold tgtOf; dsimp only; rw [h]
theorem ex_unp (H : HypX G T r n c ce) {ts : List PySem.Expr} {j : Nat} {tp pos : Pos} {value : PySem.Expr} {is : List Nat} (hi : mapO (nameSlot ce) ts = some is)
    (hw : swappedStores [.Tuple ts j tp] value c.env = pure none) (e : stepEx r (.unp false is (cE k ce value)) st = some (fl, st')) :
    ExX G c ce.names (.Assign [.Tuple ts j tp] value pos) st fl st' := by
  revert e; intro ee; refine sB ee (fun v h1 e1 e => ?_) fun _ e => nsome e; clear ee
  revert e; intro ee; refine sL ee (fun r' hb e => ?_) fun _ e => nsome e; clear ee
  refine inj2 e fun a1 a2 => ?_; clear e; subst a1 a2
  refine ⟨rfl, fun X g s S Vs hb' E Q q => ?_⟩
  refine Assign_Tuple ((H.evx X e1) g s S Vs E _ fun u s₁ g₁ S₁ l₁ q₁ p₁ => ?_) (show swapsWith value (some (.Tuple ts j tp)) pos.line c.env = pure false from swaps_tup) hw
  refine tgt_ok H.fam H.H.Ck.nd (x := X) (t := .Tuple ts j tp) (tg := .many is) (tgt_tup hi) hb p₁ S₁ (Vs.le l₁) fun X' s₂ S₂ q₂ Vs₂ => ?_
  exact q .next s₂ g₁ X' S₂ (l₁.leB _) (q₁.trans q₂) .next fun _ => Vs₂
theorem ex_unpR (H : HypX G T r n c ce) {ts : List PySem.Expr} {j : Nat} {tp pos : Pos} {value : PySem.Expr} {names : List Str} {is : List Nat} (hi : mapO (storeSlot ce) names = some is)
    (hw : swappedStores [.Tuple ts j tp] value c.env = pure (some names)) (e : stepEx r (.unp true is (cE k ce value)) st = some (fl, st')) :
    ExX G c ce.names (.Assign [.Tuple ts j tp] value pos) st fl st' := by
  revert e; intro ee; refine sB ee (fun v h1 e1 e => ?_) fun _ e => nsome e; clear ee
  revert e; intro ee; refine sL ee (fun r' hb e => ?_) fun _ e => nsome e; clear ee
  refine inj2 e fun a1 a2 => ?_; clear e; subst a1 a2
  refine ⟨rfl, fun X g s S Vs hb' E Q q => ?_⟩
  refine Assign_Tuple_swapped ((H.evx X e1) g s S Vs E _ fun u s₁ g₁ S₁ l₁ q₁ p₁ => ?_) (show swapsWith value (some (.Tuple ts j tp)) pos.line c.env = pure false from swaps_tup) hw
  exact swap_ok H.fam H.H.Ck.nd (x := X) (Q := fun _ => Q .next) (E := E) hi hb p₁ S₁ (Vs.le l₁) fun X' s₂ S₂ q₂ Vs₂ => q .next s₂ g₁ X' S₂ (l₁.leB _) (q₁.trans q₂) .next fun _ => Vs₂
theorem ex_asgA (H : HypX G T r n c ce) {o value : PySem.Expr} {a : Str} {p pos : Pos} (hn : attrName a = true) (e : stepEx r (.asgA (cE k ce o) a (cE k ce value)) st = some (fl, st')) :
    ExX G c ce.names (.Assign [.Attribute o a p] value pos) st fl st' := by
  revert e; intro ee; refine sA ee (fun _ e => nsome e) fun v h1 e1 e => ?_; clear ee
  revert e; intro ee; refine sA ee (fun _ e => nsome e) fun x h2 e2 e => ?_; clear ee
  revert e; intro ee; refine sJ ee (fun h3 e3 e => ?_) fun _ e => nsome e; clear ee
  refine inj2 e fun a1 a2 => ?_; clear e; subst a1 a2
  refine ⟨rfl, fun X g s S Vs hb E Q q => ?_⟩
  refine assign_plain rfl swaps_att ((H.evx X e1) g s S Vs E _ fun u s₁ g₁ S₁ l₁ q₁ p₁ => ?_)
  show wpAny _ _ (do let ov ← holding [u] (eval o c.env); standAt p.atName; holding [u, ov] (setAttr ov a u); release [u, ov] []) _ _ _
  refine wpAny_bind (wpAny_holding ((H.evx X e2) g₁ s₁ S₁ (Vs.le l₁) E _ fun w s₂ g₂ S₂ l₂ q₂ p₂ => ?_))
  refine wpAny_bind (wpAny_standAt (wpAny_bind (wpAny_holding (setA_ok (H.H.fx X).ok H.H.CK hn S₂ p₂ (VV.le l₂ p₁) e3 E _ fun _ s₃ g₃ S₃ l₃ q₃ _ => ?_))))
  refine wpAny_release' ?_
  exact q .next s₃ g₃ X S₃ (((l₁.trans l₂).trans l₃).leB _) ((q₁.trans q₂).trans q₃) .next fun _ => Vs.le ((l₁.trans l₂).trans l₃)
theorem ex_asgS (H : HypX G T r n c ce) {o i value : PySem.Expr} {p pos : Pos} (hs : notSlice i = true) (e : stepEx r (.asgS (cE k ce o) (cE k ce i) (cE k ce value)) st = some (fl, st')) :
    ExX G c ce.names (.Assign [.Subscript o i p] value pos) st fl st' := by
  revert e; intro ee; refine sA ee (fun _ e => nsome e) fun v h1 e1 e => ?_; clear ee
  revert e; intro ee; refine sA ee (fun _ e => nsome e) fun x h2 e2 e => ?_; clear ee
  revert e; intro ee; refine sA ee (fun _ e => nsome e) fun y h3 e3 e => ?_; clear ee
  revert e; intro ee; refine sJ ee (fun h4 e4 e => ?_) fun _ e => nsome e; clear ee
  refine inj2 e fun a1 a2 => ?_; clear e; subst a1 a2
  refine ⟨rfl, fun X g s S Vs hb E Q q => ?_⟩
  refine assign_plain rfl swaps_sub ((H.evx X e1) g s S Vs E _ fun u s₁ g₁ S₁ l₁ q₁ p₁ => ?_)
  obtain ⟨l, eq⟩ : ∃ l : Value → Value → List Value, assign (.Subscript o i p) c.env u = (do
      let ov ← holding [u] (eval o c.env)
      let iv ← holding [u, ov] (eval i c.env)
      standAt p
      holding [u, ov, iv] (setItem ov iv u)
      release (l ov iv) []) := ⟨_, rfl⟩
  rw [eq]
  refine wpAny_bind (wpAny_holding ((H.evx X e2) g₁ s₁ S₁ (Vs.le l₁) E _ fun w s₂ g₂ S₂ l₂ q₂ p₂ => ?_))
  refine wpAny_bind (wpAny_holding ((H.evx X e3) g₂ s₂ S₂ (Vs.le (l₁.trans l₂)) E _ fun z s₃ g₃ S₃ l₃ q₃ p₃ => ?_))
  refine wpAny_bind (wpAny_standAt (wpAny_bind (wpAny_holding (setS_ok (H.H.fx X).ok S₃ (VV.le l₃ p₂) p₃ (VV.le (l₂.trans l₃) p₁) e4 E _ fun _ s₄ g₄ S₄ l₄ q₄ _ => ?_))))
  refine wpAny_release' ?_
  have l := ((l₁.trans l₂).trans l₃).trans l₄
  exact q .next s₄ g₄ X S₄ (l.leB _) (((q₁.trans q₂).trans q₃).trans q₄) .next fun _ => Vs.le l
theorem ex_expr (H : HypX G T r n c ce) {x : PySem.Expr} {pos : Pos} (hc : notComp x = true) (e : stepEx r (.expr (cE k ce x)) st = some (fl, st')) : ExX G c ce.names (.Expr x pos) st fl st' := by
  revert e; intro ee; refine sB ee (fun v h1 e1 e => ?_) fun _ e => nsome e; clear ee
  refine inj2 e fun a1 a2 => ?_; clear e; subst a1 a2
  refine ⟨rfl, fun X g s S Vs hb E Q q => ?_⟩
  have hint : interactive c.env = false := by unfold interactive; rw [H.H.ok.ek]; rfl
  rw [exec_Expr c.env x pos hint (swaps_not hc)]
  refine wpAny_bind (wpAny_standAt (wpAny_bind ((H.evx X e1) g s S Vs E _ fun u s₁ g₁ S₁ l₁ q₁ p₁ => wpAny_dropValue ?_)))
  exact q .next s₁ g₁ X S₁ (l₁.leB _) q₁ .next fun _ => Vs.le l₁
theorem ex_ret (H : HypX G T r n c ce) {x : PySem.Expr} {pos : Pos} (e : stepEx r (.ret (cE k ce x)) st = some (fl, st')) : ExX G c ce.names (.Return (some x) pos) st fl st' := by
  revert e; intro ee; refine sB ee (fun v h1 e1 e => ?_) fun _ e => nsome e; clear ee
  refine inj2 e fun a1 a2 => ?_; clear e; subst a1 a2
  refine ⟨rfl, fun X g s S Vs hb E Q q => wpAny_Return_some ((H.evx X e1) g s S Vs E _ fun u s₁ g₁ S₁ l₁ q₁ p₁ => ?_)⟩
  exact q _ s₁ g₁ X S₁ (l₁.leB _) q₁ (.ret p₁) fun z => nomatch z
theorem ite_ok (H : HypX G T r n c ce) {a : List PySem.Stmt} (e : exs r (a.map (cS k ce)) ⟨st.b, h₁, st.r⟩ = some (fl, st')) {X : FX c} {g₁ : Gh} {s₁ : Shared} (S₁ : Sim G (c.fx X) g₁ h₁ s₁.heap) (Vs : Vars G (c.fx X) g ce.names st.r) (l₁ : g.le g₁) (hb : st.b ≤ g.as.length) (q₁ : Same s s₁) {E : Value → Shared → Prop} {Q : Flow → Shared → Prop} (q : Post G c ce.names g s st.b fl st' Q) :
    wpAny (model G.prog G.w) c.A (execs a c.env) Q E s₁ :=
  (H.exs e).2 X g₁ s₁ S₁ (Vs.le l₁) (S₁.la ▸ Nat.le_trans hb l₁.as.length_le) E Q fun fl₂ s₂ g₂ X₂ S₂ l₂ q₂ p₂ Vs₂ => q fl₂ s₂ g₂ X₂ S₂ ((l₁.leB _).trans l₂) (q₁.trans q₂) p₂ Vs₂
theorem ex_ite (H : HypX G T r n c ce) {t : PySem.Expr} {a b : List PySem.Stmt} {pos : Pos} (e : stepEx r (.ite (cE k ce t) (a.map (cS k ce)) (b.map (cS k ce))) st = some (fl, st')) : ExX G c ce.names (.If t a b pos) st fl st' := by
  refine sP e (fun h1 e1 e => ?_) (fun h1 e1 e => ?_) fun _ e => nsome e
  · refine ⟨(H.exs e).1, fun X g s S Vs hb E Q q => wpAny_If (ts_ok (H.H.fx X) e1 g s S Vs _ rfl E _ fun b' s₁ g₁ S₁ l₁ q₁ p₁ => ?_)⟩
    subst p₁
    rw [if_pos rfl]
    exact ite_ok H e S₁ Vs l₁ (S.la.symm ▸ hb) q₁ q
  · refine ⟨(H.exs e).1, fun X g s S Vs hb E Q q => wpAny_If (ts_ok (H.H.fx X) e1 g s S Vs _ rfl E _ fun b' s₁ g₁ S₁ l₁ q₁ p₁ => ?_)⟩
    subst p₁
    rw [if_neg Bool.false_ne_true]
    exact ite_ok H e S₁ Vs l₁ (S.la.symm ▸ hb) q₁ q
end Mine
end
section
open PySem PySem.W PyProof.Rows PySem.Calls PySem.SeqAt
namespace Mine
variable {G : Gl} {α β : Type} {c : Cx} {g : Gh} {s : Shared} {h h' h₁ h₂ : List O}
variable {T : Tab} {r : Rec} {n k : Nat} {ce : CE} {ρ ρ' : Rho} {v : V} {st st' : St} {fl : Fl}

/-! a loop's own private thing -/
theorem HypX.on (H : HypX G T r n c ce) (l : Led) : HypX G T r n (c.on l c.env) ce :=
  ⟨H.H.on (H.H.ok.on H.H.ok.ek H.H.ok.eg H.H.ok.eb) ⟨H.H.Ck.gl, H.H.Ck.glk, H.H.Ck.look, H.H.Ck.nd, H.H.Ck.loc, H.H.Ck.cell⟩, H.X, ⟨H.f.env, H.f.loc⟩, H.nd⟩
noncomputable def FX.on {c : Cx} (X : FX c) (l : Led) (e : Env) : FX (c.on l e) := ⟨X.m, X.cells, X.cm, X.ok⟩
noncomputable def FX.off {c : Cx} {l : Led} {e : Env} (X : FX (c.on l e)) : FX c := ⟨X.m, X.cells, X.cm, X.ok⟩
theorem Vars.unpriv {p : Addr × Obj} {names : List (Str × NameKind)} (f : FOk c) {H : Heap} (S : Sim G (c.with p) g h H) (Vs : Vars G (c.with p) g names ρ) : Vars G c g names ρ := by
  intro i x kd v h1 h2 h3
  obtain ⟨u, k1, k2⟩ := Vs i x kd v h1 h2 h3
  refine ⟨u, ?_, k2⟩
  rcases k1 with k1 | ⟨a, o, m', b, d⟩ | k1
  · exact .inl k1
  · exact absurd f.loc (S.news (c.env.locals, o) (List.mem_append_right _ (List.mem_append_left _ b))).2.1
  · exact .inr (.inr k1)
theorem FOk.fx (f : FOk c) (X : FX c) : FOk (c.fx X) := ⟨f.env, f.loc⟩

/-! for x in a list or a tuple -/
structure FV (c : Cx) where
  i : Nat
  st : St
  g : Gh
  oI : Obj
  X : FX c
structure ForIn (G : Gl) (c : Cx) (names : List (Str × NameKind)) (r : Rec) (n : Nat) (tg : Tgt) (body : List S) (src : Srcs) (I : Addr) (fl : Fl) (st' : St) (g₀ : Gh) (s₀ : Shared) (f : Nat) (s : Shared) (V : FV c) : Prop where
  e : forS r n tg body src f V.i V.st = some (fl, st')
  S : Sim G ((c.fx V.X).with (I, V.oI)) V.g V.st.h s.heap
  lg : g₀.le V.g
  sm : Same s₀ s
  it : ItO G c g₀ src V.i V.oI
  Vs : Vars G ((c.fx V.X).with (I, V.oI)) V.g names V.st.r
theorem forS_on {P : Prop} {m : Nat} {tg : Tgt} {body : List S} {src : Srcs} {f i : Nat} (e : forS r m tg body src (f + 1) i st = some (fl, st'))
    (k : ∀ w, nextS src i st.h = some w → (w = none → fl = .next ∧ st' = st) → (∀ v, w = some v → ∃ r' fl₁ st₁, bindT tg v st.r = some r' ∧ exs r body ⟨m, st.h, r'⟩ = some (fl₁, st₁) ∧ (fl₁ = .next → forS r m tg body src f (i + 1) (cutTo m st₁) = some (fl, st')) ∧ (∀ v, fl₁ = .ret v → fl = .ret v ∧ st' = st₁)) → P) : P :=
  sZ e (fun _ e => nsome e) (fun hn e => k none hn (fun _ => inj2 e fun a b => ⟨a, b⟩) fun v z => nomatch z) fun v hn e => k (some v) hn (fun z => nomatch z) fun v' hv => by
    cases Option.some.inj hv
    exact sK e (fun _ e => nsome e) fun r' hb e => sNN e fun fl₁ st₁ e1 kn kr => ⟨r', fl₁, st₁, hb, e1, kn, kr⟩
theorem for_loop (H : HypX G T r n c ce) {t : PySem.Expr} {tg : Tgt} {body : List PySem.Stmt} {m : Nat} {src : Srcs} {I : Addr} {f : Nat} {g₀ : Gh} {R : Result → Shared → Prop} (ht : tgtOf ce t = some tg) (hm : g₀.as.length = m)
    (hs : ∃ V, ForIn G c ce.names r m tg (body.map (cS k ce)) src I fl st' g₀ s f s V)
    (q : ∀ s' g' (X : FX c) fl', Sim G (c.fx X) g' st'.h s'.heap → g₀.le g' → Same s s' → FlR G c g' fl fl' → (fl = .next → Vars G (c.fx X) g' ce.names st'.r) → R (.ok fl') s') :
    codeAny (model G.prog G.w) c.A (.forLoop t (.ref I) body [] c.env) R s := by
  refine codeAny_forLoop_any (fun f s₁ => ∃ V, ForIn G c ce.names r m tg (body.map (cS k ce)) src I fl st' g₀ s f s₁ V) (fun f s₁ hI => ?_) f hs
  obtain ⟨V, hI⟩ := hI
  cases f with
  | zero => exact nsome hI.e
  | succ f =>
    have Vs₀ := Vars.unpriv (H.f.fx V.X) hI.S hI.Vs
    refine forS_on hI.e fun w hnx k0 k1 => next_ok (c := c.fx V.X) (H.H.ok.st V.X.ok) hI.S hI.lg (ItO.hb (c := c) (c' := c.fx V.X) rfl hI.it) hnx (fun s₂ hn S₂ q₂ => ?_) fun v u oI' s₂ hv rv S₂ q₂ it₂' => ?_
    · obtain ⟨a1, a2⟩ := k0 hn
      subst a1 a2
      exact wpAny_pure (q s₂ V.g V.X .next S₂ hI.lg (hI.sm.trans q₂) .next fun _ => Vs₀)
    · obtain ⟨r', fl₁, st₁, hb, e1, kn, kr⟩ := k1 v hv
      have it₂ : ItO G c g₀ src (V.i + 1) oI' := ItO.hb (c := c.fx V.X) (c' := c) rfl it₂'
      have H' := H.on [(I, oI')]
      refine go_ok (c := c) S₂.privAt it₂ (tgt_ok H'.fam H.H.Ck.nd (x := V.X.on _ _) ht hb rv S₂ (Vars.with Vs₀) fun X' s₃ S₃ q₃ Vs₃ => ?_)
      have hlen : m ≤ V.st.h.length := by rw [← hI.S.la, ← hm]; exact hI.lg.as.length_le
      subst hm
      refine (H'.exs e1).2 X' V.g s₃ S₃ Vs₃ hlen _ _ fun fl₄ s₄ g₄ X₄ S₄ l₄ q₄ p₄ Vs₄ => ?_
      have sm₄ := ((hI.sm.trans q₂).trans q₃).trans q₄
      have l₄' := (hI.lg.leB _).trans l₄
      cases fl₁ with
      | next =>
        obtain rfl := p₄.isNext
        obtain ⟨g₅, S₅, Vs₅, l₅, hb5⟩ := cutTo_ok (n := g₀.as.length) S₄ (Vs₄ rfl) l₄
        exact ⟨f, Nat.lt_succ_self _, ⟨V.i + 1, _, g₅, oI', X₄.off⟩, ⟨kn rfl, S₅, ((hI.lg.leB _).trans l₅).le, sm₄, it₂, Vs₅⟩⟩
      | ret v =>
        obtain ⟨a1, a2⟩ := kr v rfl
        subst a1 a2
        obtain ⟨u, rfl, p⟩ := p₄.isRet
        exact q s₄ g₄ X₄.off _ (Sim.unpriv (c := c.fx X₄.off) S₄).1 l₄'.le sm₄ (.ret p) fun z => nomatch z
end Mine
end
section
open PySem PySem.W PyProof.Rows PySem.Calls PySem.SeqAt
namespace Mine
variable {G : Gl} {α β : Type} {c : Cx} {g : Gh} {s : Shared} {h h' h₁ h₂ : List O}
variable {T : Tab} {r : Rec} {n k : Nat} {ce : CE} {ρ ρ' : Rho} {v : V} {st st' : St} {fl : Fl}

theorem ex_for (H : HypX G T r n c ce) {t it : PySem.Expr} {tg : Tgt} {body : List PySem.Stmt} {pos : Pos} (ht : tgtOf ce t = some tg) (e : stepEx r (.for_ tg (cE k ce it) (body.map (cS k ce))) st = some (fl, st')) :
    ExX G c ce.names (.For t it body [] pos) st fl st' := by
  refine sA e (fun _ e => nsome e) fun v h1 e1 e => sQ e (fun _ e => nsome e) fun src f e2 e => sV2 e (fun _ e => nsome e) fun fl' st₂ e3 e => inj2 e fun a1 a2 => ?_
  subst a1 a2
  refine ⟨rfl, fun X g s S Vs hb E Q q => ?_⟩
  refine wpAny_For ((H.evx X e1) g s S Vs E _ fun u s₁ g₁ S₁ l₁ q₁ p₁ => ?_) (fun u => notSet (H.H.fx X) e1 _ u)
  refine iter_ok (c := c.fx X) (H.H.fx X).ok S₁ p₁ e2 fun oI s₂ S₂ q₂ it₂ _ => ?_
  exact for_loop H ht (g₀ := g₁) S₁.la (f := f) ⟨⟨0, _, g₁, oI, X⟩, ⟨e3, S₂, .refl _, .refl _, ItO.hb (c := c.fx X) (c' := c) rfl it₂, (Vs.le l₁).with⟩⟩ fun s' g' X' fl' S' l' q' p' Vs' => q fl' s' g' X' S' ((l₁.trans l').leB _) ((q₁.trans q₂).trans q') p' Vs'

/-! while -/
structure WV (c : Cx) where
  st : St
  g : Gh
  X : FX c
structure WhIn (G : Gl) (c : Cx) (names : List (Str × NameKind)) (r : Rec) (n : Nat) (t : E) (body : List S) (fl : Fl) (st' : St) (g₀ : Gh) (s₀ : Shared) (f : Nat) (s : Shared) (V : WV c) : Prop where
  e : whileL r n t body f V.st = some (fl, st')
  S : Sim G (c.fx V.X) V.g V.st.h s.heap
  lg : g₀.le V.g
  sm : Same s₀ s
  Vs : Vars G (c.fx V.X) V.g names V.st.r
theorem whileL_on {P : Prop} {m : Nat} {t : E} {body : List S} {f : Nat} (e : whileL r m t body (f + 1) st = some (fl, st'))
    (k : ∀ b h2, tst r t st.r st.h = some (b, h2) → (b = false → fl = .next ∧ st' = ⟨st.b, h2, st.r⟩) → (b = true → ∃ fl₁ st₁, exs r body ⟨m, h2, st.r⟩ = some (fl₁, st₁) ∧ (fl₁ = .next → whileL r m t body f (cutTo m st₁) = some (fl, st')) ∧ (∀ v, fl₁ = .ret v → fl = .ret v ∧ st' = st₁)) → P) : P :=
  sO e (fun _ e => nsome e) (fun h2 e2 e => k false h2 e2 (fun _ => inj2 e fun a b => ⟨a, b⟩) fun z => nomatch z) fun h2 e2 e => k true h2 e2 (fun z => nomatch z) fun _ => sNN e fun fl₁ st₁ e1 kn kr => ⟨fl₁, st₁, e1, kn, kr⟩
theorem ex_while (H : HypX G T r n c ce) {t : PySem.Expr} {body : List PySem.Stmt} {pos : Pos} (e : stepEx r (.while_ (cE k ce t) (body.map (cS k ce))) st = some (fl, st')) : ExX G c ce.names (.While t body [] pos) st fl st' := by
  refine sV e (fun fl' st₂ e3 e => inj2 e fun a1 a2 => ?_) fun _ e => nsome e
  subst a1 a2
  refine ⟨rfl, fun X g s S Vs hb E Q q => wpAny_While ?_⟩
  refine codeAny_whileLoop (fun f s₁ => ∃ V, WhIn G c ce.names r st.h.length (cE k ce t) (body.map (cS k ce)) fl st₂ g s f s₁ V) (fun f s₁ hI => ?_) 64 ⟨⟨st, g, X⟩, ⟨e3, S, .refl _, .refl _, Vs⟩⟩
  obtain ⟨V, hI⟩ := hI
  have hm : g.as.length = st.h.length := S.la
  cases f with
  | zero => exact nsome hI.e
  | succ f =>
    refine whileL_on hI.e fun b h2 e2 kf kt => ts_ok (H.H.fx V.X) e2 V.g s₁ hI.S hI.Vs _ rfl _ _ fun b' s₂ g₂ S₂ l₂ q₂ p₂ => ?_
    subst p₂
    have l₁₂ := hI.lg.trans l₂
    cases b' with
    | false =>
      obtain ⟨a1, a2⟩ := kf rfl
      subst a1 a2
      rw [if_neg Bool.false_ne_true]
      exact wpAny_pure (q .next s₂ g₂ V.X S₂ (l₁₂.leB _) (hI.sm.trans q₂) .next fun _ => hI.Vs.le l₂)
    | true =>
      obtain ⟨fl₁, st₁, e4, kn, kr⟩ := kt rfl
      rw [if_pos rfl]
      have hlen : g.as.length ≤ h2.length := by rw [← S₂.la]; exact l₁₂.as.length_le
      rw [← hm] at e4 kn
      refine (H.exs e4).2 V.X g₂ s₂ S₂ (hI.Vs.le l₂) hlen _ _ fun fl₄ s₄ g₄ X₄ S₄ l₄ q₄ p₄ Vs₄ => ?_
      have sm₄ := (hI.sm.trans q₂).trans q₄
      cases fl₁ with
      | next =>
        obtain rfl := p₄.isNext
        obtain ⟨g₅, S₅, Vs₅, l₅, hb5⟩ := cutTo_ok (n := g.as.length) S₄ (Vs₄ rfl) l₄
        exact ⟨f, Nat.lt_succ_self _, ⟨_, g₅, X₄⟩, ⟨hm ▸ kn rfl, S₅, ((l₁₂.leB _).trans l₅).le, sm₄, Vs₅⟩⟩
      | ret v =>
        obtain ⟨a1, a2⟩ := kr v rfl
        subst a1 a2
        obtain ⟨u, rfl, p⟩ := p₄.isRet
        exact q _ s₄ g₄ X₄ S₄ (((l₁₂.leB _).trans l₄).le.leB _) sm₄ (.ret p) fun z => nomatch z

/-! for i in range(n) -/
noncomputable def rngObj (k : Int) (t₁ t₂ t₃ : Tok) : Obj := { cls := .type "range", dict := none, data := .fields #[.int 0 t₁, .int k t₂, .int 1 t₃], slots := #[] }
noncomputable def ritObj (i j : Int) : Obj := { cls := .type "range_iterator", dict := none, data := .fields #[rawInt i, rawInt j, rawInt 1], slots := #[] }
structure RnIn (G : Gl) (c : Cx) (names : List (Str × NameKind)) (r : Rec) (n : Nat) (i : Nat) (body : List S) (I : Addr) (fl : Fl) (st' : St) (g₀ : Gh) (s₀ : Shared) (f : Nat) (s : Shared) (j : Nat) (V : WV c) : Prop where
  e : forRL r n i body j f V.st = some (fl, st')
  S : Sim G ((c.fx V.X).with (I, ritObj j f)) V.g V.st.h s.heap
  lg : g₀.le V.g
  sm : Same s₀ s
  Vs : Vars G ((c.fx V.X).with (I, ritObj j f)) V.g names V.st.r
theorem forR_loop (H : HypX G T r n c ce) {y : Str} {yp : Pos} {i N : Nat} {body : List PySem.Stmt} {I : Addr} {f : Nat} {g₀ : Gh} {R : Result → Shared → Prop} (ht : storeSlot ce y = some i) (hm : g₀.as.length = N)
    (hs : ∃ j V, RnIn G c ce.names r N i (body.map (cS k ce)) I fl st' g₀ s f s j V)
    (q : ∀ s' g' (X : FX c) fl', Sim G (c.fx X) g' st'.h s'.heap → g₀.le g' → Same s s' → FlR G c g' fl fl' → (fl = .next → Vars G (c.fx X) g' ce.names st'.r) → R (.ok fl') s') :
    codeAny (model G.prog G.w) c.A (.forLoop (.Name y yp) (.ref I) body [] c.env) R s := by
  subst hm
  refine codeAny_forLoop_any (fun f s₁ => ∃ j V, RnIn G c ce.names r g₀.as.length i (body.map (cS k ce)) I fl st' g₀ s f s₁ j V) (fun f s₄ hI => ?_) f hs
  obtain ⟨j, V, hI⟩ := hI
  have Vs₀ := Vars.unpriv (H.f.fx V.X) hI.S hI.Vs
  cases f with
  | zero =>
    refine inj2 hI.e fun a1 a2 => ?_
    subst a1 a2
    refine wpAny_pyNext_range_end (A := c.A) H.H.ok.hh (x := j) (left := ((0 : Nat) : Int)) (step := 1) hI.S.privAt (Int.le_refl _) fun h' he => ?_
    exact wpAny_pure (q { s₄ with heap := h' } V.g V.X .next (hI.S.privDrop he) hI.lg ⟨hI.sm.os, hI.sm.gens⟩ .next fun _ => Vs₀)
  | succ f =>
    refine wpAny_pyNext_range_item (x := j) (left := ((f + 1 : Nat) : Int)) (step := 1) hI.S.privAt (Int.natCast_pos.mpr (Nat.succ_pos f)) fun h' hit hs => ?_
    have hit' : h'.get? I = some (ritObj (j + 1 : Nat) f) := by
      rw [show (((f + 1 : Nat) : Int) - 1) = (f : Int) from Int.add_sub_cancel (f : Int) 1] at hit; exact hit
    refine wpAny_of_eq (show letOwnedTupleGo (.Name y yp) (.ref I) _ = pure () from rfl) ?_
    have H' := H.on [(I, ritObj (j + 1 : Nat) f)]
    refine tgt_ok (s := { s₄ with heap := h', toks := s₄.toks + 1 }) (v := bI j) (ρ' := V.st.r.set i (some (bI j))) H'.fam H.H.Ck.nd (x := V.X.on _ _) (t := .Name y yp) (tg := .one i) (tgt_name ht) rfl (.d (.int _ _)) (hI.S.privSet hs hit') (Vars.with Vs₀) fun X' s₇ S₇ q₇ Vs₇ => ?_
    have hlen' : g₀.as.length ≤ V.st.h.length := by rw [← hI.S.la]; exact hI.lg.as.length_le
    refine sNN hI.e fun fl₁ st₁ e4 kn kr => (H'.exs e4).2 X' V.g s₇ S₇ Vs₇ hlen' _ _ fun fl₈ s₈ g₈ X₈ S₈ l₈ q₈ p₈ Vs₈ => ?_
    have sm₈ : Same s s₈ := ⟨q₈.os.trans (q₇.os.trans hI.sm.os), q₈.gens.trans (q₇.gens.trans hI.sm.gens)⟩
    cases fl₁ with
    | next =>
      obtain rfl := p₈.isNext
      obtain ⟨g₉, S₉, Vs₉, l₉, hb9⟩ := cutTo_ok (n := g₀.as.length) S₈ (Vs₈ rfl) l₈
      exact ⟨f, Nat.lt_succ_self _, j + 1, ⟨_, g₉, X₈.off⟩, ⟨kn rfl, S₉, ((hI.lg.leB _).trans l₉).le, sm₈, Vs₉⟩⟩
    | ret v =>
      obtain ⟨a1, a2⟩ := kr v rfl
      subst a1 a2
      obtain ⟨u, rfl, p⟩ := p₈.isRet
      exact q s₈ g₈ X₈.off _ (Sim.unpriv (c := c.fx X₈.off) S₈).1 (((hI.lg.leB _).trans l₈).le) sm₈ (.ret p) fun z => nomatch z
theorem rng_arg {P : PySem.Expr → Prop} {it arg : PySem.Expr} (hi : rngArg ce it = some arg) (k : ∀ x xp p, isGl x ce.names = true → reserved x = false → plainArg arg = true → ce.gl x = some .rng → P (.Call (.Name x xp) [arg] [] p)) : P it := by
  cases it
  case Call f as ks p =>
    cases f
    case Name x xp =>
      cases as with
      | nil => exact nsome hi
      | cons a as =>
        cases as with
        | cons _ _ => exact nsome hi
        | nil =>
          cases ks with
          | cons _ _ => exact nsome hi
          | nil =>
            refine iF (b := (isGl x ce.names && (!reserved x && plainArg a)) = true) hi (fun hc hi => ?_) fun _ e => nsome e
            have a1 := Bool.and_eq_true_iff.mp hc
            have b1 := Bool.and_eq_true_iff.mp a1.2
            cases hx : ce.gl x with
            | none => rw [hx] at hi; exact nsome hi
            | some gv =>
              rw [hx] at hi
              cases gv
              case rng => exact inj1 hi fun e => by subst e; exact k x xp p a1.1 ((Bool.not_eq_true' _).mp b1.1) b1.2 hx
              all_goals exact nsome hi
    all_goals exact nsome hi
  all_goals exact nsome hi
theorem natOf_le {v : V} {m : Nat} (e : natOf v = some m) : m ≤ lim := by
  have := natOf_int e
  subst this
  exact iF (show (if Nat.ble m lim then some m else none) = some m from e) (fun h _ => Nat.le_of_ble_eq_true h) fun _ e => nsome e
theorem ex_forR (H : HypX G T r n c ce) {t it arg : PySem.Expr} {i : Nat} {body : List PySem.Stmt} {pos : Pos} (ht : nameSlot ce t = some i) (hi : rngArg ce it = some arg) (e : stepEx r (.forR i (cE k ce arg) (body.map (cS k ce))) st = some (fl, st')) :
    ExX G c ce.names (.For t it body [] pos) st fl st' := by
  refine rng_arg (P := fun it => ExX G c ce.names (.For t it body [] pos) st fl st') hi fun x xp p hg hr hp hx => ?_
  refine sA e (fun _ e => nsome e) fun v h1 e1 e => sI e (fun _ e => nsome e) fun m e2 e => sV e (fun fl' st₂ e3 e => inj2 e fun a1 a2 => ?_) fun _ e => nsome e
  subst a1 a2
  have hml := natOf_le e2
  have hv := natOf_int e2
  subst hv
  refine ⟨rfl, fun X g s S Vs hb E Q q => ?_⟩
  have gx : GvOk G x .rng := H.H.Ck.gl _ _ hx
  have He := H.H.fx X
  have xs1 : EvXs G (c.fx X) ce.names st.r [arg] st.h [.d (.int (m : Int))] h1 := .cons _ _ _ _ _ _ _ (H.evx X e1) (.nil _)
  refine wpAny_For ?_ (fun _ => rfl)
  refine Call_ (ev_builtin (c := c.fx X) (P := fun g' u => u = .type "range" ∧ g' = g) He.ok S (He.Ck.glk _ hg) hr gx.1 gx.2.1 gx.2.2 ⟨rfl, rfl⟩ E _ fun u s₁ g₁ S₁ l₁ q₁ p₁ => ?_)
  obtain ⟨rfl, rfl⟩ := p₁
  refine callWith_ok (ce := ce) (P := fun g' u => ∃ a t₁ t₂ t₃, u = .ref a ∧ (a, rngObj m t₁ t₂ t₃) ∈ g'.Z) (h₂ := h1) He.ok (f := .type "range") trivial (first := []) S₁ Vs (show ([arg] : List PySem.Expr).all plainArg = true from Bool.and_eq_true_iff.mpr ⟨hp, rfl⟩) xs1 (fun us s₂ g₂ S₂ l₂ q₂ p₂ => ?_) E _ fun u s₃ g₃ S₃ l₃ q₃ p₃ => ?_
  · refine p₂.on fun u us p₂ p₃ => p₃.on ?_
    · obtain ⟨tk, rfl⟩ := rd_int (h := []) p₂ rfl
      intro E Q q
      refine call_range_1 ?_
      have S₃ := Sim.freeze (s := s₂) S₂ (S₂.fr.push (rngObj m s₂.toks tk (s₂.toks + 1))) (S₂.news.push S₂.fr (rngObj m s₂.toks tk (s₂.toks + 1)) rfl) S₂.lt
      exact q _ _ _ S₃ (Gh.le_freeze _ _) ⟨rfl, rfl⟩ ⟨_, _, _, _, rfl, .head _⟩
  · obtain ⟨a, t₁, t₂, t₃, rfl, hz⟩ := p₃
    have hR : IsRange s₃.heap a 0 m 1 t₁ t₂ t₃ := S₃.here (S₃.inZ hz)
    have hsm : Builtin.Range.small 0 (m : Int) 1 = true := small_one (by decide) (by decide) (by omega) (by unfold lim at hml; omega)
    refine wpAny_pyIter_range hR hsm ?_
    have hsz : Builtin.Range.rangeSize 0 (m : Int) 1 = (m : Int) := by rw [rangeSize_nat]; omega
    rw [hsz]
    have S₄ : Sim G ((c.fx X).with (s₃.heap.objs.size, ritObj (0 : Nat) m)) g₃ h1 (s₃.heap.push (ritObj (0 : Nat) m)) := S₃.privPush rfl
    have ll := l₁.trans l₃
    have hlen : g₃.as.length = h1.length := S₃.la
    cases t
    case Name y yp =>
      refine forR_loop H (g₀ := g₃) (f := m) ht hlen ⟨0, ⟨_, g₃, X⟩, ⟨e3, S₄, .refl _, .refl _, (Vs.le l₃).with⟩⟩ fun s' g' X' fl' S' l' q' p' Vs' => ?_
      exact q fl' s' g' X' S' ((l₃.trans l').leB _) ⟨q'.os.trans (q₃.os.trans q₁.os), q'.gens.trans (q₃.gens.trans q₁.gens)⟩ p' Vs'
    all_goals exact nsome ht
end Mine
end
section
open PySem PySem.W PyProof.Rows PySem.Calls PySem.SeqAt
namespace Mine
variable {G : Gl} {α β : Type} {c : Cx} {g : Gh} {s : Shared} {h h' h₁ h₂ : List O}
variable {T : Tab} {r : Rec} {n k : Nat} {ce : CE} {ρ ρ' : Rho} {v : V} {st st' : St} {fl : Fl} {sc : Scope}

theorem Vars.unp1 {p : Addr × Obj} {names : List (Str × NameKind)} (f : FOk c) (hp : p.1 ≠ c.L) (Vs : Vars G (c.with p) g names ρ) : Vars G c g names ρ := by
  intro i x kd v h1 h2 h3
  obtain ⟨u, k1, k2⟩ := Vs i x kd v h1 h2 h3
  refine ⟨u, ?_, k2⟩
  rcases k1 with k1 | ⟨a, o, m', b, d⟩ | k1
  · exact .inl k1
  · refine .inr (.inl ⟨a, o, m', ?_, d⟩)
    have b' : (c.env.locals, o) ∈ p :: c.pri := b
    rcases List.mem_cons.mp b' with z | z
    · exact absurd ((congrArg Prod.fst z).symm.trans f.loc) hp
    · exact z
  · exact .inr (.inr k1)

theorem use_store (H : HypX G T r n c ce) (X : FX c) {C D : Addr} {oC oD : Obj} {x : Str} {p : Pos} {i : Nat} {m : Str → Option Value} {E : Value → Shared → Prop} {Q' : Shared → Prop} (hi : storeSlot ce x = some i)
    (S : Sim G ((c.fx X).on [(C, oC), (D, oD)] c.env) g h s.heap) (no : NsO oC m) (Vs : Vars G (c.fx X) g ce.names ρ)
    (fin : ∀ (c' : Cx) (s' : Shared), c'.hb = c.hb → Sim G (c'.with (D, oD)) g h s'.heap → ∃ g', Sim G c' g' h' s'.heap ∧ g.le g' ∧ VV G c' g' v (.ref D))
    (q : ∀ s' g' X', Sim G (c.fx X') g' h' s'.heap → g.le g' → Same s s' → Vars G (c.fx X') g' ce.names (ρ.set i (some v)) → Q' s') :
    wpAny (model G.prog G.w) c.A (assign (.Name x p) c.env (.ref D)) (fun _ s'' => ∃ m, s''.heap.Ns C m ∧ ∀ h'', Heap.SameBut C s''.heap h'' → Q' { s'' with heap := h'' }) E s := by
  have H' := H.on [(C, oC), (D, oD)]
  refine assign_Name (H'.fam.store (X.on _ _) x i g h s (.ref D) E _ hi S fun X' s₁ S₁ q₁ k1 k2 => ?_)
  have S₂ : Sim G (((c.fx X'.off).on [(D, oD)] c.env).with (C, oC)) g h s₁.heap := S₁
  obtain ⟨es, ep, d1, d2, d3⟩ := no
  refine ⟨m, ⟨oC, es, ep, S₂.privAt, d1, d2, d3⟩, fun h'' hs => ?_⟩
  have S₃ : Sim G ((c.fx X'.off).with (D, oD)) g h h'' := Sim.off0 (S₂.privDrop hs.extBut)
  obtain ⟨g', S₄, l₄, rv⟩ := fin (c.fx X'.off) { s₁ with heap := h'' } rfl S₃
  refine q { s₁ with heap := h'' } g' X'.off S₄ l₄ ⟨q₁.os, q₁.gens⟩ ?_
  have hC : C ≠ c.L := (S.news (C, oC) (List.mem_append_right _ (.head _))).2.1
  have hD : D ≠ c.L := (S.news (D, oD) (List.mem_append_right _ (.tail _ (.head _)))).2.1
  have V1 : Vars G ((c.on [(C, oC), (D, oD)] c.env).fx (X.on _ _)) g' ce.names ρ := Vars.with (p := (C, oC)) (Vars.with (p := (D, oD)) (Vs.le l₄))
  have V2 : Vars G ((c.on [(C, oC), (D, oD)] c.env).fx X') g' ce.names (ρ.set i (some v)) := Vars.store (c := (c.on [(C, oC), (D, oD)] c.env).fx (X.on _ _)) (c' := (c.on [(C, oC), (D, oD)] c.env).fx X') V1 H.H.Ck.nd rfl hi k1 k2 rv
  have V3 : Vars G ((c.fx X'.off).with (D, oD)) g' ce.names (ρ.set i (some v)) := Vars.unp1 (c := (c.fx X'.off).with (D, oD)) (p := (C, oC)) ⟨H.f.env, H.f.loc⟩ hC V2
  exact Vars.unp1 (c := c.fx X'.off) (p := (D, oD)) ⟨H.f.env, H.f.loc⟩ hD V3

theorem ex_asg' (H : HypX G T r n c ce) {x : Str} {p pos : Pos} {value : PySem.Expr} {i : Nat} (hi : storeSlot ce x = some i) (hc : swapsWith value (some (.Name x p)) pos.line c.env = pure false) (e : stepEx r (.asg i (cE k ce value)) st = some (fl, st')) :
    ExX G c ce.names (.Assign [.Name x p] value pos) st fl st' := by
  refine sB e (fun v h1 e1 e => inj2 e fun a1 a2 => ?_) fun _ e => nsome e
  subst a1 a2
  refine ⟨rfl, fun X g s S Vs hb E Q q => ?_⟩
  refine assign_plain rfl hc ((H.evx X e1) g s S Vs E _ fun u s₁ g₁ S₁ l₁ q₁ p₁ => assign_Name ?_)
  refine H.fam.store X x i g₁ h1 s₁ u E _ hi S₁ fun X' s₂ S₂ q₂ k1 k2 => ?_
  exact q .next s₂ g₁ X' S₂ (l₁.leB _) (q₁.trans q₂) .next fun _ => (Vs.le l₁).store H.H.Ck.nd rfl hi k1 k2 p₁

theorem ex_asgL (H : HypX G T r n c ce) {x : Str} {p pos : Pos} {elt iter t : PySem.Expr} {ifs : List PySem.Expr} {cp : Pos} {i n' : Nat} {r' : Rec} (hi : storeSlot ce x = some i) {k : Nat}
    (H2 : Hyp G T r' n' c ce) (hsw : swapsWith (.ListComp elt [⟨t, iter, ifs, 0⟩] sc cp) (some (.Name x p)) pos.line c.env = pure true) {h' : List O}
    {tg : Tgt} {ini : List (Option Nat)} {mu : Bool} (ht : tgtOf { ce with names := sc.names } t = some tg) (hini : initOf ce.names sc.names = some ini) (h3 : (fnKind sc && scopeOk sc.names) = true)
    (e : stepEv T r' (.comp mu (cE k { ce with names := sc.names } elt) tg (cE k ce iter) (ifs.map (cE k { ce with names := sc.names })) ini) st.r st.h = some (v, h')) :
    ExX G c ce.names (.Assign [.Name x p] (.ListComp elt [⟨t, iter, ifs, 0⟩] sc cp) pos) st .next ⟨st.b, h', st.r.set i (some v)⟩ := by
  refine sA e (fun _ e => nsome e) fun v₁ h₁ e1 e => sQ e (fun _ e => nsome e) fun src f e2 e => sC e (fun _ e => nsome e) fun total h₂ e3 e4 => ?_
  have h3' := Bool.and_eq_true_iff.mp h3
  refine ⟨rfl, fun X g s S Vs hb E Q q => ?_⟩
  have HX := H2.fx X
  obtain ⟨cl, hcl, K⟩ := comp_ok HX h3'.1 h3'.2 hini
  rw [exec_Assign_Name_used _ _ _ _ hsw]
  refine wpAny_bind (wpAny_standAt (wpAny_bind ?_))
  show wpAny _ c.A (do let _ ← comprehension (.ListComp elt [⟨t, iter, ifs, 0⟩] sc cp) sc c.env _ (newList []) false (eval iter c.env) (some (assign (.Name x p) c.env))) _ _ s
  refine wpAny_bind (wpAny_mono (wpAny_comprehension_free (use := some (assign (.Name x p) c.env)) (Q := fun _ s' => Q .next s') rfl (fun u => notSet HX e1 _ u) hcl K.kind (fun x hx hl => hl ▸ (scopeOk_mem K.sok hx).1) ?_) (fun _ s' hq => wpAny_pure (wpAny_pure hq)) fun _ _ e => e)
  refine HX.ev e1 g s S Vs E _ fun u s₁ g₁ S₁ l₁ q₁ p₁ => ?_
  refine comp_core HX K ht hini e2 p₁ S₁ (Vs.le l₁) e3 fun D C s' g' oC m ys nn S' l' q' no rvs => ?_
  refine use_store H X (v := v) (h' := h') (m := m) (Q' := fun s' => Q .next s') hi S' no (Vs.le (l₁.trans l')) (fun c' s'' hh S'' => ?_) fun s'' g'' X'' S'' l'' q'' Vs'' => ?_
  · have rvs' : VVs G c' g' total ys.toList := by unfold VVs; rw [hh]; exact rvs
    exact listDone S'' rvs' e4
  · exact q .next s'' g'' X'' S'' (((l₁.trans l').trans l'').leB _) ((q₁.trans q').trans q'') .next fun _ => Vs''

theorem ex_asgD (H : HypX G T r n c ce) {y : Str} {p pos : Pos} {ke ve iter : PySem.Expr} {x : Str} {px : Pos} {ifs : List PySem.Expr} {cp : Pos} {i n' : Nat} {r' : Rec} (hi : storeSlot ce y = some i) {k : Nat}
    (H2 : Hyp G T r' n' c ce) (hsw : swapsWith (.DictComp ke ve [⟨.Name x px, iter, ifs, 0⟩] sc cp) (some (.Name y p)) pos.line c.env = pure true) {h' : List O}
    {tg : Nat} {ini : List (Option Nat)} (d1 : storeSlot { ce with names := sc.names } x = some tg) (d2 : initOf ce.names sc.names = some ini) (h3 : (fnKind sc && scopeOk sc.names) = true)
    (e : stepEv T r' (.dcomp (cE k { ce with names := sc.names } ke) (cE k { ce with names := sc.names } ve) tg (cE k ce iter) (ifs.map (cE k { ce with names := sc.names })) ini) st.r st.h = some (v, h')) :
    ExX G c ce.names (.Assign [.Name y p] (.DictComp ke ve [⟨.Name x px, iter, ifs, 0⟩] sc cp) pos) st .next ⟨st.b, h', st.r.set i (some v)⟩ := by
  refine wD e (fun mm h₁ e1 e => iF e (fun _ e => sR e (fun _ e => nsome e) fun total h₂ e2 e => inj2 e fun a1 a2 => ?_) fun _ e => nsome e) fun e => nsome e
  subst a1 a2
  have h3' := Bool.and_eq_true_iff.mp h3
  refine ⟨rfl, fun X g s S Vs hb E Q q => ?_⟩
  have HX := H2.fx X
  obtain ⟨cl, hcl, K⟩ := comp_ok HX h3'.1 h3'.2 d2
  rw [exec_Assign_Name_used _ _ _ _ hsw]
  refine wpAny_bind (wpAny_standAt (wpAny_bind ?_))
  show wpAny _ c.A (do let _ ← comprehension (.DictComp ke ve [⟨.Name x px, iter, ifs, 0⟩] sc cp) sc c.env _ newDict false (eval iter c.env) (some (assign (.Name y p) c.env))) _ _ s
  refine wpAny_bind (wpAny_mono (wpAny_comprehension_free (use := some (assign (.Name y p) c.env)) (Q := fun _ s' => Q .next s') rfl (fun u => notSet HX e1 _ u) hcl K.kind (fun x hx hl => hl ▸ (scopeOk_mem K.sok hx).1) ?_) (fun _ s' hq => wpAny_pure (wpAny_pure hq)) fun _ _ e => e)
  refine HX.ev e1 g s S Vs E _ fun u s₁ g₁ S₁ l₁ q₁ p₁ => ?_
  refine dcomp_core HX K d1 d2 p₁ S₁ (Vs.le l₁) e2 fun D C s' g' oC oD m kv S' l' q' no hdo hpd hsys => ?_
  refine use_store H X (v := .idict total) (h' := h') (m := m) (Q' := fun s' => Q .next s') hi S' no (Vs.le (l₁.trans l')) (fun c' s'' hh S'' => ?_) fun s'' g'' X'' S'' l'' q'' Vs'' => ?_
  · obtain ⟨S₄, N₄, ap⟩ := S''.unpriv
    exact ⟨_, Sim.freezeN S₄ S₄.fr N₄ ap, Gh.le_freeze _ _, .idict (.inr (.head _)) hsys hdo (hpd.mono fun _ _ q => q.mono (by rw [hh]; exact Kn.mono fun _ q => .tail _ q))⟩
  · exact q .next s'' g'' X'' S'' (((l₁.trans l').trans l'').leB _) ((q₁.trans q').trans q'') .next fun _ => Vs''

theorem comp_on {P : PySem.Expr → Prop} {x : PySem.Expr} (h : notComp x = false) (k1 : ∀ a b d p, P (.ListComp a b d p)) (k2 : ∀ a b d p, P (.SetComp a b d p)) (k3 : ∀ a b d f p, P (.DictComp a b d f p)) : P x := by
  cases x
  case ListComp a b d p => exact k1 a b d p
  case SetComp a b d p => exact k2 a b d p
  case DictComp a b d f p => exact k3 a b d f p
  all_goals exact ftrue h.symm
theorem ex_asgAll (H : HypX G T r n c ce) {x : Str} {p pos : Pos} {value : PySem.Expr} {i : Nat} (hi : storeSlot ce x = some i) (e : stepEx r (.asg i (cE k ce value)) st = some (fl, st')) :
    ExX G c ce.names (.Assign [.Name x p] value pos) st fl st' := by
  cases hc : notComp value with
  | true => exact ex_asg H hi hc e
  | false =>
    refine sB e (fun v h1 e1 e' => inj2 e' fun a1 a2 => ?_) fun _ e => nsome e
    obtain ⟨r', n', e2, hn, IH'⟩ := H.X.unf _ _ _ _ e1
    have H2 : Hyp G T r' n' c ce := ⟨IH', H.H.ok, hn ▸ H.H.Rn, H.H.Ck, H.H.CK⟩
    cases k with
    | zero => rw [cE_zero] at e2; exact nsome e2
    | succ k =>
      revert e e1 e2
      refine comp_on (P := fun value => stepEx r (.asg i (cE (k + 1) ce value)) st = some (fl, st') → r.ev (cE (k + 1) ce value) st.r st.h = some (v, h1) → stepEv T r' (cE (k + 1) ce value) st.r st.h = some (v, h1) → ExX G c ce.names (.Assign [.Name x p] value pos) st fl st') hc (fun elt gens sc cp e e1 e2 => ?_) (fun a b d f _ _ e2 => nsome e2) fun kk vv gens sc cp e e1 e2 => ?_
      · obtain ⟨b, hb⟩ : ∃ b, swapsWith (.ListComp elt gens sc cp) (some (.Name x p)) pos.line c.env = pure b := ⟨_, rfl⟩
        cases b with
        | false => exact ex_asg' H hi hb e
        | true =>
          subst a1 a2
          exact cLC_cases (M := fun e0 => stepEv T r' e0 st.r st.h = some (v, h1) → ExX G c ce.names (.Assign [.Name x p] (.ListComp elt gens sc cp) pos) st .next ⟨st.b, h1, st.r.set i (some v)⟩) (fun e => nsome e)
            (fun t it ifs tt ini hg q1 q2 q3 e₂ => by subst hg; exact ex_asgL H hi H2 hb q1 q2 q3 e₂) e2
      · obtain ⟨b, hb⟩ : ∃ b, swapsWith (.DictComp kk vv gens sc cp) (some (.Name x p)) pos.line c.env = pure b := ⟨_, rfl⟩
        cases b with
        | false => exact ex_asg' H hi hb e
        | true =>
          subst a1 a2
          exact cDC_cases (M := fun e0 => stepEv T r' e0 st.r st.h = some (v, h1) → ExX G c ce.names (.Assign [.Name x p] (.DictComp kk vv gens sc cp) pos) st .next ⟨st.b, h1, st.r.set i (some v)⟩) (fun e => nsome e)
            (fun y q it ifs tt ini hg q1 q2 q3 e₂ => by subst hg; exact ex_asgD H hi H2 hb q1 q2 q3 e₂) e2

theorem last_name {P : PySem.Expr → Prop} {x : PySem.Expr} {i : Nat} (e : lastName ce x = some i) (k : ∀ y p, reserved y = false → slotAt y ce.names 0 = some i → P (.Name y p)) : P x := by
  cases x
  case Name y p => exact iF (b := (atPos p ce.mvs && !reserved y) = true) e (fun hc e => k y p ((Bool.not_eq_true' _).mp (Bool.and_eq_true_iff.mp hc).2) e) fun _ e => nsome e
  all_goals exact nsome e
theorem slot_name (H : Hyp G T r n c ce) {y : Str} {p : Pos} {i : Nat} (hr : reserved y = false) (hs : slotAt y ce.names 0 = some i) (hv : ρ[i]? = some (some v)) : EvX G c ce.names (.Name y p) ρ h v h := by
  intro g s S Vs
  obtain ⟨kk, h1, h2⟩ := H.Ck.look y i hs
  obtain ⟨u, h3, h4⟩ := Vs i y kk _ h1 h2 hv
  exact ev_name H.ok S h3 hr h4

theorem last_of {P : Prop} {m : Nat} (hc : (Nat.ble st.b m && Nat.beq (m + 1) st.h.length && undH m m st.h) = true) (k : st.b ≤ m → m + 1 = st.h.length → undH m m st.h = true → P) : P := by
  have hc1 := Bool.and_eq_true_iff.mp hc
  have hc2 := Bool.and_eq_true_iff.mp hc1.1
  exact k (Nat.le_of_ble_eq_true hc2.1) (Nat.eq_of_beq_eq_true hc2.2) hc1.2
theorem leB.cut {b m : Nat} {as : List Addr} {Z bl : Led} {mu : List Led} (x : leB b g ⟨as, Z, mu⟩) (hb : b ≤ m) (mu' : List Led) : leB b g ⟨as.take m, bl ++ Z, mu'⟩ :=
  ⟨pre_take x.as (by rw [List.length_take]; exact Nat.le_trans (Nat.min_le_left _ _) hb), fun p hp => List.mem_append_right _ (x.Z p hp)⟩
theorem ex_retM (H : HypX G T r n c ce) {x : PySem.Expr} {pos : Pos} {i : Nat} (hi : lastName ce x = some i) (e : stepEx r (.retM i) st = some (fl, st')) : ExX G c ce.names (.Return (some x) pos) st fl st' := by
  refine last_name (P := fun x => ExX G c ce.names (.Return (some x) pos) st fl st') hi fun y p hr hs => ?_
  refine wG e (fun m hv e => iF e (fun hc e => last_of hc fun hbm hml hu => ?_) fun _ e => nsome e) fun e => nsome e
  have go : ∀ o v', st.h[m]? = some o → fl = .ret v' → st' = ⟨st.b, st.h.take m, (st.r.set i none).map (poison m)⟩ →
      (∀ a b Z as as', OR (prog := G.prog) (w := G.w) G.cg (Kn c.hb Z) as o a b → VR G.prog G.w (Kn c.hb (b ++ Z)) as' v' (.ref a)) → ExX G c ce.names (.Return (some (.Name y p)) pos) st fl st' := fun o v' ho a1 a2 kv => by
    subst a1 a2
    refine ⟨rfl, fun X g s S Vs hb E Q q => wpAny_Return_some (slot_name (H.H.fx X) hr hs hv g s S Vs E _ fun u s₁ g₁ S₁ l₁ q₁ p₁ => ?_)⟩
    obtain ⟨a, b, h1, h2, S₂⟩ := S₁.takeLast hml hu ho
    refine p₁.on fun a' ha => ?_
    cases Option.some.inj (h1.symm.trans ha)
    exact q _ s₁ _ X S₂ (leB.cut (l₁.leB _) hbm _) q₁ (.ret (kv a b g₁.Z _ _ h2)) fun z => nomatch z
  cases hl : st.h[m]? with
  | none => rw [hl] at e; exact nsome e
  | some o =>
    rw [hl] at e
    cases o
    case list l => exact inj2 e fun a1 a2 => go _ _ hl a1 a2 fun a b Z as as' r => r.on fun vs n rd => .d (.list (.inr (List.mem_append_left _ (.head _))) rfl rfl (rd.mono (Kn.mono fun _ q => List.mem_append_right _ q)))
    case idict l => exact inj2 e fun a1 a2 => go _ _ hl a1 a2 fun a b Z as as' r => r.on fun o kvs z0 z1 z2 => .idict (.inr (List.mem_append_left _ (.head _))) z0 z1 (z2.mono fun _ _ q => q.mono (Kn.mono fun _ q => List.mem_append_right _ q))
    all_goals exact nsome e
end Mine
end
section
open PySem PySem.W PyProof.Rows PySem.Calls PySem.SeqAt
namespace Mine
variable {G : Gl} {α β : Type} {c : Cx} {g : Gh} {s : Shared} {h h' h₁ h₂ : List O}
variable {T : Tab} {r : Rec} {n k : Nat} {ce : CE} {ρ ρ' : Rho} {v : V} {st st' : St} {fl : Fl} {sc : Scope}

theorem takeM_on {P : Prop} {i : Nat} {l : PyData} (e : takeM i st = some (l, st')) (k : ∀ m xs, st.r[i]? = some (some (.loc m)) → st.b ≤ m → m + 1 = st.h.length → undH m m st.h = true → st.h[m]? = some (.list xs) → l = .list xs → st' = ⟨st.b, st.h.take m, (st.r.set i none).map (poison m)⟩ → P) : P :=
  wG e (fun m hv e => iF e (fun hc e => last_of hc fun hbm hml hu => wC e (fun xs hx e => inj2 e fun a1 a2 => k m xs hv hbm hml hu hx a1 a2) fun e => nsome e) fun _ e => nsome e) fun e => nsome e
theorem lastPair_on {P : PySem.Expr → Prop} {x y : PySem.Expr} {i : Nat} (e : lastPair ce x = some (i, y)) (k : ∀ a lp, plainArg y = true → lastName ce a = some i → P (.List [a, y] lp)) : P x := by
  cases x
  case List l lp =>
    cases l with
    | nil => exact nsome e
    | cons a l =>
      cases l with
      | nil => exact nsome e
      | cons b l =>
        cases l with
        | cons _ _ => exact nsome e
        | nil => exact iF (b := plainArg b = true) e (fun hp e => sH e (fun j hj e => inj2 e fun a1 a2 => by subst a1 a2; exact k a lp hp hj) fun _ e => nsome e) fun _ e => nsome e
  all_goals exact nsome e
theorem ex_asgSM (H : HypX G T r n c ce) {o ix value : PySem.Expr} {p pos : Pos} {i : Nat} {y : PySem.Expr} (hs : notSlice ix = true) (hl : lastPair ce value = some (i, y)) (e : stepEx r (.asgSM (cE k ce o) (cE k ce ix) i (cE k ce y)) st = some (fl, st')) :
    ExX G c ce.names (.Assign [.Subscript o ix p] value pos) st fl st' := by
  refine lastPair_on (P := fun value => ExX G c ce.names (.Assign [.Subscript o ix p] value pos) st fl st') hl fun na lp hpl hna => last_name (P := fun na => ExX G c ce.names (.Assign [.Subscript o ix p] (.List [na, y] lp) pos) st fl st') hna fun x xp hr hsl => ?_
  refine wA e (fun yd h1 e1 e => sU e (fun _ e => nsome e) fun l st₁ e2 e => takeM_on e2 fun m xs hv hbm hml hu hx a1 a2 => ?_) fun e => nsome e
  subst a1 a2
  refine sA e (fun _ e => nsome e) fun xo h3 e3 e => sA e (fun _ e => nsome e) fun xk h4 e4 e => sJ e (fun h5 e5 e => inj2 e fun a1 a2 => ?_) fun _ e => nsome e
  subst a1 a2
  refine ⟨rfl, fun X g s S Vs hb E Q q => ?_⟩
  refine assign_plain rfl swaps_sub ?_
  have xs1 : EvXs G (c.fx X) ce.names st.r [.Name x xp, y] st.h [.loc m, .d yd] h1 := .cons _ _ _ _ _ _ _ (slot_name (H.H.fx X) hr hsl hv) (.cons _ _ _ _ _ _ _ (H.evx X e1) (.nil _))
  refine List_ (ev_spliced xs1 (show (plainArg (.Name x xp) && (plainArg y && true)) = true by rw [hpl]; rfl) S Vs E _ fun us s₁ g₁ S₁ l₁ q₁ p₁ => ?_)
  obtain ⟨a', b, h1', h2', S₂⟩ := S₁.takeLast hml hu hx
  refine p₁.on fun ua us pa p₁ => p₁.on fun ub us pb p₁ => p₁.on ?_
  refine pa.on fun a ha => ?_
  cases Option.some.inj (h1'.symm.trans ha)
  refine newList_N S₂.fr S₂.news (fun hh F' N' => ?_) (by rw [sizeLine_eq]; exact Nat.le_of_ble_eq_true rfl)
  let ob : Obj := { cls := .type "list", data := .seq [Value.ref a', ub].toArray }
  have S₃ := Sim.freeze (s := s₁) S₂ F' N' S₂.lt
  let g₃ : Gh := ⟨g₁.as.take m, (s₁.heap.objs.size, ob) :: (b ++ g₁.Z), g₁.mu.take m⟩
  have l13 : leB st.b g₁ g₃ := ⟨pre_take (List.take_prefix _ _) (by rw [List.length_take]; exact Nat.le_trans (Nat.min_le_left _ _) hbm), fun p hp => .tail _ (List.mem_append_right _ hp)⟩
  have kn3 : ∀ a o, kn c g₁ a o → kn c g₃ a o := Kn.mono fun p hp => .tail _ (List.mem_append_right _ hp)
  have rl : VV G (c.fx X) g₃ (.d (.list [.list xs, yd])) (.ref s₁.heap.objs.size) := by
    have r1 : RD (kn c g₃) (.list xs) (.ref a') := h2'.on (P := fun b => RD (Kn c.hb ((s₁.heap.objs.size, ob) :: (b ++ g₁.Z))) (.list xs) (.ref a')) fun vs n rd => .list (.inr (.tail _ (List.mem_append_left _ (.head _)))) rfl rfl (rd.mono (Kn.mono fun p hp => .tail _ (List.mem_append_right _ hp)))
    exact .d (.list (vs := [Value.ref a', ub].toArray) (.inr (.head _)) rfl rfl (.cons r1 (.cons (pb.onD.mono kn3) .nil)))
  have Vs₃ : Vars G (c.fx X) g₃ ce.names ((st.r.set i none).map (poison m)) := by
    have z : Vars G (c.fx X) (g₁.cut m) ce.names ((st.r.set i none).map (poison m)) := Vars.cut m ((Vs.le l₁).unset i)
    exact Vars.le (g := g₁.cut m) (g' := g₃) ⟨List.prefix_refl _, fun p (hp : p ∈ g₁.Z) => List.Mem.tail _ (List.mem_append_right _ hp)⟩ z
  obtain ⟨lst, eq⟩ : ∃ l : Value → Value → List Value, assign (.Subscript o ix p) c.env (.ref s₁.heap.objs.size) = (do
      let ov ← holding [.ref s₁.heap.objs.size] (eval o c.env)
      let iv ← holding [.ref s₁.heap.objs.size, ov] (eval ix c.env)
      standAt p
      holding [.ref s₁.heap.objs.size, ov, iv] (setItem ov iv (.ref s₁.heap.objs.size))
      release (l ov iv) []) := ⟨_, rfl⟩
  rw [eq]
  refine wpAny_bind (wpAny_holding ((H.evx X e3) g₃ { s₁ with heap := hh } S₃ Vs₃ E _ fun w s₄ g₄ S₄ l₄ q₄ p₄ => ?_))
  refine wpAny_bind (wpAny_holding ((H.evx X e4) g₄ s₄ S₄ (Vs₃.le l₄) E _ fun z s₅ g₅ S₅ l₅ q₅ p₅ => ?_))
  refine wpAny_bind (wpAny_standAt (wpAny_bind (wpAny_holding (setS_ok (H.H.fx X).ok S₅ (VV.le l₅ p₄) p₅ (VV.le (l₄.trans l₅) rl) e5 E _ fun _ s₆ g₆ S₆ l₆ q₆ _ => ?_))))
  refine wpAny_release' ?_
  have lz := (l₄.trans l₅).trans l₆
  refine q .next s₆ g₆ X S₆ (((l₁.leB _).trans l13).trans (lz.leB _)) ?_ .next fun _ => Vs₃.le lz
  exact ⟨q₆.os.trans (q₅.os.trans (q₄.os.trans q₁.os)), q₆.gens.trans (q₅.gens.trans (q₄.gens.trans q₁.gens))⟩
end Mine
end
section
open PySem PySem.W PyProof.Rows PySem.Calls PySem.SeqAt
namespace Mine
variable {G : Gl} {α β : Type} {c : Cx} {g : Gh} {s : Shared} {h h' h₁ h₂ : List O}
variable {T : Tab} {r : Rec} {n k : Nat} {ce : CE} {ρ ρ' : Rho} {v : V} {st st' : St} {fl : Fl} {sc : Scope}

theorem beqNat {a b : Nat} : (a == b) = Nat.beq a b := by
  cases h : Nat.beq a b with
  | true => rw [Nat.eq_of_beq_eq_true h]; exact beq_self_eq_true b
  | false => exact beq_false_of_ne fun e => by subst e; exact ftrue (h.symm.trans (Nat.beq_refl a))
theorem swap_names {line : Nat} {env : Env} (hl : ∀ x, isLocal x ce.names = true → env.kindOf x = some .local) : ∀ {ts : List PySem.Expr} {names : List Str}, mapO (swapName ce line) ts = some names →
    ts.filterMap (fun | .Name id pos => if env.kindOf id == some .local && pos.line == line then some id else none | _ => none) = names ∧ names.length = ts.length
  | [], names, e => by rw [mapO_nil e]; exact ⟨rfl, rfl⟩
  | t :: ts, names, e => by
    obtain ⟨y, l, h1, h2, h3⟩ := mapO_cons e
    subst h3
    obtain ⟨a, b⟩ := swap_names hl h2
    cases t
    case Name x p =>
      refine iFn (b := (isLocal x ce.names && Nat.beq p.line line) = true) h1 fun hc h1 => ?_
      subst h1
      have hc' := Bool.and_eq_true_iff.mp hc
      have : (env.kindOf y == some NameKind.local && p.line == line) = true := by rw [hl y hc'.1, beqNat, hc'.2]; rfl
      refine ⟨?_, congrArg Nat.succ b⟩
      rw [List.filterMap_cons_some (b := y), a]
      exact if_pos this
    all_goals exact nsome h1
theorem nodup_erase : ∀ {l : List Str}, l.Nodup → l.eraseDups = l
  | [], _ => rfl
  | x :: l, nd => by
    have nd := List.nodup_cons.mp nd
    rw [List.eraseDups_cons, show l.filter (fun b => !b == x) = l from List.filter_eq_self.mpr fun y hy => (Bool.not_eq_true' _).mpr (beq_false_of_ne fun e => nd.1 (e ▸ hy)), nodup_erase nd.2]
theorem swapped_some {ts vs : List PySem.Expr} {names : List Str} {i j : Nat} {p tp : Pos} {env : Env} (hk : env.blockKind = .function) (hl : ∀ x, isLocal x ce.names = true → env.kindOf x = some .local) (hp : vs.all plainArg = true) (hs : swapNames ce ts vs = some names) :
    swappedStores [.Tuple ts j tp] (.Tuple vs i p) env = pure (some names) := by
  refine iF (b := ((Nat.beq ts.length 2 || Nat.beq ts.length 3) && (Nat.beq vs.length ts.length && (!vs.all (foldedForSure 8) && !vs.all (constantsAlone 8)))) = true) hs (fun hc hs => ?_) fun _ e => nsome e
  cases hm : mapO (swapName ce ((ts.head?.map (·.pos.line)).getD 0)) ts with
  | none => rw [hm] at hs; exact nsome hs
  | some nm =>
    rw [hm] at hs
    refine iFn hs fun hd e => ?_
    subst e
    obtain ⟨h1, hc⟩ := Bool.and_eq_true_iff.mp hc
    obtain ⟨h2, hc⟩ := Bool.and_eq_true_iff.mp hc
    obtain ⟨h3, h4⟩ := Bool.and_eq_true_iff.mp hc
    obtain ⟨a, b⟩ := swap_names hl hm
    have star : (vs.any fun | .Starred .. => true | _ => false) = false := by
      rw [List.any_eq_false]
      intro x hx
      have := List.all_eq_true.mp hp x hx
      cases x
      case Starred => exact ftrue this
      all_goals exact Bool.false_ne_true
    have c1 : (!(ts.length == 2 || ts.length == 3) || vs.length != ts.length || env.blockKind != .function) = false := by
      rw [hk, beqNat, beqNat, h1, Nat.eq_of_beq_eq_true h2, bne_self_eq_false]; rfl
    have c2 : (names.length != ts.length || names.eraseDups.length != names.length) = false := by
      rw [nodup_erase (distS_nd hd), b, bne_self_eq_false]; rfl
    unfold swappedStores
    dsimp only
    rw [c1, if_neg Bool.false_ne_true]
    refine (if_neg (fun hh => ftrue (star.symm.trans hh))).trans ((if_neg (fun hh => ?_)).trans ((if_neg ?_).trans ((if_neg ?_).trans ?_)))
    · have : (names.length != ts.length || names.eraseDups.length != names.length) = true := by rw [← a]; exact hh
      exact ftrue (c2.symm.trans this)
    · rw [(Bool.not_eq_true' _).mp h3]; exact Bool.false_ne_true
    · rw [(Bool.not_eq_true' _).mp h4]; exact Bool.false_ne_true
    · exact congrArg (fun z => (pure (some z) : Sem (Option (List Str)))) a
theorem swapped_none {ts vs : List PySem.Expr} {i j : Nat} {p tp : Pos} {env : Env} (hs : noSwap ts vs = true) : swappedStores [.Tuple ts j tp] (.Tuple vs i p) env = pure none := by
  unfold swappedStores
  dsimp only
  rcases Bool.or_eq_true_iff.mp hs with z | z
  · exact if_pos (by rw [beqNat, beqNat, z]; rfl)
  · exact ifM (M := fun x => x = pure none) (fun _ => rfl) (ifM (M := fun x => x = pure none) (fun _ => rfl) (ifM (M := fun x => x = pure none) (fun _ => rfl) (if_pos z)))
end Mine
end
section
open PySem PySem.W PyProof.Rows PySem.Calls PySem.SeqAt
namespace Mine
variable {G : Gl} {α β : Type} {c : Cx} {g : Gh} {s : Shared} {h h' h₁ h₂ : List O}
variable {T : Tab} {r : Rec} {n k : Nat} {ce : CE} {ρ ρ' : Rho} {v : V} {st st' : St} {fl : Fl} {sc : Scope}

theorem cS_zero (x : PySem.Stmt) : cS 0 ce x = .fail := by cases x <;> rfl
theorem slice_fail {i : PySem.Expr} (h : notSlice i = false) : cE k ce i = .fail := by
  cases i
  case Slice a b d p => cases k <;> rfl
  all_goals exact ftrue h.symm
theorem tuple_plain {vs : List PySem.Expr} {i : Nat} {p : Pos} (H : Hyp G T r n c ce) {z : V × List O} (e : r.ev (cE k ce (.Tuple vs i p)) ρ h = some z) : vs.all plainArg = true := by
  cases k with
  | zero => rw [cE_zero, H.IH.fail] at e; exact nsome e
  | succ k => exact ifE (M := fun e0 => r.ev e0 ρ h = some z → vs.all plainArg = true) (fun e => nsome ((H.IH.fail ρ h).symm.trans e)) (fun hp _ => (plain_of hp).1) e
theorem isLocal_kind (Ck : CeOk G ce c) (x : Str) (h : isLocal x ce.names = true) : c.env.kindOf x = some .local := by
  unfold isLocal at h
  cases hk : kindAt x ce.names with
  | none => rw [hk] at h; exact ftrue h
  | some kd =>
    rw [hk] at h
    cases kd
    case «local» => exact Ck.loc x hk
    all_goals exact ftrue h
theorem bk (O : Ok G c) : c.env.blockKind = .function := by unfold Env.blockKind; rw [O.ek]; rfl

theorem unp_ok {rev : Bool} {o : Option (List Nat)} {x : E} {P : Prop} (e : stepEx r (cUnp rev o x) st = some (fl, st')) (k : ∀ is, o = some is → stepEx r (.unp rev is x) st = some (fl, st') → P) : P := by
  cases o with
  | none => exact nsome e
  | some is => exact k is rfl e
theorem ex_asgT (H : HypX G T r n c ce) {ts : List PySem.Expr} {j : Nat} {tp p : Pos} {v : PySem.Expr} (e : stepEx r (cAsgT (cE k ce) ce ts v) st = some (fl, st')) : ExX G c ce.names (.Assign [.Tuple ts j tp] v p) st fl st' := by
  cases v
  case Tuple vs i vp =>
    have pl : ∀ {rev is}, stepEx r (.unp rev is (cE k ce (.Tuple vs i vp))) st = some (fl, st') → vs.all plainArg = true := fun {rev is} e => sB e (fun _ _ e1 _ => tuple_plain H.H e1) fun _ e => nsome e
    replace e : stepEx r (match swapNames ce ts vs with
      | some names => cUnp true (mapO (storeSlot ce) names) (cE k ce (.Tuple vs i vp))
      | none => if noSwap ts vs then cUnp false (mapO (nameSlot ce) ts) (cE k ce (.Tuple vs i vp)) else .fail) st = some (fl, st') := e
    cases hsn : swapNames ce ts vs with
    | some names =>
      rw [hsn] at e
      exact unp_ok e fun is hi e => ex_unpR H hi (swapped_some (bk H.H.ok) (isLocal_kind H.H.Ck) (pl e) hsn) e
    | none =>
      rw [hsn] at e
      cases hns : noSwap ts vs with
      | false => rw [hns] at e; exact nsome e
      | true => rw [hns] at e; exact unp_ok (o := mapO (nameSlot ce) ts) e fun is hi e => ex_unp H hi (swapped_none hns) e
  all_goals exact unp_ok (o := mapO (nameSlot ce) ts) e fun is hi e => ex_unp H hi rfl e
theorem ex_asgI (H : HypX G T r n c ce) {o i v : PySem.Expr} {sp p : Pos} (e : stepEx r (match lastPair ce v with
      | some (j, e) => .asgSM (cE k ce o) (cE k ce i) j (cE k ce e)
      | none => .asgS (cE k ce o) (cE k ce i) (cE k ce v)) st = some (fl, st')) : ExX G c ce.names (.Assign [.Subscript o i sp] v p) st fl st' := by
  cases hl : lastPair ce v with
  | some q =>
    obtain ⟨j, y⟩ := q
    rw [hl] at e
    cases hn : notSlice i with
    | true => exact ex_asgSM H hn hl e
    | false =>
      rw [slice_fail hn] at e
      exact wA e (fun _ _ _ e => sU e (fun _ e => nsome e) fun _ _ _ e => sA e (fun _ e => nsome e) fun _ _ _ e => sA e (fun _ e => nsome e) fun _ _ e1 _ => nsome ((H.H.IH.fail _ _).symm.trans e1)) fun e => nsome e
  | none =>
    rw [hl] at e
    cases hn : notSlice i with
    | true => exact ex_asgS H hn e
    | false =>
      rw [slice_fail hn] at e
      exact sA e (fun _ e => nsome e) fun _ _ _ e => sA e (fun _ e => nsome e) fun _ _ _ e => sA e (fun _ e => nsome e) fun _ _ e1 _ => nsome ((H.H.IH.fail _ _).symm.trans e1)
theorem ex_asgN (H : HypX G T r n c ce) {t v : PySem.Expr} {p : Pos} (e : stepEx r (cAsg (cE k ce) ce t v) st = some (fl, st')) : ExX G c ce.names (.Assign [t] v p) st fl st' := by
  cases t
  case Name x xp =>
    replace e : stepEx r (match storeSlot ce x with | some i => .asg i (cE k ce v) | none => .fail) st = some (fl, st') := e
    cases hs : storeSlot ce x with
    | none => rw [hs] at e; exact nsome e
    | some i => rw [hs] at e; exact ex_asgAll H hs e
  case Attribute o a ap =>
    replace e : stepEx r (if attrName a then .asgA (cE k ce o) a (cE k ce v) else .fail) st = some (fl, st') := e
    cases ha : attrName a with
    | false => rw [ha] at e; exact nsome e
    | true => rw [ha] at e; exact ex_asgA H ha e
  case Subscript o i sp => exact ex_asgI H e
  case Tuple ts j tp => exact ex_asgT H e
  all_goals exact nsome e
theorem ex_fors (H : HypX G T r n c ce) {t it : PySem.Expr} {a : List PySem.Stmt} {p : Pos} (e : stepEx r (cFor (cE k ce) ce t it (a.map (cS k ce))) st = some (fl, st')) : ExX G c ce.names (.For t it a [] p) st fl st' := by
  replace e : stepEx r (match rngArg ce it with
      | some e => (match nameSlot ce t with | some i => .forR i (cE k ce e) (a.map (cS k ce)) | none => .fail)
      | none => (match tgtOf ce t with | some t => .for_ t (cE k ce it) (a.map (cS k ce)) | none => .fail)) st = some (fl, st') := e
  cases hr : rngArg ce it with
  | some arg =>
    rw [hr] at e
    cases hi : nameSlot ce t with
    | none => rw [hi] at e; exact nsome e
    | some i => rw [hi] at e; exact ex_forR H hi hr e
  | none =>
    rw [hr] at e
    cases ht : tgtOf ce t with
    | none => rw [ht] at e; exact nsome e
    | some tg => rw [ht] at e; exact ex_for H ht e
theorem ex_rets (H : HypX G T r n c ce) {v : PySem.Expr} {p : Pos} (e : stepEx r (cRet (cE k ce) ce v) st = some (fl, st')) : ExX G c ce.names (.Return (some v) p) st fl st' := by
  unfold cRet at e
  cases hl : lastName ce v with
  | some i => rw [hl] at e; exact ex_retM H hl e
  | none => rw [hl] at e; exact ex_ret H e
theorem exAll (H : HypX G T r n c ce) {k : Nat} {x : PySem.Stmt} (e : stepEx r (cS k ce x) st = some (fl, st')) : ExX G c ce.names x st fl st' := by
  cases k with
  | zero => rw [cS_zero] at e; exact nsome e
  | succ k =>
    cases x
    case Expr v p =>
      replace e : stepEx r (if notComp v then .expr (cE k ce v) else .fail) st = some (fl, st') := e
      cases hc : notComp v with
      | false => rw [hc] at e; exact nsome e
      | true => rw [hc] at e; exact ex_expr H hc e
    case If t a b p => exact ex_ite H e
    case While t a o p =>
      cases o with
      | nil => exact ex_while H e
      | cons _ _ => exact nsome e
    case For t it a o p =>
      cases o with
      | cons _ _ => exact nsome e
      | nil => exact ex_fors H e
    case Return v p =>
      cases v with
      | none => exact nsome e
      | some v => exact ex_rets H e
    case Assign ts v p =>
      cases ts with
      | nil => exact nsome e
      | cons t ts =>
        cases ts with
        | cons _ _ => exact nsome e
        | nil => exact ex_asgN H e
    all_goals exact nsome e
end Mine
end
section
open PySem PySem.W PyProof.Rows PySem.Calls PySem.SeqAt
set_option linter.unusedSimpArgs false
namespace Mine

noncomputable def addB : List (Str × Value) → List (Str × Value) → List (Str × Value)
  | slots, [] => slots
  | slots, (n, d) :: r => addB (if (slots.lookup n).isNone then slots ++ [(n, d)] else slots) r
theorem lookup_app {l k : List (Str × Value)} {x : Str} : (l ++ k).lookup x = (l.lookup x).or (k.lookup x) := by
  induction l with
  | nil => rfl
  | cons p l ih =>
    rw [List.cons_append, List.lookup_cons, List.lookup_cons]
    cases x == p.1 with
    | true => rfl
    | false => exact ih
theorem addB_lookup {x : Str} : ∀ {l slots : List (Str × Value)}, (addB slots l).lookup x = (slots.lookup x).or (l.lookup x)
  | [], slots => Option.or_none.symm
  | (n, d) :: r, slots => by
    unfold addB
    rw [addB_lookup]
    cases hx : x == n with
    | true =>
      have hx := eq_of_beq hx
      subst hx
      rw [List.lookup_cons_self]
      cases hq : slots.lookup x with
      | none => rw [if_pos (show (none : Option Value).isNone = true from rfl), lookup_app, hq, List.lookup_cons_self]; rfl
      | some v => rw [if_neg (show ¬ (some v).isNone = true from Bool.false_ne_true), hq]; rfl
    | false =>
      rw [lookup_miss hx]
      refine ifM (M := fun l : List (Str × Value) => (l.lookup x).or (r.lookup x) = (slots.lookup x).or (r.lookup x)) (fun _ => ?_) rfl
      rw [lookup_app, lookup_miss hx]
      exact congrArg (Option.or · _) Option.or_none
theorem not_zip {x : Str} {names : List Str} {us : List Value} (h : x ∉ names) : x ∉ (names.zip us).map (·.1) := fun hm => (List.mem_map.mp hm).elim fun p hp => h (hp.2 ▸ (List.of_mem_zip hp.1).1)
theorem zip_ind {x : Str} {u : Value} {P : List (Str × Value) → Prop} (h0 : ∀ l, x ∉ l.map (·.1) → P ((x, u) :: l)) (h1 : ∀ n v l, x ≠ n → P l → P ((n, v) :: l)) : ∀ {names : List Str} {us : List Value} {i : Nat}, names.Nodup → names[i]? = some x → us[i]? = some u → P (names.zip us)
  | [], _, _, _, h, _ => nsome h
  | n :: names, [], _, _, _, h => nsome h
  | n :: names, v :: us, 0, nd, e1, e2 => by
    cases Option.some.inj e1
    cases Option.some.inj e2
    exact h0 _ (not_zip (List.nodup_cons.mp nd).1)
  | n :: names, v :: us, i + 1, nd, e1, e2 => h1 n v _ (fun e => (List.nodup_cons.mp nd).1 (e ▸ List.mem_of_getElem? (i := i) e1)) (zip_ind h0 h1 (i := i) (List.nodup_cons.mp nd).2 e1 e2)
theorem zip_lookup {names : List Str} {us : List Value} {i : Nat} {x : Str} {u : Value} : names.Nodup → names[i]? = some x → us[i]? = some u → (names.zip us).lookup x = some u :=
  zip_ind (P := fun l => l.lookup x = some u) (fun _ _ => List.lookup_cons_self) fun _ _ _ hn ih => (lookup_miss (beq_false_of_ne hn)).trans ih
theorem zip_lookup_none : ∀ {names : List Str} {us : List Value} {i : Nat} {x : Str}, names.Nodup → names[i]? = some x → us.length ≤ i → (names.zip us).lookup x = none
  | [], _, _, _, _, _, _ => rfl
  | n :: names, [], _, _, _, _, _ => rfl
  | n :: names, v :: us, 0, x, _, _, h => absurd h (Nat.not_succ_le_zero _)
  | n :: names, v :: us, i + 1, x, nd, h1, h2 => (lookup_miss (beq_false_of_ne (a := x) (b := n) fun e => (List.nodup_cons.mp nd).1 (e ▸ List.mem_of_getElem? (i := i) h1))).trans (zip_lookup_none (i := i) (List.nodup_cons.mp nd).2 h1 (Nat.le_of_succ_le_succ h2))
theorem filterMap_zip {lk : Str → Option Value} : ∀ {names : List Str} {vals : List Value}, names.length = vals.length → (∀ (i : Nat) (x : Str) (v : Value), names[i]? = some x → vals[i]? = some v → lk x = some v) → names.filterMap (fun n => (lk n).map (n, ·)) = names.zip vals
  | [], _, _, _ => rfl
  | n :: names, [], h, _ => absurd h (Nat.succ_ne_zero _)
  | n :: names, v :: vals, h, k => by
    exact (List.filterMap_cons_some (f := fun n => (lk n).map (n, ·)) (b := (n, v)) (congrArg (Option.map (n, ·)) (k 0 n v rfl rfl))).trans (congrArg ((n, v) :: ·) (filterMap_zip (Nat.succ.inj h) fun i x v h1 h2 => k (i + 1) x v h1 h2))
theorem forIn_addB : ∀ (l slots : List (Str × Value)), (forIn (m := Sem) l slots fun x r => if (r.lookup x.1).isNone = true then pure (ForInStep.yield (r ++ [(x.1, x.2)])) else pure (ForInStep.yield r)) = pure (addB slots l)
  | [], _ => rfl
  | (n, d) :: l, slots => by
    rw [List.forIn_cons]
    unfold addB
    by_cases h : (slots.lookup n).isNone = true
    · rw [if_pos h, if_pos h]; exact forIn_addB l _
    · rw [if_neg h, if_neg h]; exact forIn_addB l _

structure PosArgs (p : Arguments) : Prop where
  po : p.posonlyargs = []
  kw : p.kwonlyargs = []
  va : p.vararg = none
  ka : p.kwarg = none
theorem at_dfl {n u d i : Nat} (h1 : u ≤ n) (h2 : n - u ≤ d) (hd : d ≤ n) (hi : u ≤ i) : d - (n - u) + (i - u) = i - (n - d) := by
  obtain ⟨e, rfl⟩ := Nat.le.dest hd
  obtain ⟨w, rfl⟩ := Nat.le.dest (Nat.le_of_add_le_add_left (Nat.sub_le_iff_le_add.mp h2) : e ≤ u)
  obtain ⟨t, rfl⟩ := Nat.le.dest hi
  have hw : w ≤ d := Nat.le_of_add_le_add_left (Nat.add_comm d e ▸ h1)
  rw [Nat.add_sub_cancel_left, Nat.add_sub_cancel_left, Nat.add_assoc, Nat.add_sub_cancel_left, Nat.add_comm d e, Nat.add_sub_add_left, Nat.sub_sub_self hw]
theorem to_dfl {n u d : Nat} (h2 : n - u ≤ d) : n - d ≤ u := Nat.sub_le_iff_le_add.mpr (Nat.add_comm d u ▸ Nat.sub_le_iff_le_add.mp h2)
theorem missing_nil {names : List Str} {us : List Value} {k : Nat} (nd : names.Nodup) (hk : k ≤ us.length) : (List.filter (fun n => (List.lookup n (names.zip us)).isNone) (names.take k)) = [] := by
  rw [List.filter_eq_nil_iff]
  intro x hx
  obtain ⟨i, hi, e⟩ := List.mem_iff_getElem.mp hx
  have h1 := take_on (List.getElem?_eq_some_iff.mpr ⟨hi, e⟩)
  rw [zip_lookup nd h1.2 (List.getElem?_eq_getElem (Nat.lt_of_lt_of_le h1.1 hk))]
  exact Bool.false_ne_true
theorem bound_all {names : List Str} {us ds : List Value} (h1 : us.length ≤ names.length) (hd : ds.length ≤ names.length) (h2 : names.length - us.length ≤ ds.length) (nd : names.Nodup) :
    names.filterMap (fun n => ((addB (names.zip us) ((names.drop (names.length - ds.length)).zip ds)).lookup n).map (n, ·)) = names.zip (us ++ ds.drop (ds.length - (names.length - us.length))) := by
  refine filterMap_zip ?_ fun i x v g1 g2 => addB_lookup.trans ?_
  · rw [List.length_append, List.length_drop, Nat.sub_sub_self h2, Nat.add_sub_of_le h1]
  · by_cases hi : i < us.length
    · rw [List.getElem?_append_left hi] at g2
      rw [zip_lookup nd g1 g2]; rfl
    · have hi := Nat.le_of_not_lt hi
      rw [List.getElem?_append_right hi, List.getElem?_drop, at_dfl h1 h2 hd hi] at g2
      rw [zip_lookup_none nd g1 hi, Option.none_or]
      refine zip_lookup (i := i - (names.length - ds.length)) (nd.sublist (List.drop_sublist _ _)) ?_ g2
      rw [List.getElem?_drop, Nat.add_sub_of_le (Nat.le_trans (to_dfl h2) hi)]; exact g1
theorem bind_pos {fd : FuncData} {us ds : List Value} {names : List Str} {s : Shared} (P : PosArgs fd.params) (hn : fd.params.args.map (·.arg) = names) (h1 : us.length ≤ names.length) (hd : ds.length ≤ names.length)
    (h2 : names.length - us.length ≤ ds.length) (nd : names.Nodup)
    (hs : ∀ (M : Model) (A : Around) (E : Value → Shared → Prop) (Q : Option (Array Value) → Shared → Prop), (∀ d, (d.getD #[]).toList = ds → Q d s) → wpAny M A (seqItems? fd.defaults) Q E s) :
    BindsTo s fd ⟨us, []⟩ (names.zip (us ++ ds.drop (ds.length - (names.length - us.length)))) := by
  intro M A E Q hq
  obtain ⟨name, qual, params, body, scope, globals, closure, defaults, kwdefaults, doc, pyModule, annotations, code, closureTuple, builtins⟩ := fd
  obtain ⟨po, args, va, kwo, kwd, ka, dfl⟩ := params
  obtain ⟨p1, p2, p3, p4⟩ := P
  dsimp only at p1 p2 p3 p4 hn hs
  subst p1 p2 p3 p4 hn
  unfold PySem.bindArgs
  refine wpAny_bind (wpAny_pure (wpAny_bind (hs _ _ _ _ fun d hd' => ?_)))
  rw [show (([] : List Arg).map (·.arg) ++ args.map (·.arg)) = args.map (·.arg) from rfl]
  rw [if_neg fun z => Nat.not_lt.mpr h1 (of_decide_eq_true (Bool.and_eq_true_iff.mp z).1), hd', Nat.sub_eq_zero_of_le hd, List.drop_zero]
  dsimp only
  rw [missing_nil nd (to_dfl h2), if_neg (show ¬ (!([] : List Str).isEmpty) = true from Bool.false_ne_true)]
  refine wpAny_bind (wpAny_of_eq (forIn_addB (((args.map (·.arg)).drop ((args.map (·.arg)).length - ds.length)).zip ds) ((args.map (·.arg)).zip us)) (wpAny_bind (wpAny_pure ?_)))
  dsimp only
  rw [if_neg (show ¬ (!([] : List Str).isEmpty) = true from Bool.false_ne_true)]
  refine wpAny_pure ?_
  rw [show (args.map (·.arg) ++ ([] : List Arg).map (·.arg)) = args.map (·.arg) from List.append_nil _, bound_all h1 hd h2 nd]
  exact hq

/-! what a binding of names makes of locals and cells -/
theorem bindL_other {kind : Str → Option NameKind} {x : Str} : ∀ {l : List (Str × Value)} {m : Str → Option Value}, x ∉ l.map (·.1) → bindL kind l m x = m x
  | [], _, _ => rfl
  | (n, v) :: r, m, h => by
    unfold bindL
    have h := not_or.mp (fun z => h (List.mem_cons.mpr z))
    rw [bindL_other h.2]
    exact ifM (M := fun f : Str → Option Value => f x = m x) (fun _ => if_neg h.1) rfl
theorem bindL_get {kind : Str → Option NameKind} {x : Str} {u : Value} {names : List Str} {us : List Value} {i : Nat} {m : Str → Option Value} (nd : names.Nodup) (h1 : names[i]? = some x) (h2 : us[i]? = some u) (hk : kind x = some .local) : bindL kind (names.zip us) m x = some u :=
  zip_ind (P := fun l => ∀ m, bindL kind l m x = some u) (fun l hl m => by unfold bindL; rw [bindL_other hl, if_pos hk]; exact if_pos rfl) (fun _ _ _ _ ih m => ih _) nd h1 h2 m
theorem bindC_other {kind : Str → Option NameKind} {x : Str} : ∀ {l : List (Str × Value)} {m : Str → Option Value}, x ∉ l.map (·.1) → bindC kind l m x = m x
  | [], _, _ => rfl
  | (n, v) :: r, m, h => by
    unfold bindC
    have h := not_or.mp (fun z => h (List.mem_cons.mpr z))
    rw [bindC_other h.2]
    exact ifM (M := fun f : Str → Option Value => f x = m x) (fun _ => rfl) (if_neg h.1)
theorem bindC_get {kind : Str → Option NameKind} {x : Str} {u : Value} {names : List Str} {us : List Value} {i : Nat} {m : Str → Option Value} (nd : names.Nodup) (h1 : names[i]? = some x) (h2 : us[i]? = some u) (hk : kind x = some .cell) : bindC kind (names.zip us) m x = some u :=
  zip_ind (P := fun l => ∀ m, bindC kind l m x = some u) (fun l hl m => by unfold bindC; rw [bindC_other hl, if_neg fun z => NameKind.noConfusion (Option.some.inj (hk.symm.trans z))]; exact if_pos rfl) (fun _ _ _ _ ih m => ih _) nd h1 h2 m
theorem pick_get : ∀ {is : List Nat} {vals : List V} {r r' : List (Option V)}, pick vals is r = some r' → vals.length = is.length ∧ r'.length = r.length ∧ ∀ (i : Nat) (v : V), r'[i]? = some (some v) → (∃ j : Nat, is[j]? = some i ∧ vals[j]? = some v) ∨ r[i]? = some (some v)
  | [], [], r, r', e => by cases Option.some.inj e; exact ⟨rfl, rfl, fun i v h => .inr h⟩
  | [], _ :: _, r, r', e => nsome e
  | i :: is, [], r, r', e => nsome e
  | i :: is, v :: vs, r, r', e => by
    obtain ⟨h0, h1, h2⟩ := pick_get (vals := vs) e
    refine ⟨congrArg Nat.succ h0, h1.trans List.length_set, fun j w hw => ?_⟩
    rcases h2 j w hw with ⟨d, k1, k2⟩ | h3
    · exact .inl ⟨d + 1, k1, k2⟩
    · by_cases hij : i = j
      · subst hij
        rw [List.getElem?_set_self'] at h3
        cases hp : r[i]? with
        | none => rw [hp] at h3; exact nsome h3
        | some _ => rw [hp] at h3; exact .inl ⟨0, rfl, Option.some.inj h3⟩
      · rw [List.getElem?_set_ne hij] at h3
        exact .inr h3
end Mine
end
section
open PySem PySem.W PyProof.Rows PySem.Calls PySem.SeqAt
set_option linter.unusedSimpArgs false
namespace Mine
variable {G : Gl} {α β : Type} {c : Cx} {g : Gh} {s : Shared} {h h' h₁ h₂ : List O}
variable {T : Tab} {r : Rec} {n k : Nat} {ce : CE} {ρ ρ' : Rho} {v : V} {st st' : St} {fl : Fl} {sc : Scope}

structure FnParts (G : Gl) (f : Nat) (fn : Fn) (name qual : Str) (params : Arguments) (body : List PySem.Stmt) (scope : Scope) (dV kV doc pm cdv ct oc : Value) (an od : Option Addr) (osl : Array (Option Value)) (ce : CE) (ds : List Value) : Prop where
  at_ : G.K.lookup f = some ⟨oc, od, .func (fnOf name qual params body scope dV kV doc pm an cdv ct), osl⟩
  code : codeIn G.K cdv qual = true
  body : fn.body = body.map (cS 60 ce)
  names : ce.names = scope.names
  ns : fn.ns = scope.names.length
  ps : mapO (fun a : Str => slotAt a scope.names 0) (params.args.map (·.arg)) = some fn.params
  pos : PosArgs params
  nda : (params.args.map (·.arg)).Nodup
  nd : (scope.names.map (·.1)).Nodup
  kinds : ∀ a ∈ params.args.map (·.arg), scope.names.lookup a = some .local ∨ scope.names.lookup a = some .cell
  kind : scope.kind = .function
  co : scope.isCoroutine = false
  gen : scope.isGenerator = false
  cnd : ((cellsFrom 0 scope.names []).map (·.1)).Nodup
  gl : ∀ x gv, ce.gl x = some gv → GvOk G x gv
  dl : fn.dfl.length ≤ fn.params.length
  dv : VRs G.prog G.w (fun a o => G.K.lookup a = some o) [] fn.dfl ds
  df : (dV = .none ∧ ds = []) ∨ ∃ D o items m, dV = .ref D ∧ G.K.lookup D = some o ∧ o.data = .seq items m ∧ ds = items.toList
def FnOk (G : Gl) (f : Nat) (fn : Fn) : Prop := ∃ name qual params body scope dV kV doc pm cdv ct oc an od osl ce ds, FnParts G f fn name qual params body scope dV kV doc pm cdv ct oc an od osl ce ds

theorem cellsFrom_addr {b : Nat} : ∀ {names : List (Str × NameKind)} {m : Nat} {acc : List (Str × Addr)}, (acc.map (·.2)).Nodup → (∀ p ∈ acc, @LT.lt Nat _ p.2 m ∧ @LE.le Nat _ b p.2) → b ≤ m →
    ((cellsFrom m names acc).map (·.2)).Nodup ∧ ∀ p ∈ cellsFrom m names acc, @LE.le Nat _ b p.2
  | [], m, acc, nd, h, hb => by unfold cellsFrom; exact ⟨nd, fun p hp => (h p hp).2⟩
  | (x, kd) :: r, m, acc, nd, h, hb => by
    unfold cellsFrom
    refine ifM (b := (kd == .cell) = true) (M := fun l : List (Str × Addr) => (l.map (·.2)).Nodup ∧ ∀ p ∈ l, @LE.le Nat _ b p.2) (fun _ => ?_) (cellsFrom_addr nd h hb)
    refine cellsFrom_addr ?_ ?_ (Nat.le_succ_of_le hb)
    · refine List.nodup_cons.mpr ⟨fun hm => ?_, nd⟩
      obtain ⟨p, hp, e⟩ := List.mem_map.mp hm
      exact absurd e (Nat.ne_of_lt (h p hp).1)
    · intro p hp
      rcases List.mem_cons.mp hp with e | hp
      · subst e; exact ⟨Nat.lt_succ_self _, hb⟩
      · exact ⟨Nat.lt_succ_of_lt (h p hp).1, (h p hp).2⟩
theorem VRs.dropV {kn : Addr → Obj → Prop} {as : List Addr} : ∀ {l : List V} {us : List Value} (m : Nat), VRs G.prog G.w kn as l us → VRs G.prog G.w kn as (l.drop m) (us.drop m)
  | _, _, 0, a => a
  | [], _, m + 1, a => a.on .nil
  | x :: l, _, m + 1, a => a.on fun _ _ _ q => VRs.dropV m q
theorem mapO_len {α β : Type} {f : α → Option β} : ∀ {l : List α} {is : List β}, mapO f l = some is → l.length = is.length
  | [], is, h => by rw [mapO_nil h]; rfl
  | x :: l, is, h => (mapO_cons h).elim fun y h => h.elim fun k h => by rw [h.2.2]; exact congrArg Nat.succ (mapO_len h.2.1)
theorem mapO_get {α β : Type} {f : α → Option β} : ∀ {l : List α} {is : List β} {j : Nat} {i : β}, mapO f l = some is → is[j]? = some i → ∃ x, l[j]? = some x ∧ f x = some i
  | [], is, j, i, h, hj => by rw [mapO_nil h] at hj; exact nsome hj
  | x :: l, is, j, i, h, hj => by
    obtain ⟨y, k, h1, h2, h3⟩ := mapO_cons h
    subst h3
    cases j with
    | zero => exact ⟨x, rfl, h1.trans hj⟩
    | succ j => exact mapO_get (j := j) h2 hj
theorem run_on {P : Prop} {fn : Fn} {vs : List V} (e : run r fn vs h = some (v, h')) (k : ∀ r₀ fl st, vs.length ≤ fn.params.length → fn.params.length - vs.length ≤ fn.dfl.length → pick (vs ++ fn.dfl.drop (fn.dfl.length - (fn.params.length - vs.length))) fn.params (List.replicate fn.ns none) = some r₀ →
    exs r fn.body ⟨h.length, h, r₀⟩ = some (fl, st) → (fl = .next → back h.length (some (.d .none, st.h)) = some (v, h')) → (∀ w, fl = .ret w → back h.length (some (w, st.h)) = some (v, h')) → P) : P := by
  refine sK e (fun _ e => nsome e) fun r₀ hb e => iF (b := (Nat.ble vs.length fn.params.length && Nat.ble (fn.params.length - vs.length) fn.dfl.length) = true) hb (fun hc hb => ?_) fun _ e => nsome e
  have hc := Bool.and_eq_true_iff.mp hc
  cases hx : exs r fn.body ⟨h.length, h, r₀⟩ with
  | none => rw [hx] at e; exact nsome e
  | some z =>
    rw [hx] at e
    obtain ⟨fl, st⟩ := z
    refine k r₀ fl st (Nat.le_of_ble_eq_true hc.1) (Nat.le_of_ble_eq_true hc.2) hb hx (fun a => ?_) fun w a => ?_
    · subst a; exact e
    · subst a; exact e
theorem back_on {P : Prop} {m : Nat} {w : V} (e : back m (some (w, h)) = some (v, h')) (k1 : w.und m = true → undH m m h = true → v = w → h' = h.take m → P) (k0 : v = w → h' = h → P) : P :=
  iF (b := (w.und m && undH m m h) = true) e (fun hc e => inj2 e (k1 (Bool.and_eq_true_iff.mp hc).1 (Bool.and_eq_true_iff.mp hc).2)) fun _ e => inj2 e k0

theorem fn_call (IH : RecX G T r n) (CK : ∀ C, G.cg C → ClsOk G.K T C) (O : Ok G c) (Rm : Room (n + 1) c.A) {f : Nat} {fn : Fn} (K : FnOk G f fn) {vs : List V} {us : List Value} (e : run r fn vs h = some (v, h')) (S : Sim G c g h s.heap) (rs : VVs G c g vs us) {R : Result → Shared → Prop}
    (q : ∀ u s' g', Sim G c g' h' s'.heap → g.le g' → Same s s' → VV G c g' v u → R (.ok (.ret u)) s') : codeAny (model G.prog G.w) c.A (.call (.ref f) ⟨us, []⟩) R s := by
  obtain ⟨name, qual, params, body, scope, dV, kV, doc, pm, cdv, ct, oc, an, od, osl, ce, ds, P⟩ := K
  obtain ⟨A₀, B⟩ := O.below
  refine run_on e fun r₀ fl st₁ a1 a2 hb₀ hx kn kr => ?_
  have a3 : us.length = vs.length := rs.length
  have a4 : ds.length = fn.dfl.length := P.dv.length
  let names := params.args.map (·.arg)
  have a6 : names.length = fn.params.length := mapO_len P.ps
  let tail := ds.drop (ds.length - (names.length - us.length))
  have hbind : BindsTo s (fnOf name qual params body scope dV kV doc pm an cdv ct) ⟨us, []⟩ (names.zip (us ++ tail)) := by
    refine bind_pos P.pos rfl (a6 ▸ a3 ▸ a1) (a6 ▸ a4 ▸ P.dl) (a6 ▸ a3 ▸ a4 ▸ a2) P.nda ?_
    intro M A E Q hQ
    rcases P.df with ⟨h1, h2⟩ | ⟨D, o, items, m, h1, h2, h3, h4⟩
    · show wpAny M A (seqItems? dV) Q E s
      rw [h1]
      exact wpAny_of_eq (a := none) rfl (hQ none (by rw [h2]; rfl))
    · show wpAny M A (seqItems? dV) Q E s
      rw [h1]
      exact wpAny_seqItems ((O.K.keeps S.fr.keep) _ _ h2) h3 (hQ _ (by rw [h4]; rfl))
  have hkd : ((names.zip (us ++ tail)).all fun y => scope.names.lookup y.1 == some .local || scope.names.lookup y.1 == some .cell) = true := by
    rw [List.all_eq_true]
    intro y hy
    rcases P.kinds y.1 (List.of_mem_zip hy).1 with z | z <;> rw [z] <;> rfl
  let binds := names.zip (us ++ tail)
  have hroom : c.A.depth < recursionLimit := Nat.lt_of_le_of_lt (Nat.le_add_right ..) Rm.1
  refine callX_cells B S.fr S.news O.T.nolimit O.frames O.ff O.fk ((O.K.keeps S.fr.keep) _ _ P.at_) rfl (codeRec_of (O.K.keeps S.fr.keep) P.code) hroom hbind (kindsX hkd) P.cnd (fun gH L' h₁ tk cells FG F' N' Y B' sty lt => ?_) P.co P.gen P.kind
  let env' := envOfC qual scope L' f cdv
  let c' : Cx := { hb := c.hb, base := c.base, outer := c.fenv :: c.outer, h₀ := gH, L := L', m := bindL env'.kindOf binds (fun _ => none), fenv := env', env := env', A := c.A.deeper env', cells := cells, cm := bindC env'.kindOf binds (fun _ => none), pri := c.cells ++ c.pri }
  have led : ∀ (cl : Led) (g₁ : Gh), cl ++ ((c.cells ++ c.pri) ++ (g₁.mu.flatten ++ g₁.Z)) = cl ++ ledOf c g₁ := fun cl g₁ => by unfold ledOf; rw [List.append_assoc]
  have cad := cellsFrom_addr (b := L' + 1) (names := scope.names) (m := L' + 1) (acc := []) List.nodup_nil (fun p hp => nomatch hp) (Nat.le_refl _)
  have S' : Sim G c' g h h₁ := by
    refine ⟨F', fun p hp => N' p ?_, ?_, S.la, S.lm, S.objs⟩
    · have hp' : p ∈ cells ++ ((c.cells ++ c.pri) ++ (g.mu.flatten ++ g.Z)) := hp
      rw [led] at hp'; exact hp'
    · show ((cells ++ ((c.cells ++ c.pri) ++ (g.mu.flatten ++ g.Z))).map (·.1)).Nodup
      rw [led, List.map_append, List.nodup_append]
      refine ⟨by rw [CellsAre.fst Y]; exact cad.1, S.nd, fun a ha b hb => ?_⟩
      rw [CellsAre.fst Y] at ha
      obtain ⟨p, hp, rfl⟩ := List.mem_map.mp ha
      obtain ⟨p', hp', rfl⟩ := List.mem_map.mp hb
      have z1 := cad.2 p hp
      have z2 := lt p' hp'
      exact fun e => absurd (e ▸ z1 : L' + 1 ≤ p'.1) (Nat.not_le.mpr (Nat.lt_succ_of_lt z2))
  have O' : Ok G c' := ⟨O.Kb, fun b o e => sty _ _ (O.stay _ _ e), O.K.keeps sty, O.T.keeps sty, ⟨_, B'⟩, Around.frames_deeper O.frames, rfl, P.kind, O.hh, P.kind, rfl, rfl, Y⟩
  have ck : ∀ x kd, kindAt x ce.names = some kd → env'.kindOf x = some kd := fun x kd hx => by
    rw [P.names, kindAt_lookup] at hx; exact hx
  have Ck' : CeOk G ce c' := by
    refine ⟨P.gl, fun x hx => ?_, fun x i hi => ?_, by rw [P.names]; exact P.nd, fun x hx => ck x _ hx, fun x hx => ⟨ck x _ hx, ?_⟩⟩
    · unfold isGl at hx
      cases hk : kindAt x ce.names with
      | none => rw [hk] at hx; exact ftrue hx
      | some kd =>
        rw [hk] at hx
        cases kd
        case globalImplicit => exact ck x _ hk
        all_goals exact ftrue hx
    · exact (slotAt_get hi).elim fun d h => h.elim fun kd h => ⟨kd, h.1.trans (Nat.zero_add d) ▸ h.2.1, h.2.2.2⟩
    · have z := cellsFrom_some scope.names (L' + 1) [] (.inl (ck x _ hx))
      exact Option.isSome_iff_exists.mp z
  have f' : FOk c' := ⟨rfl, rfl⟩
  have nd' : (c'.fenv.cells.map (·.1)).Nodup := by
    show ((cellsFrom (L' + 1) scope.names []).map (·.1)).Nodup
    rw [cellsFrom_names scope.names (L' + 1) 0 [] [] rfl]; exact P.cnd
  have Rn' : Room n c'.A := ⟨by show c.A.depth + 1 + 2 * n < _; have := Rm.1; omega, by show c.A.units + 3 + 20 * n + 200 < _; have := Rm.2; omega⟩
  have rall : VVs G c g (vs ++ fn.dfl.drop (fn.dfl.length - (fn.params.length - vs.length))) (us ++ tail) := by
    refine VRs.appendV ?_ rs
    have e1 : tail = ds.drop (fn.dfl.length - (fn.params.length - vs.length)) := by show ds.drop _ = _; rw [a4, a6, a3]
    rw [e1]
    exact VRs.dropV _ (VRs.mono (fun a o q => .inl (O.Kb a o q)) List.nil_prefix _ _ P.dv)
  have Vs₀ : Vars G c' g ce.names r₀ := by
    intro i x kd v' h1 h2 h3
    obtain ⟨p1, p2, p3⟩ := pick_get hb₀
    rcases p3 i v' h3 with ⟨j, j1, j2⟩ | bad
    · obtain ⟨y, y1, y2⟩ := mapO_get P.ps j1
      obtain ⟨d, kd', k1, k2, k3, k4⟩ := slotAt_get y2
      rw [Nat.zero_add] at k1; subst k1
      rw [P.names, k2] at h1
      cases congrArg Prod.fst (Option.some.inj h1)
      obtain ⟨u, u1, u2⟩ := VRs.get rall j2
      refine ⟨u, ?_, u2⟩
      rcases P.kinds x (List.mem_of_getElem? y1) with z | z
      · exact .inl ⟨z, rfl, bindL_get P.nda y1 u1 z⟩
      · obtain ⟨a, ha⟩ := Option.isSome_iff_exists.mp (cellsFrom_some scope.names (L' + 1) [] (.inl z))
        obtain ⟨o, o1, o2⟩ := CellsAre.at Y ha
        refine .inr (.inr ⟨z, a, o, ha, o1, ?_⟩)
        rw [o2]; exact congrArg _ (bindC_get P.nda y1 u1 z)
    · rw [List.getElem?_replicate] at bad
      exact iF bad (fun _ e => nsome (Option.some.inj e)) fun _ e => nsome e
  rw [P.body] at hx
  refine (exs_ok IH O' f' nd' Rn' Ck' hx).2 ⟨c'.m, cells, c'.cm, Y⟩ g { s with heap := h₁, toks := tk } S' Vs₀ (Nat.le_refl _) _ _ fun fl' s' g₁ X' S₁ l₁ q₁ p₁ _ => ?_
  have lg : g.le g₁ := by
    have l₁' : leB h.length g g₁ := l₁
    rw [← S.la] at l₁'; exact l₁'.le
  have ls : ledOf (c'.fx X') g₁ = X'.cells ++ ledOf c g₁ := led X'.cells g₁
  refine leaveK_ (news' := ledOf c g₁) S₁.fr (fun p hp => S₁.news p (by rw [ls]; exact List.mem_append_right _ hp)) fun FF NN => ?_
  have nd₁ := S₁.nd
  rw [ls, List.map_append, List.nodup_append] at nd₁
  have S₂ : Sim G c g₁ st₁.h s'.heap := ⟨FF, NN, nd₁.2.1, S₁.la, S₁.lm, S₁.objs⟩
  have sm : Same s s' := ⟨q₁.os, q₁.gens⟩
  have fin : ∀ w uw, VV G c g₁ w uw → back h.length (some (w, st₁.h)) = some (v, h') → R (.ok (.ret uw)) s' := fun w uw rw' eb => back_on eb
    (fun hu1 hu2 a1 a2 => by subst a1 a2; exact q uw s' (g₁.cut h.length) (S₂.cut hu2) ⟨pre_take lg.as (Nat.le_of_eq S.la), lg.Z⟩ sm (VR.cut _ _ hu1 rw'))
    fun a1 a2 => by subst a1 a2; exact q uw s' g₁ S₂ lg sm rw'
  cases fl with
  | next => obtain rfl := p₁.isNext; exact fin _ _ (.d .none) (kn rfl)
  | ret w => obtain ⟨u, rfl, p⟩ := p₁.isRet; exact fin _ _ p (kr w rfl)
end Mine
end
section
open PySem PySem.W PyProof.Rows PySem.Calls PySem.SeqAt
namespace Mine
variable {G : Gl} {T : Tab}

theorem recX (CK : ∀ C, G.cg C → ClsOk G.K T C) (FK : ∀ f fn, findN f T.funs = some fn → FnOk G f fn) : ∀ n, RecX G T (R T n) n
  | 0 => {
      ok := { fail := fun _ _ => rfl, ev := (fun _ _ _ _ _ _ _ _ _ _ _ e => nsome e), call := (fun _ _ _ _ _ _ _ _ e => nsome e) }
      unf := (fun _ _ _ _ e => nsome e)
      sfail := fun _ => rfl
      ex := (fun _ _ _ _ _ _ _ _ _ _ _ _ e => nsome e) }
  | n + 1 => by
    have IH := recX CK FK n
    exact {
      ok := {
        fail := fun _ _ => rfl
        ev := fun c O Rm k ce x ρ h v h' Ck e => evAll ⟨IH.ok, O, Rm, Ck, CK⟩ e
        call := fun c O Rm f vs h v h' e g s us S rs R' q => by
          have e' : (match findN f T.funs with | some fn => run (R T n) fn vs h | none => none) = some (v, h') := e
          cases hf : findN f T.funs with
          | none => rw [hf] at e'; exact nsome e'
          | some fn => rw [hf] at e'; exact fn_call IH CK O Rm (FK _ _ hf) e' S rs q }
      unf := fun e ρ h z hz => ⟨R T n, n, hz, rfl, IH.ok⟩
      sfail := fun _ => rfl
      ex := fun c O f nd Rm k ce x st fl st' Ck e => exAll ⟨⟨IH.ok, O, Rm, Ck, CK⟩, IH, f, nd⟩ e }
end Mine
end
section
open PySem PySem.W PyProof.Rows PySem.Calls PySem.SeqAt
set_option linter.unusedSimpArgs false
namespace Mine

theorem findN_lookup {α : Type} {n : Nat} : ∀ {l : List (Nat × α)}, findN n l = l.lookup n
  | [] => rfl
  | (k, x) :: r => by
    unfold findN
    rw [List.lookup_cons, beqNat]
    cases h : Nat.beq n k with
    | true => rfl
    | false => exact findN_lookup
theorem isTy_eq {s : String} {v : Value} (h : isTy s v = true) : v = .type s := by
  cases v
  case type t => exact congrArg Value.type (of_decide_eq_true h)
  all_goals exact ftrue h
theorem seq_on {P : Prop} {γ : Type} {d : Data} {f : Array Value → Option γ} {v : γ} (e : (match d with | .seq xs _ => f xs | _ => none) = some v) (k : ∀ xs n, d = .seq xs n → f xs = some v → P) : P := by
  cases d
  case seq xs n => exact k xs n rfl e
  all_goals exact nsome e
section
variable {kn : Addr → Obj → Prop}
theorem mapO_RDs {f : Value → Option PyData} (hf : ∀ v d, f v = some d → RD kn d v) : ∀ {xs : List Value} {l : List PyData}, mapO f xs = some l → RDs kn l xs
  | [], l, h => by rw [mapO_nil h]; exact .nil
  | x :: xs, l, h => (mapO_cons h).elim fun y h => h.elim fun k h => by rw [h.2.2]; exact .cons (hf _ _ h.1) (mapO_RDs hf h.2.1)
theorem readT_ok {f : Value → Option PyData} {o : Option Obj} {a : Addr} {d : PyData} (hf : ∀ v d, f v = some d → RD kn d v) (hk : ∀ o', o = some o' → kn a o') (e : readT f o = some d) : RD kn d (.ref a) := by
  cases o with
  | none => exact nsome e
  | some o => exact iF (b := isTy "tuple" o.cls = true) e (fun ht e => seq_on e fun xs n hd e => oA e (fun l hl e => by rw [← Option.some.inj e]; exact .tuple (hk o rfl) (isTy_eq ht) hd (mapO_RDs hf hl)) fun _ e => nsome e) fun _ e => nsome e
theorem readB_ok {f : Nat → Option PyData} (hf : ∀ a d, f a = some d → RD kn d (.ref a)) {v : Value} {d : PyData} (e : readB f v = some d) : RD kn d v := by
  cases v
  case none => exact Option.some.inj e ▸ .none
  case bool b => exact Option.some.inj e ▸ .bool b
  case int i t => exact Option.some.inj e ▸ .int i t
  case str x t => exact Option.some.inj e ▸ .str x t
  case ref a => exact hf a d e
  all_goals exact nsome e
end
theorem readD_ok {K : Frag} : ∀ {n : Nat} {v : Value} {d : PyData}, readD K n v = some d → RD (fun a o => K.lookup a = some o) d v
  | 0, _, _, e => readB_ok (fun _ _ e => nsome e) e
  | n + 1, _, _, e => readB_ok (fun a d e => readT_ok (fun v d e => readD_ok e) (fun o' h => findN_lookup.symm.trans h) e) e

/-! names of the text's own globals -/
noncomputable def okCls : List Nat := [193, 273, 396]
noncomputable def memN (n : Nat) : List Nat → Bool
  | [] => false
  | k :: r => Nat.beq n k || memN n r
noncomputable def gl2S (x : Str) (v : V) : Option GV := match v with
  | .sdict m => if strEq x "BITS" then some (.val (.sdict m)) else none
  | v => some (.val v)
noncomputable def gl2V (x : Str) (g : GV) : Option GV := match g with
  | .cls a => if memN a okCls then some (.cls a) else none
  | .val v => gl2S x v
  | g => some g
noncomputable def gl2 (K : Frag) (x : Str) : Option GV := match glOf K x with
  | some g => gl2V x g
  | none => none
structure GlOk (G : Gl) : Prop where
  cg : ∀ a, memN a okCls = true → G.cg a
  bits : ∀ m, glOf G.K "BITS" = some (.val (.sdict m)) → GvOk G "BITS" (.val (.sdict m))
theorem biOf_on {P : GV → Prop} {x : Str} {gv : GV} (e : biOf x = some gv) (k : ∀ s b, strEq x s = true → bootBuiltins s = some (biVal b) → s ≠ "__name__" → P (.bi b)) (kr : strEq x "range" = true → P .rng) : P gv := by
  unfold biOf at e
  have go : ∀ {s : Str} {b : BI} {o : Option GV}, bootBuiltins s = some (biVal b) → s ≠ "__name__" → (o = some gv → P gv) → (if strEq x s then some (.bi b) else o) = some gv → P gv := fun {s} {b} {o} h1 h2 hn e =>
    iF e (fun h e => Option.some.inj e ▸ k s b h h1 h2) fun _ e => hn e
  refine go (by decide +kernel) (by decide) (go (by decide +kernel) (by decide) (go (by decide +kernel) (by decide) (go (by decide +kernel) (by decide) (go (by decide +kernel) (by decide) (go (by decide +kernel) (by decide) (go (by decide +kernel) (by decide) (go (by decide +kernel) (by decide) fun e => ?_))))))) e
  exact iFn e fun h e => e ▸ kr h
theorem bi_ok {G : Gl} {x : Str} {gv : GV} (hn : nsIn G.K mainGlobals x = some none) (e : biOf x = some gv) : GvOk G x gv :=
  biOf_on e (fun s b h1 h2 h3 => by
    have := (strEq_iff _ _).mp h1
    subst this
    exact ⟨hn, h2, h3⟩) fun h => by
    have := (strEq_iff _ _).mp h
    subst this
    exact ⟨hn, by decide +kernel, by decide⟩
theorem glO_on {P : Prop} {K : Frag} {a : Nat} {o : Option Obj} {gv : GV} (e : glO K a o = some gv) (kf : ∀ o' fd, o = some o' → o'.data = .func fd → gv = .fn a → P) (kc : gv = .cls a → P) (ks : ∀ m, gv = .val (.sdict m) → P) (kd : ∀ d, readD K 3 (.ref a) = some d → gv = .val (.d d) → P) : P := by
  cases o with
  | none => exact nsome e
  | some o =>
    have kd' : glD K a = some gv → P := fun e => sG e (fun d hd e => kd d hd (Option.some.inj e).symm) fun _ e => nsome e
    obtain ⟨oc, od, dt, sl⟩ := o
    cases dt
    case func fd => exact kf _ fd rfl rfl (Option.some.inj e).symm
    case cls cd => exact kc (Option.some.inj e).symm
    case dict es n =>
      refine iF (b := isTy "dict" oc = true) e (fun _ e => ?_) fun _ e => nsome e
      have e : glS K es.toList = some gv := e
      unfold glS at e
      cases hm : readSD K es.toList with
      | none => rw [hm] at e; exact nsome e
      | some m => rw [hm] at e; exact ks m (Option.some.inj e).symm
    all_goals exact kd' e
theorem glOf_on {P : Prop} {K : Frag} {x : Str} {gv : GV} (e : glOf K x = some gv) (kb : nsIn K mainGlobals x = some none → biOf x = some gv → P) (k : ∀ a, nsIn K mainGlobals x = some (some (.ref a)) → glO K a (findN a K) = some gv → P) : P := by
  unfold glOf at e
  cases hx : nsIn K mainGlobals x with
  | none => rw [hx] at e; exact nsome e
  | some o =>
    rw [hx] at e
    cases o with
    | none => exact kb hx e
    | some v =>
      cases v
      case ref a => exact k a hx e
      all_goals exact nsome e
theorem gl2_main {G : Gl} {x : Str} {gv : GV} (e : glOf G.K x = some gv) (n1 : ∀ a, gv ≠ .cls a) (n2 : ∀ m, gv ≠ .val (.sdict m)) : GvOk G x gv :=
  glOf_on e bi_ok fun a hx e => glO_on e (fun o fd ho hd e => by
      subst e
      refine ⟨hx, ?_⟩
      unfold keepIn
      obtain ⟨oc, od, dt, sl⟩ := o
      have hd : dt = .func fd := hd
      subst hd
      dsimp only
      rw [show G.K.lookup a = some _ from findN_lookup.symm.trans ho]) (fun e => absurd e (n1 a)) (fun m e => absurd e (n2 m)) fun d hd e => by
      subst e
      exact ⟨_, hx, .d (readD_ok hd)⟩
theorem gl2_ok {G : Gl} (A : GlOk G) (x : Str) (gv : GV) (e : gl2 G.K x = some gv) : GvOk G x gv := by
  unfold gl2 at e
  cases hg : glOf G.K x with
  | none => rw [hg] at e; exact nsome e
  | some g =>
    rw [hg] at e
    cases g
    case cls a =>
      refine iFn (b := memN a okCls = true) e fun hm e => ?_
      subst e
      refine ⟨glOf_on hg (fun _ e => ?_) fun a' hx e => glO_on e (fun _ _ _ _ e => GV.noConfusion e) (fun e => by injection e with e; rw [e]; exact hx) (fun m e => GV.noConfusion e) fun d _ e => GV.noConfusion e, A.cg _ hm⟩
      exact absurd rfl (biOf_on (P := fun gv => gv ≠ .cls a) e (fun _ _ _ _ _ => GV.noConfusion) fun _ => GV.noConfusion)
    case val v =>
      cases v
      case sdict m =>
        refine iFn (b := strEq x "BITS" = true) e fun hb e' => ?_
        have := (strEq_iff _ _).mp hb
        subst this e'
        exact A.bits _ hg
      all_goals exact Option.some.inj e ▸ gl2_main hg (fun _ => GV.noConfusion) (fun _ => by intro z; injection z with z; cases z)
    all_goals exact Option.some.inj e ▸ gl2_main hg (fun _ => GV.noConfusion) (fun _ => GV.noConfusion)
end Mine
end
section
open PySem PySem.W PyProof.Rows PySem.Calls PySem.SeqAt
set_option linter.unusedSimpArgs false
namespace Mine

noncomputable def distN : List Nat → Bool
  | [] => true
  | x :: r => !memN x r && distN r
noncomputable def noneB {α : Type} : Option α → Bool
  | none => true
  | some _ => false
noncomputable def nilB {α : Type} : List α → Bool
  | [] => true
  | _ :: _ => false
noncomputable def fnB (K : Frag) (fd : FuncData) (fn : Fn) : Bool :=
  (Nat.beq fd.globals mainGlobals && (nilB fd.closure && (Nat.beq fd.builtins builtinsNs && (codeIn K fd.code fd.qualname && (!fd.scope.isCoroutine && !fd.scope.isGenerator))))) &&
  ((nilB fd.params.posonlyargs && (nilB fd.params.kwonlyargs && (noneB fd.params.vararg && noneB fd.params.kwarg))) &&
  (distS (fd.params.args.map (·.arg)) && (distS (fd.scope.names.map (·.1)) && (((fd.params.args.map (·.arg)).all fun a => match kindAt a fd.scope.names with | some .local => true | some .cell => true | _ => false) &&
    (distS ((cellsFrom 0 fd.scope.names []).map (·.1)) && Nat.ble fn.dfl.length fn.params.length)))))
noncomputable def tabB (K : Frag) (gl : Str → Option GV) (muts mvs : List (Nat × Nat)) : Bool :=
  distN (K.map (·.1)) && K.all fun p => match p.2.data with
    | .func fd => (match mkFn K gl muts mvs fd with | some fn => fnB K fd fn | none => true)
    | _ => true

theorem memN_mem {x : Nat} : ∀ {l : List Nat}, x ∈ l → memN x l = true
  | k :: r, h => (List.mem_cons.mp h).elim (fun h => by subst h; exact Bool.or_eq_true_iff.mpr (.inl (Nat.beq_refl x))) fun h => Bool.or_eq_true_iff.mpr (.inr (memN_mem h))
theorem lookup_of_mem {K : Frag} (h : distN (K.map (·.1)) = true) {a : Nat} {o : Obj} (hm : (a, o) ∈ K) : K.lookup a = some o := by
  induction K with
  | nil => cases hm
  | cons p K ih =>
    have h' := Bool.and_eq_true_iff.mp h
    rcases List.mem_cons.mp hm with e | hm2
    · subst e; exact List.lookup_cons_self
    · rw [List.lookup_cons, beq_false_of_ne (a := a) (b := p.1) fun e => ?_]
      · exact ih h'.2 hm2
      · subst e
        exact ftrue (((Bool.not_eq_true' _).mp h'.1).symm.trans (memN_mem (List.mem_map_of_mem (f := (·.1)) hm2)))
theorem findN_mem {α : Type} {n : Nat} {x : α} : ∀ {l : List (Nat × α)}, findN n l = some x → (n, x) ∈ l
  | (k, y) :: r, h => iF (b := Nat.beq n k = true) h (fun hk h => by rw [Nat.eq_of_beq_eq_true hk, Option.some.inj h]; exact .head _) fun _ h => .tail _ (findN_mem h)
theorem mkFuns_mem {K : Frag} {gl : Str → Option GV} {muts mvs : List (Nat × Nat)} {a : Nat} {fn : Fn} : ∀ {l : Frag}, (a, fn) ∈ mkFuns K gl muts mvs l → ∃ o fd, (a, o) ∈ l ∧ o.data = .func fd ∧ mkFn K gl muts mvs fd = some fn
  | [], h => nomatch h
  | p :: r, h => by
    have tl : (a, fn) ∈ mkFuns K gl muts mvs r → ∃ o fd, (a, o) ∈ p :: r ∧ o.data = .func fd ∧ mkFn K gl muts mvs fd = some fn := fun h => (mkFuns_mem h).elim fun o h => h.elim fun fd h => ⟨o, fd, .tail _ h.1, h.2⟩
    obtain ⟨b, oc, od, dt, sl⟩ := p
    cases dt
    case func fd =>
      unfold mkFuns at h
      dsimp only at h
      cases hf : mkFn K gl muts mvs fd with
      | none => rw [hf] at h; exact tl h
      | some f =>
        rw [hf] at h
        rcases List.mem_cons.mp h with e | h
        · cases e; exact ⟨_, fd, .head _, rfl, hf⟩
        · exact tl h
    all_goals exact tl h
theorem mapO_map {α β γ : Type} {f : α → β} {g : β → Option γ} : ∀ {l : List α}, mapO (fun a => g (f a)) l = mapO g (l.map f)
  | [] => rfl
  | x :: l => by
    rw [List.map_cons]
    unfold mapO
    rw [mapO_map]
theorem mapO_VRs {G : Gl} : ∀ {xs : List Value} {l : List V}, mapO (dflI G.K) xs = some l → VRs G.prog G.w (fun a o => G.K.lookup a = some o) [] l xs
  | [], l, h => by rw [mapO_nil h]; exact .nil
  | x :: xs, l, h => (mapO_cons h).elim fun y h => h.elim fun k h => by
    rw [h.2.2]
    exact .cons (sG h.1 (fun d hd e => by rw [← Option.some.inj e]; exact .d (readD_ok hd)) fun _ e => nsome e) (mapO_VRs h.2.1)
theorem dflOf_ok {G : Gl} {v : Value} {dfl : List V} (h : dflOf G.K v = some dfl) : ∃ ds, VRs G.prog G.w (fun a o => G.K.lookup a = some o) [] dfl ds ∧ ((v = .none ∧ ds = []) ∨ ∃ D o items m, v = .ref D ∧ G.K.lookup D = some o ∧ o.data = .seq items m ∧ ds = items.toList) := by
  cases v
  case none => rw [← Option.some.inj h]; exact ⟨[], .nil, .inl ⟨rfl, rfl⟩⟩
  case ref a =>
    have h : dflO G.K (findN a G.K) = some dfl := h
    cases ho : findN a G.K with
    | none => rw [ho] at h; exact nsome h
    | some o =>
      rw [ho] at h
      exact seq_on (d := o.data) h fun xs m hd h => ⟨xs.toList, mapO_VRs h, .inr ⟨a, o, xs, m, rfl, findN_lookup.symm.trans ho, hd, rfl⟩⟩
  all_goals exact nsome h
theorem mkFn_on {P : Prop} {K : Frag} {gl : Str → Option GV} {muts mvs : List (Nat × Nat)} {fd : FuncData} {fn : Fn} (e : mkFn K gl muts mvs fd = some fn) (k : ∀ b ps ds, fd.body = .stmts b → mapO (fun a : Arg => slotAt a.arg fd.scope.names 0) fd.params.args = some ps → dflOf K fd.defaults = some ds → fnKind fd.scope = true → fn = ⟨fd.qualname, ps, ds, fd.scope.names.length, b.map (cS 60 (ceOf gl muts mvs fd))⟩ → P) : P := by
  unfold mkFn at e
  cases hb : fd.body <;> rw [hb] at e
  case stmts b =>
    cases hps : mapO (fun a : Arg => slotAt a.arg fd.scope.names 0) fd.params.args with
    | none => rw [hps] at e; exact nsome e
    | some ps =>
      rw [hps] at e
      cases hds : dflOf K fd.defaults with
      | none => rw [hds] at e; exact nsome e
      | some ds => rw [hds] at e; exact iFn e fun hk e => k b ps ds hb hps hds hk e
  all_goals exact nsome e
theorem nilB_eq {α : Type} {l : List α} (z : nilB l = true) : l = [] := by
  cases l with
  | nil => rfl
  | cons _ _ => exact ftrue z
theorem noneB_eq {α : Type} {l : Option α} (z : noneB l = true) : l = none := by
  cases l with
  | none => rfl
  | some _ => exact ftrue z
theorem fnKind_eq {sc : Scope} (h : fnKind sc = true) : sc.kind = .function := by
  unfold fnKind at h
  cases hk : sc.kind <;> rw [hk] at h
  all_goals exact ftrue h
theorem fn_eta {fd : FuncData} {b : List PySem.Stmt} (h1 : fd.globals = mainGlobals) (h2 : fd.closure = []) (h3 : fd.builtins = builtinsNs) (h4 : fd.body = .stmts b) : fd = fnOf fd.name fd.qualname fd.params b fd.scope fd.defaults fd.kwdefaults fd.doc fd.pyModule fd.annotations fd.code fd.closureTuple := by
  cases fd
  cases h1
  cases h2
  cases h3
  cases h4
  rfl
theorem kinds_of {a : Str} {l : List (Str × NameKind)} (h : (match kindAt a l with | some .local => true | some .cell => true | _ => false) = true) : l.lookup a = some .local ∨ l.lookup a = some .cell := by
  rw [← kindAt_lookup]
  cases hk : kindAt a l with
  | none => rw [hk] at h; exact ftrue h
  | some kd =>
    rw [hk] at h
    cases kd
    case «local» => exact .inl rfl
    case cell => exact .inr rfl
    all_goals exact ftrue h
theorem fns_ok {G : Gl} {muts mvs : List (Nat × Nat)} (A : GlOk G) (h : tabB G.K (gl2 G.K) muts mvs = true) (f : Nat) (fn : Fn) (hf : findN f (mkFuns G.K (gl2 G.K) muts mvs G.K) = some fn) : FnOk G f fn := by
  have h' := Bool.and_eq_true_iff.mp h
  obtain ⟨o, fd, hm, hd, hfn⟩ := mkFuns_mem (findN_mem hf)
  obtain ⟨oc, od, dt, sl⟩ := o
  have hd : dt = .func fd := hd
  subst hd
  have hk : (match mkFn G.K (gl2 G.K) muts mvs fd with | some fn => fnB G.K fd fn | none => true) = true := List.all_eq_true.mp h'.2 _ hm
  rw [hfn] at hk
  have hl := lookup_of_mem h'.1 hm
  refine mkFn_on hfn fun b ps ds hb hps hds hkind e => ?_
  subst e
  obtain ⟨hA, hk⟩ := Bool.and_eq_true_iff.mp hk
  obtain ⟨g1, hA⟩ := Bool.and_eq_true_iff.mp hA
  obtain ⟨g2, hA⟩ := Bool.and_eq_true_iff.mp hA
  obtain ⟨g3, hA⟩ := Bool.and_eq_true_iff.mp hA
  obtain ⟨g4, hA⟩ := Bool.and_eq_true_iff.mp hA
  obtain ⟨g5, g6⟩ := Bool.and_eq_true_iff.mp hA
  obtain ⟨hA, hk⟩ := Bool.and_eq_true_iff.mp hk
  obtain ⟨p1, hA⟩ := Bool.and_eq_true_iff.mp hA
  obtain ⟨p2, hA⟩ := Bool.and_eq_true_iff.mp hA
  obtain ⟨p3, p4⟩ := Bool.and_eq_true_iff.mp hA
  obtain ⟨q1, hk⟩ := Bool.and_eq_true_iff.mp hk
  obtain ⟨q2, hk⟩ := Bool.and_eq_true_iff.mp hk
  obtain ⟨q3, hk⟩ := Bool.and_eq_true_iff.mp hk
  obtain ⟨q4, q5⟩ := Bool.and_eq_true_iff.mp hk
  obtain ⟨dv, hdv, hdf⟩ := dflOf_ok hds
  have he := fn_eta (Nat.eq_of_beq_eq_true g1) (nilB_eq g2) (Nat.eq_of_beq_eq_true g3) hb
  refine ⟨fd.name, fd.qualname, fd.params, b, fd.scope, fd.defaults, fd.kwdefaults, fd.doc, fd.pyModule, fd.code, fd.closureTuple, oc, fd.annotations, od, sl, ceOf (gl2 G.K) muts mvs fd, dv, ⟨hl.trans (congrArg (fun fd => some (Obj.mk oc od (.func fd) sl)) he), g4, rfl, rfl, rfl, mapO_map.symm.trans hps, ⟨nilB_eq p1, nilB_eq p2, noneB_eq p3, noneB_eq p4⟩, distS_nd q1, distS_nd q2, fun a ha => kinds_of (List.all_eq_true.mp q3 a ha), fnKind_eq hkind, (Bool.not_eq_true' _).mp g5, (Bool.not_eq_true' _).mp g6, distS_nd q4, gl2_ok A, Nat.le_of_ble_eq_true q5, hdv, hdf⟩⟩
end Mine
end
section
open PySem PySem.W PyProof.Rows PySem.Calls PySem.SeqAt
set_option linter.unusedSimpArgs false
namespace Mine

noncomputable def isNN {α : Type} : Option (Option α) → Bool
  | some none => true
  | _ => false
noncomputable def isRef (o : Option (Option Value)) (f : Nat) : Bool := match o with
  | some (some (.ref g)) => Nat.beq g f
  | _ => false
noncomputable def isBi (o : Option (Option Value)) (s : String) : Bool := match o with
  | some (some (.builtin t)) => decide (t = s)
  | _ => false
noncomputable def clsB (K : Frag) (T : Tab) (C : Nat) : Bool :=
  isBi (findIn K (.ref C) "__setattr__") "object.__setattr__" && (plainOver K C && (hasDictIn K C && (plainGet K C "" && ((attrNames.all fun x => isNN (takerIn K C x) && isNN (findIn K (.ref C) x)) && (makesIn K C && (keepIn K (.ref C) &&
    match findN C T.clss with
    | some cl => isRef (findIn K (.ref C) "__init__") cl.init && (isFn K (.ref cl.init) && cl.meths.all fun p => isRef (findIn K (.ref C) p.1) p.2 && (isFn K (.ref p.2) && keepIn K (.ref p.2)))
    | none => true))))))
theorem isNN_eq {α : Type} {o : Option (Option α)} (h : isNN o = true) : o = some none := by
  cases o with
  | none => exact ftrue h
  | some o =>
    cases o with
    | none => rfl
    | some _ => exact ftrue h
theorem isRef_eq {o : Option (Option Value)} {f : Nat} (h : isRef o f = true) : o = some (some (.ref f)) := by
  cases o with
  | none => exact ftrue h
  | some o =>
    cases o with
    | none => exact ftrue h
    | some v =>
      cases v
      case ref g => exact congrArg (fun g => some (some (Value.ref g))) (Nat.eq_of_beq_eq_true h)
      all_goals exact ftrue h
theorem isBi_eq {o : Option (Option Value)} {s : String} (h : isBi o s = true) : o = some (some (.builtin s)) := by
  cases o with
  | none => exact ftrue h
  | some o =>
    cases o with
    | none => exact ftrue h
    | some v =>
      cases v
      case builtin g => exact congrArg (fun g => some (some (Value.builtin g))) (of_decide_eq_true h)
      all_goals exact ftrue h
theorem findS_in {α : Type} {n : Str} {x : α} : ∀ {l : List (Str × α)}, findS n l = some x → (n, x) ∈ l
  | (k, y) :: r, h => iF (b := strEq n k = true) h (fun hk h => by rw [(strEq_iff _ _).mp hk, Option.some.inj h]; exact .head _) fun _ h => .tail _ (findS_in h)
theorem cls_ok {K : Frag} {T : Tab} {C : Nat} (h : clsB K T C = true) : ClsOk K T C := by
  obtain ⟨h1, h⟩ := Bool.and_eq_true_iff.mp h
  obtain ⟨h2, h⟩ := Bool.and_eq_true_iff.mp h
  obtain ⟨h3, h⟩ := Bool.and_eq_true_iff.mp h
  obtain ⟨h4, h⟩ := Bool.and_eq_true_iff.mp h
  obtain ⟨h5, h⟩ := Bool.and_eq_true_iff.mp h
  obtain ⟨h6, h⟩ := Bool.and_eq_true_iff.mp h
  obtain ⟨h7, h8⟩ := Bool.and_eq_true_iff.mp h
  refine ⟨isBi_eq h1, h2, h3, fun x => h4, fun x hx => ?_, h6, h7, fun cl hc => ?_⟩
  · have := Bool.and_eq_true_iff.mp (List.all_eq_true.mp h5 x hx)
    exact ⟨isNN_eq this.1, none, isNN_eq this.2, rfl⟩
  · rw [hc] at h8
    obtain ⟨a, h8⟩ := Bool.and_eq_true_iff.mp h8
    obtain ⟨b, h8⟩ := Bool.and_eq_true_iff.mp h8
    refine ⟨isRef_eq a, b, fun n f hf => ?_⟩
    obtain ⟨d, this⟩ := Bool.and_eq_true_iff.mp (List.all_eq_true.mp h8 _ (findS_in hf))
    obtain ⟨e, f⟩ := Bool.and_eq_true_iff.mp this
    exact ⟨isRef_eq d, e, f⟩
end Mine
end
section
open PySem PySem.W
set_option maxRecDepth 100000
namespace Mine
noncomputable def fn_21 : Fn := ⟨"_wall", [0], [], 1,
    [(.while_ (.lit (.bool true)) [.fail])]⟩
noncomputable def fn_36 : Fn := ⟨"LendError.__init__", [0, 1, 2], [(.d (.int (0)))], 4,
    [(.expr (.methI "__init__" .fail [(.var 0), (.var 1)])),
    .fail,
    .fail]⟩
noncomputable def fn_62 : Fn := ⟨"is_signed", [0], [], 1,
    [(.ret (.cmp .Eq (.sub (.var 0) (.lit (.int (0)))) (.lit (.str "i"))))]⟩
noncomputable def fn_69 : Fn := ⟨"least", [0], [], 3,
    [(.ret (.ite (.callF 62 [(.var 0)]) (.bin .Sub (.lit (.int (0))) (.bin .Pow (.lit (.int (2))) (.bin .Sub (.sub (.glob (.sdict [("i8", (.int (8))), ("i16", (.int (16))), ("i32", (.int (32))), ("i64", (.int (64))), ("u8", (.int (8))), ("u16", (.int (16))), ("u32", (.int (32))), ("u64", (.int (64))), ("usize", (.int (64)))])) (.var 0)) (.lit (.int (1)))))) (.lit (.int (0)))))]⟩
noncomputable def fn_76 : Fn := ⟨"greatest", [0], [], 3,
    [(.ret (.ite (.callF 62 [(.var 0)]) (.bin .Sub (.bin .Pow (.lit (.int (2))) (.bin .Sub (.sub (.glob (.sdict [("i8", (.int (8))), ("i16", (.int (16))), ("i32", (.int (32))), ("i64", (.int (64))), ("u8", (.int (8))), ("u16", (.int (16))), ("u32", (.int (32))), ("u64", (.int (64))), ("usize", (.int (64)))])) (.var 0)) (.lit (.int (1))))) (.lit (.int (1)))) (.bin .Sub (.bin .Pow (.lit (.int (2))) (.sub (.glob (.sdict [("i8", (.int (8))), ("i16", (.int (16))), ("i32", (.int (32))), ("i64", (.int (64))), ("u8", (.int (8))), ("u16", (.int (16))), ("u32", (.int (32))), ("u64", (.int (64))), ("usize", (.int (64)))])) (.var 0))) (.lit (.int (1))))))]⟩
noncomputable def fn_83 : Fn := ⟨"fits", [0, 1], [], 4,
    [(.ret (.cmp2 .LtE .LtE (.callF 69 [(.var 0)]) (.var 1) (.callF 76 [(.var 0)])))]⟩
noncomputable def fn_90 : Fn := ⟨"wrapped", [0, 1], [], 5,
    [(.asg 2 (.callF 69 [(.var 0)])),
    (.ret (.bin .Add (.var 2) (.bin .Mod (.bin .Sub (.var 1) (.var 2)) (.bin .Pow (.lit (.int (2))) (.sub (.glob (.sdict [("i8", (.int (8))), ("i16", (.int (16))), ("i32", (.int (32))), ("i64", (.int (64))), ("u8", (.int (8))), ("u16", (.int (16))), ("u32", (.int (32))), ("u64", (.int (64))), ("usize", (.int (64)))])) (.var 0))))))]⟩
noncomputable def fn_97 : Fn := ⟨"cast_int", [0, 1], [], 4,
    [(.ret (.callF 90 [(.var 0), (.callB false .int [(.var 1)])]))]⟩
noncomputable def fn_104 : Fn := ⟨"cut_quotient", [0, 1], [], 4,
    [(.asg 2 (.bin .FloorDiv (.callB false .abs [(.var 0)]) (.callB false .abs [(.var 1)]))),
    (.ret (.ite (.cmp .Eq (.cmp .Lt (.var 0) (.lit (.int (0)))) (.cmp .Lt (.var 1) (.lit (.int (0))))) (.var 2) (.bin .Sub (.lit (.int (0))) (.var 2))))]⟩
noncomputable def fn_111 : Fn := ⟨"exact", [0, 1, 2], [], 5,
    [(.ite (.cmp .Eq (.var 0) (.lit (.str "+"))) [(.ret (.bin .Add (.var 1) (.var 2)))] []),
    (.ite (.cmp .Eq (.var 0) (.lit (.str "-"))) [(.ret (.bin .Sub (.var 1) (.var 2)))] []),
    (.ite (.cmp .Eq (.var 0) (.lit (.str "*"))) [(.ret (.bin .Mult (.var 1) (.var 2)))] []),
    (.ite (.cmp .Eq (.var 0) (.lit (.str "&"))) [(.ret (.bin .BitAnd (.var 1) (.var 2)))] []),
    (.ite (.cmp .Eq (.var 0) (.lit (.str "|"))) [(.ret (.bin .BitOr (.var 1) (.var 2)))] []),
    (.ite (.cmp .Eq (.var 0) (.lit (.str "^"))) [(.ret (.bin .BitXor (.var 1) (.var 2)))] []),
    (.ite (.cmp .NotIn (.var 0) (.tup [(.lit (.str "/")), (.lit (.str "%"))])) [.fail] []),
    (.ite (.cmp .Eq (.var 2) (.lit (.int (0)))) [(.ret (.lit .none))] []),
    (.ret (.ite (.cmp .Eq (.var 0) (.lit (.str "/"))) (.callF 104 [(.var 1), (.var 2)]) (.bin .Sub (.var 1) (.bin .Mult (.var 2) (.callF 104 [(.var 1), (.var 2)])))))]⟩
noncomputable def fn_118 : Fn := ⟨"checked", [0, 1, 2, 3], [], 11,
    [(.ite (.cmp .In (.var 1) (.tup [(.lit (.str "<<")), (.lit (.str ">>"))])) [(.ret (.callF 125 [(.var 0), (.var 1), (.var 2), (.var 3)]))] []),
    (.asg 4 (.callF 111 [(.var 1), (.var 2), (.var 3)])),
    (.ite (.cmp .Is (.var 4) (.lit .none)) [(.ret (.tup [(.lit .none), (.lit (.bool false))]))] []),
    (.ite (.bop true [(.cmp .Eq (.var 1) (.lit (.str "%"))), (.cmp .Eq (.var 3) (.neg (.lit (.int (1))))), (.callF 62 [(.var 0)])]) [(.ret (.tup [(.lit (.int (0))), (.cmp .Eq (.var 2) (.callF 69 [(.var 0)]))]))] []),
    (.ret (.tup [(.callF 90 [(.var 0), (.var 4)]), (.not (.callF 83 [(.var 0), (.var 4)]))]))]⟩
noncomputable def fn_125 : Fn := ⟨"shifted", [0, 1, 2, 3], [], 8,
    [(.asg 4 (.bin .Mod (.var 3) (.sub (.glob (.sdict [("i8", (.int (8))), ("i16", (.int (16))), ("i32", (.int (32))), ("i64", (.int (64))), ("u8", (.int (8))), ("u16", (.int (16))), ("u32", (.int (32))), ("u64", (.int (64))), ("usize", (.int (64)))])) (.var 0)))),
    (.asg 5 (.ite (.cmp .Eq (.var 1) (.lit (.str "<<"))) (.bin .Mult (.var 2) (.bin .Pow (.lit (.int (2))) (.var 4))) (.bin .FloorDiv (.var 2) (.bin .Pow (.lit (.int (2))) (.var 4))))),
    (.ret (.tup [(.callF 90 [(.var 0), (.var 5)]), (.not (.cmp2 .LtE .Lt (.lit (.int (0))) (.var 3) (.sub (.glob (.sdict [("i8", (.int (8))), ("i16", (.int (16))), ("i32", (.int (32))), ("i64", (.int (64))), ("u8", (.int (8))), ("u16", (.int (16))), ("u32", (.int (32))), ("u64", (.int (64))), ("usize", (.int (64)))])) (.var 0))))]))]⟩
noncomputable def fn_132 : Fn := ⟨"compared", [0, 1, 2], [], 4,
    [(.ite (.cmp .Eq (.var 0) (.lit (.str "=="))) [(.ret (.cmp .Eq (.var 1) (.var 2)))] []),
    (.ite (.cmp .Eq (.var 0) (.lit (.str "!="))) [(.ret (.cmp .NotEq (.var 1) (.var 2)))] []),
    (.ite (.cmp .Eq (.var 0) (.lit (.str "<"))) [(.ret (.cmp .Lt (.var 1) (.var 2)))] []),
    (.ite (.cmp .Eq (.var 0) (.lit (.str "<="))) [(.ret (.cmp .LtE (.var 1) (.var 2)))] []),
    (.ite (.cmp .Eq (.var 0) (.lit (.str ">"))) [(.ret (.cmp .Gt (.var 1) (.var 2)))] []),
    (.ite (.cmp .Eq (.var 0) (.lit (.str ">="))) [(.ret (.cmp .GtE (.var 1) (.var 2)))] []),
    .fail]⟩
noncomputable def fn_147 : Fn := ⟨"Body.__init__", [0, 1, 2, 3, 4, 5], [(.d .none), (.d .none)], 7,
    [(.asgA (.var 0) "name" (.var 1)),
    (.asgA (.var 0) "arg_count" (.var 2)),
    (.asgA (.var 0) "locals" (.callB false .list [(.var 3)])),
    (.asgA (.var 0) "blocks" (.ite (.cmp .Is (.var 4) (.lit .none)) (.lst true []) (.var 4))),
    (.asgA (.var 0) "spots" (.ite (.cmp .Is (.var 5) (.lit .none)) (.dsp false [] []) (.var 5)))]⟩
noncomputable def fn_154 : Fn := ⟨"Body.type_of", [0, 1], [], 2,
    [(.ret (.sub (.sub (.attr (.var 0) "locals") (.var 1)) (.lit (.int (0)))))]⟩
noncomputable def fn_161 : Fn := ⟨"Body.args", [0], [], 2,
    [(.expr (.callF 21 [(.lit (.int (0)))]))]⟩
noncomputable def fn_168 : Fn := ⟨"Body.statements", [0, 1], [], 2,
    [(.ret (.sub (.sub (.attr (.var 0) "blocks") (.var 1)) (.lit (.int (0)))))]⟩
noncomputable def fn_175 : Fn := ⟨"Body.terminator", [0, 1], [], 2,
    [(.ret (.sub (.sub (.attr (.var 0) "blocks") (.var 1)) (.lit (.int (1)))))]⟩
noncomputable def fn_182 : Fn := ⟨"Body.spot", [0, 1], [], 2,
    [(.ret (.methB .get (.attr (.var 0) "spots") [(.var 1), (.lit (.int (0)))]))]⟩
noncomputable def fn_190 : Fn := ⟨"Body.new_local", [0, 1, 2, 3], [(.d (.bool true)), (.d .none)], 5,
    [(.expr (.callF 21 [(.lit (.int (1)))]))]⟩
noncomputable def fn_202 : Fn := ⟨"successors", [0], [], 5,
    [(.asg 1 (.sub (.var 0) (.lit (.int (0))))),
    (.ite (.cmp .Eq (.var 1) (.lit (.str "goto"))) [(.asg 2 (.lst false [(.sub (.var 0) (.lit (.int (1))))]))] [(.ite (.cmp .Eq (.var 1) (.lit (.str "switch"))) [(.asg 2 (.bin .Add (.comp false (.var 2) (.many [1, 2]) (.sub (.var 0) (.lit (.int (2)))) [] [none, none, none]) (.lst false [(.sub (.var 0) (.lit (.int (3))))])))] [(.ite (.cmp .Eq (.var 1) (.lit (.str "call"))) [(.asg 2 (.lst false [(.sub (.var 0) (.lit (.int (4))))]))] [(.ite (.cmp .Eq (.var 1) (.lit (.str "drop"))) [(.asg 2 (.lst false [(.sub (.var 0) (.lit (.int (2))))]))] [(.ite (.cmp .Eq (.var 1) (.lit (.str "assert"))) [(.asg 2 (.lst false [(.sub (.var 0) (.lit (.int (4))))]))] [(.asg 2 (.lst false []))])])])])]),
    (.asg 4 (.lst true [])),
    (.for_ (.one 3) (.var 2) [(.ite (.bop true [(.cmp .IsNot (.var 3) (.lit .none)), (.cmp .NotIn (.var 3) (.var 4))]) [(.expr (.methB .append (.var 4) [(.var 3)]))] [])]),
    (.retM 4)]⟩
noncomputable def fn_207 : Fn := ⟨"copied", [0], [], 4,
    [(.asg 1 (.comp true (.lst false [(.callB false .list [(.var 1)]), (.var 2)]) (.many [1, 2]) (.attr (.var 0) "blocks") [] [none, none, none, none])),
    (.ret (.callC 193 [(.attr (.var 0) "name"), (.attr (.var 0) "arg_count"), (.attr (.var 0) "locals"), (.var 1), (.callB false .dict [(.attr (.var 0) "spots")])]))]⟩
noncomputable def fn_214 : Fn := ⟨"operands_of", [0], [], 3,
    [(.asg 1 (.sub (.var 0) (.lit (.int (0))))),
    (.ite (.cmp .In (.var 1) (.tup [(.lit (.str "use")), (.lit (.str "box"))])) [(.ret (.lst false [(.sub (.var 0) (.lit (.int (1))))]))] []),
    (.ite (.cmp .In (.var 1) (.tup [(.lit (.str "binary")), (.lit (.str "checked"))])) [(.ret (.lst false [(.sub (.var 0) (.lit (.int (2)))), (.sub (.var 0) (.lit (.int (3))))]))] []),
    (.ite (.cmp .Eq (.var 1) (.lit (.str "unary"))) [(.ret (.lst false [(.sub (.var 0) (.lit (.int (2))))]))] []),
    (.ite (.cmp .Eq (.var 1) (.lit (.str "cast"))) [(.ret (.lst false [(.sub (.var 0) (.lit (.int (1))))]))] []),
    (.ite (.cmp .In (.var 1) (.tup [(.lit (.str "tuple")), (.lit (.str "array"))])) [(.ret (.callB false .list [(.sub (.var 0) (.lit (.int (1))))]))] []),
    (.ret (.ite (.cmp .Eq (.var 1) (.lit (.str "adt"))) (.callB false .list [(.sub (.var 0) (.lit (.int (3))))]) (.lst false [])))]⟩
noncomputable def fn_221 : Fn := ⟨"with_operands", [0, 1], [], 4,
    [(.asg 2 (.sub (.var 0) (.lit (.int (0))))),
    (.ite (.cmp .In (.var 2) (.tup [(.lit (.str "use")), (.lit (.str "box"))])) [(.ret (.tup [(.var 2), (.sub (.var 1) (.lit (.int (0))))]))] []),
    (.ite (.cmp .In (.var 2) (.tup [(.lit (.str "binary")), (.lit (.str "checked"))])) [(.ret (.tup [(.var 2), (.sub (.var 0) (.lit (.int (1)))), (.sub (.var 1) (.lit (.int (0)))), (.sub (.var 1) (.lit (.int (1))))]))] []),
    (.ite (.cmp .Eq (.var 2) (.lit (.str "unary"))) [(.ret (.tup [(.var 2), (.sub (.var 0) (.lit (.int (1)))), (.sub (.var 1) (.lit (.int (0))))]))] []),
    (.ite (.cmp .Eq (.var 2) (.lit (.str "cast"))) [(.ret (.tup [(.var 2), (.sub (.var 1) (.lit (.int (0)))), (.sub (.var 0) (.lit (.int (2))))]))] []),
    (.ite (.cmp .In (.var 2) (.tup [(.lit (.str "tuple")), (.lit (.str "array"))])) [(.ret (.tup [(.var 2), (.callB false .tuple [(.var 1)])]))] []),
    (.ret (.ite (.cmp .Eq (.var 2) (.lit (.str "adt"))) (.bin .Add (.slc (.var 0) none (some (.lit (.int (3))))) (.tup [(.callB false .tuple [(.var 1)])])) (.var 0)))]⟩
noncomputable def fn_228 : Fn := ⟨"is_followed", [0], [], 2,
    [(.ite (.cmp .Eq (.sub (.var 0) (.lit (.int (0)))) (.lit (.str "tuple"))) [(.ret (.cmp .Eq (.comp false (.var 1) (.one 1) (.sub (.var 0) (.lit (.int (1)))) [(.cmp .NotIn (.sub (.var 1) (.lit (.int (0)))) (.glob (.d (.tuple [(.str "int"), (.str "bool")]))))] [none, none, none]) (.lst false [])))] []),
    (.ret (.cmp .In (.sub (.var 0) (.lit (.int (0)))) (.glob (.d (.tuple [(.str "int"), (.str "bool")])))))]⟩
noncomputable def fn_235 : Fn := ⟨"lent_locals", [0], [], 5,
    [(.asg 1 (.dsp true [] [])),
    (.for_ (.many [2, 3]) (.attr (.var 0) "blocks") [(.for_ (.one 4) (.var 2) [(.ite (.bop true [(.cmp .Eq (.sub (.var 4) (.lit (.int (0)))) (.lit (.str "assign"))), (.cmp .Eq (.sub (.sub (.var 4) (.lit (.int (2)))) (.lit (.int (0)))) (.lit (.str "ref")))]) [(.asgS (.var 1) (.sub (.sub (.sub (.var 4) (.lit (.int (2)))) (.lit (.int (3)))) (.lit (.int (0)))) (.lit (.bool true)))] [])])]),
    (.retM 1)]⟩
noncomputable def fn_249 : Fn := ⟨"Facts.__init__", [0, 1], [], 3,
    [(.asgA (.var 0) "known" (.callB true .dict [(.var 1)]))]⟩
noncomputable def fn_256 : Fn := ⟨"Facts.at_place", [0, 1], [], 4,
    [(.asg 2 (.methB .get (.attr (.var 0) "known") [(.sub (.var 1) (.lit (.int (0))))])),
    (.for_ (.one 3) (.sub (.var 1) (.lit (.int (1)))) [(.ite (.bop false [(.cmp .Is (.var 2) (.lit .none)), (.cmp .NotEq (.sub (.var 3) (.lit (.int (0)))) (.lit (.str "field")))]) [(.ret (.lit .none))] []),
    (.asg 2 (.sub (.var 2) (.sub (.var 3) (.lit (.int (1))))))]),
    (.ret (.var 2))]⟩
noncomputable def fn_263 : Fn := ⟨"Facts.at_operand", [0, 1], [], 3,
    [(.ite (.cmp .Eq (.sub (.var 1) (.lit (.int (0)))) (.lit (.str "const"))) [(.ret (.ite (.cmp .In (.sub (.sub (.var 1) (.lit (.int (1)))) (.lit (.int (0)))) (.glob (.d (.tuple [(.str "int"), (.str "bool")])))) (.sub (.var 1) (.lit (.int (2)))) (.lit .none)))] []),
    (.ret (.methI "at_place" (.var 0) [(.sub (.var 1) (.lit (.int (1))))]))]⟩
noncomputable def fn_270 : Fn := ⟨"Facts.forget", [0, 1], [], 2,
    [(.expr (.methB .pop (.attr (.var 0) "known") [(.sub (.var 1) (.lit (.int (0)))), (.lit .none)]))]⟩
noncomputable def fn_284 : Fn := ⟨"reckoned_binary", [0, 1, 2, 3], [], 7,
    [(.ite (.cmp .In (.var 0) (.glob (.d (.tuple [(.str "=="), (.str "!="), (.str "<"), (.str "<="), (.str ">"), (.str ">=")])))) [(.ret (.callF 132 [(.var 0), (.var 2), (.var 3)]))] []),
    (.ite (.cmp .Eq (.sub (.var 1) (.lit (.int (0)))) (.lit (.str "bool"))) [(.ret (.methB .get (.dsp false [(.lit (.str "&")), (.lit (.str "|")), (.lit (.str "^"))] [(.bop true [(.var 2), (.var 3)]), (.bop false [(.var 2), (.var 3)]), (.cmp .NotEq (.var 2) (.var 3))]) [(.var 0)]))] []),
    (.ret (.sub (.callF 118 [(.sub (.var 1) (.lit (.int (1)))), (.var 0), (.var 2), (.var 3)]) (.lit (.int (0)))))]⟩
noncomputable def fn_298 : Fn := ⟨"Constants.__init__", [0, 1], [], 8,
    [(.asgA (.var 0) "body" (.var 1)),
    (.asg 2 (.callF 235 [(.var 1)])),
    (.asgA (.var 0) "followed" (.dsp true [] [])),
    (.forR 3 (.callB false .len [(.attr (.var 1) "locals")]) [(.ite (.bop true [(.callF 228 [(.sub (.sub (.attr (.var 1) "locals") (.var 3)) (.lit (.int (0))))]), (.cmp .NotIn (.var 3) (.var 2))]) [(.asgS (.attr (.var 0) "followed") (.var 3) (.lit (.bool true)))] [])]),
    (.asgA (.var 0) "begins" (.dsp true [(.lit (.int (0)))] [(.dsp false [] [])]))]⟩
noncomputable def fn_305 : Fn := ⟨"Constants.type_of", [0, 1], [], 6,
    [(.ite (.cmp .Eq (.sub (.var 1) (.lit (.int (0)))) (.lit (.str "const"))) [(.ret (.sub (.var 1) (.lit (.int (1)))))] []),
    (.unp false [2, 3] (.sub (.var 1) (.lit (.int (1))))),
    (.asg 4 (.sub (.sub (.attr (.attr (.var 0) "body") "locals") (.var 2)) (.lit (.int (0))))),
    (.for_ (.one 5) (.var 3) [(.ite (.bop false [(.cmp .NotEq (.sub (.var 5) (.lit (.int (0)))) (.lit (.str "field"))), (.cmp .NotEq (.sub (.var 4) (.lit (.int (0)))) (.lit (.str "tuple")))]) [(.ret (.lit .none))] []),
    (.asg 4 (.sub (.sub (.var 4) (.lit (.int (1)))) (.sub (.var 5) (.lit (.int (1))))))]),
    (.ret (.var 4))]⟩
noncomputable def fn_310 : Fn := ⟨"Constants.value_of", [0, 1, 2], [], 6,
    [(.asg 3 (.sub (.var 1) (.lit (.int (0))))),
    (.ite (.cmp .Eq (.var 3) (.lit (.str "use"))) [(.ret (.methI "at_operand" (.var 2) [(.sub (.var 1) (.lit (.int (1))))]))] []),
    (.ite (.cmp .Eq (.var 3) (.lit (.str "tuple"))) [(.asg 4 (.comp false (.methI "at_operand" (.var 2) [(.var 1)]) (.one 1) (.sub (.var 1) (.lit (.int (1)))) [] [none, none, some 2])),
    (.ret (.ite (.cmp .In (.lit .none) (.var 4)) (.lit .none) (.callB false .tuple [(.var 4)])))] []),
    (.ite (.cmp .In (.var 3) (.tup [(.lit (.str "binary")), (.lit (.str "checked"))])) [(.ret (.methI "of_two" (.var 0) [(.var 1), (.var 2)]))] []),
    (.ite (.cmp .Eq (.var 3) (.lit (.str "unary"))) [(.ret (.methI "of_one" (.var 0) [(.var 1), (.var 2)]))] []),
    (.ite (.cmp .Eq (.var 3) (.lit (.str "cast"))) [(.ret (.methI "of_cast" (.var 0) [(.var 1), (.var 2)]))] []),
    (.ret (.lit .none))]⟩
noncomputable def fn_317 : Fn := ⟨"Constants.of_two", [0, 1, 2], [], 14,
    [(.unp false [3, 4, 5, 6] (.var 1)),
    (.unp true [7, 8, 9] (.tup [(.methI "at_operand" (.var 2) [(.var 5)]), (.methI "at_operand" (.var 2) [(.var 6)]), (.methI "type_of" (.var 0) [(.var 5)])])),
    (.ite (.bop false [(.cmp .Is (.var 7) (.lit .none)), (.cmp .Is (.var 8) (.lit .none)), (.cmp .Is (.var 9) (.lit .none)), (.cmp .NotIn (.sub (.var 9) (.lit (.int (0)))) (.glob (.d (.tuple [(.str "int"), (.str "bool")]))))]) [(.ret (.lit .none))] []),
    (.ite (.cmp .Eq (.var 3) (.lit (.str "binary"))) [(.ret (.callF 284 [(.var 4), (.var 9), (.var 7), (.var 8)]))] []),
    (.asg 10 (.callF 118 [(.sub (.var 9) (.lit (.int (1)))), (.var 4), (.var 7), (.var 8)])),
    (.ret (.ite (.cmp .Is (.sub (.var 10) (.lit (.int (0)))) (.lit .none)) (.lit .none) (.var 10)))]⟩
noncomputable def fn_324 : Fn := ⟨"Constants.of_one", [0, 1, 2], [], 6,
    [(.unp true [3, 4] (.tup [(.methI "at_operand" (.var 2) [(.sub (.var 1) (.lit (.int (2))))]), (.methI "type_of" (.var 0) [(.sub (.var 1) (.lit (.int (2))))])])),
    (.ite (.bop false [(.cmp .Is (.var 3) (.lit .none)), (.cmp .Is (.var 4) (.lit .none))]) [(.ret (.lit .none))] []),
    (.ite (.cmp .Eq (.sub (.var 1) (.lit (.int (1)))) (.lit (.str "!"))) [(.ret (.ite (.cmp .Eq (.sub (.var 4) (.lit (.int (0)))) (.lit (.str "bool"))) (.not (.var 3)) (.callF 90 [(.sub (.var 4) (.lit (.int (1)))), (.bin .Sub (.neg (.lit (.int (1)))) (.var 3))])))] []),
    (.ret (.callF 90 [(.sub (.var 4) (.lit (.int (1)))), (.bin .Sub (.lit (.int (0))) (.var 3))]))]⟩
noncomputable def fn_331 : Fn := ⟨"Constants.of_cast", [0, 1, 2], [], 6,
    [(.asg 3 (.methI "at_operand" (.var 2) [(.sub (.var 1) (.lit (.int (1))))])),
    (.ite (.bop false [(.cmp .Is (.var 3) (.lit .none)), (.cmp .NotEq (.sub (.sub (.var 1) (.lit (.int (2)))) (.lit (.int (0)))) (.lit (.str "int")))]) [(.ret (.lit .none))] []),
    (.ret (.callF 97 [(.sub (.sub (.var 1) (.lit (.int (2)))) (.lit (.int (1)))), (.callB false .int [(.var 3)])]))]⟩
noncomputable def fn_338 : Fn := ⟨"Constants.step", [0, 1, 2], [], 6,
    [(.ite (.cmp .Eq (.sub (.var 1) (.lit (.int (0)))) (.lit (.str "assign"))) [(.unp true [3, 4] (.tup [(.sub (.var 1) (.lit (.int (1)))), (.sub (.var 1) (.lit (.int (2))))])),
    (.asg 5 (.methI "value_of" (.var 0) [(.var 4), (.var 2)])),
    (.expr (.methI "forget" (.var 2) [(.var 3)])),
    (.ite (.bop true [(.cmp .IsNot (.var 5) (.lit .none)), (.cmp .Eq (.sub (.var 3) (.lit (.int (1)))) (.tup [])), (.cmp .In (.sub (.var 3) (.lit (.int (0)))) (.attr (.var 0) "followed"))]) [(.asgS (.attr (.var 2) "known") (.sub (.var 3) (.lit (.int (0)))) (.var 5))] [])] [(.ite (.cmp .In (.sub (.var 1) (.lit (.int (0)))) (.tup [(.lit (.str "live")), (.lit (.str "dead"))])) [(.expr (.methI "forget" (.var 2) [(.tup [(.sub (.var 1) (.lit (.int (1)))), (.tup [])])]))] [])])]⟩
noncomputable def fn_345 : Fn := ⟨"Constants.behind", [0, 1], [], 7,
    [(.asg 2 (.callC 273 [(.sub (.attr (.var 0) "begins") (.var 1))])),
    (.unp false [3, 4] (.sub (.attr (.attr (.var 0) "body") "blocks") (.var 1))),
    (.for_ (.one 5) (.var 3) [(.expr (.methI "step" (.var 0) [(.var 5), (.var 2)]))]),
    (.ret (.var 2))]⟩
noncomputable def fn_350 : Fn := ⟨"Constants.gone_on", [0, 1, 2], [], 6,
    [(.asg 3 (.sub (.sub (.attr (.attr (.var 0) "body") "blocks") (.var 1)) (.lit (.int (1))))),
    (.ite (.cmp .Eq (.sub (.var 3) (.lit (.int (0)))) (.lit (.str "call"))) [(.expr (.methI "forget" (.var 2) [(.sub (.var 3) (.lit (.int (3))))]))] []),
    (.ite (.cmp .Eq (.sub (.var 3) (.lit (.int (0)))) (.lit (.str "drop"))) [(.expr (.methI "forget" (.var 2) [(.sub (.var 3) (.lit (.int (1))))]))] []),
    (.asg 4 (.methI "known_target" (.var 0) [(.var 3), (.var 2)])),
    (.ite (.cmp .IsNot (.var 4) (.lit .none)) [(.ret (.lst false [(.tup [(.var 4), (.attr (.var 2) "known")])]))] []),
    (.ret (.comp false (.tup [(.var 1), (.attr (.var 2) "known")]) (.one 1) (.callF 202 [(.var 3)]) [] [none, none, some 2]))]⟩
noncomputable def fn_357 : Fn := ⟨"Constants.known_target", [0, 1, 2], [], 6,
    [(.ite (.cmp .Eq (.sub (.var 1) (.lit (.int (0)))) (.lit (.str "switch"))) [(.asg 3 (.methI "at_operand" (.var 2) [(.sub (.var 1) (.lit (.int (1))))])),
    (.ite (.cmp .Is (.var 3) (.lit .none)) [(.ret (.lit .none))] []),
    (.for_ (.many [4, 5]) (.sub (.var 1) (.lit (.int (2)))) [(.ite (.cmp .Eq (.var 4) (.var 3)) [(.ret (.var 5))] [])]),
    (.ret (.sub (.var 1) (.lit (.int (3)))))] []),
    (.ite (.bop true [(.cmp .Eq (.sub (.var 1) (.lit (.int (0)))) (.lit (.str "assert"))), (.cmp .Eq (.methI "at_operand" (.var 2) [(.sub (.var 1) (.lit (.int (1))))]) (.sub (.var 1) (.lit (.int (2)))))]) [(.ret (.sub (.var 1) (.neg (.lit (.int (1))))))] []),
    (.ret (.lit .none))]⟩
noncomputable def fn_362 : Fn := ⟨"Constants.meet", [0, 1, 2], [], 7,
    [(.ite (.cmp .NotIn (.var 1) (.attr (.var 0) "begins")) [(.asgS (.attr (.var 0) "begins") (.var 1) (.callB false .dict [(.var 2)])),
    (.ret (.lit (.bool true)))] []),
    (.asg 3 (.sub (.attr (.var 0) "begins") (.var 1))),
    (.asg 4 (.dcomp (.var 1) (.sub (.var 2) (.var 1)) 1 (.var 3) [(.bop true [(.cmp .In (.var 1) (.var 3)), (.cmp .Eq (.sub (.var 3) (.var 1)) (.sub (.var 2) (.var 1)))])] [none, none, some 3, some 2])),
    (.asgS (.attr (.var 0) "begins") (.var 1) (.var 4)),
    (.ret (.cmp .Lt (.callB false .len [(.var 4)]) (.callB false .len [(.var 3)])))]⟩
noncomputable def fn_369 : Fn := ⟨"Constants.follow", [0], [], 5,
    [(.asg 1 (.lst true [(.lit (.int (0)))])),
    (.while_ (.cmp .NotEq (.var 1) (.lst false [])) [(.asg 2 (.methB .pop (.var 1) [])),
    (.for_ (.many [3, 4]) (.methI "gone_on" (.var 0) [(.var 2), (.methI "behind" (.var 0) [(.var 2)])]) [(.ite (.methI "meet" (.var 0) [(.var 3), (.var 4)]) [(.expr (.methB .append (.var 1) [(.var 3)]))] [])])])]⟩
noncomputable def fn_376 : Fn := ⟨"Constants.put", [0, 1, 2], [], 6,
    [(.ite (.cmp .Eq (.sub (.var 1) (.lit (.int (0)))) (.lit (.str "const"))) [(.ret (.var 1))] []),
    (.unp true [3, 4] (.tup [(.methI "at_operand" (.var 2) [(.var 1)]), (.methI "type_of" (.var 0) [(.var 1)])])),
    (.ret (.ite (.bop false [(.cmp .Is (.var 3) (.lit .none)), (.cmp .Is (.var 4) (.lit .none)), (.cmp .NotIn (.sub (.var 4) (.lit (.int (0)))) (.glob (.d (.tuple [(.str "int"), (.str "bool")]))))]) (.var 1) (.tup [(.lit (.str "const")), (.var 4), (.var 3)])))]⟩
noncomputable def fn_381 : Fn := ⟨"Constants.put_rvalue", [0, 1, 2, 3], [], 9,
    [(.asg 4 (.methI "value_of" (.var 0) [(.var 1), (.var 3)])),
    (.asg 5 (.methI "type_of" (.var 0) [(.tup [(.lit (.str "copy")), (.var 2)])])),
    (.ite (.bop true [(.cmp .IsNot (.var 4) (.lit .none)), (.cmp .IsNot (.var 5) (.lit .none)), (.cmp .In (.sub (.var 5) (.lit (.int (0)))) (.glob (.d (.tuple [(.str "int"), (.str "bool")]))))]) [(.ret (.tup [(.lit (.str "use")), (.tup [(.lit (.str "const")), (.var 5), (.var 4)])]))] []),
    (.ret (.callF 221 [(.var 1), (.comp false (.methI "put" (.var 3) [(.var 1), (.var 2)]) (.one 1) (.callF 214 [(.var 1)]) [] [none, none, some 3, some 0])]))]⟩
noncomputable def fn_388 : Fn := ⟨"Constants.put_statement", [0, 1, 2], [], 3,
    [(.ite (.cmp .Eq (.sub (.var 1) (.lit (.int (0)))) (.lit (.str "assign"))) [(.ret (.tup [(.lit (.str "assign")), (.sub (.var 1) (.lit (.int (1)))), (.methI "put_rvalue" (.var 0) [(.sub (.var 1) (.lit (.int (2)))), (.sub (.var 1) (.lit (.int (1)))), (.var 2)])]))] []),
    (.ite (.cmp .Eq (.sub (.var 1) (.lit (.int (0)))) (.lit (.str "print"))) [(.ret (.tup [(.lit (.str "print")), (.methI "put" (.var 0) [(.sub (.var 1) (.lit (.int (1)))), (.var 2)])]))] []),
    (.ret (.var 1))]⟩
noncomputable def fn_393 : Fn := ⟨"Constants.put_terminator", [0, 1, 2], [], 6,
    [(.asg 3 (.methI "known_target" (.var 0) [(.var 1), (.var 2)])),
    (.ite (.cmp .IsNot (.var 3) (.lit .none)) [(.ret (.tup [(.lit (.str "goto")), (.var 3)]))] []),
    (.ite (.cmp .In (.sub (.var 1) (.lit (.int (0)))) (.tup [(.lit (.str "switch")), (.lit (.str "assert"))])) [(.ret (.bin .Add (.tup [(.sub (.var 1) (.lit (.int (0)))), (.methI "put" (.var 0) [(.sub (.var 1) (.lit (.int (1)))), (.var 2)])]) (.callB false .tuple [(.slc (.var 1) (some (.lit (.int (2)))) none)])))] []),
    (.ite (.cmp .Eq (.sub (.var 1) (.lit (.int (0)))) (.lit (.str "call"))) [(.asg 4 (.callB false .tuple [(.comp false (.methI "put" (.var 3) [(.var 1), (.var 2)]) (.one 1) (.sub (.var 1) (.lit (.int (2)))) [] [none, none, some 2, some 0])])),
    (.ret (.bin .Add (.tup [(.sub (.var 1) (.lit (.int (0)))), (.sub (.var 1) (.lit (.int (1)))), (.var 4)]) (.callB false .tuple [(.slc (.var 1) (some (.lit (.int (3)))) none)])))] []),
    (.ret (.var 1))]⟩
noncomputable def fn_407 : Fn := ⟨"with_constants", [0], [], 13,
    [(.asg 1 (.callC 396 [(.var 0)])),
    (.expr (.methI "follow" (.var 1) [])),
    (.asg 2 (.callF 207 [(.var 0)])),
    (.for_ (.one 3) (.callB false .sorted [(.attr (.var 1) "begins")]) [(.asg 4 (.callC 273 [(.sub (.attr (.var 1) "begins") (.var 3))])),
    (.unp false [5, 6] (.sub (.attr (.var 0) "blocks") (.var 3))),
    (.asg 7 (.lst true [])),
    (.for_ (.one 8) (.var 5) [(.expr (.methB .append (.var 7) [(.methI "put_statement" (.var 1) [(.var 8), (.var 4)])])),
    (.expr (.methI "step" (.var 1) [(.var 8), (.var 4)]))]),
    (.asgSM (.attr (.var 2) "blocks") (.var 3) 7 (.methI "put_terminator" (.var 1) [(.var 6), (.var 4)]))]),
    (.ret (.var 2))]⟩
noncomputable def fn_414 : Fn := ⟨"_law_wide", [], [], 0,
    [(.ret (.dsp false [(.lit (.str "u8")), (.lit (.str "i8")), (.lit (.str "i32")), (.lit (.str "u64"))] [(.tup [(.lit (.int (0))), (.lit (.int (8)))]), (.tup [(.neg (.lit (.int (128)))), (.lit (.int (8)))]), (.tup [(.neg (.bin .Pow (.lit (.int (2))) (.lit (.int (31))))), (.lit (.int (32)))]), (.tup [(.lit (.int (0))), (.lit (.int (64)))])]))]⟩
noncomputable def fn_421 : Fn := ⟨"_law_pool", [0, 1], [], 7,
    [(.asg 2 (.ite (.cmp .NotEq (.var 0) (.lst false [])) (.sub (.var 0) (.lit (.int (0)))) (.lit (.int (0))))),
    (.asg 3 (.callB false .max [(.var 2), (.bin .Sub (.neg (.lit (.int (1)))) (.var 2))])),
    (.asg 4 (.bin .Mod (.bin .Mult (.bin .Add (.bin .Mod (.var 3) (.lit (.int (2147483629)))) (.lit (.int (17)))) (.lit (.int (48271)))) (.lit (.int (2147483647))))),
    (.ret (.lst true [(.bin .Mult (.var 3) (.callB false .int [(.cmp .GtE (.var 3) (.bin .Pow (.lit (.int (10))) (.lit (.int (18)))))])), (.var 4), (.ite (.cmp .Eq (.var 0) (.lst false [])) (.var 1) (.lst false []))]))]⟩
noncomputable def fn_428 : Fn := ⟨"_law_take", [0, 1], [], 3,
    [(.ite (.cmp .NotEq (.sub (.var 0) (.lit (.int (2)))) (.lst false [])) [(.ret (.bin .Mod (.methB .pop (.sub (.var 0) (.lit (.int (2)))) [(.lit (.int (0)))]) (.var 1)))] []),
    (.ite (.cmp .Gt (.sub (.var 0) (.lit (.int (0)))) (.lit (.int (0)))) [(.asg 2 (.bin .Mod (.sub (.var 0) (.lit (.int (0)))) (.var 1))),
    (.asgS (.var 0) (.lit (.int (0))) (.bin .FloorDiv (.sub (.var 0) (.lit (.int (0)))) (.var 1))),
    (.ret (.var 2))] []),
    (.asgS (.var 0) (.lit (.int (1))) (.bin .Mod (.bin .Add (.bin .Mult (.sub (.var 0) (.lit (.int (1)))) (.lit (.int (39373)))) (.lit (.int (7)))) (.lit (.int (2147483647))))),
    (.ret (.bin .Mod (.bin .FloorDiv (.bin .Mod (.bin .Mult (.sub (.var 0) (.lit (.int (1)))) (.sub (.var 0) (.lit (.int (1))))) (.lit (.int (2147483629)))) (.lit (.int (32)))) (.var 1)))]⟩
noncomputable def fn_435 : Fn := ⟨"_law_one", [0, 1], [], 4,
    [(.ret (.sub (.var 1) (.callF 428 [(.var 0), (.callB false .len [(.var 1)])])))]⟩
noncomputable def fn_442 : Fn := ⟨"_law_exact", [0, 1, 2, 3], [], 8,
    [(.ite (.cmp .In (.var 1) (.lst false [(.lit (.str "/")), (.lit (.str "%"))])) [(.ite (.cmp .Eq (.var 3) (.lit (.int (0)))) [(.ret (.lit .none))] []),
    (.asg 4 (.bin .Mult (.bin .FloorDiv (.callB false .abs [(.var 2)]) (.callB false .abs [(.var 3)])) (.ite (.cmp .Eq (.cmp .Lt (.var 2) (.lit (.int (0)))) (.cmp .Lt (.var 3) (.lit (.int (0))))) (.lit (.int (1))) (.neg (.lit (.int (1))))))),
    (.ret (.ite (.cmp .Eq (.var 1) (.lit (.str "/"))) (.var 4) (.bin .Sub (.var 2) (.bin .Mult (.var 3) (.var 4)))))] []),
    (.asg 5 (.bin .Pow (.lit (.int (2))) (.bin .Mod (.var 3) (.sub (.sub (.callF 414 []) (.var 0)) (.lit (.int (1))))))),
    (.ret (.sub (.dsp false [(.lit (.str "+")), (.lit (.str "-")), (.lit (.str "*")), (.lit (.str "<<")), (.lit (.str ">>"))] [(.bin .Add (.var 2) (.var 3)), (.bin .Sub (.var 2) (.var 3)), (.bin .Mult (.var 2) (.var 3)), (.bin .Mult (.var 2) (.var 5)), (.bin .FloorDiv (.var 2) (.var 5))]) (.var 1)))]⟩
noncomputable def fn_449 : Fn := ⟨"_law_wrapped", [0, 1], [], 5,
    [(.unp false [2, 3] (.sub (.callF 414 []) (.var 0))),
    (.ret (.bin .Add (.bin .Mod (.bin .Sub (.var 1) (.var 2)) (.bin .Pow (.lit (.int (2))) (.var 3))) (.var 2)))]⟩
noncomputable def fn_456 : Fn := ⟨"_law_over", [0, 1, 2, 3, 4], [], 9,
    [(.unp false [5, 6] (.sub (.callF 414 []) (.var 0))),
    (.ite (.cmp .In (.var 1) (.lst false [(.lit (.str "<<")), (.lit (.str ">>"))])) [(.ret (.not (.cmp2 .LtE .Lt (.lit (.int (0))) (.var 3) (.var 6))))] []),
    (.ite (.bop true [(.cmp .Eq (.var 1) (.lit (.str "%"))), (.cmp .Lt (.var 5) (.lit (.int (0)))), (.cmp .Eq (.var 3) (.neg (.lit (.int (1)))))]) [(.ret (.cmp .Eq (.var 2) (.var 5)))] []),
    (.ret (.cmp .NotEq (.var 4) (.callF 449 [(.var 0), (.var 4)])))]⟩
noncomputable def fn_463 : Fn := ⟨"_law_value", [0, 1], [], 6,
    [(.unp false [2, 3] (.sub (.callF 414 []) (.var 1))),
    (.ret (.callF 435 [(.var 0), (.lst false [(.var 2), (.bin .Sub (.bin .Add (.var 2) (.bin .Pow (.lit (.int (2))) (.var 3))) (.lit (.int (1)))), (.lit (.int (0))), (.lit (.int (1))), (.lit (.int (2))), (.lit (.int (3))), (.lit (.int (7))), (.ite (.cmp .Lt (.var 2) (.lit (.int (0)))) (.neg (.lit (.int (1)))) (.lit (.int (5)))), (.bin .Add (.var 2) (.lit (.int (1)))), (.lit (.int (100)))])]))]⟩
noncomputable def fn_468 : Fn := ⟨"_law_row_right", [0], [], 36,
    [(.asg 1 (.callF 435 [(.var 0), (.lst false [(.lit (.str "u8")), (.lit (.str "i8")), (.lit (.str "i32")), (.lit (.str "u64"))])])),
    (.unp true [2, 3, 4] (.tup [(.tup [(.lit (.str "int")), (.var 1)]), (.tup [(.lit (.str "bool"))]), (.tup [(.lit (.str "int")), (.lit (.str "i32"))])])),
    (.asg 5 (.callC 193 [(.lit (.str "f")), (.lit (.int (0))), (.comp false (.tup [(.var 1), (.lit (.bool true)), (.lit .none)]) (.one 1) (.lst false [(.var 2), (.var 2), (.tup [(.lit (.str "tuple")), (.tup [(.var 2), (.var 3)])]), (.var 3), (.var 4)]) [] [none, none])])),
    (.unp true [6, 7] (.tup [(.tup [(.lit (.str "copy")), (.tup [(.lit (.int (1))), (.tup [])])]), (.callF 463 [(.var 0), (.var 1)])])),
    (.unp true [8, 9] (.tup [(.lst false [(.tup [(.lit (.str "assign")), (.tup [(.lit (.int (1))), (.tup [])]), (.tup [(.lit (.str "use")), (.tup [(.lit (.str "const")), (.var 2), (.var 7)])])])]), (.lst true [])])),
    (.asg 10 (.callB false .list [(.var 8)])),
    (.forR 11 (.bin .Add (.lit (.int (1))) (.callF 428 [(.var 0), (.lit (.int (6)))])) [(.unp true [12, 13] (.tup [(.callF 435 [(.var 0), (.lst false [(.lit (.str "+")), (.lit (.str "-")), (.lit (.str "*")), (.lit (.str "/")), (.lit (.str "%")), (.lit (.str "<<")), (.lit (.str ">>"))])]), (.callF 463 [(.var 0), (.var 1)])])),
    (.asg 14 (.tup [(.lit (.str "const")), (.var 2), (.var 13)])),
    (.asg 8 (.bin .Add (.var 8) (.lst false [(.tup [(.lit (.str "assign")), (.tup [(.lit (.int (3))), (.tup [])]), (.tup [(.lit (.str "binary")), (.lit (.str "==")), (.var 14), (.tup [(.lit (.str "const")), (.var 2), (.lit (.int (0)))])])])]))),
    (.asg 15 (.bop true [(.cmp .In (.var 12) (.lst false [(.lit (.str "/")), (.lit (.str "%"))])), (.cmp .Eq (.var 13) (.lit (.int (0))))])),
    (.expr (.methB .append (.attr (.var 5) "blocks") [(.lst false [(.var 8), (.tup [(.lit (.str "assert")), (.tup [(.lit (.str "copy")), (.tup [(.lit (.int (3))), (.tup [])])]), (.lit (.bool false)), (.lit (.str "none")), (.bin .Add (.callB false .len [(.attr (.var 5) "blocks")]) (.lit (.int (1))))])])])),
    (.asg 10 (.bin .Add (.var 10) (.lst false [(.tup [(.lit (.str "assign")), (.tup [(.lit (.int (3))), (.tup [])]), (.tup [(.lit (.str "use")), (.tup [(.lit (.str "const")), (.var 3), (.cmp .Eq (.var 13) (.lit (.int (0))))])])])]))),
    (.asg 16 (.callB false .len [(.attr (.var 5) "blocks")])),
    (.asg 17 (.ite (.cmp .NotEq (.var 13) (.lit (.int (0)))) (.tup [(.lit (.str "goto")), (.var 16)]) (.tup [(.lit (.str "assert")), (.tup [(.lit (.str "const")), (.var 3), (.lit (.bool true))]), (.lit (.bool false)), (.lit (.str "none")), (.var 16)]))),
    (.expr (.methB .append (.var 9) [(.lst false [(.var 10), (.var 17)])])),
    (.asg 18 (.callF 442 [(.var 1), (.var 12), (.var 7), (.var 13)])),
    (.asg 19 (.tup [(.lit (.str "assign")), (.tup [(.lit (.int (2))), (.tup [])]), (.tup [(.lit (.str "checked")), (.var 12), (.var 6), (.var 14)])])),
    (.expr (.methB .append (.attr (.var 5) "blocks") [(.lst false [(.lst false [(.var 19)]), (.tup [(.lit (.str "assert")), (.tup [(.lit (.str "copy")), (.tup [(.lit (.int (2))), (.tup [(.tup [(.lit (.str "field")), (.lit (.int (1)))])])])]), (.lit (.bool false)), (.lit (.str "over")), (.bin .Add (.var 16) (.lit (.int (1))))])])])),
    (.asg 20 (.tup [(.lit (.str "assign")), (.tup [(.lit (.int (2))), (.tup [])]), (.tup [(.lit (.str "checked")), (.var 12), (.tup [(.lit (.str "const")), (.var 2), (.var 7)]), (.var 14)])])),
    (.ite (.var 15) [(.ret (.callF 482 [(.var 5), (.bin .Add (.var 9) (.lst false [(.lst false [(.lst false [(.var 20)]), (.sub (.sub (.attr (.var 5) "blocks") (.neg (.lit (.int (1))))) (.lit (.int (1))))])])), (.var 7)]))] []),
    (.asg 21 (.callF 456 [(.var 1), (.var 12), (.var 7), (.var 13), (.var 18)])),
    (.asg 17 (.ite (.var 21) (.tup [(.lit (.str "assert")), (.tup [(.lit (.str "const")), (.var 3), (.lit (.bool true))]), (.lit (.bool false)), (.lit (.str "over")), (.bin .Add (.var 16) (.lit (.int (1))))]) (.tup [(.lit (.str "goto")), (.bin .Add (.var 16) (.lit (.int (1))))]))),
    (.expr (.methB .append (.var 9) [(.lst false [(.lst false [(.var 20)]), (.var 17)])])),
    (.asg 7 (.callF 449 [(.var 1), (.var 18)])),
    (.asg 8 (.lst false [(.tup [(.lit (.str "assign")), (.tup [(.lit (.int (1))), (.tup [])]), (.tup [(.lit (.str "use")), (.tup [(.lit (.str "move")), (.tup [(.lit (.int (2))), (.tup [(.tup [(.lit (.str "field")), (.lit (.int (0)))])])])])])]), (.tup [(.lit (.str "print")), (.var 6)])])),
    (.asg 10 (.lst false [(.tup [(.lit (.str "assign")), (.tup [(.lit (.int (1))), (.tup [])]), (.tup [(.lit (.str "use")), (.tup [(.lit (.str "const")), (.var 2), (.var 7)])])]), (.tup [(.lit (.str "print")), (.tup [(.lit (.str "const")), (.var 2), (.var 7)])])])),
    (.unp false [22, 23] (.callF 475 [(.var 0), (.var 1), (.var 7)])),
    (.unp true [8, 10] (.tup [(.bin .Add (.var 8) (.var 22)), (.bin .Add (.var 10) (.var 23))]))]),
    (.ret (.callF 482 [(.var 5), (.bin .Add (.var 9) (.lst false [(.lst false [(.var 10), (.tup [(.lit (.str "return"))])])])), (.lit .none), (.var 8)]))]⟩
noncomputable def fn_475 : Fn := ⟨"_law_more", [0, 1, 2], [], 17,
    [(.unp false [3, 4, 5, 6] (.tup [(.tup [(.lit (.str "int")), (.var 1)]), (.tup [(.lit (.str "bool"))]), (.tup [(.lit (.str "int")), (.lit (.str "i32"))]), (.tup [(.lit (.str "copy")), (.tup [(.lit (.int (1))), (.tup [])])])])),
    (.asg 7 (.callF 428 [(.var 0), (.lit (.int (4)))])),
    (.ite (.cmp .Eq (.var 7) (.lit (.int (0)))) [(.asg 8 (.callF 449 [(.lit (.str "i32")), (.var 2)])),
    (.ret (.tup [(.lst false [(.tup [(.lit (.str "assign")), (.tup [(.lit (.int (4))), (.tup [])]), (.tup [(.lit (.str "cast")), (.var 6), (.var 5)])])]), (.lst false [(.tup [(.lit (.str "assign")), (.tup [(.lit (.int (4))), (.tup [])]), (.tup [(.lit (.str "use")), (.tup [(.lit (.str "const")), (.var 5), (.var 8)])])])])]))] []),
    (.ite (.cmp .Eq (.var 7) (.lit (.int (1)))) [(.unp true [9, 10] (.tup [(.callF 435 [(.var 0), (.lst false [(.lit (.str "!")), (.lit (.str "-"))])]), (.callF 449 [(.var 1), (.bin .Sub (.neg (.lit (.int (1)))) (.var 2))])])),
    (.asg 11 (.ite (.cmp .Eq (.var 9) (.lit (.str "!"))) (.var 10) (.callF 449 [(.var 1), (.neg (.var 2))]))),
    (.ret (.tup [(.lst false [(.tup [(.lit (.str "assign")), (.tup [(.lit (.int (0))), (.tup [])]), (.tup [(.lit (.str "unary")), (.var 9), (.var 6)])])]), (.lst false [(.tup [(.lit (.str "assign")), (.tup [(.lit (.int (0))), (.tup [])]), (.tup [(.lit (.str "use")), (.tup [(.lit (.str "const")), (.var 3), (.var 11)])])])])]))] []),
    (.ite (.cmp .Eq (.var 7) (.lit (.int (2)))) [(.asg 12 (.callF 435 [(.var 0), (.lst false [(.lit (.str "<")), (.lit (.str "<=")), (.lit (.str ">")), (.lit (.str ">=")), (.lit (.str "!="))])])),
    (.asg 11 (.sub (.dsp false [(.lit (.str "<")), (.lit (.str "<=")), (.lit (.str ">")), (.lit (.str ">=")), (.lit (.str "!="))] [(.cmp .Lt (.var 2) (.lit (.int (3)))), (.cmp .LtE (.var 2) (.lit (.int (3)))), (.cmp .Gt (.var 2) (.lit (.int (3)))), (.cmp .GtE (.var 2) (.lit (.int (3)))), (.cmp .NotEq (.var 2) (.lit (.int (3))))]) (.var 12))),
    (.asg 13 (.tup [(.lit (.str "assign")), (.tup [(.lit (.int (3))), (.tup [])]), (.tup [(.lit (.str "binary")), (.var 12), (.var 6), (.tup [(.lit (.str "const")), (.var 3), (.lit (.int (3)))])])])),
    (.ret (.tup [(.lst false [(.var 13)]), (.lst false [(.tup [(.lit (.str "assign")), (.tup [(.lit (.int (3))), (.tup [])]), (.tup [(.lit (.str "use")), (.tup [(.lit (.str "const")), (.var 4), (.var 11)])])])])]))] []),
    (.ret (.tup [(.lst false []), (.lst false [])]))]⟩
noncomputable def fn_482 : Fn := ⟨"_law_told", [0, 1, 2, 3], [(.d (.tuple []))], 9,
    [(.asg 4 (.callB false .len [(.attr (.var 0) "blocks")])),
    (.expr (.methB .append (.attr (.var 0) "blocks") [(.lst false [(.callB false .list [(.var 3)]), (.tup [(.lit (.str "return"))])])])),
    (.asg 5 (.attr (.callF 407 [(.var 0)]) "blocks")),
    (.ite (.cmp .NotEq (.comp false (.lst false [(.callB false .list [(.var 1)]), (.var 2)]) (.many [1, 2]) (.slc (.var 5) none (some (.callB false .len [(.var 1)]))) [] [none, none, none, none]) (.var 1)) [(.ret (.lit (.bool false)))] []),
    (.ret (.bop false [(.cmp .Is (.var 2) (.lit .none)), (.cmp .Eq (.sub (.sub (.var 5) (.var 4)) (.lit (.int (0)))) (.callB false .list [(.var 3)]))]))]⟩
noncomputable def fn_487 : Fn := ⟨"_law_round_right", [], [], 12,
    [(.unp false [0, 1] (.tup [(.tup [(.lit (.str "int")), (.lit (.str "u8"))]), (.tup [(.lit (.str "bool"))])])),
    (.asg 2 (.callC 193 [(.lit (.str "g")), (.lit (.int (2))), (.bin .Add (.bin .Mult (.lst false [(.tup [(.var 0), (.lit (.bool true)), (.lit .none)])]) (.lit (.int (5)))) (.lst false [(.tup [(.var 1), (.lit (.bool true)), (.lit .none)])]))])),
    (.unp false [3, 4] (.tup [(.tup [(.lit (.str "copy")), (.tup [(.lit (.int (3))), (.tup [])])]), (.tup [(.lit (.str "copy")), (.tup [(.lit (.int (4))), (.tup [])])])])),
    (.asg 5 (.lst false [(.tup [(.lit (.str "assign")), (.tup [(.lit (.int (3))), (.tup [])]), (.tup [(.lit (.str "use")), (.tup [(.lit (.str "const")), (.var 0), (.lit (.int (0)))])])]), (.tup [(.lit (.str "assign")), (.tup [(.lit (.int (4))), (.tup [])]), (.tup [(.lit (.str "use")), (.tup [(.lit (.str "const")), (.var 0), (.lit (.int (2)))])])])])),
    (.expr (.methB .append (.attr (.var 2) "blocks") [(.lst false [(.var 5), (.tup [(.lit (.str "goto")), (.lit (.int (1)))])])])),
    (.asg 6 (.tup [(.lit (.str "assign")), (.tup [(.lit (.int (5))), (.tup [])]), (.tup [(.lit (.str "binary")), (.lit (.str "<")), (.var 3), (.tup [(.lit (.str "copy")), (.tup [(.lit (.int (2))), (.tup [])])])])])),
    (.expr (.methB .append (.attr (.var 2) "blocks") [(.lst false [(.lst false [(.var 6)]), (.tup [(.lit (.str "switch")), (.tup [(.lit (.str "copy")), (.tup [(.lit (.int (5))), (.tup [])])]), (.tup [(.tup [(.lit (.bool false)), (.lit (.int (3)))])]), (.lit (.int (2)))])])])),
    (.expr (.methB .append (.attr (.var 2) "blocks") [(.lst false [(.lst false [(.tup [(.lit (.str "assign")), (.tup [(.lit (.int (3))), (.tup [])]), (.tup [(.lit (.str "binary")), (.lit (.str "+")), (.var 3), (.var 4)])]), (.tup [(.lit (.str "print")), (.var 4)])]), (.tup [(.lit (.str "goto")), (.lit (.int (1)))])])])),
    (.expr (.methB .append (.attr (.var 2) "blocks") [(.lst false [(.lst false [(.tup [(.lit (.str "print")), (.var 3)]), (.tup [(.lit (.str "print")), (.var 4)])]), (.tup [(.lit (.str "return"))])])])),
    (.asg 7 (.tup [(.lit (.str "const")), (.var 0), (.lit (.int (2)))])),
    (.asg 8 (.tup [(.lit (.str "assign")), (.tup [(.lit (.int (3))), (.tup [])]), (.tup [(.lit (.str "binary")), (.lit (.str "+")), (.var 3), (.var 7)])])),
    (.asg 9 (.lst true [(.sub (.attr (.var 2) "blocks") (.lit (.int (0)))), (.sub (.attr (.var 2) "blocks") (.lit (.int (1)))), (.lst false [(.lst false [(.var 8), (.tup [(.lit (.str "print")), (.var 7)])]), (.tup [(.lit (.str "goto")), (.lit (.int (1)))])])])),
    (.expr (.methB .append (.var 9) [(.lst false [(.lst false [(.tup [(.lit (.str "print")), (.var 3)]), (.tup [(.lit (.str "print")), (.var 7)])]), (.tup [(.lit (.str "return"))])])])),
    (.ret (.cmp .Eq (.comp false (.callB false .list [(.var 1)]) (.one 1) (.attr (.callF 407 [(.var 2)]) "blocks") [] [none, none, none]) (.comp false (.callB false .list [(.var 1)]) (.one 1) (.var 9) [] [none, none, none])))]⟩
noncomputable def fn_494 : Fn := ⟨"_law_lent_right", [], [], 7,
    [(.asg 0 (.tup [(.lit (.str "int")), (.lit (.str "u8"))])),
    (.asg 1 (.callC 193 [(.lit (.str "h")), (.lit (.int (0))), (.bin .Add (.bin .Mult (.lst false [(.tup [(.var 0), (.lit (.bool true)), (.lit .none)])]) (.lit (.int (3)))) (.lst false [(.tup [(.tup [(.lit (.str "ref")), (.lit .none), (.lit (.bool true)), (.var 0)]), (.lit (.bool true)), (.lit .none)])]))])),
    (.asg 2 (.lst true [(.tup [(.lit (.str "assign")), (.tup [(.lit (.int (1))), (.tup [])]), (.tup [(.lit (.str "use")), (.tup [(.lit (.str "const")), (.var 0), (.lit (.int (4)))])])]), (.tup [(.lit (.str "assign")), (.tup [(.lit (.int (2))), (.tup [])]), (.tup [(.lit (.str "use")), (.tup [(.lit (.str "const")), (.var 0), (.lit (.int (6)))])])])])),
    (.expr (.methB .append (.var 2) [(.tup [(.lit (.str "assign")), (.tup [(.lit (.int (3))), (.tup [])]), (.tup [(.lit (.str "ref")), (.lit .none), (.lit (.str "mut")), (.tup [(.lit (.int (1))), (.tup [])])])])])),
    (.expr (.methB .append (.var 2) [(.tup [(.lit (.str "assign")), (.tup [(.lit (.int (3))), (.tup [(.tup [(.lit (.str "deref"))])])]), (.tup [(.lit (.str "use")), (.tup [(.lit (.str "copy")), (.tup [(.lit (.int (2))), (.tup [])])])])])])),
    (.expr (.methB .append (.attr (.var 1) "blocks") [(.lst false [(.bin .Add (.var 2) (.lst false [(.tup [(.lit (.str "print")), (.tup [(.lit (.str "copy")), (.tup [(.lit (.int (1))), (.tup [])])])]), (.tup [(.lit (.str "print")), (.tup [(.lit (.str "copy")), (.tup [(.lit (.int (2))), (.tup [])])])])])), (.tup [(.lit (.str "return"))])])])),
    (.asg 3 (.tup [(.lit (.str "const")), (.var 0), (.lit (.int (6)))])),
    (.asg 4 (.bin .Add (.slc (.var 2) none (some (.lit (.int (3))))) (.lst false [(.tup [(.lit (.str "assign")), (.tup [(.lit (.int (3))), (.tup [(.tup [(.lit (.str "deref"))])])]), (.tup [(.lit (.str "use")), (.var 3)])]), (.tup [(.lit (.str "print")), (.tup [(.lit (.str "copy")), (.tup [(.lit (.int (1))), (.tup [])])])]), (.tup [(.lit (.str "print")), (.var 3)])]))),
    (.ret (.cmp .Eq (.sub (.sub (.attr (.callF 407 [(.var 1)]) "blocks") (.lit (.int (0)))) (.lit (.int (0)))) (.var 4)))]⟩
noncomputable def fn_501 : Fn := ⟨"law", [0], [], 5,
    [(.ret (.bop true [(.callF 468 [(.callF 421 [(.var 0), (.lst false [])])]), (.callF 487 []), (.callF 494 [])]))]⟩
noncomputable def TL : Tab := ⟨[(21, fn_21), (36, fn_36), (62, fn_62), (69, fn_69), (76, fn_76), (83, fn_83), (90, fn_90), (97, fn_97), (104, fn_104), (111, fn_111), (118, fn_118), (125, fn_125), (132, fn_132), (147, fn_147), (154, fn_154), (161, fn_161), (168, fn_168), (175, fn_175), (182, fn_182), (190, fn_190), (202, fn_202), (207, fn_207), (214, fn_214), (221, fn_221), (228, fn_228), (235, fn_235), (249, fn_249), (256, fn_256), (263, fn_263), (270, fn_270), (284, fn_284), (298, fn_298), (305, fn_305), (310, fn_310), (317, fn_317), (324, fn_324), (331, fn_331), (338, fn_338), (345, fn_345), (350, fn_350), (357, fn_357), (362, fn_362), (369, fn_369), (376, fn_376), (381, fn_381), (388, fn_388), (393, fn_393), (407, fn_407), (414, fn_414), (421, fn_421), (428, fn_428), (435, fn_435), (442, fn_442), (449, fn_449), (456, fn_456), (463, fn_463), (468, fn_468), (475, fn_475), (482, fn_482), (487, fn_487), (494, fn_494), (501, fn_501)],
  [(193, ⟨147, [("__init__", 147)], []⟩),
   (273, ⟨249, [("__init__", 249), ("at_place", 256), ("at_operand", 263), ("forget", 270)], []⟩),
   (396, ⟨298, [("__init__", 298), ("type_of", 305), ("value_of", 310), ("of_two", 317), ("of_one", 324), ("of_cast", 331), ("step", 338), ("behind", 345), ("gone_on", 350), ("known_target", 357), ("meet", 362), ("follow", 369), ("put", 376), ("put_rvalue", 381), ("put_statement", 388), ("put_terminator", 393)], []⟩)]⟩
theorem at_21 : findN 21 TL.funs = some fn_21 := rfl
theorem at_36 : findN 36 TL.funs = some fn_36 := rfl
theorem at_62 : findN 62 TL.funs = some fn_62 := rfl
theorem at_69 : findN 69 TL.funs = some fn_69 := rfl
theorem at_76 : findN 76 TL.funs = some fn_76 := rfl
theorem at_83 : findN 83 TL.funs = some fn_83 := rfl
theorem at_90 : findN 90 TL.funs = some fn_90 := rfl
theorem at_97 : findN 97 TL.funs = some fn_97 := rfl
theorem at_104 : findN 104 TL.funs = some fn_104 := rfl
theorem at_111 : findN 111 TL.funs = some fn_111 := rfl
theorem at_118 : findN 118 TL.funs = some fn_118 := rfl
theorem at_125 : findN 125 TL.funs = some fn_125 := rfl
theorem at_132 : findN 132 TL.funs = some fn_132 := rfl
theorem at_147 : findN 147 TL.funs = some fn_147 := rfl
theorem at_154 : findN 154 TL.funs = some fn_154 := rfl
theorem at_161 : findN 161 TL.funs = some fn_161 := rfl
theorem at_168 : findN 168 TL.funs = some fn_168 := rfl
theorem at_175 : findN 175 TL.funs = some fn_175 := rfl
theorem at_182 : findN 182 TL.funs = some fn_182 := rfl
theorem at_190 : findN 190 TL.funs = some fn_190 := rfl
theorem at_202 : findN 202 TL.funs = some fn_202 := rfl
theorem at_207 : findN 207 TL.funs = some fn_207 := rfl
theorem at_214 : findN 214 TL.funs = some fn_214 := rfl
theorem at_221 : findN 221 TL.funs = some fn_221 := rfl
theorem at_228 : findN 228 TL.funs = some fn_228 := rfl
theorem at_235 : findN 235 TL.funs = some fn_235 := rfl
theorem at_249 : findN 249 TL.funs = some fn_249 := rfl
theorem at_256 : findN 256 TL.funs = some fn_256 := rfl
theorem at_263 : findN 263 TL.funs = some fn_263 := rfl
theorem at_270 : findN 270 TL.funs = some fn_270 := rfl
theorem at_284 : findN 284 TL.funs = some fn_284 := rfl
theorem at_298 : findN 298 TL.funs = some fn_298 := rfl
theorem at_305 : findN 305 TL.funs = some fn_305 := rfl
theorem at_310 : findN 310 TL.funs = some fn_310 := rfl
theorem at_317 : findN 317 TL.funs = some fn_317 := rfl
theorem at_324 : findN 324 TL.funs = some fn_324 := rfl
theorem at_331 : findN 331 TL.funs = some fn_331 := rfl
theorem at_338 : findN 338 TL.funs = some fn_338 := rfl
theorem at_345 : findN 345 TL.funs = some fn_345 := rfl
theorem at_350 : findN 350 TL.funs = some fn_350 := rfl
theorem at_357 : findN 357 TL.funs = some fn_357 := rfl
theorem at_362 : findN 362 TL.funs = some fn_362 := rfl
theorem at_369 : findN 369 TL.funs = some fn_369 := rfl
theorem at_376 : findN 376 TL.funs = some fn_376 := rfl
theorem at_381 : findN 381 TL.funs = some fn_381 := rfl
theorem at_388 : findN 388 TL.funs = some fn_388 := rfl
theorem at_393 : findN 393 TL.funs = some fn_393 := rfl
theorem at_407 : findN 407 TL.funs = some fn_407 := rfl
theorem at_414 : findN 414 TL.funs = some fn_414 := rfl
theorem at_421 : findN 421 TL.funs = some fn_421 := rfl
theorem at_428 : findN 428 TL.funs = some fn_428 := rfl
theorem at_435 : findN 435 TL.funs = some fn_435 := rfl
theorem at_442 : findN 442 TL.funs = some fn_442 := rfl
theorem at_449 : findN 449 TL.funs = some fn_449 := rfl
theorem at_456 : findN 456 TL.funs = some fn_456 := rfl
theorem at_463 : findN 463 TL.funs = some fn_463 := rfl
theorem at_468 : findN 468 TL.funs = some fn_468 := rfl
theorem at_475 : findN 475 TL.funs = some fn_475 := rfl
theorem at_482 : findN 482 TL.funs = some fn_482 := rfl
theorem at_487 : findN 487 TL.funs = some fn_487 := rfl
theorem at_494 : findN 494 TL.funs = some fn_494 := rfl
theorem at_501 : findN 501 TL.funs = some fn_501 := rfl
end Mine
end
section
open PySem PySem.W PyProof.Rows PySem.Calls PySem.SeqAt
set_option maxRecDepth 100000
namespace Mine
noncomputable def muts : List (Nat × Nat) := [(83, 22), (117, 12), (123, 13), (159, 12), (168, 21), (196, 24), (200, 22), (303, 15), (347, 15), (360, 11), (398, 70), (460, 10), (466, 11)]
noncomputable def mvs : List (Nat × Nat) := [(121, 11), (164, 11), (351, 32)]
noncomputable def bitsEs (P : Params) : Array DictEntry := #[{ hash := PyData.keyHash P ("i8" : Str), key := .str "i8" 246, val := .int 8 247 },
  { hash := PyData.keyHash P ("i16" : Str), key := .str "i16" 248, val := .int 16 249 },
  { hash := PyData.keyHash P ("i32" : Str), key := .str "i32" 250, val := .int 32 251 },
  { hash := PyData.keyHash P ("i64" : Str), key := .str "i64" 252, val := .int 64 253 },
  { hash := PyData.keyHash P ("u8" : Str), key := .str "u8" 254, val := .int 8 255 },
  { hash := PyData.keyHash P ("u16" : Str), key := .str "u16" 256, val := .int 16 257 },
  { hash := PyData.keyHash P ("u32" : Str), key := .str "u32" 258, val := .int 32 259 },
  { hash := PyData.keyHash P ("u64" : Str), key := .str "u64" 260, val := .int 64 261 },
  { hash := PyData.keyHash P ("usize" : Str), key := .str "usize" 262, val := .int 64 263 }]
noncomputable def bitsObj (P : Params) : Obj := { cls := .type "dict", data := .dict (bitsEs P) 9 }
noncomputable def bitsKv : List (Str × Value) := [("i8", .int 8 247), ("i16", .int 16 249), ("i32", .int 32 251), ("i64", .int 64 253), ("u8", .int 8 255), ("u16", .int 16 257), ("u32", .int 32 259), ("u64", .int 64 261), ("usize", .int 64 263)]
noncomputable def bitsM : List (Str × PyData) := [("i8", .int 8), ("i16", .int 16), ("i32", .int 32), ("i64", .int 64), ("u8", .int 8), ("u16", .int 16), ("u32", .int 32), ("u64", .int 64), ("usize", .int 64)]
theorem bits_dict (prog : Program) (w : World) : (bitsObj w.params).IsDictOf (PySem.strKind prog w) bitsKv := by
  refine ⟨bitsEs w.params, 9, ⟨rfl, rfl, rfl⟩, rfl, ?_, ?_, ?_⟩
  · intro e he
    have he' : e ∈ (bitsEs w.params).toList := by simpa using he
    simp only [bitsEs, List.mem_cons, List.not_mem_nil, or_false] at he'
    rcases he' with rfl | rfl | rfl | rfl | rfl | rfl | rfl | rfl | rfl
    · exact ⟨"i8", strKind_is _ _ _ _, rfl⟩
    · exact ⟨"i16", strKind_is _ _ _ _, rfl⟩
    · exact ⟨"i32", strKind_is _ _ _ _, rfl⟩
    · exact ⟨"i64", strKind_is _ _ _ _, rfl⟩
    · exact ⟨"u8", strKind_is _ _ _ _, rfl⟩
    · exact ⟨"u16", strKind_is _ _ _ _, rfl⟩
    · exact ⟨"u32", strKind_is _ _ _ _, rfl⟩
    · exact ⟨"u64", strKind_is _ _ _ _, rfl⟩
    · exact ⟨"usize", strKind_is _ _ _ _, rfl⟩
  · exact .cons (strKind_is _ _ _ _) rfl (.cons (strKind_is _ _ _ _) rfl (.cons (strKind_is _ _ _ _) rfl (.cons (strKind_is _ _ _ _) rfl (.cons (strKind_is _ _ _ _) rfl (.cons (strKind_is _ _ _ _) rfl (.cons (strKind_is _ _ _ _) rfl (.cons (strKind_is _ _ _ _) rfl (.cons (strKind_is _ _ _ _) rfl (.nil)))))))))
  · decide
theorem bits_pd (K : Addr → Obj → Prop) : PD (RD K) bitsM bitsKv := .cons (.int _ _) (.cons (.int _ _) (.cons (.int _ _) (.cons (.int _ _) (.cons (.int _ _) (.cons (.int _ _) (.cons (.int _ _) (.cons (.int _ _) (.cons (.int _ _) (.nil)))))))))

noncomputable def lawStmt : PySem.Stmt := .Return (some (.BoolOp .And
  [.Call (.Name (Str.ofString "_law_row_right") { line := 474, col := 11, endLine := 474, endCol := 25 })
      [.Call (.Name (Str.ofString "_law_pool") { line := 474, col := 26, endLine := 474, endCol := 35 })
          [.Name (Str.ofString "script") { line := 474, col := 36, endLine := 474, endCol := 42 }, .List [] { line := 474, col := 44, endLine := 474, endCol := 46 }] [] { line := 474, col := 26, endLine := 474, endCol := 47 }]
      [] { line := 474, col := 11, endLine := 474, endCol := 48 },
    .Call (.Name (Str.ofString "_law_round_right") { line := 474, col := 53, endLine := 474, endCol := 69 }) [] [] { line := 474, col := 53, endLine := 474, endCol := 71 },
    .Call (.Name (Str.ofString "_law_lent_right") { line := 474, col := 76, endLine := 474, endCol := 91 }) [] [] { line := 474, col := 76, endLine := 474, endCol := 93 }]
  { line := 474, col := 11, endLine := 474, endCol := 93 })) { line := 474, col := 4, endLine := 474, endCol := 93 }
noncomputable def lawNames : List (Str × NameKind) := [(Str.ofString "script", .local), (Str.ofString "_law_row_right", .globalImplicit), (Str.ofString "_law_pool", .globalImplicit), (Str.ofString "_law_round_right", .globalImplicit), (Str.ofString "_law_lent_right", .globalImplicit)]
noncomputable def lawCE (K : Frag) : CE := ⟨lawNames, gl2 K, muts, mvs⟩
/-- what the written heap of the text must show -/
structure Good (P : Params) (K : Frag) : Prop where
  tab : tabB K (gl2 K) muts mvs = true
  funs : mkFuns K (gl2 K) muts mvs K = TL.funs
  c1 : clsB K TL 193 = true
  c2 : clsB K TL 273 = true
  c3 : clsB K TL 396 = true
  bat : K.lookup 55 = some (bitsObj P)
  bgl : glOf K "BITS" = some (.val (.sdict bitsM))
  bns : nsIn K mainGlobals "BITS" = some (some (.ref 55))
  law : [lawStmt].map (cS 60 (lawCE K)) = fn_501.body
noncomputable def GG (prog : Program) (w : World) (K : Frag) (p : Program) (loose : List Str) (mg mb : Str → Option Value) : Gl := { prog := prog, w := w, K := K, p := p, loose := loose, mg := mg, mb := mb, cg := fun C => memN C okCls = true }
section
variable {prog : Program} {w : World} {K : Frag} {p : Program} {loose : List Str} {mg mb : Str → Option Value} (W : Good w.params K)
include W
theorem gl_ok : GlOk (GG prog w K p loose mg mb) where
  cg := fun a h => h
  bits := fun m h => by
    have h' : glOf K "BITS" = some (.val (.sdict m)) := h
    rw [W.bgl] at h'
    cases h'
    exact ⟨.ref 55, W.bns, .sdict W.bat (bits_dict prog w) (bits_pd _)⟩
theorem cls_all (C : Nat) (h : (GG prog w K p loose mg mb).cg C) : ClsOk (GG prog w K p loose mg mb).K TL C := by
  have h' : memN C okCls = true := h
  have : C = 193 ∨ C = 273 ∨ C = 396 := by
    simp only [okCls, memN, Bool.or_eq_true, Bool.or_false] at h'
    rcases h' with h | h | h
    · exact .inl (Nat.eq_of_beq_eq_true h)
    · exact .inr (.inl (Nat.eq_of_beq_eq_true h))
    · exact .inr (.inr (Nat.eq_of_beq_eq_true h))
  rcases this with rfl | rfl | rfl
  · exact cls_ok W.c1
  · exact cls_ok W.c2
  · exact cls_ok W.c3
theorem rec_all (n : Nat) : RecX (GG prog w K p loose mg mb) TL (R TL n) n :=
  recX (cls_all W) (fun f fn hf => fns_ok (gl_ok W) W.tab f fn (by
    show findN f (mkFuns K (gl2 K) muts mvs K) = some fn
    rw [W.funs]; exact hf)) n
end
def Runs : Prop := ∀ (ns : List Int), ns.length ≤ 63 → ∃ st', exs (R TL 340) fn_501.body ⟨0, [], [some (.d (.list (ns.map .int))), none, none, none, none]⟩ = some (.ret (.d (.bool true)), st')

theorem ints_rds {kn : Addr → Obj → Prop} {vs : List Value} {ns : List Int} (h : IntsAre vs ns) : RDs kn (ns.map .int) vs := by
  induction h with
  | nil => exact .nil
  | cons n t _ ih => exact .cons (.int _ _) ih

theorem top_go {prog : Program} {w : World} {s₁ : Shared} {h₁ : Heap} {mg mb : Str → Option Value} {p : Program} {loose : List Str} {mean : ExcName → Option Value} {a fa : Addr} {vs : List Value} {ns : List Int} {cd : Value} {name : Str} {scope : Scope} {tk : Nat} {body : List PySem.Stmt}
    {E : Value → Shared → Prop} {Q : Flow → Shared → Prop} {m : Str → Option Value} {K : Frag} (W : Good w.params K) (RU : Runs) (hb : body = [lawStmt]) (hn : scope.names = lawNames) (hk : scope.kind = .function)
    (KX : K.In s₁.heap) (T : Top p loose mean mg mb s₁.heap) (K0 : Below callerA s₁.heap [] s₁.heap) (F : Fr s₁.heap s₁.heap.objs.size h₁ m) (hm : m "script" = some (.ref a))
    (hL : s₁.heap.IsList a vs.toArray) (hI : IntsAre vs ns) (hlen : ns.length ≤ 63)
    (q : ∀ s' m', Fr s₁.heap s₁.heap.objs.size s'.heap m' → s'.os = s₁.os → s'.gens = s₁.gens → Q (.ret (.bool true)) s') :
    wpAny (model prog w) (callerA.deeper (envOf name scope s₁.heap.objs.size fa cd)) (execs body (envOf name scope s₁.heap.objs.size fa cd)) Q E { heap := h₁, gens := s₁.gens, drawn := s₁.drawn, toks := tk, os := s₁.os } := by
  subst hb
  let env := envOf name scope s₁.heap.objs.size fa cd
  let c : Cx := { hb := s₁.heap, base := s₁.heap, outer := [], h₀ := s₁.heap, L := s₁.heap.objs.size, m := m, fenv := env, env := env, A := callerA.deeper env, cells := [], cm := fun _ => none, pri := [] }
  let G : Gl := GG prog w K p loose mg mb
  have O : Ok G c := ⟨KX, fun _ _ e => e, KX, topRead_of T, ⟨_, K0⟩, Around.frames_deeper K0.stack, rfl, hk, rfl, hk, rfl, rfl, .nil⟩
  have hsc : scopeOk lawNames = true := by decide +kernel
  have ck : ∀ x kd, kindAt x lawNames = some kd → env.kindOf x = some kd := fun x kd h => by
    rw [kindAt_lookup] at h
    show scope.names.lookup x = _
    rw [hn]; exact h
  have Ck : CeOk G (lawCE K) c := by
    refine ⟨gl2_ok (gl_ok W), fun x hx => ?_, fun x i hi => ?_, scopeOk_nd hsc, fun x hx => ck x _ hx, fun x hx => absurd rfl (scopeOk_mem hsc (kindAt_mem hx)).2⟩
    · have hx' : isGl x lawNames = true := hx
      unfold isGl at hx'
      split at hx'
      · exact ck x _ (by assumption)
      · cases hx'
    · obtain ⟨d, kd, k1, k2, k3, k4⟩ := slotAt_get hi
      rw [Nat.zero_add] at k1; subst k1
      exact ⟨kd, k2, k4⟩
  have Rm : Room 340 c.A := by
    refine ⟨?_, ?_⟩
    · show 1 + claimMargin + 1 + 2 * 340 < recursionLimit; decide +kernel
    · show 4 + 3 + 20 * 340 + 200 < cLine; decide +kernel
  obtain ⟨st', hrun⟩ := RU ns hlen
  rw [← W.law] at hrun
  obtain ⟨hb1, run⟩ := exs_ok (rec_all W 340) O ⟨rfl, rfl⟩ List.nodup_nil Rm Ck hrun
  let s₂ : Shared := { heap := h₁, gens := s₁.gens, drawn := s₁.drawn, toks := tk, os := s₁.os }
  refine run ⟨m, [], fun _ => none, .nil⟩ ⟨[], [], []⟩ s₂ ⟨F, News.nil, List.nodup_nil, rfl, rfl, fun i o a b e => by cases e⟩ ?_ (Nat.le_refl _) E Q ?_
  · intro i x kd v h1 h2 h3
    match i, h1, h3 with
    | 0, h1, h3 =>
      cases h1; cases h3
      refine ⟨.ref a, .inl ⟨ck _ _ rfl, rfl, hm⟩, ?_⟩
      obtain ⟨o, ho, hc, nn, hd⟩ := hL
      exact .d (.list (.inl ho) hc hd (ints_rds hI))
    | 1, _, h3 => cases h3
    | 2, _, h3 => cases h3
    | 3, _, h3 => cases h3
    | 4, _, h3 => cases h3
    | i + 5, h1, _ => cases h1
  · intro fl' s' g' X' S' l' q' p' _
    cases p' with
    | ret rv =>
      cases rv with
      | d rv =>
        cases rv
        exact q s' _ S'.fr q'.os q'.gens
end Mine
end
section
open PySem PySem.W
set_option maxRecDepth 100000
set_option linter.unusedSimpArgs false
namespace Mine
/-! one step of the interpreter each, as small lemmas: a run is then a small term -/
section
variable {n b : Nat} {ρ ρ' : Rho} {h h1 h2 h3 : List O} {v w u z : V} {a c e : E} {d : E} {es : List E} {vs : List V} {o : Option (V × List O)} {q : Bool}
theorem eL {x : PyData} : (R TL (n + 1)).ev (.lit x) ρ h = some (.d x, h) := rfl
theorem eG : (R TL (n + 1)).ev (.glob v) ρ h = some (v, h) := rfl
theorem eV {i : Nat} (e : ρ[i]? = some (some v)) : (R TL (n + 1)).ev (.var i) ρ h = some (v, h) := by
  show (match ρ[i]? with | some (some v) => some (v, h) | _ => none) = _
  rw [e]
theorem sn : evs (R TL n) ρ [] h = some ([], h) := rfl
theorem sc (e1 : (R TL n).ev a ρ h = some (v, h1)) (e2 : evs (R TL n) ρ es h1 = some (vs, h2)) : evs (R TL n) ρ (a :: es) h = some (v :: vs, h2) := by
  unfold evs; rw [e1]; dsimp only; rw [e2]
theorem eT {xs : List PyData} (e1 : evs (R TL n) ρ es h = some (vs, h1)) (e2 : allD vs = some xs) : (R TL (n + 1)).ev (.tup es) ρ h = some (.d (.tuple xs), h1) := by
  show (match evs (R TL n) ρ es h with | some (vs, h) => some (mkTup vs, h) | none => none) = _
  rw [e1]; dsimp only; unfold mkTup; rw [e2]
theorem eLi {xs : List PyData} (e1 : evs (R TL n) ρ es h = some (vs, h1)) (e2 : allD vs = some xs) : (R TL (n + 1)).ev (.lst false es) ρ h = some (.d (.list xs), h1) := by
  show (match evs (R TL n) ρ es h with | some (vs, h) => mkList false vs h | none => none) = _
  rw [e1]; dsimp only; unfold mkList; rw [e2]; rfl
theorem eLm {xs : List PyData} (e1 : evs (R TL n) ρ es h = some (vs, h1)) (e2 : allD vs = some xs) : (R TL (n + 1)).ev (.lst true es) ρ h = some (.loc h1.length, h1 ++ [.list xs]) := by
  show (match evs (R TL n) ρ es h with | some (vs, h) => mkList true vs h | none => none) = _
  rw [e1]; dsimp only; unfold mkList; rw [e2]; rfl
theorem pn : evp (R TL n) ρ [] [] h = some ([], [], h) := rfl
theorem pc {es' : List E} {ws : List V} (e1 : (R TL n).ev a ρ h = some (v, h1)) (e2 : (R TL n).ev c ρ h1 = some (w, h2)) (e3 : evp (R TL n) ρ es es' h2 = some (vs, ws, h3)) : evp (R TL n) ρ (a :: es) (c :: es') h = some (v :: vs, w :: ws, h3) := by
  unfold evp; rw [e1]; dsimp only; rw [e2]; dsimp only; rw [e3]
theorem eD {mu : Bool} {es' : List E} {ws : List V} (e1 : evp (R TL n) ρ es es' h = some (vs, ws, h1)) (e2 : mkDict mu vs ws h1 = o) : (R TL (n + 1)).ev (.dsp mu es es') ρ h = o := by
  show (match evp (R TL n) ρ es es' h with | some (ks, vs, h) => mkDict mu ks vs h | none => none) = _
  rw [e1]; exact e2
theorem eB {op : Operator} (e1 : (R TL n).ev a ρ h = some (v, h1)) (e2 : (R TL n).ev c ρ h1 = some (w, h2)) (e3 : binV op (rd h2 v) (rd h2 w) = some u) : (R TL (n + 1)).ev (.bin op a c) ρ h = some (u, h2) := by
  show (match (R TL n).ev a ρ h with | none => none | some (x, h) => match (R TL n).ev c ρ h with | none => none | some (y, h) => match binV op (rd h x) (rd h y) with | some v => some (v, h) | none => none) = _
  rw [e1]; dsimp only; rw [e2]; dsimp only; rw [e3]
theorem eC {op : CmpOp} (e1 : (R TL n).ev a ρ h = some (v, h1)) (e2 : (R TL n).ev c ρ h1 = some (w, h2)) (e3 : cmpV h2 op v w = some u) : (R TL (n + 1)).ev (.cmp op a c) ρ h = some (u, h2) := by
  show (match (R TL n).ev a ρ h with | none => none | some (x, h) => match (R TL n).ev c ρ h with | none => none | some (y, h) => match cmpV h op x y with | some v => some (v, h) | none => none) = _
  rw [e1]; dsimp only; rw [e2]; dsimp only; rw [e3]
theorem eC2 {op op' : CmpOp} {q' : Bool} (e1 : (R TL n).ev a ρ h = some (v, h1)) (e2 : (R TL n).ev c ρ h1 = some (w, h2)) (e3 : cmpV h2 op v w = some (.d (.bool q))) (e4 : (R TL n).ev d ρ h2 = some (u, h2)) (e5 : cmpV h2 op' w u = some (.d (.bool q'))) : (R TL (n + 1)).ev (.cmp2 op op' a c d) ρ h = some (.d (.bool (q && q')), h2) := by
  show (match (R TL n).ev a ρ h with
    | none => none
    | some (x, h) => match (R TL n).ev c ρ h with
      | none => none
      | some (y, h) => match cmpV h op x y with
        | none => none
        | some v => match truthy v with
          | none => none
          | some false => some (v, h)
          | some true => match (R TL n).ev d ρ h with
            | none => none
            | some (z, h) => match cmpV h op' y z with | some v => some (v, h) | none => none) = _
  rw [e1]; dsimp only; rw [e2]; dsimp only; rw [e3]
  cases q
  · rfl
  · show (match (R TL n).ev d ρ h2 with
      | none => none
      | some (z, h) => match cmpV h op' w z with | some v => some (v, h) | none => none) = _
    rw [e4]; dsimp only; rw [e5]; rfl
theorem eN (e1 : (R TL n).ev a ρ h = some (.d (.bool q), h1)) : (R TL (n + 1)).ev (.not a) ρ h = some (.d (.bool (!q)), h1) := by
  show (match (R TL n).ev a ρ h with | some (v, h) => (match truthy v with | some b => some (bB (!b), h) | none => none) | none => none) = _
  rw [e1]; rfl
theorem eM {i : Int} (e1 : (R TL n).ev a ρ h = some (.d (.int i), h1)) : (R TL (n + 1)).ev (.neg a) ρ h = some (.d (.int (-i)), h1) := by
  show (match (R TL n).ev a ρ h with | some (.d (.int i), h) => some (bI (-i), h) | _ => none) = _
  rw [e1]; rfl
theorem eIt (e1 : tstN (R TL n) ρ 4 c h = some (true, h1)) (e2 : (R TL n).ev a ρ h1 = o) : (R TL (n + 1)).ev (.ite c a d) ρ h = o := by
  show (match tstN (R TL n) ρ 4 c h with | some (true, h) => (R TL n).ev a ρ h | some (false, h) => (R TL n).ev d ρ h | none => none) = _
  rw [e1]; exact e2
theorem eIf (e1 : tstN (R TL n) ρ 4 c h = some (false, h1)) (e2 : (R TL n).ev d ρ h1 = o) : (R TL (n + 1)).ev (.ite c a d) ρ h = o := by
  show (match tstN (R TL n) ρ 4 c h with | some (true, h) => (R TL n).ev a ρ h | some (false, h) => (R TL n).ev d ρ h | none => none) = _
  rw [e1]; exact e2
theorem eS (e1 : (R TL n).ev a ρ h = some (v, h1)) (e2 : (R TL n).ev c ρ h1 = some (w, h2)) (e3 : subV h2 v w = some u) : (R TL (n + 1)).ev (.sub a c) ρ h = some (u, h2) := by
  show (match (R TL n).ev a ρ h with | none => none | some (x, h) => match (R TL n).ev c ρ h with | none => none | some (y, h) => match subV h x y with | some v => some (v, h) | none => none) = _
  rw [e1]; dsimp only; rw [e2]; dsimp only; rw [e3]
theorem eA {x : Str} (e1 : (R TL n).ev a ρ h = some (v, h1)) (e2 : attrV h1 v x = some u) : (R TL (n + 1)).ev (.attr a x) ρ h = some (u, h1) := by
  show (match (R TL n).ev a ρ h with | some (y, h) => (match attrV h y x with | some v => some (v, h) | none => none) | none => none) = _
  rw [e1]; dsimp only; rw [e2]
theorem aV {m C : Nat} {l : List (Str × V)} {x : Str} (e1 : h[m]? = some (.attrs C l)) (e2 : notBad (findS x l) = some u) : attrV h (.loc m) x = some u := by
  show attrO h[m]? x = _
  rw [e1]; exact e2
theorem eF {f : Nat} (e2 : (R TL n).call f vs h1 = o) (e1 : evs (R TL n) ρ es h = some (vs, h1)) : (R TL (n + 1)).ev (.callF f es) ρ h = o := by
  show (match evs (R TL n) ρ es h with | some (vs, h) => (R TL n).call f vs h | none => none) = _
  rw [e1]; exact e2
theorem eK {mu : Bool} {k : BI} (e1 : evs (R TL n) ρ es h = some (vs, h1)) (e2 : callB h1 mu k vs = o) : (R TL (n + 1)).ev (.callB mu k es) ρ h = o := by
  show (match evs (R TL n) ρ es h with | some (vs, h) => callB h mu k vs | none => none) = _
  rw [e1]; exact e2
theorem eI {m f : Nat} {C : Nat} {l : List (Str × V)} {x : Str} {k : Cl} (e5 : findN C TL.clss = some k) (e7 : (R TL n).call f (.loc m :: vs) h2 = o) (e2 : h1[m]? = some (.attrs C l)) (e1 : (R TL n).ev a ρ h = some (.loc m, h1)) (e4 : evs (R TL n) ρ es h1 = some (vs, h2)) (e3 : findS x l = none) (e6 : findS x k.meths = some f) : (R TL (n + 1)).ev (.methI x a es) ρ h = o := by
  show (match (R TL n).ev a ρ h with
    | some (.loc m, h) => (match h[m]? with
      | some (.attrs C l) => if (findS x l).isSome then none else (match evs (R TL n) ρ es h with
        | none => none
        | some (vs, h) => match findN C TL.clss with
          | none => none
          | some c => match findS x c.meths with
            | none => none
            | some f => (R TL n).call f (.loc m :: vs) h)
      | _ => none)
    | _ => none) = _
  rw [e1]; dsimp only; rw [e2]; dsimp only; rw [e3]
  rw [if_neg (by decide), e4]; dsimp only; rw [e5]; dsimp only; rw [e6]; exact e7
theorem eMB {m : MB} (e1 : (R TL n).ev a ρ h = some (v, h1)) (e2 : evs (R TL n) ρ es h1 = some (vs, h2)) (e3 : sameKind (mkind h1 v) (mkind h2 v) = true) (e4 : methB h2 m v vs = o) : (R TL (n + 1)).ev (.methB m a es) ρ h = o := by
  show (match (R TL n).ev a ρ h with | none => none | some (x, h) => match evs (R TL n) ρ es h with | none => none | some (vs, h₂) => if sameKind (mkind h x) (mkind h₂ x) then methB h₂ m x vs else none) = _
  rw [e1]; dsimp only; rw [e2]; dsimp only; rw [if_pos e3]; exact e4
/-! tests -/
noncomputable def plainT : E → Bool
  | .bop _ _ => false
  | .not _ => false
  | .ite _ _ _ => false
  | .cmp2 _ _ _ _ _ => false
  | _ => true
theorem tE {k : Nat} (p : plainT c = true) (e1 : (R TL n).ev c ρ h = some (.d (.bool q), h1)) : tstN (R TL n) ρ (k + 1) c h = some (q, h1) := by
  have e : tstN (R TL n) ρ (k + 1) c h = (match (R TL n).ev c ρ h with
      | some (v, h) => (match truthy v with | some b => some (b, h) | none => none)
      | none => none) := by
    cases c <;> first | rfl | cases p
  rw [e, e1]; rfl
theorem tN {k : Nat} (e1 : tstN (R TL n) ρ k a h = some (q, h1)) : tstN (R TL n) ρ (k + 1) (.not a) h = some (!q, h1) := by
  show (match tstN (R TL n) ρ k a h with | some (b, h) => some (!b, h) | none => none) = _
  rw [e1]
theorem tP {k : Nat} {all : Bool} (e : tstA (tstN (R TL n) ρ k) all es h = some (q, h1)) : tstN (R TL n) ρ (k + 1) (.bop all es) h = some (q, h1) := e
theorem tc {k : Nat} {all : Bool} {x : Option (Bool × List O)} (e : tstN (R TL n) ρ k a h = some (all, h1)) (e2 : tstA (tstN (R TL n) ρ k) all es h1 = x) : tstA (tstN (R TL n) ρ k) all (a :: es) h = x := by
  unfold tstA; rw [e]; dsimp only; rw [if_pos (by cases all <;> rfl)]; exact e2
theorem ts {k : Nat} {all : Bool} (e : tstN (R TL n) ρ k a h = some (!all, h1)) : tstA (tstN (R TL n) ρ k) all (a :: es) h = some (!all, h1) := by
  unfold tstA; rw [e]; dsimp only; rw [if_neg (by cases all <;> decide)]
theorem t0 {k : Nat} {all : Bool} : tstA (tstN (R TL n) ρ k) all [] h = some (all, h) := rfl
/-! statements -/
variable {s t : List S} {p : Option (Fl × St)} {st : St}
theorem xA {i : Nat} (e1 : (R TL n).ev a ρ h = some (v, h1)) (e2 : exs (R TL (n + 1)) s ⟨b, h1, ρ.set i (some v)⟩ = p) : exs (R TL (n + 1)) (.asg i a :: s) ⟨b, h, ρ⟩ = p := by
  unfold exs
  rw [show (R TL (n + 1)).ex (.asg i a) ⟨b, h, ρ⟩ = some (.next, ⟨b, h1, ρ.set i (some v)⟩) from by
    show (match (R TL n).ev a ρ h with | some (v, h) => some (Fl.next, (⟨b, h, ρ.set i (some v)⟩ : St)) | none => none) = _
    rw [e1]]
  exact e2
theorem xE (e1 : (R TL n).ev a ρ h = some (v, h1)) (e2 : exs (R TL (n + 1)) s ⟨b, h1, ρ⟩ = p) : exs (R TL (n + 1)) (.expr a :: s) ⟨b, h, ρ⟩ = p := by
  unfold exs
  rw [show (R TL (n + 1)).ex (.expr a) ⟨b, h, ρ⟩ = some (.next, ⟨b, h1, ρ⟩) from by
    show (match (R TL n).ev a ρ h with | some (_, h) => some (Fl.next, (⟨b, h, ρ⟩ : St)) | none => none) = _
    rw [e1]]
  exact e2
theorem xR (e1 : (R TL n).ev a ρ h = some (v, h1)) : exs (R TL (n + 1)) (.ret a :: s) ⟨b, h, ρ⟩ = some (.ret v, ⟨b, h1, ρ⟩) := by
  unfold exs
  rw [show (R TL (n + 1)).ex (.ret a) ⟨b, h, ρ⟩ = some (.ret v, ⟨b, h1, ρ⟩) from by
    show (match (R TL n).ev a ρ h with | some (v, h) => some (Fl.ret v, (⟨b, h, ρ⟩ : St)) | none => none) = _
    rw [e1]]
theorem xU {rev : Bool} {is : List Nat} (e1 : (R TL n).ev a ρ h = some (v, h1)) (e2 : bindU rev is v ρ = some ρ') (e3 : exs (R TL (n + 1)) s ⟨b, h1, ρ'⟩ = p) : exs (R TL (n + 1)) (.unp rev is a :: s) ⟨b, h, ρ⟩ = p := by
  unfold exs
  rw [show (R TL (n + 1)).ex (.unp rev is a) ⟨b, h, ρ⟩ = some (.next, ⟨b, h1, ρ'⟩) from by
    show (match (R TL n).ev a ρ h with | some (v, h) => (match bindU rev is v ρ with | some r' => some (Fl.next, (⟨b, h, r'⟩ : St)) | none => none) | none => none) = _
    rw [e1]; dsimp only; rw [e2]]
  exact e3
theorem xSA {x : Str} (e1 : (R TL n).ev e ρ h = some (v, h1)) (e2 : (R TL n).ev a ρ h1 = some (w, h2)) (e3 : setA h2 w x v = some h3) (e4 : exs (R TL (n + 1)) s ⟨b, h3, ρ⟩ = p) : exs (R TL (n + 1)) (.asgA a x e :: s) ⟨b, h, ρ⟩ = p := by
  unfold exs
  rw [show (R TL (n + 1)).ex (.asgA a x e) ⟨b, h, ρ⟩ = some (.next, ⟨b, h3, ρ⟩) from by
    show (match (R TL n).ev e ρ h with
      | none => none
      | some (v, h) => match (R TL n).ev a ρ h with
        | none => none
        | some (y, h) => match setA h y x v with | some h => some (Fl.next, (⟨b, h, ρ⟩ : St)) | none => none) = _
    rw [e1]; dsimp only; rw [e2]; dsimp only; rw [e3]]
  exact e4
theorem xSS {h4 : List O} (e1 : (R TL n).ev e ρ h = some (v, h1)) (e2 : (R TL n).ev a ρ h1 = some (w, h2)) (e3 : (R TL n).ev c ρ h2 = some (u, h3)) (e4 : setS h3 w u v = some h4) (e5 : exs (R TL (n + 1)) s ⟨b, h4, ρ⟩ = p) : exs (R TL (n + 1)) (.asgS a c e :: s) ⟨b, h, ρ⟩ = p := by
  unfold exs
  rw [show (R TL (n + 1)).ex (.asgS a c e) ⟨b, h, ρ⟩ = some (.next, ⟨b, h4, ρ⟩) from by
    show (match (R TL n).ev e ρ h with
      | none => none
      | some (v, h) => match (R TL n).ev a ρ h with
        | none => none
        | some (y, h) => match (R TL n).ev c ρ h with
          | none => none
          | some (z, h) => match setS h y z v with | some h => some (Fl.next, (⟨b, h, ρ⟩ : St)) | none => none) = _
    rw [e1]; dsimp only; rw [e2]; dsimp only; rw [e3]; dsimp only; rw [e4]]
  exact e5
/-- a test that fails, without an else -/
theorem xF (e1 : tstN (R TL n) ρ 4 c h = some (false, h1)) (e2 : exs (R TL (n + 1)) s ⟨b, h1, ρ⟩ = p) : exs (R TL (n + 1)) (.ite c t [] :: s) ⟨b, h, ρ⟩ = p := by
  unfold exs
  rw [show (R TL (n + 1)).ex (.ite c t []) ⟨b, h, ρ⟩ = some (.next, ⟨b, h1, ρ⟩) from by
    show (match tstN (R TL n) ρ 4 c h with
      | some (true, h) => exs (R TL n) t ⟨b, h, ρ⟩
      | some (false, h) => exs (R TL n) [] ⟨b, h, ρ⟩
      | none => none) = _
    rw [e1]; rfl]
  exact e2
theorem xFn {t' : List S} (e1 : tstN (R TL n) ρ 4 c h = some (false, h1)) (e3 : exs (R TL n) t' ⟨b, h1, ρ⟩ = some (.next, st)) (e2 : exs (R TL (n + 1)) s st = p) : exs (R TL (n + 1)) (.ite c t t' :: s) ⟨b, h, ρ⟩ = p := by
  unfold exs
  rw [show (R TL (n + 1)).ex (.ite c t t') ⟨b, h, ρ⟩ = some (.next, st) from by
    show (match tstN (R TL n) ρ 4 c h with
      | some (true, h) => exs (R TL n) t ⟨b, h, ρ⟩
      | some (false, h) => exs (R TL n) t' ⟨b, h, ρ⟩
      | none => none) = _
    rw [e1]; exact e3]
  exact e2
theorem xT {t' : List S} (e1 : tstN (R TL n) ρ 4 c h = some (true, h1)) (e3 : exs (R TL n) t ⟨b, h1, ρ⟩ = some (.next, st)) (e2 : exs (R TL (n + 1)) s st = p) : exs (R TL (n + 1)) (.ite c t t' :: s) ⟨b, h, ρ⟩ = p := by
  unfold exs
  rw [show (R TL (n + 1)).ex (.ite c t t') ⟨b, h, ρ⟩ = some (.next, st) from by
    show (match tstN (R TL n) ρ 4 c h with
      | some (true, h) => exs (R TL n) t ⟨b, h, ρ⟩
      | some (false, h) => exs (R TL n) t' ⟨b, h, ρ⟩
      | none => none) = _
    rw [e1]; exact e3]
  exact e2
theorem xTr {t' : List S} (e1 : tstN (R TL n) ρ 4 c h = some (true, h1)) (e3 : exs (R TL n) t ⟨b, h1, ρ⟩ = some (.ret v, st)) : exs (R TL (n + 1)) (.ite c t t' :: s) ⟨b, h, ρ⟩ = some (.ret v, st) := by
  unfold exs
  rw [show (R TL (n + 1)).ex (.ite c t t') ⟨b, h, ρ⟩ = some (.ret v, st) from by
    show (match tstN (R TL n) ρ 4 c h with
      | some (true, h) => exs (R TL n) t ⟨b, h, ρ⟩
      | some (false, h) => exs (R TL n) t' ⟨b, h, ρ⟩
      | none => none) = _
    rw [e1]; exact e3]
theorem xFr {t' : List S} (e1 : tstN (R TL n) ρ 4 c h = some (false, h1)) (e3 : exs (R TL n) t' ⟨b, h1, ρ⟩ = some (.ret v, st)) : exs (R TL (n + 1)) (.ite c t t' :: s) ⟨b, h, ρ⟩ = some (.ret v, st) := by
  unfold exs
  rw [show (R TL (n + 1)).ex (.ite c t t') ⟨b, h, ρ⟩ = some (.ret v, st) from by
    show (match tstN (R TL n) ρ 4 c h with
      | some (true, h) => exs (R TL n) t ⟨b, h, ρ⟩
      | some (false, h) => exs (R TL n) t' ⟨b, h, ρ⟩
      | none => none) = _
    rw [e1]; exact e3]
theorem x0 : exs (R TL n) [] st = some (.next, st) := rfl
/-! calls -/
theorem kD {f : Nat} {fn : Fn} {x : PyData} (e : findN f TL.funs = some fn) (e0 : bindArgs fn vs = some ρ) (e1 : exs (R TL n) fn.body ⟨h.length, h, ρ⟩ = some (.ret (.d x), ⟨b, h, ρ'⟩)) : (R TL (n + 1)).call f vs h = some (.d x, h) := by
  show (match findN f TL.funs with | some fn => run (R TL n) fn vs h | none => none) = _
  rw [e]; dsimp only; unfold run; rw [e0]; dsimp only; rw [e1]; dsimp only; unfold back; dsimp only; rw [List.take_length]; exact ite_self _
theorem kS {f : Nat} {fn : Fn} {x : PyData} (e : findN f TL.funs = some fn) (e0 : bindArgs fn vs = some ρ) (hl : h1.length = h.length) (e1 : exs (R TL n) fn.body ⟨h.length, h, ρ⟩ = some (.ret (.d x), ⟨b, h1, ρ'⟩)) : (R TL (n + 1)).call f vs h = some (.d x, h1) := by
  show (match findN f TL.funs with | some fn => run (R TL n) fn vs h | none => none) = _
  rw [e]; dsimp only; unfold run; rw [e0]; dsimp only; rw [e1]; dsimp only; unfold back; dsimp only; rw [← hl, List.take_length]; exact ite_self _
theorem kN {f : Nat} {fn : Fn} (e : findN f TL.funs = some fn) (e0 : bindArgs fn vs = some ρ) (hl : h1.length = h.length) (e1 : exs (R TL n) fn.body ⟨h.length, h, ρ⟩ = some (.next, ⟨b, h1, ρ'⟩)) : (R TL (n + 1)).call f vs h = some (.d .none, h1) := by
  show (match findN f TL.funs with | some fn => run (R TL n) fn vs h | none => none) = _
  rw [e]; dsimp only; unfold run; rw [e0]; dsimp only; rw [e1]; dsimp only; unfold back; dsimp only; rw [← hl, List.take_length]; exact ite_self _
/-! the operators where they ask something -/
theorem bMul {x y : Int} (hs : small y = true) : binV .Mult (.d (.int x)) (.d (.int y)) = some (.d (.int (x * y))) := by
  show (if small y || small x then some (bI (x * y)) else none) = _
  rw [hs]; rfl
theorem bMul' {x y : Int} (hs : small x = true) : binV .Mult (.d (.int x)) (.d (.int y)) = some (.d (.int (x * y))) := by
  show (if small y || small x then some (bI (x * y)) else none) = _
  rw [hs, Bool.or_true]; rfl
theorem intEq_same (a : Int) : intEq a a = true := (intEq_iff a a).mpr rfl
theorem strEq_same (a : Str) : strEq a a = true := (strEq_iff a a).mpr rfl
theorem bDiv {x y : Int} (h0 : y ≠ 0) (hs : small y = true) : binV .FloorDiv (.d (.int x)) (.d (.int y)) = some (.d (.int (x.fdiv y))) := by
  show (if intEq y 0 then none else if small y then some (bI (x.fdiv y)) else none) = _
  rw [intEq_ne h0, hs]; rfl
theorem bMod {x y : Int} (h0 : y ≠ 0) : binV .Mod (.d (.int x)) (.d (.int y)) = some (.d (.int (x.fmod y))) := by
  show (if intEq y 0 then none else some (bI (x.fmod y))) = _
  rw [intEq_ne h0]; rfl
theorem bPow {x y : Int} (h0 : small x = true) (h1 : 0 ≤ y) (h2 : y ≤ 200) : binV .Pow (.d (.int x)) (.d (.int y)) = some (.d (.int (x ^ y.toNat))) := by
  show (if small x && (decide (0 ≤ y) && decide (y ≤ 200)) then some (bI (x ^ y.toNat)) else none) = _
  rw [h0, decide_eq_true h1, decide_eq_true h2]; rfl
/-- equality with a plain number -/
theorem cI0 {x y : Int} (e : intEq x y = q) : cmpV h .Eq (.d (.int x)) (.d (.int y)) = some (.d (.bool q)) := by
  subst e
  show (match (if lay (.int x) && lay (.int y) then some (deq (.int x) (.int y)) else none) with | some r => some (bB r) | none => none) = _
  have l : ∀ i : Int, lay (.int i) = true := fun i => by kernel_rfl
  rw [l, l]; rfl
theorem cB0 {x y : Bool} (e : (x == y) = q) : cmpV h .Eq (.d (.bool x)) (.d (.bool y)) = some (.d (.bool q)) := by
  subst e
  cases x <;> cases y <;> kernel_rfl
/-! the same with the heap as it was -/
theorem xF0 (e1 : tstN (R TL n) ρ 4 c h = some (false, h)) (e2 : exs (R TL (n + 1)) s ⟨b, h, ρ⟩ = p) : exs (R TL (n + 1)) (.ite c t [] :: s) ⟨b, h, ρ⟩ = p := xF e1 e2
theorem xTr0 {t' : List S} (e1 : tstN (R TL n) ρ 4 c h = some (true, h)) (e3 : exs (R TL n) t ⟨b, h, ρ⟩ = some (.ret v, st)) : exs (R TL (n + 1)) (.ite c t t' :: s) ⟨b, h, ρ⟩ = some (.ret v, st) := xTr e1 e3
theorem xFr0 {t' : List S} (e1 : tstN (R TL n) ρ 4 c h = some (false, h)) (e3 : exs (R TL n) t' ⟨b, h, ρ⟩ = some (.ret v, st)) : exs (R TL (n + 1)) (.ite c t t' :: s) ⟨b, h, ρ⟩ = some (.ret v, st) := xFr e1 e3
theorem xT0 {t' : List S} (e1 : tstN (R TL n) ρ 4 c h = some (true, h)) (e3 : exs (R TL n) t ⟨b, h, ρ⟩ = some (.next, st)) (e2 : exs (R TL (n + 1)) s st = p) : exs (R TL (n + 1)) (.ite c t t' :: s) ⟨b, h, ρ⟩ = p := xT e1 e3 e2
theorem xFn0 {t' : List S} (e1 : tstN (R TL n) ρ 4 c h = some (false, h)) (e3 : exs (R TL n) t' ⟨b, h, ρ⟩ = some (.next, st)) (e2 : exs (R TL (n + 1)) s st = p) : exs (R TL (n + 1)) (.ite c t t' :: s) ⟨b, h, ρ⟩ = p := xFn e1 e3 e2
theorem eIt0 (e1 : tstN (R TL n) ρ 4 c h = some (true, h)) (e2 : (R TL n).ev a ρ h = o) : (R TL (n + 1)).ev (.ite c a d) ρ h = o := eIt e1 e2
theorem eIf0 (e1 : tstN (R TL n) ρ 4 c h = some (false, h)) (e2 : (R TL n).ev d ρ h = o) : (R TL (n + 1)).ev (.ite c a d) ρ h = o := eIf e1 e2
theorem cI1 {x y : Int} : cmpV h .Eq (.d (.int x)) (.d (.int y)) = some (.d (.bool (decide (x = y)))) := cI0 (by
  by_cases e : x = y
  · exact ((intEq_iff x y).mpr e).trans (decide_eq_true e).symm
  · exact (intEq_ne e).trans (decide_eq_false e).symm)
theorem cN1 {x y : Int} : cmpV h .NotEq (.d (.int x)) (.d (.int y)) = some (.d (.bool (!decide (x = y)))) := by
  have e : eqV h (.d (.int x)) (.d (.int y)) = some (decide (x = y)) := by
    have e := cI1 (h := h) (x := x) (y := y)
    cases q : eqV h (.d (.int x)) (.d (.int y)) with
    | none => unfold cmpV at e; dsimp only at e; rw [q] at e; cases e
    | some r => unfold cmpV at e; dsimp only at e; rw [q] at e; cases e; rfl
  unfold cmpV; dsimp only; rw [e]; rfl
theorem cEt {x y : Int} (e : x = y) : cmpV h .Eq (.d (.int x)) (.d (.int y)) = some (.d (.bool true)) := cI0 ((intEq_iff _ _).mpr e)
theorem cEf {x y : Int} (e : x ≠ y) : cmpV h .Eq (.d (.int x)) (.d (.int y)) = some (.d (.bool false)) := cI0 (intEq_ne e)
theorem cLt {x y : Int} {q : Bool} (e : decide (x < y) = q) : cmpV h .Lt (.d (.int x)) (.d (.int y)) = some (.d (.bool q)) := by subst e; rfl
theorem cGt {x y : Int} {q : Bool} (e : decide (x > y) = q) : cmpV h .Gt (.d (.int x)) (.d (.int y)) = some (.d (.bool q)) := by subst e; rfl
theorem cSome {v : V} (e : isNone v = some false) : cmpV h .IsNot v (.d .none) = some (.d (.bool true)) := by
  show bV not (isNone v) = _
  rw [e]; rfl
theorem cSom {v : V} (e : isNone v = some false) : cmpV h .Is v (.d .none) = some (.d (.bool false)) := by
  show bV id (isNone v) = _
  rw [e]; rfl
theorem aL {α : Type} {xs : List α} {i : Nat} {x : α} (e : xs[i]? = some x) (hl : xs.length ≤ lim) : atL (i : Int) xs = some x := by
  have hi := (List.getElem?_eq_some_iff.mp e).1
  unfold atL
  rw [if_pos (show short xs = true from Nat.ble_eq.mpr hl), show idx (i : Int) xs.length = some i from (if_pos (Nat.blt_eq.mpr hi) : (if Nat.blt i xs.length then some i else none) = _)]
  exact e
end
end Mine
end
section
open PySem PySem.W
set_option maxRecDepth 100000
namespace Mine
/-! the operators and the loops, one small lemma each -/
section
variable {n b : Nat} {ρ ρ' : Rho} {h h1 h2 h3 : List O} {v w u : V} {a c e : E} {es : List E} {vs : List V} {q : Bool} {m : Nat} {xs ys : List PyData} {x y : PyData} {i : Int} {d : List (Int × PyData)} {D : List (Int × List (Int × PyData))}
theorem sh {α : Type} {l : List α} (hl : l.length ≤ lim) : short l = true := Nat.ble_eq.mpr hl
theorem rdL (e : h[m]? = some (.list xs)) : rd h (.loc m) = .d (.list xs) := by
  show (match h[m]? with | some (.list l) => V.d (.list l) | some (.idict l) => .idict l | _ => .loc m) = _
  rw [e]
theorem rdD (e : h[m]? = some (.idict d)) : rd h (.loc m) = .idict d := by
  show (match h[m]? with | some (.list l) => V.d (.list l) | some (.idict l) => .idict l | _ => .loc m) = _
  rw [e]
theorem bApp (e1 : rd h v = .d (.list xs)) (e2 : rd h w = .d (.list ys)) (l1 : xs.length ≤ lim) (l2 : ys.length ≤ lim) : binV .Add (rd h v) (rd h w) = some (.d (.list (xs ++ ys))) := by
  rw [e1, e2]
  show (if short xs && short ys then some (V.d (.list (xs ++ ys))) else none) = _
  rw [sh l1, sh l2]; rfl
theorem kLen (e : rd h v = .d (.list xs)) (hl : xs.length ≤ lim) {mu : Bool} : callB h mu .len [v] = some (.d (.int xs.length), h) := by
  show lenV h v = _
  unfold lenV; rw [e]; dsimp only; rw [sh hl]; rfl
theorem kLenD (e : rd h v = .idict d) (hl : d.length ≤ lim) {mu : Bool} : callB h mu .len [v] = some (.d (.int d.length), h) := by
  show lenV h v = _
  unfold lenV; rw [e]; dsimp only; rw [sh hl]; rfl
theorem kList (e : rd h v = .d (.list xs)) (hl : xs.length ≤ lim) {mu : Bool} : callB h mu .list [v] = some (.d (.list xs), h) := by
  show listV h v = _
  unfold listV; rw [e]; dsimp only; rw [sh hl]; rfl
theorem kDict (e : rd h v = .idict d) (hl : d.length ≤ lim) : callB h false .dict [v] = some (.idict d, h) := by
  show dictV h false v = _
  unfold dictV; rw [e]; dsimp only; rw [sh hl]; rfl
theorem kDictM (e : rd h v = .idict d) (hl : d.length ≤ lim) : callB h true .dict [v] = some (.loc h.length, h ++ [.idict d]) := by
  show dictV h true v = _
  unfold dictV; rw [e]; dsimp only; rw [sh hl]; rfl
/-- an item -/
theorem uL (e : h[m]? = some (.list xs)) (a : atL i xs = some x) : subV h (.loc m) (.d (.int i)) = some (.d x) := by
  show subO h[m]? i = _
  rw [e]; show optD (atL i xs) = _
  rw [a]; rfl
theorem uD (e : h[m]? = some (.idict d)) (a : findI i d = some x) : subV h (.loc m) (.d (.int i)) = some (.d x) := by
  show subO h[m]? i = _
  rw [e]; show optD (findI i d) = _
  rw [a]; rfl
theorem uDD {z : List (Int × PyData)} (e : h[m]? = some (.iidict D)) (a : findI i D = some z) : subV h (.loc m) (.d (.int i)) = some (.idict z) := by
  show subO h[m]? i = _
  rw [e]; show (match findI i D with | some x => some (V.idict x) | none => none) = _
  rw [a]
theorem uX (a : atL i xs = some x) : subV h (.d (.list xs)) (.d (.int i)) = some (.d x) := by
  show optD (atL i xs) = _
  rw [a]; rfl
/-- methods of lists and dicts -/
theorem mApp (e : h[m]? = some (.list xs)) (hl : xs.length ≤ lim) : methB h .append (.loc m) [.d x] = some (.d .none, h.set m (.list (xs ++ [x]))) := by
  show methO h m h[m]? .append [.d x] = _
  rw [e]; show (if short xs then some (V.d .none, h.set m (.list (xs ++ [x]))) else none) = _
  rw [sh hl]; rfl
theorem mGet (e : h[m]? = some (.idict d)) : methB h .get (.loc m) [.d (.int i)] = some (optN (findI i d), h) := by
  show methO h m h[m]? .get [.d (.int i)] = _
  rw [e]; rfl
theorem mPopD (e : h[m]? = some (.idict d)) (hl : d.length ≤ lim) : methB h .pop (.loc m) [.d (.int i), .d .none] = some (optN (findI i d), h.set m (.idict (dropI i d))) := by
  show methO h m h[m]? .pop [.d (.int i), .d .none] = _
  rw [e]; show (if true && short d then some (optN (findI i d), h.set m (.idict (dropI i d))) else none) = _
  rw [sh hl]; rfl
theorem mkL (e : h[m]? = some (.list xs)) : mkind h (.loc m) = some false := by
  show (match h[m]? with | some (.list _) => some false | some (.idict _) => some true | _ => none) = _
  rw [e]
theorem mkD (e : h[m]? = some (.idict d)) : mkind h (.loc m) = some true := by
  show (match h[m]? with | some (.list _) => some false | some (.idict _) => some true | _ => none) = _
  rw [e]
theorem skL (e : h[m]? = some (.list xs)) (e' : h1[m]? = some (.list ys)) : sameKind (mkind h (.loc m)) (mkind h1 (.loc m)) = true := by
  rw [mkL e, mkL e']; rfl
theorem skD {d' : List (Int × PyData)} (e : h[m]? = some (.idict d)) (e' : h1[m]? = some (.idict d')) : sameKind (mkind h (.loc m)) (mkind h1 (.loc m)) = true := by
  rw [mkD e, mkD e']; rfl
/-- stores -/
theorem vL {k : Nat} (e : h[m]? = some (.list xs)) (hl : xs.length ≤ lim) (hk : k < xs.length) : setS h (.loc m) (.d (.int k)) (.d x) = some (h.set m (.list (xs.set k x))) := by
  show setO h m h[m]? k (.d x) = _
  rw [e]; show setL h m xs k x = _
  unfold setL
  rw [sh hl, show decide ((0 : Int) ≤ (k : Int)) = true from decide_eq_true (Int.natCast_nonneg k), show idx (k : Int) xs.length = some k from (if_pos (Nat.blt_eq.mpr hk) : (if Nat.blt k xs.length then some k else none) = _)]
  rfl
theorem vD (e : h[m]? = some (.idict d)) (hl : d.length ≤ lim) : setS h (.loc m) (.d (.int i)) (.d x) = some (h.set m (.idict (putI i x d))) := by
  show setO h m h[m]? i (.d x) = _
  rw [e]; show (if short d then some (h.set m (.idict (putI i x d))) else none) = _
  rw [sh hl]; rfl
theorem vDD {z : List (Int × PyData)} (e : h[m]? = some (.iidict D)) (hl : D.length ≤ lim) : setS h (.loc m) (.d (.int i)) (.idict z) = some (h.set m (.iidict (putI i z D))) := by
  show setO h m h[m]? i (.idict z) = _
  rw [e]; show (if short D then some (h.set m (.iidict (putI i z D))) else none) = _
  rw [sh hl]; rfl
theorem vAt {C : Nat} {l : List (Str × V)} {s : Str} (e : h[m]? = some (.attrs C l)) (hl : Nat.blt l.length 900 = true) : setA h (.loc m) s v = some (h.set m (.attrs C (putS s v l))) := by
  show setAO h m h[m]? s v = _
  rw [e]; show (if Nat.blt l.length 900 then some (h.set m (.attrs C (putS s v l))) else none) = _
  rw [hl]; rfl
/-- the test of a key -/
theorem cInD {k : Int} (e : h[m]? = some (.idict d)) : cmpV h .In (.d (.int k)) (.loc m) = some (.d (.bool (findI k d).isSome)) := by
  show bV id (inO (.d (.int k)) h[m]?) = _
  rw [e]; rfl
theorem cNiD {k : Int} (e : h[m]? = some (.idict d)) : cmpV h .NotIn (.d (.int k)) (.loc m) = some (.d (.bool (!(findI k d).isSome))) := by
  show bV not (inO (.d (.int k)) h[m]?) = _
  rw [e]; rfl
theorem cNiDD {k : Int} (e : h[m]? = some (.iidict D)) : cmpV h .NotIn (.d (.int k)) (.loc m) = some (.d (.bool (!(findI k D).isSome))) := by
  show bV not (inO (.d (.int k)) h[m]?) = _
  rw [e]; rfl
/-- the heap -/
theorem get_self {k : Nat} {o z : O} (e : h[k]? = some o) : (h.set k z)[k]? = some z := List.getElem?_set_self (List.getElem?_eq_some_iff.mp e).1
theorem get_ne {k j : Nat} {o z : O} (e : h[k]? = some o) (ne : j ≠ k) : (h.set j z)[k]? = some o := (List.getElem?_set_ne ne).trans e
theorem set_len {k : Nat} {z : O} : (h.set k z).length = h.length := List.length_set
theorem get_app {t : List O} {k : Nat} {o : O} (e : h[k]? = some o) : (h ++ t)[k]? = some o := (List.getElem?_append_left (List.getElem?_eq_some_iff.mp e).1).trans e
theorem get_at {t : List O} {k : Nat} : (h ++ t)[h.length + k]? = t[k]? := by
  rw [List.getElem?_append_right (Nat.le_add_right _ _), Nat.add_sub_cancel_left]
theorem get_at0 {t : List O} : (h ++ t)[h.length]? = t[0]? := get_at (k := 0)
theorem set_at {t : List O} {k : Nat} {z : O} : (h ++ t).set (h.length + k) z = h ++ t.set k z := by
  rw [List.set_append_right _ _ (Nat.le_add_right _ _), Nat.add_sub_cancel_left]
theorem set_at0 {t : List O} {z : O} : (h ++ t).set h.length z = h ++ t.set 0 z := set_at (k := 0)
/-- a call that gives back what it made -/
theorem kL {f m : Nat} {fn : Fn} (e : findN f TL.funs = some fn) (e0 : bindArgs fn vs = some ρ) (hm : h.length ≤ m) (e1 : exs (R TL n) fn.body ⟨h.length, h, ρ⟩ = some (.ret (.loc m), ⟨b, h1, ρ'⟩)) : (R TL (n + 1)).call f vs h = some (.loc m, h1) := by
  show (match findN f TL.funs with | some fn => run (R TL n) fn vs h | none => none) = _
  rw [e]; dsimp only; unfold run; rw [e0]; dsimp only; rw [e1]
  exact if_neg fun q => Nat.not_lt_of_le hm (Nat.blt_eq.mp (Bool.and_eq_true_iff.mp q).1)
/-- a value that is told -/
theorem xA0 {i : Nat} {s : List S} {p : Option (Fl × St)} (v : V) (e1 : (R TL n).ev a ρ h = some (v, h)) (e2 : exs (R TL (n + 1)) s ⟨b, h, ρ.set i (some v)⟩ = p) : exs (R TL (n + 1)) (.asg i a :: s) ⟨b, h, ρ⟩ = p := xA e1 e2
theorem e0 (v : V) (e1 : (R TL n).ev a ρ h = some (v, h)) : (R TL n).ev a ρ h = some (v, h) := e1
/-! loops -/
theorem cutN {b0 : Nat} {st : St} (l : st.h.length ≤ b0) : cutTo b0 st = st := if_pos (Nat.ble_eq.mpr l)
variable {src : Srcs} {F j N b1 : Nat} {tg : Tgt} {bd s : List S} {st st' : St} {p : Option (Fl × St)} {fl : Fl}
/-- for: the source, the loop that ends, what follows -/
theorem xFo (e1 : (R TL n).ev a ρ h = some (v, h1)) (e2 : srcOf h1 v = some (src, F)) (e3 : forS (R TL n) h1.length tg bd src F 0 ⟨b, h1, ρ⟩ = some (.next, st)) (e4 : exs (R TL (n + 1)) s ⟨b, st.h, st.r⟩ = p) : exs (R TL (n + 1)) (.for_ tg a bd :: s) ⟨b, h, ρ⟩ = p := by
  unfold exs
  rw [show (R TL (n + 1)).ex (.for_ tg a bd) ⟨b, h, ρ⟩ = some (.next, ⟨b, st.h, st.r⟩) from by
    show (match (R TL n).ev a ρ h with
      | none => none
      | some (v, h) => match srcOf h v with
        | none => none
        | some (src, f) => match forS (R TL n) h.length tg bd src f 0 ⟨b, h, ρ⟩ with
          | none => none
          | some (fl, st') => some (fl, (⟨b, st'.h, st'.r⟩ : St))) = _
    rw [e1]; dsimp only; rw [e2]; dsimp only; rw [e3]]
  exact e4
theorem xFoR (e1 : (R TL n).ev a ρ h = some (v, h1)) (e2 : srcOf h1 v = some (src, F)) (e3 : forS (R TL n) h1.length tg bd src F 0 ⟨b, h1, ρ⟩ = some (.ret w, st)) : exs (R TL (n + 1)) (.for_ tg a bd :: s) ⟨b, h, ρ⟩ = some (.ret w, ⟨b, st.h, st.r⟩) := by
  unfold exs
  rw [show (R TL (n + 1)).ex (.for_ tg a bd) ⟨b, h, ρ⟩ = some (.ret w, ⟨b, st.h, st.r⟩) from by
    show (match (R TL n).ev a ρ h with
      | none => none
      | some (v, h) => match srcOf h v with
        | none => none
        | some (src, f) => match forS (R TL n) h.length tg bd src f 0 ⟨b, h, ρ⟩ with
          | none => none
          | some (fl, st') => some (fl, (⟨b, st'.h, st'.r⟩ : St))) = _
    rw [e1]; dsimp only; rw [e2]; dsimp only; rw [e3]]
theorem fE (e : nextS src j st.h = some none) : forS (R TL n) N tg bd src (F + 1) j st = some (.next, st) := by
  unfold forS; rw [e]
theorem fC (e1 : nextS src j h = some (some v)) (e2 : bindT tg v ρ = some ρ') (e3 : exs (R TL n) bd ⟨N, h, ρ'⟩ = some (.next, st)) (ec : cutTo N st = st') (e4 : forS (R TL n) N tg bd src F (j + 1) st' = p) : forS (R TL n) N tg bd src (F + 1) j ⟨b, h, ρ⟩ = p := by
  unfold forS; dsimp only; rw [e1]; dsimp only; rw [e2]; dsimp only; rw [e3]; dsimp only; rw [ec]; exact e4
theorem fR (e1 : nextS src j h = some (some v)) (e2 : bindT tg v ρ = some ρ') (e3 : exs (R TL n) bd ⟨N, h, ρ'⟩ = some (.ret w, st)) : forS (R TL n) N tg bd src (F + 1) j ⟨b, h, ρ⟩ = some (.ret w, st) := by
  unfold forS; dsimp only; rw [e1]; dsimp only; rw [e2]; dsimp only; rw [e3]
theorem vD2 {m : Nat} {i : Int} {o : O} {d : List (Int × PyData)} {x : PyData} (e : h[m]? = some o) (hl : d.length ≤ lim) : setS (h.set m (.idict d)) (.loc m) (.d (.int i)) (.d x) = some (h.set m (.idict (putI i x d))) := by
  rw [vD (get_self e) hl, List.set_set]
theorem cNiL {m : Nat} {x : PyData} {ys : List PyData} {q : Bool} (e : h[m]? = some (.list ys)) (l1 : lay x = true) (l2 : lay (.list ys) = true) (eq : anyEq x ys = q) : cmpV h .NotIn (.d x) (.loc m) = some (.d (.bool (!q))) := by
  show bV not (inO (.d x) h[m]?) = _
  rw [e]; show bV not (if lay x && lay (.list ys) then some (anyEq x ys) else none) = _
  rw [l1, l2, eq]; rfl
/-! comprehensions -/
variable {elt : E} {ini : List (Option Nat)} {vs ws : List V} {o : Option (V × List O)} {mu : Bool} {h2 : List O}
theorem eCo (e1 : (R TL n).ev a ρ h = some (v, h1)) (e2 : srcOf h1 v = some (src, F)) (e3 : compS (R TL n) elt tg [] src F 0 (initR ρ ini) h1 = some (vs, h2)) (e4 : mkList mu vs h2 = o) : (R TL (n + 1)).ev (.comp mu elt tg a [] ini) ρ h = o := by
  show (match (R TL n).ev a ρ h with
    | none => none
    | some (v, h) => match srcOf h v with
      | none => none
      | some (src, f) => match compS (R TL n) elt tg [] src f 0 (initR ρ ini) h with
        | none => none
        | some (xs, h₂) => mkList mu xs h₂) = _
  rw [e1]; dsimp only; rw [e2]; dsimp only; rw [e3]; exact e4
theorem gE {es : List E} (e : nextS src j h = some none) : compS (R TL n) elt tg es src (F + 1) j ρ h = some ([], h) := by
  unfold compS; rw [e]
theorem gC (e1 : nextS src j h = some (some v)) (e2 : bindT tg v ρ = some ρ') (e3 : (R TL n).ev elt ρ' h = some (w, h1)) (e4 : compS (R TL n) elt tg [] src F (j + 1) ρ' h1 = some (ws, h2)) : compS (R TL n) elt tg [] src (F + 1) j ρ h = some (w :: ws, h2) := by
  unfold compS; rw [e1]; dsimp only; rw [e2]
  show (match (R TL n).ev elt ρ' h with
          | none => none
          | some (x, h) => match compS (R TL n) elt tg [] src F (j + 1) ρ' h with | some (xs, h) => some (x :: xs, h) | none => none) = _
  rw [e3]; dsimp only; rw [e4]
/-! what is given back out of its name -/
theorem xM {i : Nat} {l : List PyData} (e : ρ[i]? = some (some (.loc h.length))) (hb : b ≤ h.length) (u : undH h.length h.length (h ++ [O.list l]) = true) : exs (R TL (n + 1)) (.retM i :: s) ⟨b, h ++ [O.list l], ρ⟩ = some (.ret (.d (.list l)), ⟨b, h, (ρ.set i none).map (poison h.length)⟩) := by
  unfold exs
  have q : (Nat.ble b h.length && Nat.beq (h.length + 1) (h ++ [O.list l]).length && undH h.length h.length (h ++ [O.list l])) = true := by
    rw [u, Nat.ble_eq.mpr hb, List.length_append, show Nat.beq (h.length + 1) (h.length + [O.list l].length) = true from Nat.beq_refl _]; rfl
  rw [show (R TL (n + 1)).ex (.retM i) ⟨b, h ++ [O.list l], ρ⟩ = some (.ret (.d (.list l)), ⟨b, h, (ρ.set i none).map (poison h.length)⟩) from by
    show stepEx (R TL n) (.retM i) ⟨b, h ++ [O.list l], ρ⟩ = _
    unfold stepEx; dsimp only; rw [e]; dsimp only
    rw [if_pos q, get_at0]
    show some (Fl.ret (.d (.list l)), (⟨b, (h ++ [O.list l]).take h.length, (ρ.set i none).map (poison h.length)⟩ : St)) = _
    rw [List.take_left' rfl]]
theorem xMd {i : Nat} {l : List (Int × PyData)} (e : ρ[i]? = some (some (.loc h.length))) (hb : b ≤ h.length) (u : undH h.length h.length (h ++ [O.idict l]) = true) : exs (R TL (n + 1)) (.retM i :: s) ⟨b, h ++ [O.idict l], ρ⟩ = some (.ret (.idict l), ⟨b, h, (ρ.set i none).map (poison h.length)⟩) := by
  unfold exs
  have q : (Nat.ble b h.length && Nat.beq (h.length + 1) (h ++ [O.idict l]).length && undH h.length h.length (h ++ [O.idict l])) = true := by
    rw [u, Nat.ble_eq.mpr hb, List.length_append, show Nat.beq (h.length + 1) (h.length + [O.idict l].length) = true from Nat.beq_refl _]; rfl
  rw [show (R TL (n + 1)).ex (.retM i) ⟨b, h ++ [O.idict l], ρ⟩ = some (.ret (.idict l), ⟨b, h, (ρ.set i none).map (poison h.length)⟩) from by
    show stepEx (R TL n) (.retM i) ⟨b, h ++ [O.idict l], ρ⟩ = _
    unfold stepEx; dsimp only; rw [e]; dsimp only
    rw [if_pos q, get_at0]
    show some (Fl.ret (.idict l), (⟨b, (h ++ [O.idict l]).take h.length, (ρ.set i none).map (poison h.length)⟩ : St)) = _
    rw [List.take_left' rfl]]
/-- a call that leaves something behind which it made -/
theorem kK {f : Nat} {fn : Fn} (e : findN f TL.funs = some fn) (e0 : bindArgs fn vs = some ρ) (u : undH h.length h.length h2 = false) (e1 : exs (R TL n) fn.body ⟨h.length, h, ρ⟩ = some (.next, ⟨b, h1, ρ'⟩)) (hh : h1 = h2) : (R TL (n + 1)).call f vs h = some (.d .none, h2) := by
  subst hh
  show (match findN f TL.funs with | some fn => run (R TL n) fn vs h | none => none) = _
  rw [e]; dsimp only; unfold run; rw [e0]; dsimp only; rw [e1]
  exact if_neg fun q => by rw [u, Bool.and_false] at q; cases q
/-- a new object of a class -/
theorem eNew {C : Nat} {k : Cl} {es : List E} (e5 : findN C TL.clss = some k) (e1 : evs (R TL n) ρ es h = some (vs, h1)) (e2 : (R TL n).call k.init (.loc h1.length :: vs) (h1 ++ [.attrs C []]) = some (.d .none, h2)) : (R TL (n + 1)).ev (.callC C es) ρ h = some (.loc h1.length, h2) := by
  show (match evs (R TL n) ρ es h with
    | none => none
    | some (vs, h) => match findN C TL.clss with
      | none => none
      | some c => match (R TL n).call c.init (.loc h.length :: vs) (h ++ [O.attrs C []]) with
        | some (.d .none, h') => some (V.loc h.length, h')
        | _ => none) = _
  rw [e1]; dsimp only; rw [e5]; dsimp only; rw [e2]
theorem srcL' {xs : List PyData} (hl : xs.length ≤ lim) : srcOf h (.d (.list xs)) = some (.vals (xs.map .d), xs.length + 1) := by
  show (if short xs then some (Srcs.vals (xs.map .d), xs.length + 1) else none) = _
  rw [sh hl]; rfl
theorem srcA {m : Nat} {xs : List PyData} (e : h[m]? = some (.list xs)) (hl : xs.length ≤ lim) : srcOf h (.loc m) = some (.at m, xs.length + 1) := by
  show (match h[m]? with
    | some (.list xs) => if short xs then some (Srcs.at m, xs.length + 1) else none
    | _ => none) = _
  rw [e]; dsimp only; rw [sh hl]; rfl
theorem drop_c {α : Type} {l : List α} {x : α} {xs : List α} (e : l.drop j = x :: xs) : l[j]? = some x ∧ l.drop (j + 1) = xs := by
  constructor
  · have := List.getElem?_drop (xs := l) (i := j) (j := 0)
    rw [e] at this; exact this.symm
  · rw [← List.drop_drop, e]; rfl
theorem drop_n {α : Type} {l : List α} (e : l.drop j = []) : l[j]? = none := List.getElem?_eq_none (List.drop_eq_nil_iff.mp e)
theorem nV {all : List PyData} {x : PyData} (e : all[j]? = some x) : nextS (.vals (all.map .d)) j h = some (some (.d x)) := by
  show some ((all.map V.d)[j]?) = _
  rw [List.getElem?_map, e]; rfl
theorem nV0 {all : List PyData} (e : all[j]? = none) : nextS (.vals (all.map .d)) j h = some none := by
  show some ((all.map V.d)[j]?) = _
  rw [List.getElem?_map, e]; rfl
theorem nA {m : Nat} {all : List PyData} {x : PyData} (d : h[m]? = some (.list all)) (e : all[j]? = some x) : nextS (.at m) j h = some (some (.d x)) := by
  show (match h[m]? with
    | some (.list xs) => (match xs[j]? with | some x => some (some (V.d x)) | none => some none)
    | _ => none) = _
  rw [d]; dsimp only; rw [e]
theorem nA0 {m : Nat} {all : List PyData} (d : h[m]? = some (.list all)) (e : all[j]? = none) : nextS (.at m) j h = some none := by
  show (match h[m]? with
    | some (.list xs) => (match xs[j]? with | some x => some (some (V.d x)) | none => some none)
    | _ => none) = _
  rw [d]; dsimp only; rw [e]
end
end Mine
end
section
open PySem PySem.W
set_option maxRecDepth 100000
set_option linter.unusedSimpArgs false
namespace Mine
theorem sok0 : PyData.strOk (Str.ofString "+") = true := by decide +kernel
theorem sok1 : PyData.strOk (Str.ofString "-") = true := by decide +kernel
theorem sok2 : PyData.strOk (Str.ofString "*") = true := by decide +kernel
theorem sok3 : PyData.strOk (Str.ofString "/") = true := by decide +kernel
theorem sok4 : PyData.strOk (Str.ofString "%") = true := by decide +kernel
theorem sok5 : PyData.strOk (Str.ofString "<<") = true := by decide +kernel
theorem sok6 : PyData.strOk (Str.ofString ">>") = true := by decide +kernel
theorem sok7 : PyData.strOk (Str.ofString "const") = true := by decide +kernel
theorem sok8 : PyData.strOk (Str.ofString "copy") = true := by decide +kernel
theorem sok9 : PyData.strOk (Str.ofString "move") = true := by decide +kernel
theorem sok10 : PyData.strOk (Str.ofString "assign") = true := by decide +kernel
theorem sok11 : PyData.strOk (Str.ofString "use") = true := by decide +kernel
theorem sok12 : PyData.strOk (Str.ofString "binary") = true := by decide +kernel
theorem sok13 : PyData.strOk (Str.ofString "checked") = true := by decide +kernel
theorem sok14 : PyData.strOk (Str.ofString "unary") = true := by decide +kernel
theorem sok15 : PyData.strOk (Str.ofString "cast") = true := by decide +kernel
theorem sok16 : PyData.strOk (Str.ofString "print") = true := by decide +kernel
theorem sok17 : PyData.strOk (Str.ofString "goto") = true := by decide +kernel
theorem sok18 : PyData.strOk (Str.ofString "assert") = true := by decide +kernel
theorem sok19 : PyData.strOk (Str.ofString "switch") = true := by decide +kernel
theorem sok20 : PyData.strOk (Str.ofString "return") = true := by decide +kernel
theorem sok21 : PyData.strOk (Str.ofString "field") = true := by decide +kernel
theorem sok22 : PyData.strOk (Str.ofString "int") = true := by decide +kernel
theorem sok23 : PyData.strOk (Str.ofString "bool") = true := by decide +kernel
theorem sok24 : PyData.strOk (Str.ofString "tuple") = true := by decide +kernel
theorem sok25 : PyData.strOk (Str.ofString "live") = true := by decide +kernel
theorem sok26 : PyData.strOk (Str.ofString "dead") = true := by decide +kernel
theorem sok27 : PyData.strOk (Str.ofString "call") = true := by decide +kernel
theorem sok28 : PyData.strOk (Str.ofString "drop") = true := by decide +kernel
theorem sok29 : PyData.strOk (Str.ofString "==") = true := by decide +kernel
theorem sok30 : PyData.strOk (Str.ofString "!=") = true := by decide +kernel
theorem sok31 : PyData.strOk (Str.ofString "<") = true := by decide +kernel
theorem sok32 : PyData.strOk (Str.ofString "<=") = true := by decide +kernel
theorem sok33 : PyData.strOk (Str.ofString ">") = true := by decide +kernel
theorem sok34 : PyData.strOk (Str.ofString ">=") = true := by decide +kernel
theorem sok35 : PyData.strOk (Str.ofString "!") = true := by decide +kernel
theorem sok36 : PyData.strOk (Str.ofString "u8") = true := by decide +kernel
theorem sok37 : PyData.strOk (Str.ofString "i8") = true := by decide +kernel
theorem sok38 : PyData.strOk (Str.ofString "i32") = true := by decide +kernel
theorem sok39 : PyData.strOk (Str.ofString "u64") = true := by decide +kernel
theorem sok40 : PyData.strOk (Str.ofString "none") = true := by decide +kernel
theorem sok41 : PyData.strOk (Str.ofString "over") = true := by decide +kernel
theorem sok42 : PyData.strOk (Str.ofString "adt") = true := by decide +kernel
theorem sok43 : PyData.strOk (Str.ofString "box") = true := by decide +kernel
theorem sok44 : PyData.strOk (Str.ofString "array") = true := by decide +kernel
theorem sok45 : PyData.strOk (Str.ofString "f") = true := by decide +kernel
theorem sok46 : PyData.strOk (Str.ofString "ref") = true := by decide +kernel
theorem sok47 : PyData.strOk (Str.ofString "i") = true := by decide +kernel
theorem sok48 : PyData.strOk (Str.ofString "&") = true := by decide +kernel
theorem sok49 : PyData.strOk (Str.ofString "|") = true := by decide +kernel
theorem sok50 : PyData.strOk (Str.ofString "^") = true := by decide +kernel
theorem strEq_dec (a b : Str) : strEq a b = decide (a = b) := by
  by_cases h : a = b
  · rw [(strEq_iff a b).mpr h]; simp [h]
  · cases q : strEq a b
    · simp [h]
    · exact absurd ((strEq_iff a b).mp q) h
theorem intEq_dec (a b : Int) : intEq a b = decide (a = b) := by
  by_cases h : a = b
  · rw [(intEq_iff a b).mpr h]; simp [h]
  · cases q : intEq a b
    · simp [h]
    · exact absurd ((intEq_iff a b).mp q) h
theorem R_ev (T : Tab) (n : Nat) : (R T (n + 1)).ev = stepEv T (R T n) := rfl
theorem R_ex (T : Tab) (n : Nat) : (R T (n + 1)).ex = stepEx (R T n) := rfl
theorem R_call (T : Tab) (n f : Nat) (vs : List V) (h : List O) {fn : Fn} (e : findN f T.funs = some fn) : (R T (n + 1)).call f vs h = run (R T n) fn vs h := by
  show (match findN f T.funs with | some fn => run (R T n) fn vs h | none => none) = _
  rw [e]
theorem idx0 (n : Nat) : idx 0 n = if Nat.blt 0 n then some 0 else none := rfl
theorem idx1 (n : Nat) : idx 1 n = if Nat.blt 1 n then some 1 else none := rfl
theorem idx2 (n : Nat) : idx 2 n = if Nat.blt 2 n then some 2 else none := rfl
theorem idx3 (n : Nat) : idx 3 n = if Nat.blt 3 n then some 3 else none := rfl
theorem idx4 (n : Nat) : idx 4 n = if Nat.blt 4 n then some 4 else none := rfl
theorem idxm (n : Nat) : idx (-1) n = if Nat.blt 0 n then some (n - 1 - 0) else none := rfl
theorem natOf2 : natOf (.d (.int 2)) = some 2 := rfl
theorem natOf3 : natOf (.d (.int 3)) = some 3 := rfl
theorem natOf5 : natOf (.d (.int 5)) = some 5 := rfl
theorem back_d {h : List O} {x : PyData} : back h.length (some (.d x, h)) = some (.d x, h) := by
  unfold back; dsimp only; rw [List.take_length]; split <;> rfl
def isKind (k : Str) (lo : Int) (b : Nat) : Prop := (k = "u8" ∧ lo = 0 ∧ b = 8) ∨ (k = "i8" ∧ lo = -128 ∧ b = 8) ∨ (k = "i32" ∧ lo = -2147483648 ∧ b = 32) ∨ (k = "u64" ∧ lo = 0 ∧ b = 64)
noncomputable def wrapS (lo : Int) (b : Nat) (x : Int) : Int := lo + (x - lo).fmod (2 ^ b)
noncomputable def fitB (lo : Int) (b : Nat) (x : Int) : Bool := decide (lo ≤ x) && decide (x ≤ lo + 2 ^ b - 1)
theorem c62 {n : Nat} {h : List O} {k : Str} {lo : Int} {b : Nat} (K : isKind k lo b) : (R TL (n + 7)).call 62 [.d (.str k)] h = some (.d (.bool (decide (lo < 0))), h) := by
  rcases K with ⟨rfl, rfl, rfl⟩ | ⟨rfl, rfl, rfl⟩ | ⟨rfl, rfl, rfl⟩ | ⟨rfl, rfl, rfl⟩
  · exact Eq.trans (b := back h.length (some (.d (.bool false), h))) (by kernel_rfl) back_d
  · exact Eq.trans (b := back h.length (some (.d (.bool true), h))) (by kernel_rfl) back_d
  · exact Eq.trans (b := back h.length (some (.d (.bool true), h))) (by kernel_rfl) back_d
  · exact Eq.trans (b := back h.length (some (.d (.bool false), h))) (by kernel_rfl) back_d
theorem c69 {n : Nat} {h : List O} {k : Str} {lo : Int} {b : Nat} (K : isKind k lo b) : (R TL (n + 20)).call 69 [.d (.str k)] h = some (.d (.int lo), h) := by
  have K' := K
  rcases K with ⟨rfl, rfl, rfl⟩ | ⟨rfl, rfl, rfl⟩ | ⟨rfl, rfl, rfl⟩ | ⟨rfl, rfl, rfl⟩ <;> apply kD at_69 rfl
  · exact xR (eIf (tE rfl (eF (c62 K') rfl)) eL)
  · exact xR (eIt (tE rfl (eF (c62 K') rfl)) (by kernel_rfl))
  · exact xR (eIt (tE rfl (eF (c62 K') rfl)) (by kernel_rfl))
  · exact xR (eIf (tE rfl (eF (c62 K') rfl)) eL)
end Mine
end
section
open PySem PySem.W
set_option maxRecDepth 100000
set_option linter.unusedSimpArgs false
namespace Mine
variable {n : Nat} {h : List O} {k : Str} {lo : Int} {b : Nat}
theorem c76 (K : isKind k lo b) : (R TL (n + 20)).call 76 [.d (.str k)] h = some (.d (.int (lo + 2 ^ b - 1)), h) := by
  have K' := K
  rcases K with ⟨rfl, rfl, rfl⟩ | ⟨rfl, rfl, rfl⟩ | ⟨rfl, rfl, rfl⟩ | ⟨rfl, rfl, rfl⟩ <;> apply kD at_76 rfl
  · exact xR (eIf (tE rfl (eF (c62 K') rfl)) (by kernel_rfl))
  · exact xR (eIt (tE rfl (eF (c62 K') rfl)) (by kernel_rfl))
  · exact xR (eIt (tE rfl (eF (c62 K') rfl)) (by kernel_rfl))
  · exact xR (eIf (tE rfl (eF (c62 K') rfl)) (by kernel_rfl))
theorem c83 {x : Int} (K : isKind k lo b) : (R TL (n + 30)).call 83 [.d (.str k), .d (.int x)] h = some (.d (.bool (fitB lo b x)), h) := by
  apply kD at_83 rfl
  exact xR (eC2 (eF (c69 K) rfl) (eV rfl) rfl (eF (c76 K) rfl) rfl)
theorem kind_bits (K : isKind k lo b) : subV h (.sdict bitsM) (.d (.str k)) = some (.d (.int b)) ∧ (b : Int) ≠ 0 ∧ (0 : Int) ≤ b ∧ (b : Int) ≤ 200 := by
  rcases K with ⟨rfl, rfl, rfl⟩ | ⟨rfl, rfl, rfl⟩ | ⟨rfl, rfl, rfl⟩ | ⟨rfl, rfl, rfl⟩ <;> exact ⟨by kernel_rfl, by decide, by decide, by decide⟩
theorem c90 {x : Int} (K : isKind k lo b) : (R TL (n + 30)).call 90 [.d (.str k), .d (.int x)] h = some (.d (.int (wrapS lo b x)), h) := by
  obtain ⟨k1, k2, k3, k4⟩ := kind_bits (h := h) K
  apply kD at_90 rfl
  refine xA (eF (c69 K) rfl) ?_
  exact xR (eB (eV rfl) (eB (eB (eV rfl) (eV rfl) rfl) (eB eL (eS eG (eV rfl) k1) (bPow rfl k3 k4)) (bMod (Int.pow_ne_zero (by decide)))) rfl)
theorem c97 {x : Int} (K : isKind k lo b) : (R TL (n + 40)).call 97 [.d (.str k), .d (.int x)] h = some (.d (.int (wrapS lo b x)), h) := by
  apply kD at_97 rfl
  exact xR (eF (c90 K) (sc (eV rfl) (sc (eK (sc (eV rfl) sn) rfl) sn)))
end Mine
end
section
open PySem PySem.W
set_option maxRecDepth 100000
set_option linter.unusedSimpArgs false
namespace Mine
variable {n : Nat} {h : List O} {k : Str} {lo : Int} {b : Nat}
noncomputable def absS (a : Int) : Int := if decide (a < 0) then -a else a
noncomputable def quotS (a o : Int) : Int := if decide (a < 0) == decide (o < 0) then (absS a).fdiv (absS o) else 0 - (absS a).fdiv (absS o)
theorem small_abs {o : Int} (h : small o = true) : small (absS o) = true := by
  unfold absS
  split
  · unfold small at *; rwa [Int.natAbs_neg]
  · exact h
theorem abs_ne {o : Int} (h : o ≠ 0) : absS o ≠ 0 := by
  unfold absS
  split <;> simp [h]
theorem c104 {a o : Int} (hs : small o = true) (ho : o ≠ 0) : (R TL (n + 20)).call 104 [.d (.int a), .d (.int o)] h = some (.d (.int (quotS a o)), h) := by
  apply kD at_104 rfl
  refine xA (eB (eK (sc (eV rfl) sn) rfl) (eK (sc (eV rfl) sn) rfl) (bDiv (abs_ne ho) (small_abs hs))) ?_
  have e : ∀ x y : Bool, (lay (.bool x) && lay (.bool y)) = true := fun x y => by cases x <;> cases y <;> kernel_rfl
  unfold quotS
  cases hq : (decide (a < 0) == decide (o < 0))
  · exact xR (eIf (tE rfl (eC (eC (eV rfl) eL rfl) (eC (eV rfl) eL rfl) (cB0 hq))) (eB eL (eV rfl) rfl))
  · exact xR (eIt (tE rfl (eC (eC (eV rfl) eL rfl) (eC (eV rfl) eL rfl) (cB0 hq))) (eV rfl))
end Mine
end
section
open PySem PySem.W
set_option maxRecDepth 100000
set_option linter.unusedSimpArgs false
namespace Mine
variable {n : Nat} {h : List O} {k : Str} {lo : Int} {b : Nat}
noncomputable def placesS (b : Nat) (o : Int) : Int := (2 : Int) ^ (o.fmod b).toNat
noncomputable def wholeS (op : Str) (b : Nat) (a o : Int) : Int :=
  if op = "+" then a + o else if op = "-" then a - o else if op = "*" then a * o else if op = "/" then quotS a o else if op = "%" then a - o * quotS a o
  else if op = "<<" then a * placesS b o else a.fdiv (placesS b o)
def isOp (op : Str) : Prop := op = "+" ∨ op = "-" ∨ op = "*" ∨ op = "/" ∨ op = "%" ∨ op = "<<" ∨ op = ">>"
noncomputable def overS (op : Str) (lo : Int) (b : Nat) (a o : Int) : Bool :=
  if op = "<<" ∨ op = ">>" then !(decide (0 ≤ o) && decide (o < b)) else if op = "%" ∧ lo < 0 ∧ o = -1 then decide (a = lo) else !fitB lo b (wholeS op b a o)
theorem places_ok (K : isKind k lo b) (o : Int) : small (placesS b o) = true ∧ placesS b o ≠ 0 ∧ (0 ≤ o.fmod b ∧ o.fmod b ≤ 200) := by
  have hb : 0 < b ∧ b ≤ 64 := by rcases K with ⟨_, _, rfl⟩ | ⟨_, _, rfl⟩ | ⟨_, _, rfl⟩ | ⟨_, _, rfl⟩ <;> decide
  have h1 : 0 ≤ o.fmod b := by rw [Int.fmod_eq_emod_of_nonneg o (by omega)]; exact Int.emod_nonneg o (by omega)
  have h2 : o.fmod b < b := Int.fmod_lt_of_pos o (by omega)
  refine ⟨?_, ?_, h1, by omega⟩
  · unfold small placesS
    have h3 : (o.fmod b).toNat ≤ 63 := by omega
    have h4 : ((2 : Int) ^ (o.fmod b).toNat).natAbs = 2 ^ (o.fmod b).toNat := by rw [Int.natAbs_pow]; rfl
    rw [h4]
    refine Nat.blt_eq.mpr ?_
    exact Nat.pow_lt_pow_right (by decide) (by omega)
  · unfold placesS
    exact Int.pow_ne_zero (by decide)
theorem c111 {op : Str} {a o : Int} (hop : op = "+" ∨ op = "-" ∨ op = "*" ∨ op = "/" ∨ op = "%") (hs : small o = true) (ho : o ≠ 0 ∨ (op ≠ "/" ∧ op ≠ "%")) : (R TL (n + 40)).call 111 [.d (.str op), .d (.int a), .d (.int o)] h = some (.d (.int (wholeS op b a o)), h) := by
  rcases hop with rfl | rfl | rfl | rfl | rfl
  · exact Eq.trans (b := back h.length (some (.d (.int (a + o)), h))) (by kernel_rfl) back_d
  · exact Eq.trans (b := back h.length (some (.d (.int (a - o)), h))) (by kernel_rfl) back_d
  · apply kD at_111 rfl
    refine xF (h1 := h) (by kernel_rfl) ?_
    refine xF (h1 := h) (by kernel_rfl) ?_
    exact xTr (h1 := h) (by kernel_rfl) (xR (eB (eV rfl) (eV rfl) (bMul hs)))
  · have h0 : o ≠ 0 := by rcases ho with h | h; exact h; exact absurd rfl h.1
    apply kD at_111 rfl
    refine xF (h1 := h) (by kernel_rfl) ?_
    refine xF (h1 := h) (by kernel_rfl) ?_
    refine xF (h1 := h) (by kernel_rfl) ?_
    refine xF (h1 := h) (by kernel_rfl) ?_
    refine xF (h1 := h) (by kernel_rfl) ?_
    refine xF (h1 := h) (by kernel_rfl) ?_
    refine xF (h1 := h) (by kernel_rfl) ?_
    refine xF (tE rfl (eC (eV rfl) eL (cI0 (intEq_ne h0)))) ?_
    exact xR (eIt (h1 := h) (by kernel_rfl) (eF (c104 hs h0) rfl))
  · have h0 : o ≠ 0 := by rcases ho with h | h; exact h; exact absurd rfl h.2
    apply kD at_111 rfl
    refine xF (h1 := h) (by kernel_rfl) ?_
    refine xF (h1 := h) (by kernel_rfl) ?_
    refine xF (h1 := h) (by kernel_rfl) ?_
    refine xF (h1 := h) (by kernel_rfl) ?_
    refine xF (h1 := h) (by kernel_rfl) ?_
    refine xF (h1 := h) (by kernel_rfl) ?_
    refine xF (h1 := h) (by kernel_rfl) ?_
    refine xF (tE rfl (eC (eV rfl) eL (cI0 (intEq_ne h0)))) ?_
    exact xR (eIf (h1 := h) (by kernel_rfl) (eB (eV rfl) (eB (eV rfl) (eF (c104 hs h0) rfl) (bMul' hs)) rfl))
theorem c111z {op : Str} {a : Int} (hop : op = "/" ∨ op = "%") : (R TL (n + 40)).call 111 [.d (.str op), .d (.int a), .d (.int 0)] h = some (.d .none, h) := by
  rcases hop with rfl | rfl <;> exact Eq.trans (b := back h.length (some (.d .none, h))) (by kernel_rfl) back_d
theorem c125 {op : Str} {a o : Int} (K : isKind k lo b) (hop : op = "<<" ∨ op = ">>") : (R TL (n + 50)).call 125 [.d (.str k), .d (.str op), .d (.int a), .d (.int o)] h = some (.d (.tuple [.int (wrapS lo b (wholeS op b a o)), .bool (overS op lo b a o)]), h) := by
  obtain ⟨p1, p2, p3, p4⟩ := places_ok K o
  obtain ⟨k1, k2, _⟩ := kind_bits (h := h) K
  rcases hop with rfl | rfl
  · apply kD at_125 rfl
    refine xA (eB (eV rfl) (eS eG (eV rfl) k1) (bMod k2)) ?_
    refine xA (eIt (h1 := h) (by kernel_rfl) (eB (eV rfl) (eB eL (eV rfl) (bPow rfl p3 p4)) (bMul p1))) ?_
    exact xR (eT (sc (eF (c90 K) rfl) (sc (eN (eC2 eL (eV rfl) rfl (eS eG (eV rfl) k1) rfl)) sn)) rfl)
  · apply kD at_125 rfl
    refine xA (eB (eV rfl) (eS eG (eV rfl) k1) (bMod k2)) ?_
    refine xA (eIf (h1 := h) (by kernel_rfl) (eB (eV rfl) (eB eL (eV rfl) (bPow rfl p3 p4)) (bDiv p2 p1))) ?_
    exact xR (eT (sc (eF (c90 K) rfl) (sc (eN (eC2 eL (eV rfl) rfl (eS eG (eV rfl) k1) rfl)) sn)) rfl)
end Mine
end
section
open PySem PySem.W
set_option maxRecDepth 100000
set_option linter.unusedSimpArgs false
namespace Mine
variable {n : Nat} {h : List O} {k : Str} {lo : Int} {b : Nat}
theorem kind_lay (K : isKind k lo b) : PyData.strOk k = true := by
  rcases K with ⟨rfl, _, _⟩ | ⟨rfl, _, _⟩ | ⟨rfl, _, _⟩ | ⟨rfl, _, _⟩ <;> decide +kernel
theorem c118 {op : Str} {a o : Int} (K : isKind k lo b) (hop : isOp op) (hs : small o = true) (ho : o ≠ 0 ∨ (op ≠ "/" ∧ op ≠ "%")) :
    (R TL (n + 60)).call 118 [.d (.str k), .d (.str op), .d (.int a), .d (.int o)] h = some (.d (.tuple [.int (wrapS lo b (wholeS op b a o)), .bool (overS op lo b a o)]), h) := by
  have fin : ∀ {n w} {ρ : Rho}, ρ[0]? = some (some (.d (.str k))) → ρ[4]? = some (some (.d (.int w))) → (R TL (n + 45)).ev (.tup [.callF 90 [.var 0, .var 4], .not (.callF 83 [.var 0, .var 4])]) ρ h = some (.d (.tuple [.int (wrapS lo b w), .bool (!fitB lo b w)]), h) := fun e0 e4 =>
    eT (sc (eF (c90 K) (sc (eV e0) (sc (eV e4) sn))) (sc (eN (eF (c83 K) (sc (eV e0) (sc (eV e4) sn)))) sn)) rfl
  rcases hop with rfl | rfl | rfl | rfl | rfl | rfl | rfl
  · apply kD at_118 rfl
    refine xF (h1 := h) (by kernel_rfl) ?_
    refine xA (eF (c111 (b := b) (.inl rfl) hs ho) rfl) ?_
    refine xF (h1 := h) (by kernel_rfl) ?_
    refine xF (h1 := h) (by kernel_rfl) ?_
    exact xR (fin rfl rfl)
  · apply kD at_118 rfl
    refine xF (h1 := h) (by kernel_rfl) ?_
    refine xA (eF (c111 (b := b) (.inr (.inl rfl)) hs ho) rfl) ?_
    refine xF (h1 := h) (by kernel_rfl) ?_
    refine xF (h1 := h) (by kernel_rfl) ?_
    exact xR (fin rfl rfl)
  · apply kD at_118 rfl
    refine xF (h1 := h) (by kernel_rfl) ?_
    refine xA (eF (c111 (b := b) (.inr (.inr (.inl rfl))) hs ho) rfl) ?_
    refine xF (h1 := h) (by kernel_rfl) ?_
    refine xF (h1 := h) (by kernel_rfl) ?_
    exact xR (fin rfl rfl)
  · apply kD at_118 rfl
    refine xF (h1 := h) (by kernel_rfl) ?_
    refine xA (eF (c111 (b := b) (.inr (.inr (.inr (.inl rfl)))) hs ho) rfl) ?_
    refine xF (h1 := h) (by kernel_rfl) ?_
    refine xF (h1 := h) (by kernel_rfl) ?_
    exact xR (fin rfl rfl)
  · apply kD at_118 rfl
    refine xF (h1 := h) (by kernel_rfl) ?_
    refine xA (eF (c111 (b := b) (.inr (.inr (.inr (.inr rfl)))) hs ho) rfl) ?_
    refine xF (h1 := h) (by kernel_rfl) ?_
    by_cases hm : o = -1
    · by_cases hl : lo < 0
      · have w0 : wrapS lo b (wholeS "%" b a o) = 0 := by
          subst hm
          have : wholeS "%" b a (-1) = 0 := by
            have q : quotS a (-1) = -a := by
              unfold quotS absS
              by_cases ha : a < 0 <;> simp [ha]
            unfold wholeS
            rw [if_neg (by decide), if_neg (by decide), if_neg (by decide), if_neg (by decide), if_pos rfl, q]
            omega
          rw [this]
          rcases K with ⟨_, rfl, rfl⟩ | ⟨_, rfl, rfl⟩ | ⟨_, rfl, rfl⟩ | ⟨_, rfl, rfl⟩ <;> decide +kernel
        have ov : overS "%" lo b a o = decide (a = lo) := by unfold overS; rw [if_neg (by decide), if_pos ⟨rfl, hl, hm⟩]
        rw [w0, ov]
        refine xTr (tP (tc (h1 := h) (by kernel_rfl) (tc (tE rfl (eC (eV rfl) (eM eL) (cI0 ((intEq_iff _ _).mpr hm)))) (tc (tE rfl (eF ((c62 K).trans (by rw [decide_eq_true hl])) rfl)) t0)))) (xR (eT (sc eL (sc (eC (eV rfl) (eF (c69 K) rfl) (cI0 (intEq_dec a lo))) sn)) rfl))
      · have ov : overS "%" lo b a o = !fitB lo b (wholeS "%" b a o) := by unfold overS; rw [if_neg (by decide), if_neg (fun z => hl z.2.1)]
        rw [ov]
        exact xF (tP (tc (h1 := h) (by kernel_rfl) (tc (tE rfl (eC (eV rfl) (eM eL) (cI0 ((intEq_iff _ _).mpr hm)))) (ts (tE rfl (eF ((c62 K).trans (by rw [decide_eq_false hl]; rfl)) rfl)))))) (xR (fin rfl rfl))
    · have ov : overS "%" lo b a o = !fitB lo b (wholeS "%" b a o) := by unfold overS; rw [if_neg (by decide), if_neg (fun z => hm z.2.2)]
      rw [ov]
      exact xF (tP (tc (h1 := h) (by kernel_rfl) (ts (tE rfl (eC (eV rfl) (eM eL) (cI0 (intEq_ne hm))))))) (xR (fin rfl rfl))
  · apply kD at_118 rfl
    exact xTr (h1 := h) (by kernel_rfl) (xR (eF (c125 K (.inl rfl)) rfl))
  · apply kD at_118 rfl
    exact xTr (h1 := h) (by kernel_rfl) (xR (eF (c125 K (.inr rfl)) rfl))
theorem c118z {op : Str} {a : Int} (hop : op = "/" ∨ op = "%") : (R TL (n + 60)).call 118 [.d (.str k), .d (.str op), .d (.int a), .d (.int 0)] h = some (.d (.tuple [.none, .bool false]), h) := by
  apply kD at_118 rfl
  refine xF (h1 := h) (by rcases hop with rfl | rfl <;> kernel_rfl) ?_
  refine xA (eF (c111z hop) rfl) ?_
  exact xTr (h1 := h) (by kernel_rfl) (xR rfl)
end Mine
end
section
open PySem PySem.W
set_option maxRecDepth 100000
set_option linter.unusedSimpArgs false
namespace Mine
variable {n : Nat} {h : List O} {k : Str} {lo : Int} {b : Nat}
noncomputable def wideM : List (Str × PyData) := [("u8", .tuple [.int 0, .int 8]), ("i8", .tuple [.int (-128), .int 8]), ("i32", .tuple [.int (-2147483648), .int 32]), ("u64", .tuple [.int 0, .int 64])]
theorem back_s {h : List O} {x : List (Str × PyData)} : back h.length (some (.sdict x, h)) = some (.sdict x, h) := by
  unfold back; dsimp only; rw [List.take_length]; split <;> rfl
theorem c414 : (R TL (n + 20)).call 414 [] h = some (.sdict wideM, h) :=
  Eq.trans (b := back h.length (some (.sdict wideM, h))) (by kernel_rfl) back_s
theorem wide_at (K : isKind k lo b) : findS k wideM = some (.tuple [.int lo, .int b]) := by
  rcases K with ⟨rfl, rfl, rfl⟩ | ⟨rfl, rfl, rfl⟩ | ⟨rfl, rfl, rfl⟩ | ⟨rfl, rfl, rfl⟩ <;> kernel_rfl
theorem kind_b (K : isKind k lo b) : (b : Int) ≠ 0 ∧ (0 : Int) ≤ b ∧ (b : Int) ≤ 200 := by
  rcases K with ⟨rfl, rfl, rfl⟩ | ⟨rfl, rfl, rfl⟩ | ⟨rfl, rfl, rfl⟩ | ⟨rfl, rfl, rfl⟩ <;> decide
theorem wide_sub (K : isKind k lo b) : subV h (.sdict wideM) (.d (.str k)) = some (.d (.tuple [.int lo, .int b])) := by
  rcases K with ⟨rfl, rfl, rfl⟩ | ⟨rfl, rfl, rfl⟩ | ⟨rfl, rfl, rfl⟩ | ⟨rfl, rfl, rfl⟩ <;> kernel_rfl
theorem c449 {x : Int} (K : isKind k lo b) : (R TL (n + 40)).call 449 [.d (.str k), .d (.int x)] h = some (.d (.int (wrapS lo b x)), h) := by
  obtain ⟨b0, b1, b2⟩ := kind_b K
  have e4 : wrapS lo b x = (x - lo).fmod (2 ^ b) + lo := Int.add_comm _ _
  rw [e4]
  apply kD at_449 rfl
  refine xU (eS (eF c414 sn) (eV rfl) (wide_sub K)) rfl ?_
  exact xR (eB (eB (eB (eV rfl) (eV rfl) rfl) (eB eL (eV rfl) (bPow rfl b1 b2)) (bMod (Int.pow_ne_zero (by decide)))) (eV rfl) rfl)
theorem c442d {a o : Int} {ρ : Rho} (ho : o ≠ 0) (hs : small o = true) (e2 : ρ[2]? = some (some (.d (.int a)))) (e3 : ρ[3]? = some (some (.d (.int o)))) : (R TL (n + 9)).ev (.bin .Mult (.bin .FloorDiv (.callB false .abs [(.var 2)]) (.callB false .abs [(.var 3)])) (.ite (.cmp .Eq (.cmp .Lt (.var 2) (.lit (.int (0)))) (.cmp .Lt (.var 3) (.lit (.int (0))))) (.lit (.int (1))) (.neg (.lit (.int (1)))))) ρ h = some (.d (.int (quotS a o)), h) := by
  have q : quotS a o = (absS a).fdiv (absS o) * (if decide (a < 0) == decide (o < 0) then 1 else -1) := by
    unfold quotS
    cases decide (a < 0) == decide (o < 0)
    · exact (Int.zero_sub _).trans (Int.neg_eq_neg_one_mul _ |>.trans (Int.mul_comm _ _))
    · exact (Int.mul_one _).symm
  rw [q]
  have d : (R TL (n + 8)).ev (.bin .FloorDiv (.callB false .abs [(.var 2)]) (.callB false .abs [(.var 3)])) ρ h = some (.d (.int ((absS a).fdiv (absS o))), h) := eB (eK (sc (eV e2) sn) rfl) (eK (sc (eV e3) sn) rfl) (bDiv (abs_ne ho) (small_abs hs))
  cases hq : (decide (a < 0) == decide (o < 0))
  · exact eB d (eIf (tE rfl (eC (eC (eV e2) eL rfl) (eC (eV e3) eL rfl) (cB0 hq))) (eM eL)) (bMul rfl)
  · exact eB d (eIt (tE rfl (eC (eC (eV e2) eL rfl) (eC (eV e3) eL rfl) (cB0 hq))) eL) (bMul rfl)
theorem c442 {op : Str} {a o : Int} (K : isKind k lo b) (hop : isOp op) (hs : small o = true) (ho : o ≠ 0 ∨ (op ≠ "/" ∧ op ≠ "%")) :
    (R TL (n + 60)).call 442 [.d (.str k), .d (.str op), .d (.int a), .d (.int o)] h = some (.d (.int (wholeS op b a o)), h) := by
  obtain ⟨b0, b1, b2⟩ := kind_b K
  obtain ⟨p1, p2, p3, p4⟩ := places_ok K o
  have fin : op = "+" ∨ op = "-" ∨ op = "*" ∨ op = "<<" ∨ op = ">>" → (R TL (n + 60)).call 442 [.d (.str k), .d (.str op), .d (.int a), .d (.int o)] h = some (.d (.int (wholeS op b a o)), h) := fun hop => by
    apply kD at_442 rfl
    refine xF (h1 := h) (by rcases hop with rfl | rfl | rfl | rfl | rfl <;> kernel_rfl) ?_
    refine xA (eB eL (eB (eV rfl) (eS (eS (eF c414 sn) (eV rfl) (wide_sub K)) eL rfl) (bMod b0)) (bPow rfl p3 p4)) ?_
    refine xR (eS (eD (pc eL (eB (eV rfl) (eV rfl) rfl) (pc eL (eB (eV rfl) (eV rfl) rfl) (pc eL (eB (eV rfl) (eV rfl) (bMul hs)) (pc eL (eB (eV rfl) (eV rfl) (bMul p1)) (pc eL (eB (eV rfl) (eV rfl) (bDiv p2 p1)) pn))))) (by kernel_rfl : _ = some (V.sdict [("+", .int (a + o)), ("-", .int (a - o)), ("*", .int (a * o)), ("<<", .int (a * placesS b o)), (">>", .int (a.fdiv (placesS b o)))], h))) (eV rfl) ?_)
    rcases hop with rfl | rfl | rfl | rfl | rfl <;> kernel_rfl
  rcases hop with h | h | h | rfl | rfl | h | h
  · exact fin (.inl h)
  · exact fin (.inr (.inl h))
  · exact fin (.inr (.inr (.inl h)))
  · have h0 : o ≠ 0 := by rcases ho with h | h; exact h; exact absurd rfl h.1
    apply kD at_442 rfl
    refine xTr (h1 := h) (by kernel_rfl) ?_
    refine xF (tE rfl (eC (eV rfl) eL (cI0 (intEq_ne h0)))) ?_
    refine xA (c442d h0 hs rfl rfl) ?_
    exact xR (eIt (h1 := h) (by kernel_rfl) (eV rfl))
  · have h0 : o ≠ 0 := by rcases ho with h | h; exact h; exact absurd rfl h.2
    apply kD at_442 rfl
    refine xTr (h1 := h) (by kernel_rfl) ?_
    refine xF (tE rfl (eC (eV rfl) eL (cI0 (intEq_ne h0)))) ?_
    refine xA (c442d h0 hs rfl rfl) ?_
    exact xR (eIf (h1 := h) (by kernel_rfl) (eB (eV rfl) (eB (eV rfl) (eV rfl) (bMul' hs)) rfl))
  · exact fin (.inr (.inr (.inr (.inl h))))
  · exact fin (.inr (.inr (.inr (.inr h))))
end Mine
end
section
open PySem PySem.W
set_option maxRecDepth 100000
set_option linter.unusedSimpArgs false
namespace Mine
variable {n : Nat} {h : List O} {k : Str} {lo : Int} {b : Nat}
theorem fit_iff (lo : Int) (b : Nat) (x : Int) : decide (x = wrapS lo b x) = fitB lo b x := by
  have hp : (0 : Int) < 2 ^ b := Int.pow_pos (by decide)
  have e : (x - lo).fmod (2 ^ b) = (x - lo) % (2 ^ b) := Int.fmod_eq_emod_of_nonneg _ (Int.le_of_lt hp)
  have h1 := Int.emod_nonneg (x - lo) (b := 2 ^ b) (Int.ne_of_gt hp)
  have h2 := Int.emod_lt_of_pos (x - lo) hp
  unfold wrapS fitB
  rw [e, ← Bool.decide_and]
  generalize (2 : Int) ^ b = p at *
  refine decide_eq_decide.mpr ⟨fun z => by omega, fun z => ?_⟩
  rw [Int.emod_eq_of_lt (by omega) (by omega)]; omega
theorem c456 {op : Str} {a o : Int} (K : isKind k lo b) (hop : isOp op) :
    (R TL (n + 60)).call 456 [.d (.str k), .d (.str op), .d (.int a), .d (.int o), .d (.int (wholeS op b a o))] h = some (.d (.bool (overS op lo b a o)), h) := by
  have s := fun h => wide_sub (h := h) K
  have z : ∀ w : Int, (!decide (w = wrapS lo b w)) = !fitB lo b w := fun w => congrArg not (fit_iff lo b w)
  have fin : ∀ {op : Str}, ¬ (op = "<<" ∨ op = ">>") → (∀ ρ, ρ[1]? = some (some (V.d (.str op))) → ρ[3]? = some (some (V.d (.int o))) → ρ[5]? = some (some (V.d (.int lo))) → tstN (R TL (n + 58)) ρ 4 (.bop true [(.cmp .Eq (.var 1) (.lit (.str "%"))), (.cmp .Lt (.var 5) (.lit (.int (0)))), (.cmp .Eq (.var 3) (.neg (.lit (.int (1)))))]) h = some (false, h)) → ¬ (op = "%" ∧ lo < 0 ∧ o = -1) →
      tstN (R TL (n + 58)) [some (.d (.str k)), some (.d (.str op)), some (.d (.int a)), some (.d (.int o)), some (.d (.int (wholeS op b a o))), some (.d (.int lo)), some (.d (.int b)), none, none] 4 (.cmp .In (.var 1) (.lst false [(.lit (.str "<<")), (.lit (.str ">>"))])) h = some (false, h) →
      (R TL (n + 60)).call 456 [.d (.str k), .d (.str op), .d (.int a), .d (.int o), .d (.int (wholeS op b a o))] h = some (.d (.bool (overS op lo b a o)), h) := fun {op} n1 t n2 t0 => by
    have ov : overS op lo b a o = !fitB lo b (wholeS op b a o) := (if_neg n1).trans (if_neg n2)
    rw [ov, ← z (wholeS op b a o)]
    apply kD at_456 rfl
    refine xU (eS (eF c414 sn) (eV rfl) (s h)) rfl ?_
    refine xF0 t0 (xF0 (t _ rfl rfl rfl) (xR (eC (eV rfl) (eF (c449 K) (sc (eV rfl) (sc (eV rfl) sn))) cN1)))
  have sh : ∀ {op : Str}, op = "<<" ∨ op = ">>" → tstN (R TL (n + 58)) [some (.d (.str k)), some (.d (.str op)), some (.d (.int a)), some (.d (.int o)), some (.d (.int (wholeS op b a o))), some (.d (.int lo)), some (.d (.int b)), none, none] 4 (.cmp .In (.var 1) (.lst false [(.lit (.str "<<")), (.lit (.str ">>"))])) h = some (true, h) →
      (R TL (n + 60)).call 456 [.d (.str k), .d (.str op), .d (.int a), .d (.int o), .d (.int (wholeS op b a o))] h = some (.d (.bool (overS op lo b a o)), h) := fun {op} n1 t => by
    have ov : overS op lo b a o = !(decide (0 ≤ o) && decide (o < b)) := if_pos n1
    rw [ov]
    apply kD at_456 rfl
    refine xU (eS (eF c414 sn) (eV rfl) (s h)) rfl ?_
    exact xTr0 t (xR (eN (eC2 eL (eV rfl) rfl (eV rfl) rfl)))
  have ne : ∀ {ρ : Rho}, tstN (R TL (n + 57 + 1)) ρ 3 (.cmp .Eq (.var 1) (.lit (.str "%"))) h = some (false, h) → tstN (R TL (n + 58)) ρ 4 (.bop true [(.cmp .Eq (.var 1) (.lit (.str "%"))), (.cmp .Lt (.var 5) (.lit (.int (0)))), (.cmp .Eq (.var 3) (.neg (.lit (.int (1)))))]) h = some (false, h) := fun e => tP (ts e)
  rcases hop with rfl | rfl | rfl | rfl | rfl | rfl | rfl
  · exact fin (by decide) (fun ρ e _ _ => ne (tE rfl (eC (eV e) eL (by kernel_rfl)))) (fun z => absurd z.1 (by decide)) (by kernel_rfl)
  · exact fin (by decide) (fun ρ e _ _ => ne (tE rfl (eC (eV e) eL (by kernel_rfl)))) (fun z => absurd z.1 (by decide)) (by kernel_rfl)
  · exact fin (by decide) (fun ρ e _ _ => ne (tE rfl (eC (eV e) eL (by kernel_rfl)))) (fun z => absurd z.1 (by decide)) (by kernel_rfl)
  · exact fin (by decide) (fun ρ e _ _ => ne (tE rfl (eC (eV e) eL (by kernel_rfl)))) (fun z => absurd z.1 (by decide)) (by kernel_rfl)
  · by_cases hl : lo < 0
    · by_cases hm : o = -1
      · have ov : overS "%" lo b a o = decide (a = lo) := (if_neg (by decide)).trans (if_pos ⟨rfl, hl, hm⟩)
        rw [ov]
        apply kD at_456 rfl
        refine xU (eS (eF c414 sn) (eV rfl) (s h)) rfl ?_
        refine xF0 (by kernel_rfl) (xTr0 (tP (tc (h1 := h) (by kernel_rfl) (tc (tE rfl (eC (eV rfl) eL (cLt (decide_eq_true hl)))) (tc (tE rfl (eC (eV rfl) (eM eL) (cEt hm))) t0)))) (xR (eC (eV rfl) (eV rfl) cI1)))
      · exact fin (by decide) (fun ρ e e2 e3 => tP (tc (tE rfl (eC (eV e) eL (by kernel_rfl))) (tc (tE rfl (eC (eV e3) eL (cLt (decide_eq_true hl)))) (ts (tE rfl (eC (eV e2) (eM eL) (cEf hm))))))) (fun z => hm z.2.2) (by kernel_rfl)
    · exact fin (by decide) (fun ρ e e2 e3 => tP (tc (tE rfl (eC (eV e) eL (by kernel_rfl))) (ts (tE rfl (eC (eV e3) eL (cLt (decide_eq_false hl))))))) (fun z => hl z.2.1) (by kernel_rfl)
  · exact sh (.inl rfl) (by kernel_rfl)
  · exact sh (.inr rfl) (by kernel_rfl)

/-- the numbers that are drawn from -/
def Src (h : List O) (s : Nat) : Prop := ∃ big mixed : Int, h[s]? = some (.list [.int big, .int mixed, .list []]) ∧ 0 ≤ mixed ∧ mixed < 2147483647
noncomputable def srcL (big mixed : Int) : O := .list [.int big, .int mixed, .list []]
theorem fmod_lo (x : Int) {t : Int} (h : 0 < t) : 0 ≤ x.fmod t := Int.fmod_nonneg_of_pos x h
theorem c428 {s : Nat} {top : Int} (hs : Src h s) (h0 : 0 < top) (h1 : top ≤ 100) : ∃ r big mixed, 0 ≤ r ∧ r < top ∧ 0 ≤ mixed ∧ mixed < 2147483647 ∧
    ∀ n, (R TL (n + 30)).call 428 [.loc s, .d (.int top)] h = some (.d (.int r), h.set s (srcL big mixed)) := by
  obtain ⟨big, mixed, hh, m0, m1⟩ := hs
  have t0 : top ≠ 0 := Int.ne_of_gt h0
  have t1 : small top = true := Nat.blt_eq.mpr (by omega)
  have p0 : ∀ {n : Nat}, (R TL (n + 20)).ev (.sub (.var 0) (.lit (.int 0))) [some (.loc s), some (.d (.int top)), none] h = some (.d (.int big), h) := eS (eV rfl) eL (uL hh rfl)
  have f1 : ∀ n, tstN (R TL (n + 28)) [some (.loc s), some (.d (.int top)), none] 4 (.cmp .NotEq (.sub (.var 0) (.lit (.int (2)))) (.lst false [])) h = some (false, h) := fun n => tE rfl (eC (eS (eV rfl) eL (uL hh rfl)) (eLi sn rfl) (by kernel_rfl))
  by_cases hb : 0 < big
  · refine ⟨big.fmod top, big.fdiv top, mixed, fmod_lo _ h0, Int.fmod_lt_of_pos _ h0, m0, m1, fun n => ?_⟩
    apply kS at_428 rfl set_len
    refine xF0 (f1 _) (xTr0 (tE rfl (eC p0 eL (cGt (decide_eq_true hb)))) ?_)
    refine xA (eB p0 (eV rfl) (bMod t0)) (xSS (eB (eS (eV rfl) eL (uL hh rfl)) (eV rfl) (bDiv t0 t1)) (eV rfl) eL ?_ (xR (eV rfl)))
    unfold setS; dsimp only; rw [hh]; rfl
  · have q1 := fmod_lo (mixed * 39373 + 7) (t := 2147483647) (by decide)
    have q2 := Int.fmod_lt_of_pos (mixed * 39373 + 7) (b := 2147483647) (by decide)
    refine ⟨(((((mixed * 39373 + 7).fmod 2147483647) * ((mixed * 39373 + 7).fmod 2147483647)).fmod 2147483629).fdiv 32).fmod top, big, _, fmod_lo _ h0, Int.fmod_lt_of_pos _ h0, q1, q2, fun n => ?_⟩
    generalize hM : (mixed * 39373 + 7).fmod 2147483647 = M at *
    have q3 : small M = true := Nat.blt_eq.mpr (by omega)
    have hh' := get_self (z := srcL big M) hh
    apply kS at_428 rfl set_len
    refine xF0 (f1 _) (xF0 (tE rfl (eC p0 eL (cGt (decide_eq_false hb)))) ?_)
    refine xSS (h4 := h.set s (srcL big M)) (eB (eB (eB (eS (eV rfl) eL (uL hh rfl)) eL (bMul rfl)) eL rfl) eL (bMod (by decide))) (eV rfl) eL ?_ ?_
    · unfold setS; dsimp only; rw [hh, hM]; rfl
    · exact xR (eB (eB (eB (eB (eS (eV rfl) eL (uL hh' rfl)) (eS (eV rfl) eL (uL hh' rfl)) (bMul q3)) eL (bMod (by decide))) eL (bDiv (by decide) rfl)) (eV rfl) (bMod t0))
end Mine
end
section
open PySem PySem.W
set_option maxRecDepth 100000
set_option linter.unusedSimpArgs false
namespace Mine
variable {n : Nat} {h : List O} {k : Str} {lo : Int} {b : Nat}
theorem set2 {s : Nat} {x y : O} {v : V} {o : Option (V × List O)} (e : o = some (v, (h.set s x).set s y)) : o = some (v, h.set s y) := by
  rw [e, List.set_set]
theorem Src.set {s : Nat} {big mixed : Int} (hs : Src h s) (a : 0 ≤ mixed) (c : mixed < 2147483647) : Src (h.set s (srcL big mixed)) s := by
  obtain ⟨b0, m0, hh, _⟩ := hs
  exact ⟨big, mixed, get_self hh, a, c⟩
theorem c435 {s : Nat} {xs : List PyData} (hs : Src h s) (h0 : 0 < xs.length) (h1 : xs.length ≤ 100) : ∃ x big mixed, x ∈ xs ∧ 0 ≤ mixed ∧ mixed < 2147483647 ∧
    ∀ n, (R TL (n + 40)).call 435 [.loc s, .d (.list xs)] h = some (.d x, h.set s (srcL big mixed)) := by
  obtain ⟨r, big, mixed, r0, r1, m0, m1, e⟩ := c428 (top := xs.length) hs (Int.natCast_pos.mpr h0) (by omega)
  obtain ⟨m, rfl⟩ := Int.eq_ofNat_of_zero_le r0
  have hm : m < xs.length := Int.ofNat_lt.mp r1
  have hl : xs.length ≤ lim := Nat.le_trans h1 (by decide)
  refine ⟨xs[m], big, mixed, List.getElem_mem _, m0, m1, fun n => ?_⟩
  apply kS at_435 rfl set_len
  exact xR (eS (eV rfl) (eF (e _) (sc (eV rfl) (sc (eK (sc (eV rfl) sn) (kLen rfl hl)) sn))) (uX (aL (List.getElem?_eq_getElem hm) hl)))
theorem c463 {s : Nat} (hs : Src h s) (K : isKind k lo b) : ∃ o big mixed, small o = true ∧ 0 ≤ mixed ∧ mixed < 2147483647 ∧
    ∀ n, (R TL (n + 50)).call 463 [.loc s, .d (.str k)] h = some (.d (.int o), h.set s (srcL big mixed)) := by
  obtain ⟨x, big, mixed, hx, m0, m1, e⟩ := c435 (xs := [.int lo, .int (lo + 2 ^ b - 1), .int 0, .int 1, .int 2, .int 3, .int 7, .int (if lo < 0 then -1 else 5), .int (lo + 1), .int 100]) hs (Nat.le_of_ble_eq_true rfl) (Nat.le_of_ble_eq_true rfl)
  obtain ⟨b0, b1, b2⟩ := kind_b K
  have al : ([.int lo, .int (lo + 2 ^ b - 1), .int 0, .int 1, .int 2, .int 3, .int 7, .int (if lo < 0 then -1 else 5), .int (lo + 1), .int 100] : List PyData).all (fun x => match x with | .int o => small o | _ => false) = true := by
    rcases K with ⟨_, rfl, rfl⟩ | ⟨_, rfl, rfl⟩ | ⟨_, rfl, rfl⟩ | ⟨_, rfl, rfl⟩ <;> decide +kernel
  have ax := List.all_eq_true.mp al x hx
  have fin : ∃ o, x = .int o ∧ small o = true := by
    cases x
    case int o => exact ⟨o, rfl, ax⟩
    all_goals cases ax
  obtain ⟨o, rfl, ho⟩ := fin
  refine ⟨o, big, mixed, ho, m0, m1, fun n => ?_⟩
  apply kS at_463 rfl set_len
  refine xU (eS (eF c414 sn) (eV rfl) (wide_sub K)) rfl ?_
  have it : (R TL (n + 46)).ev (.ite (.cmp .Lt (.var 2) (.lit (.int (0)))) (.neg (.lit (.int (1)))) (.lit (.int (5)))) [some (.loc s), some (.d (.str k)), some (.d (.int lo)), some (.d (.int b)), none, none] h = some (.d (.int (if lo < 0 then -1 else 5)), h) := by
    by_cases hl : lo < 0
    · rw [if_pos hl]; exact eIt0 (tE rfl (eC (eV rfl) eL (cLt (decide_eq_true hl)))) (eM eL)
    · rw [if_neg hl]; exact eIf0 (tE rfl (eC (eV rfl) eL (cLt (decide_eq_false hl)))) eL
  exact xR (eF (e _) (sc (eV rfl) (sc (eLi (sc (eV rfl) (sc (eB (eB (eV rfl) (eB eL (eV rfl) (bPow rfl b1 b2)) rfl) eL rfl) (sc eL (sc eL (sc eL (sc eL (sc eL (sc it (sc (eB (eV rfl) eL rfl) (sc eL sn)))))))))) rfl) sn)))
end Mine
end
section
open PySem PySem.W
set_option maxRecDepth 100000
set_option linter.unusedSimpArgs false
namespace Mine
variable {n : Nat} {h : List O} {k : Str} {lo : Int} {b : Nat}
theorem lay_ints : ∀ ns : List Int, PyData.canLayAll0 (ns.map .int) = true ∧ PyData.depthAll (ns.map .int) = 0
  | [] => ⟨rfl, rfl⟩
  | x :: ns => by
    obtain ⟨h1, h2⟩ := lay_ints ns
    rw [List.map_cons]
    refine ⟨?_, ?_⟩
    · unfold PyData.canLayAll0; rw [h1]; rfl
    · unfold PyData.depthAll; rw [h2]; rfl
theorem lay_list {ns : List Int} : lay (.list (ns.map .int)) = true := by
  obtain ⟨h1, h2⟩ := lay_ints ns
  show (PyData.canLayAll0 (ns.map .int) && decide (PyData.depthAll (ns.map .int) + 1 ≤ 60)) = true
  rw [h1, h2]; rfl
theorem ints_nil {op : CmpOp} {ns : List Int} (q : Bool) (hop : (op = .Eq ∧ q = ns.isEmpty) ∨ (op = .NotEq ∧ q = !ns.isEmpty)) : cmpV h op (.d (.list (ns.map .int))) (.d (.list [])) = some (.d (.bool q)) := by
  have e : eqV h (.d (.list (ns.map .int))) (.d (.list [])) = some ns.isEmpty := by
    show (if lay _ && lay (.list []) then some (deq _ _) else none) = _
    rw [lay_list, show lay (.list []) = true by kernel_rfl]
    cases ns <;> rfl
  rcases hop with ⟨rfl, rfl⟩ | ⟨rfl, rfl⟩ <;> · unfold cmpV; dsimp only; rw [e]; rfl
noncomputable def poolBig (c : Int) : Int := if decide (-1 - c > c) then -1 - c else c
noncomputable def poolMixed (c : Int) : Int := (((poolBig c).fmod 2147483629 + 17) * 48271).fmod 2147483647
theorem c421 {ns : List Int} (hl : ns.length ≤ 63) : ∃ big mixed, 0 ≤ mixed ∧ mixed < 2147483647 ∧
    ∀ n, (R TL (n + 30)).call 421 [.d (.list (ns.map .int)), .d (.list [])] h = some (.loc h.length, h ++ [srcL big mixed]) := by
  refine ⟨poolBig (ns.headD 0) * (if decide (1000000000000000000 ≤ poolBig (ns.headD 0)) = true then 1 else 0), poolMixed (ns.headD 0), fmod_lo _ (by decide), Int.fmod_lt_of_pos _ (by decide), fun n => ?_⟩
  have a : (R TL (n + 28)).ev (.ite (.cmp .NotEq (.var 0) (.lst false [])) (.sub (.var 0) (.lit (.int (0)))) (.lit (.int (0)))) [some (.d (.list (ns.map .int))), some (.d (.list [])), none, none, none, none, none] h = some (.d (.int (ns.headD 0)), h) := by
    cases ns with
    | nil => exact eIf0 (tE rfl (eC (eV rfl) (eLi sn rfl) (ints_nil false (.inr ⟨rfl, rfl⟩)))) eL
    | cons x ns => exact eIt0 (tE rfl (eC (eV rfl) (eLi sn rfl) (ints_nil true (.inr ⟨rfl, rfl⟩)))) (eS (eV rfl) eL (uX (aL (i := 0) rfl (by rw [List.length_map]; exact Nat.le_trans hl (by decide)))))
  have d : ∀ ρ : Rho, ρ[0]? = some (some (.d (.list (ns.map .int)))) → ρ[1]? = some (some (.d (.list []))) → (R TL (n + 27)).ev (.ite (.cmp .Eq (.var 0) (.lst false [])) (.var 1) (.lst false [])) ρ h = some (.d (.list []), h) := fun ρ e0 e1 => by
    cases q : ns.isEmpty
    · exact eIf0 (tE rfl (eC (eV e0) (eLi sn rfl) (ints_nil false (.inl ⟨rfl, q.symm⟩)))) (eLi sn rfl)
    · exact eIt0 (tE rfl (eC (eV e0) (eLi sn rfl) (ints_nil true (.inl ⟨rfl, q.symm⟩)))) (eV e1)
  have sm : ∀ q : Bool, small (if q = true then (1 : Int) else 0) = true := fun q => by cases q <;> rfl
  apply kL at_421 rfl (Nat.le_refl _)
  refine xA a (xA (eK (sc (eV rfl) (sc (eB (eM eL) (eV rfl) rfl) sn)) rfl) (xA (eB (eB (eB (eB (eV rfl) eL (bMod (by decide))) eL rfl) eL (bMul rfl)) eL (bMod (by decide))) (xR ?_)))
  exact eLm (sc (eB (eV rfl) (eK (sc (eC (eV rfl) (eB eL eL (bPow rfl (by decide) (by decide))) rfl) sn) rfl) (bMul (sm _))) (sc (eV rfl) (sc (d _ rfl rfl) sn))) rfl
end Mine
end
section
open PySem PySem.W
set_option maxRecDepth 100000
set_option linter.unusedSimpArgs false
namespace Mine
variable {n : Nat} {h : List O} {k : Str} {lo : Int} {b : Nat}
/-! the data of the bodies -/
noncomputable abbrev tI (k : Str) : PyData := .tuple [.str "int", .str k]
noncomputable abbrev tB : PyData := .tuple [.str "bool"]
noncomputable abbrev cI (k : Str) (v : Int) : PyData := .tuple [.str "const", tI k, .int v]
noncomputable abbrev cB (v : Bool) : PyData := .tuple [.str "const", tB, .bool v]
noncomputable abbrev pl (l : Int) : PyData := .tuple [.int l, .tuple []]
noncomputable abbrev fld (i : Int) : PyData := .tuple [.str "field", .int i]
noncomputable abbrev opX : PyData := .tuple [.str "copy", pl 1]
noncomputable abbrev opC3 : PyData := .tuple [.str "copy", pl 3]
noncomputable abbrev opC2 : PyData := .tuple [.str "copy", .tuple [.int 2, .tuple [fld 1]]]
noncomputable abbrev opM2 : PyData := .tuple [.str "move", .tuple [.int 2, .tuple [fld 0]]]
noncomputable abbrev sAsg (l : Int) (rv : PyData) : PyData := .tuple [.str "assign", pl l, rv]
noncomputable abbrev rUse (o : PyData) : PyData := .tuple [.str "use", o]
noncomputable abbrev rBin (op : Str) (a b : PyData) : PyData := .tuple [.str "binary", .str op, a, b]
noncomputable abbrev rChk (op : Str) (a b : PyData) : PyData := .tuple [.str "checked", .str op, a, b]
noncomputable abbrev rUn (op : Str) (a : PyData) : PyData := .tuple [.str "unary", .str op, a]
noncomputable abbrev rCast (a : PyData) : PyData := .tuple [.str "cast", a, tI "i32"]
noncomputable abbrev sPrint (o : PyData) : PyData := .tuple [.str "print", o]

noncomputable def cmpS (op : Str) (v : Int) : Bool := if op = "<" then decide (v < 3) else if op = "<=" then decide (v ≤ 3) else if op = ">" then decide (v > 3) else if op = ">=" then decide (v ≥ 3) else !decide (v = 3)
def isCmp (op : Str) : Prop := op = "<" ∨ op = "<=" ∨ op = ">" ∨ op = ">=" ∨ op = "!="
/-- what a turn ends with -/
inductive More (k : Str) (lo : Int) (b : Nat) (v : Int) : List PyData → List PyData → Prop
  | cast : More k lo b v [sAsg 4 (rCast opX)] [sAsg 4 (rUse (cI "i32" (wrapS (-2147483648) 32 v)))]
  | flip : More k lo b v [sAsg 0 (rUn "!" opX)] [sAsg 0 (rUse (cI k (wrapS lo b (-1 - v))))]
  | neg : More k lo b v [sAsg 0 (rUn "-" opX)] [sAsg 0 (rUse (cI k (wrapS lo b (-v))))]
  | cmp (op : Str) : isCmp op → More k lo b v [sAsg 3 (rBin op opX (cI k 3))] [sAsg 3 (rUse (cB (cmpS op v)))]
  | none : More k lo b v [] []
theorem c475 {s : Nat} {v : Int} (hs : Src h s) (K : isKind k lo b) : ∃ more told big mixed, More k lo b v more told ∧ 0 ≤ mixed ∧ mixed < 2147483647 ∧
    ∀ n, (R TL (n + 60)).call 475 [.loc s, .d (.str k), .d (.int v)] h = some (.d (.tuple [.list more, .list told]), h.set s (srcL big mixed)) := by
  obtain ⟨r, big, mixed, r0, r1, m0, m1, e⟩ := c428 (top := 4) hs (by decide) (by decide)
  have hs2 : Src (h.set s (srcL big mixed)) s := hs.set m0 m1
  have K3 : isKind "i32" (-2147483648) 32 := .inr (.inr (.inl ⟨rfl, rfl, rfl⟩))
  have st : ∀ {n : Nat} {h1 : List O} {x : PyData}, h1.length = h.length → (∀ ρ : Rho, ρ = [some (.loc s), some (.d (.str k)), some (.d (.int v)), some (.d (tI k)), some (.d tB), some (.d (tI "i32")), some (.d opX), some (.d (.int r)), none, none, none, none, none, none, none, none, none] → ∃ b1 ρ', exs (R TL (n + 59)) (fn_475.body.drop 2) ⟨h.length, h.set s (srcL big mixed), ρ⟩ = some (.ret (.d x), ⟨b1, h1, ρ'⟩)) →
      (R TL (n + 60)).call 475 [.loc s, .d (.str k), .d (.int v)] h = some (.d x, h1) := fun {n h1 x} l g => by
    obtain ⟨b1, ρ', g⟩ := g _ rfl
    apply kS at_475 rfl l
    exact xU (v := .d (.tuple [tI k, tB, tI "i32", opX])) (by kernel_rfl) rfl (xA (eF (e _) rfl) g)
  have hr : r = 0 ∨ r = 1 ∨ r = 2 ∨ r = 3 := by omega
  rcases hr with rfl | rfl | rfl | rfl
  · exact ⟨_, _, big, mixed, .cast, m0, m1, fun n => st set_len fun ρ q => by
      subst q
      exact ⟨_, _, xTr0 (by kernel_rfl) (xA (eF (c449 K3) rfl) (xR (by kernel_rfl)))⟩⟩
  · obtain ⟨x, big', mixed', hx, m0', m1', e'⟩ := c435 (xs := [.str "!", .str "-"]) hs2 (Nat.le_of_ble_eq_true rfl) (Nat.le_of_ble_eq_true rfl)
    rcases List.mem_cons.mp hx with rfl | hx
    · exact ⟨_, _, big', mixed', .flip, m0', m1', fun n => st set_len fun ρ q => by
        subst q
        exact ⟨_, _, xF0 (by kernel_rfl) (xTr0 (by kernel_rfl) (xU (eT (sc (eF (set2 (e' _)) rfl) (sc (eF (c449 K) rfl) sn)) rfl) rfl (xA (eIt0 (by kernel_rfl) (eV rfl)) (xR (by kernel_rfl)))))⟩⟩
    · cases List.mem_singleton.mp hx
      exact ⟨_, _, big', mixed', .neg, m0', m1', fun n => st set_len fun ρ q => by
        subst q
        exact ⟨_, _, xF0 (by kernel_rfl) (xTr0 (by kernel_rfl) (xU (eT (sc (eF (set2 (e' _)) rfl) (sc (eF (c449 K) rfl) sn)) rfl) rfl (xA (eIf0 (by kernel_rfl) (eF (c449 K) rfl)) (xR (by kernel_rfl)))))⟩⟩
  · obtain ⟨x, big', mixed', hx, m0', m1', e'⟩ := c435 (xs := [.str "<", .str "<=", .str ">", .str ">=", .str "!="]) hs2 (Nat.le_of_ble_eq_true rfl) (Nat.le_of_ble_eq_true rfl)
    have hx' : ∃ op, x = .str op ∧ isCmp op := by
      rcases List.mem_cons.mp hx with rfl | hx
      · exact ⟨_, rfl, .inl rfl⟩
      rcases List.mem_cons.mp hx with rfl | hx
      · exact ⟨_, rfl, .inr (.inl rfl)⟩
      rcases List.mem_cons.mp hx with rfl | hx
      · exact ⟨_, rfl, .inr (.inr (.inl rfl))⟩
      rcases List.mem_cons.mp hx with rfl | hx
      · exact ⟨_, rfl, .inr (.inr (.inr (.inl rfl)))⟩
      · exact ⟨_, List.mem_singleton.mp hx, .inr (.inr (.inr (.inr rfl)))⟩
    obtain ⟨op, rfl, hop⟩ := hx'
    refine ⟨_, _, big', mixed', .cmp op hop, m0', m1', fun n => st set_len fun ρ q => ?_⟩
    subst q
    refine ⟨_, _, xF0 (by kernel_rfl) (xF0 (by kernel_rfl) (xTr0 (by kernel_rfl) (xA (eF (set2 (e' _)) rfl) (xA0 (.d (.bool (cmpS op v))) ?_ (xA0 (.d (sAsg 3 (rBin op opX (cI k 3)))) (by kernel_rfl) (xR (by kernel_rfl)))))))⟩
    refine eS (eD (pc eL (eC (eV rfl) eL rfl) (pc eL (eC (eV rfl) eL rfl) (pc eL (eC (eV rfl) eL rfl) (pc eL (eC (eV rfl) eL rfl) (pc eL (eC (eV rfl) eL cN1) pn))))) (by kernel_rfl : _ = some (V.sdict [("<", .bool (decide (v < 3))), ("<=", .bool (decide (v ≤ 3))), (">", .bool (decide (v > 3))), (">=", .bool (decide (v ≥ 3))), ("!=", .bool (!decide (v = 3)))], h.set s (srcL big' mixed')))) (eV rfl) ?_
    rcases hop with rfl | rfl | rfl | rfl | rfl <;> kernel_rfl
  · exact ⟨_, _, big, mixed, .none, m0, m1, fun n => st set_len fun ρ q => by
      subst q
      exact ⟨_, _, xF0 (by kernel_rfl) (xF0 (by kernel_rfl) (xF0 (by kernel_rfl) (xR (by kernel_rfl))))⟩⟩
end Mine
end
section
open PySem PySem.W
set_option maxRecDepth 100000
set_option linter.unusedSimpArgs false
namespace Mine
variable {n : Nat} {h : List O} {k : Str} {lo : Int} {b : Nat}
structure FactsAt (h : List O) (f kf : Nat) (m : List (Int × PyData)) : Prop where
  a : h[f]? = some (.attrs 273 [("known", .loc kf)])
  b : h[kf]? = some (.idict m)
noncomputable abbrev locT (t : PyData) : PyData := .tuple [t, .bool true, .none]
noncomputable abbrev localsL (k : Str) : List PyData := [locT (tI k), locT (tI k), locT (.tuple [.str "tuple", .tuple [tI k, tB]]), locT tB, locT (tI "i32")]
noncomputable abbrev folM : List (Int × PyData) := [(0, .bool true), (1, .bool true), (2, .bool true), (3, .bool true), (4, .bool true)]
structure ConsAt (h : List O) (c bo bl be fo : Nat) (k : Str) : Prop where
  a : h[c]? = some (.attrs 396 [("body", .loc bo), ("followed", .loc fo), ("begins", .loc be)])
  b : h[bo]? = some (.attrs 193 [("name", .d (.str "f")), ("arg_count", .d (.int 0)), ("locals", .d (.list (localsL k))), ("blocks", .loc bl), ("spots", .idict [])])
  f : h[fo]? = some (.idict folM)
noncomputable def orNone (o : Option PyData) : V := match o with | some x => .d x | none => .d .none
theorem cls273 : findN 273 TL.clss = some ⟨249, [("__init__", 249), ("at_place", 256), ("at_operand", 263), ("forget", 270)], []⟩ := by kernel_rfl
variable {f kf : Nat} {m : List (Int × PyData)}
theorem kn_get {i : Int} {w : PyData} {ρ : Rho} (F : FactsAt h f kf m) (r0 : ρ[0]? = some (some (.loc f))) (r1 : ρ[1]? = some (some (.d (.tuple [.int i, w])))) :
    (R TL (n + 10)).ev (.methB .get (.attr (.var 0) "known") [(.sub (.var 1) (.lit (.int (0))))]) ρ h = some (orNone (findI i m), h) :=
  eMB (eA (eV r0) (aV F.a rfl)) (sc (eS (eV r1) eL rfl) sn) (skD F.b F.b) ((mGet F.b).trans (by unfold orNone; cases findI i m <;> rfl))
theorem c256a {l : Int} (F : FactsAt h f kf m) : (R TL (n + 20)).call 256 [.loc f, .d (pl l)] h = some (orNone (findI l m), h) := by
  have e := fun n => kn_get (n := n) (i := l) (w := .tuple []) (ρ := [some (.loc f), some (.d (pl l)), none, none]) F rfl rfl
  unfold orNone at *
  cases q : findI l m <;> rw [q] at e <;> exact kD at_256 rfl (xA (e _) (xFo (eS (eV rfl) eL rfl) rfl (fE rfl) (xR (eV rfl))))
theorem c256b {i : Int} {x y : PyData} (F : FactsAt h f kf m) (hm : findI 2 m = some (.tuple [x, y])) (hi : i = 0 ∨ i = 1) : (R TL (n + 20)).call 256 [.loc f, .d (.tuple [.int 2, .tuple [fld i]])] h = some (.d (if i = 0 then x else y), h) := by
  have e := fun n => kn_get (n := n) (i := 2) (w := .tuple [fld i]) (ρ := [some (.loc f), some (.d (.tuple [.int 2, .tuple [fld i]])), none, none]) F rfl rfl
  rw [hm] at e
  have g : ∀ z, subV h (.d (.tuple [x, y])) (.d (.int i)) = some (.d z) → (R TL (n + 20)).call 256 [.loc f, .d (.tuple [.int 2, .tuple [fld i]])] h = some (.d z, h) := fun z s =>
    kD at_256 rfl (xA (e _) (xFo (eS (eV rfl) eL rfl) rfl (fC rfl rfl (xF0 (by kernel_rfl) (xA (eS (eV rfl) (eS (eV rfl) eL rfl) s) x0)) (cutN (Nat.le_refl _)) (fE rfl)) (xR (eV rfl))))
  rcases hi with rfl | rfl
  · exact g _ rfl
  · exact g _ rfl
theorem c256c {i : Int} (F : FactsAt h f kf m) (hm : findI 2 m = none) (hi : i = 0 ∨ i = 1) : (R TL (n + 20)).call 256 [.loc f, .d (.tuple [.int 2, .tuple [fld i]])] h = some (.d .none, h) := by
  have e := fun n => kn_get (n := n) (i := 2) (w := .tuple [fld i]) (ρ := [some (.loc f), some (.d (.tuple [.int 2, .tuple [fld i]])), none, none]) F rfl rfl
  rw [hm] at e
  exact kD at_256 rfl (xA (e _) (xFoR (eS (eV rfl) eL rfl) rfl (fR rfl rfl (xTr0 (by kernel_rfl) (xR eL)))))
theorem c263k {v : Int} (K : isKind k lo b) (F : FactsAt h f kf m) : (R TL (n + 30)).call 263 [.loc f, .d (cI k v)] h = some (.d (.int v), h) :=
  kD at_263 rfl (xTr0 (by kernel_rfl) (xR (by kernel_rfl)))
theorem c263p {w : Str} {p : PyData} {v : V} (hw : w = "copy" ∨ w = "move") (F : FactsAt h f kf m) (e : ∀ n, (R TL (n + 20)).call 256 [.loc f, .d p] h = some (v, h)) (hv : ∃ x, v = .d x) : (R TL (n + 30)).call 263 [.loc f, .d (.tuple [.str w, p])] h = some (v, h) := by
  obtain ⟨x, rfl⟩ := hv
  exact kD at_263 rfl (xF0 (by rcases hw with rfl | rfl <;> kernel_rfl) (xR (eI cls273 (e _) F.a (eV rfl) (sc (eS (eV rfl) eL rfl) sn) rfl rfl)))
end Mine
end
section
open PySem PySem.W
set_option maxRecDepth 100000
set_option linter.unusedSimpArgs false
namespace Mine
variable {n : Nat} {h : List O} {k : Str} {lo : Int} {b : Nat} {f kf c bo bl be fo : Nat} {m : List (Int × PyData)}
theorem c270 {l : Int} {p : PyData} (F : FactsAt h f kf m) (hl : m.length ≤ 1000000) : (R TL (n + 20)).call 270 [.loc f, .d (.tuple [.int l, p])] h = some (.d .none, h.set kf (.idict (dropI l m))) :=
  kN at_270 rfl set_len (xE (eMB (eA (eV rfl) (aV F.a rfl)) (sc (eS (eV rfl) eL rfl) (sc eL sn)) (skD F.b F.b) (mPopD F.b hl)) x0)
theorem c305k {t v : PyData} : (R TL (n + 20)).call 305 [.loc c, .d (.tuple [.str "const", t, v])] h = some (.d t, h) :=
  kD at_305 rfl (xTr0 (by kernel_rfl) (xR (by kernel_rfl)))
noncomputable def typeAt (k : Str) (l : Int) : PyData := if l = 0 then tI k else if l = 1 then tI k else if l = 2 then .tuple [.str "tuple", .tuple [tI k, tB]] else if l = 3 then tB else tI "i32"
/-- the type of a local's place, and the loop over its projections -/
theorem ty_go {w : Str} {l : Int} {p : List PyData} {t x : PyData} {st : St} (C : ConsAt h c bo bl be fo k) (hw : w = "copy" ∨ w = "move") (ht : subV h (.d (.list (localsL k))) (.d (.int l)) = some (.d (locT t))) (hp : short p = true)
    (g : forS (R TL (n + 28)) h.length (.one 5) [(.ite (.bop false [(.cmp .NotEq (.sub (.var 5) (.lit (.int (0)))) (.lit (.str "field"))), (.cmp .NotEq (.sub (.var 4) (.lit (.int (0)))) (.lit (.str "tuple")))]) [(.ret (.lit .none))] []),
    (.asg 4 (.sub (.sub (.var 4) (.lit (.int (1)))) (.sub (.var 5) (.lit (.int (1))))))] (.vals (p.map .d)) (p.length + 1) 0 ⟨h.length, h, [some (.loc c), some (.d (.tuple [.str w, .tuple [.int l, .tuple p]])), some (.d (.int l)), some (.d (.tuple p)), some (.d t), none]⟩ = some (.next, st)) (hh : st.h = h) (hx : st.r[4]? = some (some (.d x))) :
    (R TL (n + 30)).call 305 [.loc c, .d (.tuple [.str w, .tuple [.int l, .tuple p]])] h = some (.d x, h) := by
  obtain ⟨b1, h1, ρ1⟩ := st
  subst hh
  refine kD at_305 rfl (xF0 (by rcases hw with rfl | rfl <;> kernel_rfl) (xU (eS (eV rfl) eL rfl) rfl (xA (eS (eS (eA (eA (eV rfl) (aV C.a rfl)) (aV C.b rfl)) (eV rfl) ht) eL rfl) (xFo (eV rfl) ?_ g (xR (eV hx))))))
  show (if short p then some (Srcs.vals (p.map .d), p.length + 1) else none) = _
  rw [hp]; rfl
theorem c305l {w : Str} {l : Int} (C : ConsAt h c bo bl be fo k) (hw : w = "copy" ∨ w = "move") (hl : l = 0 ∨ l = 1 ∨ l = 2 ∨ l = 3 ∨ l = 4) : (R TL (n + 30)).call 305 [.loc c, .d (.tuple [.str w, pl l])] h = some (.d (typeAt k l), h) :=
  ty_go C hw (by rcases hl with rfl | rfl | rfl | rfl | rfl <;> kernel_rfl) rfl (fE rfl) rfl rfl
theorem c305f {w : Str} {i : Int} (C : ConsAt h c bo bl be fo k) (hw : w = "copy" ∨ w = "move") (hi : i = 0 ∨ i = 1) : (R TL (n + 30)).call 305 [.loc c, .d (.tuple [.str w, .tuple [.int 2, .tuple [fld i]]])] h = some (.d (if i = 0 then tI k else tB), h) :=
  ty_go (t := .tuple [.str "tuple", .tuple [tI k, tB]]) C hw (by kernel_rfl) rfl (fC rfl rfl (xF0 (by kernel_rfl) (xA0 (.d (if i = 0 then tI k else tB)) (by rcases hi with rfl | rfl <;> kernel_rfl) x0)) (cutN (Nat.le_refl _)) (fE rfl)) rfl rfl
noncomputable def relS (op : Str) (x y : Int) : Bool := if op = "==" then decide (x = y) else if op = "<" then decide (x < y) else if op = "<=" then decide (x ≤ y) else if op = ">" then decide (x > y) else if op = ">=" then decide (x ≥ y) else !decide (x = y)
theorem c132 {op : Str} {x y : Int} (hop : op = "==" ∨ isCmp op) : (R TL (n + 20)).call 132 [.d (.str op), .d (.int x), .d (.int y)] h = some (.d (.bool (relS op x y)), h) := by
  rcases hop with rfl | rfl | rfl | rfl | rfl | rfl
  · exact kD at_132 rfl (xTr0 (by kernel_rfl) (xR (eC (eV rfl) (eV rfl) cI1)))
  · exact kD at_132 rfl (xF0 (by kernel_rfl) (xF0 (by kernel_rfl) (xTr0 (by kernel_rfl) (xR (by kernel_rfl)))))
  · exact kD at_132 rfl (xF0 (by kernel_rfl) (xF0 (by kernel_rfl) (xF0 (by kernel_rfl) (xTr0 (by kernel_rfl) (xR (by kernel_rfl))))))
  · exact kD at_132 rfl (xF0 (by kernel_rfl) (xF0 (by kernel_rfl) (xF0 (by kernel_rfl) (xF0 (by kernel_rfl) (xTr0 (by kernel_rfl) (xR (by kernel_rfl)))))))
  · exact kD at_132 rfl (xF0 (by kernel_rfl) (xF0 (by kernel_rfl) (xF0 (by kernel_rfl) (xF0 (by kernel_rfl) (xF0 (by kernel_rfl) (xTr0 (by kernel_rfl) (xR (by kernel_rfl))))))))
  · exact kD at_132 rfl (xF0 (by kernel_rfl) (xTr0 (by kernel_rfl) (xR (eC (eV rfl) (eV rfl) cN1))))
theorem c284 {op : Str} {t : PyData} {x y : Int} (hop : op = "==" ∨ isCmp op) : (R TL (n + 40)).call 284 [.d (.str op), .d t, .d (.int x), .d (.int y)] h = some (.d (.bool (relS op x y)), h) :=
  kD at_284 rfl (xTr0 (by rcases hop with rfl | rfl | rfl | rfl | rfl | rfl <;> kernel_rfl) (xR (eF (c132 hop) rfl)))
theorem cls396 : findN 396 TL.clss = some ⟨298, [("__init__", 298), ("type_of", 305), ("value_of", 310), ("of_two", 317), ("of_one", 324), ("of_cast", 331), ("step", 338), ("behind", 345), ("gone_on", 350), ("known_target", 357), ("meet", 362), ("follow", 369), ("put", 376), ("put_rvalue", 381), ("put_statement", 388), ("put_terminator", 393)], []⟩ := by kernel_rfl
end Mine
end
section
open PySem PySem.W
set_option maxRecDepth 100000
set_option linter.unusedSimpArgs false
namespace Mine
variable {n : Nat} {h : List O} {k : Str} {lo : Int} {b : Nat} {f kf c bo bl be fo : Nat} {m : List (Int × PyData)}
section
variable {lf rg : PyData} {x y : Int} (F : FactsAt h f kf m) (C : ConsAt h c bo bl be fo k) (K : isKind k lo b)
  (el : ∀ n, (R TL (n + 40)).call 263 [.loc f, .d lf] h = some (.d (.int x), h)) (er : ∀ n, (R TL (n + 40)).call 263 [.loc f, .d rg] h = some (.d (.int y), h)) (et : ∀ n, (R TL (n + 40)).call 305 [.loc c, .d lf] h = some (.d (tI k), h))
include F C K el er et
theorem c317_go {w op : Str} {z : PyData} (g : ∀ ρ : Rho, ρ = [some (.loc c), some (.d (.tuple [.str w, .str op, lf, rg])), some (.loc f), some (.d (.str w)), some (.d (.str op)), some (.d lf), some (.d rg), some (.d (.int x)), some (.d (.int y)), some (.d (tI k)), none, none, none, none] →
      ∃ b1 ρ', exs (R TL (n + 59)) (fn_317.body.drop 3) ⟨h.length, h, ρ⟩ = some (.ret (.d z), ⟨b1, h, ρ'⟩)) :
    (R TL (n + 60)).call 317 [.loc c, .d (.tuple [.str w, .str op, lf, rg]), .loc f] h = some (.d z, h) := by
  obtain ⟨b1, ρ', g⟩ := g _ rfl
  exact kD at_317 rfl (xU (eV rfl) rfl (xU (eT (sc (eI cls273 (el _) F.a (eV rfl) (sc (eV rfl) sn) rfl rfl) (sc (eI cls273 (er _) F.a (eV rfl) (sc (eV rfl) sn) rfl rfl) (sc (eI cls396 (et _) C.a (eV rfl) (sc (eV rfl) sn) rfl rfl) sn))) rfl) rfl (xF0 (by kernel_rfl) g)))
theorem c317b {op : Str} (hop : op = "==" ∨ isCmp op) : (R TL (n + 60)).call 317 [.loc c, .d (rBin op lf rg), .loc f] h = some (.d (.bool (relS op x y)), h) :=
  c317_go F C K el er et fun ρ q => by subst q; exact ⟨_, _, xTr0 (by kernel_rfl) (xR (eF (c284 hop) (sc (eV rfl) (sc (eV rfl) (sc (eV rfl) (sc (eV rfl) sn))))))⟩
theorem c317c {op : Str} (hop : isOp op) (hs : small y = true) (ho : y ≠ 0 ∨ (op ≠ "/" ∧ op ≠ "%")) : (R TL (n + 80)).call 317 [.loc c, .d (rChk op lf rg), .loc f] h = some (.d (.tuple [.int (wrapS lo b (wholeS op b x y)), .bool (overS op lo b x y)]), h) :=
  c317_go (n := n + 20) F C K el er et fun ρ q => by subst q; exact ⟨_, _, xF0 (by kernel_rfl) (xA (eF (c118 K hop hs ho) (sc (eS (eV rfl) eL rfl) (sc (eV rfl) (sc (eV rfl) (sc (eV rfl) sn))))) (xR (eIf0 (by kernel_rfl) (eV rfl))))⟩
theorem c317z {op : Str} (hop : op = "/" ∨ op = "%") (hy : y = 0) : (R TL (n + 80)).call 317 [.loc c, .d (rChk op lf rg), .loc f] h = some (.d .none, h) := by
  subst hy
  exact c317_go (n := n + 20) F C K el er et fun ρ q => by subst q; exact ⟨_, _, xF0 (by kernel_rfl) (xA (eF (c118z hop) (sc (eS (eV rfl) eL rfl) (sc (eV rfl) (sc (eV rfl) (sc (eV rfl) sn))))) (xR (eIt0 (by kernel_rfl) eL)))⟩
end
section
variable {lf : PyData} {x : Int} (F : FactsAt h f kf m) (C : ConsAt h c bo bl be fo k) (K : isKind k lo b)
  (el : ∀ n, (R TL (n + 40)).call 263 [.loc f, .d lf] h = some (.d (.int x), h)) (et : ∀ n, (R TL (n + 40)).call 305 [.loc c, .d lf] h = some (.d (tI k), h))
include F C K el et
theorem c324 {op : Str} (hop : op = "!" ∨ op = "-") : (R TL (n + 60)).call 324 [.loc c, .d (rUn op lf), .loc f] h = some (.d (.int (wrapS lo b (if op = "!" then -1 - x else -x))), h) := by
  have g : ∀ {n : Nat} {z : PyData}, (∀ ρ : Rho, ρ = [some (.loc c), some (.d (rUn op lf)), some (.loc f), some (.d (.int x)), some (.d (tI k)), none] → ∃ b1 ρ', exs (R TL (n + 59)) (fn_324.body.drop 2) ⟨h.length, h, ρ⟩ = some (.ret (.d z), ⟨b1, h, ρ'⟩)) → (R TL (n + 60)).call 324 [.loc c, .d (rUn op lf), .loc f] h = some (.d z, h) := fun {n z} g => by
    obtain ⟨b1, ρ', g⟩ := g _ rfl
    exact kD at_324 rfl (xU (eT (sc (eI cls273 (el _) F.a (eV rfl) (sc (eS (eV rfl) eL rfl) sn) rfl rfl) (sc (eI cls396 (et _) C.a (eV rfl) (sc (eS (eV rfl) eL rfl) sn) rfl rfl) sn)) rfl) rfl (xF0 (by kernel_rfl) g))
  rcases hop with rfl | rfl
  · exact g fun ρ q => by subst q; exact ⟨_, _, xTr0 (by kernel_rfl) (xR (eIf0 (by kernel_rfl) (eF (c90 K) (sc (eS (eV rfl) eL rfl) (sc (eB (eM eL) (eV rfl) rfl) sn)))))⟩
  · rw [if_neg (by decide), ← Int.zero_sub]
    exact g fun ρ q => by subst q; exact ⟨_, _, xF0 (by kernel_rfl) (xR (eF (c90 K) (sc (eS (eV rfl) eL rfl) (sc (eB eL (eV rfl) rfl) sn))))⟩
theorem c331 : (R TL (n + 60)).call 331 [.loc c, .d (rCast lf), .loc f] h = some (.d (.int (wrapS (-2147483648) 32 x)), h) :=
  kD at_331 rfl (xA (eI cls273 (el _) F.a (eV rfl) (sc (eS (eV rfl) eL rfl) sn) rfl rfl) (xF0 (by kernel_rfl) (xR (eF (c97 (.inr (.inr (.inl ⟨rfl, rfl, rfl⟩)))) (sc (eS (eS (eV rfl) eL rfl) eL rfl) (sc (eK (sc (eV rfl) sn) rfl) sn))))))
end
section
variable {v : PyData} (F : FactsAt h f kf m) (C : ConsAt h c bo bl be fo k)
include F C
theorem c310u {o : PyData} (e : ∀ n, (R TL (n + 40)).call 263 [.loc f, .d o] h = some (.d v, h)) : (R TL (n + 60)).call 310 [.loc c, .d (rUse o), .loc f] h = some (.d v, h) :=
  kD at_310 rfl (xA (eS (eV rfl) eL rfl) (xTr0 (by kernel_rfl) (xR (eI cls273 (e _) F.a (eV rfl) (sc (eS (eV rfl) eL rfl) sn) rfl rfl))))
theorem c310t {w : Str} {a1 a2 a3 : PyData} (hw : w = "binary" ∨ w = "checked") (e : ∀ n, (R TL (n + 80)).call 317 [.loc c, .d (.tuple [.str w, a1, a2, a3]), .loc f] h = some (.d v, h)) : (R TL (n + 100)).call 310 [.loc c, .d (.tuple [.str w, a1, a2, a3]), .loc f] h = some (.d v, h) :=
  kD at_310 rfl (xA (eS (eV rfl) eL rfl) (xF0 (by rcases hw with rfl | rfl <;> kernel_rfl) (xF0 (by rcases hw with rfl | rfl <;> kernel_rfl) (xTr0 (by rcases hw with rfl | rfl <;> kernel_rfl) (xR (eI cls396 (e _) C.a (eV rfl) (sc (eV rfl) (sc (eV rfl) sn)) rfl rfl))))))
theorem c310n {a1 a2 : PyData} (e : ∀ n, (R TL (n + 80)).call 324 [.loc c, .d (.tuple [.str "unary", a1, a2]), .loc f] h = some (.d v, h)) : (R TL (n + 100)).call 310 [.loc c, .d (.tuple [.str "unary", a1, a2]), .loc f] h = some (.d v, h) :=
  kD at_310 rfl (xA (eS (eV rfl) eL rfl) (xF0 (by kernel_rfl) (xF0 (by kernel_rfl) (xF0 (by kernel_rfl) (xTr0 (by kernel_rfl) (xR (eI cls396 (e _) C.a (eV rfl) (sc (eV rfl) (sc (eV rfl) sn)) rfl rfl)))))))
theorem c310c {a1 a2 : PyData} (e : ∀ n, (R TL (n + 80)).call 331 [.loc c, .d (.tuple [.str "cast", a1, a2]), .loc f] h = some (.d v, h)) : (R TL (n + 100)).call 310 [.loc c, .d (.tuple [.str "cast", a1, a2]), .loc f] h = some (.d v, h) :=
  kD at_310 rfl (xA (eS (eV rfl) eL rfl) (xF0 (by kernel_rfl) (xF0 (by kernel_rfl) (xF0 (by kernel_rfl) (xF0 (by kernel_rfl) (xTr0 (by kernel_rfl) (xR (eI cls396 (e _) C.a (eV rfl) (sc (eV rfl) (sc (eV rfl) sn)) rfl rfl))))))))
end
end Mine
end
section
open PySem PySem.W
set_option maxRecDepth 100000
set_option linter.unusedSimpArgs false
set_option linter.unusedSectionVars false
namespace Mine
variable {n : Nat} {h : List O} {k : Str} {lo : Int} {b : Nat} {f kf c bo bl be fo : Nat} {m : List (Int × PyData)}
theorem at_ne {i j : Nat} {o o' : O} (e : h[i]? = some o) (e' : h[j]? = some o') (ne : o ≠ o') : i ≠ j := fun z => ne (Option.some.inj (e.symm.trans ((congrArg (h[·]?) z).trans e')))
theorem ne_ai {C : Nat} {l : List (Str × V)} {m : List (Int × PyData)} : O.attrs C l ≠ .idict m := fun e => by cases e
theorem FactsAt.ne (F : FactsAt h f kf m) : f ≠ kf := at_ne F.a F.b ne_ai
theorem ConsAt.ne (C : ConsAt h c bo bl be fo k) (F : FactsAt h f kf m) : c ≠ kf ∧ bo ≠ kf := ⟨at_ne C.a F.b ne_ai, at_ne C.b F.b ne_ai⟩
theorem step_asg {l : Int} {rv v : PyData} (F : FactsAt h f kf m) (C : ConsAt h c bo bl be fo k) (hne : kf ≠ fo) (hl : m.length ≤ 1000) (hd : (dropI l m).length ≤ 1000) (hi : l = 0 ∨ l = 1 ∨ l = 2 ∨ l = 3 ∨ l = 4)
    (e : ∀ n, (R TL (n + 100)).call 310 [.loc c, .d rv, .loc f] h = some (.d v, h)) (hv : isNone (.d v) = some false) :
    (R TL (n + 120)).call 338 [.loc c, .d (sAsg l rv), .loc f] h = some (.d .none, h.set kf (.idict (putI l v (dropI l m)))) := by
  obtain ⟨n2, n3⟩ := C.ne F
  have hf : (findI l folM).isSome = true := by rcases hi with rfl | rfl | rfl | rfl | rfl <;> kernel_rfl
  refine kN at_338 rfl set_len (xT0 (by kernel_rfl) (xU (eT (sc (eS (eV rfl) eL rfl) (sc (eS (eV rfl) eL rfl) sn)) rfl) rfl (xA (eI cls396 (e _) C.a (eV rfl) (sc (eV rfl) (sc (eV rfl) sn)) rfl rfl) (xE (eI cls273 (c270 F (Nat.le_trans hl (by decide))) F.a (eV rfl) (sc (eV rfl) sn) rfl rfl)
    (xT0 (tP (tc (tE rfl (eC (eV rfl) eL (cSome hv))) (tc (tE rfl (eC (eS (eV rfl) eL rfl) (eT sn rfl) (by kernel_rfl))) (tc (tE rfl (eC (eS (eV rfl) eL rfl) (eA (eV rfl) (aV (get_ne C.a n2.symm) rfl)) ?_)) t0))))
      (xSS (eV rfl) (eA (eV rfl) (aV (get_ne F.a F.ne.symm) rfl)) (eS (eV rfl) eL rfl) (vD2 F.b (Nat.le_trans hd (by decide))) x0) x0)))) x0)
  rw [cInD (get_ne C.f hne), hf]
theorem step_none {l : Int} {rv : PyData} (F : FactsAt h f kf m) (C : ConsAt h c bo bl be fo k) (hl : m.length ≤ 1000)
    (e : ∀ n, (R TL (n + 100)).call 310 [.loc c, .d rv, .loc f] h = some (.d .none, h)) :
    (R TL (n + 120)).call 338 [.loc c, .d (sAsg l rv), .loc f] h = some (.d .none, h.set kf (.idict (dropI l m))) :=
  kN at_338 rfl set_len (xT0 (by kernel_rfl) (xU (eT (sc (eS (eV rfl) eL rfl) (sc (eS (eV rfl) eL rfl) sn)) rfl) rfl (xA (eI cls396 (e _) C.a (eV rfl) (sc (eV rfl) (sc (eV rfl) sn)) rfl rfl) (xE (eI cls273 (c270 F (Nat.le_trans hl (by decide))) F.a (eV rfl) (sc (eV rfl) sn) rfl rfl)
    (xF0 (by kernel_rfl) x0)))) x0)
theorem step_print {o : PyData} : (R TL (n + 120)).call 338 [.loc c, .d (sPrint o), .loc f] h = some (.d .none, h) :=
  kN at_338 rfl rfl (xFn0 (by kernel_rfl) (xF0 (by kernel_rfl) x0) x0)
end Mine
end
section
open PySem PySem.W
set_option maxRecDepth 100000
set_option linter.unusedSimpArgs false
set_option linter.unusedSectionVars false
namespace Mine
variable {n : Nat} {h : List O} {k : Str} {lo : Int} {b : Nat} {f kf c bo bl be fo : Nat} {m : List (Int × PyData)}
theorem put_const {t v : PyData} : (R TL (n + 60)).call 376 [.loc c, .d (.tuple [.str "const", t, v]), .loc f] h = some (.d (.tuple [.str "const", t, v]), h) :=
  kD at_376 rfl (xTr0 (by kernel_rfl) (xR (eV rfl)))
theorem put_known {w : Str} {p v : PyData} {t : PyData} (ht : t = tI k ∨ t = tB) (K : isKind k lo b) (F : FactsAt h f kf m) (C : ConsAt h c bo bl be fo k) (hw : w = "copy" ∨ w = "move")
    (e1 : ∀ n, (R TL (n + 40)).call 263 [.loc f, .d (.tuple [.str w, p])] h = some (.d v, h)) (e2 : ∀ n, (R TL (n + 40)).call 305 [.loc c, .d (.tuple [.str w, p])] h = some (.d t, h)) (hv : isNone (.d v) = some false) :
    (R TL (n + 60)).call 376 [.loc c, .d (.tuple [.str w, p]), .loc f] h = some (.d (.tuple [.str "const", t, v]), h) := by
  have g : ∀ {ρ : Rho}, ρ[4]? = some (some (.d t)) → tstA (tstN (R TL (n + 57)) ρ 3) false [(.cmp .Is (.var 4) (.lit .none)), (.cmp .NotIn (.sub (.var 4) (.lit (.int (0)))) (.glob (.d (.tuple [(.str "int"), (.str "bool")]))))] h = some (false, h) := fun {ρ} r => by
    rcases ht with rfl | rfl <;> exact tc (tE rfl (eC (eV r) eL (cSom rfl))) (tc (tE rfl (eC (eS (eV r) eL rfl) eG (by kernel_rfl))) t0)
  exact kD at_376 rfl (xF0 (by rcases hw with rfl | rfl <;> kernel_rfl) (xU (eT (sc (eI cls273 (e1 _) F.a (eV rfl) (sc (eV rfl) sn) rfl rfl) (sc (eI cls396 (e2 _) C.a (eV rfl) (sc (eV rfl) sn) rfl rfl) sn)) rfl) rfl
    (xR (eIf0 (tP (tc (tE rfl (eC (eV rfl) eL (cSom hv))) (g rfl))) (eT (sc eL (sc (eV rfl) (sc (eV rfl) sn))) rfl)))))
theorem put_unknown {w : Str} {p t : PyData} (F : FactsAt h f kf m) (C : ConsAt h c bo bl be fo k) (hw : w = "copy" ∨ w = "move")
    (e1 : ∀ n, (R TL (n + 40)).call 263 [.loc f, .d (.tuple [.str w, p])] h = some (.d .none, h)) (e2 : ∀ n, (R TL (n + 40)).call 305 [.loc c, .d (.tuple [.str w, p])] h = some (.d t, h)) :
    (R TL (n + 60)).call 376 [.loc c, .d (.tuple [.str w, p]), .loc f] h = some (.d (.tuple [.str w, p]), h) :=
  kD at_376 rfl (xF0 (by rcases hw with rfl | rfl <;> kernel_rfl) (xU (eT (sc (eI cls273 (e1 _) F.a (eV rfl) (sc (eV rfl) sn) rfl rfl) (sc (eI cls396 (e2 _) C.a (eV rfl) (sc (eV rfl) sn) rfl rfl) sn)) rfl) rfl
    (xR (eIt0 (by kernel_rfl) (eV rfl)))))
theorem putr_known {l : Int} {rv v : PyData} (K : isKind k lo b) (F : FactsAt h f kf m) (C : ConsAt h c bo bl be fo k) (hl : l = 0 ∨ l = 1 ∨ l = 3 ∨ l = 4)
    (e : ∀ n, (R TL (n + 100)).call 310 [.loc c, .d rv, .loc f] h = some (.d v, h)) (hv : isNone (.d v) = some false) :
    (R TL (n + 120)).call 381 [.loc c, .d rv, .d (pl l), .loc f] h = some (.d (rUse (.tuple [.str "const", typeAt k l, v])), h) := by
  have g : ∀ {ρ : Rho}, ρ[5]? = some (some (.d (typeAt k l))) → tstA (tstN (R TL (n + 118)) ρ 3) true [(.cmp .IsNot (.var 5) (.lit .none)), (.cmp .In (.sub (.var 5) (.lit (.int (0)))) (.glob (.d (.tuple [(.str "int"), (.str "bool")]))))] h = some (true, h) := fun {ρ} r => by
    rcases hl with rfl | rfl | rfl | rfl <;> exact tc (tE rfl (eC (eV r) eL (cSome rfl))) (tc (tE rfl (eC (eS (eV r) eL rfl) eG (by kernel_rfl))) t0)
  exact kD at_381 rfl (xA (eI cls396 (e _) C.a (eV rfl) (sc (eV rfl) (sc (eV rfl) sn)) rfl rfl) (xA (eI cls396 (c305l C (.inl rfl) (by rcases hl with h | h | h | h <;> simp [h])) C.a (eV rfl) (sc (eT (sc eL (sc (eV rfl) sn)) rfl) sn) rfl rfl)
    (xTr0 (tP (tc (tE rfl (eC (eV rfl) eL (cSome hv))) (g rfl))) (xR (eT (sc eL (sc (eT (sc eL (sc (eV rfl) (sc (eV rfl) sn))) rfl) sn)) rfl)))))
theorem c214 {w : Str} {a1 a2 a3 : PyData} (hw : w = "binary" ∨ w = "checked") : (R TL (n + 30)).call 214 [.d (.tuple [.str w, a1, a2, a3])] h = some (.d (.list [a2, a3]), h) :=
  kD at_214 rfl (xA0 (.d (.str w)) (by kernel_rfl) (xF0 (by rcases hw with rfl | rfl <;> kernel_rfl) (xTr0 (by rcases hw with rfl | rfl <;> kernel_rfl) (xR (by kernel_rfl)))))
theorem c221 {w : Str} {a1 a2 a3 b2 b3 : PyData} (hw : w = "binary" ∨ w = "checked") : (R TL (n + 30)).call 221 [.d (.tuple [.str w, a1, a2, a3]), .d (.list [b2, b3])] h = some (.d (.tuple [.str w, a1, b2, b3]), h) :=
  kD at_221 rfl (xA0 (.d (.str w)) (by kernel_rfl) (xF0 (by rcases hw with rfl | rfl <;> kernel_rfl) (xTr0 (by rcases hw with rfl | rfl <;> kernel_rfl) (xR (by kernel_rfl)))))
theorem putr_chk {op : Str} {a2 a3 b2 b3 v : PyData} (F : FactsAt h f kf m) (C : ConsAt h c bo bl be fo k)
    (e : ∀ n, (R TL (n + 100)).call 310 [.loc c, .d (rChk op a2 a3), .loc f] h = some (.d v, h))
    (p2 : ∀ n, (R TL (n + 60)).call 376 [.loc c, .d a2, .loc f] h = some (.d b2, h)) (p3 : ∀ n, (R TL (n + 60)).call 376 [.loc c, .d a3, .loc f] h = some (.d b3, h)) :
    (R TL (n + 120)).call 381 [.loc c, .d (rChk op a2 a3), .d (pl 2), .loc f] h = some (.d (rChk op b2 b3), h) := by
  have g : ∀ {ρ : Rho}, ρ[4]? = some (some (.d v)) → ρ[5]? = some (some (.d (typeAt k 2))) → tstN (R TL (n + 118)) ρ 4 (.bop true [(.cmp .IsNot (.var 4) (.lit .none)), (.cmp .IsNot (.var 5) (.lit .none)), (.cmp .In (.sub (.var 5) (.lit (.int (0)))) (.glob (.d (.tuple [(.str "int"), (.str "bool")]))))]) h = some (false, h) := fun {ρ} r4 r5 => by
    have hn : v = .none ∨ isNone (.d v) = some false := by cases v; exact .inl rfl; all_goals exact .inr rfl
    rcases hn with rfl | hn
    · exact tP (ts (tE rfl (eC (eV r4) eL rfl)))
    · exact tP (tc (tE rfl (eC (eV r4) eL (cSome hn))) (tc (tE rfl (eC (eV r5) eL (cSome rfl))) (ts (tE rfl (eC (eS (eV r5) eL rfl) eG (by kernel_rfl))))))
  exact kD at_381 rfl (xA (eI cls396 (e _) C.a (eV rfl) (sc (eV rfl) (sc (eV rfl) sn)) rfl rfl) (xA (eI cls396 (c305l C (.inl rfl) (by decide)) C.a (eV rfl) (sc (eT (sc eL (sc (eV rfl) sn)) rfl) sn) rfl rfl)
    (xF0 (g rfl rfl) (xR (eF (c221 (.inr rfl)) (sc (eV rfl) (sc (eCo (eF (c214 (.inr rfl)) (sc (eV rfl) sn)) rfl
      (gC rfl rfl (eI cls396 (p2 _) C.a (eV rfl) (sc (eV rfl) (sc (eV rfl) sn)) rfl rfl) (gC rfl rfl (eI cls396 (p3 _) C.a (eV rfl) (sc (eV rfl) (sc (eV rfl) sn)) rfl rfl) (gE rfl))) rfl) sn)))))))
theorem puts_asg {l : Int} {rv rv' : PyData} (C : ConsAt h c bo bl be fo k) (e : ∀ n, (R TL (n + 120)).call 381 [.loc c, .d rv, .d (pl l), .loc f] h = some (.d rv', h)) :
    (R TL (n + 140)).call 388 [.loc c, .d (sAsg l rv), .loc f] h = some (.d (sAsg l rv'), h) :=
  kD at_388 rfl (xTr0 (by kernel_rfl) (xR (eT (sc eL (sc (eS (eV rfl) eL rfl) (sc (eI cls396 (e _) C.a (eV rfl) (sc (eS (eV rfl) eL rfl) (sc (eS (eV rfl) eL rfl) (sc (eV rfl) sn))) rfl rfl) sn))) rfl)))
theorem puts_print {o o' : PyData} (C : ConsAt h c bo bl be fo k) (e : ∀ n, (R TL (n + 60)).call 376 [.loc c, .d o, .loc f] h = some (.d o', h)) :
    (R TL (n + 140)).call 388 [.loc c, .d (sPrint o), .loc f] h = some (.d (sPrint o'), h) :=
  kD at_388 rfl (xF0 (by kernel_rfl) (xTr0 (by kernel_rfl) (xR (eT (sc eL (sc (eI cls396 (e _) C.a (eV rfl) (sc (eS (eV rfl) eL rfl) (sc (eV rfl) sn)) rfl rfl) sn)) rfl))))
end Mine
end
section
open PySem PySem.W
set_option maxRecDepth 100000
set_option linter.unusedSimpArgs false
set_option linter.unusedSectionVars false
namespace Mine
variable {n : Nat} {h : List O} {k : Str} {lo : Int} {b : Nat} {f kf c bo bl be fo : Nat} {m : List (Int × PyData)}
noncomputable abbrev tAs (o : PyData) (w : Str) (g : Int) : PyData := .tuple [.str "assert", o, .bool false, .str w, .int g]
noncomputable abbrev tRet : PyData := .tuple [.str "return"]
noncomputable abbrev tGo (g : Int) : PyData := .tuple [.str "goto", .int g]
section
variable {o : PyData} {w : Str} {g : Int} (F : FactsAt h f kf m) (C : ConsAt h c bo bl be fo k)
include F C
theorem c357a (e : ∀ n, (R TL (n + 40)).call 263 [.loc f, .d o] h = some (.d (.bool false), h)) : (R TL (n + 60)).call 357 [.loc c, .d (tAs o w g), .loc f] h = some (.d (.int g), h) :=
  kD at_357 rfl (xF0 (by kernel_rfl) (xTr0 (tP (tc (h1 := h) (by kernel_rfl) (tc (tE rfl (eC (eI cls273 (e _) F.a (eV rfl) (sc (eS (eV rfl) eL rfl) sn) rfl rfl) (eS (eV rfl) eL rfl) (by kernel_rfl))) t0))) (xR (by kernel_rfl))))
theorem c357b {z : PyData} (hz : z = .bool true ∨ z = .none) (e : ∀ n, (R TL (n + 40)).call 263 [.loc f, .d o] h = some (.d z, h)) : (R TL (n + 60)).call 357 [.loc c, .d (tAs o w g), .loc f] h = some (.d .none, h) :=
  kD at_357 rfl (xF0 (by kernel_rfl) (xF0 (tP (tc (h1 := h) (by kernel_rfl) (ts (tE rfl (eC (eI cls273 (e _) F.a (eV rfl) (sc (eS (eV rfl) eL rfl) sn) rfl rfl) (eS (eV rfl) eL rfl) (by rcases hz with rfl | rfl <;> kernel_rfl)))))) (xR eL)))
theorem c357r : (R TL (n + 60)).call 357 [.loc c, .d tRet, .loc f] h = some (.d .none, h) :=
  kD at_357 rfl (xF0 (by kernel_rfl) (xF0 (by kernel_rfl) (xR eL)))
theorem c393a (e : ∀ n, (R TL (n + 40)).call 263 [.loc f, .d o] h = some (.d (.bool false), h)) : (R TL (n + 80)).call 393 [.loc c, .d (tAs o w g), .loc f] h = some (.d (tGo g), h) :=
  kD at_393 rfl (xA (eI cls396 (c357a F C e) C.a (eV rfl) (sc (eV rfl) (sc (eV rfl) sn)) rfl rfl) (xTr0 (by kernel_rfl) (xR (by kernel_rfl))))
theorem c393b {z o' : PyData} (hz : z = .bool true ∨ z = .none) (e : ∀ n, (R TL (n + 40)).call 263 [.loc f, .d o] h = some (.d z, h)) (p : ∀ n, (R TL (n + 60)).call 376 [.loc c, .d o, .loc f] h = some (.d o', h)) :
    (R TL (n + 80)).call 393 [.loc c, .d (tAs o w g), .loc f] h = some (.d (tAs o' w g), h) :=
  kD at_393 rfl (xA (eI cls396 (c357b F C hz e) C.a (eV rfl) (sc (eV rfl) (sc (eV rfl) sn)) rfl rfl) (xF0 (by kernel_rfl) (xTr0 (by kernel_rfl) (xR
    (eB (eT (sc (eS (eV rfl) eL rfl) (sc (eI cls396 (p _) C.a (eV rfl) (sc (eS (eV rfl) eL rfl) (sc (eV rfl) sn)) rfl rfl) sn)) rfl) (e0 (.d (.tuple [.bool false, .str w, .int g])) (by kernel_rfl)) rfl)))))
theorem c393r : (R TL (n + 80)).call 393 [.loc c, .d tRet, .loc f] h = some (.d tRet, h) :=
  kD at_393 rfl (xA (eI cls396 (c357r F C) C.a (eV rfl) (sc (eV rfl) (sc (eV rfl) sn)) rfl rfl) (xF0 (by kernel_rfl) (xF0 (by kernel_rfl) (xF0 (by kernel_rfl) (xR (eV rfl))))))
end
/-! blocks behind a terminator -/
def OkH (h : List O) : Prop := undH h.length h.length h = true
theorem undH_app {a : Nat} : ∀ {k : Nat} {h t : List O}, k ≤ h.length → undH a k (h ++ t) = undH a k h
  | 0, h, t, _ => by cases h <;> cases t <;> rfl
  | k + 1, [], t, hk => by simp at hk
  | k + 1, x :: h, t, hk => by
    show (x.und a && undH a k (h ++ t)) = (x.und a && undH a k h)
    rw [undH_app (by simpa using hk)]
theorem c202 {o : PyData} {w : Str} {g : Int} (hh : OkH h) : (R TL (n + 40)).call 202 [.d (tAs o w g)] h = some (.d (.list [.int g]), h) :=
  kD at_202 rfl (xA (eS (eV rfl) eL rfl) (xFn0 (by kernel_rfl) (xFn0 (by kernel_rfl) (xFn0 (by kernel_rfl) (xFn0 (by kernel_rfl) (xT0 (by kernel_rfl) (xA (eLi (sc (eS (eV rfl) eL rfl) sn) rfl) x0) x0) x0) x0) x0)
    (xA (eLm sn rfl) (xFo (eV rfl) rfl (fC rfl rfl (xT0 (tP (tc (tE rfl (eC (eV rfl) eL (cSome rfl))) (tc (tE rfl (eC (eV rfl) (eV rfl) (cNiL (ys := []) (q := false) get_at0 (by kernel_rfl) (by kernel_rfl) rfl))) t0)))
      (xE (eMB (eV rfl) (sc (eV rfl) sn) (skL get_at0 get_at0) (mApp get_at0 (by decide))) x0) x0) (cutN (Nat.le_of_eq set_len)) (fE rfl)) (by
        rw [set_at0]; exact xM (l := [.int g]) rfl (Nat.le_refl _) ((undH_app (Nat.le_refl _)).trans hh))))))
theorem c202r (hh : OkH h) : (R TL (n + 40)).call 202 [.d tRet] h = some (.d (.list []), h) :=
  kD at_202 rfl (xA (eS (eV rfl) eL rfl) (xFn0 (by kernel_rfl) (xFn0 (by kernel_rfl) (xFn0 (by kernel_rfl) (xFn0 (by kernel_rfl) (xFn0 (by kernel_rfl) (xA (eLi sn rfl) x0) x0) x0) x0) x0)
    (xA (eLm sn rfl) (xFo (eV rfl) rfl (fE rfl) (xM rfl (Nat.le_refl _) ((undH_app (Nat.le_refl _)).trans hh))))))
end Mine
end
section
open PySem PySem.W
set_option maxRecDepth 100000
set_option linter.unusedSimpArgs false
set_option linter.unusedSectionVars false
namespace Mine
variable {n : Nat} {h : List O} {k : Str} {lo : Int} {b : Nat} {f kf c bo bl be fo : Nat} {m : List (Int × PyData)}
/-- what a statement becomes, and what is known behind it -/
inductive SR (k : Str) (lo : Int) (b : Nat) : List (Int × PyData) → PyData → PyData → List (Int × PyData) → Prop
  | con (v : Int) (m) : SR k lo b m (sAsg 1 (rUse (cI k v))) (sAsg 1 (rUse (cI k v))) (putI 1 (.int v) (dropI 1 m))
  | eq0 (o : Int) (m) : SR k lo b m (sAsg 3 (rBin "==" (cI k o) (cI k 0))) (sAsg 3 (rUse (cB (decide (o = 0))))) (putI 3 (.bool (decide (o = 0))) (dropI 3 m))
  | chk (op : Str) (o v : Int) (m) : findI 1 m = some (.int v) → isOp op → small o = true → (o ≠ 0 ∨ (op ≠ "/" ∧ op ≠ "%")) →
      SR k lo b m (sAsg 2 (rChk op opX (cI k o))) (sAsg 2 (rChk op (cI k v) (cI k o))) (putI 2 (.tuple [.int (wrapS lo b (wholeS op b v o)), .bool (overS op lo b v o)]) (dropI 2 m))
  | chkz (op : Str) (v : Int) (m) : findI 1 m = some (.int v) → (op = "/" ∨ op = "%") → SR k lo b m (sAsg 2 (rChk op opX (cI k 0))) (sAsg 2 (rChk op (cI k v) (cI k 0))) (dropI 2 m)
  | mov (v : Int) (w : PyData) (m) : findI 2 m = some (.tuple [.int v, w]) → SR k lo b m (sAsg 1 (rUse opM2)) (sAsg 1 (rUse (cI k v))) (putI 1 (.int v) (dropI 1 m))
  | prt (v : Int) (m) : findI 1 m = some (.int v) → SR k lo b m (sPrint opX) (sPrint (cI k v)) m
  | cast (v : Int) (m) : findI 1 m = some (.int v) → SR k lo b m (sAsg 4 (rCast opX)) (sAsg 4 (rUse (cI "i32" (wrapS (-2147483648) 32 v)))) (putI 4 (.int (wrapS (-2147483648) 32 v)) (dropI 4 m))
  | un (op : Str) (v : Int) (m) : findI 1 m = some (.int v) → (op = "!" ∨ op = "-") → SR k lo b m (sAsg 0 (rUn op opX)) (sAsg 0 (rUse (cI k (wrapS lo b (if op = "!" then -1 - v else -v))))) (putI 0 (.int (wrapS lo b (if op = "!" then -1 - v else -v))) (dropI 0 m))
  | cmp (op : Str) (v : Int) (m) : findI 1 m = some (.int v) → isCmp op → SR k lo b m (sAsg 3 (rBin op opX (cI k 3))) (sAsg 3 (rUse (cB (relS op v 3)))) (putI 3 (.bool (relS op v 3)) (dropI 3 m))
theorem ite_le {b : Bool} {x y : List (Int × PyData)} {N : Nat} (h1 : x.length ≤ N) (h2 : y.length ≤ N) : (if b then x else y).length ≤ N := by cases b; exact h2; exact h1
theorem dropI_len {l : Int} : ∀ {m : List (Int × PyData)}, (dropI l m).length ≤ m.length
  | [] => Nat.le_refl _
  | (j, x) :: m => ite_le (Nat.le_succ _) (Nat.succ_le_succ dropI_len)
theorem putI_len' {l : Int} {v : PyData} : ∀ {m : List (Int × PyData)}, (putI l v m).length ≤ m.length + 1
  | [] => Nat.le_refl _
  | (j, x) :: m => ite_le (Nat.le_succ _) (Nat.succ_le_succ putI_len')
/-- what a statement does, as the two walks want it -/
inductive SV (h : List O) (c f : Nat) (k : Str) (m : List (Int × PyData)) : PyData → PyData → List (Int × PyData) → Prop
  | known {rv v : PyData} (l : Int) : isNone (.d v) = some false → (l = 0 ∨ l = 1 ∨ l = 3 ∨ l = 4) → (∀ n, (R TL (n + 100)).call 310 [.loc c, .d rv, .loc f] h = some (.d v, h)) → SV h c f k m (sAsg l rv) (sAsg l (rUse (.tuple [.str "const", typeAt k l, v]))) (putI l v (dropI l m))
  | chk {o v0 : Int} {v : PyData} (op : Str) : findI 1 m = some (.int v0) → isNone (.d v) = some false → (∀ n, (R TL (n + 100)).call 310 [.loc c, .d (rChk op opX (cI k o)), .loc f] h = some (.d v, h)) → SV h c f k m (sAsg 2 (rChk op opX (cI k o))) (sAsg 2 (rChk op (cI k v0) (cI k o))) (putI 2 v (dropI 2 m))
  | chkz {o v0 : Int} (op : Str) : findI 1 m = some (.int v0) → (∀ n, (R TL (n + 100)).call 310 [.loc c, .d (rChk op opX (cI k o)), .loc f] h = some (.d .none, h)) → SV h c f k m (sAsg 2 (rChk op opX (cI k o))) (sAsg 2 (rChk op (cI k v0) (cI k o))) (dropI 2 m)
  | prt {v : Int} : findI 1 m = some (.int v) → SV h c f k m (sPrint opX) (sPrint (cI k v)) m
section
variable (K : isKind k lo b) (F : FactsAt h f kf m) (C : ConsAt h c bo bl be fo k)
include F in
theorem opnd_const {v : Int} : ∀ n, (R TL (n + 40)).call 263 [.loc f, .d (cI k v)] h = some (.d (.int v), h) := fun n => kD at_263 rfl (xTr0 (by kernel_rfl) (xR (by kernel_rfl)))
include F in
theorem opnd_x {v : Int} (hv : findI 1 m = some (.int v)) : ∀ n, (R TL (n + 40)).call 263 [.loc f, .d opX] h = some (.d (.int v), h) := fun n =>
  c263p (n := n + 10) (w := "copy") (.inl rfl) F (fun n => by rw [c256a F, hv]; rfl) ⟨_, rfl⟩
include K F C
theorem sr_val {s s' : PyData} {m' : List (Int × PyData)} (r : SR k lo b m s s' m') : SV h c f k m s s' m' := by
  have tX : ∀ n, (R TL (n + 40)).call 305 [.loc c, .d opX] h = some (.d (tI k), h) := fun n => c305l (n := n + 10) (w := "copy") (l := 1) C (.inl rfl) (by decide)
  have tK : ∀ v n, (R TL (n + 40)).call 305 [.loc c, .d (cI k v)] h = some (.d (tI k), h) := fun v n => c305k (n := n + 20)
  have oK : ∀ {v : Int}, ∀ n, (R TL (n + 40)).call 263 [.loc f, .d (cI k v)] h = some (.d (.int v), h) := opnd_const F
  have oX : ∀ {v : Int}, findI 1 m = some (.int v) → ∀ n, (R TL (n + 40)).call 263 [.loc f, .d opX] h = some (.d (.int v), h) := opnd_x F
  cases r with
  | con v => exact .known 1 rfl (by decide) fun n => c310u (n := n + 40) F C oK
  | eq0 o => exact .known (v := .bool (decide (o = 0))) 3 rfl (by decide) fun n => c310t F C (.inl rfl) fun n => c317b (n := n + 20) F C K oK oK (tK o) (.inl rfl)
  | chk op o v _ h1 h2 h3 h4 => exact .chk op h1 rfl fun n => c310t F C (.inr rfl) fun n => c317c F C K (oX h1) oK tX h2 h3 h4
  | chkz op v _ h1 h2 => exact .chkz op h1 fun n => c310t F C (.inr rfl) fun n => c317z F C K (oX h1) oK tX h2 rfl
  | mov v w _ h1 => exact .known 1 rfl (by decide) fun n => c310u (n := n + 40) F C fun n => c263p (n := n + 10) (w := "move") (.inr rfl) F (fun n => c256b F h1 (.inl rfl)) ⟨_, rfl⟩
  | prt v _ h1 => exact .prt h1
  | cast v _ h1 => exact .known 4 rfl (by decide) fun n => c310c F C fun n => c331 (n := n + 20) F C K (oX h1) tX
  | un op v _ h1 h2 => exact .known 0 rfl (by decide) fun n => c310n F C fun n => c324 (n := n + 20) F C K (oX h1) tX h2
  | cmp op v _ h1 h2 => exact .known (v := .bool (relS op v 3)) 3 rfl (by decide) fun n => c310t F C (.inl rfl) fun n => c317b (n := n + 20) F C K (oX h1) oK tX (.inr h2)
end
end Mine
end
section
open PySem PySem.W
set_option maxRecDepth 100000
set_option linter.unusedSimpArgs false
set_option linter.unusedSectionVars false
namespace Mine
variable {n : Nat} {h : List O} {k : Str} {lo : Int} {b : Nat} {f kf c bo bl be fo : Nat} {m m' : List (Int × PyData)} {s s' : PyData}
theorem SR.len (r : SR k lo b m s s' m') : m'.length ≤ m.length + 1 := by
  have d : ∀ l v, (putI l v (dropI l m)).length ≤ m.length + 1 := fun l v => Nat.le_trans putI_len' (Nat.succ_le_succ dropI_len)
  cases r <;> first | exact d _ _ | exact Nat.le_trans dropI_len (Nat.le_succ _) | exact Nat.le_succ _
theorem set_same {i : Nat} {o : O} (e : h[i]? = some o) : h.set i o = h := by
  obtain ⟨hi, e⟩ := List.getElem?_eq_some_iff.mp e
  rw [← e]; exact List.set_getElem_self hi
section
variable (K : isKind k lo b) (F : FactsAt h f kf m) (C : ConsAt h c bo bl be fo k)
include K F C
theorem sr_step (hne : kf ≠ fo) (hl : m.length ≤ 900) (r : SR k lo b m s s' m') : (R TL (n + 120)).call 338 [.loc c, .d s, .loc f] h = some (.d .none, h.set kf (.idict m')) := by
  have l1 : m.length ≤ 1000 := Nat.le_trans hl (by decide)
  have l2 : ∀ {l}, (dropI l m).length ≤ 1000 := Nat.le_trans dropI_len l1
  cases sr_val K F C r with
  | known l hv hi e => exact step_asg F C hne l1 l2 (by rcases hi with h | h | h | h; exact .inl h; exact .inr (.inl h); exact .inr (.inr (.inr (.inl h))); exact .inr (.inr (.inr (.inr h)))) e hv
  | chk op _ hv e => exact step_asg F C hne l1 l2 (by decide) e hv
  | chkz op _ e => exact step_none F C l1 e
  | prt _ => rw [set_same F.b]; exact step_print
theorem sr_puts (r : SR k lo b m s s' m') : (R TL (n + 140)).call 388 [.loc c, .d s, .loc f] h = some (.d s', h) := by
  have tX : ∀ n, (R TL (n + 40)).call 305 [.loc c, .d opX] h = some (.d (tI k), h) := fun n => c305l (n := n + 10) (w := "copy") (l := 1) C (.inl rfl) (by decide)
  have pX : ∀ {v : Int}, findI 1 m = some (.int v) → ∀ n, (R TL (n + 60)).call 376 [.loc c, .d opX, .loc f] h = some (.d (cI k v), h) := fun h1 n => put_known (.inl rfl) K F C (.inl rfl) (opnd_x F h1) tX rfl
  cases sr_val K F C r with
  | known l hv hi e => exact puts_asg C fun n => putr_known K F C hi e hv
  | chk op h1 _ e => exact puts_asg C fun n => putr_chk F C e (pX h1) fun n => put_const
  | chkz op h1 e => exact puts_asg C fun n => putr_chk F C e (pX h1) fun n => put_const
  | prt h1 => exact puts_print C (pX h1)
end
/-- facts and constants over a change of what is known -/
theorem FactsAt.set (F : FactsAt h f kf m) (m' : List (Int × PyData)) : FactsAt (h.set kf (.idict m')) f kf m' := ⟨get_ne F.a F.ne.symm, get_self F.b⟩
theorem ConsAt.set (C : ConsAt h c bo bl be fo k) (F : FactsAt h f kf m) (hne : kf ≠ fo) (m' : List (Int × PyData)) : ConsAt (h.set kf (.idict m')) c bo bl be fo k :=
  ⟨get_ne C.a (C.ne F).1.symm, get_ne C.b (C.ne F).2.symm, get_ne C.f hne⟩
/-- the statements of a block -/
inductive SRs (k : Str) (lo : Int) (b : Nat) : List (Int × PyData) → List PyData → List PyData → List (Int × PyData) → Prop
  | nil (q : List (Int × PyData)) : SRs k lo b q [] [] q
  | cons {q q' q'' : List (Int × PyData)} {x x' : PyData} {xs xs' : List PyData} : SR k lo b q x x' q' → SRs k lo b q' xs xs' q'' → SRs k lo b q (x :: xs) (x' :: xs') q''
end Mine
end
section
open PySem PySem.W
set_option maxRecDepth 100000
set_option linter.unusedSimpArgs false
set_option linter.unusedSectionVars false
namespace Mine
variable {n : Nat} {h : List O} {k : Str} {lo : Int} {b : Nat} {f kf c bo bl be fo : Nat} {m m' : List (Int × PyData)} {s s' : PyData}
theorem undH_split {a : Nat} : ∀ {h t : List O} {j : Nat}, undH a (h.length + j) (h ++ t) = (undH a h.length h && undH a j t)
  | [], t, j => by
    show undH a (0 + j) t = (undH a 0 [] && undH a j t)
    rw [Nat.zero_add]; rfl
  | x :: h, t, j => by
    show undH a (h.length + 1 + j) (x :: (h ++ t)) = ((x.und a && undH a h.length h) && undH a j t)
    rw [Nat.add_right_comm, Bool.and_assoc, ← undH_split]; rfl
noncomputable abbrev factsO (i : Nat) (m : List (Int × PyData)) : List O := [.attrs 273 [("known", .loc i)], .idict m]
theorem blt_self (n : Nat) : Nat.blt n n = false := Bool.eq_false_iff.mpr fun q => Nat.lt_irrefl _ (Nat.blt_eq.mp q)
theorem c249 (hl : m.length ≤ 1000000) : (R TL (n + 20)).call 249 [.loc h.length, .idict m] (h ++ [.attrs 273 []]) = some (.d .none, h ++ factsO (h.length + 1) m) := by
  have s1 : ((h ++ [O.attrs 273 []]) ++ [O.idict m]).set h.length (.attrs 273 [("known", .loc (h ++ [O.attrs 273 []]).length)]) = h ++ factsO (h.length + 1) m := by
    rw [List.append_assoc, set_at0, List.length_append]; rfl
  refine kK at_249 rfl ?_ (xSA (eK (sc (eV rfl) sn) (kDictM rfl hl)) (eV rfl) (vAt (get_app get_at0) rfl) x0) s1
  rw [List.length_append]
  show undH (h.length + 1) (h.length + 1) (h ++ factsO (h.length + 1) m) = false
  rw [undH_split]
  show (_ && ((Nat.blt (h.length + 1) (h.length + 1) && true) && true)) = false
  rw [blt_self]; exact Bool.and_false _
end Mine
end
section
open PySem PySem.W
set_option maxRecDepth 100000
set_option linter.unusedSimpArgs false
set_option linter.unusedSectionVars false
namespace Mine
variable {n : Nat} {h : List O} {k : Str} {lo : Int} {b : Nat} {f kf c bo bl be fo : Nat} {m m' : List (Int × PyData)} {s s' : PyData}
theorem steps_for (K : isKind k lo b) {num term : PyData} {all : List PyData} {N q : Nat} {m m' : List (Int × PyData)} {ss ss' : List PyData} (r : SRs k lo b m ss ss' m') : ∀ {h : List O} {j b0 : Nat} {x5 x6 : Option V},
    FactsAt h f kf m → ConsAt h c bo bl be fo k → kf ≠ fo → h.length = N → m.length + ss.length ≤ 800 → all.drop j = ss →
    ∃ b1 y5, forS (R TL (q + 130)) N (.one 5) [.expr (.methI "step" (.var 0) [.var 5, .var 2])] (.vals (all.map .d)) (ss.length + 1) j ⟨b0, h, [some (.loc c), some (.d num), some (.loc f), some (.d (.list all)), some (.d term), x5, x6]⟩ =
      some (.next, ⟨b1, h.set kf (.idict m'), [some (.loc c), some (.d num), some (.loc f), some (.d (.list all)), some (.d term), y5, x6]⟩) := by
  induction r with
  | nil q' =>
    intro h j b0 x5 x6 F C hne hN hl ha
    refine ⟨b0, x5, ?_⟩
    rw [set_same F.b]
    exact fE (nV0 (drop_n ha))
  | @cons q0 q1 q2 x x' xs xs' r1 r2 ih =>
    intro h j b0 x5 x6 F C hne hN hl ha
    have hlen := r1.len
    have hl' : q0.length + (xs.length + 1) ≤ 800 := hl
    obtain ⟨h1, h2⟩ := drop_c ha
    obtain ⟨b1, y5, e2⟩ := ih (b0 := N) (x5 := some (.d x)) (x6 := x6) (F.set q1) (C.set F hne q1) hne (set_len.trans hN) (by omega) h2
    rw [List.set_set] at e2
    exact ⟨b1, y5, fC (nV h1) rfl (xE (eI cls396 (sr_step K F C hne (by omega) r1) C.a (eV rfl) (sc (eV rfl) (sc (eV rfl) sn)) rfl rfl) x0) (cutN (Nat.le_of_eq (set_len.trans hN))) e2⟩
end Mine
end
section
open PySem PySem.W
set_option maxRecDepth 100000
set_option linter.unusedSimpArgs false
set_option linter.unusedSectionVars false
namespace Mine
variable {n : Nat} {h : List O} {k : Str} {lo : Int} {b : Nat} {f kf c bo bl be fo : Nat} {m m' : List (Int × PyData)} {s s' : PyData}
theorem ConsAt.app (C : ConsAt h c bo bl be fo k) (t : List O) : ConsAt (h ++ t) c bo bl be fo k := ⟨get_app C.a, get_app C.b, get_app C.f⟩
theorem facts_new (h : List O) (m : List (Int × PyData)) : FactsAt (h ++ factsO (h.length + 1) m) h.length (h.length + 1) m := ⟨get_at0, get_at⟩
theorem facts_set (h : List O) (m m' : List (Int × PyData)) : (h ++ factsO (h.length + 1) m).set (h.length + 1) (.idict m') = h ++ factsO (h.length + 1) m' := set_at
structure BegAt (h : List O) (be : Nat) (B : List (Int × List (Int × PyData))) : Prop where
  a : h[be]? = some (.iidict B)
structure BlkAt (h : List O) (bl : Nat) (Ls : List PyData) : Prop where
  a : h[bl]? = some (.list Ls)
  l : Ls.length ≤ 1000
theorem lt_ne {i : Nat} {o : O} (e : h[i]? = some o) : h.length + 1 ≠ i := fun z => by
  have := (List.getElem?_eq_some_iff.mp e).1
  omega
theorem c345 {i : Nat} {B : List (Int × List (Int × PyData))} {Ls ss ss' : List PyData} {t : PyData} (K : isKind k lo b) (C : ConsAt h c bo bl be fo k) (G : BegAt h be B) (D : BlkAt h bl Ls) (hB : findI (i : Int) B = some m) (hL : Ls[i]? = some (.list [.list ss, t]))
    (r : SRs k lo b m ss ss' m') (hl : m.length + ss.length ≤ 800) : (R TL (n + 160)).call 345 [.loc c, .d (.int (i : Int))] h = some (.loc h.length, h ++ factsO (h.length + 1) m') := by
  have C1 := C.app (factsO (h.length + 1) m)
  obtain ⟨b1, y5, e2⟩ := steps_for (q := n + 28) (num := .int i) (term := t) (all := ss) (j := 0) K r (b0 := h.length) (x5 := none) (x6 := none) (facts_new h m) C1 (lt_ne C.f) rfl hl rfl
  rw [facts_set] at e2
  have l1 : m.length ≤ lim := Nat.le_trans (Nat.le_trans (Nat.le_add_right _ _) hl) (by decide)
  have l2 : ss.length ≤ lim := Nat.le_trans (Nat.le_trans (Nat.le_add_left _ _) hl) (by decide)
  exact kL at_345 rfl (Nat.le_refl _) (xA (eNew cls273 (sc (eS (eA (eV rfl) (aV C.a rfl)) (eV rfl) (uDD G.a hB)) sn) (c249 l1)) (xU (eS (eA (eA (eV rfl) (aV C1.a rfl)) (aV C1.b rfl)) (eV rfl) (uL (get_app D.a) (aL hL (Nat.le_trans D.l (by decide))))) rfl
    (xFo (eV rfl) (srcL' l2) e2 (xR (eV rfl)))))
end Mine
end
section
open PySem PySem.W
set_option maxRecDepth 100000
set_option linter.unusedSimpArgs false
set_option linter.unusedSectionVars false
namespace Mine
variable {n : Nat} {h : List O} {k : Str} {lo : Int} {b : Nat} {f kf c bo bl be fo : Nat} {m m' : List (Int × PyData)} {s s' : PyData}
theorem kH {fn : Fn} {a b : Nat} {vs : List V} {ρ ρ' : Rho} {v : V} (e : findN a TL.funs = some fn) (e0 : bindArgs fn vs = some ρ) (e1 : exs (R TL n) fn.body ⟨h.length, h, ρ⟩ = some (.ret v, ⟨b, h, ρ'⟩)) : (R TL (n + 1)).call a vs h = some (v, h) := by
  show (match findN a TL.funs with | some fn => run (R TL n) fn vs h | none => none) = _
  rw [e]; dsimp only; unfold run; rw [e0]; dsimp only; rw [e1]; dsimp only; unfold back; dsimp only; rw [List.take_length]; exact ite_self _
theorem eTm {ρ : Rho} {es : List E} {h1 : List O} {vs : List V} {v : V} (e1 : evs (R TL n) ρ es h = some (vs, h1)) (e2 : mkTup vs = v) : (R TL (n + 1)).ev (.tup es) ρ h = some (v, h1) := by
  show (match evs (R TL n) ρ es h with | some (vs, h) => some (mkTup vs, h) | none => none) = _
  rw [e1]; dsimp only; rw [e2]
theorem eLx {ρ : Rho} {es : List E} {h1 : List O} {vs : List V} {o : Option (V × List O)} {mu : Bool} (e1 : evs (R TL n) ρ es h = some (vs, h1)) (e2 : mkList mu vs h1 = o) : (R TL (n + 1)).ev (.lst mu es) ρ h = o := by
  show (match evs (R TL n) ρ es h with | some (vs, h) => mkList mu vs h | none => none) = _
  rw [e1]; exact e2
/-- what a terminator becomes, and where it goes -/
inductive TR (m : List (Int × PyData)) : PyData → PyData → Option Int → Prop
  | a3 (z : Bool) (w : Str) (g : Int) : findI 3 m = some (.bool z) → TR m (tAs opC3 w g) (if z = true then tAs (cB true) w g else tGo g) (some g)
  | a2 (x : PyData) (z : Bool) (w : Str) (g : Int) : findI 2 m = some (.tuple [x, .bool z]) → TR m (tAs opC2 w g) (if z = true then tAs (cB true) w g else tGo g) (some g)
  | a2n (w : Str) (g : Int) : findI 2 m = none → TR m (tAs opC2 w g) (tAs opC2 w g) (some g)
  | ret : TR m tRet tRet none
section
variable (K : isKind k lo b) (F : FactsAt h f kf m) (C : ConsAt h c bo bl be fo k)
include F in
theorem opnd_3 {z : Bool} (hv : findI 3 m = some (.bool z)) : ∀ n, (R TL (n + 40)).call 263 [.loc f, .d opC3] h = some (.d (.bool z), h) := fun n =>
  c263p (n := n + 10) (w := "copy") (.inl rfl) F (fun n => by rw [c256a F, hv]; rfl) ⟨_, rfl⟩
include F in
theorem opnd_2 {x : PyData} {z : Bool} (hv : findI 2 m = some (.tuple [x, .bool z])) : ∀ n, (R TL (n + 40)).call 263 [.loc f, .d opC2] h = some (.d (.bool z), h) := fun n =>
  c263p (n := n + 10) (w := "copy") (.inl rfl) F (fun n => c256b F hv (.inr rfl)) ⟨_, rfl⟩
include F in
theorem opnd_2n (hv : findI 2 m = none) : ∀ n, (R TL (n + 40)).call 263 [.loc f, .d opC2] h = some (.d .none, h) := fun n =>
  c263p (n := n + 10) (w := "copy") (.inl rfl) F (fun n => c256c F hv (.inr rfl)) ⟨_, rfl⟩
include K F C
theorem tr_put {t t' : PyData} {g : Option Int} (r : TR m t t' g) : (R TL (n + 80)).call 393 [.loc c, .d t, .loc f] h = some (.d t', h) := by
  have t3 : ∀ n, (R TL (n + 40)).call 305 [.loc c, .d opC3] h = some (.d tB, h) := fun n => c305l (n := n + 10) (w := "copy") (l := 3) C (.inl rfl) (by decide)
  have t2 : ∀ n, (R TL (n + 40)).call 305 [.loc c, .d opC2] h = some (.d tB, h) := fun n => c305f (n := n + 10) (w := "copy") (i := 1) C (.inl rfl) (.inr rfl)
  cases r with
  | a3 z w g h1 =>
    cases z with
    | false => exact c393a F C (opnd_3 F h1)
    | true => exact c393b F C (.inl rfl) (opnd_3 F h1) fun n => put_known (.inr rfl) K F C (.inl rfl) (opnd_3 F h1) t3 rfl
  | a2 x z w g h1 =>
    cases z with
    | false => exact c393a F C (opnd_2 F h1)
    | true => exact c393b F C (.inl rfl) (opnd_2 F h1) fun n => put_known (.inr rfl) K F C (.inl rfl) (opnd_2 F h1) t2 rfl
  | a2n w g h1 => exact c393b F C (.inr rfl) (opnd_2n F h1) fun n => put_unknown F C (.inl rfl) (opnd_2n F h1) t2
  | ret => exact c393r F C
noncomputable def goneV (g : Option Int) (kf : Nat) : V := match g with | some g => .lstv [.tupv [.d (.int g), .loc kf]] | none => .d (.list [])
theorem tr_gone {t t' : PyData} {g : Option Int} {i : Nat} {Ls : List PyData} {ss : List PyData} (D : BlkAt h bl Ls) (hL : Ls[i]? = some (.list [.list ss, t])) (hh : OkH h) (r : TR m t t' g) :
    (R TL (n + 80)).call 350 [.loc c, .d (.int (i : Int)), .loc f] h = some (goneV g kf, h) := by
  have hl1 : Ls.length ≤ lim := Nat.le_trans D.l (by decide)
  have k1 : ∀ {o : PyData} {w : Str} {g : Int}, t = tAs o w g → (∀ n, (R TL (n + 60)).call 357 [.loc c, .d t, .loc f] h = some (.d (.int g), h)) → (R TL (n + 80)).call 350 [.loc c, .d (.int (i : Int)), .loc f] h = some (goneV (some g) kf, h) := fun ht e => by
    subst ht
    exact kH at_350 rfl (xA (eS (eS (eA (eA (eV rfl) (aV C.a rfl)) (aV C.b rfl)) (eV rfl) (uL D.a (aL hL hl1))) eL rfl) (xF0 (by kernel_rfl) (xF0 (by kernel_rfl) (xA (eI cls396 (e _) C.a (eV rfl) (sc (eV rfl) (sc (eV rfl) sn)) rfl rfl)
      (xTr0 (by kernel_rfl) (xR (eLx (sc (eTm (sc (eV rfl) (sc (eA (eV rfl) (aV F.a rfl)) sn)) rfl) sn) rfl)))))))
  have k2 : ∀ {o : PyData} {w : Str} {g : Int}, t = tAs o w g → (∀ n, (R TL (n + 60)).call 357 [.loc c, .d t, .loc f] h = some (.d .none, h)) → (R TL (n + 80)).call 350 [.loc c, .d (.int (i : Int)), .loc f] h = some (goneV (some g) kf, h) := fun ht e => by
    subst ht
    exact kH at_350 rfl (xA (eS (eS (eA (eA (eV rfl) (aV C.a rfl)) (aV C.b rfl)) (eV rfl) (uL D.a (aL hL hl1))) eL rfl) (xF0 (by kernel_rfl) (xF0 (by kernel_rfl) (xA (eI cls396 (e _) C.a (eV rfl) (sc (eV rfl) (sc (eV rfl) sn)) rfl rfl)
      (xF0 (by kernel_rfl) (xR (eCo (eF (c202 hh) (sc (eV rfl) sn)) rfl (gC rfl rfl (eTm (sc (eV rfl) (sc (eA (eV rfl) (aV F.a rfl)) sn)) rfl) (gE rfl)) rfl)))))))
  cases r with
  | a3 z w g h1 =>
    cases z with
    | false => exact k1 rfl fun n => c357a F C (opnd_3 F h1)
    | true => exact k2 rfl fun n => c357b F C (.inl rfl) (opnd_3 F h1)
  | a2 x z w g h1 =>
    cases z with
    | false => exact k1 rfl fun n => c357a F C (opnd_2 F h1)
    | true => exact k2 rfl fun n => c357b F C (.inl rfl) (opnd_2 F h1)
  | a2n w g h1 => exact k2 rfl fun n => c357b F C (.inr rfl) (opnd_2n F h1)
  | ret =>
    exact kH at_350 rfl (xA (eS (eS (eA (eA (eV rfl) (aV C.a rfl)) (aV C.b rfl)) (eV rfl) (uL D.a (aL hL hl1))) eL rfl) (xF0 (by kernel_rfl) (xF0 (by kernel_rfl) (xA (eI cls396 (c357r F C) C.a (eV rfl) (sc (eV rfl) (sc (eV rfl) sn)) rfl rfl)
      (xF0 (by kernel_rfl) (xR (eCo (eF (c202r hh) (sc (eV rfl) sn)) rfl (gE rfl) rfl)))))))
end
end Mine
end
section
open PySem PySem.W
set_option maxRecDepth 100000
set_option linter.unusedSimpArgs false
set_option linter.unusedSectionVars false
namespace Mine
variable {n : Nat} {h : List O} {k : Str} {lo : Int} {b : Nat} {f kf c bo bl be fo : Nat} {m m' : List (Int × PyData)} {s s' : PyData}
theorem c362 {g : Int} {B : List (Int × List (Int × PyData))} (C : ConsAt h c bo bl be fo k) (G : BegAt h be B) (hk : h[kf]? = some (.idict m)) (hl : m.length ≤ 1000000) (hB : findI g B = none) (hb : B.length ≤ 1000000) :
    (R TL (n + 30)).call 362 [.loc c, .d (.int g), .loc kf] h = some (.d (.bool true), h.set be (.iidict (putI g m B))) :=
  kS at_362 rfl set_len (xTr (st := ⟨_, _, _⟩) (tE rfl (eC (eV rfl) (eA (eV rfl) (aV C.a rfl)) ((cNiDD G.a).trans (by rw [hB]; rfl)))) (xSS (eK (sc (eV rfl) sn) (kDict (rdD hk) hl)) (eA (eV rfl) (aV C.a rfl)) (eV rfl) (vDD G.a hb) (xR eL)))
mutual
theorem und_mono {a a' : Nat} (l : a ≤ a') : ∀ {v : V}, v.und a = true → v.und a' = true
  | .d _, _ => rfl
  | .loc m, h => by
    have h' : Nat.blt m a = true := h
    show Nat.blt m a' = true
    exact Nat.blt_eq.mpr (Nat.lt_of_lt_of_le (Nat.blt_eq.mp h') l)
  | .tupv vs, h => undL_mono l (show undL a vs = true from h)
  | .lstv vs, h => undL_mono l (show undL a vs = true from h)
  | .sdict _, _ => rfl
  | .idict _, _ => rfl
  | .bad, _ => rfl
theorem undL_mono {a a' : Nat} (l : a ≤ a') : ∀ {vs : List V}, undL a vs = true → undL a' vs = true
  | [], _ => rfl
  | v :: r, h => by
    have h' : v.und a = true ∧ undL a r = true := Bool.and_eq_true_iff.mp h
    exact Bool.and_eq_true_iff.mpr ⟨und_mono l h'.1, undL_mono l h'.2⟩
end
theorem undA_mono {a a' : Nat} (l : a ≤ a') : ∀ {vs : List (Str × V)}, undA a vs = true → undA a' vs = true
  | [], _ => rfl
  | (_, v) :: r, h => by
    have h' : v.und a = true ∧ undA a r = true := Bool.and_eq_true_iff.mp h
    exact Bool.and_eq_true_iff.mpr ⟨und_mono l h'.1, undA_mono l h'.2⟩
theorem undO_mono {a a' : Nat} (l : a ≤ a') : ∀ {o : O}, o.und a = true → o.und a' = true
  | .attrs _ _, h => undA_mono l h
  | .list _, _ => rfl
  | .idict _, _ => rfl
  | .iidict _, _ => rfl
theorem undH_mono {a a' : Nat} (l : a ≤ a') : ∀ {k : Nat} {h : List O}, undH a k h = true → undH a' k h = true
  | 0, _, _ => by unfold undH; rfl
  | k + 1, [], _ => rfl
  | k + 1, o :: r, h => by
    have h' : o.und a = true ∧ undH a k r = true := Bool.and_eq_true_iff.mp h
    exact Bool.and_eq_true_iff.mpr ⟨undO_mono l h'.1, undH_mono l h'.2⟩
theorem undH_set {a : Nat} {o : O} (ho : o.und a = true) : ∀ {k : Nat} {h : List O} {i : Nat}, undH a k h = true → undH a k (h.set i o) = true
  | 0, _, _, _ => by unfold undH; rfl
  | k + 1, [], i, _ => rfl
  | k + 1, x :: r, 0, h => by
    have h' : x.und a = true ∧ undH a k r = true := Bool.and_eq_true_iff.mp h
    exact Bool.and_eq_true_iff.mpr ⟨ho, h'.2⟩
  | k + 1, x :: r, i + 1, h => by
    have h' : x.und a = true ∧ undH a k r = true := Bool.and_eq_true_iff.mp h
    exact Bool.and_eq_true_iff.mpr ⟨h'.1, undH_set ho h'.2⟩
theorem OkH.set {o : O} {i : Nat} (h0 : OkH h) (ho : o.und h.length = true) : OkH (h.set i o) := by
  unfold OkH
  rw [List.length_set]
  exact undH_set ho h0
theorem OkH.app {t : List O} (h0 : OkH h) (ht : undH (h.length + t.length) t.length t = true) : OkH (h ++ t) := by
  unfold OkH
  rw [List.length_append, undH_split, ht, Bool.and_true]
  exact undH_mono (Nat.le_add_right _ _) h0
theorem OkH.facts (h0 : OkH h) : OkH (h ++ factsO (h.length + 1) m) := h0.app (by
  show ((Nat.blt (h.length + 1) (h.length + 2) && true) && true) = true
  rw [Nat.blt_eq.mpr (Nat.lt_succ_self _)]; rfl)
theorem OkH.list {l : List PyData} (h0 : OkH h) : OkH (h ++ [.list l]) := h0.app rfl
end Mine
end
section
open PySem PySem.W
set_option maxRecDepth 100000
set_option linter.unusedSimpArgs false
set_option linter.unusedSectionVars false
namespace Mine
variable {n : Nat} {h : List O} {k : Str} {lo : Int} {b : Nat} {f kf c bo bl be fo : Nat} {m m' : List (Int × PyData)} {s s' : PyData}
theorem BegAt.app {B : List (Int × List (Int × PyData))} (G : BegAt h be B) (t : List O) : BegAt (h ++ t) be B := ⟨get_app G.a⟩
theorem BlkAt.app {Ls : List PyData} (D : BlkAt h bl Ls) (t : List O) : BlkAt (h ++ t) bl Ls := ⟨get_app D.a, D.l⟩
noncomputable def folBody : List S := [(.asg 2 (.methB .pop (.var 1) [])),
    (.for_ (.many [3, 4]) (.methI "gone_on" (.var 0) [(.var 2), (.methI "behind" (.var 0) [(.var 2)])]) [(.ite (.methI "meet" (.var 0) [(.var 3), (.var 4)]) [(.expr (.methB .append (.var 1) [(.var 3)]))] [])])]
noncomputable def folCond : E := .cmp .NotEq (.var 1) (.lst false [])
/-! whiles -/
section
variable {ρ : Rho} {h1 h2 : List O} {q : Bool} {N F a : Nat} {c : E} {bd : List S} {st st' : St} {v w : V} {x y : PyData} {t : List O}
theorem wY (e1 : tstN (R TL n) ρ 4 c h = some (true, h1)) (e2 : exs (R TL n) bd ⟨N, h1, ρ⟩ = some (.next, st)) (ec : cutTo N st = st') : whileL (R TL n) N c bd (F + 1) ⟨a, h, ρ⟩ = whileL (R TL n) N c bd F st' := by
  conv => lhs; unfold whileL
  show (match tstN (R TL n) ρ 4 c h with
    | none => none
    | some (false, h) => some (Fl.next, (⟨a, h, ρ⟩ : St))
    | some (true, h) => match exs (R TL n) bd ⟨N, h, ρ⟩ with
      | some (.next, st) => whileL (R TL n) N c bd F (cutTo N st)
      | some (.ret v, st) => some (.ret v, st)
      | none => none) = _
  rw [e1]; dsimp only; rw [e2]; dsimp only; rw [ec]
theorem wX (e1 : tstN (R TL n) ρ 4 c h = some (false, h1)) : whileL (R TL n) N c bd (F + 1) ⟨a, h, ρ⟩ = some (.next, ⟨a, h1, ρ⟩) := by
  unfold whileL
  show (match tstN (R TL n) ρ 4 c h with
    | none => none
    | some (false, h) => some (Fl.next, (⟨a, h, ρ⟩ : St))
    | some (true, h) => match exs (R TL n) bd ⟨N, h, ρ⟩ with
      | some (.next, st) => whileL (R TL n) N c bd F (cutTo N st)
      | some (.ret v, st) => some (.ret v, st)
      | none => none) = _
  rw [e1]
theorem xW {s : List S} {p : Option (Fl × St)} (e1 : whileL (R TL n) h.length c bd 64 ⟨a, h, ρ⟩ = some (.next, st)) (e2 : exs (R TL (n + 1)) s ⟨a, st.h, st.r⟩ = p) : exs (R TL (n + 1)) (.while_ c bd :: s) ⟨a, h, ρ⟩ = p := by
  unfold exs
  rw [show (R TL (n + 1)).ex (.while_ c bd) ⟨a, h, ρ⟩ = some (.next, ⟨a, st.h, st.r⟩) from by
    show (match whileL (R TL n) h.length c bd 64 ⟨a, h, ρ⟩ with
      | some (fl, st') => some (fl, (⟨a, st'.h, st'.r⟩ : St))
      | none => none) = _
    rw [e1]]
  exact e2
/-- what was made is forgotten -/
theorem cutA (hN : h1.length = N) (ok : OkH h1) (ht : 0 < t.length) : cutTo N ⟨a, h1 ++ t, ρ⟩ = ⟨a, h1, ρ.map (poison N)⟩ := by
  subst hN
  have l : Nat.ble (h1 ++ t).length h1.length = false := Bool.eq_false_iff.mpr fun q => by
    have := Nat.le_of_ble_eq_true q
    rw [List.length_append] at this
    omega
  unfold cutTo
  dsimp only
  rw [l, if_neg (by decide)]
  unfold cut
  dsimp only
  rw [undH_app (Nat.le_refl _), show undH h1.length h1.length h1 = true from ok, if_pos rfl, List.take_left' rfl]
theorem pz {a i : Nat} (hi : i < a) : poison a (some (.loc i)) = some (.loc i) := by
  show some (if Nat.blt i a then V.loc i else .bad) = _
  rw [Nat.blt_eq.mpr hi]; rfl
theorem cNq (e1 : rd h v = .d x) (e2 : rd h w = .d y) (l : (lay x && lay y) = true) (e : deq x y = q) : cmpV h .NotEq v w = some (.d (.bool (!q))) := by
  have : eqV h v w = some q := by
    unfold eqV; rw [e1, e2]; dsimp only; rw [l, if_pos rfl, e]
  unfold cmpV; dsimp only; rw [this]; rfl
theorem cEq (e1 : rd h v = .d x) (e2 : rd h w = .d y) (l : (lay x && lay y) = true) (e : deq x y = q) : cmpV h .Eq v w = some (.d (.bool q)) := by
  have : eqV h v w = some q := by
    unfold eqV; rw [e1, e2]; dsimp only; rw [l, if_pos rfl, e]
  unfold cmpV; dsimp only; rw [this]; rfl
end
theorem mPopL {a : Nat} {x : PyData} (e : h[a]? = some (.list [x])) : methB h .pop (.loc a) [] = some (.d x, h.set a (.list [])) := by
  unfold methB; dsimp only; rw [e]; rfl
/-- a turn of the while: a block is taken, walked and asked where it goes -/
theorem fol_head {i a : Nat} {x2 x3 x4 : Option V} {b0 q F F' : Nat} {src : Srcs} {v : V} {h2 : List O} {st : St} {st' : St} (c1 : (h ++ [O.list []])[c]? = some (.attrs 396 [("body", .loc bo), ("followed", .loc fo), ("begins", .loc be)]))
    (e1 : ∀ n, (R TL (n + 160)).call 345 [.loc c, .d (.int (i : Int))] (h ++ [O.list []]) = some (.loc a, h2)) (e2 : ∀ n, (R TL (n + 80)).call 350 [.loc c, .d (.int (i : Int)), .loc a] h2 = some (v, h2)) (e3 : srcOf h2 v = some (src, F))
    (e4 : forS (R TL (q + 199)) h2.length (.many [3, 4]) [(.ite (.methI "meet" (.var 0) [(.var 3), (.var 4)]) [(.expr (.methB .append (.var 1) [(.var 3)]))] [])] src F 0 ⟨h.length + 1, h2, [some (.loc c), some (.loc h.length), some (.d (.int (i : Int))), x3, x4]⟩ = some (.next, st))
    (ec : cutTo (h.length + 1) ⟨h.length + 1, st.h, st.r⟩ = st') :
    whileL (R TL (q + 200)) (h.length + 1) folCond folBody (F' + 1) ⟨b0, h ++ [.list [.int (i : Int)]], [some (.loc c), some (.loc h.length), x2, x3, x4]⟩ = whileL (R TL (q + 200)) (h.length + 1) folCond folBody F' st' :=
  wY (tE rfl (eC (eV rfl) (eLi sn rfl) (cNq (q := false) (x := .list [.int (i : Int)]) (y := .list []) (rdL get_at0) rfl (by kernel_rfl) rfl)))
    (xA (h1 := h ++ [O.list []]) (eMB (eV rfl) sn (skL get_at0 get_at0) ((mPopL get_at0).trans (by rw [set_at0]; rfl)))
      (xFo (eI cls396 (e2 _) c1 (eV rfl) (sc (eV rfl) (sc (eI cls396 (e1 _) c1 (eV rfl) (sc (eV rfl) sn) rfl rfl) sn)) rfl rfl) e3 e4 x0)) ec
/-- a turn that goes on to one block not yet seen -/
theorem fol_turn {i j : Nat} {B : List (Int × List (Int × PyData))} {Ls ss ss' : List PyData} {t t' : PyData} {x2 x3 x4 : Option V} {b0 F q : Nat} (K : isKind k lo b) (C : ConsAt h c bo bl be fo k) (G : BegAt h be B) (D : BlkAt h bl Ls) (hh : OkH h)
    (hB : findI (i : Int) B = some m) (hL : Ls[i]? = some (.list [.list ss, t])) (r : SRs k lo b m ss ss' m') (r2 : TR m' t t' (some (j : Int))) (hl : m.length + ss.length ≤ 800) (hl' : m'.length ≤ 1000000) (hj : findI (j : Int) B = none) (hb : B.length ≤ 1000000) :
    ∃ b1 y4, whileL (R TL (q + 200)) (h.length + 1) folCond folBody (F + 1) ⟨b0, h ++ [.list [.int (i : Int)]], [some (.loc c), some (.loc h.length), x2, x3, x4]⟩ =
      whileL (R TL (q + 200)) (h.length + 1) folCond folBody F ⟨b1, h.set be (.iidict (putI (j : Int) m' B)) ++ [.list [.int (j : Int)]], [some (.loc c), some (.loc h.length), some (.d (.int (i : Int))), some (.d (.int (j : Int))), y4]⟩ := by
  have hbe := (List.getElem?_eq_some_iff.mp G.a).1
  have hc := (List.getElem?_eq_some_iff.mp C.a).1
  have C1 := C.app [O.list []]
  have F2 := facts_new (h ++ [O.list []]) m'
  have C2 := C1.app (factsO ((h ++ [O.list []]).length + 1) m')
  have p1 : ((h ++ [O.list []] ++ factsO ((h ++ [O.list []]).length + 1) m').set be (.iidict (putI (j : Int) m' B)))[h.length]? = some (.list []) := get_ne (get_app get_at0) (Nat.ne_of_lt hbe)
  have ex : ((h ++ [O.list []] ++ factsO ((h ++ [O.list []]).length + 1) m').set be (.iidict (putI (j : Int) m' B))).set h.length (.list [.int (j : Int)]) = (h.set be (.iidict (putI (j : Int) m' B)) ++ [.list [.int (j : Int)]]) ++ factsO ((h ++ [O.list []]).length + 1) m' := by
    rw [List.append_assoc, List.set_append_left _ _ hbe, List.append_assoc]
    have := set_at0 (h := h.set be (.iidict (putI (j : Int) m' B))) (t := [O.list []] ++ factsO ((h ++ [O.list []]).length + 1) m') (z := .list [.int (j : Int)])
    rw [set_len] at this
    exact this
  have l4 : (h.set be (.iidict (putI (j : Int) m' B)) ++ [O.list [.int (j : Int)]]).length = h.length + 1 := by rw [List.length_append, set_len]; rfl
  refine ⟨h.length + 1, poison (h.length + 1) (some (.loc ((h ++ [O.list []]).length + 1))), (fol_head (src := .vals [.tupv [.d (.int (j : Int)), .loc ((h ++ [O.list []]).length + 1)]]) (F := 2) C1.a (fun n => c345 K C1 (G.app _) (D.app _) hB hL r hl) (fun n => tr_gone K F2 C2 ((D.app _).app _) hL hh.list.facts r2) rfl
    (fC rfl rfl (xT (tE rfl (eI cls396 (c362 C2 ((G.app _).app _) F2.b hl' hj hb) C2.a (eV rfl) (sc (eV rfl) (sc (eV rfl) sn)) rfl rfl)) (xE (eMB (eV rfl) (sc (eV rfl) sn) (skL p1 p1) (mApp p1 (by decide))) x0) x0)
      (cutN (Nat.le_of_eq (set_len.trans set_len))) (fE rfl)) ((congrArg (fun z => cutTo (h.length + 1) ⟨h.length + 1, z, _⟩) ex).trans (cutA l4 (OkH.list (hh.set rfl)) (Nat.succ_pos _)))).trans ?_⟩
  show whileL _ _ _ _ _ ⟨_, _, [poison (h.length + 1) (some (.loc c)), poison (h.length + 1) (some (.loc h.length)), _, _, _]⟩ = _
  rw [pz (Nat.lt_succ_of_lt hc), pz (Nat.lt_succ_self _)]
  rfl
end Mine
end
section
open PySem PySem.W
set_option maxRecDepth 100000
set_option linter.unusedSimpArgs false
set_option linter.unusedSectionVars false
namespace Mine
variable {n : Nat} {h : List O} {k : Str} {lo : Int} {b : Nat} {f kf c bo bl be fo : Nat} {m m' : List (Int × PyData)} {s s' : PyData}
/-- the last block -/
theorem fol_last {i : Nat} {B : List (Int × List (Int × PyData))} {Ls ss ss' : List PyData} {x2 x3 x4 : Option V} {b0 F q : Nat} (K : isKind k lo b) (C : ConsAt h c bo bl be fo k) (G : BegAt h be B) (D : BlkAt h bl Ls) (hh : OkH h)
    (hB : findI (i : Int) B = some m) (hL : Ls[i]? = some (.list [.list ss, tRet])) (r : SRs k lo b m ss ss' m') (hl : m.length + ss.length ≤ 800) :
    ∃ b1 r1, whileL (R TL (q + 200)) (h.length + 1) folCond folBody (F + 2) ⟨b0, h ++ [.list [.int (i : Int)]], [some (.loc c), some (.loc h.length), x2, x3, x4]⟩ = some (.next, ⟨b1, h ++ [.list []], r1⟩) := by
  have hc := (List.getElem?_eq_some_iff.mp C.a).1
  have C1 := C.app [O.list []]
  have F2 := facts_new (h ++ [O.list []]) m'
  have C2 := C1.app (factsO ((h ++ [O.list []]).length + 1) m')
  refine ⟨h.length + 1, [some (.loc c), some (.loc h.length), some (.d (.int (i : Int))), poison (h.length + 1) x3, poison (h.length + 1) x4], (fol_head (src := .vals []) (F := 1) C1.a (fun n => c345 K C1 (G.app _) (D.app _) hB hL r hl) (fun n => tr_gone K F2 C2 ((D.app _).app _) hL hh.list.facts .ret) rfl (fE rfl) (cutA List.length_append hh.list (Nat.succ_pos _))).trans ?_⟩
  show whileL _ _ _ _ _ ⟨_, _, [poison (h.length + 1) (some (.loc c)), poison (h.length + 1) (some (.loc h.length)), _, _, _]⟩ = _
  rw [pz (Nat.lt_succ_of_lt hc), pz (Nat.lt_succ_self _)]
  exact wX (tE rfl (eC (eV rfl) (eLi sn rfl) (cNq (q := true) (x := .list []) (y := .list []) (rdL get_at0) rfl (by kernel_rfl) rfl)))
end Mine
end
section
open PySem PySem.W
set_option maxRecDepth 100000
set_option linter.unusedSimpArgs false
set_option linter.unusedSectionVars false
namespace Mine
variable {n : Nat} {h : List O} {k : Str} {lo : Int} {b : Nat} {c bo bl be fo : Nat}
noncomputable abbrev Known := List (Int × PyData)
/-- blocks, each going on to the next -/
inductive Chain (k : Str) (lo : Int) (b : Nat) : Nat → Known → List PyData → List PyData → List (Int × Known) → Prop
  | last {i : Nat} {q q' : Known} {xs xs' : List PyData} : SRs k lo b q xs xs' q' → q.length + xs.length ≤ 800 → Chain k lo b i q [.list [.list xs, tRet]] [.list [.list xs', tRet]] [((i : Int), q)]
  | step {i : Nat} {q q' : Known} {xs xs' : List PyData} {t t' : PyData} {Ls Ls' : List PyData} {Bs : List (Int × Known)} : SRs k lo b q xs xs' q' → TR q' t t' (some ((i + 1 : Nat) : Int)) → q.length + xs.length ≤ 800 → q'.length ≤ 1000000 → Chain k lo b (i + 1) q' Ls Ls' Bs →
      Chain k lo b i q (.list [.list xs, t] :: Ls) (.list [.list xs', t'] :: Ls') (((i : Int), q) :: Bs)
theorem intEq_lt {x j : Int} (h : j < x) : intEq x j = false := intEq_ne (Int.ne_of_gt h)
theorem findI_none {α : Type} {x : Int} : ∀ {l : List (Int × α)}, (∀ p ∈ l, p.1 < x) → findI x l = none
  | [], _ => rfl
  | (j, y) :: l, h => by
    unfold findI
    rw [intEq_lt (h (j, y) (.head _))]
    exact findI_none fun p hp => h p (.tail _ hp)
theorem findI_last {α : Type} {x : Int} {y : α} : ∀ {l : List (Int × α)}, (∀ p ∈ l, p.1 < x) → findI x (l ++ [(x, y)]) = some y
  | [], _ => if_pos (intEq_same x)
  | (j, z) :: l, h => by
    show findI x ((j, z) :: (l ++ [(x, y)])) = some y
    unfold findI
    rw [intEq_lt (h (j, z) (.head _))]
    exact findI_last fun p hp => h p (.tail _ hp)
theorem putI_new {α : Type} {x : Int} {y : α} : ∀ {l : List (Int × α)}, (∀ p ∈ l, p.1 < x) → putI x y l = l ++ [(x, y)]
  | [], _ => rfl
  | (j, z) :: l, h => by
    unfold putI
    rw [intEq_lt (h (j, z) (.head _))]
    exact congrArg ((j, z) :: ·) (putI_new fun p hp => h p (.tail _ hp))
theorem ne_aii {C : Nat} {l : List (Str × V)} {B : List (Int × Known)} : O.iidict B ≠ .attrs C l := fun e => by cases e
theorem ne_iii {l : List (Int × PyData)} {B : List (Int × Known)} : O.iidict B ≠ .idict l := fun e => by cases e
theorem ne_lii {l : List PyData} {B : List (Int × Known)} : O.iidict B ≠ .list l := fun e => by cases e
theorem ConsAt.setB {B : List (Int × Known)} (C : ConsAt h c bo bl be fo k) (G : BegAt h be B) (B' : List (Int × Known)) : ConsAt (h.set be (.iidict B')) c bo bl be fo k :=
  ⟨get_ne C.a (at_ne G.a C.a ne_aii), get_ne C.b (at_ne G.a C.b ne_aii), get_ne C.f (at_ne G.a C.f ne_iii)⟩
theorem BlkAt.setB {B : List (Int × Known)} {Ls : List PyData} (D : BlkAt h bl Ls) (G : BegAt h be B) (B' : List (Int × Known)) : BlkAt (h.set be (.iidict B')) bl Ls := ⟨get_ne D.a (at_ne G.a D.a ne_lii), D.l⟩
theorem BegAt.setB {B : List (Int × Known)} (G : BegAt h be B) (B' : List (Int × Known)) : BegAt (h.set be (.iidict B')) be B' := ⟨get_self G.a⟩
theorem get_mid {α : Type} {a c : List α} {x : α} {i : Nat} (e : a.length = i) : (a ++ x :: c)[i]? = some x := by
  subst e; rw [List.getElem?_append_right (Nat.le_refl _), Nat.sub_self]; rfl
theorem fol_chain {w : Nat} (K : isKind k lo b) {i : Nat} {m : Known} {Ls Ls' : List PyData} {Bs : List (Int × Known)} (r : Chain k lo b i m Ls Ls' Bs) : ∀ {h : List O} {preL : List PyData} {preB : List (Int × Known)} {x2 x3 x4 : Option V} {b0 F : Nat},
    ConsAt h c bo bl be fo k → BegAt h be (preB ++ [((i : Int), m)]) → BlkAt h bl (preL ++ Ls) → OkH h → preL.length = i → (∀ p ∈ preB, p.1 < (i : Int)) → preB.length ≤ i →
    ∃ b1 r1, whileL (R TL (w + 200)) (h.length + 1) folCond folBody (F + Ls.length + 1) ⟨b0, h ++ [.list [.int (i : Int)]], [some (.loc c), some (.loc h.length), x2, x3, x4]⟩ = some (.next, ⟨b1, h.set be (.iidict (preB ++ Bs)) ++ [.list []], r1⟩) := by
  induction r with
  | @last i q q' xs xs' r1 hl =>
    intro h preL preB x2 x3 x4 b0 F C G D hh hi hB hb
    rw [set_same G.a]
    exact fol_last K C G D hh (findI_last hB) (get_mid hi) r1 hl
  | @step i q q' xs xs' t t' Ls Ls' Bs r1 r2 hl hl' r3 ih =>
    intro h preL preB x2 x3 x4 b0 F C G D hh hi hB hb
    have hB1 : ∀ p ∈ preB ++ [((i : Int), q)], p.1 < ((i + 1 : Nat) : Int) := fun p hp => by
      rcases List.mem_append.mp hp with z | z
      · exact Int.lt_trans (hB p z) (Int.lt_succ _)
      · rw [List.mem_singleton.mp z]; exact Int.lt_succ _
    have hlen : (preB ++ [((i : Int), q)]).length ≤ i + 1 := by rw [List.length_append]; exact Nat.succ_le_succ hb
    have hi1 : i + 1 ≤ 1000000 := by have := D.l; rw [List.length_append, hi, List.length_cons] at this; omega
    obtain ⟨b1, y4, e1⟩ := fol_turn (q := w) (F := F + Ls.length + 1) (b0 := b0) (x2 := x2) (x3 := x3) (x4 := x4) K C G D hh (findI_last hB) (get_mid hi) r1 r2 hl hl' (findI_none hB1) (Nat.le_trans hlen hi1)
    rw [putI_new hB1] at e1
    have D2 : BlkAt h bl ((preL ++ [.list [.list xs, t]]) ++ Ls) := by rw [List.append_assoc]; exact D
    obtain ⟨b2, r2', e2⟩ := ih (x2 := some (.d (.int (i : Int)))) (x3 := some (.d (.int ((i + 1 : Nat) : Int)))) (x4 := y4) (b0 := b1) (F := F)
        (C.setB G _) (G.setB _) (D2.setB G _) (hh.set rfl) (by rw [List.length_append, hi]; rfl) hB1 hlen
    rw [set_len, List.set_set, List.append_assoc preB _ Bs] at e2
    exact ⟨b2, r2', e1.trans e2⟩
end Mine
end
section
open PySem PySem.W
set_option maxRecDepth 100000
set_option linter.unusedSimpArgs false
set_option linter.unusedSectionVars false
namespace Mine
variable {n : Nat} {h : List O} {k : Str} {lo : Int} {b : Nat} {c bo bl be fo : Nat}
/-- a call whose own new things are forgotten -/
theorem kT {fn : Fn} {a b : Nat} {vs : List V} {ρ ρ' : Rho} {h' t : List O} (e : findN a TL.funs = some fn) (e0 : bindArgs fn vs = some ρ) (l : h'.length = h.length) (ok : OkH h') (e1 : exs (R TL n) fn.body ⟨h.length, h, ρ⟩ = some (.next, ⟨b, h' ++ t, ρ'⟩)) : (R TL (n + 1)).call a vs h = some (.d .none, h') := by
  show (match findN a TL.funs with | some fn => run (R TL n) fn vs h | none => none) = _
  rw [e]; dsimp only; unfold run; rw [e0]; dsimp only; rw [e1]; dsimp only; unfold back; dsimp only
  rw [← l, undH_app (Nat.le_refl _), show undH h'.length h'.length h' = true from ok, List.take_left' rfl]; rfl
theorem c369 {Ls Ls' : List PyData} {Bs : List (Int × Known)} (K : isKind k lo b) (r : Chain k lo b 0 [] Ls Ls' Bs) (C : ConsAt h c bo bl be fo k) (G : BegAt h be [(0, [])]) (D : BlkAt h bl Ls) (hh : OkH h) (hl : Ls.length ≤ 60) :
    (R TL (n + 230)).call 369 [.loc c] h = some (.d .none, h.set be (.iidict Bs)) := by
  obtain ⟨b1, r1, e⟩ := fol_chain (w := n + 28) (preL := []) (preB := []) (x2 := none) (x3 := none) (x4 := none) (b0 := h.length) (F := 63 - Ls.length) K r C G D hh rfl (fun _ hp => by cases hp) (Nat.le_refl _)
  rw [Nat.sub_add_cancel (Nat.le_trans hl (by decide))] at e
  refine kT (t := [O.list []]) at_369 rfl set_len (OkH.set hh rfl) (xA (eLm (sc eL sn) rfl) (xW (st := ⟨b1, _, r1⟩) ?_ x0))
  rw [List.length_append]; exact e
end Mine
end
section
open PySem PySem.W
set_option maxRecDepth 100000
set_option linter.unusedSimpArgs false
set_option linter.unusedSectionVars false
namespace Mine
variable {n : Nat} {h : List O} {k : Str} {lo : Int} {b : Nat} {c bo bl be fo : Nat}
theorem c228 {l : Int} (hl : l = 0 ∨ l = 1 ∨ l = 2 ∨ l = 3 ∨ l = 4) : (R TL (n + 30)).call 228 [.d (typeAt k l)] h = some (.d (.bool true), h) := by
  rcases hl with rfl | rfl | rfl | rfl | rfl
  · exact kD at_228 rfl (xF0 (by kernel_rfl) (xR (by kernel_rfl)))
  · exact kD at_228 rfl (xF0 (by kernel_rfl) (xR (by kernel_rfl)))
  · exact kD at_228 rfl (xTr0 (by kernel_rfl) (xR (by kernel_rfl)))
  · exact kD at_228 rfl (xF0 (by kernel_rfl) (xR (by kernel_rfl)))
  · exact kD at_228 rfl (xF0 (by kernel_rfl) (xR (by kernel_rfl)))
end Mine
end
section
open PySem PySem.W
set_option maxRecDepth 100000
set_option linter.unusedSimpArgs false
set_option linter.unusedSectionVars false
namespace Mine
variable {n : Nat} {h : List O} {k : Str} {lo : Int} {b : Nat} {c bo bl be fo : Nat}
noncomputable def lentIn : List S := [(.ite (.bop true [(.cmp .Eq (.sub (.var 4) (.lit (.int (0)))) (.lit (.str "assign"))), (.cmp .Eq (.sub (.sub (.var 4) (.lit (.int (2)))) (.lit (.int (0)))) (.lit (.str "ref")))]) [(.asgS (.var 1) (.sub (.sub (.sub (.var 4) (.lit (.int (2)))) (.lit (.int (3)))) (.lit (.int (0)))) (.lit (.bool true)))] [])]
/-- no statement of the row lends -/
theorem SR.noref {m m' : Known} {x x' : PyData} (r : SR k lo b m x x' m') {ρ : Rho} (e : ρ[4]? = some (some (.d x))) : tstN (R TL (n + 18)) ρ 4 (.bop true [(.cmp .Eq (.sub (.var 4) (.lit (.int (0)))) (.lit (.str "assign"))), (.cmp .Eq (.sub (.sub (.var 4) (.lit (.int (2)))) (.lit (.int (0)))) (.lit (.str "ref")))]) h = some (false, h) := by
  have g : ∀ {l : Int} {w : Str} {l' : List PyData}, ρ[4]? = some (some (.d (sAsg l (.tuple (.str w :: l'))))) → atL 0 (PyData.str w :: l') = some (.str w) → cmpV h .Eq (.d (.str w)) (.d (.str "ref")) = some (.d (.bool false)) → tstN (R TL (n + 18)) ρ 4 (.bop true [(.cmp .Eq (.sub (.var 4) (.lit (.int (0)))) (.lit (.str "assign"))), (.cmp .Eq (.sub (.sub (.var 4) (.lit (.int (2)))) (.lit (.int (0)))) (.lit (.str "ref")))]) h = some (false, h) := fun {l w l'} e a q =>
    tP (tc (tE rfl (eC (eS (eV e) eL rfl) eL (by kernel_rfl))) (ts (tE rfl (eC (eS (eS (eV e) eL rfl) eL (by
      show (match atL 0 (PyData.str w :: l') with | some x => some (V.d x) | none => none) = some (V.d (.str w))
      rw [a])) eL q))))
  cases r
  case prt => exact tP (ts (tE rfl (eC (eS (eV e) eL rfl) eL (by kernel_rfl))))
  all_goals exact g e rfl (by kernel_rfl)
theorem lent_inner {all : List PyData} {term : PyData} {w N L : Nat} {m m' : Known} {ss ss' : List PyData} (r : SRs k lo b m ss ss' m') : ∀ {j b0 : Nat} {x4 : Option V}, h.length = N → all.drop j = ss →
    ∃ b1 y4, forS (R TL (w + 20)) N (.one 4) lentIn (.vals (all.map .d)) (ss.length + 1) j ⟨b0, h, [some (.loc bo), some (.loc L), some (.d (.list all)), some (.d term), x4]⟩ =
      some (.next, ⟨b1, h, [some (.loc bo), some (.loc L), some (.d (.list all)), some (.d term), y4]⟩) := by
  induction r with
  | nil q =>
    intro j b0 x4 hN ha
    exact ⟨b0, x4, fE (nV0 (drop_n ha))⟩
  | @cons q0 q1 q2 x x' xs xs' r1 r2 ih =>
    intro j b0 x4 hN ha
    obtain ⟨h1, h2⟩ := drop_c ha
    obtain ⟨b1, y4, e2⟩ := ih (b0 := N) (x4 := some (.d x)) hN h2
    exact ⟨b1, y4, fC (nV h1) rfl (xF0 (r1.noref rfl) x0) (cutN (Nat.le_of_eq hN)) e2⟩
end Mine
end
section
open PySem PySem.W
set_option maxRecDepth 100000
set_option linter.unusedSimpArgs false
set_option linter.unusedSectionVars false
namespace Mine
variable {n : Nat} {h : List O} {k : Str} {lo : Int} {b : Nat} {c bo bl be fo : Nat}
/-- blocks of statements of the row -/
inductive Blks (k : Str) (lo : Int) (b : Nat) : List PyData → Prop
  | nil : Blks k lo b []
  | cons {q q' : Known} {xs xs' : List PyData} {t : PyData} {Ls : List PyData} : SRs k lo b q xs xs' q' → xs.length ≤ 800 → Blks k lo b Ls → Blks k lo b (.list [.list xs, t] :: Ls)
theorem Chain.blks {i : Nat} {m : Known} {Ls Ls' : List PyData} {Bs : List (Int × Known)} (r : Chain k lo b i m Ls Ls' Bs) : Blks k lo b Ls := by
  induction r with
  | last h1 h2 => exact .cons h1 (by omega) .nil
  | step h1 h2 h3 h4 _ ih => exact .cons h1 (by omega) ih
theorem lent_outer {all : List PyData} {w L : Nat} (D : BlkAt h bl all) {Ls : List PyData} (r : Blks k lo b Ls) : ∀ {j b0 : Nat} {x2 x3 x4 : Option V}, all.drop j = Ls →
    ∃ b1 r1, forS (R TL (w + 40)) h.length (.many [2, 3]) [.for_ (.one 4) (.var 2) lentIn] (.at bl) (Ls.length + 1) j ⟨b0, h, [some (.loc bo), some (.loc L), x2, x3, x4]⟩ = some (.next, ⟨b1, h, some (.loc bo) :: some (.loc L) :: r1⟩) := by
  induction r with
  | nil =>
    intro j b0 x2 x3 x4 ha
    exact ⟨b0, [x2, x3, x4], fE (nA0 D.a (drop_n ha))⟩
  | @cons q q' xs xs' t Ls r1 hl r2 ih =>
    intro j b0 x2 x3 x4 ha
    obtain ⟨h1, h2⟩ := drop_c ha
    obtain ⟨b2, y4, e1⟩ := lent_inner (h := h) (bo := bo) (L := L) (w := w + 19) (N := h.length) (all := xs) (term := t) r1 (j := 0) (b0 := h.length) (x4 := x4) rfl rfl
    obtain ⟨b1, r1', e2⟩ := ih (b0 := h.length) (x2 := some (.d (.list xs))) (x3 := some (.d t)) (x4 := y4) h2
    exact ⟨b1, r1', fC (nA D.a h1) rfl (xFo (eV rfl) (srcL' (Nat.le_trans hl (by decide))) e1 x0) (cutN (Nat.le_refl _)) e2⟩
end Mine
end
section
open PySem PySem.W
set_option maxRecDepth 100000
set_option linter.unusedSimpArgs false
set_option linter.unusedSectionVars false
namespace Mine
variable {n : Nat} {h : List O} {k : Str} {lo : Int} {b : Nat} {c bo bl be fo : Nat}
theorem kI {fn : Fn} {a b : Nat} {vs : List V} {ρ ρ' : Rho} {v : V} (e : findN a TL.funs = some fn) (e0 : bindArgs fn vs = some ρ) (e1 : exs (R TL n) fn.body ⟨h.length, h, ρ⟩ = some (.ret v, ⟨b, h, ρ'⟩)) : (R TL (n + 1)).call a vs h = some (v, h) := kH e e0 e1
theorem c235 {Ls : List PyData} {l : List (Str × V)} (hb : h[bo]? = some (.attrs 193 [("name", .d (.str "f")), ("arg_count", .d (.int 0)), ("locals", .d (.list (localsL k))), ("blocks", .loc bl), ("spots", .idict [])])) (D : BlkAt h bl Ls) (r : Blks k lo b Ls) (hh : OkH h) :
    (R TL (n + 60)).call 235 [.loc bo] h = some (.idict [], h) := by
  have D1 : BlkAt (h ++ [O.idict []]) bl Ls := D.app _
  obtain ⟨b1, r1, e⟩ := lent_outer (bo := bo) (L := h.length) (w := n + 18) D1 r (j := 0) (b0 := h.length) (x2 := none) (x3 := none) (x4 := none) rfl
  exact kI at_235 rfl (xA (eD pn rfl) (xFo (eA (eV rfl) (aV (get_app hb) rfl)) (srcA D1.a (Nat.le_trans D.l (by decide))) e (xMd rfl (Nat.le_refl _) ((undH_app (Nat.le_refl _)).trans hh))))
end Mine
end
section
open PySem PySem.W
set_option maxRecDepth 100000
set_option linter.unusedSimpArgs false
set_option linter.unusedSectionVars false
namespace Mine
variable {n : Nat} {h : List O} {k : Str} {lo : Int} {b : Nat} {c bo bl be fo : Nat}
/-! a heap with new things at its end -/
theorem vAt0 {t : List O} {C : Nat} {l : List (Str × V)} {s : Str} {v : V} (e : t[0]? = some (.attrs C l)) (hl : Nat.blt l.length 900 = true) : setA (h ++ t) (.loc h.length) s v = some (h ++ t.set 0 (.attrs C (putS s v l))) := by
  rw [vAt (get_at0.trans e) hl, set_at0]
theorem newO {t : List O} {x : O} : some (V.loc (h ++ t).length, (h ++ t) ++ [x]) = some (V.loc (h.length + t.length), h ++ (t ++ [x])) := by
  rw [List.append_assoc, List.length_append]
/-! for over a range -/
section
variable {ρ : Rho} {h1 : List O} {N F a j i : Nat} {c : E} {bd s : List S} {st st' : St} {v : V} {p : Option (Fl × St)}
theorem rE : forRL (R TL n) N i bd j 0 st = some (.next, st) := by unfold forRL; rfl
theorem rC (e1 : exs (R TL n) bd ⟨N, h, ρ.set i (some (.d (.int (j : Int))))⟩ = some (.next, st)) (ec : cutTo N st = st') (e2 : forRL (R TL n) N i bd (j + 1) F st' = p) : forRL (R TL n) N i bd j (F + 1) ⟨a, h, ρ⟩ = p := by
  unfold forRL
  show (match exs (R TL n) bd ⟨N, h, ρ.set i (some (.d (.int (j : Int))))⟩ with
      | some (.next, st) => forRL (R TL n) N i bd (j + 1) F (cutTo N st)
      | some (.ret v, st) => some (.ret v, st)
      | none => none) = _
  rw [e1]; dsimp only; rw [ec]; exact e2
theorem rR {w : V} (e1 : exs (R TL n) bd ⟨N, h, ρ.set i (some (.d (.int (j : Int))))⟩ = some (.ret w, st)) : forRL (R TL n) N i bd j (F + 1) ⟨a, h, ρ⟩ = some (.ret w, st) := by
  unfold forRL
  show (match exs (R TL n) bd ⟨N, h, ρ.set i (some (.d (.int (j : Int))))⟩ with
      | some (.next, st) => forRL (R TL n) N i bd (j + 1) F (cutTo N st)
      | some (.ret v, st) => some (.ret v, st)
      | none => none) = _
  rw [e1]
theorem xRg (k : Nat) (e1 : (R TL n).ev c ρ h = some (v, h1)) (e2 : natOf v = some k) (e3 : forRL (R TL n) h1.length i bd 0 k ⟨a, h1, ρ⟩ = some (.next, st)) (e4 : exs (R TL (n + 1)) s ⟨a, st.h, st.r⟩ = p) : exs (R TL (n + 1)) (.forR i c bd :: s) ⟨a, h, ρ⟩ = p := by
  unfold exs
  rw [show (R TL (n + 1)).ex (.forR i c bd) ⟨a, h, ρ⟩ = some (.next, ⟨a, st.h, st.r⟩) from by
    show (match (R TL n).ev c ρ h with
      | none => none
      | some (v, h) => match natOf v with
        | none => none
        | some k => match forRL (R TL n) h.length i bd 0 k ⟨a, h, ρ⟩ with
          | some (fl, st') => some (fl, (⟨a, st'.h, st'.r⟩ : St))
          | none => none) = _
    rw [e1]; dsimp only; rw [e2]; dsimp only; rw [e3]]
  exact e4
theorem xRgR {w : V} (k : Nat) (e1 : (R TL n).ev c ρ h = some (v, h1)) (e2 : natOf v = some k) (e3 : forRL (R TL n) h1.length i bd 0 k ⟨a, h1, ρ⟩ = some (.ret w, st)) : exs (R TL (n + 1)) (.forR i c bd :: s) ⟨a, h, ρ⟩ = some (.ret w, ⟨a, st.h, st.r⟩) := by
  unfold exs
  rw [show (R TL (n + 1)).ex (.forR i c bd) ⟨a, h, ρ⟩ = some (.ret w, ⟨a, st.h, st.r⟩) from by
    show (match (R TL n).ev c ρ h with
      | none => none
      | some (v, h) => match natOf v with
        | none => none
        | some k => match forRL (R TL n) h.length i bd 0 k ⟨a, h, ρ⟩ with
          | some (fl, st') => some (fl, (⟨a, st'.h, st'.r⟩ : St))
          | none => none) = _
    rw [e1]; dsimp only; rw [e2]; dsimp only; rw [e3]]
end
theorem c298 {Ls : List PyData} (hb : h[bo]? = some (.attrs 193 [("name", .d (.str "f")), ("arg_count", .d (.int 0)), ("locals", .d (.list (localsL k))), ("blocks", .loc bl), ("spots", .idict [])])) (D : BlkAt h bl Ls) (r : Blks k lo b Ls) (hh : OkH h) :
    (R TL (n + 90)).call 298 [.loc h.length, .loc bo] (h ++ [.attrs 396 []]) =
      some (.d .none, h ++ [.attrs 396 [("body", .loc bo), ("followed", .loc (h.length + 1)), ("begins", .loc (h.length + 2))], .idict folM, .iidict [(0, [])]]) := by
  have hbo := (List.getElem?_eq_some_iff.mp hb).1
  have o1 : OkH (h ++ [.attrs 396 [("body", .loc bo)]]) := hh.app (by
    show ((Nat.blt bo (h.length + 1) && true) && true) = true
    rw [Nat.blt_eq.mpr (Nat.lt_succ_of_lt hbo)]; rfl)
  have turn : ∀ {l : Int} {ρ : Rho} {m : Known} {N : Nat}, (l = 0 ∨ l = 1 ∨ l = 2 ∨ l = 3 ∨ l = 4) → m.length ≤ lim → ρ[0]? = some (some (.loc h.length)) → ρ[1]? = some (some (.loc bo)) → ρ[2]? = some (some (.idict [])) → ρ[3]? = some (some (.d (.int l))) →
      exs (R TL (n + 88)) [(.ite (.bop true [(.callF 228 [(.sub (.sub (.attr (.var 1) "locals") (.var 3)) (.lit (.int (0))))]), (.cmp .NotIn (.var 3) (.var 2))]) [(.asgS (.attr (.var 0) "followed") (.var 3) (.lit (.bool true)))] [])] ⟨N, h ++ [.attrs 396 [("body", .loc bo), ("followed", .loc (h.length + 1))], .idict m], ρ⟩ =
        some (.next, ⟨N, h ++ [.attrs 396 [("body", .loc bo), ("followed", .loc (h.length + 1))], .idict (putI l (.bool true) m)], ρ⟩) := fun {l} _ _ _ hl hm r0 r1 r2 r3 =>
    xT0 (tP (tc (tE rfl (eF (c228 hl) (sc (eS (v := .d (locT (typeAt k l))) (eS (eA (eV r1) (aV (get_app hb) rfl)) (eV r3) (by rcases hl with rfl | rfl | rfl | rfl | rfl <;> kernel_rfl)) eL rfl) sn))) (tc (tE rfl (eC (eV r3) (eV r2) rfl)) t0)))
      (xSS eL (eA (eV r0) (aV get_at0 rfl)) (eV r3) ((vD get_at hm).trans (by rw [set_at]; rfl)) x0) x0
  have ln : ∀ {x y z w : O} {ρ : Rho}, cutTo (h ++ [x, y]).length ⟨(h ++ [x, y]).length, h ++ [z, w], ρ⟩ = ⟨(h ++ [x, y]).length, h ++ [z, w], ρ⟩ := fun {x y z w} _ => cutN (Nat.le_of_eq (List.length_append.trans (List.length_append (bs := [x, y])).symm))
  refine kK at_298 rfl ?_ (xSA (eV rfl) (eV rfl) (vAt0 rfl rfl) (xA (eF (c235 (l := []) (get_app hb) (D.app _) r o1) (sc (eV rfl) sn)) (xSA (eD pn newO) (eV rfl) (vAt0 rfl rfl)
    (xRg 5 (eK (sc (eA (eV rfl) (aV (get_app hb) rfl)) sn) (kLen rfl (Nat.le_of_ble_eq_true rfl))) rfl
      (rC (turn (by decide) (Nat.le_of_ble_eq_true rfl) rfl rfl rfl rfl) ln (rC (turn (by decide) (Nat.le_of_ble_eq_true rfl) rfl rfl rfl rfl) ln (rC (turn (by decide) (Nat.le_of_ble_eq_true rfl) rfl rfl rfl rfl) ln (rC (turn (by decide) (Nat.le_of_ble_eq_true rfl) rfl rfl rfl rfl) ln (rC (turn (by decide) (Nat.le_of_ble_eq_true rfl) rfl rfl rfl rfl) ln rE)))))
      (xSA (eD (pc eL (eD pn rfl) pn) newO) (eV rfl) (vAt0 rfl rfl) x0))))) rfl
  rw [List.length_append]
  show undH (h.length + 1) (h.length + 1) (h ++ _) = false
  rw [undH_split]
  show (_ && ((Nat.blt bo (h.length + 1) && (Nat.blt (h.length + 1) (h.length + 1) && _)) && true)) = false
  rw [blt_self, Bool.false_and, Bool.and_false]
  exact Bool.and_false _
end Mine
end
section
open PySem PySem.W
set_option maxRecDepth 100000
set_option linter.unusedSimpArgs false
set_option linter.unusedSectionVars false
namespace Mine
variable {n : Nat} {h : List O} {k : Str} {lo : Int} {b : Nat} {f kf c bo bl be fo : Nat}
noncomputable def wcIn : List S := [(.expr (.methB .append (.var 7) [(.methI "put_statement" (.var 1) [(.var 8), (.var 4)])])), (.expr (.methI "step" (.var 1) [(.var 8), (.var 4)]))]
theorem ne_la {C : Nat} {l : List (Str × V)} {x : List PyData} : O.list x ≠ .attrs C l := fun e => by cases e
theorem ne_li {l : List (Int × PyData)} {x : List PyData} : O.list x ≠ .idict l := fun e => by cases e
theorem wc_inner (K : isKind k lo b) {num term : PyData} {all : List PyData} {w N M bb fd : Nat} {rest : List (Option V)} {m m' : Known} {ss ss' : List PyData} (r : SRs k lo b m ss ss' m') : ∀ {h : List O} {acc : List PyData} {j b0 : Nat} {x8 : Option V},
    FactsAt h f kf m → ConsAt h c bo bl be fo k → kf ≠ fo → h.length = N → m.length + ss.length ≤ 800 → all.drop j = ss → h[M]? = some (.list acc) → acc.length + ss.length ≤ 1000 →
    ∃ b1 y8, forS (R TL (w + 160)) N (.one 8) wcIn (.vals (all.map .d)) (ss.length + 1) j ⟨b0, h, some (.loc bb) :: some (.loc c) :: some (.loc fd) :: some (.d num) :: some (.loc f) :: some (.d (.list all)) :: some (.d term) :: some (.loc M) :: x8 :: rest⟩ =
      some (.next, ⟨b1, (h.set M (.list (acc ++ ss'))).set kf (.idict m'), some (.loc bb) :: some (.loc c) :: some (.loc fd) :: some (.d num) :: some (.loc f) :: some (.d (.list all)) :: some (.d term) :: some (.loc M) :: y8 :: rest⟩) := by
  induction r with
  | nil q' =>
    intro h acc j b0 x8 F C hne hN hl ha hM hac
    refine ⟨b0, x8, ?_⟩
    rw [List.append_nil, set_same hM, set_same F.b]
    exact fE (nV0 (drop_n ha))
  | @cons q0 q1 q2 x x' xs xs' r1 r2 ih =>
    intro h acc j b0 x8 F C hne hN hl ha hM hac
    have hlen := r1.len
    have hl' : q0.length + (xs.length + 1) ≤ 800 := hl
    have hac' : acc.length + (xs.length + 1) ≤ 1000 := hac
    have hMk : M ≠ kf := at_ne hM F.b ne_li
    have F1 : FactsAt (h.set M (.list (acc ++ [x']))) f kf q0 := ⟨get_ne F.a (at_ne hM F.a ne_la), get_ne F.b hMk⟩
    have C1 : ConsAt (h.set M (.list (acc ++ [x']))) c bo bl be fo k := ⟨get_ne C.a (at_ne hM C.a ne_la), get_ne C.b (at_ne hM C.b ne_la), get_ne C.f (at_ne hM C.f ne_li)⟩
    obtain ⟨h1, h2⟩ := drop_c ha
    obtain ⟨b1, y8, e3⟩ := ih (acc := acc ++ [x']) (b0 := N) (x8 := some (.d x)) (F1.set q1) (C1.set F1 hne q1) hne (set_len.trans (set_len.trans hN)) (by omega) h2 (get_ne (get_self hM) hMk.symm) (by rw [List.length_append]; show acc.length + 1 + xs.length ≤ 1000; omega)
    rw [List.set_comm _ _ hMk.symm, List.set_set, List.set_set, List.append_assoc] at e3
    exact ⟨b1, y8, fC (nV h1) rfl (xE (eMB (eV rfl) (sc (eI cls396 (sr_puts K F C r1) C.a (eV rfl) (sc (eV rfl) (sc (eV rfl) sn)) rfl rfl) sn) (skL hM hM) (mApp hM (Nat.le_trans (Nat.le_add_right _ _) (Nat.le_trans hac (by decide)))))
      (xE (eI cls396 (sr_step K F1 C1 hne (by omega) r1) C1.a (eV rfl) (sc (eV rfl) (sc (eV rfl) sn)) rfl rfl) x0)) (cutN (Nat.le_of_eq (set_len.trans (set_len.trans hN)))) e3⟩
end Mine
end
section
open PySem PySem.W
set_option maxRecDepth 100000
set_option linter.unusedSimpArgs false
set_option linter.unusedSectionVars false
namespace Mine
variable {n : Nat} {h : List O} {k : Str} {lo : Int} {b : Nat} {f kf c bo bl be fo : Nat}
theorem copy_comp {all : List PyData} {w : Nat} (D : BlkAt h bl all) {Ls : List PyData} (r : Blks k lo b Ls) : ∀ {j : Nat} {x0 x1 x2 x3 : Option V}, all.drop j = Ls →
    compS (R TL (w + 20)) (.lst false [(.callB false .list [(.var 1)]), (.var 2)]) (.many [1, 2]) [] (.at bl) (Ls.length + 1) j [x0, x1, x2, x3] h = some (Ls.map .d, h) := by
  induction r with
  | nil => exact fun ha => gE (nA0 D.a (drop_n ha))
  | @cons q q' xs xs' t Ls r1 hl r2 ih =>
    exact fun ha => gC (nA D.a (drop_c ha).1) rfl (eLi (sc (eK (sc (eV rfl) sn) (kList rfl (Nat.le_trans hl (by decide)))) (sc (eV rfl) sn)) rfl) (ih (drop_c ha).2)
end Mine
end
section
open PySem PySem.W
set_option maxRecDepth 100000
set_option linter.unusedSimpArgs false
set_option linter.unusedSectionVars false
namespace Mine
variable {n : Nat} {h : List O} {k : Str} {lo : Int} {b : Nat} {f kf c bo bl be fo : Nat}
theorem c147 {B : Nat} : (R TL (n + 30)).call 147 [.loc h.length, .d (.str "f"), .d (.int 0), .d (.list (localsL k)), .loc B, .idict []] (h ++ [.attrs 193 []]) = some (.d .none, h ++ [.attrs 193 [("name", .d (.str "f")), ("arg_count", .d (.int 0)), ("locals", .d (.list (localsL k))), ("blocks", .loc B), ("spots", .idict [])]]) :=
  kN at_147 rfl (List.length_append.trans (List.length_append (bs := [O.attrs 193 []])).symm) (xSA (eV rfl) (eV rfl) (vAt0 rfl rfl) (xSA (eV rfl) (eV rfl) (vAt0 rfl rfl) (xSA (eK (sc (eV rfl) sn) (kList rfl (Nat.le_of_ble_eq_true rfl))) (eV rfl) (vAt0 rfl rfl)
    (xSA (eIf0 (tE rfl (eC (eV rfl) eL (cSom rfl))) (eV rfl)) (eV rfl) (vAt0 rfl rfl) (xSA (eIf0 (tE rfl (eC (eV rfl) eL (cSom rfl))) (eV rfl)) (eV rfl) (vAt0 rfl rfl) x0)))))
end Mine
end
section
open PySem PySem.W
set_option maxRecDepth 100000
set_option linter.unusedSimpArgs false
set_option linter.unusedSectionVars false
namespace Mine
variable {n : Nat} {h : List O} {k : Str} {lo : Int} {b : Nat} {f kf c bo bl be fo : Nat}
/-- a body as it stands in the heap -/
noncomputable abbrev bodyO (k : Str) (bl : Nat) : O := .attrs 193 [("name", .d (.str "f")), ("arg_count", .d (.int 0)), ("locals", .d (.list (localsL k))), ("blocks", .loc bl), ("spots", .idict [])]
theorem cls193 : findN 193 TL.clss = some ⟨147, [("__init__", 147)], []⟩ := by kernel_rfl
theorem allD_map : ∀ l : List PyData, allD (l.map .d) = some l
  | [] => rfl
  | x :: l => by rw [List.map_cons]; unfold allD; rw [allD_map l]
theorem c207 {Ls : List PyData} (hb : h[bo]? = some (bodyO k bl)) (D : BlkAt h bl Ls) (r : Blks k lo b Ls) :
    (R TL (n + 50)).call 207 [.loc bo] h = some (.loc (h.length + 1), h ++ [.list Ls, bodyO k h.length]) := by
  have gb := get_app (t := [O.list Ls]) hb
  have mk : mkList true (Ls.map .d) h = some (.loc h.length, h ++ [.list Ls]) := by
    unfold mkList; rw [allD_map]; rfl
  exact (kL (h1 := (h ++ [.list Ls]) ++ [bodyO k h.length]) at_207 rfl (Nat.le_trans (Nat.le_add_right _ _) (Nat.le_of_eq List.length_append.symm)) (xA (eCo (eA (eV rfl) (aV hb rfl)) (srcA D.a (Nat.le_trans D.l (by decide))) (copy_comp D r rfl) mk)
    (xR (eNew cls193 (sc (eA (eV rfl) (aV gb rfl)) (sc (eA (eV rfl) (aV gb rfl)) (sc (eA (eV rfl) (aV gb rfl)) (sc (eV rfl) (sc (eK (sc (eA (eV rfl) (aV gb rfl)) sn) (kDict rfl (Nat.le_of_ble_eq_true rfl))) sn))))) c147)))).trans newO
end Mine
end
section
open PySem PySem.W
set_option maxRecDepth 100000
set_option linter.unusedSimpArgs false
set_option linter.unusedSectionVars false
namespace Mine
variable {n : Nat} {h : List O} {k : Str} {lo : Int} {b : Nat} {f kf c bo bl be fo fd fb : Nat}
noncomputable def wcBody : List S := [(.asg 4 (.callC 273 [(.sub (.attr (.var 1) "begins") (.var 3))])),
    (.unp false [5, 6] (.sub (.attr (.var 0) "blocks") (.var 3))),
    (.asg 7 (.lst true [])),
    (.for_ (.one 8) (.var 5) wcIn),
    (.asgSM (.attr (.var 2) "blocks") (.var 3) 7 (.methI "put_terminator" (.var 1) [(.var 6), (.var 4)]))]
/-- a list that is taken out of its name and stored with another thing -/
theorem xSM {ρ ρ2 : Rho} {o a e : E} {l : List PyData} {y : PyData} {x z : V} {h2 : List O} {s : List S} {p : Option (Fl × St)} {i N b : Nat} (hN : N = h.length) (e1 : (R TL n).ev e ρ (h ++ [.list l]) = some (.d y, h ++ [.list l])) (e2 : ρ[i]? = some (some (.loc N))) (hb : b ≤ h.length) (ok : OkH h)
    (e6 : (ρ.set i none).map (poison N) = ρ2) (e3 : (R TL n).ev o ρ2 h = some (x, h)) (e4 : (R TL n).ev a ρ2 h = some (z, h)) (e5 : Mine.setS h x z (.d (.list [.list l, y])) = some h2) (e7 : exs (R TL (n + 1)) s ⟨b, h2, ρ2⟩ = p) : exs (R TL (n + 1)) (.asgSM o a i e :: s) ⟨b, h ++ [.list l], ρ⟩ = p := by
  subst hN
  have q : (Nat.ble b h.length && Nat.beq (h.length + 1) (h ++ [O.list l]).length && undH h.length h.length (h ++ [O.list l])) = true := by
    rw [undH_app (Nat.le_refl _), show undH h.length h.length h = true from ok, Nat.ble_eq.mpr hb, List.length_append, show Nat.beq (h.length + 1) (h.length + [O.list l].length) = true from Nat.beq_refl _]; rfl
  have tk : takeM i ⟨b, h ++ [.list l], ρ⟩ = some (.list l, ⟨b, h, ρ2⟩) := by
    unfold takeM; dsimp only; rw [e2]; dsimp only
    rw [if_pos q, get_at0]
    show some (PyData.list l, (⟨b, (h ++ [O.list l]).take h.length, (ρ.set i none).map (poison h.length)⟩ : St)) = _
    rw [List.take_left' rfl, e6]
  unfold exs
  rw [show (R TL (n + 1)).ex (.asgSM o a i e) ⟨b, h ++ [.list l], ρ⟩ = some (.next, ⟨b, h2, ρ2⟩) from by
    show (match (R TL n).ev e ρ (h ++ [.list l]) with
    | some (.d y, h) => (match takeM i ⟨b, h, ρ⟩ with
      | none => none
      | some (l, st') => match (R TL n).ev o st'.r st'.h with
        | none => none
        | some (x, h) => match (R TL n).ev a st'.r h with
          | none => none
          | some (z, h) => match Mine.setS h x z (.d (.list [l, y])) with | some h => some (Fl.next, (⟨b, h, st'.r⟩ : St)) | none => none)
    | _ => none) = _
    rw [e1]; dsimp only; rw [tk]; dsimp only; rw [e3]; dsimp only; rw [e4]; dsimp only; rw [e5]]
  exact e7
theorem wc_turn {i : Nat} {m m' : Known} {B : List (Int × Known)} {Ls Ls' ss ss' keys : List PyData} {t t' : PyData} {g : Option Int} {x3 x4 x5 x6 x7 x8 : Option V} {q b0 F j : Nat}
    (K : isKind k lo b) (C : ConsAt h c bo bl be fo k) (G : BegAt h be B) (D : BlkAt h bl Ls) (D' : BlkAt h fb Ls') (hfd : h[fd]? = some (bodyO k fb)) (hh : OkH h)
    (hB : findI (i : Int) B = some m) (hL : Ls[i]? = some (.list [.list ss, t])) (hi' : i < Ls'.length) (r : SRs k lo b m ss ss' m') (r2 : TR m' t t' g) (hl : m.length + ss.length ≤ 800) (hk : keys[j]? = some (.int (i : Int))) :
    ∃ b1 y3 y4 y5 y6 y7 y8, forS (R TL (q + 200)) h.length (.one 3) wcBody (.vals (keys.map .d)) (F + 1) j ⟨b0, h, [some (.loc bo), some (.loc c), some (.loc fd), x3, x4, x5, x6, x7, x8, none, none, none, none]⟩ =
      forS (R TL (q + 200)) h.length (.one 3) wcBody (.vals (keys.map .d)) F (j + 1) ⟨b1, h.set fb (.list (Ls'.set i (.list [.list ss', t']))), [some (.loc bo), some (.loc c), some (.loc fd), y3, y4, y5, y6, y7, y8, none, none, none, none]⟩ := by
  have hc := (List.getElem?_eq_some_iff.mp C.a).1
  have hbo := (List.getElem?_eq_some_iff.mp C.b).1
  have hfo := (List.getElem?_eq_some_iff.mp C.f).1
  have hfdl := (List.getElem?_eq_some_iff.mp hfd).1
  have hfb := (List.getElem?_eq_some_iff.mp D'.a).1
  have l0 : ∀ m, (h ++ factsO (h.length + 1) m).length = h.length + 2 := fun m => List.length_append
  have l1 : m.length ≤ lim := Nat.le_trans (Nat.le_trans (Nat.le_add_right _ _) hl) (by decide)
  have l2 : ss.length ≤ 1000 := Nat.le_trans (Nat.le_trans (Nat.le_add_left _ _) hl) (by decide)
  have F3 : FactsAt (h ++ factsO (h.length + 1) m ++ [O.list []]) h.length (h.length + 1) m := ⟨get_app get_at0, get_app get_at⟩
  obtain ⟨b1, y8, e2⟩ := wc_inner K (num := .int (i : Int)) (term := t) (all := ss) (w := q + 39) (M := (h ++ factsO (h.length + 1) m).length) (bb := bo) (fd := fd) (rest := [none, none, none, none]) r (j := 0) (acc := []) (b0 := h.length) (x8 := x8)
    F3 ((C.app _).app _) (lt_ne C.f) rfl hl rfl get_at0 (by rw [List.length_nil, Nat.zero_add]; exact l2)
  have s3 : ((h ++ factsO (h.length + 1) m ++ [O.list []]).set (h ++ factsO (h.length + 1) m).length (.list ([] ++ ss'))).set (h.length + 1) (.idict m') = h ++ factsO (h.length + 1) m' ++ [O.list ss'] := by
    rw [set_at0, List.set_append_left _ _ (by rw [l0]; exact Nat.lt_succ_self _), facts_set]; rfl
  rw [s3] at e2
  have F4 : FactsAt (h ++ factsO (h.length + 1) m' ++ [O.list ss']) h.length (h.length + 1) m' := ⟨get_app get_at0, get_app get_at⟩
  have C4 := (C.app (factsO (h.length + 1) m')).app [O.list ss']
  have pz' : ∀ {i}, i < h.length → poison (h ++ factsO (h.length + 1) m).length (some (.loc i)) = some (.loc i) := fun hi => pz (by rw [l0]; exact Nat.lt_succ_of_lt (Nat.lt_succ_of_lt hi))
  have cu : cutTo h.length ⟨h.length, (h ++ factsO (h.length + 1) m').set fb (.list (Ls'.set i (.list [.list ss', t']))), [some (.loc bo), some (.loc c), some (.loc fd), some (.d (.int (i : Int))), some (.loc h.length), some (.d (.list ss)), some (.d t), none, poison (h ++ factsO (h.length + 1) m).length y8, none, none, none, none]⟩ =
      ⟨h.length, h.set fb (.list (Ls'.set i (.list [.list ss', t']))), [some (.loc bo), some (.loc c), some (.loc fd), some (.d (.int (i : Int))), poison h.length (some (.loc h.length)), some (.d (.list ss)), some (.d t), none, poison h.length (poison (h ++ factsO (h.length + 1) m).length y8), none, none, none, none]⟩ := by
    rw [List.set_append_left _ _ hfb, cutA (t := factsO (h.length + 1) m') set_len (hh.set (o := .list (Ls'.set i (.list [.list ss', t']))) rfl) (Nat.succ_pos _)]
    show (⟨_, _, [poison h.length (some (.loc bo)), poison h.length (some (.loc c)), poison h.length (some (.loc fd)), _, _, _, _, _, _, _, _, _, _]⟩ : St) = _
    rw [pz hbo, pz hc, pz hfdl]; rfl
  refine ⟨h.length, some (.d (.int (i : Int))), poison h.length (some (.loc h.length)), some (.d (.list ss)), some (.d t), none, poison h.length (poison (h ++ factsO (h.length + 1) m).length y8), fC (nV hk) rfl (xA (eNew cls273 (sc (eS (eA (eV rfl) (aV C.a rfl)) (eV rfl) (uDD G.a hB)) sn) (c249 l1)) (xU (eS (eA (eV rfl) (aV (get_app C.b) rfl)) (eV rfl) (uL (get_app D.a) (aL hL (Nat.le_trans D.l (by decide))))) rfl
    (xA (eLm sn rfl) (xFo (eV rfl) (srcL' (Nat.le_trans l2 (by decide))) e2
      (xSM ((l0 m).trans (l0 m').symm) (eI cls396 (tr_put K F4 C4 r2) C4.a (eV rfl) (sc (eV rfl) (sc (eV rfl) sn)) rfl rfl) rfl (Nat.le_trans (Nat.le_add_right _ _) (Nat.le_of_eq (l0 m').symm)) hh.facts (ρ2 := [some (.loc bo), some (.loc c), some (.loc fd), some (.d (.int (i : Int))), some (.loc h.length), some (.d (.list ss)), some (.d t), none, poison (h ++ factsO (h.length + 1) m).length y8, none, none, none, none]) ?_
        (eA (eV rfl) (aV (get_app hfd) rfl)) (eV rfl) (vL (get_app D'.a) (Nat.le_trans D'.l (by decide)) hi') x0))))) cu rfl⟩
  show [poison _ (some (.loc bo)), poison _ (some (.loc c)), poison _ (some (.loc fd)), _, poison _ (some (.loc h.length)), _, _, _, _, _, _, _, _] = _
  rw [pz' hbo, pz' hc, pz' hfdl, pz (by rw [l0]; exact Nat.lt_succ_of_lt (Nat.lt_succ_self _))]; rfl
end Mine
end
section
open PySem PySem.W
set_option maxRecDepth 100000
set_option linter.unusedSimpArgs false
set_option linter.unusedSectionVars false
namespace Mine
variable {n : Nat} {h : List O} {k : Str} {lo : Int} {b : Nat} {f kf c bo bl be fo fd fb : Nat}
theorem set_mid {α : Type} {a c : List α} {x y : α} {i : Nat} (e : a.length = i) : (a ++ x :: c).set i y = a ++ y :: c := by
  subst e; rw [List.set_append_right _ _ (Nat.le_refl _), Nat.sub_self]; rfl
theorem len_mid {α : Type} {a c : List α} {x : α} {i : Nat} (e : a.length = i) : i < (a ++ x :: c).length := by
  subst e; rw [List.length_append]; exact Nat.lt_add_of_pos_right (Nat.succ_pos _)
theorem key_at {B Bs : List (Int × Known)} {i : Nat} {x : Int × Known} (e : B.drop i = x :: Bs) : x ∈ B ∧ ((B.map (·.1)).map PyData.int)[i]? = some (.int x.1) := by
  have h := (drop_c e).1
  exact ⟨List.mem_of_getElem? h, by rw [List.getElem?_map, List.getElem?_map, h]; rfl⟩
/-- the loop over the blocks -/
theorem wc_chain {q : Nat} {B : List (Int × Known)} {Ls0 : List PyData} (K : isKind k lo b) (hB : ∀ p ∈ B, findI p.1 B = some p.2) {i : Nat} {m : Known} {Ls Ls' : List PyData} {Bs : List (Int × Known)} (r : Chain k lo b i m Ls Ls' Bs) : ∀ {h : List O} {preL' : List PyData} {x3 x4 x5 x6 x7 x8 : Option V} {b0 : Nat},
    ConsAt h c bo bl be fo k → BegAt h be B → BlkAt h bl Ls0 → BlkAt h fb (preL' ++ Ls) → h[fd]? = some (bodyO k fb) → OkH h → bl ≠ fb → Ls0.drop i = Ls → preL'.length = i → B.drop i = Bs →
    ∃ b1 y3 y4 y5 y6 y7 y8, forS (R TL (q + 200)) h.length (.one 3) wcBody (.vals (((B.map (·.1)).map PyData.int).map .d)) (Ls.length + 1) i ⟨b0, h, [some (.loc bo), some (.loc c), some (.loc fd), x3, x4, x5, x6, x7, x8, none, none, none, none]⟩ =
      some (.next, ⟨b1, h.set fb (.list (preL' ++ Ls')), [some (.loc bo), some (.loc c), some (.loc fd), y3, y4, y5, y6, y7, y8, none, none, none, none]⟩) := by
  induction r with
  | @last i q0 q1 xs xs' r1 hl =>
    intro h preL' x3 x4 x5 x6 x7 x8 b0 C G D D' hfd hh hne e1 e2 e3
    obtain ⟨b1, y3, y4, y5, y6, y7, y8, e⟩ := wc_turn (q := q) (F := 1) (x3 := x3) (x4 := x4) (x5 := x5) (x6 := x6) (x7 := x7) (x8 := x8) (b0 := b0) K C G D D' hfd hh (hB _ (key_at e3).1) (drop_c e1).1 (len_mid e2) r1 TR.ret hl (key_at e3).2
    rw [set_mid e2] at e
    exact ⟨b1, y3, y4, y5, y6, y7, y8, e.trans (fE (nV0 (by rw [List.getElem?_map, List.getElem?_map, drop_n (drop_c e3).2]; rfl)))⟩
  | @step i q0 q1 xs xs' t t' Ls Ls' Bs r1 r2 hl hl' r3 ih =>
    intro h preL' x3 x4 x5 x6 x7 x8 b0 C G D D' hfd hh hne e1 e2 e3
    obtain ⟨b1, y3, y4, y5, y6, y7, y8, e⟩ := wc_turn (q := q) (F := Ls.length + 1) (x3 := x3) (x4 := x4) (x5 := x5) (x6 := x6) (x7 := x7) (x8 := x8) (b0 := b0) K C G D D' hfd hh (hB _ (key_at e3).1) (drop_c e1).1 (len_mid e2) r1 r2 hl (key_at e3).2
    rw [set_mid e2] at e
    have C2 : ConsAt (h.set fb (.list (preL' ++ .list [.list xs', t'] :: Ls))) c bo bl be fo k := ⟨get_ne C.a (at_ne D'.a C.a ne_la), get_ne C.b (at_ne D'.a C.b ne_la), get_ne C.f (at_ne D'.a C.f ne_li)⟩
    have D2' : BlkAt (h.set fb (.list (preL' ++ .list [.list xs', t'] :: Ls))) fb ((preL' ++ [.list [.list xs', t']]) ++ Ls) := ⟨by rw [List.append_assoc]; exact get_self D'.a, by have := D'.l; rw [List.length_append] at this; rw [List.append_assoc, List.length_append]; exact this⟩
    obtain ⟨b2, z3, z4, z5, z6, z7, z8, e'⟩ := ih (x3 := y3) (x4 := y4) (x5 := y5) (x6 := y6) (x7 := y7) (x8 := y8) (b0 := b1)
      C2 ⟨get_ne G.a (at_ne D'.a G.a ne_lii.symm)⟩ ⟨get_ne D.a hne.symm, D.l⟩ D2' (get_ne hfd (at_ne D'.a hfd ne_la)) (hh.set rfl) hne (drop_c e1).2 (by rw [List.length_append, e2]; rfl) (drop_c e3).2
    rw [set_len, List.set_set, List.append_assoc] at e'
    exact ⟨b2, z3, z4, z5, z6, z7, z8, e.trans e'⟩
end Mine
end
section
open PySem PySem.W
set_option maxRecDepth 100000
set_option linter.unusedSimpArgs false
set_option linter.unusedSectionVars false
namespace Mine
variable {n : Nat} {h : List O} {k : Str} {lo : Int} {b : Nat} {f kf c bo bl be fo fd fb : Nat}
noncomputable def asc {α : Type} : Nat → List (Int × α) → Prop
  | _, [] => True
  | i, (k, _) :: r => k = (i : Int) ∧ asc (i + 1) r
theorem asc_ge {α : Type} : ∀ {i : Nat} {l : List (Int × α)}, asc i l → ∀ p ∈ l, (i : Int) ≤ p.1
  | _, [], _, _, h => by cases h
  | i, (k, x) :: r, h, p, hp => by
    obtain ⟨h1, h2⟩ := h
    cases hp with
    | head => rw [h1]; exact Int.le_refl _
    | tail _ hp => have := asc_ge h2 p hp; omega
theorem asc_find {α : Type} : ∀ {i : Nat} {l : List (Int × α)}, asc i l → ∀ p ∈ l, findI p.1 l = some p.2
  | _, [], _, _, h => by cases h
  | i, (k, x) :: r, h, p, hp => by
    obtain ⟨h1, h2⟩ := h
    cases hp with
    | head => unfold findI; rw [intEq_dec, decide_eq_true rfl, if_pos rfl]
    | tail _ hp =>
      have h3 := asc_ge h2 p hp
      unfold findI
      rw [intEq_dec, decide_eq_false (by omega), if_neg (by decide)]
      exact asc_find h2 p hp
theorem asc_sort {α : Type} : ∀ {i : Nat} {l : List (Int × α)}, asc i l → sortI (l.map (·.1)) = l.map (·.1)
  | _, [], _ => rfl
  | i, (k, x) :: r, h => by
    obtain ⟨h1, h2⟩ := h
    rw [List.map_cons]
    unfold sortI
    rw [asc_sort h2]
    cases r with
    | nil => rfl
    | cons y r =>
      have := asc_ge h2 y (.head _)
      rw [List.map_cons]
      unfold insI
      rw [decide_eq_true (by omega), if_pos rfl]
theorem Chain.asc {i : Nat} {m : Known} {Ls Ls' : List PyData} {Bs : List (Int × Known)} (r : Chain k lo b i m Ls Ls' Bs) : Mine.asc i Bs ∧ Bs.length = Ls.length ∧ Ls'.length = Ls.length ∧ 0 < Ls.length := by
  induction r with
  | last => exact ⟨⟨rfl, trivial⟩, rfl, rfl, Nat.succ_pos _⟩
  | step _ _ _ _ _ ih => exact ⟨⟨rfl, ih.1⟩, congrArg Nat.succ ih.2.1, congrArg Nat.succ ih.2.2.1, Nat.succ_pos _⟩
theorem kSort {N : Nat} {B : List (Int × Known)} {mu : Bool} (e : h[N]? = some (.iidict B)) (l : B.length < 64) (l0 : 0 < B.length) (s : sortI (B.map (·.1)) = B.map (·.1)) : callB h mu .sorted [.loc N] = some (.d (.list ((B.map (·.1)).map .int)), h) := by
  show sortedV h (.loc N) = _
  unfold sortedV; dsimp only; rw [e]; dsimp only
  rw [Nat.blt_eq.mpr l, Nat.blt_eq.mpr l0, s]; rfl
/-- what with_constants leaves behind -/
noncomputable def wcT (k : Str) (bo l : Nat) (Bs : List (Int × Known)) (Ls' : List PyData) : List O := [.attrs 396 [("body", .loc bo), ("followed", .loc (l + 1)), ("begins", .loc (l + 2))], .idict folM, .iidict Bs, .list Ls', bodyO k (l + 3)]
theorem c407 {Ls Ls' : List PyData} {Bs : List (Int × Known)} (K : isKind k lo b) (r : Chain k lo b 0 [] Ls Ls' Bs) (hb : h[bo]? = some (bodyO k bl)) (D : BlkAt h bl Ls) (hh : OkH h) (hl : Ls.length ≤ 60) :
    (R TL (n + 240)).call 407 [.loc bo] h = some (.loc (h.length + 4), h ++ wcT k bo h.length Bs Ls') := by
  obtain ⟨ra, rb, rc, rd⟩ := r.asc
  have hbo := (List.getElem?_eq_some_iff.mp hb).1
  have hbl := (List.getElem?_eq_some_iff.mp D.a).1
  have b1 : ∀ j, Nat.blt bo (h.length + j) = true := fun j => Nat.blt_eq.mpr (Nat.lt_of_lt_of_le hbo (Nat.le_add_right _ _))
  have b2 : ∀ i j, i < j → Nat.blt (h.length + i) (h.length + j) = true := fun i j l => Nat.blt_eq.mpr (Nat.add_lt_add_left l _)
  have ok3 : ∀ B : List (Int × Known), OkH (h ++ [.attrs 396 [("body", .loc bo), ("followed", .loc (h.length + 1)), ("begins", .loc (h.length + 2))], .idict folM, .iidict B]) := fun B => hh.app (by
    show ((Nat.blt bo (h.length + 3) && (Nat.blt (h.length + 1) (h.length + 3) && (Nat.blt (h.length + 2) (h.length + 3) && true))) && true) = true
    rw [b1, b2 1 3 (by decide), b2 2 3 (by decide)]; rfl)
  have C1 : ∀ t, ConsAt (h ++ .attrs 396 [("body", .loc bo), ("followed", .loc (h.length + 1)), ("begins", .loc (h.length + 2))] :: .idict folM :: t) h.length bo bl (h.length + 2) (h.length + 1) k := fun t => ⟨get_at0, get_app hb, get_at⟩
  have o3 : OkH (h ++ [.attrs 396 [("body", .loc bo), ("followed", .loc (h.length + 1)), ("begins", .loc (h.length + 2))], .idict folM, .iidict Bs, .list Ls, bodyO k (h.length + 3)]) := hh.app (by
    show ((Nat.blt bo (h.length + 5) && (Nat.blt (h.length + 1) (h.length + 5) && (Nat.blt (h.length + 2) (h.length + 5) && true))) && (Nat.blt (h.length + 3) (h.length + 5) && true && true)) = true
    rw [b1, b2 1 5 (by decide), b2 2 5 (by decide), b2 3 5 (by decide)]; rfl)
  have e2 : ∀ n, (R TL (n + 230)).call 369 [.loc h.length] (h ++ [.attrs 396 [("body", .loc bo), ("followed", .loc (h.length + 1)), ("begins", .loc (h.length + 2))], .idict folM, .iidict [(0, [])]]) = some (.d .none, h ++ [.attrs 396 [("body", .loc bo), ("followed", .loc (h.length + 1)), ("begins", .loc (h.length + 2))], .idict folM, .iidict Bs]) := fun n =>
    (c369 K r (C1 _) ⟨get_at⟩ (D.app _) (ok3 _) hl).trans (by rw [set_at]; rfl)
  have e3 : ∀ n, (R TL (n + 50)).call 207 [.loc bo] (h ++ [.attrs 396 [("body", .loc bo), ("followed", .loc (h.length + 1)), ("begins", .loc (h.length + 2))], .idict folM, .iidict Bs]) = some (.loc (h.length + 4), h ++ [.attrs 396 [("body", .loc bo), ("followed", .loc (h.length + 1)), ("begins", .loc (h.length + 2))], .idict folM, .iidict Bs, .list Ls, bodyO k (h.length + 3)]) := fun n =>
    (c207 (k := k) (bl := bl) (get_app hb) (D.app _) r.blks).trans (by rw [List.append_assoc, List.length_append]; rfl)
  obtain ⟨b1, y3, y4, y5, y6, y7, y8, e4⟩ := wc_chain (fd := h.length + 4) (fb := h.length + 3) (q := n + 38) (B := Bs) (preL' := []) K (asc_find ra) r (x3 := none) (x4 := none) (x5 := none) (x6 := none) (x7 := none) (x8 := none) (b0 := h.length) (C1 _) ⟨get_at⟩ (D.app _) ⟨get_at, D.l⟩ get_at o3 (Nat.ne_of_lt (Nat.lt_of_lt_of_le hbl (Nat.le_add_right _ _))) rfl rfl rfl
  rw [set_at, ← rb] at e4
  have rb0 : 0 < Bs.length := rb ▸ rd
  have rb' : Bs.length < 64 := Nat.lt_of_le_of_lt (rb ▸ hl) (by decide)
  refine kL at_407 rfl (Nat.le_add_right _ _) (xA (eNew cls396 (sc (eV rfl) sn) (c298 hb D r.blks hh)) (xE (eI cls396 (e2 _) (C1 _).a (eV rfl) sn rfl rfl) (xA (eF (e3 _) (sc (eV rfl) sn))
    (xFo (F := Bs.length + 1) (eK (sc (eA (eV rfl) (aV (C1 _).a rfl)) sn) (kSort get_at rb' rb0 (asc_sort ra))) ?_ e4 (xR (eV rfl))))))
  rw [srcL' (by rw [List.length_map, List.length_map]; exact Nat.le_of_lt (Nat.lt_trans rb' (by decide))), List.length_map, List.length_map]
end Mine
end
section
open PySem PySem.W
set_option maxRecDepth 100000
set_option linter.unusedSimpArgs false
set_option linter.unusedSectionVars false
namespace Mine
variable {n : Nat} {h : List O} {k : Str} {lo : Int} {b : Nat} {f kf c bo bl be fo fd fb : Nat}
mutual
theorem deq_refl : ∀ x : PyData, x.canLay0 = true → deq x x = true
  | .none, _ => rfl
  | .bool b, _ => by cases b <;> rfl
  | .int i, _ => intEq_same i
  | .str s, _ => strEq_same s
  | .list xs, h => deqs_refl xs h
  | .tuple xs, h => deqs_refl xs h
  | .dict _, h => by cases h
theorem deqs_refl : ∀ xs : List PyData, PyData.canLayAll0 xs = true → deqs xs xs = true
  | [], _ => rfl
  | x :: xs, h => by
    have h' : x.canLay0 = true ∧ PyData.canLayAll0 xs = true := Bool.and_eq_true_iff.mp h
    exact Bool.and_eq_true_iff.mpr ⟨deq_refl x h'.1, deqs_refl xs h'.2⟩
end
/-- it can be written down, and is so deep at most -/
def LayD (n : Nat) (x : PyData) : Prop := x.canLay0 = true ∧ x.depth ≤ n
theorem layAll {n : Nat} : ∀ {xs : List PyData}, (∀ x ∈ xs, LayD n x) → PyData.canLayAll0 xs = true ∧ PyData.depthAll xs ≤ n
  | [], _ => ⟨rfl, Nat.zero_le _⟩
  | x :: xs, h => by
    obtain ⟨h1, h2⟩ := h x (.head _)
    obtain ⟨h3, h4⟩ := layAll (xs := xs) fun y hy => h y (.tail _ hy)
    refine ⟨Bool.and_eq_true_iff.mpr ⟨h1, h3⟩, ?_⟩
    exact Nat.max_le.mpr ⟨h2, h4⟩
theorem LayD.list {n : Nat} {xs : List PyData} (h : ∀ x ∈ xs, LayD n x) : LayD (n + 1) (.list xs) := ⟨(layAll h).1, Nat.succ_le_succ (layAll h).2⟩
theorem LayD.mono {n n' : Nat} {x : PyData} (h : LayD n x) (e : n ≤ n') : LayD n' x := ⟨h.1, Nat.le_trans h.2 e⟩
theorem LayD.lay {n : Nat} {x : PyData} (h : LayD n x) (e : n ≤ 60) : Mine.lay x = true := by
  unfold Mine.lay; rw [h.1, decide_eq_true (Nat.le_trans h.2 e)]; rfl
theorem cT2 {x y : PyData} (h1 : x.canLay0 = true) (h2 : y.canLay0 = true) : (PyData.tuple [x, y]).canLay0 = true := by
  show (x.canLay0 && (y.canLay0 && true)) = true
  rw [h1, h2]; rfl
theorem cT3 {x y z : PyData} (h1 : x.canLay0 = true) (h2 : y.canLay0 = true) (h3 : z.canLay0 = true) : (PyData.tuple [x, y, z]).canLay0 = true := by
  show (x.canLay0 && (y.canLay0 && (z.canLay0 && true))) = true
  rw [h1, h2, h3]; rfl
theorem cT4 {x y z w : PyData} (h1 : x.canLay0 = true) (h2 : y.canLay0 = true) (h3 : z.canLay0 = true) (h4 : w.canLay0 = true) : (PyData.tuple [x, y, z, w]).canLay0 = true := by
  show (x.canLay0 && (y.canLay0 && (z.canLay0 && (w.canLay0 && true)))) = true
  rw [h1, h2, h3, h4]; rfl
theorem lay_cI (K : isKind k lo b) {v : Int} : (cI k v).canLay0 = true := cT3 (by kernel_rfl) (cT2 (by kernel_rfl) (kind_lay K)) rfl
theorem op_lay {op : Str} (h : isOp op) : PyData.strOk op = true := by
  rcases h with rfl | rfl | rfl | rfl | rfl | rfl | rfl <;> decide +kernel
theorem lay_asg {l : Int} {t v : PyData} (ht : t.canLay0 = true) (hv : v.canLay0 = true) : (sAsg l (rUse (.tuple [.str "const", t, v]))).canLay0 = true := cT3 (by kernel_rfl) (by kernel_rfl) (cT2 (by kernel_rfl) (cT3 (by kernel_rfl) ht hv))
theorem lay_chk (K : isKind k lo b) {op : Str} {v o : Int} (ho : PyData.strOk op = true) : (sAsg 2 (rChk op (cI k v) (cI k o))).canLay0 = true := cT3 (by kernel_rfl) (by kernel_rfl) (cT4 (by kernel_rfl) ho (lay_cI K) (lay_cI K))
theorem LayD.sr {m m' : Known} {s s' : PyData} (K : isKind k lo b) (r : SR k lo b m s s' m') : LayD 12 s' := by
  have tK : (tI k).canLay0 = true := cT2 (by kernel_rfl) (kind_lay K)
  cases r with
  | con v => exact ⟨lay_asg tK rfl, Nat.le_of_ble_eq_true rfl⟩
  | eq0 o => exact ⟨lay_asg (by kernel_rfl) rfl, Nat.le_of_ble_eq_true rfl⟩
  | chk op o v _ h1 h2 h3 h4 => exact ⟨lay_chk K (op_lay h2), Nat.le_of_ble_eq_true rfl⟩
  | chkz op v _ h1 h2 => exact ⟨lay_chk K (op_lay (by rcases h2 with rfl | rfl; exact .inr (.inr (.inr (.inl rfl))); exact .inr (.inr (.inr (.inr (.inl rfl)))))), Nat.le_of_ble_eq_true rfl⟩
  | mov v w => exact ⟨lay_asg tK rfl, Nat.le_of_ble_eq_true rfl⟩
  | prt v => exact ⟨cT2 (by kernel_rfl) (lay_cI K), Nat.le_of_ble_eq_true rfl⟩
  | cast v => exact ⟨lay_asg (by kernel_rfl) rfl, Nat.le_of_ble_eq_true rfl⟩
  | un op v => exact ⟨lay_asg tK rfl, Nat.le_of_ble_eq_true rfl⟩
  | cmp op v => exact ⟨lay_asg (by kernel_rfl) rfl, Nat.le_of_ble_eq_true rfl⟩
theorem LayD.srs {m m' : Known} {ss ss' : List PyData} (K : isKind k lo b) (r : SRs k lo b m ss ss' m') : ∀ x ∈ ss', LayD 12 x := by
  induction r with
  | nil => intro x hx; cases hx
  | cons r1 r2 ih =>
    intro x hx
    cases hx with
    | head => exact LayD.sr K r1
    | tail _ hx => exact ih x hx
theorem SRs.len {m m' : Known} {ss ss' : List PyData} (r : SRs k lo b m ss ss' m') : ss'.length = ss.length ∧ m'.length ≤ m.length + ss.length := by
  induction r with
  | nil => exact ⟨rfl, Nat.le_refl _⟩
  | cons r1 r2 ih => exact ⟨congrArg Nat.succ ih.1, Nat.le_trans ih.2 (Nat.le_trans (Nat.add_le_add_right r1.len _) (Nat.le_of_eq (Nat.succ_add_eq_add_succ _ _)))⟩
theorem SRs.app {m m' m'' : Known} {ss ss' ts ts' : List PyData} (r : SRs k lo b m ss ss' m') (r' : SRs k lo b m' ts ts' m'') : SRs k lo b m (ss ++ ts) (ss' ++ ts') m'' := by
  induction r with
  | nil => exact r'
  | cons r1 r2 ih => exact .cons r1 (ih r')
theorem LayD.blk {m m' : Known} {ss ss' : List PyData} {t' : PyData} (K : isKind k lo b) (r : SRs k lo b m ss ss' m') (ht : LayD 12 t') : LayD 14 (.list [.list ss', t']) :=
  LayD.list (n := 13) fun x hx => by
    rcases List.mem_cons.mp hx with rfl | hx
    · exact LayD.list (LayD.srs K r)
    · rw [List.mem_singleton.mp hx]; exact ht.mono (by decide)
theorem LayD.tRet : LayD 12 tRet := ⟨by kernel_rfl, Nat.le_of_ble_eq_true rfl⟩
theorem LayD.tGo (g : Int) : LayD 12 (tGo g) := ⟨by kernel_rfl, Nat.le_of_ble_eq_true rfl⟩
theorem LayD.tAsB {z : Bool} {g : Int} : LayD 12 (tAs (Mine.cB z) "none" g) ∧ LayD 12 (tAs (Mine.cB z) "over" g) := ⟨⟨by kernel_rfl, Nat.le_of_ble_eq_true rfl⟩, ⟨by kernel_rfl, Nat.le_of_ble_eq_true rfl⟩⟩
theorem LayD.tAs2 {g : Int} : LayD 12 (tAs opC2 "over" g) := ⟨by kernel_rfl, Nat.le_of_ble_eq_true rfl⟩
/-! the keys of what is known -/
def Keys (m : Known) : Prop := (m.map (·.1)).Nodup
theorem find_hit {i j : Int} {v : PyData} {m : Known} (e : i = j) : findI i ((j, v) :: m) = some v := if_pos ((intEq_iff _ _).mpr e)
theorem find_miss {i j : Int} {v : PyData} {m : Known} (e : i ≠ j) : findI i ((j, v) :: m) = findI i m := if_neg (by rw [intEq_ne e]; decide)
theorem find_same {j : Int} {v : PyData} : ∀ {m : Known}, findI j (putI j v m) = some v
  | [] => find_hit rfl
  | (a, x) :: m => by
    unfold putI
    by_cases e : j = a
    · rw [if_pos ((intEq_iff _ _).mpr e)]; exact find_hit e
    · rw [if_neg (by rw [intEq_ne e]; decide), find_miss e]; exact find_same
theorem find_put {i j : Int} {v : PyData} (h : i ≠ j) : ∀ {m : Known}, findI i (putI j v m) = findI i m
  | [] => find_miss h
  | (a, x) :: m => by
    unfold putI
    by_cases e : j = a
    · rw [if_pos ((intEq_iff _ _).mpr e), find_miss (fun z => h (z.trans e.symm)), find_miss (fun z => h (z.trans e.symm))]
    · rw [if_neg (by rw [intEq_ne e]; decide)]
      by_cases e2 : i = a
      · rw [find_hit e2, find_hit e2]
      · rw [find_miss e2, find_miss e2]; exact find_put h
theorem find_none {i : Int} : ∀ {m : Known}, i ∉ m.map (·.1) → findI i m = none
  | [], _ => rfl
  | (a, x) :: m, h => (find_miss fun e => h (List.mem_cons.mpr (.inl e))).trans (find_none fun e => h (List.mem_cons.mpr (.inr e)))
theorem find_gone {j : Int} : ∀ {m : Known}, Keys m → findI j (dropI j m) = none
  | [], _ => rfl
  | (a, x) :: m, h => by
    have h' : a ∉ m.map (·.1) ∧ (m.map (·.1)).Nodup := List.nodup_cons.mp h
    unfold dropI
    by_cases e : j = a
    · rw [if_pos ((intEq_iff _ _).mpr e)]; exact find_none (e ▸ h'.1)
    · rw [if_neg (by rw [intEq_ne e]; decide), find_miss e]; exact find_gone h'.2
theorem find_drop {i j : Int} (h : i ≠ j) : ∀ {m : Known}, findI i (dropI j m) = findI i m
  | [] => rfl
  | (a, x) :: m => by
    unfold dropI
    by_cases e : j = a
    · rw [if_pos ((intEq_iff _ _).mpr e), find_miss fun z => h (z.trans e.symm)]
    · rw [if_neg (by rw [intEq_ne e]; decide)]
      by_cases e2 : i = a
      · rw [find_hit e2, find_hit e2]
      · rw [find_miss e2, find_miss e2]; exact find_drop h
theorem drop_sub {j : Int} : ∀ {m : Known}, ((dropI j m).map (·.1)).Sublist (m.map (·.1))
  | [] => .slnil
  | (a, x) :: m => by
    unfold dropI
    cases intEq j a
    · exact .cons_cons _ drop_sub
    · exact .cons _ (List.Sublist.refl _)
theorem Keys.drop {j : Int} {m : Known} (h : Keys m) : Keys (dropI j m) := h.sublist drop_sub
theorem put_mem {i j : Int} {v : PyData} : ∀ {m : Known}, i ∈ (putI j v m).map (·.1) → i = j ∨ i ∈ m.map (·.1)
  | [], h => .inl (List.mem_singleton.mp h)
  | (a, x) :: m, h => by
    unfold putI at h
    cases q : intEq j a <;> rw [q] at h
    · rcases List.mem_cons.mp h with h | h
      · exact .inr (List.mem_cons.mpr (.inl h))
      · exact (put_mem h).imp_right fun h => List.mem_cons.mpr (.inr h)
    · exact .inr h
theorem Keys.put {j : Int} {v : PyData} : ∀ {m : Known}, Keys m → Keys (putI j v m)
  | [], _ => List.nodup_cons.mpr ⟨List.not_mem_nil, List.nodup_nil⟩
  | (a, x) :: m, h => by
    have h' : a ∉ m.map (·.1) ∧ (m.map (·.1)).Nodup := List.nodup_cons.mp h
    unfold putI
    by_cases e : j = a
    · rw [if_pos ((intEq_iff _ _).mpr e)]; exact h
    · rw [if_neg (by rw [intEq_ne e]; decide)]
      exact List.nodup_cons.mpr ⟨fun z => (put_mem z).elim (fun z => e z.symm) h'.1, Keys.put h'.2⟩
theorem cmp_rel {op : Str} {v : Int} (h : isCmp op) : cmpS op v = relS op v 3 := by
  rcases h with rfl | rfl | rfl | rfl | rfl <;> kernel_rfl
end Mine
end
section
open PySem PySem.W
set_option maxRecDepth 100000
set_option linter.unusedSimpArgs false
set_option linter.unusedSectionVars false
namespace Mine
variable {n : Nat} {h : List O} {k : Str} {lo : Int} {b : Nat} {f kf c bo bl be fo fd fb : Nat}
def IsBlk (x : PyData) : Prop := ∃ xs t, x = .list [.list xs, t] ∧ xs.length ≤ 800
theorem Chain.isBlk {i : Nat} {m : Known} {Ls Ls' : List PyData} {Bs : List (Int × Known)} (r : Chain k lo b i m Ls Ls' Bs) : ∀ x ∈ Ls', IsBlk x := by
  have g : ∀ {m m' : Known} {xs xs' : List PyData}, SRs k lo b m xs xs' m' → m.length + xs.length ≤ 800 → xs'.length ≤ 800 := fun r1 hl => r1.len.1 ▸ Nat.le_trans (Nat.le_add_left _ _) hl
  induction r with
  | last r1 hl => exact fun x hx => ⟨_, _, List.mem_singleton.mp hx, g r1 hl⟩
  | step r1 r2 hl hl' _ ih =>
    intro x hx
    cases hx with
    | head => exact ⟨_, _, rfl, g r1 hl⟩
    | tail _ hx => exact ih x hx
theorem told_comp {all : List PyData} {w : Nat} : ∀ {Ls : List PyData}, (∀ x ∈ Ls, IsBlk x) → ∀ {j : Nat} {x0 x1 x2 x3 : Option V}, all.drop j = Ls →
    compS (R TL (w + 20)) (.lst false [(.callB false .list [(.var 1)]), (.var 2)]) (.many [1, 2]) [] (.vals (all.map .d)) (Ls.length + 1) j [x0, x1, x2, x3] h = some (Ls.map .d, h)
  | [], _, _, _, _, _, _, ha => gE (nV0 (drop_n ha))
  | y :: Ls, hy, _, _, _, _, _, ha => by
    obtain ⟨xs, t, rfl, hl⟩ := hy y (.head _)
    exact gC (nV (drop_c ha).1) rfl (eLi (sc (eK (sc (eV rfl) sn) (kList rfl (Nat.le_trans hl (by decide)))) (sc (eV rfl) sn)) rfl) (told_comp (fun x hx => hy x (.tail _ hx)) (drop_c ha).2)
theorem natOf_nat {n : Nat} (l : n ≤ lim) : natOf (.d (.int (n : Int))) = some n := if_pos (Nat.ble_eq.mpr l)
theorem eSl {ρ : Rho} {a c : E} {h1 h2 : List O} {v w u : V} {N : Nat} (e1 : (R TL n).ev a ρ h = some (v, h1)) (e2 : (R TL n).ev c ρ h1 = some (w, h2)) (e3 : natOf w = some N) (e4 : slcV h2 v none (some N) = some u) : (R TL (n + 1)).ev (.slc a none (some c)) ρ h = some (u, h2) := by
  show (match (R TL n).ev a ρ h with
    | none => none
    | some (x, h) => match (match (R TL n).ev c ρ h with
        | some (v, h) => (match natOf v with | some n => some (some n, h) | none => none)
        | none => none) with
        | none => none
        | some (u, h) => match slcV h x none u with | some v => some (v, h) | none => none) = _
  rw [e1]; dsimp only; rw [e2]; dsimp only; rw [e3]; dsimp only; rw [e4]
theorem slT {v : V} {xs : List PyData} {N : Nat} (e : rd h v = .d (.list xs)) (hl : xs.length ≤ lim) : slcV h v none (some N) = some (.d (.list (xs.take N))) := by
  unfold slcV; rw [e]; show (if short xs then some (V.d (.list (xs.take N))) else none) = _
  rw [sh hl]; rfl
theorem eBs {ρ : Rho} {a c : E} {es : List E} {h1 : List O} {all : Bool} (e : (R TL n).ev a ρ h = some (.d (.bool (!all)), h1)) : (R TL (n + 1)).ev (.bop all (a :: c :: es)) ρ h = some (.d (.bool (!all)), h1) := by
  show bopV (R TL n) all ρ (a :: c :: es) h = _
  unfold bopV; rw [e]; dsimp only
  cases all <;> rfl
theorem eBc {ρ : Rho} {a c : E} {es : List E} {h1 : List O} {all : Bool} {o : Option (V × List O)} (e : (R TL n).ev a ρ h = some (.d (.bool all), h1)) (e2 : bopV (R TL n) all ρ (c :: es) h1 = o) : bopV (R TL n) all ρ (a :: c :: es) h = o := by
  conv => lhs; unfold bopV
  rw [e]; dsimp only
  cases all <;> exact e2
theorem eBl {ρ : Rho} {a : E} {all : Bool} {o : Option (V × List O)} (e : (R TL n).ev a ρ h = o) : bopV (R TL n) all ρ [a] h = o := e
theorem eBo {ρ : Rho} {es : List E} {all : Bool} {o : Option (V × List O)} (e : bopV (R TL n) all ρ es h = o) : (R TL (n + 1)).ev (.bop all es) ρ h = o := e
theorem kTr {fn : Fn} {a b : Nat} {vs : List V} {ρ ρ' : Rho} {h' t : List O} {x : PyData} (e : findN a TL.funs = some fn) (e0 : bindArgs fn vs = some ρ) (l : h'.length = h.length) (ok : OkH h') (e1 : exs (R TL n) fn.body ⟨h.length, h, ρ⟩ = some (.ret (.d x), ⟨b, h' ++ t, ρ'⟩)) : (R TL (n + 1)).call a vs h = some (.d x, h') := by
  show (match findN a TL.funs with | some fn => run (R TL n) fn vs h | none => none) = _
  rw [e]; dsimp only; unfold run; rw [e0]; dsimp only; rw [e1]; dsimp only; unfold back; dsimp only
  rw [← l, undH_app (Nat.le_refl _), show undH h'.length h'.length h' = true from ok, List.take_left' rfl]; rfl
section
variable {Bl Du Ls' rows : List PyData} {Bs : List (Int × Known)} (K : isKind k lo b) (r : Chain k lo b 0 [] (Bl ++ [.list [.list rows, tRet]]) Ls' Bs) (hb : h[bo]? = some (bodyO k bl)) (hbl : h[bl]? = some (.list Bl)) (hh : OkH h) (hl : Bl.length ≤ 50) (hr : rows.length ≤ 700)
  (hd : Ls'.take Du.length = Du) (hy : ∀ x ∈ Ls', LayD 14 x)
include K r hb hbl hh hl hr hd hy
theorem c482_go {args : List V} {v2 v3 : V} (ba : bindArgs fn_482 args = some [some (.loc bo), some (.d (.list Du)), some v2, some v3, none, none, none, none, none]) (l3 : callB h false .list [v3] = some (.d (.list rows), h))
    (fin : ∀ {h' : List O}, h'.length = h.length → (R TL (n + 258)).ev (.bop false [(.cmp .Is (.var 2) (.lit .none)), (.cmp .Eq (.sub (.sub (.var 5) (.var 4)) (.lit (.int (0)))) (.callB false .list [(.var 3)]))]) [some (.loc bo), some (.d (.list Du)), some v2, some v3, some (.d (.int Bl.length)), some (.loc (h'.length + 3)), none, none, none] (h' ++ wcT k bo h'.length Bs Ls') = some (.d (.bool true), h' ++ wcT k bo h'.length Bs Ls')) :
    (R TL (n + 260)).call 482 args h = some (.d (.bool true), h.set bl (.list (Bl ++ [.list [.list rows, tRet]]))) := by
  have D' : BlkAt (h.set bl (.list (Bl ++ [.list [.list rows, tRet]]))) bl (Bl ++ [.list [.list rows, tRet]]) := ⟨get_self hbl, by rw [List.length_append]; exact Nat.le_trans (Nat.succ_le_succ hl) (by decide)⟩
  have o' : OkH (h.set bl (.list (Bl ++ [.list [.list rows, tRet]]))) := hh.set rfl
  have hb' := get_ne (z := .list (Bl ++ [.list [.list rows, tRet]])) hb (at_ne hbl hb ne_la)
  have lB : Bl.length ≤ lim := Nat.le_trans hl (by decide)
  have hlen := r.asc.2.2.1
  rw [List.length_append] at hlen
  have hlen' : Ls'.length = Bl.length + 1 := hlen
  have lL : Ls'.length ≤ lim := hlen' ▸ Nat.le_trans (Nat.succ_le_succ hl) (by decide)
  have mem : ∀ {x}, x ∈ Du → x ∈ Ls' := fun hx => List.mem_of_mem_take (hd ▸ hx)
  have lD : Du.length ≤ lim := by rw [← hd, List.length_take]; exact Nat.le_trans (Nat.min_le_right _ _) lL
  have lay := layAll (n := 14) (xs := Du) fun x hx => hy x (mem hx)
  have ly : Mine.lay (.list Du) = true := LayD.lay (n := 15) (LayD.list fun x hx => hy x (mem hx)) (by decide)
  refine kTr at_482 ba set_len o' (xA (eK (sc (eA (eV rfl) (aV hb rfl)) sn) (kLen (rdL hbl) lB)) (xE (eMB (eA (eV rfl) (aV hb rfl)) (sc (eLi (sc (eK (sc (eV rfl) sn) l3) (sc (eT (sc eL sn) rfl) sn)) rfl) sn) (skL hbl hbl) (mApp hbl lB))
    (xA (eA (eF (c407 K r hb' D' o' (by rw [List.length_append]; exact Nat.le_trans (Nat.succ_le_succ hl) (by decide))) (sc (eV rfl) sn)) (aV get_at rfl))
      (xF0 (tE rfl (eC (eCo (eSl (eV rfl) (eK (sc (eV rfl) sn) (kLen rfl lD)) (natOf_nat lD) ((slT (rdL get_at) lL).trans (by rw [hd]))) (srcL' lD) (told_comp (fun x hx => r.isBlk x (mem hx)) rfl) (by unfold mkList; rw [allD_map]; rfl)) (eV rfl) (cNq (x := .list Du) (y := .list Du) (q := true) rfl rfl (by rw [ly]; rfl) (deqs_refl _ lay.1))))
        (xR (fin set_len))))))
theorem c482a : (R TL (n + 260)).call 482 [.loc bo, .d (.list Du), .d .none, .d (.list rows)] h = some (.d (.bool true), h.set bl (.list (Bl ++ [.list [.list rows, tRet]]))) :=
  c482_go K r hb hbl hh hl hr hd hy rfl (kList rfl (Nat.le_trans hr (by decide))) fun _ => eBs (eC (eV rfl) eL rfl)
theorem c482b {v : Int} (hrow : rows = []) (hL : Ls' = Du ++ [.list [.list [], tRet]]) : (R TL (n + 260)).call 482 [.loc bo, .d (.list Du), .d (.int v)] h = some (.d (.bool true), h.set bl (.list (Bl ++ [.list [.list rows, tRet]]))) := by
  have hlen := r.asc.2.2.1
  rw [List.length_append, hL, List.length_append] at hlen
  refine c482_go K r hb hbl hh hl hr hd hy rfl (by rw [hrow]; rfl) fun {h'} _ => ?_
  refine eBo (eBc (eC (eV rfl) eL rfl) (eBl (eC (eS (eS (eV rfl) (eV rfl) (uL get_at (aL (x := .list [.list [], tRet]) ?_ ?_))) eL rfl) (eK (sc (eV rfl) sn) rfl) (by kernel_rfl))))
  · rw [hL]; exact get_mid (Nat.succ.inj hlen)
  · rw [hL, List.length_append]; exact Nat.le_trans (Nat.le_of_eq hlen) (Nat.le_trans (Nat.succ_le_succ hl) (by decide))
end
end Mine
end
section
open PySem PySem.W
set_option maxRecDepth 100000
set_option linter.unusedSimpArgs false
set_option linter.unusedSectionVars false
namespace Mine
variable {n : Nat} {h : List O} {k : Str} {lo : Int} {b : Nat} {s bo bl du : Nat} {Bl Du : List PyData}
theorem c147b : (R TL (n + 30)).call 147 [.loc h.length, .d (.str "f"), .d (.int 0), .d (.list (localsL k))] (h ++ [.attrs 193 []]) = some (.d .none, h ++ [bodyO k (h.length + 1), .list []]) := by
  refine kK at_147 rfl ?_ (xSA (eV rfl) (eV rfl) (vAt0 rfl rfl) (xSA (eV rfl) (eV rfl) (vAt0 rfl rfl) (xSA (eK (sc (eV rfl) sn) (kList rfl (Nat.le_of_ble_eq_true rfl))) (eV rfl) (vAt0 rfl rfl)
    (xSA (eIt0 (tE rfl (eC (eV rfl) eL rfl)) (eLx sn newO)) (eV rfl) (vAt0 rfl rfl) (xSA (eIt0 (tE rfl (eC (eV rfl) eL rfl)) (eD pn rfl)) (eV rfl) (vAt0 rfl rfl) x0))))) rfl
  rw [List.length_append]
  show undH (h.length + 1) (h.length + 1) (h ++ [bodyO k (h.length + 1), .list []]) = false
  rw [undH_split]
  show (_ && ((Nat.blt (h.length + 1) (h.length + 1) && _) && true)) = false
  rw [blt_self]; exact Bool.and_false _
/-- how the row stands in the heap -/
structure Row (h : List O) (s bo bl du : Nat) (k : Str) (Bl Du : List PyData) : Prop where
  src : Src h s
  bod : h[bo]? = some (bodyO k bl)
  blk : h[bl]? = some (.list Bl)
  due : h[du]? = some (.list Du)
  ok : OkH h
  n1 : s ≠ bl
  n2 : s ≠ du
  n3 : bl ≠ du
theorem get_set {i j : Nat} {o o' z : O} (e : h[i]? = some o) (e' : h[j]? = some o') (hne : i ≠ j) : (h.set j z)[i]? = some o := get_ne e hne.symm
theorem Row.bne (w : Row h s bo bl du k Bl Du) : bo ≠ bl ∧ bo ≠ du ∧ bo ≠ s := by
  obtain ⟨big, mixed, hs, _⟩ := w.src
  exact ⟨at_ne w.bod w.blk ne_la.symm, at_ne w.bod w.due ne_la.symm, at_ne w.bod hs ne_la.symm⟩
theorem Row.setS (w : Row h s bo bl du k Bl Du) {big mixed : Int} (a : 0 ≤ mixed) (c : mixed < 2147483647) : Row (h.set s (srcL big mixed)) s bo bl du k Bl Du := by
  obtain ⟨_, _, hs, _⟩ := w.src
  exact ⟨w.src.set a c, get_set w.bod hs w.bne.2.2, get_set w.blk hs w.n1.symm, get_set w.due hs w.n2.symm, w.ok.set rfl, w.n1, w.n2, w.n3⟩
theorem Row.setBl (w : Row h s bo bl du k Bl Du) (Bl' : List PyData) : Row (h.set bl (.list Bl')) s bo bl du k Bl' Du := by
  obtain ⟨big, mixed, hs, m0, m1⟩ := w.src
  exact ⟨⟨big, mixed, get_set hs w.blk w.n1, m0, m1⟩, get_set w.bod w.blk w.bne.1, get_self w.blk, get_set w.due w.blk w.n3.symm, w.ok.set rfl, w.n1, w.n2, w.n3⟩
theorem Row.setDu (w : Row h s bo bl du k Bl Du) (Du' : List PyData) : Row (h.set du (.list Du')) s bo bl du k Bl Du' := by
  obtain ⟨big, mixed, hs, m0, m1⟩ := w.src
  exact ⟨⟨big, mixed, get_set hs w.due w.n2, m0, m1⟩, get_set w.bod w.due w.bne.2.1, get_set w.blk w.due w.n3, get_self w.due, w.ok.set rfl, w.n1, w.n2, w.n3⟩
theorem Row.new (hs : Src h s) (hh : OkH h) (k : Str) : Row (h ++ [bodyO k (h.length + 1), .list [], .list []]) s h.length (h.length + 1) (h.length + 2) k [] [] := by
  obtain ⟨big, mixed, h0, m0, m1⟩ := hs
  have hl := (List.getElem?_eq_some_iff.mp h0).1
  refine ⟨⟨big, mixed, get_app h0, m0, m1⟩, get_at0, get_at, get_at, hh.app ?_, Nat.ne_of_lt (Nat.lt_succ_of_lt hl), Nat.ne_of_lt (Nat.lt_succ_of_lt (Nat.lt_succ_of_lt hl)), Nat.ne_of_lt (Nat.lt_succ_self _)⟩
  show ((Nat.blt (h.length + 1) (h.length + 3) && true) && true) = true
  rw [Nat.blt_eq.mpr (Nat.lt_succ_of_lt (Nat.lt_succ_self _))]; rfl
noncomputable abbrev rho (s bo du : Nat) (k : Str) (v : Int) (rows dues : List PyData) (x11 x12 x13 x14 x15 x16 x17 x18 x19 x20 x21 x22 x23 : Option V) (rest : List (Option V)) : List (Option V) :=
  some (.loc s) :: some (.d (.str k)) :: some (.d (tI k)) :: some (.d tB) :: some (.d (tI "i32")) :: some (.loc bo) :: some (.d opX) :: some (.d (.int v)) :: some (.d (.list rows)) :: some (.loc du) :: some (.d (.list dues)) ::
    x11 :: x12 :: x13 :: x14 :: x15 :: x16 :: x17 :: x18 :: x19 :: x20 :: x21 :: x22 :: x23 :: rest
noncomputable abbrev none12 : List (Option V) := [none, none, none, none, none, none, none, none, none, none, none, none]
noncomputable def rowHead : List S := [(.asg 1 (.callF 435 [(.var 0), (.lst false [(.lit (.str "u8")), (.lit (.str "i8")), (.lit (.str "i32")), (.lit (.str "u64"))])])),
    (.unp true [2, 3, 4] (.tup [(.tup [(.lit (.str "int")), (.var 1)]), (.tup [(.lit (.str "bool"))]), (.tup [(.lit (.str "int")), (.lit (.str "i32"))])])),
    (.asg 5 (.callC 193 [(.lit (.str "f")), (.lit (.int (0))), (.comp false (.tup [(.var 1), (.lit (.bool true)), (.lit .none)]) (.one 1) (.lst false [(.var 2), (.var 2), (.tup [(.lit (.str "tuple")), (.tup [(.var 2), (.var 3)])]), (.var 3), (.var 4)]) [] [none, none])])),
    (.unp true [6, 7] (.tup [(.tup [(.lit (.str "copy")), (.tup [(.lit (.int (1))), (.tup [])])]), (.callF 463 [(.var 0), (.var 1)])])),
    (.unp true [8, 9] (.tup [(.lst false [(.tup [(.lit (.str "assign")), (.tup [(.lit (.int (1))), (.tup [])]), (.tup [(.lit (.str "use")), (.tup [(.lit (.str "const")), (.var 2), (.var 7)])])])]), (.lst true [])])),
    (.asg 10 (.callB false .list [(.var 8)]))]
theorem eNewN {ρ : Rho} {h1 h2 : List O} {vs : List V} {C N : Nat} {k : Cl} {es : List E} (hN : h1.length = N) (e5 : findN C TL.clss = some k) (e1 : evs (R TL n) ρ es h = some (vs, h1)) (e2 : (R TL n).call k.init (.loc N :: vs) (h1 ++ [.attrs C []]) = some (.d .none, h2)) : (R TL (n + 1)).ev (.callC C es) ρ h = some (.loc N, h2) := by
  subst hN; exact eNew e5 e1 e2
theorem eLmN {ρ : Rho} {h1 : List O} {vs : List V} {N : Nat} {es : List E} {xs : List PyData} (hN : h1.length = N) (e1 : evs (R TL n) ρ es h = some (vs, h1)) (e2 : allD vs = some xs) : (R TL (n + 1)).ev (.lst true es) ρ h = some (.loc N, h1 ++ [.list xs]) := by
  subst hN; exact eLm e1 e2
theorem row_head (hs : Src h s) (hh : OkH h) : ∃ k lo b v h', isKind k lo b ∧ Row h' s h.length (h.length + 1) (h.length + 2) k [] [] ∧ h'.length = h.length + 3 ∧
    ∀ n b0, exs (R TL (n + 100)) rowHead ⟨b0, h, some (.loc s) :: none :: none :: none :: none :: none :: none :: none :: none :: none :: none :: none :: none :: none :: none :: none :: none :: none :: none :: none :: none :: none :: none :: none :: none12⟩ =
      some (.next, ⟨b0, h', rho s h.length (h.length + 2) k v [sAsg 1 (rUse (cI k v))] [sAsg 1 (rUse (cI k v))] none none none none none none none none none none none none none none12⟩) := by
  obtain ⟨x, big1, mixed1, hx, m0, m1, e1⟩ := c435 (xs := [.str "u8", .str "i8", .str "i32", .str "u64"]) hs (Nat.le_of_ble_eq_true rfl) (Nat.le_of_ble_eq_true rfl)
  have hx' : ∃ k lo b, x = .str k ∧ isKind k lo b := by
    rcases List.mem_cons.mp hx with rfl | hx
    · exact ⟨_, _, _, rfl, .inl ⟨rfl, rfl, rfl⟩⟩
    rcases List.mem_cons.mp hx with rfl | hx
    · exact ⟨_, _, _, rfl, .inr (.inl ⟨rfl, rfl, rfl⟩)⟩
    rcases List.mem_cons.mp hx with rfl | hx
    · exact ⟨_, _, _, rfl, .inr (.inr (.inl ⟨rfl, rfl, rfl⟩))⟩
    · exact ⟨_, _, _, List.mem_singleton.mp hx, .inr (.inr (.inr ⟨rfl, rfl, rfl⟩))⟩
  obtain ⟨k, lo, b, rfl, K⟩ := hx'
  have s1 : Src (h.set s (srcL big1 mixed1)) s := hs.set m0 m1
  have s2 : Src (h.set s (srcL big1 mixed1) ++ [bodyO k (h.length + 1), .list []]) s := by
    obtain ⟨a, c, d, e⟩ := s1
    exact ⟨a, c, get_app d, e⟩
  obtain ⟨v, big2, mixed2, sv, m2, m3, e3⟩ := c463 s2 K
  have hsl : s < (h.set s (srcL big1 mixed1)).length := by
    obtain ⟨_, _, d, _⟩ := s1
    exact (List.getElem?_eq_some_iff.mp d).1
  rw [List.set_append_left _ _ hsl, List.set_set] at e3
  have w := Row.new (hs.set (big := big2) m2 m3) (hh.set rfl) k
  rw [set_len] at w
  refine ⟨k, lo, b, v, _, K, w, List.length_append.trans (congrArg (· + 3) set_len), fun n b0 => ?_⟩
  refine xA (eF (e1 _) rfl) (xU (v := .d (.tuple [tI k, tB, tI "i32"])) (h1 := h.set s (srcL big1 mixed1)) (by kernel_rfl) rfl
    (xA (eNewN set_len cls193 (sc eL (sc eL (sc (e0 (.d (.list (localsL k))) (by kernel_rfl)) sn))) (h2 := h.set s (srcL big1 mixed1) ++ [bodyO k (h.length + 1), .list []]) ?_)
      (xU (eT (sc (e0 (.d opX) (by kernel_rfl)) (sc (eF (e3 _) (sc (eV rfl) (sc (eV rfl) sn))) sn)) rfl) rfl
        (xU (eTm (sc (e0 (.d (.list [sAsg 1 (rUse (cI k v))])) (by kernel_rfl)) (sc (eLmN (List.length_append.trans (congrArg (· + 2) set_len)) sn rfl) sn)) rfl) rfl
          (xA (eK (sc (eV rfl) sn) (kList rfl (Nat.le_of_ble_eq_true rfl))) ?_)))))
  · have := c147b (n := n + 68) (h := h.set s (srcL big1 mixed1)) (k := k)
    rw [set_len] at this
    exact this
  · rw [List.append_assoc]; exact x0
end Mine
end
section
open PySem PySem.W
set_option maxRecDepth 100000
set_option linter.unusedSimpArgs false
set_option linter.unusedSectionVars false
namespace Mine
variable {n : Nat} {h : List O} {k : Str} {lo : Int} {b : Nat} {s bo bl du : Nat} {Bl Du : List PyData}
theorem exs_app {r : Rec} {ss' : List S} {st' : St} : ∀ {ss : List S} {st : St}, exs r ss st = some (.next, st') → exs r (ss ++ ss') st = exs r ss' st'
  | [], st, e => by
    have : some (Fl.next, st) = some (Fl.next, st') := e
    cases this; rfl
  | x :: ss, st, e => by
    unfold exs at e
    show exs r (x :: (ss ++ ss')) st = _
    conv => lhs; unfold exs
    cases q : r.ex x st with
    | none => rw [q] at e; cases e
    | some p =>
      obtain ⟨fl, st1⟩ := p
      rw [q] at e
      cases fl with
      | next => exact exs_app e
      | ret v => cases e
theorem exs_ret {r : Rec} {ss' : List S} {v : V} {st' : St} : ∀ {ss : List S} {st : St}, exs r ss st = some (.ret v, st') → exs r (ss ++ ss') st = some (.ret v, st')
  | [], st, e => by cases e
  | x :: ss, st, e => by
    unfold exs at e
    show exs r (x :: (ss ++ ss')) st = _
    conv => lhs; unfold exs
    cases q : r.ex x st with
    | none => rw [q] at e; cases e
    | some p =>
      obtain ⟨fl, st1⟩ := p
      rw [q] at e
      cases fl with
      | next => exact exs_ret e
      | ret v => exact e
noncomputable def sgA : List S := [(.unp true [12, 13] (.tup [(.callF 435 [(.var 0), (.lst false [(.lit (.str "+")), (.lit (.str "-")), (.lit (.str "*")), (.lit (.str "/")), (.lit (.str "%")), (.lit (.str "<<")), (.lit (.str ">>"))])]), (.callF 463 [(.var 0), (.var 1)])]))]
theorem row_A (w : Row h s bo bl du k Bl Du) (K : isKind k lo b) : ∃ op o h', isOp op ∧ small o = true ∧ Row h' s bo bl du k Bl Du ∧ h'.length = h.length ∧
    ∀ n b0 v rows dues x11 x12 x13 x14 x15 x16 x17 x18 x19 x20 x21 x22 x23 rest, exs (R TL (n + 100)) sgA ⟨b0, h, rho s bo du k v rows dues x11 x12 x13 x14 x15 x16 x17 x18 x19 x20 x21 x22 x23 rest⟩ =
      some (.next, ⟨b0, h', rho s bo du k v rows dues x11 (some (.d (.str op))) (some (.d (.int o))) x14 x15 x16 x17 x18 x19 x20 x21 x22 x23 rest⟩) := by
  obtain ⟨x, big1, mixed1, hx, m0, m1, e1⟩ := c435 (xs := [.str "+", .str "-", .str "*", .str "/", .str "%", .str "<<", .str ">>"]) w.src (Nat.le_of_ble_eq_true rfl) (Nat.le_of_ble_eq_true rfl)
  have hx' : ∃ op, x = .str op ∧ isOp op := by
    rcases List.mem_cons.mp hx with rfl | hx
    · exact ⟨_, rfl, .inl rfl⟩
    rcases List.mem_cons.mp hx with rfl | hx
    · exact ⟨_, rfl, .inr (.inl rfl)⟩
    rcases List.mem_cons.mp hx with rfl | hx
    · exact ⟨_, rfl, .inr (.inr (.inl rfl))⟩
    rcases List.mem_cons.mp hx with rfl | hx
    · exact ⟨_, rfl, .inr (.inr (.inr (.inl rfl)))⟩
    rcases List.mem_cons.mp hx with rfl | hx
    · exact ⟨_, rfl, .inr (.inr (.inr (.inr (.inl rfl))))⟩
    rcases List.mem_cons.mp hx with rfl | hx
    · exact ⟨_, rfl, .inr (.inr (.inr (.inr (.inr (.inl rfl)))))⟩
    · exact ⟨_, List.mem_singleton.mp hx, .inr (.inr (.inr (.inr (.inr (.inr rfl)))))⟩
  obtain ⟨op, rfl, hop⟩ := hx'
  have w1 := w.setS (big := big1) m0 m1
  obtain ⟨o, big2, mixed2, so, m2, m3, e2⟩ := c463 w1.src K
  have w2 := w1.setS (big := big2) m2 m3
  exact ⟨op, o, _, hop, so, w2, set_len.trans set_len, fun n b0 v rows dues x11 x12 x13 x14 x15 x16 x17 x18 x19 x20 x21 x22 x23 rest => xU (eT (sc (eF (e1 _) rfl) (sc (eF (e2 _) (sc (eV rfl) (sc (eV rfl) sn))) sn)) rfl) rfl x0⟩
noncomputable abbrev sEq (k : Str) (o : Int) : PyData := sAsg 3 (rBin "==" (cI k o) (cI k 0))
noncomputable def sgB : List S := [(.asg 14 (.tup [(.lit (.str "const")), (.var 2), (.var 13)])),
    (.asg 8 (.bin .Add (.var 8) (.lst false [(.tup [(.lit (.str "assign")), (.tup [(.lit (.int (3))), (.tup [])]), (.tup [(.lit (.str "binary")), (.lit (.str "==")), (.var 14), (.tup [(.lit (.str "const")), (.var 2), (.lit (.int (0)))])])])])))]
theorem row_B {v o : Int} {op : Str} {rows dues : List PyData} {b0 : Nat} {x11 x14 x15 x16 x17 x18 x19 x20 x21 x22 x23 : Option V} {rest : List (Option V)} (hr : rows.length ≤ 100) : exs (R TL (n + 100)) sgB ⟨b0, h, rho s bo du k v rows dues x11 (some (.d (.str op))) (some (.d (.int o))) x14 x15 x16 x17 x18 x19 x20 x21 x22 x23 rest⟩ =
      some (.next, ⟨b0, h, rho s bo du k v (rows ++ [sEq k o]) dues x11 (some (.d (.str op))) (some (.d (.int o))) (some (.d (cI k o))) x15 x16 x17 x18 x19 x20 x21 x22 x23 rest⟩) := by
  exact xA0 (.d (cI k o)) (by kernel_rfl) (xA (eB (eV rfl) (e0 (.d (.list [sEq k o])) (by kernel_rfl)) (bApp rfl rfl (Nat.le_trans hr (by decide)) (Nat.le_of_ble_eq_true rfl))) x0)
noncomputable def isN (op : Str) (o : Int) : Bool := (decide (op = "/") || decide (op = "%")) && decide (o = 0)
noncomputable def sgB2 : List S := [(.asg 15 (.bop true [(.cmp .In (.var 12) (.lst false [(.lit (.str "/")), (.lit (.str "%"))])), (.cmp .Eq (.var 13) (.lit (.int (0))))]))]
theorem row_B2 {v o : Int} {op : Str} {rows dues : List PyData} {b0 : Nat} {x11 x14 x15 x16 x17 x18 x19 x20 x21 x22 x23 : Option V} {rest : List (Option V)} (hop : isOp op) : exs (R TL (n + 100)) sgB2 ⟨b0, h, rho s bo du k v rows dues x11 (some (.d (.str op))) (some (.d (.int o))) x14 x15 x16 x17 x18 x19 x20 x21 x22 x23 rest⟩ =
      some (.next, ⟨b0, h, rho s bo du k v rows dues x11 (some (.d (.str op))) (some (.d (.int o))) x14 (some (.d (.bool (isN op o)))) x16 x17 x18 x19 x20 x21 x22 x23 rest⟩) := by
  have f : ∀ {op}, isN op o = false → cmpV h .In (.d (.str op)) (.d (.list [.str "/", .str "%"])) = some (.d (.bool false)) → exs (R TL (n + 100)) sgB2 ⟨b0, h, rho s bo du k v rows dues x11 (some (.d (.str op))) (some (.d (.int o))) x14 x15 x16 x17 x18 x19 x20 x21 x22 x23 rest⟩ =
      some (.next, ⟨b0, h, rho s bo du k v rows dues x11 (some (.d (.str op))) (some (.d (.int o))) x14 (some (.d (.bool (isN op o)))) x16 x17 x18 x19 x20 x21 x22 x23 rest⟩) := fun z q => by
    rw [z]; exact xA (eBs (eC (eV rfl) (eLi (sc eL (sc eL sn)) rfl) q)) x0
  have g : ∀ {op}, isN op o = decide (o = 0) → cmpV h .In (.d (.str op)) (.d (.list [.str "/", .str "%"])) = some (.d (.bool true)) → exs (R TL (n + 100)) sgB2 ⟨b0, h, rho s bo du k v rows dues x11 (some (.d (.str op))) (some (.d (.int o))) x14 x15 x16 x17 x18 x19 x20 x21 x22 x23 rest⟩ =
      some (.next, ⟨b0, h, rho s bo du k v rows dues x11 (some (.d (.str op))) (some (.d (.int o))) x14 (some (.d (.bool (isN op o)))) x16 x17 x18 x19 x20 x21 x22 x23 rest⟩) := fun z q => by
    rw [z]; exact xA (eBo (eBc (eC (eV rfl) (eLi (sc eL (sc eL sn)) rfl) q) (eBl (eC (eV rfl) eL cI1)))) x0
  rcases hop with rfl | rfl | rfl | rfl | rfl | rfl | rfl
  · exact f rfl (by kernel_rfl)
  · exact f rfl (by kernel_rfl)
  · exact f rfl (by kernel_rfl)
  · exact g rfl (by kernel_rfl)
  · exact g rfl (by kernel_rfl)
  · exact f rfl (by kernel_rfl)
  · exact f rfl (by kernel_rfl)
noncomputable def sgC : List S := [(.expr (.methB .append (.attr (.var 5) "blocks") [(.lst false [(.var 8), (.tup [(.lit (.str "assert")), (.tup [(.lit (.str "copy")), (.tup [(.lit (.int (3))), (.tup [])])]), (.lit (.bool false)), (.lit (.str "none")), (.bin .Add (.callB false .len [(.attr (.var 5) "blocks")]) (.lit (.int (1))))])])])),
    (.asg 10 (.bin .Add (.var 10) (.lst false [(.tup [(.lit (.str "assign")), (.tup [(.lit (.int (3))), (.tup [])]), (.tup [(.lit (.str "use")), (.tup [(.lit (.str "const")), (.var 3), (.cmp .Eq (.var 13) (.lit (.int (0))))])])])]))),
    (.asg 16 (.callB false .len [(.attr (.var 5) "blocks")]))]
theorem row_C (w : Row h s bo bl du k Bl Du) {v o : Int} {op : Str} {rows dues : List PyData} {b0 : Nat} {x11 x14 x15 x16 x17 x18 x19 x20 x21 x22 x23 : Option V} {rest : List (Option V)} (hr : dues.length ≤ 100) (hb : Bl.length ≤ 100) : exs (R TL (n + 100)) sgC ⟨b0, h, rho s bo du k v rows dues x11 (some (.d (.str op))) (some (.d (.int o))) x14 x15 x16 x17 x18 x19 x20 x21 x22 x23 rest⟩ =
      some (.next, ⟨b0, h.set bl (.list (Bl ++ [.list [.list rows, tAs opC3 "none" ((Bl.length : Int) + 1)]])), rho s bo du k v rows (dues ++ [sAsg 3 (rUse (cB (decide (o = 0))))]) x11 (some (.d (.str op))) (some (.d (.int o))) x14 x15 (some (.d (.int ((Bl.length : Int) + 1)))) x17 x18 x19 x20 x21 x22 x23 rest⟩) := by
  have q2 : Bl.length ≤ lim := Nat.le_trans hb (by decide)
  have a4 := get_set (z := .list (Bl ++ [.list [.list rows, tAs opC3 "none" ((Bl.length : Int) + 1)]])) w.bod w.blk w.bne.1
  exact xE (eMB (eA (eV rfl) (aV w.bod rfl)) (sc (eLi (sc (eV rfl) (sc (eT (sc eL (sc (e0 (.d opC3) (by kernel_rfl)) (sc eL (sc eL (sc (eB (eK (sc (eA (eV rfl) (aV w.bod rfl)) sn) (kLen (rdL w.blk) q2)) eL rfl) sn))))) rfl) sn)) rfl) sn) (skL w.blk w.blk) (mApp w.blk q2))
    (xA (eB (eV rfl) (eLi (sc (eT (sc eL (sc (e0 (.d (pl 3)) (by kernel_rfl)) (sc (eT (sc eL (sc (eT (sc eL (sc (eV rfl) (sc (eC (eV rfl) eL cI1) sn))) rfl) sn)) rfl) sn))) rfl) sn) rfl) (bApp rfl rfl (Nat.le_trans hr (by decide)) (Nat.le_of_ble_eq_true rfl)))
      (xA (eK (sc (eA (eV rfl) (aV a4 rfl)) sn) ((kLen (rdL (get_self w.blk)) (by rw [List.length_append]; exact Nat.le_trans (Nat.succ_le_succ hb) (by decide))).trans (by rw [List.length_append]; rfl))) x0))
end Mine
end
section
open PySem PySem.W
set_option maxRecDepth 100000
set_option linter.unusedSimpArgs false
set_option linter.unusedSectionVars false
namespace Mine
variable {n : Nat} {h : List O} {k : Str} {lo : Int} {b : Nat} {s bo bl du : Nat} {Bl Du : List PyData}
variable {v o g : Int} {op : Str} {rows dues : List PyData} {b0 : Nat} {x11 x12 x13 x14 x15 x16 x17 x18 x19 x20 x21 x22 x23 : Option V} {rest : List (Option V)}
noncomputable def endN (o g : Int) : PyData := if o = 0 then tAs (cB true) "none" g else tGo g
noncomputable def sgD : List S := [(.asg 17 (.ite (.cmp .NotEq (.var 13) (.lit (.int (0)))) (.tup [(.lit (.str "goto")), (.var 16)]) (.tup [(.lit (.str "assert")), (.tup [(.lit (.str "const")), (.var 3), (.lit (.bool true))]), (.lit (.bool false)), (.lit (.str "none")), (.var 16)]))),
    (.expr (.methB .append (.var 9) [(.lst false [(.var 10), (.var 17)])]))]
theorem row_D (w : Row h s bo bl du k Bl Du) (hd : Du.length ≤ 100) : exs (R TL (n + 100)) sgD ⟨b0, h, rho s bo du k v rows dues x11 x12 (some (.d (.int o))) x14 x15 (some (.d (.int g))) x17 x18 x19 x20 x21 x22 x23 rest⟩ =
      some (.next, ⟨b0, h.set du (.list (Du ++ [.list [.list dues, endN o g]])), rho s bo du k v rows dues x11 x12 (some (.d (.int o))) x14 x15 (some (.d (.int g))) (some (.d (endN o g))) x18 x19 x20 x21 x22 x23 rest⟩) := by
  have q2 : Du.length ≤ lim := Nat.le_trans hd (by decide)
  have g : (R TL (n + 99)).ev (.ite (.cmp .NotEq (.var 13) (.lit (.int (0)))) (.tup [(.lit (.str "goto")), (.var 16)]) (.tup [(.lit (.str "assert")), (.tup [(.lit (.str "const")), (.var 3), (.lit (.bool true))]), (.lit (.bool false)), (.lit (.str "none")), (.var 16)])) (rho s bo du k v rows dues x11 x12 (some (.d (.int o))) x14 x15 (some (.d (.int g))) x17 x18 x19 x20 x21 x22 x23 rest) h = some (.d (endN o g), h) := by
    unfold endN
    by_cases h0 : o = 0
    · rw [if_pos h0]; exact eIf0 (tE rfl (eC (eV rfl) eL (cN1.trans (by rw [decide_eq_true h0]; rfl)))) (e0 (.d (tAs (cB true) "none" g)) (by kernel_rfl))
    · rw [if_neg h0]; exact eIt0 (tE rfl (eC (eV rfl) eL (cN1.trans (by rw [decide_eq_false h0]; rfl)))) (e0 (.d (tGo g)) (by kernel_rfl))
  exact xA g (xE (eMB (eV rfl) (sc (eLi (sc (eV rfl) (sc (eV rfl) sn)) rfl) sn) (skL w.due w.due) (mApp w.due q2)) x0)
theorem c442z {a : Int} (K : isKind k lo b) (hop : op = "/" ∨ op = "%") : (R TL (n + 60)).call 442 [.d (.str k), .d (.str op), .d (.int a), .d (.int 0)] h = some (.d .none, h) := by
  exact kD at_442 rfl (xTr0 (by rcases hop with rfl | rfl <;> kernel_rfl) (xTr0 (by kernel_rfl) (xR eL)))
noncomputable abbrev sChk (k op : Str) (a : PyData) (o : Int) : PyData := sAsg 2 (rChk op a (cI k o))
noncomputable def sgE : List S := [(.asg 18 (.callF 442 [(.var 1), (.var 12), (.var 7), (.var 13)])),
    (.asg 19 (.tup [(.lit (.str "assign")), (.tup [(.lit (.int (2))), (.tup [])]), (.tup [(.lit (.str "checked")), (.var 12), (.var 6), (.var 14)])]))]
theorem row_E {W : PyData} (e : ∀ n, (R TL (n + 60)).call 442 [.d (.str k), .d (.str op), .d (.int v), .d (.int o)] h = some (.d W, h)) : exs (R TL (n + 100)) sgE ⟨b0, h, rho s bo du k v rows dues x11 (some (.d (.str op))) (some (.d (.int o))) (some (.d (cI k o))) x15 x16 x17 x18 x19 x20 x21 x22 x23 rest⟩ =
      some (.next, ⟨b0, h, rho s bo du k v rows dues x11 (some (.d (.str op))) (some (.d (.int o))) (some (.d (cI k o))) x15 x16 x17 (some (.d W)) (some (.d (sChk k op opX o))) x20 x21 x22 x23 rest⟩) := by
  exact xA (eF (e _) rfl) (xA0 (.d (sChk k op opX o)) (by kernel_rfl) x0)
noncomputable def sgF : List S := [(.expr (.methB .append (.attr (.var 5) "blocks") [(.lst false [(.lst false [(.var 19)]), (.tup [(.lit (.str "assert")), (.tup [(.lit (.str "copy")), (.tup [(.lit (.int (2))), (.tup [(.tup [(.lit (.str "field")), (.lit (.int (1)))])])])]), (.lit (.bool false)), (.lit (.str "over")), (.bin .Add (.var 16) (.lit (.int (1))))])])])),
    (.asg 20 (.tup [(.lit (.str "assign")), (.tup [(.lit (.int (2))), (.tup [])]), (.tup [(.lit (.str "checked")), (.var 12), (.tup [(.lit (.str "const")), (.var 2), (.var 7)]), (.var 14)])]))]
theorem row_F (w : Row h s bo bl du k Bl Du) {c : PyData} (hb : Bl.length ≤ 100) : exs (R TL (n + 100)) sgF ⟨b0, h, rho s bo du k v rows dues x11 (some (.d (.str op))) x13 (some (.d (cI k o))) x15 (some (.d (.int g))) x17 x18 (some (.d c)) x20 x21 x22 x23 rest⟩ =
      some (.next, ⟨b0, h.set bl (.list (Bl ++ [.list [.list [c], tAs opC2 "over" (g + 1)]])), rho s bo du k v rows dues x11 (some (.d (.str op))) x13 (some (.d (cI k o))) x15 (some (.d (.int g))) x17 x18 (some (.d c)) (some (.d (sChk k op (cI k v) o))) x21 x22 x23 rest⟩) := by
  exact xE (eMB (eA (eV rfl) (aV w.bod rfl)) (sc (e0 (.d (.list [.list [c], tAs opC2 "over" (g + 1)])) (by kernel_rfl)) sn) (skL w.blk w.blk) (mApp w.blk (Nat.le_trans hb (by decide)))) (xA0 (.d (sChk k op (cI k v) o)) (by kernel_rfl) x0)
noncomputable def sgG : List S := [(.ite (.var 15) [(.ret (.callF 482 [(.var 5), (.bin .Add (.var 9) (.lst false [(.lst false [(.lst false [(.var 20)]), (.sub (.sub (.attr (.var 5) "blocks") (.neg (.lit (.int (1))))) (.lit (.int (1))))])])), (.var 7)]))] [])]
theorem row_G0 : exs (R TL (n + 100)) sgG ⟨b0, h, rho s bo du k v rows dues x11 x12 x13 x14 (some (.d (.bool false))) x16 x17 x18 x19 x20 x21 x22 x23 rest⟩ =
      some (.next, ⟨b0, h, rho s bo du k v rows dues x11 x12 x13 x14 (some (.d (.bool false))) x16 x17 x18 x19 x20 x21 x22 x23 rest⟩) := by
  exact xF0 (by kernel_rfl) x0
theorem row_G1 {c t y : PyData} {h' : List O} (w : Row h s bo bl du k (Bl ++ [.list [y, t]]) Du) (hb : Bl.length ≤ 100) (hd : Du.length ≤ 100)
    (e : ∀ n, (R TL (n + 260)).call 482 [.loc bo, .d (.list (Du ++ [.list [.list [c], t]])), .d (.int v)] h = some (.d (.bool true), h')) :
    exs (R TL (n + 270)) sgG ⟨b0, h, rho s bo du k v rows dues x11 x12 x13 x14 (some (.d (.bool true))) x16 x17 x18 x19 (some (.d c)) x21 x22 x23 rest⟩ =
      some (.ret (.d (.bool true)), ⟨b0, h', rho s bo du k v rows dues x11 x12 x13 x14 (some (.d (.bool true))) x16 x17 x18 x19 (some (.d c)) x21 x22 x23 rest⟩) := by
  have q2 : (Bl ++ [PyData.list [y, t]]).length ≤ lim := by rw [List.length_append]; exact Nat.le_trans (Nat.succ_le_succ hb) (by decide)
  have la : atL (-1) (Bl ++ [PyData.list [y, t]]) = some (.list [y, t]) := by
    show (if short (Bl ++ [PyData.list [y, t]]) then (match (if Nat.blt 0 (Bl ++ [PyData.list [y, t]]).length then some ((Bl ++ [PyData.list [y, t]]).length - 1 - 0) else none) with | some i => (Bl ++ [PyData.list [y, t]])[i]? | none => none) else none) = _
    rw [sh q2, if_pos rfl, List.length_append]
    show (Bl ++ [PyData.list [y, t]])[Bl.length]? = _
    exact get_mid rfl
  exact xTr0 (by kernel_rfl) (xR (eF (e _) (sc (eV rfl) (sc (eB (eV rfl) (eLi (sc (eLi (sc (eLi (sc (eV rfl) sn) rfl) (sc (eS (eS (eA (eV rfl) (aV w.bod rfl)) (eM eL) (uL w.blk la)) eL rfl) sn)) rfl) sn) rfl) (bApp (rdL w.due) rfl (Nat.le_trans hd (by decide)) (Nat.le_of_ble_eq_true rfl))) (sc (eV rfl) sn)))))
noncomputable def endO (z : Bool) (g : Int) : PyData := if z = true then tAs (cB true) "over" g else tGo g
noncomputable def sgH : List S := [(.asg 21 (.callF 456 [(.var 1), (.var 12), (.var 7), (.var 13), (.var 18)])),
    (.asg 17 (.ite (.var 21) (.tup [(.lit (.str "assert")), (.tup [(.lit (.str "const")), (.var 3), (.lit (.bool true))]), (.lit (.bool false)), (.lit (.str "over")), (.bin .Add (.var 16) (.lit (.int (1))))]) (.tup [(.lit (.str "goto")), (.bin .Add (.var 16) (.lit (.int (1))))]))),
    (.expr (.methB .append (.var 9) [(.lst false [(.lst false [(.var 20)]), (.var 17)])]))]
theorem row_H (w : Row h s bo bl du k Bl Du) {c : PyData} (K : isKind k lo b) (hop : isOp op) (hd : Du.length ≤ 100) : exs (R TL (n + 100)) sgH ⟨b0, h, rho s bo du k v rows dues x11 (some (.d (.str op))) (some (.d (.int o))) x14 x15 (some (.d (.int g))) x17 (some (.d (.int (wholeS op b v o)))) x19 (some (.d c)) x21 x22 x23 rest⟩ =
      some (.next, ⟨b0, h.set du (.list (Du ++ [.list [.list [c], endO (overS op lo b v o) (g + 1)]])), rho s bo du k v rows dues x11 (some (.d (.str op))) (some (.d (.int o))) x14 x15 (some (.d (.int g))) (some (.d (endO (overS op lo b v o) (g + 1)))) (some (.d (.int (wholeS op b v o)))) x19 (some (.d c)) (some (.d (.bool (overS op lo b v o)))) x22 x23 rest⟩) := by
  have g : ∀ {z : Bool} {ρ : Rho}, ρ[21]? = some (some (.d (.bool z))) → ρ[16]? = some (some (.d (.int g))) → ρ[3]? = some (some (.d tB)) → (R TL (n + 99)).ev (.ite (.var 21) (.tup [(.lit (.str "assert")), (.tup [(.lit (.str "const")), (.var 3), (.lit (.bool true))]), (.lit (.bool false)), (.lit (.str "over")), (.bin .Add (.var 16) (.lit (.int (1))))]) (.tup [(.lit (.str "goto")), (.bin .Add (.var 16) (.lit (.int (1))))])) ρ h = some (.d (endO z (g + 1)), h) := fun {z ρ} r21 r16 r3 => by
    cases z
    · exact eIf0 (tE rfl (eV r21)) (eT (sc eL (sc (eB (eV r16) eL rfl) sn)) rfl)
    · exact eIt0 (tE rfl (eV r21)) (eT (sc eL (sc (eT (sc eL (sc (eV r3) (sc eL sn))) rfl) (sc eL (sc eL (sc (eB (eV r16) eL rfl) sn))))) rfl)
  exact xA (eF (c456 K hop) rfl) (xA (g rfl rfl rfl) (xE (eMB (eV rfl) (sc (eLi (sc (eLi (sc (eV rfl) sn) rfl) (sc (eV rfl) sn)) rfl) sn) (skL w.due w.due) (mApp w.due (Nat.le_trans hd (by decide)))) x0))
noncomputable def sgI : List S := [(.asg 7 (.callF 449 [(.var 1), (.var 18)])),
    (.asg 8 (.lst false [(.tup [(.lit (.str "assign")), (.tup [(.lit (.int (1))), (.tup [])]), (.tup [(.lit (.str "use")), (.tup [(.lit (.str "move")), (.tup [(.lit (.int (2))), (.tup [(.tup [(.lit (.str "field")), (.lit (.int (0)))])])])])])]), (.tup [(.lit (.str "print")), (.var 6)])])),
    (.asg 10 (.lst false [(.tup [(.lit (.str "assign")), (.tup [(.lit (.int (1))), (.tup [])]), (.tup [(.lit (.str "use")), (.tup [(.lit (.str "const")), (.var 2), (.var 7)])])]), (.tup [(.lit (.str "print")), (.tup [(.lit (.str "const")), (.var 2), (.var 7)])])]))]
theorem row_I {x : Int} (K : isKind k lo b) : exs (R TL (n + 100)) sgI ⟨b0, h, rho s bo du k v rows dues x11 x12 x13 x14 x15 x16 x17 (some (.d (.int x))) x19 x20 x21 x22 x23 rest⟩ =
      some (.next, ⟨b0, h, rho s bo du k (wrapS lo b x) [sAsg 1 (rUse opM2), sPrint opX] [sAsg 1 (rUse (cI k (wrapS lo b x))), sPrint (cI k (wrapS lo b x))] x11 x12 x13 x14 x15 x16 x17 (some (.d (.int x))) x19 x20 x21 x22 x23 rest⟩) := by
  exact xA (eF (c449 K) rfl) (xA0 (.d (.list [sAsg 1 (rUse opM2), sPrint opX])) (by kernel_rfl) (xA0 (.d (.list [sAsg 1 (rUse (cI k (wrapS lo b x))), sPrint (cI k (wrapS lo b x))])) (by kernel_rfl) x0))
noncomputable def sgJ : List S := [(.unp false [22, 23] (.callF 475 [(.var 0), (.var 1), (.var 7)])),
    (.unp true [8, 10] (.tup [(.bin .Add (.var 8) (.var 22)), (.bin .Add (.var 10) (.var 23))]))]
theorem row_J (w : Row h s bo bl du k Bl Du) (K : isKind k lo b) (hr : rows.length ≤ 100) (hd : dues.length ≤ 100) : ∃ more told h' y22 y23, More k lo b v more told ∧ Row h' s bo bl du k Bl Du ∧ h'.length = h.length ∧
    ∀ n b0 x11 x12 x13 x14 x15 x16 x17 x18 x19 x20 x21 x22 x23 rest, exs (R TL (n + 100)) sgJ ⟨b0, h, rho s bo du k v rows dues x11 x12 x13 x14 x15 x16 x17 x18 x19 x20 x21 x22 x23 rest⟩ =
      some (.next, ⟨b0, h', rho s bo du k v (rows ++ more) (dues ++ told) x11 x12 x13 x14 x15 x16 x17 x18 x19 x20 x21 y22 y23 rest⟩) := by
  obtain ⟨more, told, big, mixed, hm, m0, m1, e⟩ := c475 (v := v) w.src K
  refine ⟨more, told, _, some (.d (.list more)), some (.d (.list told)), hm, w.setS (big := big) m0 m1, List.length_set, fun n b0 x11 x12 x13 x14 x15 x16 x17 x18 x19 x20 x21 x22 x23 rest => ?_⟩
  have l1 : more.length ≤ lim ∧ told.length ≤ lim := by cases hm <;> exact ⟨Nat.le_of_ble_eq_true rfl, Nat.le_of_ble_eq_true rfl⟩
  exact xU (eF (e _) rfl) rfl (xU (eT (sc (eB (eV rfl) (eV rfl) (bApp rfl rfl (Nat.le_trans hr (by decide)) l1.1)) (sc (eB (eV rfl) (eV rfl) (bApp rfl rfl (Nat.le_trans hd (by decide)) l1.2)) sn)) rfl) rfl x0)
end Mine
end
section
open PySem PySem.W
set_option maxRecDepth 100000
set_option linter.unusedSimpArgs false
set_option linter.unusedSectionVars false
namespace Mine
variable {n : Nat} {h : List O} {k : Str} {lo : Int} {b : Nat} {s bo bl du : Nat} {Bl Du rows dues : List PyData} {v : Int} {j : Nat}
/-- the chain so far -/
structure Pre (k : Str) (lo : Int) (b : Nat) (i : Nat) (m : Known) (Ls Ls' : List PyData) : Prop where
  l1 : Ls.length = i
  l2 : Ls'.length = i
  ly : ∀ x ∈ Ls', LayD 14 x
  go : ∀ {Rs Rs' : List PyData} {Cs : List (Int × Known)}, Chain k lo b i m Rs Rs' Cs → ∃ Bs, Chain k lo b 0 [] (Ls ++ Rs) (Ls' ++ Rs') Bs
theorem Pre.nil : Pre k lo b 0 [] [] [] := ⟨rfl, rfl, fun _ h => (by cases h), fun r => ⟨_, r⟩⟩
theorem Pre.snoc {i : Nat} {q q' : Known} {Ls Ls' xs xs' : List PyData} {t t' : PyData} (p : Pre k lo b i q Ls Ls') (K : isKind k lo b) (r : SRs k lo b q xs xs' q') (r2 : TR q' t t' (some ((i + 1 : Nat) : Int))) (hl : q.length + xs.length ≤ 800) (ht : LayD 12 t') :
    Pre k lo b (i + 1) q' (Ls ++ [.list [.list xs, t]]) (Ls' ++ [.list [.list xs', t']]) := by
  refine ⟨List.length_append.trans (congrArg Nat.succ p.l1), List.length_append.trans (congrArg Nat.succ p.l2), fun x hx => ?_, fun {Rs Rs' Cs} c => ?_⟩
  · rcases List.mem_append.mp hx with hx | hx
    · exact p.ly x hx
    · rw [List.mem_singleton.mp hx]; exact LayD.blk K r ht
  · obtain ⟨Bs, c'⟩ := p.go (.step r r2 hl (Nat.le_trans r.len.2 (Nat.le_trans hl (by decide))) c)
    refine ⟨Bs, ?_⟩
    rw [List.append_assoc, List.append_assoc]
    exact c'
structure Inv (k : Str) (lo : Int) (b : Nat) (j : Nat) (v : Int) (Bl Du rows dues : List PyData) : Prop where
  p : ∃ m m1, Pre k lo b (2 * j) m Bl Du ∧ SRs k lo b m rows dues m1 ∧ findI 1 m1 = some (.int v) ∧ Keys m1 ∧ m.length ≤ 8 * j
  l : rows.length ≤ 3
theorem More.len {lo : Int} {more told : List PyData} (hm : More k lo b v more told) : more.length ≤ 1 := by cases hm <;> exact Nat.le_of_ble_eq_true rfl
theorem More.srs {m : Known} {more told : List PyData} (hm : More k lo b v more told) (h1 : findI 1 m = some (.int v)) (hk : Keys m) : ∃ m', SRs k lo b m more told m' ∧ findI 1 m' = some (.int v) ∧ Keys m' := by
  have key : ∀ {more told : List PyData} {i : Int} {x : PyData}, i ≠ 1 → SRs k lo b m more told (putI i x (dropI i m)) → ∃ m', SRs k lo b m more told m' ∧ findI 1 m' = some (.int v) ∧ Keys m' := fun hi r =>
    ⟨_, r, (find_put hi.symm).trans ((find_drop hi.symm).trans h1), hk.drop.put⟩
  cases hm with
  | none => exact ⟨m, .nil _, h1, hk⟩
  | cast => exact key (by decide) (.cons (.cast v m h1) (.nil _))
  | flip => exact key (by decide) (.cons (.un "!" v m h1 (.inl rfl)) (.nil _))
  | neg => exact key (by decide) (.cons (.un "-" v m h1 (.inr rfl)) (.nil _))
  | cmp op hop =>
    rw [cmp_rel hop]
    exact key (by decide) (.cons (.cmp op v m h1 hop) (.nil _))
theorem isN_true {op : Str} {o : Int} (h : isN op o = true) : (op = "/" ∨ op = "%") ∧ o = 0 := by
  obtain ⟨h1, h2⟩ := Bool.and_eq_true_iff.mp h
  exact ⟨(Bool.or_eq_true_iff.mp h1).imp of_decide_eq_true of_decide_eq_true, of_decide_eq_true h2⟩
theorem isN_false {op : Str} {o : Int} (h : isN op o = false) : o ≠ 0 ∨ (op ≠ "/" ∧ op ≠ "%") := by
  rcases Bool.and_eq_false_iff.mp h with h | h
  · obtain ⟨h1, h2⟩ := Bool.or_eq_false_iff.mp h
    exact .inr ⟨of_decide_eq_false h1, of_decide_eq_false h2⟩
  · exact .inl (of_decide_eq_false h)
/-- the first block of a turn -/
theorem inv_one {m m1 : Known} {o : Int} (K : isKind k lo b) (p : Pre k lo b (2 * j) m Bl Du) (r : SRs k lo b m rows dues m1) (h1 : findI 1 m1 = some (.int v)) (hk : Keys m1) (hm : m.length ≤ 8 * j) (hl : rows.length ≤ 3) (hj : j ≤ 6) :
    ∃ m2, Pre k lo b (2 * j + 1) m2 (Bl ++ [.list [.list (rows ++ [sEq k o]), tAs opC3 "none" ((Bl.length : Int) + 1)]]) (Du ++ [.list [.list (dues ++ [sAsg 3 (rUse (cB (decide (o = 0))))]), endN o ((Bl.length : Int) + 1)]]) ∧ findI 1 m2 = some (.int v) ∧ Keys m2 ∧ m2.length ≤ 8 * j + 4 := by
  let m2 : Known := putI 3 (.bool (decide (o = 0))) (dropI 3 m1)
  have r2 : SRs k lo b m (rows ++ [sEq k o]) (dues ++ [sAsg 3 (rUse (cB (decide (o = 0))))]) m2 := r.app (.cons (.eq0 o m1) (.nil _))
  have f1 : findI 1 m2 = some (.int v) := by
    exact (find_put (by decide)).trans ((find_drop (by decide)).trans h1)
  have f3 : findI 3 m2 = some (.bool (decide (o = 0))) := by
    exact find_same
  have ln := r2.len
  have ll : (rows ++ [sEq k o]).length ≤ 4 := by rw [List.length_append]; exact Nat.succ_le_succ hl
  have hg : (Bl.length : Int) + 1 = ((2 * j + 1 : Nat) : Int) := by rw [p.l1]; rfl
  have t1 : TR m2 (tAs opC3 "none" ((Bl.length : Int) + 1)) (endN o ((Bl.length : Int) + 1)) (some ((2 * j + 1 : Nat) : Int)) := by
    have := TR.a3 (m := m2) (decide (o = 0)) "none" ((2 * j + 1 : Nat) : Int) f3
    rw [hg]
    unfold endN
    by_cases h0 : o = 0
    · rw [decide_eq_true h0, if_pos rfl] at this; rw [if_pos h0]; exact this
    · rw [decide_eq_false h0, if_neg (by decide)] at this; rw [if_neg h0]; exact this
  have t2 : LayD 12 (endN o ((Bl.length : Int) + 1)) := by
    unfold endN
    split
    · exact LayD.tAsB.1
    · exact LayD.tGo _
  exact ⟨m2, p.snoc K r2 t1 (by omega) t2, f1, hk.drop.put, by omega⟩
/-- the second block, where it is not by nought -/
theorem inv_two {m2 : Known} {o : Int} {op : Str} {Bl Du : List PyData} (K : isKind k lo b) (p : Pre k lo b (2 * j + 1) m2 Bl Du) (h1 : findI 1 m2 = some (.int v)) (hk : Keys m2) (hm : m2.length ≤ 8 * j + 4) (hj : j ≤ 6) (hop : isOp op) (hs : small o = true) (ho : o ≠ 0 ∨ (op ≠ "/" ∧ op ≠ "%")) :
    ∃ m3, Pre k lo b (2 * (j + 1)) m3 (Bl ++ [.list [.list [sChk k op opX o], tAs opC2 "over" ((Bl.length : Int) + 1)]]) (Du ++ [.list [.list [sChk k op (cI k v) o], endO (overS op lo b v o) ((Bl.length : Int) + 1)]]) ∧
      (∃ w, findI 2 m3 = some (.tuple [.int (wrapS lo b (wholeS op b v o)), w])) ∧ Keys m3 ∧ m3.length ≤ 8 * (j + 1) := by
  let m3 : Known := putI 2 (.tuple [.int (wrapS lo b (wholeS op b v o)), .bool (overS op lo b v o)]) (dropI 2 m2)
  have r2 : SRs k lo b m2 [sChk k op opX o] [sChk k op (cI k v) o] m3 := .cons (.chk op o v m2 h1 hop hs ho) (.nil _)
  have f2 : findI 2 m3 = some (.tuple [.int (wrapS lo b (wholeS op b v o)), .bool (overS op lo b v o)]) := by
    exact find_same
  have ln := r2.len
  have ln2 : m3.length ≤ m2.length + 1 := ln.2
  have hg : (Bl.length : Int) + 1 = ((2 * j + 1 + 1 : Nat) : Int) := by rw [p.l1]; rfl
  have t1 : TR m3 (tAs opC2 "over" ((Bl.length : Int) + 1)) (endO (overS op lo b v o) ((Bl.length : Int) + 1)) (some ((2 * j + 1 + 1 : Nat) : Int)) := by
    rw [hg]
    exact TR.a2 _ _ "over" _ f2
  have t2 : LayD 12 (endO (overS op lo b v o) ((Bl.length : Int) + 1)) := by
    unfold endO
    split
    · exact LayD.tAsB.2
    · exact LayD.tGo _
  exact ⟨m3, p.snoc K r2 t1 (Nat.le_trans (Nat.succ_le_succ hm) (by omega)) t2, ⟨_, f2⟩, hk.drop.put, by omega⟩
/-- the second block, by nought -/
theorem inv_zero {m2 : Known} {op : Str} {Bl Du : List PyData} (K : isKind k lo b) (p : Pre k lo b (2 * j + 1) m2 Bl Du) (h1 : findI 1 m2 = some (.int v)) (hk : Keys m2) (hm : m2.length ≤ 8 * j + 4) (hj : j ≤ 6) (hop : op = "/" ∨ op = "%") :
    ∃ m3, Pre k lo b (2 * (j + 1)) m3 (Bl ++ [.list [.list [sChk k op opX 0], tAs opC2 "over" ((Bl.length : Int) + 1)]]) (Du ++ [.list [.list [sChk k op (cI k v) 0], tAs opC2 "over" ((Bl.length : Int) + 1)]]) ∧ m3.length ≤ 8 * (j + 1) := by
  let m3 : Known := dropI 2 m2
  have r2 : SRs k lo b m2 [sChk k op opX 0] [sChk k op (cI k v) 0] m3 := .cons (.chkz op v m2 h1 hop) (.nil _)
  have f2 : findI 2 m3 = none := by
    exact find_gone hk
  have ln := r2.len
  have ln2 : m3.length ≤ m2.length + 1 := ln.2
  have hg : (Bl.length : Int) + 1 = ((2 * j + 1 + 1 : Nat) : Int) := by rw [p.l1]; rfl
  have t1 : TR m3 (tAs opC2 "over" ((Bl.length : Int) + 1)) (tAs opC2 "over" ((Bl.length : Int) + 1)) (some ((2 * j + 1 + 1 : Nat) : Int)) := by
    rw [hg]
    exact TR.a2n "over" _ f2
  exact ⟨m3, p.snoc K r2 t1 (Nat.le_trans (Nat.succ_le_succ hm) (by omega)) (LayD.tAs2), by omega⟩
/-- what is pending behind the second block -/
theorem inv_next {m3 : Known} {w : PyData} {more told : List PyData} (K : isKind k lo b) (p : Pre k lo b (2 * (j + 1)) m3 Bl Du) (h2 : findI 2 m3 = some (.tuple [.int v, w])) (hk : Keys m3) (hm : m3.length ≤ 8 * (j + 1)) (r : More k lo b v more told) :
    Inv k lo b (j + 1) v Bl Du ([sAsg 1 (rUse opM2), sPrint opX] ++ more) ([sAsg 1 (rUse (cI k v)), sPrint (cI k v)] ++ told) := by
  let m4 : Known := putI 1 (.int v) (dropI 1 m3)
  have f1 : findI 1 m4 = some (.int v) := by
    exact find_same
  obtain ⟨m5, r5, f5, k5⟩ := r.srs f1 hk.drop.put
  have := r.len
  exact ⟨⟨m3, m5, p, .cons (.mov v w m3 h2) (.cons (.prt v m4 f1) r5), f5, k5, hm⟩, Nat.succ_le_succ (Nat.succ_le_succ this)⟩
end Mine
end
section
open PySem PySem.W
set_option maxRecDepth 100000
set_option linter.unusedSimpArgs false
set_option linter.unusedSectionVars false
namespace Mine
variable {n : Nat} {h : List O} {k : Str} {lo : Int} {b : Nat} {s bo bl du : Nat} {Bl Du rows dues : List PyData} {v : Int} {j : Nat}
def RhoIs (s bo du : Nat) (k : Str) (v : Int) (rows dues : List PyData) (r : List (Option V)) : Prop :=
  ∃ x11 x12 x13 x14 x15 x16 x17 x18 x19 x20 x21 x22 x23, r = rho s bo du k v rows dues x11 x12 x13 x14 x15 x16 x17 x18 x19 x20 x21 x22 x23 none12
theorem row_B2z {v o : Int} {op : Str} {rows dues : List PyData} {b0 : Nat} {x11 x14 x15 x16 x17 x18 x19 x20 x21 x22 x23 : Option V} {rest : List (Option V)} {z : Bool} (hop : isOp op) (hz : isN op o = z) : exs (R TL (n + 100)) sgB2 ⟨b0, h, rho s bo du k v rows dues x11 (some (.d (.str op))) (some (.d (.int o))) x14 x15 x16 x17 x18 x19 x20 x21 x22 x23 rest⟩ =
      some (.next, ⟨b0, h, rho s bo du k v rows dues x11 (some (.d (.str op))) (some (.d (.int o))) x14 (some (.d (.bool z))) x16 x17 x18 x19 x20 x21 x22 x23 rest⟩) := by
  subst hz; exact row_B2 hop
noncomputable def rowBody : List S := sgA ++ (sgB ++ (sgB2 ++ (sgC ++ (sgD ++ (sgE ++ (sgF ++ (sgG ++ (sgH ++ (sgI ++ sgJ)))))))))
theorem row_turn (K : isKind k lo b) (w : Row h s bo bl du k Bl Du) (I : Inv k lo b j v Bl Du rows dues) (hj : j < 6) :
    (∃ h' Bl' Du', Row h' s bo bl du k Bl' Du' ∧ h'.length = h.length ∧ ∀ n b0 r, RhoIs s bo du k v rows dues r → ∃ r', exs (R TL (n + 270)) rowBody ⟨b0, h, r⟩ = some (.ret (.d (.bool true)), ⟨b0, h', r'⟩)) ∨
    (∃ h' v' Bl' Du' rows' dues', Row h' s bo bl du k Bl' Du' ∧ Inv k lo b (j + 1) v' Bl' Du' rows' dues' ∧ h'.length = h.length ∧
      ∀ n b0 r, RhoIs s bo du k v rows dues r → ∃ r', RhoIs s bo du k v' rows' dues' r' ∧ exs (R TL (n + 270)) rowBody ⟨b0, h, r⟩ = some (.next, ⟨b0, h', r'⟩)) := by
  obtain ⟨⟨m, m1, p, r1, f1, hk, hm⟩, hl⟩ := I
  obtain ⟨op, o, hA, hop, so, wA, lA, eA⟩ := row_A w K
  obtain ⟨m2, p2, f2, k2, q2⟩ := inv_one (o := o) K p r1 f1 hk hm hl (by omega)
  have hB := p.l1
  have hD := p.l2
  have rl := r1.len.1
  let g : Int := (Bl.length : Int) + 1
  let Bl1 := Bl ++ [.list [.list (rows ++ [sEq k o]), tAs opC3 "none" g]]
  let Du1 := Du ++ [.list [.list (dues ++ [sAsg 3 (rUse (cB (decide (o = 0))))]), endN o g]]
  have wC : Row _ s bo bl du k Bl1 Du := wA.setBl Bl1
  have wD : Row _ s bo bl du k Bl1 Du1 := wC.setDu Du1
  have lB1 : Bl1.length = Bl.length + 1 := List.length_append
  have lD1 : Du1.length = Du.length + 1 := List.length_append
  have hg : (Bl1.length : Int) + 1 = g + 1 := by rw [lB1]; rfl
  let Bl2 := Bl1 ++ [.list [.list [sChk k op opX o], tAs opC2 "over" (g + 1)]]
  have wF : Row _ s bo bl du k Bl2 Du1 := wD.setBl Bl2
  cases hN : isN op o with
  | true =>
    obtain ⟨hop2, ho⟩ := isN_true hN
    subst ho
    obtain ⟨m3, p3, q3⟩ := inv_zero (op := op) K p2 f2 k2 q2 (by omega) hop2
    have p3' : Pre k lo b (2 * (j + 1)) m3 Bl2 (Du1 ++ [.list [.list [sChk k op (cI k v) 0], tAs opC2 "over" (g + 1)]]) := by
      show Pre k lo b (2 * (j + 1)) m3 (Bl1 ++ [.list [.list [sChk k op opX 0], tAs opC2 "over" (g + 1)]]) (Du1 ++ [.list [.list [sChk k op (cI k v) 0], tAs opC2 "over" (g + 1)]])
      rw [← hg]; exact p3
    obtain ⟨Bs, ch⟩ := p3'.go (.last (.nil _) (Nat.le_trans q3 (by omega)))
    have e := fun n => c482b (n := n) (v := v) K ch wF.bod wF.blk wF.ok (by rw [List.length_append]; exact Nat.succ_le_of_lt (by omega)) (Nat.zero_le _) (List.take_left (l₁ := Du1 ++ [.list [.list [sChk k op (cI k v) 0], tAs opC2 "over" (g + 1)]])) (fun x hx => by
      rcases List.mem_append.mp hx with hx | hx
      · exact p3'.ly x hx
      · rw [List.mem_singleton.mp hx]
        exact LayD.blk (m := []) K (.nil _) LayD.tRet) rfl rfl
    refine .inl ⟨_, _, _, wF.setBl (Bl2 ++ [.list [.list [], tRet]]), set_len.trans (set_len.trans (set_len.trans (set_len.trans lA))), fun n b0 r hr => ?_⟩
    obtain ⟨x11, x12, x13, x14, x15, x16, x17, x18, x19, x20, x21, x22, x23, rfl⟩ := hr
    exact ⟨_, (exs_app (eA (n + 170) _ _ _ _ _ _ _ _ _ _ _ _ _ _ _ _ _ _)).trans
      ((exs_app (row_B (n := n + 170) (by omega))).trans
      ((exs_app (row_B2z (n := n + 170) hop hN)).trans
      ((exs_app (row_C (n := n + 170) wA (by omega) (by omega))).trans
      ((exs_app (row_D (n := n + 170) wC (by omega))).trans
      ((exs_app (row_E (n := n + 170) (fun n => c442z K hop2))).trans
      ((exs_app (row_F (n := n + 170) wD (by omega))).trans
      (exs_ret (row_G1 (n := n) wF (by omega) (by omega) e))))))))⟩
  | false =>
    have ho := isN_false hN
    obtain ⟨m3, p3, ⟨w3, f3⟩, k3, q3⟩ := inv_two K p2 f2 k2 q2 (by omega) hop so ho
    let Du2 := Du1 ++ [.list [.list [sChk k op (cI k v) o], endO (overS op lo b v o) (g + 1)]]
    have p3' : Pre k lo b (2 * (j + 1)) m3 Bl2 Du2 := by
      show Pre k lo b (2 * (j + 1)) m3 (Bl1 ++ [.list [.list [sChk k op opX o], tAs opC2 "over" (g + 1)]]) (Du1 ++ [.list [.list [sChk k op (cI k v) o], endO (overS op lo b v o) (g + 1)]])
      rw [← hg]; exact p3
    have wH : Row _ s bo bl du k Bl2 Du2 := wF.setDu Du2
    obtain ⟨more, told, hJ, y22, y23, hm', wJ, lJ, eJ⟩ := row_J (v := wrapS lo b (wholeS op b v o)) (rows := [sAsg 1 (rUse opM2), sPrint opX]) (dues := [sAsg 1 (rUse (cI k (wrapS lo b (wholeS op b v o)))), sPrint (cI k (wrapS lo b (wholeS op b v o)))]) wH K (Nat.le_of_ble_eq_true rfl) (Nat.le_of_ble_eq_true rfl)
    refine .inr ⟨hJ, _, _, _, _, _, wJ, inv_next K p3' f3 k3 q3 hm', lJ.trans (set_len.trans (set_len.trans (set_len.trans (set_len.trans lA)))), fun n b0 r hr => ?_⟩
    obtain ⟨x11, x12, x13, x14, x15, x16, x17, x18, x19, x20, x21, x22, x23, rfl⟩ := hr
    exact ⟨_, ⟨_, _, _, _, _, _, _, _, _, _, _, _, _, rfl⟩, (exs_app (eA (n + 170) _ _ _ _ _ _ _ _ _ _ _ _ _ _ _ _ _ _)).trans
      ((exs_app (row_B (n := n + 170) (by omega))).trans
      ((exs_app (row_B2z (n := n + 170) hop hN)).trans
      ((exs_app (row_C (n := n + 170) wA (by omega) (by omega))).trans
      ((exs_app (row_D (n := n + 170) wC (by omega))).trans
      ((exs_app (row_E (n := n + 170) (fun n => c442 K hop so ho))).trans
      ((exs_app (row_F (n := n + 170) wD (by omega))).trans
      ((exs_app (row_G0 (n := n + 170))).trans
      ((exs_app (row_H (n := n + 170) wF K hop (by omega))).trans
      ((exs_app (row_I (n := n + 170) K)).trans
      (eJ (n + 170) _ _ _ _ _ _ _ _ _ _ _ _ _ _ _))))))))))⟩
end Mine
end
section
open PySem PySem.W
set_option maxRecDepth 100000
set_option linter.unusedSimpArgs false
set_option linter.unusedSectionVars false
namespace Mine
variable {n : Nat} {k : Str} {lo : Int} {b : Nat} {s bo bl du : Nat}
theorem RhoIs.set {v : Int} {rows dues : List PyData} {r : List (Option V)} (hr : RhoIs s bo du k v rows dues r) (x : Option V) : RhoIs s bo du k v rows dues (r.set 11 x) := by
  obtain ⟨x11, x12, x13, x14, x15, x16, x17, x18, x19, x20, x21, x22, x23, rfl⟩ := hr
  exact ⟨_, _, _, _, _, _, _, _, _, _, _, _, _, rfl⟩
theorem row_loop (K : isKind k lo b) {N : Nat} : ∀ (cnt j : Nat) {h : List O} {v : Int} {Bl Du rows dues : List PyData} {r : List (Option V)} {b0 : Nat}, j + cnt ≤ 6 → Row h s bo bl du k Bl Du → Inv k lo b j v Bl Du rows dues → RhoIs s bo du k v rows dues r → h.length = N →
    (∃ st' Bl' Du', forRL (R TL (n + 270)) N 11 rowBody j cnt ⟨b0, h, r⟩ = some (.ret (.d (.bool true)), st') ∧ Row st'.h s bo bl du k Bl' Du' ∧ st'.h.length = N) ∨
    (∃ b1 h' r' v' Bl' Du' rows' dues', forRL (R TL (n + 270)) N 11 rowBody j cnt ⟨b0, h, r⟩ = some (.next, ⟨b1, h', r'⟩) ∧ Row h' s bo bl du k Bl' Du' ∧ Inv k lo b (j + cnt) v' Bl' Du' rows' dues' ∧ RhoIs s bo du k v' rows' dues' r' ∧ h'.length = N)
  | 0, j, h, v, Bl, Du, rows, dues, r, b0, hj, w, I, hr, hN => .inr ⟨b0, h, r, v, Bl, Du, rows, dues, rE, w, I, hr, hN⟩
  | cnt + 1, j, h, v, Bl, Du, rows, dues, r, b0, hj, w, I, hr, hN => by
    rcases row_turn K w I (Nat.lt_of_lt_of_le (Nat.lt_add_of_pos_right (Nat.succ_pos _)) hj) with ⟨h', Bl', Du', w', l', e⟩ | ⟨h', v', Bl', Du', rows', dues', w', I', l', e⟩
    · obtain ⟨r', e'⟩ := e n N _ (hr.set (some (bI j)))
      exact .inl ⟨⟨N, h', r'⟩, Bl', Du', rR e', w', l'.trans hN⟩
    · obtain ⟨r', hr', e'⟩ := e n N _ (hr.set (some (bI j)))
      have g := row_loop K cnt (j + 1) (b0 := N) (Nat.le_trans (Nat.le_of_eq (Nat.succ_add_eq_add_succ _ _)) hj) w' I' hr' (l'.trans hN)
      rw [Nat.succ_add_eq_add_succ] at g
      rcases g with ⟨st', Bl', Du', e1, w2⟩ | ⟨b1, h2, r2, v2, Bl2, Du2, rows2, dues2, e1, w2⟩
      · exact .inl ⟨st', Bl', Du', rC e' (cutN (Nat.le_of_eq (l'.trans hN))) e1, w2⟩
      · exact .inr ⟨b1, h2, r2, v2, Bl2, Du2, rows2, dues2, rC e' (cutN (Nat.le_of_eq (l'.trans hN))) e1, w2⟩
noncomputable def rowTail : List S := [(.ret (.callF 482 [(.var 5), (.bin .Add (.var 9) (.lst false [(.lst false [(.var 10), (.tup [(.lit (.str "return"))])])])), (.lit .none), (.var 8)]))]
theorem row_tail {h : List O} {v : Int} {j : Nat} {Bl Du rows dues : List PyData} {r : List (Option V)} {b0 : Nat} (K : isKind k lo b) (w : Row h s bo bl du k Bl Du) (I : Inv k lo b j v Bl Du rows dues) (hr : RhoIs s bo du k v rows dues r) (hj : j ≤ 6) :
    ∃ h' Bl' Du' r', exs (R TL (n + 270)) rowTail ⟨b0, h, r⟩ = some (.ret (.d (.bool true)), ⟨b0, h', r'⟩) ∧ Row h' s bo bl du k Bl' Du' ∧ h'.length = h.length := by
  obtain ⟨⟨m, m1, p, r1, f1, hk, hm⟩, hl⟩ := I
  obtain ⟨x11, x12, x13, x14, x15, x16, x17, x18, x19, x20, x21, x22, x23, rfl⟩ := hr
  have hB := p.l1
  have hD := p.l2
  obtain ⟨Bs, ch⟩ := p.go (.last r1 (by omega))
  have e := fun n => c482a (n := n) K ch w.bod w.blk w.ok (by omega) (by omega) (List.take_length (l := Du ++ [.list [.list dues, tRet]])) (fun x hx => by
      rcases List.mem_append.mp hx with hx | hx
      · exact p.ly x hx
      · rw [List.mem_singleton.mp hx]
        exact LayD.blk K r1 LayD.tRet)
  refine ⟨_, _, _, rho s bo du k v rows dues x11 x12 x13 x14 x15 x16 x17 x18 x19 x20 x21 x22 x23 none12, ?_, w.setBl (Bl ++ [.list [.list rows, tRet]]), List.length_set⟩
  exact xR (eF (e _) (sc (eV rfl) (sc (eB (eV rfl) (eLi (sc (eLi (sc (eV rfl) (sc (eT (sc eL sn) rfl) sn)) rfl) sn) rfl) (bApp (rdL w.due) rfl (Nat.le_trans (Nat.le_of_eq hD) (Nat.le_trans (Nat.mul_le_mul_left 2 hj) (by decide))) (Nat.le_of_ble_eq_true rfl))) (sc eL (sc (eV rfl) sn)))))
noncomputable def turnsE : E := .bin .Add (.lit (.int (1))) (.callF 428 [(.var 0), (.lit (.int (6)))])
theorem fn_468_body : fn_468.body = rowHead ++ (.forR 11 turnsE rowBody :: rowTail) := rfl
theorem natOf_turns (m : Nat) (hm : m ≤ 100) : natOf (.d (.int (1 + (m : Int)))) = some (1 + m) :=
  natOf_nat (n := 1 + m) (Nat.le_trans (Nat.add_le_add_left hm 1) (by decide))
noncomputable abbrev none35 : List (Option V) := [none, none, none, none, none, none, none, none, none, none, none, none, none, none, none, none, none, none, none, none, none, none, none, none, none, none, none, none, none, none, none, none, none, none, none]
theorem row_right {h : List O} {b0 : Nat} (hs : Src h s) (hh : OkH h) : ∃ h' r', exs (R TL (n + 271)) fn_468.body ⟨b0, h, some (.loc s) :: none35⟩ = some (.ret (.d (.bool true)), ⟨b0, h', r'⟩) ∧ Src h' s ∧ OkH h' ∧ h'.length = h.length + 3 := by
  obtain ⟨k, lo, b, v, h1, K, w1, l1, eH⟩ := row_head hs hh
  obtain ⟨q, big, mixed, q0, q6, m0, m1, eT⟩ := c428 (top := 6) w1.src (by decide) (by decide)
  obtain ⟨m, rfl⟩ := Int.eq_ofNat_of_zero_le q0
  have w2 := w1.setS (big := big) m0 m1
  have I0 : Inv k lo b 0 v [] [] [sAsg 1 (rUse (cI k v))] [sAsg 1 (rUse (cI k v))] := by
      exact ⟨⟨[], _, Pre.nil, .cons (.con v []) (.nil _), find_same, Keys.put (Keys.drop List.nodup_nil), Nat.zero_le _⟩, Nat.le_of_ble_eq_true rfl⟩
  have ev : (R TL (n + 270)).ev turnsE (rho s h.length (h.length + 2) k v [sAsg 1 (rUse (cI k v))] [sAsg 1 (rUse (cI k v))] none none none none none none none none none none none none none none12) h1 = some (.d (.int (1 + (m : Int))), h1.set s (srcL big mixed)) := by
    exact eB eL (eF (eT _) rfl) rfl
  have l2 : (h1.set s (srcL big mixed)).length = h.length + 3 := by rw [List.length_set, l1]
  rw [fn_468_body]
  have head := exs_app (ss' := .forR 11 turnsE rowBody :: rowTail) (eH (n + 171) b0)
  rcases row_loop (n := n) K (N := (h1.set s (srcL big mixed)).length) (1 + m) 0 (b0 := b0) (by omega) w2 I0 ⟨none, none, none, none, none, none, none, none, none, none, none, none, none, rfl⟩ rfl with ⟨st', Bl', Du', e, w', l'⟩ | ⟨b1, h', r', v', Bl', Du', rows', dues', e, w', I', hr', l'⟩
  · exact ⟨st'.h, st'.r, head.trans (xRgR (1 + m) ev (natOf_turns m (by omega)) e), w'.src, w'.ok, l'.trans l2⟩
  · obtain ⟨h2, Bl2, Du2, r2, e2, w3, l3⟩ := row_tail (n := n + 1) (b0 := b0) K w' I' hr' (by omega)
    exact ⟨h2, r2, head.trans (xRg (1 + m) ev (natOf_turns m (by omega)) e e2), w3.src, w3.ok, l3.trans (l'.trans l2)⟩
theorem c468 {big mixed : Int} (m0 : 0 ≤ mixed) (m1 : mixed < 2147483647) : ∃ big' mixed', (R TL (n + 272)).call 468 [.loc 0] [srcL big mixed] = some (.d (.bool true), [srcL big' mixed']) := by
  have hs : Src [srcL big mixed] 0 := ⟨big, mixed, rfl, m0, m1⟩
  obtain ⟨h', r', e, ⟨big', mixed', s', _, _⟩, o', l'⟩ := row_right (n := n) (b0 := 1) hs rfl
  refine ⟨big', mixed', ?_⟩
  rw [R_call _ _ _ _ _ at_468]
  have ba : bindArgs fn_468 [.loc 0] = some (some (.loc 0) :: none35) := rfl
  unfold run
  rw [ba]
  dsimp only
  rw [show [srcL big mixed].length = 1 from rfl, e]
  cases h' with
  | nil => cases s'
  | cons x t =>
    cases s'
    rfl
end Mine
end
section
open PySem PySem.W
set_option maxRecDepth 100000
set_option linter.unusedSimpArgs false
set_option linter.unusedSectionVars false
namespace Mine
theorem c487 {a b : Int} : (R TL 337).call 487 [] [srcL a b] = some (.d (.bool true), [srcL a b]) := by kernel_rfl
theorem c494 {a b : Int} : (R TL 337).call 494 [] [srcL a b] = some (.d (.bool true), [srcL a b]) := by kernel_rfl
theorem runs : Runs := by
  intro ns hns
  obtain ⟨a, c, m0, m1, e1⟩ := c421 hns
  obtain ⟨a', c', e2⟩ := c468 (n := 65) (big := a) m0 m1
  exact ⟨⟨0, [srcL a' c'], _⟩, xR (eBo (eBc (eF e2 (sc (eF (e1 306) (sc (eV rfl) (sc (eLi sn rfl) sn))) sn)) (eBc (eF c487 sn) (eBl (eF c494 sn)))))⟩
end Mine
end
section
open PySem PySem.W PyProof.Rows
set_option Elab.async true
set_option maxRecDepth 100000
set_option maxHeartbeats 8000000
theorem Mine.top1.tw16406677870818258505 : True := trivial
theorem Mine.top1.tw9615454377641047150 : True := trivial
theorem Mine.top1.tw1079040904499632671 : True := trivial
theorem Mine.top1.tw14997627391261768838 : True := trivial
theorem Mine.top1.tw7638491232829294176 : True := trivial
theorem Mine.top1.tw14960173996102364696 : True := trivial
theorem Mine.top1.tw723725423953968037 : True := trivial
theorem Mine.top1.tw2639059293822704963 : True := trivial
theorem Mine.top1.tw17712510745957441580 : True := trivial
theorem Mine.top1.tw898500717350163818 : True := trivial
theorem Mine.top1.tw14143584736894643009 : True := trivial
theorem Mine.top1.tw14084006953540882152 : True := trivial
theorem Mine.top1.tw10144592273677263620 : True := trivial
theorem Mine.top1.tw14147200284173542735 : True := trivial
theorem Mine.top1.tw11958267571635316047 : True := trivial
theorem Mine.top1.tw18190761254165197848 : True := trivial
theorem Mine.top1.tw4102951467492786643 : True := trivial
theorem Mine.top1.tw5676839180802150387 : True := trivial
theorem Mine.top1.tw543532534010683014 : True := trivial
theorem Mine.top1.tw1977934923720652694 : True := trivial
theorem Mine.top1.tw359115750838890275 : True := trivial
theorem Mine.top1.tw12882644153824810269 : True := trivial
theorem Mine.top1.tw7960789399554160043 : True := trivial
theorem Mine.top1.tw6885281268252422105 : True := trivial
theorem Mine.top1.tw15296414702925464700 : True := trivial
theorem Mine.top1.tw15166919105775958119 : True := trivial
theorem Mine.top1.tw14012178563101581977 : True := trivial
theorem Mine.top1.tw9153236405936102240 : True := trivial
theorem Mine.top1.tw9857469863442987233 : True := trivial
theorem Mine.top1.tw14907879897967833821 : True := trivial
theorem Mine.top1.tw739383369777347507 : True := trivial
theorem Mine.top1.tw17127175313968206729 : True := trivial
theorem Mine.top1.tw3608018128293302641 : True := trivial
theorem Mine.top1.tw4793017158241121441 : True := trivial
theorem Mine.top1.tw13012532313128218988 : True := trivial
theorem Mine.top1.tw4480183558893076624 : True := trivial
theorem Mine.top1.tw219836437573321059 : True := trivial
theorem Mine.top1.tw3197618017429656378 : True := trivial
theorem Mine.top1.tw13028037825042413150 : True := trivial
theorem Mine.top1.tw6851225146023895087 : True := trivial
theorem Mine.top1.tw3980731113376729926 : True := trivial
theorem Mine.top1.tw3906578349114446368 : True := trivial
theorem Mine.top1.tw11458081387900572003 : True := trivial
theorem Mine.top1.tw7634024458186490514 : True := trivial
theorem Mine.top1.tw1998727820812330813 : True := trivial
theorem Mine.top1.tw13884001750588188966 : True := trivial
theorem Mine.top1.tw8361990497253285472 : True := trivial
theorem Mine.top1.tw1353972033662477097 : True := trivial
theorem Mine.top1.tw6484968764290801784 : True := trivial
theorem Mine.top1.tw14038557777359723851 : True := trivial
theorem Mine.top1.tw13471543630118465837 : True := trivial
theorem Mine.top1.tw9103002465047036197 : True := trivial
theorem Mine.top1.tw1977859351490541602 : True := trivial
theorem Mine.top1.tw12595745238319911240 : True := trivial
theorem Mine.top1.tw6180170925296261280 : True := trivial
theorem Mine.top1.tw8343988909225660932 : True := trivial
theorem Mine.top1.tw2831037658463452032 : True := trivial
theorem Mine.top1.tw14073923801262303179 : True := trivial
theorem Mine.top1.tw10524108307541451207 : True := trivial
theorem Mine.top1.tw11801840693918981089 : True := trivial
theorem Mine.top1.tw12686303834538148579 : True := trivial
theorem Mine.top1.tw17508220963006501511 : True := trivial
theorem Mine.top1.tw8813180680506908566 : True := trivial
theorem Mine.top1.tw9182687946825603643 : True := trivial
theorem Mine.top1.tw9528981045897858543 : True := trivial
theorem Mine.top1.tw17310581153830154688 : True := trivial
theorem Mine.top1.tw15847111545945666636 : True := trivial
theorem Mine.top1.tw1198215978185084801 : True := trivial
theorem Mine.top1.tw7015570392465138782 : True := trivial
theorem Mine.top1.tw8156380654183802770 : True := trivial
theorem Mine.top1.tw13706671630084771856 : True := trivial
theorem Mine.top1.tw6011590023836620519 : True := trivial
theorem Mine.top1.tw7752275554532299978 : True := trivial
theorem Mine.top1.tw16799212409415621693 : True := trivial
theorem Mine.top1.tw4539343681787044546 : True := trivial
theorem Mine.top1.tw801871352274793984 : True := trivial
theorem Mine.top1.tw9957997322011519444 : True := trivial
theorem Mine.top1.tw15600687971411970178 : True := trivial
theorem Mine.top1.tw6780411303548042300 : True := trivial
theorem Mine.top1.tw4087540403729794543 : True := trivial
theorem Mine.top1.tw12131984456073730578 : True := trivial
theorem Mine.top1.tw567767084332759639 : True := trivial
theorem Mine.top1.tw10281679466018543708 : True := trivial
theorem Mine.top1.tw2690943883458390235 : True := trivial
theorem Mine.top1.tw12197452739437999976 : True := trivial
theorem Mine.top1.tw10773912117458532758 : True := trivial
theorem Mine.top1.tw10688266845583883097 : True := trivial
theorem Mine.top1.tw5592346314724048949 : True := trivial
theorem Mine.top1.tw16451027958142025240 : True := trivial
theorem Mine.top1.tw2286752875653595122 : True := trivial
theorem Mine.top1.tw7158909032845398510 : True := trivial
theorem Mine.top1.tw8181413240861253389 : True := trivial
theorem Mine.top1.tw11404504979580475925 : True := trivial
theorem Mine.top1.tw8314587919324890451 : True := trivial
theorem Mine.top1.tw7533734404291642696 : True := trivial
theorem Mine.top1.tw16433649311837196554 : True := trivial
theorem Mine.top1.tw9412467925129327938 : True := trivial
theorem Mine.top1.tw6186756673818138322 : True := trivial
theorem Mine.top1.tw16296835383202700738 : True := trivial
theorem Mine.top1.tw15869345578694902109 : True := trivial
theorem Mine.top1.tw8671026018149260574 : True := trivial
theorem Mine.top1.tw5510894839562672751 : True := trivial
theorem Mine.top1.tw5214800434885013980 : True := trivial
theorem Mine.top1.tw16147956351561989427 : True := trivial
theorem Mine.top1.tw17157606799202490322 : True := trivial
theorem Mine.top1.tw18030163622996419539 : True := trivial
theorem Mine.top1.tw7771553362684367548 : True := trivial
theorem Mine.top1.tw16683813941168499151 : True := trivial
theorem Mine.top1.tw15466179465654343769 : True := trivial
theorem Mine.top1.tw11915372926685620314 : True := trivial
theorem Mine.top1.tw10689892959348025370 : True := trivial
theorem Mine.top1.tw636305951557301005 : True := trivial
theorem Mine.top1.tw3922359161292359306 : True := trivial
theorem Mine.top1.tw14484904991137342613 : True := trivial
theorem Mine.top1.tw9836926040492587619 : True := trivial
theorem Mine.top1.tw8512828324635219133 : True := trivial
theorem Mine.top1.tw17019852161187992855 : True := trivial
theorem Mine.top1.tw1206253123854169108 : True := trivial
theorem Mine.top1.tw11719028340093854504 : True := trivial
theorem Mine.top1.tw4194972655842787314 : True := trivial
theorem Mine.top1.tw17982222488830153087 : True := trivial
theorem Mine.top1.tw6749791762201365145 : True := trivial
theorem Mine.top1.tw15418197769500339315 : True := trivial
theorem Mine.top1.tw7476747099091137883 : True := trivial
theorem Mine.top1.tw8206330407124520438 : True := trivial
theorem Mine.top1.tw11332644335266816885 : True := trivial
theorem Mine.top1.tw1854298449294273065 : True := trivial
theorem Mine.top1.tw3709141494103192622 : True := trivial
theorem Mine.top1.tw460544051748313266 : True := trivial
theorem Mine.top1.tw3658844203674802300 : True := trivial
theorem Mine.top1.tw9987050686269308717 : True := trivial
theorem Mine.top1.tw10689712531562772335 : True := trivial
theorem Mine.top1.tw13694365384490894580 : True := trivial
theorem Mine.top1.tw6970673610573973210 : True := trivial
theorem Mine.top1.tw8746003430786068300 : True := trivial
theorem Mine.top1.tw17290955087969583817 : True := trivial
theorem Mine.top1.tw3605959168943414943 : True := trivial
theorem Mine.top1.tw3709599300681748971 : True := trivial
theorem Mine.top1.tw6117395095774417498 : True := trivial
theorem Mine.top1.tw5667542057980872586 : True := trivial
theorem Mine.top1.tw10730504389756346236 : True := trivial
theorem Mine.top1.tw7917297383549718729 : True := trivial
theorem Mine.top1.tw13557077832737336755 : True := trivial
theorem Mine.top1.tw7352745056160816140 : True := trivial
theorem Mine.top1.tw1226401211256618846 : True := trivial
theorem Mine.top1.tw14907551295028342365 : True := trivial
theorem Mine.top1.tw4122441589705577667 : True := trivial
theorem Mine.top1.tw528820063800993200 : True := trivial
theorem Mine.top1.tw16894065346854597720 : True := trivial
theorem Mine.top1.tw7252673322704862752 : True := trivial
theorem Mine.top1.tw17636108705039373578 : True := trivial
theorem Mine.top1.tw5451870103925163653 : True := trivial
theorem Mine.top1.tw5441443469907710345 : True := trivial
theorem Mine.top1.tw6346663901671908542 : True := trivial
theorem Mine.top1.tw7339968648783855853 : True := trivial
theorem Mine.top1.tw10170030294463284877 : True := trivial
theorem Mine.top1.tw1800933241405445680 : True := trivial
theorem Mine.top1.tw5683058202757334472 : True := trivial
theorem Mine.top1.tw2514810179550292216 : True := trivial
theorem Mine.top1.tw5752759246211444452 : True := trivial
theorem Mine.top1.tw13057798541788348603 : True := trivial
theorem Mine.top1.tw10708761031426823841 : True := trivial
theorem Mine.top1.tw16712485863093995915 : True := trivial
theorem Mine.top1.tw8234160541578168799 : True := trivial
theorem Mine.top1.tw11081760154008524262 : True := trivial
theorem Mine.top1.tw3972935205094252809 : True := trivial
theorem Mine.top1.tw13438699231158657711 : True := trivial
theorem Mine.top1.tw6887896374951154960 : True := trivial
theorem Mine.top1.tw376559289123296379 : True := trivial
theorem Mine.top1.tw13180766388720298123 : True := trivial
theorem Mine.top1.tw11249561393708634027 : True := trivial
theorem Mine.top1.tw8932162154147481887 : True := trivial
theorem Mine.top1.tw11669871790666503802 : True := trivial
theorem Mine.top1.tw5056073553391692358 : True := trivial
theorem Mine.top1.tw10116914920301131798 : True := trivial
theorem Mine.top1.tw1616566640521723156 : True := trivial
theorem Mine.top1.tw12835890592700370907 : True := trivial
theorem Mine.top1.tw15425554415636830555 : True := trivial
theorem Mine.top1.tw9179259979788188222 : True := trivial
theorem Mine.top1.tw15431602102713063224 : True := trivial
theorem Mine.top1.tw1628002727150232956 : True := trivial
theorem Mine.top1.tw18010398273898157439 : True := trivial
theorem Mine.top1.tw14824687758608295481 : True := trivial
theorem Mine.top1.tw4391721223854935895 : True := trivial
theorem Mine.top1.tw2663051937416415899 : True := trivial
theorem Mine.top1.tw401632495471712483 : True := trivial
theorem Mine.top1.tw5587916052806211358 : True := trivial
theorem Mine.top1.tw17676462007655465238 : True := trivial
theorem Mine.top1.tw6277326259429716877 : True := trivial
theorem Mine.top1.tw13315673394681238804 : True := trivial
theorem Mine.top1.tw7524481607075677425 : True := trivial
theorem Mine.top1.tw15641092678389606108 : True := trivial
theorem Mine.top1.tw16934370290111456373 : True := trivial
theorem Mine.top1.tw7564948200386943459 : True := trivial
theorem Mine.top1.tw13552362592733781969 : True := trivial
theorem Mine.top1.tw14935394187492058680 : True := trivial
theorem Mine.top1.tw15438480646030391 : True := trivial
theorem Mine.top1.tw17920977178586220265 : True := trivial
theorem Mine.top1.tw13894346983975412796 : True := trivial
theorem Mine.top1.tw3160090799979537785 : True := trivial
theorem Mine.top1.tw782285395891790180 : True := trivial
theorem Mine.top1.tw8560403875409253358 : True := trivial
theorem Mine.top1.tw12832550300022962505 : True := trivial
theorem Mine.top1.tw10383619173745675220 : True := trivial
theorem Mine.top1.tw9510352133381941663 : True := trivial
theorem Mine.top1.tw12054157740203894274 : True := trivial
theorem Mine.top1.tw14254043074822211046 : True := trivial
theorem Mine.top1.tw2892520217649242350 : True := trivial
theorem Mine.top1.tw4605903461839455113 : True := trivial
theorem Mine.top1.tw2002871608462694510 : True := trivial
theorem Mine.top1.tw5804851431329941721 : True := trivial
theorem Mine.top1.tw3079721426521875565 : True := trivial
theorem Mine.top1.tw15373399639329708982 : True := trivial
theorem Mine.top1.tw10774589865173757405 : True := trivial
theorem Mine.top1.tw16360493182595076324 : True := trivial
theorem Mine.top1.tw13013651977955653057 : True := trivial
theorem Mine.top1.tw11166451590857469714 : True := trivial
theorem Mine.top1.tw10157021270821742563 : True := trivial
theorem Mine.top1.tw12025396372505242215 : True := trivial
theorem Mine.top1.tw2849376822663757910 : True := trivial
theorem Mine.top1.tw17126616617759308051 : True := trivial
theorem Mine.top1.tw15768068805145439738 : True := trivial
theorem Mine.top1.tw15160072930436649559 : True := trivial
theorem Mine.top1.tw14087236252340900909 : True := trivial
theorem Mine.top1.tw17557706069533989643 : True := trivial
theorem Mine.top1.tw4383762039273315993 : True := trivial
theorem Mine.top1.tw1056549944599841650 : True := trivial
theorem Mine.top1.tw4193556857492123249 : True := trivial
theorem Mine.top1.tw9763636096227091071 : True := trivial
theorem Mine.top1.tw14680753382515914129 : True := trivial
theorem Mine.top1.tw6082846610883668567 : True := trivial
theorem Mine.top1.tw280489323667495370 : True := trivial
theorem Mine.top1.tw14578187969517840662 : True := trivial
theorem Mine.top1.tw8410087257246842887 : True := trivial
theorem Mine.top1.tw17522676848665438202 : True := trivial
theorem Mine.top1.tw11150489088969987109 : True := trivial
theorem Mine.top1.tw11675393125370880239 : True := trivial
theorem Mine.top1.tw15057130434861072528 : True := trivial
theorem Mine.top1.tw11950029024880645565 : True := trivial
theorem Mine.top1.tw862867067957165408 : True := trivial
theorem Mine.top1.tw1772138456419960310 : True := trivial
theorem Mine.top1.tw4887518946558911838 : True := trivial
theorem Mine.top1.tw12630823027326099008 : True := trivial
theorem Mine.top1.tw10537568683078043280 : True := trivial
theorem Mine.top1.tw16835290347038022307 : True := trivial
theorem Mine.top1.tw2658978806080187013 : True := trivial
theorem Mine.top1.tw1265673365699986274 : True := trivial
theorem Mine.top1.tw9273240130203741827 : True := trivial
theorem Mine.top1.tw10498866376731378572 : True := trivial
theorem Mine.top1.tw1425414144346600908 : True := trivial
theorem Mine.top1.tw481051450880502897 : True := trivial
theorem Mine.top1.tw1406817887928101008 : True := trivial
theorem Mine.top1.tw2712546794784088295 : True := trivial
theorem Mine.top1.tw10766928794653845545 : True := trivial
theorem Mine.top1.tw7609355495961021709 : True := trivial
theorem Mine.top1.tw1949678389396582706 : True := trivial
theorem Mine.top1.tw10008824820465131200 : True := trivial
theorem Mine.top1.tw7194453711550119486 : True := trivial
theorem Mine.top1.tw9574920579236212938 : True := trivial
theorem Mine.top1.tw15476494813319247234 : True := trivial
theorem Mine.top1.tw12662999311929637636 : True := trivial
theorem Mine.top1.tw2368543782634303950 : True := trivial
theorem Mine.top1.tw12620648497852332838 : True := trivial
theorem Mine.top1.tw17421694519678395491 : True := trivial
theorem Mine.top1.tw1535243268116317762 : True := trivial
theorem Mine.top1.tw1169678234684794447 : True := trivial
theorem Mine.top1.tw17228554109709617997 : True := trivial
theorem Mine.top1.tw6361359952921601543 : True := trivial
theorem Mine.top1.tw8742109368016953322 : True := trivial
theorem Mine.top1.tw6063149480969464341 : True := trivial
theorem Mine.top1.tw10326662274551192500 : True := trivial
theorem Mine.top1.tw3745259447203135796 : True := trivial
theorem Mine.top1.tw3222865632903434815 : True := trivial
theorem Mine.top1.tw12148970760559094713 : True := trivial
theorem Mine.top1.tw1809089041662435461 : True := trivial
theorem Mine.top1.tw13220533542109700095 : True := trivial
theorem Mine.top1.tw2227674832400910571 : True := trivial
theorem Mine.top1.tw9488860707311262332 : True := trivial
theorem Mine.top1.tw815999409275420736 : True := trivial
theorem Mine.top1.tw3301429437825911197 : True := trivial
theorem Mine.top1.tw3920701690754588874 : True := trivial
theorem Mine.top1.tw2106261695288734169 : True := trivial
theorem Mine.top1.tw6599718843894245546 : True := trivial
theorem Mine.top1.tw11302252306892002215 : True := trivial
theorem Mine.top1.tw15913981115463661456 : True := trivial
theorem Mine.top1.tw4685929188231828686 : True := trivial
theorem Mine.top1.tw16790315268475894625 : True := trivial
theorem Mine.top1.tw116044887402952499 : True := trivial
theorem Mine.top1.tw3383294970884236531 : True := trivial
theorem Mine.top1.tw8973886686136604950 : True := trivial
theorem Mine.top1.tw7344332179056069262 : True := trivial
theorem Mine.top1.tw10381770956419057240 : True := trivial
theorem Mine.top1.tw1383042047817695228 : True := trivial
theorem Mine.top1.tw12653707638379793073 : True := trivial
theorem Mine.top1.tw7790508047922742067 : True := trivial
theorem Mine.top1.tw7262891366666531287 : True := trivial
theorem Mine.top1.tw14368904196436359293 : True := trivial
theorem Mine.top1.tw12309046325656403150 : True := trivial
theorem Mine.top1.tw10960308025627580412 : True := trivial
theorem Mine.top1.tw13911228642532320644 : True := trivial
theorem Mine.top1.tw3009850882252447384 : True := trivial
theorem Mine.top1.tw3951314698853876989 : True := trivial
theorem Mine.top1.tw15880641798515482575 : True := trivial
theorem Mine.top1.tw18133137702481153643 : True := trivial
theorem Mine.top1.tw7635755085284568194 : True := trivial
theorem Mine.top1.tw7152967468909197555 : True := trivial
theorem Mine.top1.tw14673687361788609517 : True := trivial
theorem Mine.top1.tw8125232811921265483 : True := trivial
theorem Mine.top1.tw7596168032802725240 : True := trivial
theorem Mine.top1.tw14382023541826727697 : True := trivial
theorem Mine.top1.tw9932193554194425679 : True := trivial
theorem Mine.top1.tw4193365988018813803 : True := trivial
theorem Mine.top1.tw12035756076826404563 : True := trivial
theorem Mine.top1.tw7142164625937690179 : True := trivial
theorem Mine.top1.tw11818999926253631592 : True := trivial
theorem Mine.top1.tw6439632641664971505 : True := trivial
theorem Mine.top1.tw6570650169102122623 : True := trivial
theorem Mine.top1.tw1633865208285732723 : True := trivial
theorem Mine.top1.tw4450473038861015700 : True := trivial
theorem Mine.top1.tw16434303315355439490 : True := trivial
theorem Mine.top1.tw8679452740853740582 : True := trivial
theorem Mine.top1.tw15175408598102890304 : True := trivial
theorem Mine.top1.tw10186393163014150177 : True := trivial
theorem Mine.top1.tw11586396832124976526 : True := trivial
theorem Mine.top1.tw3150628699345664427 : True := trivial
theorem Mine.top1.tw17971572390698877647 : True := trivial
theorem Mine.top1.tw9072376267980938637 : True := trivial
theorem Mine.top1.tw410338389528751399 : True := trivial
theorem Mine.top1.tw8406666252246614713 : True := trivial
theorem Mine.top1.tw16680231006721796977 : True := trivial
theorem Mine.top1.tw2443308718500987125 : True := trivial
theorem Mine.top1.tw966380519919209447 : True := trivial
theorem Mine.top1.tw3159056286710982416 : True := trivial
theorem Mine.top1.tw14535008353553819008 : True := trivial
theorem Mine.top1.tw1128498357424604084 : True := trivial
theorem Mine.top1.tw18420138719574258448 : True := trivial
theorem Mine.top1.tw2448863753688722353 : True := trivial
theorem Mine.top1.tw3210576582254515599 : True := trivial
theorem Mine.top1.tw8398583188721896018 : True := trivial
theorem Mine.top1.tw5887713340675928430 : True := trivial
theorem Mine.top1.tw2610003117808801464 : True := trivial
theorem Mine.top1.tw8973200817086212334 : True := trivial
theorem Mine.top1.tw1301322448605791900 : True := trivial
theorem Mine.top1.tw12301275786459194882 : True := trivial
theorem Mine.top1.tw3032673017975582812 : True := trivial
theorem Mine.top1.tw12967639657857553786 : True := trivial
theorem Mine.top1.tw1700910883464141263 : True := trivial
theorem Mine.top1.tw14244228990843685248 : True := trivial
theorem Mine.top1.tw17794886210248293080 : True := trivial
theorem Mine.top1.tw13289873922490458655 : True := trivial
theorem Mine.top1.tw13037443348665775352 : True := trivial
theorem Mine.top1.tw6527480959439238548 : True := trivial
theorem Mine.top1.tw12273464254123054824 : True := trivial
theorem Mine.top1.tw3272867896900858407 : True := trivial
theorem Mine.top1.tw18019879765911403258 : True := trivial
theorem Mine.top1.tw6854030609696079794 : True := trivial
theorem Mine.top1.tw18260484194296815899 : True := trivial
theorem Mine.top1.tw4216852670449365132 : True := trivial
theorem Mine.top1.tw15812206688398176356 : True := trivial
theorem Mine.top1.tw8862000752654115883 : True := trivial
theorem Mine.top1.tw16422548113237349379 : True := trivial
theorem Mine.top1.tw339340901841932062 : True := trivial
theorem Mine.top1.tw17731274002724356753 : True := trivial
theorem Mine.top1.tw9510279559633706792 : True := trivial
theorem Mine.top1.tw16191215163664831884 : True := trivial
theorem Mine.top1.tw10479040291780901742 : True := trivial
theorem Mine.top1.tw11903020727312303197 : True := trivial
theorem Mine.top1.tw13934338647323092274 : True := trivial
theorem Mine.top1.tw4697320442283847016 : True := trivial
theorem Mine.top1.tw6057932148733180844 : True := trivial
theorem Mine.top1.tw9358200241827787863 : True := trivial
theorem Mine.top1.tw5021813341807615918 : True := trivial
theorem Mine.top1.tw3068380596253263221 : True := trivial
theorem Mine.top1.tw632567623303635035 : True := trivial
theorem Mine.top1.tw17408939716024905846 : True := trivial
theorem Mine.top1.tw6401592764639670286 : True := trivial
theorem Mine.top1.tw15299019653745309603 : True := trivial
theorem Mine.top1.tw6955663815136585398 : True := trivial
theorem Mine.top1.tw7813429242694910172 : True := trivial
theorem Mine.top1.tw10962525563539489006 : True := trivial
theorem Mine.top1.tw18371210404685420421 : True := trivial
theorem Mine.top1.tw1718327428650306382 : True := trivial
theorem Mine.top1.tw7937051146927982277 : True := trivial
theorem Mine.top1.tw283680969644715636 : True := trivial
theorem Mine.top1.tw18237708074824786584 : True := trivial
theorem Mine.top1.tw13649350304285916970 : True := trivial
theorem Mine.top1.tw12988482760172557424 : True := trivial
theorem Mine.top1.tw7480051908929919308 : True := trivial
theorem Mine.top1.tw1931965803714341786 : True := trivial
theorem Mine.top1.tw7711162600491812996 : True := trivial
theorem Mine.top1.tw12552865190636441875 : True := trivial
theorem Mine.top1.tw17658554183495837230 : True := trivial
theorem Mine.top1.tw294319338332141292 : True := trivial
theorem Mine.top1.tw217585298957096949 : True := trivial
theorem Mine.top1.tw727719775065367188 : True := trivial
theorem Mine.top1.tw555882171755954295 : True := trivial
theorem Mine.top1.tw13978118392129468399 : True := trivial
theorem Mine.top1.tw5941783539464002414 : True := trivial
theorem Mine.top1.tw8191552058525821227 : True := trivial
theorem Mine.top1.tw3786846156012334339 : True := trivial
theorem Mine.top1.tw10841677446220657729 : True := trivial
theorem Mine.top1.tw8021500286477245648 : True := trivial
theorem Mine.top1.tw5692087953029531646 : True := trivial
theorem Mine.top1.tw626623352000429978 : True := trivial
theorem Mine.top1.tw8664494353993113176 : True := trivial
theorem Mine.top1.tw12784054746877149572 : True := trivial
theorem Mine.top1.tw634288965976927507 : True := trivial
theorem Mine.top1.tw14349193909760130265 : True := trivial
theorem Mine.top1.tw12896586994011239667 : True := trivial
theorem Mine.top1.tw4515423081112304745 : True := trivial
theorem Mine.top1.tw15866984035526100683 : True := trivial
theorem Mine.top1.tw9058425948719855595 : True := trivial
theorem Mine.top1.tw5560947358814250894 : True := trivial
theorem Mine.top1.tw2766990920398540281 : True := trivial
theorem Mine.top1.tw14468838555035710782 : True := trivial
theorem Mine.top1.tw5821620269549542158 : True := trivial
theorem Mine.top1.tw3223744819426544533 : True := trivial
theorem Mine.top1.tw15791252848060091919 : True := trivial
theorem Mine.top1.tw7632902821153539623 : True := trivial
theorem Mine.top1.tw17003758305832049596 : True := trivial
theorem Mine.top1.tw13730254940502356394 : True := trivial
theorem Mine.top1.tw7856293311482469863 : True := trivial
theorem Mine.top1.tw6649132001961000924 : True := trivial
theorem Mine.top1.tw8766057038775075044 : True := trivial
theorem Mine.top1.tw2148896336316437425 : True := trivial
theorem Mine.top1.tw3915578972256513944 : True := trivial
theorem Mine.top1.tw8080741489605525010 : True := trivial
theorem Mine.top1.tw8126707826810963566 : True := trivial
theorem Mine.top1.tw16791234206120905814 : True := trivial
theorem Mine.top1.tw11697259737247438586 : True := trivial
theorem Mine.top1.tw10056995364092459048 : True := trivial
theorem Mine.top1.tw7298073536052684223 : True := trivial
theorem Mine.top1.tw12520642389452188564 : True := trivial
theorem Mine.top1.tw10101384819349272474 : True := trivial
theorem Mine.top1.tw15252186764812467734 : True := trivial
theorem Mine.top1.tw11748204964747931956 : True := trivial
theorem Mine.top1.tw16306818551201706252 : True := trivial
theorem Mine.top1.tw6621189899827215043 : True := trivial
theorem Mine.top1.tw6867215092633107020 : True := trivial
theorem Mine.top1.tw17739641061302301058 : True := trivial
theorem Mine.top1.tw17141683714613940079 : True := trivial
theorem Mine.top1.tw14135998216514754017 : True := trivial
theorem Mine.top1.tw9626256806422209171 : True := trivial
theorem Mine.top1.tw3050217893089418244 : True := trivial
theorem Mine.top1.tw18340939671221064661 : True := trivial
theorem Mine.top1.tw18163643150735137978 : True := trivial
theorem Mine.top1.tw7390787912731547058 : True := trivial
theorem Mine.top1.tw16530058362945072946 : True := trivial
theorem Mine.top1.tw14238046091764354042 : True := trivial
theorem Mine.top1.tw7727087648092290188 : True := trivial
theorem Mine.top1.tw6389095564900148689 : True := trivial
theorem Mine.top1.tw8158102894989175782 : True := trivial
theorem Mine.top1.tw16269532071770707633 : True := trivial
theorem Mine.top1.tw1798095387394565819 : True := trivial
theorem Mine.top1.tw1317074852390023596 : True := trivial
theorem Mine.top1.tw1474142006552226112 : True := trivial
theorem Mine.top1.tw12392297534191694378 : True := trivial
theorem Mine.top1.tw15819171653495742896 : True := trivial
theorem Mine.top1.tw6193308906517037580 : True := trivial
theorem Mine.top1.tw11051021892947260163 : True := trivial
theorem Mine.top1.tw3059357264943012945 : True := trivial
theorem Mine.top1.tw4676347367150618544 : True := trivial
theorem Mine.top1.tw11356116883681361649 : True := trivial
theorem Mine.top1.tw326919346888314524 : True := trivial
theorem Mine.top1.tw16043459930371011828 : True := trivial
theorem Mine.top1.tw12904678226731806252 : True := trivial
theorem Mine.top1.tw15753343918798937873 : True := trivial
theorem Mine.top1.tw8101831002861050605 : True := trivial
theorem Mine.top1.tw16446469662586081209 : True := trivial
theorem Mine.top1.tw5640810918727441208 : True := trivial
theorem Mine.top1.tw254591682870127637 : True := trivial
theorem Mine.top1.tw6372569533472969628 : True := trivial
theorem Mine.top1.tw4968715850928178283 : True := trivial
theorem Mine.top1.tw455352727326989993 : True := trivial
theorem Mine.top1.tw16069926179808559275 : True := trivial
theorem Mine.top1.tw17769809344649383659 : True := trivial
theorem Mine.top1.tw11580343481254911562 : True := trivial
theorem Mine.top1.tw10090092263453760773 : True := trivial
theorem Mine.top1.tw15349225128568122486 : True := trivial
theorem Mine.top1.tw542488261208609643 : True := trivial
theorem Mine.top1.tw998233357828166255 : True := trivial
theorem Mine.top1.tw13902758523160243458 : True := trivial
theorem Mine.top1.tw5727949233620589102 : True := trivial
theorem Mine.top1.tw11338545601192787065 : True := trivial
theorem Mine.top1.tw12820836811124182085 : True := trivial
theorem Mine.top1.tw7469391534980330739 : True := trivial
theorem Mine.top1.tw7363779095775501253 : True := trivial
theorem Mine.top1.tw9504862346481921809 : True := trivial
theorem Mine.top1.tw2933421227418266944 : True := trivial
theorem Mine.top1.tw6888162387495598334 : True := trivial
theorem Mine.top1.tw14984547265146175764 : True := trivial
theorem Mine.top1.tw15573514653355661432 : True := trivial
theorem Mine.top1.tw12198007577534530696 : True := trivial
theorem Mine.top1.tw3525870785011427278 : True := trivial
theorem Mine.top1.tw7279098682899296619 : True := trivial
theorem Mine.top1.tw6099046351740831708 : True := trivial
theorem Mine.top1.tw13761072587247207119 : True := trivial
theorem Mine.top1.tw11319455747262931596 : True := trivial
theorem Mine.top1.tw5176042898437153051 : True := trivial
theorem Mine.top1.tw15362942927107232312 : True := trivial
theorem Mine.top1.tw9643748411449231977 : True := trivial
theorem Mine.top1.tw4111812727712974203 : True := trivial
theorem Mine.top1.tw18267390183901925518 : True := trivial
theorem Mine.top1.tw11356494021722045462 : True := trivial
theorem Mine.top1.tw3508664918607959702 : True := trivial
theorem Mine.top1.tw335439461742496548 : True := trivial
theorem Mine.top1.tw9569828962024490872 : True := trivial
theorem Mine.top1.tw6275717588282601445 : True := trivial
theorem Mine.top1.tw14777201464218607062 : True := trivial
theorem Mine.top1.tw5381550045190540633 : True := trivial
theorem Mine.top1.tw9608124823573607779 : True := trivial
theorem Mine.top1.tw9680421185370419842 : True := trivial
theorem Mine.top1.tw10756087025538204653 : True := trivial
theorem Mine.top1.tw3048752831870080704 : True := trivial
theorem Mine.top1.tw16398105765716115325 : True := trivial
theorem Mine.top1.tw14559557702753741450 : True := trivial
theorem Mine.top1.tw2901383708189862980 : True := trivial
theorem Mine.top1.tw2987025579854532892 : True := trivial
theorem Mine.top1.tw6512175303067961641 : True := trivial
theorem Mine.top1.tw13171326135753092914 : True := trivial
theorem Mine.top1.tw14549016352095119540 : True := trivial
theorem Mine.top1.tw3212222112736303615 : True := trivial
theorem Mine.top1.tw6714040920456701502 : True := trivial
theorem Mine.top1.tw10630565881992073543 : True := trivial
theorem Mine.top1 : PySem.Challenge.rw_ot0035_01.Holds := by
  w_on; o_law; k_head; (case hw => w_witness2)
  w_strict (k_go0)
  rename_i w s₀ s₁ mg mb G Y fa o pm doc kV ho hg KX X V GL T B TE TW w9 w8 M w7 w6 hcd ns hs hlay hL hr hl2 w4 w3 a vs w1 hLi ra w1' r0 hI hr' hc1 hc2 K0 hD h₁ F N0
  refine Mine.top_go (ns := ns) ?good Mine.runs rfl rfl rfl KX T K0 F rfl hLi hI (by omega) fun s' m' F' h1 h2 => ?_
  case good => exact ⟨by kernel_rfl, by kernel_rfl, by kernel_rfl, by kernel_rfl, by kernel_rfl, by kernel_rfl, by kernel_rfl, by kernel_rfl, by kernel_rfl⟩
  refine goodW_bool F' (h2.trans hg) (raisesW_false ?_) ?_ h1
  · wrow_none_raised
  · wrow_post
end
theorem PySem.Challenge.cw_ot0035_01_holds : PySem.Challenge.rw_ot0035_01.Holds := by
  exact Mine.top1
